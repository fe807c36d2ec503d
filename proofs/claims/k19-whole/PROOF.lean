import PyProof.Rows.All
import Wide.All
import OpenK.AllK
import Wide.FinOn
import HandS.ForMost
import HandS.Walk
import HandS.Zip
import HandS.Conv
import HandS.Deep
import HandS.IsInst
import HandS.TupAny
import HandS.TupMul
import HandS.SortInts
import HandS.Flow
import HandS.DictComp
import HandS.Style
import HandS.Defaults
import KE.KUnpackStar
import HandS.Slots
import HandS.Lambda
import HandS.CallLocal
import KE.SortKeyHeap
import HandS.ExcValue
import HandS.SortKw
import PyProof.TupleOfSeq
import KE.GoesEnum
import KE.GoesMore
import HandS.Set
import HandS.SetBool
import HandS.SetFor
import HandS.TupSets
import KE.KDictKeyed
import KE.KeyNested
import KE.KDictList
import PyProof.Rows.TupDisplay
import KE.SortData
import KE.DataMinMax
import HandS.Strs
import KE.KDictCopyH
import KE.DataMinKey
import HandS.WordsDict
import HandS.SortRule
import HandS.EndTab
import HandS.MakeKwOnly
import HandS.Head0
import HandS.Head1
import HandS.Head2
import HandS.HeadHook1
import HandS.HeadHook2
import HandS.HeadHook3
import HandS.HeadHook4
import HandS.HeadWalk
import KE.KNestM
import PySem.Challenge.RW_searchduel_k19_whole_for_or_against
set_option Elab.async false
set_option linter.all false
set_option maxRecDepth 100000
set_option maxHeartbeats 2000000
/-! Dz: data of any depth in a part of the heap; what an expression, a test, a walk comes to, over an environment of data. -/
namespace Dz
open PySem L2

/-! ### parts of the heap -/
theorem same_seqT {K : PySem.W.Frag} {H H' : Hp} {a : Addr} {xs : List V} (e : Same H H') (h : SqT K H a xs) : SqT K H' a xs := by
  rcases h with (h | ⟨o, h⟩) | h
  · exact .inl (.inl (e _ _ h))
  · exact .inl (.inr ⟨o, e _ _ h⟩)
  · exact .inr h
mutual
theorem dp_mono {K : PySem.W.Frag} {H H' : Hp} (e : Same H H') : ∀ (d : PyData) (v : V), Dp K H v d → Dp K H' v d
  | .none, _, h => by cases h; exact .non
  | .bool b, _, h => by cases h; exact .bl b
  | .int i, _, h => by cases h; exact .int i
  | .str x, _, h => by cases h; exact .str x
  | .list ds, _, h => by
    cases h with
    | lst hs ha => exact .lst (e.seq hs) (dpAll_mono e ds _ ha)
  | .tuple ds, _, h => by
    cases h with
    | tup hs ha => exact .tup (same_seqT e hs) (dpAll_mono e ds _ ha)
  | .dict _, _, h => by cases h
theorem dpAll_mono {K : PySem.W.Frag} {H H' : Hp} (e : Same H H') : ∀ (ds : List PyData) (vs : List V), DpAll K H vs ds → DpAll K H' vs ds
  | [], _, h => by cases h; exact .nil
  | d :: ds, _, h => by
    cases h with
    | cons h1 h2 => exact .cons (dp_mono e d _ h1) (dpAll_mono e ds _ h2)
end
theorem Dp_mono {K : PySem.W.Frag} {H H' : Hp} {v : V} {d : PyData} (h : Dp K H v d) (e : Same H H') : Dp K H' v d := dp_mono e d v h
theorem DpAll_mono {K : PySem.W.Frag} {H H' : Hp} {v : List V} {d : List PyData} (h : DpAll K H v d) (e : Same H H') : DpAll K H' v d := dpAll_mono e d v h
theorem DpAll_len {K : PySem.W.Frag} {H : Hp} : ∀ {vs : List V} {ds : List PyData}, DpAll K H vs ds → vs.length = ds.length
  | _, [], h => by cases h; rfl
  | _, d :: ds, h => by
    cases h with
    | cons h1 h2 => simp [DpAll_len h2]
theorem DpAll_get {K : PySem.W.Frag} {H : Hp} : ∀ {vs : List V} {ds : List PyData} {i : Nat} {d : PyData}, DpAll K H vs ds → ds[i]? = some d → ∃ v, vs[i]? = some v ∧ Dp K H v d
  | _, [], _, _, h, e => by simp at e
  | _, d :: ds, 0, _, h, e => by
    cases h with
    | cons h1 h2 => simp at e; subst e; exact ⟨_, rfl, h1⟩
  | _, d :: ds, i + 1, _, h, e => by
    cases h with
    | cons h1 h2 =>
      obtain ⟨v, a, b⟩ := DpAll_get (i := i) h2 (by simpa using e)
      exact ⟨v, by simpa using a, b⟩
theorem DpAll_app {K : PySem.W.Frag} {H : Hp} : ∀ {vs ws : List V} {ds es : List PyData}, DpAll K H vs ds → DpAll K H ws es → DpAll K H (vs ++ ws) (ds ++ es)
  | _, _, [], _, h, k => by cases h; exact k
  | _, _, d :: ds, _, h, k => by
    cases h with
    | cons h1 h2 => exact .cons h1 (DpAll_app h2 k)
theorem DpAll_take {K : PySem.W.Frag} {H : Hp} : ∀ {vs : List V} {ds : List PyData} (n : Nat), DpAll K H vs ds → DpAll K H (vs.take n) (ds.take n)
  | _, _, 0, _ => by simp; exact .nil
  | _, [], n + 1, h => by cases h; exact .nil
  | _, d :: ds, n + 1, h => by
    cases h with
    | cons h1 h2 => exact .cons h1 (DpAll_take n h2)
theorem DpAll_drop {K : PySem.W.Frag} {H : Hp} : ∀ {vs : List V} {ds : List PyData} (n : Nat), DpAll K H vs ds → DpAll K H (vs.drop n) (ds.drop n)
  | _, _, 0, h => by simpa using h
  | _, [], n + 1, h => by cases h; exact .nil
  | _, d :: ds, n + 1, h => by
    cases h with
    | cons h1 h2 => exact DpAll_drop n h2
theorem DpAll_set {K : PySem.W.Frag} {H : Hp} {v : V} {d : PyData} (hd : Dp K H v d) : ∀ {vs : List V} {ds : List PyData} (n : Nat), DpAll K H vs ds → DpAll K H (vs.set n v) (ds.set n d)
  | _, [], _, h => by cases h; exact .nil
  | _, _ :: ds, 0, h => by
    cases h with
    | cons h1 h2 => exact .cons hd h2
  | _, _ :: ds, n + 1, h => by
    cases h with
    | cons h1 h2 => exact .cons h1 (DpAll_set hd n h2)
theorem DpAll_erase {K : PySem.W.Frag} {H : Hp} : ∀ {vs : List V} {ds : List PyData} (n : Nat), DpAll K H vs ds → DpAll K H (vs.eraseIdx n) (ds.eraseIdx n)
  | _, [], _, h => by cases h; exact .nil
  | _, _ :: ds, 0, h => by
    cases h with
    | cons h1 h2 => exact h2
  | _, _ :: ds, n + 1, h => by
    cases h with
    | cons h1 h2 => exact .cons h1 (DpAll_erase n h2)
theorem DpAll_ints {K : PySem.W.Frag} {H : Hp} : ∀ ns : List Int, DpAll K H (ns.map V.int) (ns.map PyData.int)
  | [] => .nil
  | n :: ns => .cons (.int n) (DpAll_ints ns)
theorem ints_of {K : PySem.W.Frag} {H : Hp} : ∀ {vs : List V} {ns : List Int}, DpAll K H vs (ns.map PyData.int) → vs = ns.map V.int
  | _, [], h => by cases h; rfl
  | _, n :: ns, h => by
    cases h with
    | cons h1 h2 =>
      cases h1
      rw [ints_of (ns := ns) h2]
      rfl
theorem bools_of {K : PySem.W.Frag} {H : Hp} : ∀ {vs : List V} {ns : List Bool}, DpAll K H vs (ns.map PyData.bool) → vs = ns.map V.bl
  | _, [], h => by cases h; rfl
  | _, n :: ns, h => by
    cases h with
    | cons h1 h2 =>
      cases h1
      rw [bools_of (ns := ns) h2]
      rfl

/-- S, H ahead; S', H' behind: S grows within H', what of H lay out of S stays out of it, what is not in m stays -/
structure Grow (m : Addr → Prop) (S H S' H' : Hp) : Prop where
  s : Same S S'
  f : Same S' H'
  n : ∀ a, S a = none → H a ≠ none → S' a = none
  k : ∀ a o, ¬ m a → H a = some o → H' a = some o
  d : ∀ a, H a ≠ none → H' a ≠ none
  x : ∀ a φ, S' a = some (.ext φ) → S a = some (.ext φ)
/-- the same, S may come to know more of any kind -/
structure GrowT (m : Addr → Prop) (S H S' H' : Hp) : Prop where
  s : Same S S'
  f : Same S' H'
  n : ∀ a, S a = none → H a ≠ none → S' a = none
  k : ∀ a o, ¬ m a → H a = some o → H' a = some o
  d : ∀ a, H a ≠ none → H' a ≠ none
  t : ∀ a ps, H a = some (.tbl ps) → ∃ ps', H' a = some (.tbl ps')
theorem GrowT.mono {m m' : Addr → Prop} {S H S1 H1 : Hp} (a : GrowT m S H S1 H1) (h : ∀ x, m x → m' x) : GrowT m' S H S1 H1 := ⟨a.s, a.f, a.n, fun x u hm e => a.k x u (fun z => hm (h x z)) e, a.d, a.t⟩
def m0 : Addr → Prop := fun _ => False
theorem some_ne {α : Type} {x : Option α} {o : α} (h : x = some o) : x ≠ none := by rw [h]; exact fun z => nomatch z
theorem ne_some {α : Type} {x : Option α} (h : x ≠ none) : ∃ o, x = some o := by
  cases x with
  | none => exact absurd rfl h
  | some o => exact ⟨o, rfl⟩
section
variable {m m' : Addr → Prop} {S H S1 H1 S2 H2 : Hp} {p : Addr} {o : HO}
theorem Grow.refl (h : Same S H) : Grow m S H S H := ⟨Same.refl S, h, fun _ e _ => e, fun _ _ _ e => e, fun _ e => e, fun _ _ e => e⟩
theorem Grow.trans (a : Grow m S H S1 H1) (b : Grow m S1 H1 S2 H2) : Grow m S H S2 H2 :=
  ⟨a.s.trans b.s, b.f, fun x e q => b.n x (a.n x e q) (a.d x q), fun x u hm e => b.k x u hm (a.k x u hm e), fun x e => b.d x (a.d x e), fun x φ e => a.x x φ (b.x x φ e)⟩
theorem Grow.mono (a : Grow m S H S1 H1) (h : ∀ x, m x → m' x) : Grow m' S H S1 H1 := ⟨a.s, a.f, a.n, fun x u hm e => a.k x u (fun z => hm (h x z)) e, a.d, a.x⟩
theorem Grow.any (a : Grow m0 S H S1 H1) : Grow m S H S1 H1 := a.mono fun _ h => h.elim
theorem Grow.all (a : Grow m0 S H S1 H1) : Same H H1 := fun x u e => a.k x u (fun z => z) e
theorem same_up (h : S p = none) : Same S (upd S p o) := fun b x e => by rw [upd_ne (ne_of_none e h)]; exact e
theorem same_upup (h : Same S H) : Same (upd S p o) (upd H p o) := fun b x e => by
  by_cases hb : b = p
  · subst hb; rw [upd_same] at e ⊢; exact e
  · rw [upd_ne hb] at e ⊢; exact h b x e
theorem no_ext (ho : ∀ φ, o ≠ .ext φ) (a : Addr) (φ : Heap → Prop) (e : upd S p o a = some (.ext φ)) : S a = some (.ext φ) := by
  by_cases h : a = p
  · subst h; rw [upd_same] at e; exact absurd (Option.some.inj e) (ho φ)
  · rw [upd_ne h] at e; exact e
theorem Grow.new (h : Same S H) (hp : H p = none) (ho : ∀ φ, o ≠ .ext φ := by intro φ z; cases z) : Grow m S H (upd S p o) (upd H p o) := by
  have sp : S p = none := h.free hp
  refine ⟨same_up sp, same_upup h, fun a e q => ?_, fun a u _ e => ?_, fun a e => ?_, no_ext ho⟩
  · have : a ≠ p := fun z => by subst z; exact q hp
    rw [upd_ne this]; exact e
  · rw [upd_ne (ne_of_none e hp)]; exact e
  · obtain ⟨u, hu⟩ := ne_some e
    rw [upd_ne (ne_of_none hu hp)]; exact e
/-- a new object that stays out of the part -/
theorem Grow.out (h : Same S H) (hp : H p = none) : Grow m S H S (upd H p o) :=
  ⟨Same.refl S, fun b x e => by rw [upd_ne (ne_of_none (h b x e) hp)]; exact h b x e, fun _ e _ => e, fun a u _ e => by rw [upd_ne (ne_of_none e hp)]; exact e, fun a e => by
    obtain ⟨u, hu⟩ := ne_some e
    rw [upd_ne (ne_of_none hu hp)]; exact e, fun _ _ e => e⟩
/-- an object in m is written -/
theorem Grow.put (h : Same S H) (hp : S p = none) (hm : m p) (hx : H p ≠ none) : Grow m S H S (upd H p o) :=
  ⟨Same.refl S, fun b x e => by rw [upd_ne (ne_of_none e hp)]; exact h b x e, fun _ e _ => e, fun a u hn e => by
    have : a ≠ p := fun z => by subst z; exact hn hm
    rw [upd_ne this]; exact e, fun a e => by
    by_cases z : a = p
    · subst z; rw [upd_same]; exact fun q => nomatch q
    · rw [upd_ne z]; exact e, fun _ _ e => e⟩
end

/-! ### environments -/
inductive Sl where
  | no
  | dat (d : PyData)
  | own (o : Addr) (ds : List PyData)
  | val (v : V)
  | town (t : Addr) (n : Nat)
  | dct (o : Addr) (kvs : List (Key × PyData))
def Sl.adr : Sl → Option Addr
  | .own o _ => some o
  | .town t _ => some t
  | .dct o _ => some o
  | _ => none
def muts (l : List Sl) : List Addr := l.filterMap Sl.adr
def KvD (K : PySem.W.Frag) (S : Hp) : List (Key × V) → List (Key × PyData) → Prop := Paired fun w k => w.1 = k.1 ∧ Dp K S w.2 k.2
/-- the town: ints, at most n of them, one at least where n is not 0 -/
def TownAt (H : Hp) (t : Addr) (n : Nat) : Prop := ∃ ns : List Int, H t = some (.lst (ns.map V.int)) ∧ ns.length ≤ n ∧ (0 < n → ns ≠ [])
def SlOk (K : PySem.W.Frag) (H0 S H : Hp) : Sl → Option V → Prop
  | .no, _ => True
  | .dat d, x => ∃ v, x = some v ∧ Dp K S v d
  | .own o ds, x => x = some (.ref o) ∧ H0 o = none ∧ S o = none ∧ ∃ xs, H o = some (.lst xs) ∧ DpAll K S xs ds
  | .val v, x => x = some v
  | .town t n, x => x = some (.ref t) ∧ S t = none ∧ TownAt H t n
  | .dct o kvs, x => x = some (.ref o) ∧ H0 o = none ∧ S o = none ∧ ∃ ws, H o = some (.dK ws) ∧ KvD K S ws kvs
structure Env (K : PySem.W.Frag) (H0 S H : Hp) (s : L2.St) (l : List Sl) : Prop where
  len : s.length = l.length
  ok : ∀ (i : Nat) (x : Sl), l[i]? = some x → ∃ v, s[i]? = some v ∧ SlOk K H0 S H x v
  nd : (muts l).Nodup
section
variable {K : PySem.W.Frag} {m : Addr → Prop} {H0 S H S1 H1 S2 H2 : Hp} {p : Addr} {o : HO} {s : L2.St} {l l' : List Sl} {i : Nat} {x y : Sl} {v : Option V}
theorem KvD.mono {ws : List (Key × V)} {kvs : List (Key × PyData)} (h : KvD K S ws kvs) (e : Same S S1) : KvD K S1 ws kvs := Paired.mapP h fun _ _ q => ⟨q.1, Dp_mono q.2 e⟩
theorem SlOk.go (h : SlOk K H0 S H x v) (hs : Same S S1) (hn : ∀ a, S a = none → H a ≠ none → S1 a = none) (hk : ∀ a u, x.adr = some a → H a = some u → H1 a = some u) : SlOk K H0 S1 H1 x v := by
  cases x with
  | no => trivial
  | dat d => obtain ⟨w, e, q⟩ := h; exact ⟨w, e, Dp_mono q hs⟩
  | own o ds =>
    obtain ⟨e, f, g, xs, a, b⟩ := h
    exact ⟨e, f, hn o g (some_ne a), xs, hk o _ rfl a, DpAll_mono b hs⟩
  | val w => exact h
  | town t n => obtain ⟨e, g, ns, a, b⟩ := h; exact ⟨e, hn t g (some_ne a), ns, hk t _ rfl a, b⟩
  | dct o kvs =>
    obtain ⟨e, f, g, ws, a, b⟩ := h
    exact ⟨e, f, hn o g (some_ne a), ws, hk o _ rfl a, b.mono hs⟩
theorem SlOk.there (h : SlOk K H0 S H x v) {a : Addr} (e : x.adr = some a) : H a ≠ none ∧ S a = none := by
  cases x with
  | no => cases e
  | dat d => cases e
  | own o ds => cases e; obtain ⟨_, _, g, xs, q, _⟩ := h; exact ⟨some_ne q, g⟩
  | val w => cases e
  | town t n => cases e; obtain ⟨_, g, xs, q, _⟩ := h; exact ⟨some_ne q, g⟩
  | dct o kvs => cases e; obtain ⟨_, _, g, xs, q, _⟩ := h; exact ⟨some_ne q, g⟩
theorem mem_muts {a : Addr} : a ∈ muts l ↔ ∃ (j : Nat) (z : Sl), l[j]? = some z ∧ z.adr = some a := by
  unfold muts
  rw [List.mem_filterMap]
  constructor
  · rintro ⟨z, hz, e⟩
    obtain ⟨j, hj⟩ := List.mem_iff_getElem?.mp hz
    exact ⟨j, z, hj, e⟩
  · rintro ⟨j, z, hj, e⟩
    exact ⟨z, List.mem_iff_getElem?.mpr ⟨j, hj⟩, e⟩
theorem Env.there (h : Env K H0 S H s l) {a : Addr} (e : a ∈ muts l) : H a ≠ none ∧ S a = none := by
  obtain ⟨j, z, hj, q⟩ := mem_muts.mp e
  obtain ⟨w, _, k⟩ := h.ok j z hj
  exact k.there q
theorem Env.go (h : Env K H0 S H s l) (hs : Same S S1) (hn : ∀ a, S a = none → H a ≠ none → S1 a = none) (hk : ∀ a u, a ∈ muts l → H a = some u → H1 a = some u) : Env K H0 S1 H1 s l :=
  ⟨h.len, fun i x e => by
    obtain ⟨w, a, b⟩ := h.ok i x e
    exact ⟨w, a, b.go hs hn fun c u q => hk c u (mem_muts.mpr ⟨i, x, e, q⟩)⟩, h.nd⟩
theorem Env.grow (h : Env K H0 S H s l) (g : Grow m0 S H S1 H1) : Env K H0 S1 H1 s l := h.go g.s g.n fun a u _ => g.k a u (fun z => z)
theorem nodup_eq {α : Type} {ys : List Addr} {f : α → Option Addr} : ∀ {zs : List α}, (zs.filterMap f).Nodup → ∀ {i j : Nat} {x y : α} {a : Addr}, zs[i]? = some x → zs[j]? = some y → f x = some a → f y = some a → i = j
  | [], _, i, j, x, y, a, h, _, _, _ => by simp at h
  | z :: zs, hn, i, j, x, y, a, h1, h2, e1, e2 => by
    cases i with
    | zero =>
      cases j with
      | zero => rfl
      | succ j =>
        simp at h1 h2
        subst h1
        rw [List.filterMap_cons, e1] at hn
        have : a ∈ zs.filterMap f := List.mem_filterMap.mpr ⟨y, List.mem_of_getElem? h2, e2⟩
        exact absurd this (List.nodup_cons.mp hn).1
    | succ i =>
      cases j with
      | zero =>
        simp at h1 h2
        subst h2
        rw [List.filterMap_cons, e2] at hn
        have : a ∈ zs.filterMap f := List.mem_filterMap.mpr ⟨x, List.mem_of_getElem? h1, e1⟩
        exact absurd this (List.nodup_cons.mp hn).1
      | succ j =>
        simp at h1 h2
        have hn' : (zs.filterMap f).Nodup := by
          rw [List.filterMap_cons] at hn
          split at hn
          · exact hn
          · exact (List.nodup_cons.mp hn).2
        rw [nodup_eq (ys := ys) hn' h1 h2 e1 e2]
theorem muts_set_sub : ∀ (l : List Sl) (i : Nat) (y : Sl), y.adr = none → (muts (l.set i y)).Sublist (muts l)
  | [], _, _, _ => List.Sublist.refl _
  | z :: l, 0, y, h => by
    show (List.filterMap Sl.adr (y :: l)).Sublist (List.filterMap Sl.adr (z :: l))
    rw [List.filterMap_cons, h, List.filterMap_cons]
    show (List.filterMap Sl.adr l).Sublist _
    cases z.adr with
    | none => exact List.Sublist.refl _
    | some b => exact List.sublist_cons_self _ _
  | z :: l, i + 1, y, h => by
    show (List.filterMap Sl.adr (z :: l.set i y)).Sublist (List.filterMap Sl.adr (z :: l))
    rw [List.filterMap_cons, List.filterMap_cons]
    have ih := muts_set_sub l i y h
    split
    · exact ih
    · exact ih.cons₂ _
theorem muts_set_same : ∀ (l : List Sl) (i : Nat) (x y : Sl), l[i]? = some x → y.adr = x.adr → muts (l.set i y) = muts l
  | [], _, _, _, h, _ => by simp at h
  | z :: l, 0, x, y, h, e => by
    simp at h
    subst h
    show List.filterMap Sl.adr (y :: l) = List.filterMap Sl.adr (z :: l)
    rw [List.filterMap_cons, List.filterMap_cons, e]
  | z :: l, i + 1, x, y, h, e => by
    simp at h
    show List.filterMap Sl.adr (z :: l.set i y) = List.filterMap Sl.adr (z :: l)
    rw [List.filterMap_cons, List.filterMap_cons]
    have ih : List.filterMap Sl.adr (l.set i y) = List.filterMap Sl.adr l := muts_set_same l i x y h e
    rw [ih]
theorem muts_set_new : ∀ (l : List Sl) (i : Nat) (y : Sl) (a : Addr), y.adr = some a → a ∉ muts l → (muts l).Nodup → (muts (l.set i y)).Nodup
  | [], _, _, _, _, _, h => h
  | z :: l, 0, y, a, e, hn, h => by
    show (List.filterMap Sl.adr (y :: l)).Nodup
    rw [List.filterMap_cons, e]
    have h' : (List.filterMap Sl.adr (z :: l)).Nodup := h
    have hn' : a ∉ List.filterMap Sl.adr (z :: l) := hn
    rw [List.filterMap_cons] at h' hn'
    split at h'
    · rename_i hz
      rw [hz] at hn'
      exact List.nodup_cons.mpr ⟨hn', h'⟩
    · rename_i b hz
      rw [hz] at hn'
      exact List.nodup_cons.mpr ⟨fun q => hn' (List.mem_cons_of_mem _ q), (List.nodup_cons.mp h').2⟩
  | z :: l, i + 1, y, a, e, hn, h => by
    show (List.filterMap Sl.adr (z :: l.set i y)).Nodup
    have h' : (List.filterMap Sl.adr (z :: l)).Nodup := h
    have hn' : a ∉ List.filterMap Sl.adr (z :: l) := hn
    rw [List.filterMap_cons] at h' hn' ⊢
    split at h'
    · rename_i hz
      rw [hz] at hn'
      exact muts_set_new l i y a e hn' h'
    · rename_i b hz
      rw [hz] at hn'
      have ih : (muts (l.set i y)).Nodup := muts_set_new l i y a e (fun q => hn' (List.mem_cons_of_mem _ q)) (List.nodup_cons.mp h').2
      refine List.nodup_cons.mpr ⟨fun q => ?_, ih⟩
      obtain ⟨j, w, hj, hw⟩ := mem_muts.mp (show b ∈ muts (l.set i y) from q)
      rw [List.getElem?_set] at hj
      split at hj
      · split at hj
        · cases hj
          rw [e] at hw
          cases hw
          exact hn' List.mem_cons_self
        · cases hj
      · exact (List.nodup_cons.mp h').1 (mem_muts.mpr ⟨j, w, hj, hw⟩)
/-- a slot gets a datum, a value, nothing -/
theorem Env.set (h : Env K H0 S H s l) {w : Option V} (hy : y.adr = none) (ok : SlOk K H0 S H y w) : Env K H0 S H (s.set i w) (l.set i y) :=
  ⟨by rw [List.length_set, List.length_set]; exact h.len, fun j z e => by
    by_cases hij : i = j
    · subst hij
      have hl : i < l.length := by
        have := (List.getElem?_eq_some_iff.mp e).1
        rwa [List.length_set] at this
      rw [List.getElem?_set_self hl] at e
      cases e
      exact ⟨w, List.getElem?_set_self (by rw [h.len]; exact hl), ok⟩
    · rw [List.getElem?_set_ne hij] at e ⊢
      exact h.ok j z e, (muts_set_sub l i y hy).nodup h.nd⟩
theorem Env.dat (h : Env K H0 S H s l) {w : V} {d : PyData} (q : Dp K S w d) : Env K H0 S H (s.set i (some w)) (l.set i (.dat d)) := h.set rfl ⟨w, rfl, q⟩
theorem Env.val (h : Env K H0 S H s l) {w : V} : Env K H0 S H (s.set i (some w)) (l.set i (.val w)) := h.set rfl rfl
theorem Env.forget (h : Env K H0 S H s l) {w : Option V} : Env K H0 S H (s.set i w) (l.set i .no) := h.set rfl trivial
/-- a slot gets a new object of its own -/
theorem Env.fresh (h : Env K H0 S H s l) {w : V} {a : Addr} (hy : y.adr = some a) (ha : a ∉ muts l) (ok : SlOk K H0 S H y (some w)) : Env K H0 S H (s.set i (some w)) (l.set i y) :=
  ⟨by rw [List.length_set, List.length_set]; exact h.len, fun j z e => by
    by_cases hij : i = j
    · subst hij
      have hl : i < l.length := by
        have := (List.getElem?_eq_some_iff.mp e).1
        rwa [List.length_set] at this
      rw [List.getElem?_set_self hl] at e
      cases e
      exact ⟨some w, List.getElem?_set_self (by rw [h.len]; exact hl), ok⟩
    · rw [List.getElem?_set_ne hij] at e ⊢
      exact h.ok j z e, muts_set_new l i y a hy ha h.nd⟩
/-- the object of a slot is changed -/
theorem Env.put (h : Env K H0 S H s l) {a : Addr} (hi : l[i]? = some x) (hx : x.adr = some a) (hy : y.adr = some a) (hs : Same S S1) (hn : ∀ b, S b = none → H b ≠ none → S1 b = none) (hk : ∀ b u, b ≠ a → H b = some u → H1 b = some u)
    (ok : ∀ v, SlOk K H0 S H x v → SlOk K H0 S1 H1 y v) : Env K H0 S1 H1 s (l.set i y) :=
  ⟨by rw [List.length_set]; exact h.len, fun j z e => by
    by_cases hij : i = j
    · subst hij
      have hl : i < l.length := (List.getElem?_eq_some_iff.mp hi).1
      rw [List.getElem?_set_self hl] at e
      cases e
      obtain ⟨v, q, r⟩ := h.ok i x hi
      exact ⟨v, q, ok v r⟩
    · rw [List.getElem?_set_ne hij] at e
      obtain ⟨v, q, r⟩ := h.ok j z e
      refine ⟨v, q, r.go hs hn fun b u hb => hk b u fun hba => ?_⟩
      subst hba
      exact hij (nodup_eq (ys := []) h.nd hi e hx hb), by rw [muts_set_same l i x y hi (hy.trans hx.symm)]; exact h.nd⟩
end
end Dz

namespace Dz
open PySem L2

/-! ### what comes to what, over an environment of data -/
def rLenK (K : PySem.W.Frag) : List V → Hp → VK → Prop := fun xs H Q => ∃ p ys, xs = [.ref p] ∧ (SqL K H p ys ∨ SqT K H p ys) ∧ Q (.int ys.length) H
def rListK (K : PySem.W.Frag) : List V → Hp → VK → Prop := fun xs H Q => ∃ p ys, xs = [.ref p] ∧ (SqL K H p ys ∨ SqT K H p ys) ∧ ∀ l, H l = none → Q (.ref l) (upd H l (.lst ys))
def rTupleK (K : PySem.W.Frag) : List V → Hp → VK → Prop := fun xs H Q => ∃ p ys, xs = [.ref p] ∧ ((SqL K H p ys ∧ ∀ l, H l = none → Q (.ref l) (upd H l (.tup ys))) ∨ (SqT K H p ys ∧ Q (.ref p) H))
def Ev (K : PySem.W.Frag) (te : TE) (l : List Sl) (d : PyData) : Prop := ∀ H0 S H s, Env K H0 S H s l → Same S H → ∀ Q : VK, (∀ v S' H', Grow m0 S H S' H' → Dp K S' v d → Q v H') → te s H Q
def EvT (K : PySem.W.Frag) (tt : TT) (l : List Sl) (b : Bool) : Prop := ∀ H0 S H s, Env K H0 S H s l → Same S H → ∀ Q : Bool → Hp → Prop, (∀ S' H', Grow m0 S H S' H' → Q b H') → tt s H Q
def EvA (K : PySem.W.Frag) (ta : TA) (l : List Sl) (ds : List PyData) : Prop := ∀ H0 S H s, Env K H0 S H s l → Same S H → ∀ Q : List V → Hp → Prop, (∀ vs S' H', Grow m0 S H S' H' → DpAll K S' vs ds → Q vs H') → ta s H Q
def EvO (K : PySem.W.Frag) (to : TO) (l : List Sl) (o : Option Int) : Prop := ∀ H0 S H s, Env K H0 S H s l → Same S H → ∀ Q : Option Int → Hp → Prop, (∀ S' H', Grow m0 S H S' H' → Q o H') → to s H Q
def RD (K : PySem.W.Frag) (r : R2) (a b c : PyData) : Prop := ∀ x y S H (Q : VK), Same S H → Dp K S x a → Dp K S y b → (∀ v S' H', Grow m0 S H S' H' → Dp K S' v c → Q v H') → r x y H Q
def RUD (K : PySem.W.Frag) (r : V → Hp → VK → Prop) (a c : PyData) : Prop := ∀ x S H (Q : VK), Same S H → Dp K S x a → (∀ v S' H', Grow m0 S H S' H' → Dp K S' v c → Q v H') → r x H Q
def RCD (K : PySem.W.Frag) (r : List V → Hp → VK → Prop) (as : List PyData) (c : PyData) : Prop := ∀ vs S H (Q : VK), Same S H → DpAll K S vs as → (∀ v S' H', Grow m0 S H S' H' → Dp K S' v c → Q v H') → r vs H Q
section
variable {K : PySem.W.Frag} {l : List Sl} {ta tb te : TE} {t u : TT} {a b c d : PyData} {r : R2}
theorem szl {n : Nat} (h : n ≤ 4000000) : n ≤ sizeLine := Nat.le_trans h (by decide)
theorem szt {n : Nat} (h : n < 4000000) : n < sizeLine := Nat.lt_of_lt_of_le h (by decide)
/-- truth of data -/
def truD : PyData → Bool
  | .none => false
  | .bool b => b
  | .int i => i != 0
  | .str y => (y.length : Int) != 0
  | .list ds => !ds.isEmpty
  | .tuple ds => !ds.isEmpty
  | .dict _ => false
theorem isEmpty_dp {S : Hp} {vs : List V} {ds : List PyData} (h : DpAll K S vs ds) : ds.isEmpty = vs.isEmpty := by
  cases h <;> rfl
theorem truV_of {S H : Hp} {v : V} (hs : Same S H) (h : Dp K S v d) (hz : ∀ y, d = .str y → y.length ≤ 4000000) : TruV K v H (truD d) := by
  cases h with
  | non => rfl
  | bl b => rfl
  | int i => rfl
  | str x => exact ⟨szl (hz x rfl), rfl⟩
  | lst a b => exact .inl ⟨_, hs.seq a, by show (!_) = !_; rw [isEmpty_dp b]⟩
  | tup a b => exact .inr (.inl ⟨_, same_seqT hs a, by show (!_) = !_; rw [isEmpty_dp b]⟩)
/-- is None, is not None -/
def isN : PyData → Bool
  | .none => true
  | _ => false
theorem dp_isN {S : Hp} {v : V} (h : Dp K S v d) : decide (v = .non) = isN d := by
  cases h <;> simp [isN]
/-! operators on values -/
theorem rd_I0 {g : Int → Int → V} {i j : Int} (h : ∀ S, Dp K S (g i j) c) : RD K (rI0 g) (.int i) (.int j) c := fun x y S H Q hs hx hy q => by
  cases hx; cases hy
  exact ⟨i, j, rfl, rfl, q _ S H (Grow.refl hs) (h S)⟩
theorem rd_I {C : Int → Int → Prop} {g : Int → Int → V} {i j : Int} (hc : C i j) (h : ∀ S, Dp K S (g i j) c) : RD K (rI C g) (.int i) (.int j) c := fun x y S H Q hs hx hy q => by
  cases hx; cases hy
  exact ⟨i, j, rfl, rfl, hc, q _ S H (Grow.refl hs) (h S)⟩
theorem rud_U {g : Int → V} {i : Int} (h : ∀ S, Dp K S (g i) c) : RUD K (rU g) (.int i) c := fun x S H Q hs hx q => by
  cases hx
  exact ⟨i, rfl, q _ S H (Grow.refl hs) (h S)⟩
/-- a scalar as a value -/
def scV : PyData → Option V
  | .none => some .non
  | .bool b => some (.bl b)
  | .int i => some (.int i)
  | .str x => some (.str x)
  | _ => none
theorem scV_dp {S : Hp} {v w : V} (h : scV d = some w) (q : Dp K S v d) : v = w := by
  cases q <;> first | (cases h; rfl) | cases h
theorem rd_eq {x y : V} (h1 : scV a = some x) (h2 : scV b = some y) (h : scal x y = true) : RD K rEq a b (.bool (decide (x = y))) := fun x' y' S H Q hs hx hy q => by
  rw [scV_dp h1 hx, scV_dp h2 hy]
  exact ⟨h, q _ S H (Grow.refl hs) (.bl _)⟩
theorem rd_ne {x y : V} (h1 : scV a = some x) (h2 : scV b = some y) (h : scal x y = true) : RD K rNe a b (.bool (!decide (x = y))) := fun x' y' S H Q hs hx hy q => by
  rw [scV_dp h1 hx, scV_dp h2 hy]
  exact ⟨h, q _ S H (Grow.refl hs) (.bl _)⟩
theorem rd_eqS {i j : Str} : RD K rEq (.str i) (.str j) (.bool (decide (i = j))) := by
  have := rd_eq (K := K) (a := .str i) (b := .str j) rfl rfl rfl
  simpa using this
theorem rd_neS {i j : Str} : RD K rNe (.str i) (.str j) (.bool (!decide (i = j))) := by
  have := rd_ne (K := K) (a := .str i) (b := .str j) rfl rfl rfl
  simpa using this
theorem rd_eqIS {i : Int} {j : Str} : RD K rEq (.int i) (.str j) (.bool false) := by
  have := rd_eq (K := K) (a := .int i) (b := .str j) rfl rfl rfl
  simpa using this
theorem rd_neIS {i : Int} {j : Str} : RD K rNe (.int i) (.str j) (.bool true) := by
  have := rd_ne (K := K) (a := .int i) (b := .str j) rfl rfl rfl
  simpa using this
theorem rd_eqSI {i : Int} {j : Str} : RD K rEq (.str j) (.int i) (.bool false) := by
  have := rd_eq (K := K) (a := .str j) (b := .int i) rfl rfl rfl
  simpa using this
theorem rd_neSI {i : Int} {j : Str} : RD K rNe (.str j) (.int i) (.bool true) := by
  have := rd_ne (K := K) (a := .str j) (b := .int i) rfl rfl rfl
  simpa using this
/-- subscripts -/
theorem atI_map {S : Hp} {xs : List V} {ds : List PyData} {i : Int} (h : DpAll K S xs ds) (e : atI ds i = some d) : ∃ v, atI xs i = some v ∧ Dp K S v d := by
  unfold atI at e ⊢
  rw [DpAll_len h]
  cases hj : ixN ds.length i with
  | none => rw [hj] at e; cases e
  | some j =>
    rw [hj] at e
    exact DpAll_get h e
theorem rd_ixT {ds : List PyData} {i : Int} (e : atI ds i = some d) : RD K (rIx K) (.tuple ds) (.int i) d := fun x y S H Q hs hx hy q => by
  cases hy
  cases hx with
  | tup h1 h2 =>
    obtain ⟨v, hv, hd⟩ := atI_map h2 e
    exact .inr (.inl ⟨_, _, i, v, rfl, rfl, same_seqT hs h1, hv, q v S H (Grow.refl hs) hd⟩)
theorem rd_ixL {ds : List PyData} {i : Int} (e : atI ds i = some d) : RD K (rIx K) (.list ds) (.int i) d := fun x y S H Q hs hx hy q => by
  cases hy
  cases hx with
  | lst h1 h2 =>
    obtain ⟨v, hv, hd⟩ := atI_map h2 e
    exact .inl ⟨_, _, i, v, rfl, rfl, hs.seq h1, hv, q v S H (Grow.refl hs) hd⟩
/-- in, not in: flat items -/
def flatD : PyData → Bool
  | .none => true
  | .bool _ => true
  | .int _ => true
  | .str _ => true
  | _ => false
def eqF : PyData → PyData → Bool
  | .none, .none => true
  | .bool a, .bool b => a == b
  | .bool a, .int b => (if a then 1 else 0) == b
  | .int a, .bool b => a == (if b then 1 else 0)
  | .int a, .int b => a == b
  | .str a, .str b => a == b
  | _, _ => false
def inF (x : PyData) (xs : List PyData) : Bool := xs.any fun y => eqF y x
theorem flat_dp {S : Hp} {v : V} (h : Dp K S v d) (f : flatD d = true) : flatV v = true := by
  cases h <;> first | rfl | cases f
theorem eqF_dp {S : Hp} {v w : V} (h : Dp K S v a) (h2 : Dp K S w b) (f : flatD a = true) (f2 : flatD b = true) : eqV v w = eqF a b := by
  cases h <;> first | (cases h2 <;> first | rfl | cases f2) | cases f
theorem flats_dp {S : Hp} : ∀ {vs : List V} {ds : List PyData}, DpAll K S vs ds → ds.all flatD = true → vs.all flatV = true
  | _, [], h, _ => by cases h; rfl
  | _, d :: ds, h, f => by
    cases h with
    | cons h1 h2 =>
      rw [List.all_cons, Bool.and_eq_true] at f ⊢
      exact ⟨flat_dp h1 f.1, flats_dp h2 f.2⟩
theorem in_dp {S : Hp} {v : V} (h : Dp K S v a) (f : flatD a = true) : ∀ {vs : List V} {ds : List PyData}, DpAll K S vs ds → ds.all flatD = true → inV v vs = inF a ds
  | _, [], h2, _ => by cases h2; rfl
  | _, d :: ds, h2, f2 => by
    cases h2 with
    | cons h3 h4 =>
      rw [List.all_cons, Bool.and_eq_true] at f2
      have ih := in_dp h f h4 f2.2
      unfold inV inF at ih ⊢
      rw [List.any_cons, List.any_cons, ih, eqF_dp h3 h f2.1 f]
theorem rd_inL {neg : Bool} {ds : List PyData} (f : flatD a = true) (fs : ds.all flatD = true) : RD K (rIn K neg) a (.list ds) (.bool (if neg then !inF a ds else inF a ds)) := fun x y S H Q hs hx hy q => by
  cases hy with
  | lst h1 h2 =>
    refine ⟨_, _, rfl, .inl (hs.seq h1), flat_dp hx f, flats_dp h2 fs, ?_⟩
    rw [in_dp hx f h2 fs]
    exact q _ S H (Grow.refl hs) (.bl _)
theorem rd_inT {neg : Bool} {ds : List PyData} (f : flatD a = true) (fs : ds.all flatD = true) : RD K (rIn K neg) a (.tuple ds) (.bool (if neg then !inF a ds else inF a ds)) := fun x y S H Q hs hx hy q => by
  cases hy with
  | tup h1 h2 =>
    refine ⟨_, _, rfl, .inr (same_seqT hs h1), flat_dp hx f, flats_dp h2 fs, ?_⟩
    rw [in_dp hx f h2 fs]
    exact q _ S H (Grow.refl hs) (.bl _)
theorem flat_ints : ∀ ns : List Int, (ns.map PyData.int).all flatD = true
  | [] => rfl
  | _ :: ns => by rw [List.map_cons, List.all_cons, flat_ints ns]; rfl
theorem inF_ints {i : Int} : ∀ ns : List Int, inF (.int i) (ns.map PyData.int) = decide (i ∈ ns)
  | [] => by simp [inF]
  | n :: ns => by
    have ih := inF_ints (i := i) ns
    unfold inF at ih ⊢
    rw [List.map_cons, List.any_cons, ih]
    by_cases h : n = i
    · subst h; simp [eqF]
    · have h' : ¬ i = n := fun e => h e.symm
      simp [eqF, h, h']
/-- len -/
theorem rc_lenL {ds : List PyData} : RCD K (rLenK K) [.list ds] (.int ds.length) := fun vs S H Q hs hx q => by
  cases hx with
  | cons h1 h2 =>
    cases h2
    cases h1 with
    | lst h3 h4 => exact ⟨_, _, rfl, .inl (hs.seq h3), q _ S H (Grow.refl hs) (by rw [DpAll_len h4]; exact .int _)⟩
theorem rc_lenT {ds : List PyData} : RCD K (rLenK K) [.tuple ds] (.int ds.length) := fun vs S H Q hs hx q => by
  cases hx with
  | cons h1 h2 =>
    cases h2
    cases h1 with
    | tup h3 h4 => exact ⟨_, _, rfl, .inr (same_seqT hs h3), q _ S H (Grow.refl hs) (by rw [DpAll_len h4]; exact .int _)⟩
/-- list(x), tuple(x) -/
theorem new_lst {S H : Hp} {xs : List V} {ds : List PyData} {Q : VK} (hs : Same S H) (h : DpAll K S xs ds) (q : ∀ v S' H', Grow m0 S H S' H' → Dp K S' v (.list ds) → Q v H') : ∀ p, H p = none → Q (.ref p) (upd H p (.lst xs)) := fun p hp =>
  have g2 : Grow m0 S H (upd S p (.lst xs)) (upd H p (.lst xs)) := Grow.new hs hp
  q _ _ _ g2 (.lst (.inl (.inl upd_same)) (DpAll_mono h g2.s))
theorem new_tup {S H : Hp} {xs : List V} {ds : List PyData} {Q : VK} (hs : Same S H) (h : DpAll K S xs ds) (q : ∀ v S' H', Grow m0 S H S' H' → Dp K S' v (.tuple ds) → Q v H') : ∀ p, H p = none → Q (.ref p) (upd H p (.tup xs)) := fun p hp =>
  have g2 : Grow m0 S H (upd S p (.tup xs)) (upd H p (.tup xs)) := Grow.new hs hp
  q _ _ _ g2 (.tup (.inl (.inl upd_same)) (DpAll_mono h g2.s))
theorem rc_tupleL {ds : List PyData} : RCD K (rTupleK K) [.list ds] (.tuple ds) := fun vs S H Q hs hx q => by
  cases hx with
  | cons h1 h2 =>
    cases h2
    cases h1 with
    | lst h3 h4 => exact ⟨_, _, rfl, .inl ⟨hs.seq h3, new_tup hs h4 q⟩⟩
theorem rc_tupleT {ds : List PyData} : RCD K (rTupleK K) [.tuple ds] (.tuple ds) := fun vs S H Q hs hx q => by
  cases hx with
  | cons h1 h2 =>
    cases h2
    cases h1 with
    | tup h3 h4 => exact ⟨_, _, rfl, .inr ⟨same_seqT hs h3, q _ S H (Grow.refl hs) (.tup h3 h4)⟩⟩
/-- abs, max, min, sum, any, all, sorted -/
theorem rc_abs {i : Int} : RCD K (fun xs H Q => ∃ i, xs = [.int i] ∧ Q (.int (if i < 0 then -i else i)) H) [.int i] (.int (if i < 0 then -i else i)) := fun vs S H Q hs hx q => by
  cases hx with
  | cons h1 h2 => cases h2; cases h1; exact ⟨i, rfl, q _ S H (Grow.refl hs) (.int _)⟩
theorem rc_sum {ns : List Int} : RCD K (rSum K) [.list (ns.map .int)] (.int ns.sum) := fun vs S H Q hs hx q => by
  cases hx with
  | cons h1 h2 =>
    cases h2
    cases h1 with
    | lst h3 h4 =>
      rw [ints_of h4] at h3
      exact ⟨_, ns, rfl, hs.seq h3, q _ S H (Grow.refl hs) (.int _)⟩
/-- the greatest, the least of a row (0 of none) -/
def maxI : List Int → Int
  | [] => 0
  | [x] => x
  | x :: y :: r => max x (maxI (y :: r))
def minI : List Int → Int
  | [] => 0
  | [x] => x
  | x :: y :: r => min x (minI (y :: r))
theorem maxI_mem : ∀ {ns : List Int}, ns ≠ [] → maxI ns ∈ ns
  | [], h => absurd rfl h
  | [x], _ => by simp [maxI]
  | x :: y :: r, _ => by
    have ih : maxI (y :: r) ∈ y :: r := maxI_mem (by simp)
    unfold maxI
    rcases Int.le_total x (maxI (y :: r)) with h | h
    · rw [Int.max_eq_right h]; exact List.mem_cons_of_mem _ ih
    · rw [Int.max_eq_left h]; exact List.mem_cons_self
theorem maxI_ge : ∀ {ns : List Int} {x : Int}, x ∈ ns → x ≤ maxI ns
  | [], _, h => by simp at h
  | [y], x, h => by simp at h; subst h; simp [maxI]
  | y :: z :: r, x, h => by
    unfold maxI
    rcases List.mem_cons.mp h with h | h
    · subst h; exact Int.le_max_left _ _
    · exact Int.le_trans (maxI_ge h) (Int.le_max_right _ _)
theorem minI_mem : ∀ {ns : List Int}, ns ≠ [] → minI ns ∈ ns
  | [], h => absurd rfl h
  | [x], _ => by simp [minI]
  | x :: y :: r, _ => by
    have ih : minI (y :: r) ∈ y :: r := minI_mem (by simp)
    unfold minI
    rcases Int.le_total x (minI (y :: r)) with h | h
    · rw [Int.min_eq_left h]; exact List.mem_cons_self
    · rw [Int.min_eq_right h]; exact List.mem_cons_of_mem _ ih
theorem minI_le : ∀ {ns : List Int} {x : Int}, x ∈ ns → minI ns ≤ x
  | [], _, h => by simp at h
  | [y], x, h => by simp at h; subst h; simp [minI]
  | y :: z :: r, x, h => by
    unfold minI
    rcases List.mem_cons.mp h with h | h
    · subst h; exact Int.min_le_left _ _
    · exact Int.le_trans (Int.min_le_right _ _) (minI_le h)
theorem maxI_is {ns : List Int} {m : Int} (h : m ∈ ns) (k : ∀ y ∈ ns, y ≤ m) : maxI ns = m :=
  Int.le_antisymm (k _ (maxI_mem (List.ne_nil_of_mem h))) (maxI_ge h)
theorem minI_is {ns : List Int} {m : Int} (h : m ∈ ns) (k : ∀ y ∈ ns, m ≤ y) : minI ns = m :=
  Int.le_antisymm (minI_le h) (k _ (minI_mem (List.ne_nil_of_mem h)))
theorem rc_max {ns : List Int} (h0 : ns ≠ []) : RCD K (rMax K) [.list (ns.map .int)] (.int (maxI ns)) := fun vs S H Q hs hx q => by
  cases hx with
  | cons h1 h2 =>
    cases h2
    cases h1 with
    | lst h3 h4 =>
      rw [ints_of h4] at h3
      exact ⟨_, ns, rfl, hs.seq h3, List.length_pos_iff.mpr h0, fun m hm hk => q _ S H (Grow.refl hs) (by rw [maxI_is hm hk]; exact .int _)⟩
theorem rc_min {ns : List Int} (h0 : ns ≠ []) : RCD K (rMin K) [.list (ns.map .int)] (.int (minI ns)) := fun vs S H Q hs hx q => by
  cases hx with
  | cons h1 h2 =>
    cases h2
    cases h1 with
    | lst h3 h4 =>
      rw [ints_of h4] at h3
      exact ⟨_, ns, rfl, hs.seq h3, List.length_pos_iff.mpr h0, fun m hm hk => q _ S H (Grow.refl hs) (by rw [minI_is hm hk]; exact .int _)⟩
theorem rc_all {bs : List Bool} : RCD K (rAll K) [.list (bs.map .bool)] (.bool (bs.all id)) := fun vs S H Q hs hx q => by
  cases hx with
  | cons h1 h2 =>
    cases h2
    cases h1 with
    | lst h3 h4 =>
      rw [bools_of h4] at h3
      exact ⟨_, bs, rfl, hs.seq h3, q _ S H (Grow.refl hs) (.bl _)⟩
/-- slices -/
def cutD (xs : List PyData) (lo hi : Option Int) : List PyData := (xs.drop (HT.sIx xs.length 0 lo)).take (HT.sIx xs.length xs.length hi - HT.sIx xs.length 0 lo)
theorem cut_dp {S : Hp} {vs : List V} {ds : List PyData} (h : DpAll K S vs ds) (lo hi : Option Int) : DpAll K S (cutV vs lo hi) (cutD ds lo hi) := by
  unfold cutV cutD
  rw [DpAll_len h]
  exact DpAll_take _ (DpAll_drop _ h)
/-- a slice of a list or a tuple -/
def rSlAny (K : PySem.W.Frag) : V → Option Int → Option Int → Hp → VK → Prop := fun x lo hi H Q => rSlL K x lo hi H Q ∨ rSlA K x lo hi H Q
end
end Dz

namespace Dz
open PySem L2 RZ

/-! ### walks -/
structure WalkD (K : PySem.W.Frag) (J : It) (S : Hp) (ds : List PyData) : Prop where
  go : ∀ i H, i < ds.length → Same S H → J.go i H
  stop : ∀ H, Same S H → J.stop ds.length H
  yld : ∀ i H x H' d S2, ds[i]? = some d → Same S S2 → Same S2 H → J.yld i H x H' → ∃ S', Grow m0 S2 H S' H' ∧ Dp K S' x d
def EvI (K : PySem.W.Frag) (wi : TI) (l : List Sl) (ds : List PyData) : Prop := ∀ H0 S H s, Env K H0 S H s l → Same S H → ∀ R : It → Hp → Prop, (∀ J S' H', Grow m0 S H S' H' → WalkD K J S' ds → R J H') → wi s H R
theorem PI_or {X : Cx} {tg e : Expr} {w1 w2 : TI} (h1 : PI X tg e w1) (h2 : PI X tg e w2) : PI X tg e (fun s H R => w1 s H R ∨ w2 s H R) :=
  ⟨fun pins s σ H R I h => h.elim (fun q => h1.run pins s σ H R I q) fun q => h2.run pins s σ H R I q⟩
def iSeq (K : PySem.W.Frag) (tl : TE) : TI := fun s H R => iList K tl s H R ∨ iTup K tl s H R
theorem pi_seq {X : Cx} {tg e : Expr} {tl : TE} (h : PE X e tl) : PI X tg e (iSeq X.K tl) := PI_or (pi_list h) (pi_tup h)
section
variable {K : PySem.W.Frag} {l l' : List Sl} {ta tb te : TE} {t u : TT} {a b c d : PyData} {r : R2} {ds : List PyData}
theorem walkL {S : Hp} {p : Addr} {xs : List V} (h : SqL K S p xs) (hd : DpAll K S xs ds) : WalkD K (Itl K p) S ds := by
  have w := walk_list (K := K) (a := p) (xs := xs)
  rw [DpAll_len hd] at w
  refine ⟨fun i H hi hs => w.goes i H hi (hs.seq h), fun H hs => w.stops H (hs.seq h), fun i H x H' d S2 e s1 s2 y => ?_⟩
  have hi : i < ds.length := (List.getElem?_eq_some_iff.mp e).1
  obtain ⟨rfl, q⟩ := w.yields i H x H' hi ((s1.trans s2).seq h) y
  obtain ⟨v, hv, hdv⟩ := DpAll_get hd e
  rw [hv] at q
  cases q
  exact ⟨S2, Grow.refl s2, Dp_mono hdv s1⟩
theorem walkT {S : Hp} {p : Addr} {xs : List V} (h : SqT K S p xs) (hd : DpAll K S xs ds) : WalkD K (Itt K p) S ds := by
  have w := walk_tup (K := K) (a := p) (xs := xs)
  rw [DpAll_len hd] at w
  refine ⟨fun i H hi hs => w.goes i H hi (same_seqT hs h), fun H hs => w.stops H (same_seqT hs h), fun i H x H' d S2 e s1 s2 y => ?_⟩
  have hi : i < ds.length := (List.getElem?_eq_some_iff.mp e).1
  obtain ⟨rfl, q⟩ := w.yields i H x H' hi (same_seqT (s1.trans s2) h) y
  obtain ⟨v, hv, hdv⟩ := DpAll_get hd e
  rw [hv] at q
  cases q
  exact ⟨S2, Grow.refl s2, Dp_mono hdv s1⟩
/-- lo, lo + 1, .. : n of them -/
def rng (lo : Int) (n : Nat) : List PyData := (List.range n).map fun (i : Nat) => PyData.int (lo + (i : Int))
theorem rng_len (lo : Int) (n : Nat) : (rng lo n).length = n := by simp [rng]
theorem rng_get {lo : Int} {n i : Nat} {d : PyData} (h : (rng lo n)[i]? = some d) : i < n ∧ d = .int (lo + i) := by
  unfold rng at h
  rw [List.getElem?_map] at h
  by_cases hi : i < n
  · rw [List.getElem?_range hi] at h
    exact ⟨hi, (Option.some.inj h).symm⟩
  · rw [List.getElem?_eq_none (by simpa using hi)] at h
    cases h
theorem walkR {S : Hp} {lo : Int} {n : Nat} : WalkD K (Itr lo n) S (rng lo n) := by
  have w := walk_range (lo := lo) (n := n)
  refine ⟨fun i H hi _ => w.goes i H (by rwa [rng_len] at hi) trivial, fun H _ => by rw [rng_len]; exact w.stops H trivial, fun i H x H' d S2 e s1 s2 y => ?_⟩
  obtain ⟨hi, rfl⟩ := rng_get e
  obtain ⟨rfl, rfl⟩ := w.yields i H x H' hi trivial y
  exact ⟨S2, Grow.refl s2, .int _⟩
theorem dp_pair {S H H' : Hp} {T : Addr} {x y : V} (hs : Same S H) (hn : H T = none) (e : H' = upd H T (.tup [x, y])) (h1 : Dp K S x a) (h2 : Dp K S y b) : ∃ S', Grow m0 S H S' H' ∧ Dp K S' (.ref T) (.tuple [a, b]) := by
  subst e
  have g : Grow m0 S H (upd S T (.tup [x, y])) (upd H T (.tup [x, y])) := Grow.new hs hn
  exact ⟨_, g, .tup (.inl (.inl upd_same)) (.cons (Dp_mono h1 g.s) (.cons (Dp_mono h2 g.s) .nil))⟩
def enumD (ds : List PyData) : List PyData := (List.range ds.length).zipWith (fun i d => PyData.tuple [.int (i : Nat), d]) ds
theorem enumD_len (ds : List PyData) : (enumD ds).length = ds.length := by simp [enumD]
theorem enumD_get {i : Nat} {d : PyData} (h : (enumD ds)[i]? = some d) : ∃ e, ds[i]? = some e ∧ d = .tuple [.int (i : Nat), e] := by
  have hl := (List.getElem?_eq_some_iff.mp h).1
  rw [enumD_len] at hl
  unfold enumD at h
  rw [List.getElem?_zipWith, List.getElem?_range hl, List.getElem?_eq_getElem hl] at h
  exact ⟨ds[i], List.getElem?_eq_getElem hl, (Option.some.inj h).symm⟩
theorem walkE {S : Hp} {p : Addr} {xs : List V} (h : SqL K S p xs) (hd : DpAll K S xs ds) : WalkD K (Ite K p) S (enumD ds) := by
  have w := walk_enum (K := K) (a := p) (xs := xs)
  rw [DpAll_len hd] at w
  refine ⟨fun i H hi hs => w.goes i H (by rwa [enumD_len] at hi) (hs.seq h), fun H hs => by rw [enumD_len]; exact w.stops H (hs.seq h), fun i H x H' d S2 e s1 s2 y => ?_⟩
  obtain ⟨e', he, rfl⟩ := enumD_get e
  have hi : i < ds.length := (List.getElem?_eq_some_iff.mp he).1
  obtain ⟨T, x1, y1, rfl, hn, e2, q1, q2⟩ := w.yields i H x H' hi ((s1.trans s2).seq h) y
  obtain ⟨v, hv, hdv⟩ := DpAll_get hd he
  cases q1
  have q3 : xs[i]? = some y1 := q2
  rw [hv] at q3
  cases q3
  exact dp_pair s2 hn e2 (.int _) (Dp_mono hdv s1)
def zipD (ds es : List PyData) : List PyData := ds.zipWith (fun d e => PyData.tuple [d, e]) es
theorem zipD_get {es : List PyData} {i : Nat} {d : PyData} (h : (zipD ds es)[i]? = some d) : ∃ x y, ds[i]? = some x ∧ es[i]? = some y ∧ d = .tuple [x, y] := by
  unfold zipD at h
  rw [List.getElem?_zipWith] at h
  cases h1 : ds[i]? with
  | none => rw [h1] at h; cases h
  | some x =>
    cases h2 : es[i]? with
    | none => rw [h1, h2] at h; cases h
    | some y => rw [h1, h2] at h; exact ⟨x, y, rfl, rfl, (Option.some.inj h).symm⟩
theorem walkZT {S : Hp} {p p2 : Addr} {xs ys : List V} {es : List PyData} (h : SqT K S p xs) (hd : DpAll K S xs ds) (h' : SqT K S p2 ys) (hd' : DpAll K S ys es) : WalkD K (ItzT K p p2) S (zipD ds es) := by
  have l1 := DpAll_len hd
  have l2 := DpAll_len hd'
  have lz : (zipD ds es).length = min ds.length es.length := by simp [zipD]
  refine ⟨fun i H hi hs => ?_, fun H hs => ?_, fun i H x H' d S2 e s1 s2 y => ?_⟩
  · have h1 : i < xs.length := by omega
    have h2 : i < ys.length := by omega
    exact ⟨xs, ys, xs[i], ys[i], same_seqT hs h, same_seqT hs h', List.getElem?_eq_getElem h1, List.getElem?_eq_getElem h2⟩
  · exact ⟨xs, ys, same_seqT hs h, same_seqT hs h', by omega⟩
  · obtain ⟨a', b', ha, hb, rfl⟩ := zipD_get e
    obtain ⟨T, x1, y1, rfl, hn, e2, q1, q2⟩ := y
    obtain ⟨v, hv, hdv⟩ := DpAll_get hd ha
    obtain ⟨w, hw, hdw⟩ := DpAll_get hd' hb
    have e3 := q1 xs (same_seqT (s1.trans s2) h)
    have e4 := q2 ys (same_seqT (s1.trans s2) h')
    rw [hv] at e3
    rw [hw] at e4
    cases e3
    cases e4
    exact dp_pair s2 hn e2 (Dp_mono hdv s1) (Dp_mono hdw s1)
theorem walkZL {S : Hp} {p p2 : Addr} {xs ys : List V} {es : List PyData} (h : SqL K S p xs) (hd : DpAll K S xs ds) (h' : SqL K S p2 ys) (hd' : DpAll K S ys es) : WalkD K (Itz K p p2) S (zipD ds es) := by
  have l1 := DpAll_len hd
  have l2 := DpAll_len hd'
  have lz : (zipD ds es).length = min ds.length es.length := by simp [zipD]
  refine ⟨fun i H hi hs => ?_, fun H hs => ?_, fun i H x H' d S2 e s1 s2 y => ?_⟩
  · have h1 : i < xs.length := by omega
    have h2 : i < ys.length := by omega
    exact ⟨xs, ys, xs[i], ys[i], hs.seq h, hs.seq h', List.getElem?_eq_getElem h1, List.getElem?_eq_getElem h2⟩
  · exact ⟨xs, ys, hs.seq h, hs.seq h', by omega⟩
  · obtain ⟨a', b', ha, hb, rfl⟩ := zipD_get e
    obtain ⟨T, x1, y1, rfl, hn, e2, q1, q2⟩ := y
    obtain ⟨v, hv, hdv⟩ := DpAll_get hd ha
    obtain ⟨w, hw, hdw⟩ := DpAll_get hd' hb
    have e3 := q1 xs ((s1.trans s2).seq h)
    have e4 := q2 ys ((s1.trans s2).seq h')
    rw [hv] at e3
    rw [hw] at e4
    cases e3
    cases e4
    exact dp_pair s2 hn e2 (Dp_mono hdv s1) (Dp_mono hdw s1)
/-! ### targets -/
/-- the target's names are among vs -/
def GIn (g : TG) (vs : List Nat) : Prop := ∀ v s H (Q : L2.St → Hp → Prop), g v s H Q → g v s H fun s' H' => wipe s' vs = wipe s vs ∧ Q s' H'
def GIns (g : TGs) (vs : List Nat) : Prop := ∀ v s H (Q : L2.St → Hp → Prop), g v s H Q → g v s H fun s' H' => wipe s' vs = wipe s vs ∧ Q s' H'
theorem wipe_get {s : L2.St} {j : Nat} : ∀ {vs : List Nat}, (wipe s vs)[j]? = if j ∈ vs then (if j < s.length then some none else none) else s[j]?
  | [] => by simp [wipe]
  | v :: vs => by
    unfold wipe
    rw [List.getElem?_set]
    by_cases h : v = j
    · subst h
      rw [if_pos rfl, wipe_length, if_pos List.mem_cons_self]
    · rw [if_neg h, wipe_get]
      have : (j ∈ v :: vs) ↔ j ∈ vs := by
        rw [List.mem_cons]
        exact ⟨fun z => z.elim (fun q => absurd q.symm h) id, .inr⟩
      by_cases hj : j ∈ vs
      · rw [if_pos hj, if_pos (this.mpr hj)]
      · rw [if_neg hj, if_neg fun z => hj (this.mp z)]
theorem wipe_set {s : L2.St} {i : Nat} {x : Option V} {vs : List Nat} (h : i ∈ vs) : wipe (s.set i x) vs = wipe s vs := by
  apply List.ext_getElem?
  intro j
  rw [wipe_get, wipe_get, List.length_set]
  by_cases hj : j ∈ vs
  · rw [if_pos hj, if_pos hj]
  · rw [if_neg hj, if_neg hj, List.getElem?_set_ne fun (e : i = j) => hj (e ▸ h)]
theorem gin_name {i : Nat} {vs : List Nat} (h : i ∈ vs) : GIn (gName i) vs := fun v s H Q q => ⟨wipe_set h, q⟩
theorem gins_nil {vs : List Nat} : GIns gNil vs := fun v s H Q q => ⟨q.1, rfl, q.2⟩
theorem gins_cons {g : TG} {gs : TGs} {vs : List Nat} (h1 : GIn g vs) (h2 : GIns gs vs) (mono : ∀ v s H (Q Q' : L2.St → Hp → Prop), (∀ s' H', Q s' H' → Q' s' H') → g v s H Q → g v s H Q') : GIns (gCons g gs) vs := fun v s H Q ⟨x, r, e, q⟩ =>
  ⟨x, r, e, mono _ _ _ _ _ (fun s' H' ⟨w, k⟩ => by
    have := h2 r s' H' Q k
    rw [w] at this
    exact this) (h1 x s H _ q)⟩
theorem gin_tup {gs : TGs} {n : Nat} {vs : List Nat} (h : GIns gs vs) : GIn (gTup K n gs) vs := fun v s H Q ⟨a, xs, e, h1, h2, q⟩ => ⟨a, xs, e, h1, h2, h xs s H Q q⟩
theorem gmono_name {i : Nat} : ∀ v s H (Q Q' : L2.St → Hp → Prop), (∀ s' H', Q s' H' → Q' s' H') → gName i v s H Q → gName i v s H Q' := fun v s H Q Q' f q => f _ _ q
theorem gmonos_nil : ∀ v s H (Q Q' : L2.St → Hp → Prop), (∀ s' H', Q s' H' → Q' s' H') → gNil v s H Q → gNil v s H Q' := fun v s H Q Q' f q => ⟨q.1, f _ _ q.2⟩
theorem gmonos_cons {g : TG} {gs : TGs} (h1 : ∀ v s H (Q Q' : L2.St → Hp → Prop), (∀ s' H', Q s' H' → Q' s' H') → g v s H Q → g v s H Q') (h2 : ∀ v s H (Q Q' : L2.St → Hp → Prop), (∀ s' H', Q s' H' → Q' s' H') → gs v s H Q → gs v s H Q') :
    ∀ v s H (Q Q' : L2.St → Hp → Prop), (∀ s' H', Q s' H' → Q' s' H') → gCons g gs v s H Q → gCons g gs v s H Q' := fun v s H Q Q' f ⟨x, r, e, q⟩ => ⟨x, r, e, h1 _ _ _ _ _ (fun s' H' k => h2 _ _ _ _ _ f k) q⟩
theorem gmono_tup {gs : TGs} {n : Nat} (h2 : ∀ v s H (Q Q' : L2.St → Hp → Prop), (∀ s' H', Q s' H' → Q' s' H') → gs v s H Q → gs v s H Q') :
    ∀ v s H (Q Q' : L2.St → Hp → Prop), (∀ s' H', Q s' H' → Q' s' H') → gTup K n gs v s H Q → gTup K n gs v s H Q' := fun v s H Q Q' f ⟨a, xs, e, e1, e2, q⟩ => ⟨a, xs, e, e1, e2, h2 _ _ _ _ _ f q⟩
def wipeL (l : List Sl) : List Nat → List Sl
  | [] => l
  | v :: vs => (wipeL l vs).set v .no
theorem Env.wipe {H0 S H : Hp} {s : L2.St} (h : Env K H0 S H s l) : ∀ vs : List Nat, Env K H0 S H (L2.wipe s vs) (wipeL l vs)
  | [] => h
  | v :: vs => (Env.wipe h vs).forget
/-! ### comprehensions -/
section
variable {m : Addr → Prop} {S H S1 H1 S2 H2 : Hp} {p : Addr} {o : HO}
theorem Grow.putNew (g : Grow m S H S1 H1) (hp : H p = none) (hs : S1 p = none) (hx : H1 p ≠ none) : Grow m S H S1 (upd H1 p o) :=
  ⟨g.s, fun b x e => by rw [upd_ne (ne_of_none e hs)]; exact g.f b x e, g.n, fun a u hm e => by rw [upd_ne (ne_of_none e hp)]; exact g.k a u hm e, fun a e => by
    by_cases z : a = p
    · subst z; rw [upd_same]; exact fun q => nomatch q
    · rw [upd_ne z]; exact g.d a e, g.x⟩
theorem Grow.take (g : Grow m S H S1 H1) (hp : H p = none) (hx : H1 p = some o) (hs : S1 p = none) (ho : ∀ φ, o ≠ .ext φ := by intro φ z; cases z) : Grow m S H (upd S1 p o) H1 :=
  ⟨g.s.trans (same_up hs), fun b x e => by
    by_cases z : b = p
    · subst z; rw [upd_same] at e; rw [hx]; exact e
    · rw [upd_ne z] at e; exact g.f b x e, fun a e q => by
    have : a ≠ p := fun z => by subst z; exact q hp
    rw [upd_ne this]; exact g.n a e q, g.k, g.d, fun a φ e => g.x a φ (no_ext ho a φ e)⟩
end
/-- what comes to a new list that is nobody's yet -/
def EvL (K : PySem.W.Frag) (te : TE) (l : List Sl) (ds : List PyData) : Prop := ∀ H0 S H s, Env K H0 S H s l → Same S H → ∀ Q : VK, (∀ p S' H' xs, Grow m0 S H S' H' → H p = none → S' p = none → H' p = some (.lst xs) → DpAll K S' xs ds → Q (.ref p) H') → te s H Q
end
end Dz

namespace Dz
open PySem L2 RZ

section
variable {K : PySem.W.Frag} {l l' : List Sl} {ta tb te : TE} {t u : TT} {a b c d : PyData} {r : R2} {ds : List PyData} {i : Nat} {o : Addr}
/-! ### a list of one's own, read -/
/-! ### the state of a def's body -/
structure Cn where
  K : PySem.W.Frag
  m : Addr → Prop
  S0 : Hp
  H0 : Hp
  Sb : Hp
structure At (C : Cn) (l : List Sl) (s : L2.St) (H : Hp) : Prop where
  ex : ∃ S, Grow C.m C.S0 C.H0 S H ∧ Env C.K C.H0 S H s l ∧ Same C.Sb S
  tw : ∀ t n, Sl.town t n ∈ l → C.m t
inductive Weak : List Sl → List Sl → Prop
  | nil : Weak [] []
  | same {x : Sl} {l l' : List Sl} : Weak l l' → Weak (x :: l) (x :: l')
  | no {x : Sl} {l l' : List Sl} : Weak l l' → Weak (x :: l) (.no :: l')
theorem Weak.len (h : Weak l l') : l.length = l'.length := by
  induction h with
  | nil => rfl
  | same _ ih => simp [ih]
  | no _ ih => simp [ih]
theorem Weak.get (h : Weak l l') : ∀ {j : Nat} {x : Sl}, l'[j]? = some x → x = .no ∨ l[j]? = some x := by
  induction h with
  | nil => intro j x e; simp at e
  | same _ ih =>
    intro j x e
    cases j with
    | zero => simp at e; exact .inr (by simpa using e)
    | succ j => simpa using ih (by simpa using e)
  | no _ ih =>
    intro j x e
    cases j with
    | zero => simp at e; exact .inl e.symm
    | succ j => simpa using ih (by simpa using e)
theorem Weak.muts (h : Weak l l') : (muts l').Sublist (muts l) := by
  induction h with
  | nil => exact List.Sublist.refl _
  | @same x l l' _ ih =>
    show (List.filterMap Sl.adr (x :: l')).Sublist (List.filterMap Sl.adr (x :: l))
    rw [List.filterMap_cons, List.filterMap_cons]
    cases x.adr with
    | none => exact ih
    | some y => exact ih.cons₂ _
  | @no x l l' _ ih =>
    show (List.filterMap Sl.adr (.no :: l')).Sublist (List.filterMap Sl.adr (x :: l))
    rw [List.filterMap_cons, List.filterMap_cons]
    show (List.filterMap Sl.adr l').Sublist _
    cases x.adr with
    | none => exact ih
    | some y => exact ih.cons _
end
section
variable {C : Cn} {l l' : List Sl} {ta tb te : TE} {t u : TT} {a b c d : PyData} {ds : List PyData} {i : Nat} {o : Addr} {s : L2.St} {H : Hp} {D : Ends} {tu tv : TS} {x y : Sl}
theorem tw_set {m : Addr → Prop} (h : ∀ t n, Sl.town t n ∈ l → m t) (hx : ∀ t n, y ≠ .town t n) : ∀ t n, Sl.town t n ∈ l.set i y → m t := fun t n hm => by
  rcases List.mem_or_eq_of_mem_set hm with q | q
  · exact h t n q
  · exact absurd q.symm (hx t n)
/-- one step of evaluation -/
theorem At.step {v : V} (h : At C l s H) (he : Ev C.K te l d) {Q : VK} (q : ∀ v S' H', Grow C.m C.S0 C.H0 S' H' → Env C.K C.H0 S' H' s l → Same C.Sb S' → Dp C.K S' v d → Q v H') : te s H Q := by
  obtain ⟨S, g, e, b⟩ := h.ex
  exact he C.H0 S H s e g.f Q fun v S' H' g1 d1 => q v S' H' (g.trans g1.any) (e.grow g1) (b.trans g1.s) d1
/-- the list of a slot is changed in the heap -/
theorem At.put {es : List PyData} {S H' : Hp} {ys : List V} (tw : ∀ t n, Sl.town t n ∈ l → C.m t) (g : Grow C.m C.S0 C.H0 S H) (e : Env C.K C.H0 S H s l) (b : Same C.Sb S) (hi : l[i]? = some (.own o ds)) (hd : DpAll C.K S ys es) :
    At C (l.set i (.own o es)) s (upd H o (.lst ys)) := by
  obtain ⟨v, hv, rfl, h0, hS, xs, hx, _⟩ := e.ok i _ hi
  have hk : ∀ c w, c ≠ o → H c = some w → upd H o (.lst ys) c = some w := fun c w hc hw => by rw [upd_ne hc]; exact hw
  refine ⟨⟨S, g.putNew h0 hS (some_ne hx), e.put hi rfl rfl (Same.refl S) (fun _ z _ => z) hk fun v ok => ?_, b⟩, tw_set tw fun _ _ z => nomatch z⟩
  obtain ⟨e1, e2, e3, _⟩ := ok
  exact ⟨e1, e2, e3, ys, upd_same, hd⟩
/-! ### loops -/
abbrev Cn.at_ (C : Cn) (S : Hp) : Cn := { C with Sb := S }
end
/-! ### the start of a def -/
end Dz

namespace Dz
open PySem PySem.SeqAt PyProof.Rows L2 RZ

/-! ### rules for any kind of value -/
theorem OpR_or {X : Cx} {f : Value → Value → Sem Value} {r r' : R2} (h : OpR X f r) (h' : OpR X f r') : OpR X f (fun x y H Q => r x y H Q ∨ r' x y H Q) := fun pins s σ H x y v u Q I rx ry q =>
  q.elim (fun q => h pins s σ H x y v u Q I rx ry q) fun q => h' pins s σ H x y v u Q I rx ry q
theorem SlR_or {X : Cx} {r r' : V → Option Int → Option Int → Hp → VK → Prop} (h : SlR X r) (h' : SlR X r') : SlR X (fun x lo hi H Q => r x lo hi H Q ∨ r' x lo hi H Q) := fun pins s σ H x v vl vu lo hi sl Q I rx hs pl pu q =>
  q.elim (fun q => h pins s σ H x v vl vu lo hi sl Q I rx hs pl pu q) fun q => h' pins s σ H x v vl vu lo hi sl Q I rx hs pl pu q
theorem sl_any {X : Cx} : SlR X (rSlAny X.K) := SlR_or sl_list sl_tupA
/-- list + list, whichever they are -/
def rCatL (K : PySem.W.Frag) : R2 := fun x y H Q => ∃ l b xs zs, x = .ref l ∧ y = .ref b ∧ SqL K H l xs ∧ SqL K H b zs ∧ xs.length + zs.length ≤ sizeLine ∧ ∀ p, H p = none → Q (.ref p) (upd H p (.lst (xs ++ zs)))
theorem op_catL {X : Cx} : OpR X (binaryOp .Add) (rCatL X.K) := by
  intro pins s σ H x y v u Q I rx ry h
  obtain ⟨l, b, xs, zs, rfl, rfl, hH, hB, hz, q⟩ := h
  cases rx
  cases ry
  obtain ⟨its, r, pl, z⟩ := I.list hH
  obtain ⟨its2, r2, pl2, z2⟩ := I.list hB
  obtain ⟨⟨cls, dd, data, sl⟩, ho, hc, n, hd⟩ := id pl.isList
  obtain ⟨⟨cls2, dd2, data2, sl2⟩, ho2, hc2, n2, hd2⟩ := id pl2.isList
  simp only at hc hd hc2 hd2
  subst hc hd hc2 hd2
  have e1 := r.length
  have e2 := r2.length
  have e : its.toArray ++ its2.toArray = (its ++ its2).toArray := by simp
  refine concat_meets ⟨_, ho, rfl⟩ ⟨_, ho2, rfl⟩ noFill_list_add seq_list_add PySem.F.slot_list_add PySem.F.entry_list_add (PySem.F.args_list_add_2 _ _) (PyProof.Rows.list_addW l b its.toArray its2.toArray n n2 dd dd2 sl sl2 (by simp only [List.size_toArray]; omega)) ⟨ho, ho2, ?_⟩
  rw [e]
  exact ⟨.ref _, _, I.lnew (t' := s.toks) (r.append r2) (by rw [List.length_append]; omega), rfl, q _ I.fresh⟩
def rAddS : R2 := fun x y H Q => ∃ i j, x = .str i ∧ y = .str j ∧ i.length + j.length ≤ sizeLine ∧ Q (.str (i ++ j)) H
/-- a + b -/
def rPlus (K : PySem.W.Frag) : R2 := fun x y H Q => rI0 (fun i j => .int (i + j)) x y H Q ∨ (rCatL K x y H Q ∨ (rCatA K x y H Q ∨ rAddS x y H Q))
theorem op_plus {X : Cx} : OpR X (binaryOp .Add) (rPlus X.K) := OpR_or op_add (OpR_or op_catL (OpR_or op_catA op_add_str))
/-- a * b -/
def rTimes : R2 := fun x y H Q => rI CMul (fun i j => .int (i * j)) x y H Q ∨ rRep x y H Q
theorem op_times {X : Cx} : OpR X (binaryOp .Mult) rTimes := OpR_or op_mul op_rep
/-- a == b, a != b -/
def rEqA (K : PySem.W.Frag) : R2 := fun x y H Q => rEq x y H Q ∨ rEqD K x y H Q
def rNeA (K : PySem.W.Frag) : R2 := fun x y H Q => rNe x y H Q ∨ rNeD K x y H Q
theorem op_eqA {X : Cx} (hu : X.A.units + 64 < cLine) : OpR X (compareOp .Eq) (rEqA X.K) := OpR_or op_eq (op_eqD hu)
theorem op_neA {X : Cx} (hu : X.A.units + 64 < cLine) : OpR X (compareOp .NotEq) (rNeA X.K) := OpR_or op_ne (op_neD hu)
section
variable {K : PySem.W.Frag} {a b c : PyData} {r r' : R2} {l : List Sl} {ta tb te : TE}
theorem rd_l (h : RD K r a b c) : RD K (fun x y H Q => r x y H Q ∨ r' x y H Q) a b c := fun x y S H Q hs hx hy q => .inl (h x y S H Q hs hx hy q)
theorem rd_r (h : RD K r' a b c) : RD K (fun x y H Q => r x y H Q ∨ r' x y H Q) a b c := fun x y S H Q hs hx hy q => .inr (h x y S H Q hs hx hy q)
theorem rd_plusI {i j : Int} : RD K (rPlus K) (.int i) (.int j) (.int (i + j)) := rd_l (rd_I0 fun _ => .int _)
theorem rd_plusL {xs ys : List PyData} (hz : xs.length + ys.length ≤ 4000000) : RD K (rPlus K) (.list xs) (.list ys) (.list (xs ++ ys)) := rd_r (rd_l fun x y S H Q hs hx hy q => by
  cases hx with
  | lst h1 h2 =>
    cases hy with
    | lst h3 h4 => exact ⟨_, _, _, _, rfl, rfl, hs.seq h1, hs.seq h3, szl (by rw [DpAll_len h2, DpAll_len h4]; exact hz), new_lst hs (DpAll_app h2 h4) q⟩)
theorem rd_plusT {xs ys : List PyData} (hz : xs.length + ys.length ≤ 4000000) : RD K (rPlus K) (.tuple xs) (.tuple ys) (.tuple (xs ++ ys)) := rd_r (rd_r (rd_l fun x y S H Q hs hx hy q => by
  cases hx with
  | tup h1 h2 =>
    cases hy with
    | tup h3 h4 =>
      refine ⟨_, _, _, _, rfl, rfl, same_seqT hs h1, same_seqT hs h3, szl (by rw [DpAll_len h2, DpAll_len h4]; exact hz), fun e => ?_, fun _ e => ?_, fun _ _ => new_tup hs (DpAll_app h2 h4) q⟩
      · subst e
        cases h2
        exact q _ S H (Grow.refl hs) (.tup h3 h4)
      · subst e
        cases h4
        rw [List.append_nil] at q
        exact q _ S H (Grow.refl hs) (.tup h1 h2)))
theorem rd_plusS {i j : Str} (hz : i.length + j.length ≤ 4000000) : RD K (rPlus K) (.str i) (.str j) (.str (i ++ j)) := rd_r (rd_r (rd_r fun x y S H Q hs hx hy q => by
  cases hx
  cases hy
  exact ⟨i, j, rfl, rfl, szl hz, q _ S H (Grow.refl hs) (.str _)⟩))
theorem rd_eqA (h : RD K rEq a b c) : RD K (rEqA K) a b c := rd_l h
theorem rd_neA (h : RD K rNe a b c) : RD K (rNeA K) a b c := rd_l h
theorem rd_eqD (h1 : SeqAt.shaped a = true) (h2 : SeqAt.shaped b = true) : RD K (rEqA K) a b (.bool (PyData.eqv a b)) := rd_r fun x y S H Q hs hx hy q => ⟨a, b, Dp_mono hx hs, Dp_mono hy hs, h1, h2, q _ S H (Grow.refl hs) (.bl _)⟩
theorem rd_neD (h1 : SeqAt.shaped a = true) (h2 : SeqAt.shaped b = true) : RD K (rNeA K) a b (.bool (!PyData.eqv a b)) := rd_r fun x y S H Q hs hx hy q => ⟨a, b, Dp_mono hx hs, Dp_mono hy hs, h1, h2, q _ S H (Grow.refl hs) (.bl _)⟩
end
/-! ### calls of defs -/
structure Cal (P : Program) (w : World) (K : PySem.W.Frag) (mg : Str → Option Value) (base : Heap) (k : Nat) (x : Str) (ps : List Str) (sp : Sp) : Prop where
  ex : ∃ f fd, FnOk P w K mg base CX0 k f fd ps sp ∧ mg x = some (.ref f) ∧ PySem.W.keepIn K (.ref f) = true ∧ Binds K fd ps []
theorem Cal.mono {P : Program} {w : World} {K : PySem.W.Frag} {mg : Str → Option Value} {base : Heap} {j k : Nat} {x : Str} {ps : List Str} {sp : Sp} (c : Cal P w K mg base j x ps sp) (h : j ≤ k) : Cal P w K mg base k x ps sp := by
  obtain ⟨f, fd, a, b⟩ := c.ex
  exact ⟨f, fd, a.mono h, b⟩
theorem Cal.imp {P : Program} {w : World} {K : PySem.W.Frag} {mg : Str → Option Value} {base : Heap} {k : Nat} {x : Str} {ps : List Str} {sp sp' : Sp} (c : Cal P w K mg base k x ps sp) (h : ∀ vs H Q E, sp' vs H Q E → sp vs H Q E) : Cal P w K mg base k x ps sp' := by
  obtain ⟨f, fd, a, b⟩ := c.ex
  exact ⟨f, fd, a.imp h, b⟩
theorem pe_cal {X : Cx} {k : Nat} {x : Str} {ps : List Str} {sp : Sp} {p pos : Pos} {e : Expr} {es : List Expr} {t : TA} (c : Cal X.prog X.w X.K X.mg X.base k x ps sp) (hr : Room k X.A) (ha : PA X (e :: es) t) (hg : Gl X x := by rfl)
    (hdb : (x == ("__debug__" : Str)) = false := by decide) (he : starEach (e :: es) X.env = (false, eval e X.env) :: starEach es X.env := by rfl) (hpl : (backTo pos (starEach es X.env)).any (·.1) = false := by rfl) :
    PE X (.Call (.Name x p) (e :: es) [] pos) (tCall sp [] E0 t) := by
  obtain ⟨f, fd, F, hm, hk, hb⟩ := c.ex
  exact pe_call F hr hg hm hk hb .nil pass0 ha hdb he hpl
/-! ### draws: the town grows -/
def mt (t : Addr) : Addr → Prop := fun a => a = t
section
variable {K : PySem.W.Frag} {l l' : List Sl} {ta tb te : TE} {tt tu : TT} {a b c d : PyData} {r : R2} {ds : List PyData} {i it n n' : Nat} {t o : Addr} {H0 S H S' H' : Hp} {s : L2.St}
theorem Env.townAt (e : Env K H0 S H s l) (h : l[it]? = some (.town t n)) : TownAt H t n := by
  obtain ⟨v, _, _, _, q⟩ := e.ok it _ h
  exact q
theorem TownAt.grow (h : TownAt H t n) (g : Grow m0 S H S' H') : TownAt H' t n := by
  obtain ⟨ns, a, b⟩ := h
  exact ⟨ns, g.all _ _ a, b⟩
theorem Env.town (e : Env K H0 S H s l) (h : l[it]? = some (.town t n)) (g : Grow (mt t) S H S' H') (ht : TownAt H' t n') : Env K H0 S' H' s (l.set it (.town t n')) := by
  refine e.put h rfl rfl g.s g.n (fun b u hb hu => g.k b u hb hu) fun v ok => ?_
  obtain ⟨e1, e2, ns, e3, e4⟩ := ok
  exact ⟨e1, g.n t e2 (some_ne e3), ht⟩
end
section
variable {C : Cn} {l l' : List Sl} {ta tb te : TE} {tt : TT} {a b c d : PyData} {ds : List PyData} {i it n : Nat} {o t : Addr} {s : L2.St} {H : Hp} {D : Ends} {tu tv : TS}
theorem tw_town {m : Addr → Prop} {n' : Nat} (h : ∀ t n, Sl.town t n ∈ l → m t) (hi : l[it]? = some (.town t n)) : ∀ t' k, Sl.town t' k ∈ l.set it (.town t n') → m t' := fun t' k hm => by
  rcases List.mem_or_eq_of_mem_set hm with q | q
  · exact h t' k q
  · cases q
    exact h t n (List.mem_of_getElem? hi)
end
end Dz
namespace Dz
open PySem PySem.SeqAt PyProof.Rows L2 RZ
section
variable {K : PySem.W.Frag} {l : List Sl} {te : TE} {d : PyData} {it n : Nat} {t : Addr}
end
section
variable {C : Cn} {l : List Sl} {te tb : TE} {d : PyData} {it n : Nat} {t : Addr} {s : L2.St} {H : Hp} {D : Ends} {tu tv : TS}
end
end Dz
namespace Dz
open PySem L2
end Dz
namespace Dz
open PySem L2
section
variable {K : PySem.W.Frag} {l : List Sl} {tr : TA} {E : XK} {it n i0 : Nat} {t : Addr} {sc : PyData} {ds : List PyData}
end
end Dz

namespace Dz
open PySem PySem.SeqAt PyProof.Rows L2 RZ
section
variable {C : Cn} {l : List Sl} {ta tb te : TE} {a b d : PyData} {ds es : List PyData} {i j : Nat} {s : L2.St} {H : Hp} {D : Ends}
/-- a new object's place in the state -/
theorem At.own {S S' H' : Hp} {p : Addr} {xs : List V} (h : At C l s H) (g : Grow C.m C.S0 C.H0 S H) (e : Env C.K C.H0 S H s l) (b : Same C.Sb S) (g1 : Grow m0 S H S' H') (hp : H p = none) (sp : S' p = none) (hx : H' p = some (.lst xs)) (hd : DpAll C.K S' xs ds) :
    At C (l.set i (.own p ds)) (s.set i (some (.ref p))) H' := by
  have e' := e.grow g1
  have h0 : C.H0 p = none := by
    cases hq : C.H0 p with
    | none => rfl
    | some u => exact absurd hp (g.d p (some_ne hq))
  have hm : p ∉ muts l := fun z => (e.there z).1 hp
  exact ⟨⟨S', g.trans g1.any, e'.fresh rfl hm ⟨rfl, h0, sp, xs, hx, hd⟩, b.trans g1.s⟩, tw_set h.tw fun _ _ z => nomatch z⟩
end
end Dz
namespace Dz
open PySem PySem.SeqAt PyProof.Rows L2 RZ
section
variable {K : PySem.W.Frag} {l : List Sl} {ta tb te : TE} {a b d : PyData} {ds es : List PyData} {i j it n : Nat} {t : Addr}
theorem cutD_take (ds : List PyData) (k : Nat) : cutD ds none (some (k : Int)) = ds.take k := by
  unfold cutD
  rw [HT.sIx_none, HT.sIx_nat]
  simp only [List.drop_zero, Nat.sub_zero]
  by_cases h : k ≤ ds.length
  · rw [Nat.min_eq_left h]
  · rw [Nat.min_eq_right (by omega), List.take_length, List.take_of_length_le (by omega)]
theorem rgV_dp {S : Hp} (a b : Int) : DpAll K S (rgV a b) (rng a (b - a).toNat) := by
  unfold rgV rng
  generalize List.range (b - a).toNat = xs
  induction xs with
  | nil => exact .nil
  | cons x r ih => exact .cons (.int _) ih
theorem TownAt.le {H : Hp} {n' : Nat} (h : TownAt H t n) (h1 : n ≤ n') (h0 : 0 < n) : TownAt H t n' := by
  obtain ⟨ns, a, b, c⟩ := h
  exact ⟨ns, a, by omega, fun _ => c h0⟩
end
section
variable {C : Cn} {l : List Sl} {s : L2.St} {H : Hp} {it n n' : Nat} {t : Addr}
/-- more room in the town -/
theorem At.room (h : At C l s H) (hi : l[it]? = some (.town t n)) (h1 : n ≤ n') (h0 : 0 < n) : At C (l.set it (.town t n')) s H := by
  obtain ⟨S, g, e, b⟩ := h.ex
  exact ⟨⟨S, g, e.town hi (Grow.refl g.f) ((e.townAt hi).le h1 h0), b⟩, tw_town h.tw hi⟩
end
end Dz

/-! the rules with the written part named -/
namespace Dz
open PySem PySem.SeqAt PyProof.Rows L2 RZ SrtO
section
variable {X : Cx} (K : PySem.W.Frag)
theorem k_ix (h : X.K = K := by rfl) : IxR X (rIx K) := h ▸ ix_seq
theorem k_sl (h : X.K = K := by rfl) : SlR X (rSlAny K) := h ▸ sl_any
theorem k_plus (h : X.K = K := by rfl) : OpR X (binaryOp .Add) (rPlus K) := h ▸ op_plus
theorem k_eq (hu : X.A.units + 64 < cLine) (h : X.K = K := by rfl) : OpR X (compareOp .Eq) (rEqA K) := h ▸ op_eqA hu
theorem k_ne (hu : X.A.units + 64 < cLine) (h : X.K = K := by rfl) : OpR X (compareOp .NotEq) (rNeA K) := h ▸ op_neA hu
theorem k_in (h : X.K = K := by rfl) : OpR X (compareOp .In) (rIn K false) := h ▸ op_in_seq
theorem k_notin (h : X.K = K := by rfl) : OpR X (compareOp .NotIn) (rIn K true) := h ▸ op_notIn_seq
theorem k_len (h : X.K = K := by rfl) : CallR X (.builtin "len") (rLenK K) := h ▸ call_len_seq
theorem k_list (h : X.K = K := by rfl) : CallR X (.type "list") (rListK K) := h ▸ call_list_of
theorem k_tuple (h : X.K = K := by rfl) : CallR X (.type "tuple") (rTupleK K) := h ▸ call_tuple_of
theorem k_max (hc : X.calm = true) (h : X.K = K := by rfl) : CallR X (.builtin "max") (rMax K) := h ▸ cr_max hc
theorem k_min (hc : X.calm = true) (h : X.K = K := by rfl) : CallR X (.builtin "min") (rMin K) := h ▸ cr_min hc
theorem k_sum (hc : X.calm = true) (h : X.K = K := by rfl) : CallR X (.builtin "sum") (rSum K) := h ▸ cr_sum hc
theorem k_all (hc : X.calm = true) (h : X.K = K := by rfl) : CallR X (.builtin "all") (rAll K) := h ▸ cr_all hc
theorem k_sorted (h : X.K = K := by rfl) : CallR X (.builtin "sorted") (rSortedI K) := h ▸ cr_sortedI
theorem k_isi (h : X.K = K := by rfl) : CallR X (.builtin "isinstance") (rIsi K) := h ▸ call_isi
theorem k_seq {tg e : Expr} {tl : TE} (p : PE X e tl) (h : X.K = K := by rfl) : PI X tg e (iSeq K tl) := h ▸ pi_seq p
theorem k_tru {a : Expr} {ta : TE} (ha : PE X a ta) (he : ∀ whole, isTrue a X.env whole = (do let v ← whole; standAt a.pos; holding [v] (truthy v))) (h : X.K = K := by rfl) : PT X a (fun σ H Q => ta σ H fun x H' => ∃ k, TruV K x H' k ∧ Q k H') := h ▸ pt_truth ha he
theorem k_notT {a : Expr} {ta : TE} {pos : Pos} (ha : PE X a ta) (h : X.K = K := by rfl) : PE X (.UnaryOp .Not a pos) (tNotT K ta) := h ▸ pe_notT ha
theorem k_andT {a b : Expr} {rest : List Expr} {ta tb : TE} {pos : Pos} (ha : PE X a ta) (hb : PE X (.BoolOp .And (b :: rest) pos) tb) (h : X.K = K := by rfl) : PE X (.BoolOp .And (a :: b :: rest) pos) (tAndT K ta tb) := h ▸ pe_andT ha hb
theorem k_tup {es : List Expr} {k : Nat} {t : TGs} {n : Nat} {pos : Pos} (hc : X.calm = true) (p : PGs X es t) (h : X.K = K := by rfl)
    (hn : (assignEach es X.env).length = n := by rfl) (hst : (assignEach es X.env).findIdx? (·.1) = none := by rfl) : PG X (.Tuple es k pos) (gTup K n t) := by
  subst h
  exact pg_tup hc p hn hst
end
end Dz

namespace Dz
open PySem PySem.SeqAt PyProof.Rows L2 RZ
/-! ### a def that takes data and gives data, told by a relation -/
section
variable {K : PySem.W.Frag} {l : List Sl} {ta tb te : TE} {tr : TA} {E : XK} {a b c d : PyData} {ds : List PyData} {it n : Nat} {t : Addr}
/-! ### isinstance of data -/
def tyN : PyData → String
  | .none => "NoneType"
  | .bool _ => "bool"
  | .int _ => "int"
  | .str _ => "str"
  | .list _ => "list"
  | .tuple _ => "tuple"
  | .dict _ => "dict"
theorem tyX_of {S H : Hp} {v : V} (hs : Same S H) (h : Dp K S v a) : TyX K H v (.type (tyN a)) := by
  cases h with
  | non => exact .base .non
  | bl b => exact .base (.bl b)
  | int i => exact .base (.int i)
  | str x => exact .base (.str x)
  | lst h1 h2 =>
    rcases h1 with (h1 | ⟨o, h1⟩) | ⟨o, its, n, h1, h2, _⟩
    · exact .base (.lst (hs _ _ h1))
    · exact .base (.frz (hs _ _ h1))
    · exact .kList h1 h2
  | tup h1 h2 =>
    rcases h1 with (h1 | ⟨o, h1⟩) | ⟨o, its, n, h1, h2, _⟩
    · exact .base (.tup (hs _ _ h1))
    · exact .fTuple (hs _ _ h1)
    · exact .kTuple h1 h2
end
/-- a def at level 0 with an empty promise -/
theorem Cal.zero {P : Program} {w : World} {K : PySem.W.Frag} {mg : Str → Option Value} {base : Heap} {x : Str} {ps : List Str} {sp : Sp} {f : Addr} {fd : FuncData} (hsp : ∀ vs H Q E, ¬ sp vs H Q E) (hm : mg x = some (.ref f)) (hk : PySem.W.keepIn K (.ref f) = true) (hb : Binds K fd ps []) : Cal P w K mg base 0 x ps sp :=
  ⟨f, fd, ⟨fun vs H Q E h => absurd h (hsp vs H Q E), fun A outer s H args us vs Q E hr he hb' hv h => absurd h (hsp vs H Q E)⟩, hm, hk, hb⟩
theorem in65 {k : Nat} {A : Around} (r : Room k A) : A.units + 65 < cLine := by have := r.un; omega
end Dz
namespace Dz
open PySem L2
end Dz
namespace Dz
open PySem L2
end Dz

namespace Dz
open PySem PySem.SeqAt PyProof.Rows L2 RZ SrtO
/-! ### keyword-only parameters -/
structure CalK (P : Program) (w : World) (K : PySem.W.Frag) (mg : Str → Option Value) (base : Heap) (k : Nat) (x : Str) (ps : List Str) (n : Nat) (ks : List Str) (gV : List V → List V → List V) (sp : Sp) : Prop where
  ex : ∃ f fd g, FnOk P w K mg base CX0 k f fd ps sp ∧ mg x = some (.ref f) ∧ PySem.W.keepIn K (.ref f) = true ∧ KBn K fd ps n ks g gV
theorem CalK.mono {P : Program} {w : World} {K : PySem.W.Frag} {mg : Str → Option Value} {base : Heap} {j k n : Nat} {x : Str} {ps ks : List Str} {gV : List V → List V → List V} {sp : Sp} (c : CalK P w K mg base j x ps n ks gV sp) (h : j ≤ k) : CalK P w K mg base k x ps n ks gV sp := by
  obtain ⟨f, fd, g, a, b⟩ := c.ex
  exact ⟨f, fd, g, a.mono h, b⟩
structure CalD (P : Program) (w : World) (K : PySem.W.Frag) (mg : Str → Option Value) (base : Heap) (k : Nat) (x : Str) (ps : List Str) (dv : List V) (sp : Sp) : Prop where
  ex : ∃ f fd ds, FnOk P w K mg base CX0 k f fd ps sp ∧ mg x = some (.ref f) ∧ PySem.W.keepIn K (.ref f) = true ∧ Vals dv ds ∧ Binds K fd ps ds
theorem CalD.mono {P : Program} {w : World} {K : PySem.W.Frag} {mg : Str → Option Value} {base : Heap} {j k : Nat} {x : Str} {ps : List Str} {dv : List V} {sp : Sp} (c : CalD P w K mg base j x ps dv sp) (h : j ≤ k) : CalD P w K mg base k x ps dv sp := by
  obtain ⟨f, fd, g, a, b⟩ := c.ex
  exact ⟨f, fd, g, a.mono h, b⟩
variable {K : PySem.W.Frag} {l : List Sl}
/-! ### what the top has written: a def with keyword-only parameters -/
def KwI (K : PySem.W.Frag) (D : Addr) (kws : List (Str × Int)) : Prop := ∀ q, q ∈ kws → ∃ t, PySem.W.nsIn K D q.1 = some (some (.int q.2 t))
structure DefAtK (K : PySem.W.Frag) (x : Str) (st : Stmt) (kws : List (Str × Int)) : Prop where
  at_ : ∃ (f : Addr) (oc : Value) (od : Option Addr) (D : Addr) (dc pm : Value) (an : Option Addr) (cd ct : Value) (sl : Array (Option Value)), PySem.W.nsIn K mainGlobals x = some (some (.ref f)) ∧
    K.lookup f = some ⟨oc, od, .func (PySem.W.fnOf x x (defArgs st) (defBody st) (defScope st) .none (.ref D) dc pm an cd ct), sl⟩ ∧ PySem.W.codeIn K cd x = true ∧ PySem.W.keepIn K (.ref f) = true ∧ KwI K D kws
abbrev FunK (K : PySem.W.Frag) (x : Str) (st : Stmt) (kws : List (Str × Int)) (f : Addr) (fd : FuncData) : Prop := FunD K x x (defArgs st) (defBody st) (defScope st) [] (kws.map fun q => (q.1, V.int q.2)) f fd
theorem DefAtK.ex {K : PySem.W.Frag} {x : Str} {st : Stmt} {kws : List (Str × Int)} {h : Heap} {mg : Str → Option Value} (d : DefAtK K x st kws) (X : K.In h) (G : h.Ns mainGlobals mg) : ∃ (f : Addr) (fd : FuncData), FunK K x st kws f fd ∧ mg x = some (.ref f) := by
  obtain ⟨f, oc, od, D, dc, pm, an, cd, ct, sl, a, l, c, k, q⟩ := d.at_
  refine ⟨f, _, ⟨⟨oc, od, .none, .ref D, dc, pm, an, cd, ct, sl, rfl, l, c, .inl ⟨rfl, rfl⟩, .inr ⟨D, rfl, fun p hp => ?_⟩⟩, k⟩, PySem.W.mg_of X G a⟩
  obtain ⟨u, hu, rfl⟩ := List.mem_map.mp hp
  obtain ⟨tk, ht⟩ := q u hu
  exact ⟨_, ht, ⟨_, rfl⟩⟩
/-! ### a row put in order -/
def sortI (ns : List Int) : List Int := ns.mergeSort (fun a b => decide (a ≤ b))
theorem sortI_perm (ns : List Int) : (sortI ns).Perm ns := List.mergeSort_perm _ _
theorem sortI_le (ns : List Int) : (sortI ns).Pairwise (· ≤ ·) := by
  have h := List.pairwise_mergeSort (le := fun (a b : Int) => decide (a ≤ b)) (fun a b c h1 h2 => by simp at *; omega) (fun a b => by simp; omega) ns
  exact h.imp (by intro a b h; simpa using h)
theorem sorted_uniq : ∀ {xs ys : List Int}, xs.Perm ys → xs.Pairwise (· ≤ ·) → ys.Pairwise (· ≤ ·) → xs = ys
  | [], ys, h, _, _ => by rw [List.nil_perm.mp h]
  | x :: xs, [], h, _, _ => by simp at h
  | x :: xs, y :: ys, h, h1, h2 => by
    have hx : x ∈ y :: ys := h.mem_iff.mp List.mem_cons_self
    have hy : y ∈ x :: xs := h.mem_iff.mpr List.mem_cons_self
    have e : x = y := by
      rcases List.mem_cons.mp hx with e | hx
      · exact e
      rcases List.mem_cons.mp hy with e | hy
      · exact e.symm
      have a := (List.pairwise_cons.mp h1).1 y hy
      have b := (List.pairwise_cons.mp h2).1 x hx
      omega
    subst e
    rw [sorted_uniq (List.Perm.cons_inv h) (List.pairwise_cons.mp h1).2 (List.pairwise_cons.mp h2).2]
theorem sortI_is {ns ms : List Int} (h : ms.Perm ns) (h2 : ms.Pairwise (· ≤ ·)) : ms = sortI ns := sorted_uniq (h.trans (sortI_perm ns).symm) h2 (sortI_le ns)
theorem rc_sorted {ns : List Int} : RCD K (rSortedI K) [.list (ns.map .int)] (.list ((sortI ns).map .int)) := fun vs S H Q hs hx q => by
  cases hx with
  | cons h1 h2 =>
    cases h2
    cases h1 with
    | lst h3 h4 =>
      rw [ints_of h4] at h3
      exact ⟨_, ns, rfl, hs.seq h3, fun ns' p hp hle hn => by
        rw [sortI_is hp hle]
        exact new_lst hs (DpAll_ints _) q p hn⟩
/-! ### draws, step by step -/
section
variable {it n : Nat} {t : Addr} {ta tb te : TE} {tt : TT} {tr : TA} {r : V → V → Hp → VK → Prop} {R : PyData → Nat → Prop} {RA : List PyData → Nat → Prop} {RB : Bool → Nat → Prop}
end
section
variable {C : Cn} {l' : List Sl} {te : TE} {i it n : Nat} {t : Addr} {s : L2.St} {H : Hp} {D : Ends} {g : TG}
end
section
variable {C : Cn} {ta tb : TE} {a : PyData} {ds : List PyData} {i j : Nat} {s : L2.St} {H : Hp} {D : Ends}
end
section
variable {C : Cn} {ta : TA} {ds : List PyData} {i j m it n : Nat} {t : Addr} {s : L2.St} {H : Hp} {D : Ends}
end
end Dz

namespace Dz
open PySem PySem.SeqAt PyProof.Rows L2 RZ
/-! ### a starred target -/
def gStar (K : PySem.W.Frag) (n i : Nat) (t : TGs) : TG := fun v σ H Q => ∃ a xs, v = .ref a ∧ (SqL K H a xs ∨ SqT K H a xs) ∧ n ≤ xs.length + 1 ∧ xs.length ≤ 16384 ∧
  ∀ p, H p = none → t (xs.take i ++ [.ref p] ++ (xs.drop i).drop (xs.length + 1 - n)) σ (upd H p (.lst ((xs.drop i).take (xs.length + 1 - n)))) Q
theorem obj_ex {P : Program} {w : World} {H : Hp} {h : Heap} {a : Addr} : ∀ {o : HO}, ObjOk P w H h a o → ∃ u, h.get? a = some u
  | .lst _, q => by obtain ⟨_, _, _, _, e⟩ := q; exact ⟨_, e⟩
  | .tup _, q => by obtain ⟨_, _, _, _, e, _⟩ := q; exact ⟨_, e⟩
  | .dK _, q => by obtain ⟨_, _, _, _, _, _, _, e, _⟩ := q; exact ⟨_, e⟩
  | .dT _, q => by obtain ⟨_, _, _, _, _, _, _, e, _⟩ := q; exact ⟨_, e⟩
  | .set _ _, q => by obtain ⟨_, _, _, _, e, _⟩ := q; exact ⟨_, e⟩
  | .ins _ _ _, q => by obtain ⟨_, _, _, e, _⟩ := q; exact ⟨_, e⟩
  | .own _, q => q
  | .xd _, q => by obtain ⟨_, ⟨_, _, _, e, _⟩, _⟩ := q; exact ⟨_, e⟩
  | .met _ _, q => ⟨_, q⟩
  | .rng _ _, q => by obtain ⟨_, _, _, e⟩ := q; exact ⟨_, e⟩
  | .frz _ _, q => ⟨_, q.1⟩
  | .tbl _, q => ⟨_, q⟩
  | .ext _, q => q.2.1
/-- a new list is laid, all else but the frame's own object is kept, its names too -/
theorem inv_news {X : Cx} {pins : List (Addr × Obj)} {σ : L2.St} {H : Hp} {s : Shared} {h' : Heap} {tk : Nat} {D : Addr} {m : Str → Option Value} {its : List Value} {xs : List V} (I : Inv X pins σ H s) (F : Fr X.base X.env.locals s.heap m) (F' : Fr X.base X.env.locals h' m)
    (N' : News X.base X.env.locals h' ((D, PySem.W.listOf its.toArray 0) :: allNews X.base s.heap X.env.locals)) (l1 : ∀ p ∈ allNews X.base s.heap X.env.locals, p.1 < D) (rv : Vals xs its) (hz : xs.length ≤ sizeLine) :
    H D = none ∧ Inv X pins σ (upd H D (.lst xs)) { s with heap := h', toks := tk } := by
  obtain ⟨d1, d2, d3⟩ := N' _ List.mem_cons_self
  have d2 : D ≠ X.env.locals := d2
  have d3 : X.base.get? D = none := d3
  have old : ∀ b o, b ≠ X.env.locals → s.heap.get? b = some o → h'.get? b = some o := fun b o hb e => by
    cases q : X.base.get? b with
    | some u =>
      have e2 := I.bk b u q
      rw [e] at e2
      cases e2
      exact F'.keep b _ q
    | none => exact (N' (b, o) (List.mem_cons_of_mem _ (mem_allNews hb q e))).1
  have hn : s.heap.get? D = none := by
    cases q : s.heap.get? D with
    | none => rfl
    | some o => exact absurd (l1 (D, o) (mem_allNews d2 d3 q)) (Nat.lt_irrefl _)
  have hD : H D = none := by
    cases q : H D with
    | none => rfl
    | some u =>
      obtain ⟨o, e⟩ := obj_ex (I.hok D u q)
      rw [hn] at e
      cases e
  have neD : ∀ b o, s.heap.get? b = some o → b ≠ D := fun b o e z => by rw [z, hn] at e; cases e
  have ntr : ∀ b u, H b = some u → b ≠ X.env.locals := fun b u e z => by rw [z, I.free] at e; cases e
  refine ⟨hD, I.step (g' := s.gens) (d' := s.drawn) (t' := tk) (ch := []) (fun _ z => nomatch z) (fun b o hb _ _ e _ => old b o hb e) (fun b o hb _ _ e _ => ⟨o.slots, old b o hb e⟩) (fun b o _ e q => by rw [upd_ne (neD b o e)]; exact q) (fun b o _ e => ?_)
    (fun b ys e => by rw [upd_ne (ne_of_none e hD)]; exact e) (fun b o u e => by rw [upd_ne (ne_of_none e hD)]; exact e) (fun b ps e => ⟨#[], by rw [upd_ne (ne_of_none e hD), e]; simp⟩) (fun m' hm => ?_) (fun a o e => ?_) I.bare⟩
  · by_cases hb : b = X.env.locals
    · subst hb
      obtain ⟨o', _, _, e', _⟩ := F'.ns
      exact ⟨o', e'⟩
    · exact ⟨o, old b o hb e⟩
  · rw [SlX.ns_only hm F.ns]
    exact F'.ns
  · by_cases ha : a = D
    · subst ha
      rw [upd_same] at e
      cases e
      exact ⟨hz, its, 0, rv, d1⟩
    · rw [upd_ne ha] at e
      refine (I.hok a o e).stay (fun c u hc q => old c u ?_ q) (fun c q => by rw [upd_ne (ne_of_none q hD)]; exact q) fun c ys q => by rw [upd_ne (ne_of_none q hD)]; exact q
      rcases hc with rfl | hc
      · exact ntr c o e
      · exact ntr c _ hc
theorem pg_star {X : Cx} {es : List Expr} {k n i : Nat} {t : TGs} {pos : Pos} (K : PySem.W.Frag) (hc : X.calm = true) (h : PGs X es t) (hi : i < n) (hK : X.K = K := by rfl) (hn : (assignEach es X.env).length = n := by rfl) (hst : (assignEach es X.env).findIdx? (·.1) = some i := by rfl) : PG X (.Tuple es k pos) (gStar K n i t) := by
  subst hK
  refine ⟨fun pins s σ H v u Q I r hw => ?_⟩
  obtain ⟨a, xs, e1, hq, hl, hz, hw⟩ := hw
  subst e1
  cases r
  obtain ⟨m, F⟩ := I.fr
  rcases hq with hq | hq
  · obtain ⟨its, rv, ht, _⟩ := I.list hq
    have e2 := rv.length
    refine PySem.W.kun_assignL F news_all ht.isList (I.ok.hd hc) hn hst hi (by simp only [List.size_toArray]; omega) (by simp only [List.size_toArray]; omega) rfl rfl rfl fun D h' tk F' N' l1 => ?_
    simp only [List.size_toArray] at N' ⊢
    have rm : Vals ((xs.drop i).take (xs.length + 1 - n)) ((its.drop i).take (its.length + 1 - n)) := by rw [e2]; exact (rv.drop i).take _
    obtain ⟨hD, I'⟩ := inv_news (tk := tk) I F F' N' l1 rm (by
      have h2 := List.length_take (i := xs.length + 1 - n) (l := xs.drop i)
      rw [List.length_drop] at h2
      rw [sizeLine_eq]
      omega)
    refine h.run pins _ σ _ _ _ Q I' ?_ (hw D hD)
    rw [e2]
    exact ((rv.take i).append (.cons (show RelV (.ref D) (Value.ref D) from rfl) .nil)).append ((rv.drop i).drop _)
  · obtain ⟨its, rv, ht, _⟩ := I.tuple hq
    have e2 := rv.length
    refine PySem.W.kun_assignT F news_all ht (I.ok.hd hc) hn hst hi (by simp only [List.size_toArray]; omega) (by simp only [List.size_toArray]; omega) rfl rfl rfl fun D h' tk F' N' l1 => ?_
    simp only [List.size_toArray] at N' ⊢
    have rm : Vals ((xs.drop i).take (xs.length + 1 - n)) ((its.drop i).take (its.length + 1 - n)) := by rw [e2]; exact (rv.drop i).take _
    obtain ⟨hD, I'⟩ := inv_news (tk := tk) I F F' N' l1 rm (by
      have h2 := List.length_take (i := xs.length + 1 - n) (l := xs.drop i)
      rw [List.length_drop] at h2
      rw [sizeLine_eq]
      omega)
    refine h.run pins _ σ _ _ _ Q I' ?_ (hw D hD)
    rw [e2]
    exact ((rv.take i).append (.cons (show RelV (.ref D) (Value.ref D) from rfl) .nil)).append ((rv.drop i).drop _)
theorem pgs_star {X : Cx} {e : Expr} {es : List Expr} {t : TG} {u : TGs} {p : Pos} (h1 : PG X e t) (h2 : PGs X es u) : PGs X (.Starred e p :: es) (gCons t u) := by
  refine ⟨fun pins s σ H vs us Q I r h => ?_⟩
  obtain ⟨v, vr, e1, h⟩ := h
  subst e1
  cases r with
  | cons r rr =>
    show wpAny _ _ (assignInOrder (assign e X.env :: (assignEach es X.env).map (·.2)) _) _ _ _
    refine assignInOrder_cons (thn (h1.run pins s σ H _ _ _ I r h) fun _ s1 ⟨σ1, H1, I1, q1⟩ => ?_)
    exact h2.run pins s1 σ1 H1 _ _ Q I1 rr q1
/-! ### a target that makes a new object -/
section
variable {K : PySem.W.Frag} {l l' : List Sl} {ds : List PyData} {n i : Nat} {t : TGs}
end
/-! ### dicts of one's own -/
def keyD : Key → PyData
  | .inl i => .int i
  | .inr x => .str x
def putG {κ β : Type} [DecidableEq κ] (kvs : List (κ × β)) (k : κ) (v : β) : List (κ × β) := if (kvs.any fun kv => decide (kv.1 = k)) = true then kvs.map (fun kv => if kv.1 = k then (kv.1, v) else kv) else kvs ++ [(k, v)]
def valG {κ β : Type} [DecidableEq κ] (kvs : List (κ × β)) (k : κ) : Option β := (kvs.find? fun kv => decide (kv.1 = k)).map (·.2)
def dropG {κ β : Type} [DecidableEq κ] (kvs : List (κ × β)) (k : κ) : List (κ × β) := kvs.filter fun kv => decide (kv.1 ≠ k)
section
variable {K : PySem.W.Frag} {S S1 H H1 : Hp} {ws : List (Key × V)} {kvs : List (Key × PyData)} {k : Key} {v : V} {d : PyData}
theorem KvD.len (h : KvD K S ws kvs) : ws.length = kvs.length := by
  induction h with
  | nil => rfl
  | cons _ _ ih => simp [ih]
theorem KvD.val (h : KvD K S ws kvs) : (∀ d, valG kvs k = some d → ∃ v, valV ws k = some v ∧ Dp K S v d) ∧ (valG kvs k = none → valV ws k = none) := by
  induction h with
  | nil => exact ⟨fun d z => (by cases z), fun _ => rfl⟩
  | @cons w x ws kvs hq _ ih =>
    obtain ⟨e, hd⟩ := hq
    unfold valG valV at *
    rw [List.find?_cons, List.find?_cons]
    by_cases hk : x.1 = k
    · have hk' : w.1 = k := by rw [e]; exact hk
      rw [decide_eq_true hk, decide_eq_true hk']
      refine ⟨fun d z => ⟨w.2, rfl, ?_⟩, fun z => by cases z⟩
      cases z
      exact hd
    · have hk' : ¬ w.1 = k := by rw [e]; exact hk
      rw [decide_eq_false hk, decide_eq_false hk']
      exact ih
theorem KvD.anyK (h : KvD K S ws kvs) : (ws.any fun kv => decide (kv.1 = k)) = kvs.any fun kv => decide (kv.1 = k) := by
  induction h with
  | nil => rfl
  | cons hq _ ih => rw [List.any_cons, List.any_cons, ih, hq.1]
theorem KvD.app {ws' : List (Key × V)} {kvs' : List (Key × PyData)} (h : KvD K S ws kvs) (h' : KvD K S ws' kvs') : KvD K S (ws ++ ws') (kvs ++ kvs') := by
  induction h with
  | nil => exact h'
  | cons hq _ ih => exact .cons hq ih
theorem KvD.over (h : KvD K S ws kvs) (hd : Dp K S v d) : KvD K S (ws.map fun kv => if kv.1 = k then (kv.1, v) else kv) (kvs.map fun kv => if kv.1 = k then (kv.1, d) else kv) := by
  induction h with
  | nil => exact .nil
  | @cons w x ws kvs hq _ ih =>
    refine .cons ?_ ih
    show (if w.1 = k then (w.1, v) else w).1 = (if x.1 = k then (x.1, d) else x).1 ∧ Dp K S (if w.1 = k then (w.1, v) else w).2 (if x.1 = k then (x.1, d) else x).2
    rw [hq.1]
    split
    · exact ⟨rfl, hd⟩
    · exact hq
theorem KvD.put (h : KvD K S ws kvs) (hd : Dp K S v d) : KvD K S (putK ws k v) (putG kvs k d) := by
  unfold putK putG
  rw [h.anyK]
  split
  · exact h.over hd
  · exact h.app (.cons ⟨rfl, hd⟩ .nil)
theorem KvD.drop (h : KvD K S ws kvs) : KvD K S (dropK ws k) (dropG kvs k) := by
  unfold dropK dropG
  induction h with
  | nil => exact .nil
  | @cons w x ws kvs hq _ ih =>
    rw [List.filter_cons, List.filter_cons, hq.1]
    split
    · exact .cons hq ih
    · exact ih
theorem KvD.get {j : Nat} {x : Key × PyData} (h : KvD K S ws kvs) (e : kvs[j]? = some x) : ∃ v, ws[j]? = some (x.1, v) ∧ Dp K S v x.2 := by
  induction h generalizing j with
  | nil => simp at e
  | @cons w y ws kvs hq _ ih =>
    cases j with
    | zero =>
      simp at e
      subst e
      exact ⟨w.2, by rw [← hq.1]; rfl, hq.2⟩
    | succ j => simpa using ih (by simpa using e)
theorem key_dp (h : Dp K S v (keyD k)) : v = kV k := by
  cases k with
  | inl i => cases h; rfl
  | inr x => cases h; rfl
theorem dp_key : Dp K S (kV k) (keyD k) := by
  cases k with
  | inl i => exact .int i
  | inr x => exact .str x
theorem KvD.keys (h : KvD K S ws kvs) : DpAll K S (ws.map fun kv => kV kv.1) (kvs.map fun kv => keyD kv.1) := by
  induction h with
  | nil => exact .nil
  | @cons w x ws kvs hq _ ih =>
    refine .cons ?_ ih
    show Dp K S (kV w.1) (keyD x.1)
    rw [hq.1]
    exact dp_key
end
section
variable {K : PySem.W.Frag} {l : List Sl} {i : Nat} {o : Addr} {kvs : List (Key × PyData)} {k : Key} {ty tx : TE} {d : PyData}
/-- a new dict, nobody's yet -/
def EvC (K : PySem.W.Frag) (te : TE) (l : List Sl) (kvs : List (Key × PyData)) : Prop := ∀ H0 S H s, Env K H0 S H s l → Same S H → ∀ Q : VK, (∀ p S' H' ws, Grow m0 S H S' H' → H p = none → S' p = none → H' p = some (.dK ws) → KvD K S' ws kvs → Q (.ref p) H') → te s H Q
end
section
variable {C : Cn} {l : List Sl} {i : Nat} {o : Addr} {kvs : List (Key × PyData)} {k : Key} {te ty : TE} {d : PyData} {s : L2.St} {H : Hp} {D : Ends}
theorem At.dct {S S' H' : Hp} {p : Addr} {ws : List (Key × V)} (h : At C l s H) (g : Grow C.m C.S0 C.H0 S H) (e : Env C.K C.H0 S H s l) (b : Same C.Sb S) (g1 : Grow m0 S H S' H') (hp : H p = none) (sp : S' p = none) (hx : H' p = some (.dK ws)) (hd : KvD C.K S' ws kvs) :
    At C (l.set i (.dct p kvs)) (s.set i (some (.ref p))) H' := by
  have e' := e.grow g1
  have h0 : C.H0 p = none := by
    cases hq : C.H0 p with
    | none => rfl
    | some u => exact absurd hp (g.d p (some_ne hq))
  have hm : p ∉ muts l := fun z => (e.there z).1 hp
  exact ⟨⟨S', g.trans g1.any, e'.fresh rfl hm ⟨rfl, h0, sp, ws, hx, hd⟩, b.trans g1.s⟩, tw_set h.tw fun _ _ z => nomatch z⟩
end
/-! ### comprehensions of dicts, over dicts -/
theorem putG_new {κ β : Type} [DecidableEq κ] {kvs : List (κ × β)} {k : κ} {v : β} (h : ∀ kv ∈ kvs, kv.1 ≠ k) : putG kvs k v = kvs ++ [(k, v)] := by
  unfold putG
  rw [if_neg]
  intro z
  obtain ⟨x, hx, e⟩ := List.any_eq_true.mp z
  exact h x hx (of_decide_eq_true e)
section
variable {K : PySem.W.Frag} {l : List Sl} {te tk : TE}
end
/-! ### a dict gone over: it is frozen for that time -/
def del (S : Hp) (o : Addr) : Hp := fun a => if a = o then none else S a
theorem del_same {S : Hp} {o : Addr} : del S o o = none := by unfold del; rw [if_pos rfl]
theorem del_ne {S : Hp} {o a : Addr} (h : a ≠ o) : del S o a = S a := by unfold del; rw [if_neg h]
section
variable {K : PySem.W.Frag} {S : Hp} {o : Addr} {od : Obj} {ws : List (Key × V)}
theorem sql_del (h : S o = some (.frz od (.dK ws))) {a : Addr} {xs : List V} (q : SqL K S a xs) : SqL K (del S o) a xs := by
  rcases q with (q | ⟨o', q⟩) | q
  · refine .inl (.inl ?_)
    rw [del_ne (fun z => by rw [z, h] at q; cases q)]
    exact q
  · refine .inl (.inr ⟨o', ?_⟩)
    rw [del_ne (fun z => by rw [z, h] at q; cases q)]
    exact q
  · exact .inr q
theorem sqt_del (h : S o = some (.frz od (.dK ws))) {a : Addr} {xs : List V} (q : SqT K S a xs) : SqT K (del S o) a xs := by
  rcases q with (q | ⟨o', q⟩) | q
  · refine .inl (.inl ?_)
    rw [del_ne (fun z => by rw [z, h] at q; cases q)]
    exact q
  · refine .inl (.inr ⟨o', ?_⟩)
    rw [del_ne (fun z => by rw [z, h] at q; cases q)]
    exact q
  · exact .inr q
mutual
theorem dp_del (h : S o = some (.frz od (.dK ws))) : ∀ (d : PyData) (v : V), Dp K S v d → Dp K (del S o) v d
  | .none, _, q => by cases q; exact .non
  | .bool b, _, q => by cases q; exact .bl b
  | .int i, _, q => by cases q; exact .int i
  | .str x, _, q => by cases q; exact .str x
  | .list ds, _, q => by
    cases q with
    | lst hs ha => exact .lst (sql_del h hs) (dpAll_del h ds _ ha)
  | .tuple ds, _, q => by
    cases q with
    | tup hs ha => exact .tup (sqt_del h hs) (dpAll_del h ds _ ha)
  | .dict _, _, q => by cases q
theorem dpAll_del (h : S o = some (.frz od (.dK ws))) : ∀ (ds : List PyData) (vs : List V), DpAll K S vs ds → DpAll K (del S o) vs ds
  | [], _, q => by cases q; exact .nil
  | d :: ds, _, q => by
    cases q with
    | cons h1 h2 => exact .cons (dp_del h d _ h1) (dpAll_del h ds _ h2)
end
theorem kv_del (h : S o = some (.frz od (.dK ws))) {us : List (Key × V)} {kvs : List (Key × PyData)} (q : KvD K S us kvs) : KvD K (del S o) us kvs := Paired.mapP q fun _ _ z => ⟨z.1, dp_del h _ _ z.2⟩
theorem walkItems {kvs : List (Key × PyData)} (h : S o = some (.frz od (.dK ws))) (hkv : KvD K S ws kvs) : WalkD K (Iti o od ws) S (kvs.map fun kv => .tuple [keyD kv.1, kv.2]) := by
  have hl := hkv.len
  refine ⟨fun i H hi hs => ⟨hs _ _ h, by rw [List.length_map] at hi; omega⟩, fun H hs => ⟨hs _ _ h, by rw [List.length_map]; omega⟩, fun i H x H' d S2 e s1 s2 y => ?_⟩
  obtain ⟨T, k, v, hv, rfl, hT, rfl⟩ := y
  rw [List.getElem?_map] at e
  cases hq : kvs[i]? with
  | none => rw [hq] at e; cases e
  | some kv =>
    rw [hq] at e
    cases e
    obtain ⟨v', hv', hd⟩ := hkv.get hq
    rw [hv] at hv'
    cases hv'
    exact dp_pair s2 hT rfl dp_key (Dp_mono hd s1)
end
section
variable {C : Cn} {l : List Sl} {i j : Nat} {o : Addr} {kvs : List (Key × PyData)} {te : TE} {s : L2.St} {H : Hp} {D : Ends}
end
theorem un1 {k : Nat} {A : Around} (r : Room k A) : A.units + 1 < cLine := by have := r.un; omega
end Dz

/-! Dzd: functions as values; the tables of code objects. -/
namespace Dz
open PySem PySem.Spec PySem.SeqAt PyProof.Rows L2 RZ LamX
/-- what a program's text leaves: lev, the room that a function value asks; T, the tables of code objects -/
structure Kx where
  P : Program
  w : World
  K : PySem.W.Frag
  mg : Str → Option Value
  base : Heap
  lev : Nat
  T : List (Addr × Str)
instance : Coe Kx PySem.W.Frag := ⟨Kx.K⟩
/-- a table that a call may add to -/
def isTab (S H : Hp) (a : Addr) : Prop := S a = none ∧ ∃ ps, H a = some (.tbl ps)
/-- the name of a lambda within a lambda (there is one alone) -/
def nqS : Str := "least_paper.<locals>.<lambda>" ++ ".<locals>." ++ "<lambda>"
/-- the object at c is a code object of the name q, with a table at P -/
def CodeP (c : Addr) (q : Str) (P : Addr) (h : Heap) : Prop := (∃ (oc : Obj) (vs : Array Value) (t : Tok), h.get? c = some oc ∧ oc.data = .fields vs ∧ vs[1]? = some (.str q t)) ∧ PySem.W.CodeHd h c P
def CodeN (c : Addr) (q : Str) (P : Addr) : HO := .ext (CodeP c q P)
theorem CodeP.stay {c : Addr} {q : Str} {P : Addr} {h h' : Heap} (x : CodeP c q P h) (k : ∀ o, h.get? c = some o → h'.get? c = some o) : CodeP c q P h' := by
  obtain ⟨⟨oc, vs, t, e1, e2, e3⟩, o, us, file, tf, flags, tg, inF, text, tt, f1, f2⟩ := x
  exact ⟨⟨oc, vs, t, k _ e1, e2, e3⟩, o, us, file, tf, flags, tg, inF, text, tt, k _ f1, f2⟩
theorem CodeP.tab {c : Addr} {q q' : Str} {P P' : Addr} {h : Heap} (x : CodeP c q P h) (y : CodeP c q' P' h) : P = P' := by
  obtain ⟨_, o, us, file, tf, flags, tg, inF, text, tt, f1, f2, f3, f4, _⟩ := x
  obtain ⟨_, o', us', file', tf', flags', tg', inF', text', tt', g1, g2, g3, g4, _⟩ := y
  rw [f1] at g1
  cases g1
  rw [f3] at g3
  cases g3
  rw [f4] at g4
  cases g4
  rfl
structure TabsOk (K : Kx) (S H : Hp) : Prop where
  st : ∀ p ∈ K.T, S p.1 = none ∧ ∃ ps : Array Value, H p.1 = some (.tbl ps) ∧ TriplesOk ps.toList ∧
    ∀ (pos : Pos) (cv : Value), codeAmong pos ps.toList = some cv → ∃ c P, cv = .ref c ∧ S c = some (CodeN c p.2 P)
  ne : ∀ c q P, S c = some (CodeN c q P) → (∀ p ∈ K.T, p.1 ≠ P) ∧ K.base.BuiltinsAt K.mg P ∧ mainGlobals ≠ P ∧ S P = none ∧ ∃ ps : Array Value, H P = some (.tbl ps) ∧ TriplesOk ps.toList ∧
    ∀ (pos : Pos) (cv : Value), codeAmong pos ps.toList = some cv → ∃ c2, cv = .ref c2 ∧ ∃ oc, S c2 = some (.frz oc (.own c2)) ∧ ∃ (vs : Array Value) (t : Tok), oc.data = .fields vs ∧ vs[1]? = some (.str nqS t)
/-- the promise of a function of data -/
def spL (K : Kx) (F : List PyData → Option PyData) : Sp := fun vs H Q _ => ∃ S ds d, Same S H ∧ TabsOk K S H ∧ DpAll K S vs ds ∧ F ds = some d ∧
  ∀ w S' H', GrowT (isTab S H) S H S' H' → TabsOk K S' H' → Dp K S' w d → Q w H'
/-- the same of a lambda whose code object is known -/
def spLc (K : Kx) (F : List PyData → Option PyData) (c : Addr) (q : Str) (P : Addr) (vs : List V) (H : Hp) (Q : VK) : Prop := ∃ S ds d, S c = some (CodeN c q P) ∧ Same S H ∧ TabsOk K S H ∧ DpAll K S vs ds ∧ F ds = some d ∧
  ∀ w S' H', GrowT (isTab S H) S H S' H' → TabsOk K S' H' → Dp K S' w d → Q w H'
theorem spLc.plain {K : Kx} {F : List PyData → Option PyData} {c : Addr} {q : Str} {P : Addr} {vs : List V} {H : Hp} {Q : VK} (E : XK) (h : spLc K F c q P vs H Q) : spL K F vs H Q E := by
  obtain ⟨S, ds, d, _, r⟩ := h
  exact ⟨S, ds, d, r⟩
/-- a function object that keeps it; what S knows is asked at the call -/
def FnV (K : Kx) (S : Hp) (v : V) (F : List PyData → Option PyData) : Prop := ∃ (f c P : Addr) (q : Str) (φ : Heap → Prop), v = .ref f ∧ S f = some (.ext φ) ∧ S c = some (CodeN c q P) ∧ (∀ h, φ h → PySem.W.FnAt f h) ∧
  ∀ (A : Around) (outer : List PySem.Env) (s : Shared) (H : Hp) (us : List Value) (vs : List V) (Q : VK), Room K.lev A → Env0 K.P K.w K.K K.mg K.base A outer s H → H f = some (.ext φ) → H c = some (CodeN c q P) → Vals vs us →
    spLc K F c q P vs H Q →
    codeAny (model K.P K.w) A (.call (.ref f) ⟨us, []⟩) (CR C8.CX0 outer K.P K.w H s Q C8.E0) s
section
variable {K : Kx} {S S1 H H1 S2 H2 : Hp}
theorem FnV.mono {v : V} {F : List PyData → Option PyData} (h : FnV K S v F) (q : Same S S1) : FnV K S1 v F := by
  obtain ⟨f, c, P, q', φ, e1, e2, e3, e4⟩ := h
  exact ⟨f, c, P, q', φ, e1, q _ _ e2, q _ _ e3, e4⟩
theorem isTab.there {a : Addr} (q : isTab S H a) : H a ≠ none ∧ S a = none := ⟨by obtain ⟨_, ps, e⟩ := q; exact some_ne e, q.1⟩
theorem isTab.back {a : Addr} (q : isTab S1 H1 a) (s : Same S S1) (k : ∀ o, H a = some o → (∃ ps, o = .tbl ps) ∨ H1 a = some o) : isTab S H a ∨ H a = none := by
  cases e : H a with
  | none => exact .inr rfl
  | some o =>
    obtain ⟨q1, ps, q2⟩ := q
    have sa : S a = none := by
      cases es : S a with
      | none => rfl
      | some u => rw [s _ _ es] at q1; cases q1
    rcases k o e with ⟨ps', rfl⟩ | z
    · exact .inl ⟨sa, ps', e⟩
    · rw [z] at q2; cases q2; exact .inl ⟨sa, ps, e⟩
/-- (for those who ask it of the tables) -/
theorem TabsOk.there (_ : TabsOk K S H) {a : Addr} (q : isTab S H a) : H a ≠ none ∧ S a = none := q.there
theorem TabsOk.go (h : TabsOk K S H) (q : Same S S1) (n : ∀ a, isTab S H a → S1 a = none) (k : ∀ a o, isTab S H a → H a = some o → H1 a = some o) (x : ∀ a φ, S1 a = some (.ext φ) → S a = some (.ext φ) := by first | exact fun _ _ e => e | exact no_ext (by intro φ z; cases z)) : TabsOk K S1 H1 := by
  refine ⟨fun p hp => ?_, fun c q' P hc => ?_⟩
  · obtain ⟨h1, ps, h2, h3, h4⟩ := h.st p hp
    refine ⟨n _ ⟨h1, ps, h2⟩, ps, k _ _ ⟨h1, ps, h2⟩ h2, h3, fun pos cv hc => ?_⟩
    obtain ⟨c, P, e1, e2⟩ := h4 pos cv hc
    exact ⟨c, P, e1, q _ _ e2⟩
  · obtain ⟨h0, hb, hm, h1, ps, h2, h3, h4⟩ := h.ne c q' P (x _ _ hc)
    refine ⟨h0, hb, hm, n _ ⟨h1, ps, h2⟩, ps, k _ _ ⟨h1, ps, h2⟩ h2, h3, fun pos cv hc => ?_⟩
    obtain ⟨c2, e1, oc, e2, e3⟩ := h4 pos cv hc
    exact ⟨c2, e1, oc, q _ _ e2, e3⟩
theorem TabsOk.grow {m : Addr → Prop} (h : TabsOk K S H) (g : Grow m S H S1 H1) (hm : ∀ a, isTab S H a → ¬ m a) : TabsOk K S1 H1 :=
  h.go g.s (fun a ha => g.n a ha.there.2 ha.there.1) (fun a o ha e => g.k a o (hm a ha) e) g.x
theorem GrowT.refl (h : Same S H) : GrowT (isTab S H) S H S H := ⟨Same.refl S, h, fun _ e _ => e, fun _ _ _ e => e, fun _ e => e, fun _ ps e => ⟨ps, e⟩⟩
theorem GrowT.trans (a : GrowT (isTab S H) S H S1 H1) (b : GrowT (isTab S1 H1) S1 H1 S2 H2) : GrowT (isTab S H) S H S2 H2 :=
  ⟨a.s.trans b.s, b.f, fun x e q => b.n x (a.n x e q) (a.d x q), fun x u hm e => b.k x u (fun z => by
    rcases z.back a.s (fun o eo => by
      by_cases ht : ∃ ps, o = .tbl ps
      · exact .inl ht
      · exact .inr (a.k x o (fun z => by obtain ⟨_, ps, e2⟩ := z; rw [eo] at e2; exact ht ⟨ps, Option.some.inj e2⟩) eo)) with q | q
    · exact hm q
    · rw [q] at e; cases e) (a.k x u hm e), fun x e => b.d x (a.d x e), fun x ps e => by
    obtain ⟨p1, e1⟩ := a.t x ps e
    exact b.t x p1 e1⟩
end
end Dz

/-! Dze: lambdas made, called, and sorted by. -/
namespace Dz
open PySem PySem.Spec PySem.SeqAt PyProof.Rows L2 RZ LamX
/-- the object at f is this lambda -/
def LamO (f : Addr) (q : Str) (ps : Arguments) (b : Expr) (sc : Scope) (cl : List (Str × Addr)) (pm : Value) (c : Addr) (ct : Value) : Heap → Prop := fun h => h.get? f = some (PySem.W.kla_obj "<lambda>" q ps b sc cl pm c ct)
section
variable {X : Cx} {K : Kx} {pins : List (Addr × Obj)} {σ : L2.St} {H S : Hp} {s : Shared}
theorem same_none (h : Same S H) {a : Addr} (e : H a = none) : S a = none := by
  cases q : S a with
  | none => rfl
  | some o => rw [h a o q] at e; cases e
/-- a function of an expression is made; its new code object has an empty table -/
theorem mk_new {M : Model} {A : Around} {E : Value → Shared → Prop} {Q : Value → Shared → Prop} {s : Shared} {nm q : Str} {ps : Arguments} {b : Expr} {sc : Scope} {env : PySem.Env} {c P : Addr} {tab : Array Value} {pos : Pos} {ln : Nat} {mg : Str → Option Value} {clos : List (Str × Addr)} (hcl : closureFor sc env = pure clos) (hg0 : env.globals = mainGlobals) (hg : s.heap.Ns mainGlobals mg) (hc : env.code = .ref c) (C : PySem.W.CodeHd s.heap c P) (hP : s.heap.get? P = some (PySem.W.tabObj tab)) (ht : TriplesOk tab.toList)
    (hn : codeAmong pos tab.toList = none) (hgP : mainGlobals ≠ P) (hb : s.heap.BuiltinsAt mg P)
    (h : ∀ c' P' ctv h' tk, Heap.ExtBut P s.heap h' → s.heap.objs.size ≤ c' → s.heap.objs.size ≤ P' → c' ≠ P' → c' < h'.objs.size → CodeP c' q P' h' → h'.get? P' = some (PySem.W.tabObj #[]) → h'.get? P = some (PySem.W.tabObj (tab ++ #[rawInt pos.line, rawInt pos.col, .ref c'])) →
      Q (.ref h'.objs.size) { s with heap := h'.push (PySem.W.kla_obj nm q ps b sc clos ((mg "__name__").getD .none) c' ctv), toks := tk }) : wpAny M A (makeFunction nm q ps (.expr b) sc env [] [] [] pos ln) Q E s := by
  obtain ⟨bm, ob, b1, b2, b3, b4, b5, b6, b7, b8⟩ := hb
  have mk : ∀ {h0 : Heap} {ctv : Value} (k0 : ∀ a o, s.heap.get? a = some o → h0.get? a = some o) (l0 : s.heap.objs.size ≤ h0.objs.size) (g0 : h0.Ns mainGlobals mg) (T : Heap → Tok → Shared) (eT : ∀ h' tk, T h' tk = { s with heap := h', toks := tk }) (c' : Addr) (h' : Heap) (tk : Tok), Heap.ExtBut P h0 h' → h0.objs.size ≤ c' → c' < h'.objs.size → h'.CodeRec (.ref c') q → h'.get? P = some (PySem.W.tabObj (tab ++ #[rawInt pos.line, rawInt pos.col, .ref c'])) → (∃ P', h0.objs.size ≤ P' ∧ h'.IsCode c' P' #[] ∧ h'.TableAt c' P' #[]) →
      Q (.ref h'.objs.size) { s with heap := h'.push (PySem.W.kla_obj nm q ps b sc clos ((mg "__name__").getD .none) c' ctv), toks := tk } := fun {h0 ctv} k0 l0 g0 T eT c' h' tk hx hge hlt hrec htb ⟨P', hP', i1, i2⟩ => by
    obtain ⟨c2, oc, us, t, e2, hoc, hd, hv⟩ := hrec
    cases e2
    have hd2 : PySem.W.CodeHd h' c' P' := PySem.W.CodeHd.of i1 i2
    have hne : c' ≠ P' := by obtain ⟨o, vs, f, tf, fl, tg, iF, tx, tt, z1, z2, z3, z4, z5, z6, z7, z8, z9, z10⟩ := hd2; exact z10
    exact h c' P' ctv h' tk (fun a o ha e => hx a o ha (k0 a o e)) (Nat.le_trans l0 hge) (Nat.le_trans l0 hP') hne hlt ⟨⟨oc, us, t, hoc, hd, hv⟩, hd2⟩ i2.2 htb
  rw [makeFunction_eq]
  simp only [List.zip_nil_right, List.filterMap_nil, List.isEmpty_nil, if_true, pure_bind]
  unfold makeTail
  rw [hcl, hg0]
  refine wpAny_bind (wpAny_pure (?_ : _))
  by_cases hcn : clos = []
  · subst hcn
    rw [show ([] : List (Str × Addr)).isEmpty = true from rfl, if_pos rfl]
    refine wpAny_bind (wpAny_pure (?_ : _))
    refine wpAny_bind (PySem.wpAny_functionCodeX hc (C.code hP ht) (C.tab hP) hn fun c' h' tk hx hge hlt _ hrec htb hnew => (?_ : _))
    refine wpAny_bind (wpAny_builtinsFor (hg.extBut hx hgP) b1 b2 (hx _ _ b4 b5) b6 b7 b8 (wpAny_bind (wpAny_nsGet (hg.extBut hx hgP) (wpAny_bind (wpAny_pure (wpAny_newObj_type (?_ : _) (by size_fits)))))))
    exact mk (fun _ _ e => e) (Nat.le_refl _) hg (fun h' tk => { s with heap := h', toks := tk }) (fun _ _ => rfl) c' h' tk hx hge hlt hrec htb.2 hnew
  · rw [if_neg (by simp [List.isEmpty_iff, hcn])]
    have kp : ∀ {o1 : Obj} (a : Addr) (o : Obj), s.heap.get? a = some o → (s.heap.push o1).get? a = some o := fun a o e => Heap.get?_push_of_some _ e
    refine wpAny_bind (wpAny_newTextTuple (?_ : _))
    refine wpAny_bind (PySem.wpAny_functionCodeX hc ((C.keeps kp).code (kp _ _ hP) ht) ((C.keeps kp).tab (kp _ _ hP)) hn fun c' h' tk hx hge hlt _ hrec htb hnew => (?_ : _))
    refine wpAny_bind (wpAny_builtinsFor ((hg.push _).extBut hx hgP) b1 b2 (hx _ _ b4 (kp _ _ b5)) b6 b7 b8 (wpAny_bind (wpAny_nsGet ((hg.push _).extBut hx hgP) (wpAny_bind (wpAny_pure (wpAny_newObj_type (?_ : _) (by size_fits)))))))
    exact mk kp (by rw [Heap.size_push]; exact Nat.le_succ _) (hg.push _) (fun h' tk => { s with heap := h', toks := tk }) (fun _ _ => rfl) c' h' tk hx hge hlt hrec htb.2 hnew
/-- one table is added to; all else of the heap stays, what is new is told -/
theorem inv_tabs {P : Addr} {ps more : Array Value} {h' : Heap} {t' : Nat} {H' : Hp} (I : Inv X pins σ H s) (hP : H P = some (.tbl ps)) (k : ∀ b o, b ≠ P → s.heap.get? b = some o → h'.get? b = some o) (hm : h'.get? P = some { cls := .none, data := .fields (ps ++ more) }) (hP' : H' P = some (.tbl (ps ++ more)))
    (old : ∀ b u, b ≠ P → H b = some u → H' b = some u) (new : ∀ b u, H' b = some u → b = P ∨ H b = some u ∨ (@LE.le Nat _ s.heap.objs.size b ∧ ObjOk X.prog X.w H' h' b u)) : Inv X pins σ H' { s with heap := h', toks := t' } := by
  have nP : ∀ b, H b = none → b ≠ P := fun b e z => by rw [z, hP] at e; cases e
  have oldT : ∀ b u, H b = some u → (∀ q, u ≠ .tbl q) → H' b = some u := fun b u e hu => old b u (fun z => by rw [z, hP] at e; exact hu ps (Option.some.inj e).symm) e
  refine I.step (g' := s.gens) (d' := s.drawn) (ch := []) (fun b hb => nomatch hb) (fun b o _ _ _ e n => k b o (nP b n) e) (fun b o _ _ _ e n => ⟨o.slots, k b o (nP b n) e⟩) (fun b o _ e n => ?_) (fun b o _ e => ?_)
    (fun b xs e => oldT b _ e fun q z => nomatch z) (fun b o u e => oldT b _ e fun q z => nomatch z) (fun b qs e => ?_) (fun m hn => ?_) (fun b u e => ?_) I.bare
  · cases q : H' b with
    | none => rfl
    | some u =>
      rcases new b u q with z | z | ⟨z, _⟩
      · exact absurd z (nP b n)
      · rw [n] at z; cases z
      · exact absurd (Nat.lt_of_lt_of_le (Heap.lt_size e) z) (Nat.lt_irrefl _)
  · by_cases hb : b = P
    · rw [hb]; exact ⟨_, hm⟩
    · exact ⟨o, k b o hb e⟩
  · by_cases hb : b = P
    · rw [hb] at e ⊢
      rw [hP] at e
      cases e
      exact ⟨more, hP'⟩
    · exact ⟨#[], by rw [old b _ hb e]; simp⟩
  · obtain ⟨ob, es, ep, ho, r⟩ := hn
    exact ⟨ob, es, ep, k _ ob (nP _ I.free) ho, r⟩
  · by_cases hb : b = P
    · rw [hb] at e ⊢
      rw [hP'] at e
      cases e
      exact hm
    · rcases new b u e with z | z | ⟨_, z⟩
      · exact absurd z hb
      · refine (I.hok b u z).stay (fun d v hd q => k d v ?_ q) (fun d q => oldT d _ q fun q z => nomatch z) fun d xs q => oldT d _ q fun q z => nomatch z
        rcases hd with hd | hd
        · rw [hd]; exact hb
        · exact fun z => by rw [z, hP] at hd; cases hd
      · exact z
/-- the tables behind a new code object with a table of its own -/
theorem tabs_new {T0 c' P' : Addr} {q : Str} {tab : Array Value} {pos : Pos} (tb : TabsOk K S H) (hs : Same S H) (hm : (T0, q) ∈ K.T) (hu : ∀ p ∈ K.T, p.1 = T0 → p.2 = q) (hP : H T0 = some (.tbl tab)) (nC : H c' = none) (nP : H P' = none) (hne : c' ≠ P') (hb : K.base.BuiltinsAt K.mg P') (hg : mainGlobals ≠ P')
    (one : ∀ q2 P2, CodeN c' q2 P2 = CodeN c' q P' → P2 = P') : GrowT (isTab S H) S H (upd S c' (CodeN c' q P')) (upd (upd (upd H T0 (.tbl (tab ++ #[rawInt pos.line, rawInt pos.col, .ref c']))) P' (.tbl #[])) c' (CodeN c' q P')) ∧
      TabsOk K (upd S c' (CodeN c' q P')) (upd (upd (upd H T0 (.tbl (tab ++ #[rawInt pos.line, rawInt pos.col, .ref c']))) P' (.tbl #[])) c' (CodeN c' q P')) := by
  have sC : S c' = none := same_none hs nC
  have sP : S P' = none := same_none hs nP
  obtain ⟨sT, tab2, hP2, ht, ha⟩ := tb.st _ hm
  have sT : S T0 = none := sT
  have hP2 : H T0 = some (.tbl tab2) := hP2
  rw [hP] at hP2
  cases hP2
  have nTc : T0 ≠ c' := ne_of_none hP nC
  have nTP : T0 ≠ P' := ne_of_none hP nP
  have at_ : ∀ a, a ≠ T0 → a ≠ P' → a ≠ c' → upd (upd (upd H T0 (.tbl (tab ++ #[rawInt pos.line, rawInt pos.col, .ref c']))) P' (.tbl #[])) c' (CodeN c' q P') a = H a := fun a h1 h2 h3 => by rw [upd_ne h3, upd_ne h2, upd_ne h1]
  have atT : upd (upd (upd H T0 (.tbl (tab ++ #[rawInt pos.line, rawInt pos.col, .ref c']))) P' (.tbl #[])) c' (CodeN c' q P') T0 = some (.tbl (tab ++ #[rawInt pos.line, rawInt pos.col, .ref c'])) := by rw [upd_ne nTc, upd_ne nTP, upd_same]
  have atP : upd (upd (upd H T0 (.tbl (tab ++ #[rawInt pos.line, rawInt pos.col, .ref c']))) P' (.tbl #[])) c' (CodeN c' q P') P' = some (.tbl #[]) := by rw [upd_ne hne.symm, upd_same]
  have atC : upd (upd (upd H T0 (.tbl (tab ++ #[rawInt pos.line, rawInt pos.col, .ref c']))) P' (.tbl #[])) c' (CodeN c' q P') c' = some (CodeN c' q P') := upd_same
  have nil : ∀ (pos : Pos) (cv : Value), codeAmong pos (#[] : Array Value).toList = some cv → False := fun pos cv z => by
    have z : codeAmong pos [] = some cv := z
    simp [codeAmong] at z
  generalize upd (upd (upd H T0 (.tbl (tab ++ #[rawInt pos.line, rawInt pos.col, .ref c']))) P' (.tbl #[])) c' (CodeN c' q P') = H1 at at_ atT atP atC ⊢
  refine ⟨⟨same_up sC, fun a o e => ?_, fun a e1 e2 => ?_, fun a o hn e => ?_, fun a e => ?_, fun a ps e => ?_⟩, fun p hp => ?_, fun c q2 P2 hc => ?_⟩
  · by_cases hac : a = c'
    · rw [hac, upd_same] at e; rw [hac, atC]; exact e
    · rw [upd_ne hac] at e
      rw [at_ a (fun z => by rw [z, sT] at e; cases e) (fun z => by rw [z, sP] at e; cases e) hac]
      exact hs a o e
  · rw [upd_ne fun z => e2 (by rw [z]; exact nC)]; exact e1
  · rw [at_ a (fun z => hn (by rw [z]; exact ⟨sT, _, hP⟩)) (ne_of_none e nP) (ne_of_none e nC)]; exact e
  · by_cases hac : a = c'
    · rw [hac, atC]; exact fun z => nomatch z
    · by_cases hap : a = T0
      · rw [hap, atT]; exact fun z => nomatch z
      · rw [at_ a hap (fun z => e (by rw [z]; exact nP)) hac]; exact e
  · by_cases hap : a = T0
    · rw [hap, atT]; exact ⟨_, rfl⟩
    · rw [at_ a hap (ne_of_none e nP) (ne_of_none e nC)]; exact ⟨_, e⟩
  · obtain ⟨p1, p2, p3, p4, p5⟩ := tb.st p hp
    have hpc : p.1 ≠ c' := ne_of_none p3 nC
    have hpP : p.1 ≠ P' := ne_of_none p3 nP
    refine ⟨by rw [upd_ne hpc]; exact p1, ?_⟩
    by_cases hpp : p.1 = T0
    · have eL : (tab ++ #[rawInt pos.line, rawInt pos.col, .ref c']).toList = tab.toList ++ [rawInt pos.line, rawInt pos.col, .ref c'] := by simp
      refine ⟨_, by rw [hpp]; exact atT, by rw [eL]; exact PySem.TriplesOk_snoc _ _ _ _ ht, fun pos' cv hcv => ?_⟩
      rw [eL] at hcv
      rw [hu p hp hpp]
      rcases among_app _ ht hcv with z | z
      · obtain ⟨c0, P0, q1, q2⟩ := ha pos' cv z
        exact ⟨c0, P0, q1, same_up sC _ _ q2⟩
      · exact ⟨c', P', z, upd_same⟩
    · refine ⟨p2, by rw [at_ p.1 hpp hpP hpc]; exact p3, p4, fun pos' cv hcv => ?_⟩
      obtain ⟨c0, P0, q1, q2⟩ := p5 pos' cv hcv
      exact ⟨c0, P0, q1, same_up sC _ _ q2⟩
  · by_cases hcc : c = c'
    · subst hcc
      rw [upd_same] at hc
      obtain rfl := one q2 P2 (Option.some.inj hc).symm
      exact ⟨fun p hp z => (ne_of_none (tb.st p hp).2.choose_spec.1 nP) z, hb, hg, by rw [upd_ne hne.symm]; exact sP, #[], atP, True.intro, fun pos cv z => (nil pos cv z).elim⟩
    · rw [upd_ne hcc] at hc
      obtain ⟨n1, n2, n3, n4, ps, n5, n6, n7⟩ := tb.ne c q2 P2 hc
      have hPc : P2 ≠ c' := ne_of_none n5 nC
      refine ⟨n1, n2, n3, by rw [upd_ne hPc]; exact n4, ps, by rw [at_ P2 (fun z => n1 _ hm z.symm) (ne_of_none n5 nP) hPc]; exact n5, n6, fun pos cv hcv => ?_⟩
      obtain ⟨c2, q1, oc, q2, q3⟩ := n7 pos cv hcv
      exact ⟨c2, q1, oc, same_up sC _ _ q2, q3⟩
/-- a lambda is made -/
theorem lam_new {c T0 : Addr} {ps : Arguments} {b : Expr} {sc : Scope} {pos : Pos} {E : Value → Shared → Prop} {Q : Value → Shared → Prop} (I : Inv X pins σ H s) (hs : Same S H) (tb : TabsOk K S H) (hbs : X.base = K.base) (hmg : X.mg = K.mg) (TB : TabB X.base X.mg c T0) (hcode : X.env.code = .ref c)
    (hm : (T0, X.env.qual ++ "<lambda>") ∈ K.T) (hu : ∀ p ∈ K.T, p.1 = T0 → p.2 = X.env.qual ++ "<lambda>") (hdef : defaultsOf ps X.env = ([], [])) (hfree : ∀ y ∈ sc.names, y.2 = .free → ∃ c, X.env.cells.lookup y.1 = some c)
    (h : ∀ (f c' P' : Addr) (pm ct : Value) (S1 H1 : Hp) (s' : Shared), Inv X pins σ H1 s' → GrowT (isTab S H) S H S1 H1 → TabsOk K S1 H1 → H f = none →
      S1 f = some (.ext (LamO f (X.env.qual ++ "<lambda>") ps b sc (cloFrom X.env.cells sc.names []) pm c' ct)) → S1 c' = some (CodeN c' (X.env.qual ++ "<lambda>") P') → Q (.ref f) s') :
    wpAny (model X.prog X.w) X.A (eval (.Lambda ps b sc pos) X.env) Q E s := by
  obtain ⟨nP, tab, hP, ht, ha⟩ := tb.st _ hm
  have nP : S T0 = none := nP
  have hP : H T0 = some (.tbl tab) := hP
  have bP : s.heap.BuiltinsAt X.mg T0 := TB.bm.keeps I.bk
  have hP' : s.heap.get? T0 = some { cls := .none, data := .fields tab } := I.hok T0 _ hP
  refine PySem.W.kla_eval hdef ?_
  -- the function object, behind the code object
  have fin : ∀ {S1 H1 : Hp} {h1 : Heap} {tk : Nat} {c' P' : Addr} {ct : Value}, Inv X pins σ H1 { s with heap := h1, toks := tk } → GrowT (isTab S H) S H S1 H1 → TabsOk K S1 H1 → S1 c' = some (CodeN c' (X.env.qual ++ "<lambda>") P') →
      Q (.ref h1.objs.size) { s with heap := h1.push (PySem.W.kla_obj "<lambda>" (X.env.qual ++ "<lambda>") ps b sc (cloFrom X.env.cells sc.names []) ((X.mg "__name__").getD .none) c' ct), toks := tk } := fun {S1 H1 h1 tk c' P' ct} I1 g1 tb1 sc' => by
    have hf : H1 h1.objs.size = none := I1.hok.fresh (Nat.le_refl _)
    have hf0 : H h1.objs.size = none := by
      cases z : H h1.objs.size with
      | none => rfl
      | some o => exact absurd hf (g1.d _ (some_ne z))
    have I2 := I1.laid (h' := h1.push (PySem.W.kla_obj "<lambda>" (X.env.qual ++ "<lambda>") ps b sc (cloFrom X.env.cells sc.names []) ((X.mg "__name__").getD .none) c' ct)) (t' := tk) (a := h1.objs.size) (o := .ext (LamO h1.objs.size (X.env.qual ++ "<lambda>") ps b sc (cloFrom X.env.cells sc.names []) ((X.mg "__name__").getD .none) c' ct))
      (fun z o e => Heap.get?_push_of_some _ e) (Nat.le_refl _) ⟨Heap.get?_push_size _ rfl, ⟨_, Heap.get?_push_size _ rfl⟩, fun h1 h2 q st => st _ q⟩
    have hg : (h1.push (PySem.W.kla_obj "<lambda>" (X.env.qual ++ "<lambda>") ps b sc (cloFrom X.env.cells sc.names []) ((X.mg "__name__").getD .none) c' ct)).get? h1.objs.size = some (PySem.W.kla_obj "<lambda>" (X.env.qual ++ "<lambda>") ps b sc (cloFrom X.env.cells sc.names []) ((X.mg "__name__").getD .none) c' ct) := Heap.get?_push_size _ rfl
    have ncd : ∀ q P, (HO.ext (LamO h1.objs.size (X.env.qual ++ "<lambda>") ps b sc (cloFrom X.env.cells sc.names []) ((X.mg "__name__").getD .none) c' ct)) = CodeN h1.objs.size q P → False := fun q P z => by
      have zz := congrFun (HO.ext.inj z) _ ▸ (show LamO h1.objs.size (X.env.qual ++ "<lambda>") ps b sc (cloFrom X.env.cells sc.names []) ((X.mg "__name__").getD .none) c' ct _ from hg)
      obtain ⟨_, o, us, file, tf, flags, tg, inF, text, tt, f1, f2, _⟩ := zz
      rw [hg] at f1
      cases f1
      exact absurd (show ("function" : String) = "code" from by injection f2) (by decide)
    have sf : S1 h1.objs.size = none := same_none g1.f hf
    refine h _ c' P' _ ct _ _ _ I2 (g1.trans ⟨same_up sf, same_upup g1.f, fun a e q => ?_, fun a u _ e => by rw [upd_ne (ne_of_none e hf)]; exact e, fun a e => ?_, fun a ps e => ⟨ps, by rw [upd_ne (ne_of_none e hf)]; exact e⟩⟩) ⟨fun p hp => ?_, fun c q P hc => ?_⟩ hf0 upd_same (by rw [upd_ne (ne_of_none sc' sf)]; exact sc')
    · rw [upd_ne fun z => q (by rw [z]; exact hf)]; exact e
    · by_cases z : a = h1.objs.size
      · rw [z, upd_same]; exact fun z => nomatch z
      · rw [upd_ne z]; exact e
    · obtain ⟨p1, p2, p3, p4, p5⟩ := tb1.st p hp
      have hpf := ne_of_none p3 hf
      refine ⟨by rw [upd_ne hpf]; exact p1, p2, by rw [upd_ne hpf]; exact p3, p4, fun pos cv hcv => ?_⟩
      obtain ⟨c0, P0, q1, q2⟩ := p5 pos cv hcv
      exact ⟨c0, P0, q1, same_up sf _ _ q2⟩
    · by_cases hcf : c = h1.objs.size
      · rw [hcf, upd_same] at hc
        exact (ncd q P (Option.some.inj hc)).elim
      · rw [upd_ne hcf] at hc
        obtain ⟨n1, n2, n3, n4, ps, n5, n6, n7⟩ := tb1.ne c q P hc
        have hPf := ne_of_none n5 hf
        refine ⟨n1, n2, n3, by rw [upd_ne hPf]; exact n4, ps, by rw [upd_ne hPf]; exact n5, n6, fun pos cv hcv => ?_⟩
        obtain ⟨c2, q1, oc, q2, q3⟩ := n7 pos cv hcv
        exact ⟨c2, q1, oc, same_up sf _ _ q2, q3⟩
  cases hc : codeAmong pos tab.toList with
  | some cv =>
    obtain ⟨c', P', rfl, hco⟩ := ha pos cv hc
    exact PySem.W.kla_makeFunctionHit (mg := X.mg) (c := c) (P := T0) (ps := tab) (closure_ok hfree) I.ok.glob (I.mod.glob.keeps I.bk) hcode (TB.code.keeps I.bk) hP' ht hc bP fun ct h' tk hx hsz => fin (I.kept hx) (GrowT.refl hs) tb hco
  | none =>
    refine mk_new (mg := X.mg) (c := c) (P := T0) (tab := tab) (closure_ok hfree) I.ok.glob (I.mod.glob.keeps I.bk) hcode (TB.code.keeps I.bk) hP' ht hc TB.gP bP fun c' P' ct h' tk hx hge hgp hne hlt hcp hnt htb => ?_
    have nC : H c' = none := I.hok.fresh hge
    have nN : H P' = none := I.hok.fresh hgp
    have hb : K.base.BuiltinsAt K.mg P' := by
      obtain ⟨bm, ob, b1, b2, b3, b4, b5, b6⟩ := TB.bm
      rw [← hbs, ← hmg]
      exact ⟨bm, ob, b1, b2, b3, Nat.ne_of_lt (Nat.lt_of_lt_of_le (Heap.lt_size (I.bk _ _ b5)) hgp), b5, b6⟩
    have hg : mainGlobals ≠ P' := by
      obtain ⟨o, es, ep, e, _⟩ := I.mod.glob.keeps I.bk
      exact Nat.ne_of_lt (Nat.lt_of_lt_of_le (Heap.lt_size e) hgp)
    obtain ⟨g1, tb1⟩ := tabs_new (pos := pos) tb hs hm hu hP nC nN hne hb hg fun q2 P2 z => CodeP.tab (congrFun (HO.ext.inj z) h' ▸ hcp) hcp
    refine fin (inv_tabs (more := #[rawInt pos.line, rawInt pos.col, .ref c']) (t' := tk) I hP hx htb ?_ (fun z u hz e => ?_) fun z u e => ?_) g1 tb1 upd_same
    · rw [upd_ne (ne_of_none hP nC), upd_ne (ne_of_none hP nN), upd_same]
    · rw [upd_ne (ne_of_none e nC), upd_ne (ne_of_none e nN), upd_ne hz]; exact e
    · by_cases z1 : z = c'
      · rw [z1, upd_same] at e
        cases e
        rw [z1]
        exact .inr (.inr ⟨hge, hcp, by obtain ⟨⟨o, _, _, e, _⟩, _⟩ := hcp; exact ⟨o, e⟩, fun h1 h2 x st => x.stay st⟩)
      · rw [upd_ne z1] at e
        by_cases z2 : z = P'
        · rw [z2, upd_same] at e
          cases e
          rw [z2]
          exact .inr (.inr ⟨hgp, hnt⟩)
        · rw [upd_ne z2] at e
          by_cases z3 : z = T0
          · exact .inl z3
          · rw [upd_ne z3] at e
            exact .inr (.inl e)
/-- a lambda that holds nothing of its maker keeps its promise -/
theorem lam_fn {F : List PyData → Option PyData} {f c' P' : Addr} {q : Str} {ps : Arguments} {b : Expr} {sc : Scope} {pm ct : Value} {N names : List Str} {k : Nat} (hf : S f = some (.ext (LamO f q ps b sc [] pm c' ct))) (hc : S c' = some (CodeN c' q P')) (SC : FnScope N names sc) (hlev : K.lev = k + 1)
    (hlen : ∀ ds d, F ds = some d → ds.length = names.length)
    (hbind : ∀ us : List Value, us.length = names.length → bindArgs (PySem.W.kla_fn "<lambda>" q ps b sc [] pm (.ref c') ct) ⟨us, []⟩ = pure (names.zip us))
    (hbody : ∀ (A : Around) (outer : List PySem.Env) (s : Shared) (H : Hp) (vs : List V) (Q : VK), Room k (A.deeper (envOfC q sc s.heap.objs.size f (.ref c'))) → spLc K F c' q P' vs H Q →
      ∃ t, PE (cxOf C8.CX0 K.P K.w K.K K.mg K.base N q sc f (.ref c') A outer s H C8.E0) b t ∧ t (L2.start N vs) H Q) : FnV K S (.ref f) F := by
  refine ⟨f, c', P', q, _, rfl, hf, hc, fun h z => ⟨_, _, _, _, z⟩, fun A outer s H us vs Q hr e0 h1 h2 rv hsp => ?_⟩
  rw [hlev] at hr
  obtain ⟨hl, _, _⟩ := e0.hok f _ h1
  obtain ⟨⟨⟨oc, us', t, hoc, hd, hv⟩, _⟩, _⟩ := e0.hok c' _ h2
  have hvl : vs.length = names.length := by
    obtain ⟨S2, ds, d, _, _, _, hdp, e, _⟩ := id hsp
    rw [DpAll_len hdp, hlen ds d e]
  have hul : us.length = names.length := by rw [← rv.length]; exact hvl
  have lim : s.heap.NoLimit := e0.mod.nolimit.keeps fun b o e => (e0.bs b o e).1
  have hkind : ∀ y ∈ names.zip us, sc.names.lookup y.1 = some .local ∨ (sc.names.lookup y.1 = some .cell ∧ ((cellsFrom (s.heap.objs.size + 1) sc.names []).lookup y.1).isSome = true) := fun ⟨n, v⟩ hy => by
    rcases SC.par n (List.of_mem_zip hy).1 with z | z
    · exact .inl z
    · exact .inr ⟨z, PySem.W.cellsFrom_some _ _ _ (.inl z)⟩
  refine PySem.W.kla_callFunE hr.depth hl rfl SC.co SC.gen rfl ⟨c', oc, us', t, rfl, hoc, hd, hv⟩ ?_
  rw [hbind us hul]
  refine wpAny_pure (wpAny_newFunctionEnv_cells SC.kind hkind fun env he s1 x => ?_)
  subst he
  refine ⟨lim.keeps x.toInCall.keep, ?_⟩
  obtain ⟨t, ht, hq⟩ := hbody A outer s H vs Q (hr.deeper _) hsp
  have I : Inv (cxOf C8.CX0 K.P K.w K.K K.mg K.base N q sc f (.ref c') A outer s H C8.E0) [] (L2.start N vs) H s1 := inv_start SC hr.hd e0 hvl rv x
  refine PySem.W.kla_codeExpr (wpAny_mono (ht.run [] s1 (L2.start N vs) H Q I hq) (fun v s' hs => ?_) fun e s' hs => hs)
  obtain ⟨w', H', J, rw', q'⟩ := hs
  exact ⟨w', H', J.os, J.bare, J.base, J.hok, rw', q'⟩
/-! ### a lambda as a value -/
def tLamV (K : Kx) (F : List PyData → Option PyData) : TE := fun _ H Q => ∃ S, Same S H ∧ TabsOk K S H ∧ ∀ v S1 H1, GrowT (isTab S H) S H S1 H1 → TabsOk K S1 H1 → FnV K S1 v F → Q v H1
/-- the context is of this text -/
structure CxK (K : Kx) (X : Cx) : Prop where
  p : X.prog = K.P
  w : X.w = K.w
  k : X.K = K.K
  m : X.mg = K.mg
  b : X.base = K.base
/-- where a def's lambdas are kept -/
structure TabAt (K : Kx) (code : Value) (q : Str) : Prop where
  ex : ∃ c T0 : Addr, code = .ref c ∧ TabB K.base K.mg c T0 ∧ (T0, q) ∈ K.T ∧ ∀ p ∈ K.T, p.1 = T0 → p.2 = q
theorem clo_nil {cells : List (Str × Addr)} {ns : List (Str × NameKind)} (h : ∀ y ∈ ns, y.2 ≠ .free) : cloFrom cells ns [] = [] := by
  cases e : cloFrom cells ns [] with
  | nil => rfl
  | cons a r =>
    have hm : a ∈ cloFrom cells ns [] := by rw [e]; exact List.mem_cons_self
    obtain ⟨y, c⟩ := a
    rcases cloFrom_mem hm with z | ⟨z, _⟩
    · cases z
    · exact absurd rfl (h _ z)
theorem pe_lamVc {F : List PyData → Option PyData} {ps : Arguments} {b : Expr} {sc : Scope} {pos : Pos} {N names : List Str} {k : Nat} (hX : CxK K X) (TA : TabAt K X.env.code (X.env.qual ++ "<lambda>")) (hdef : defaultsOf ps X.env = ([], [])) (SC : FnScope N names sc) (hlev : K.lev = k + 1)
    (hlen : ∀ ds d, F ds = some d → ds.length = names.length)
    (hbind : ∀ (q : Str) (pm cv ct : Value) (us : List Value), us.length = names.length → bindArgs (PySem.W.kla_fn "<lambda>" q ps b sc [] pm cv ct) ⟨us, []⟩ = pure (names.zip us))
    (hbody : ∀ (f c' P' : Addr) (A : Around) (outer : List PySem.Env) (s : Shared) (H : Hp) (vs : List V) (Q : VK), Room k (A.deeper (envOfC (X.env.qual ++ "<lambda>") sc s.heap.objs.size f (.ref c'))) → spLc K F c' (X.env.qual ++ "<lambda>") P' vs H Q →
      ∃ t, PE (cxOf C8.CX0 K.P K.w K.K K.mg K.base N (X.env.qual ++ "<lambda>") sc f (.ref c') A outer s H C8.E0) b t ∧ t (L2.start N vs) H Q) : PE X (.Lambda ps b sc pos) (tLamV K F) := by
  refine ⟨fun pins s σ H Q I h => ?_⟩
  obtain ⟨S, hs, tb, q⟩ := h
  obtain ⟨c, T0, e1, e2, e3, e4⟩ := TA.ex
  rw [← hX.b, ← hX.m] at e2
  refine lam_new I hs tb hX.b hX.m e2 e1 e3 e4 hdef (fun y hy z => absurd z (SC.nofree y hy)) fun f c' P' pm ct S1 H1 s' I1 g tb1 hf0 hf hc => ?_
  rw [clo_nil SC.nofree] at hf
  exact ⟨.ref f, H1, I1, rfl, q _ S1 H1 g tb1 (lam_fn hf hc SC hlev hlen (fun us hl => hbind _ _ _ _ us hl) fun A outer s H vs Q hr hsp => hbody f c' P' A outer s H vs Q hr hsp)⟩
theorem pe_lamV {F : List PyData → Option PyData} {ps : Arguments} {b : Expr} {sc : Scope} {pos : Pos} {N names : List Str} {k : Nat} (hX : CxK K X) (TA : TabAt K X.env.code (X.env.qual ++ "<lambda>")) (hdef : defaultsOf ps X.env = ([], [])) (SC : FnScope N names sc) (hlev : K.lev = k + 1)
    (hlen : ∀ ds d, F ds = some d → ds.length = names.length)
    (hbind : ∀ (q : Str) (pm cv ct : Value) (us : List Value), us.length = names.length → bindArgs (PySem.W.kla_fn "<lambda>" q ps b sc [] pm cv ct) ⟨us, []⟩ = pure (names.zip us))
    (hbody : ∀ (f c' : Addr) (A : Around) (outer : List PySem.Env) (s : Shared) (H : Hp) (vs : List V) (Q : VK), Room k (A.deeper (envOfC (X.env.qual ++ "<lambda>") sc s.heap.objs.size f (.ref c'))) → spL K F vs H Q C8.E0 →
      ∃ t, PE (cxOf C8.CX0 K.P K.w K.K K.mg K.base N (X.env.qual ++ "<lambda>") sc f (.ref c') A outer s H C8.E0) b t ∧ t (L2.start N vs) H Q) : PE X (.Lambda ps b sc pos) (tLamV K F) :=
  pe_lamVc hX TA hdef SC hlev hlen hbind fun f c' _ A outer s H vs Q hr h => hbody f c' A outer s H vs Q hr (h.plain _)
/-! ### a call of what a slot holds -/
def tCallF (K : Kx) (i : Nat) (ta : TA) : TE := fun σ H Q => ∃ v S F, σ[i]? = some (some v) ∧ FnV K S v F ∧ Same S H ∧ ta σ H fun vs H1 => ∃ S1, Same S S1 ∧ ∃ ds d, Same S1 H1 ∧ TabsOk K S1 H1 ∧ DpAll K S1 vs ds ∧ F ds = some d ∧ ∀ w S' H', GrowT (isTab S1 H1) S1 H1 S' H' → TabsOk K S' H' → Dp K S' w d → Q w H'
theorem pe_callF {i : Nat} {x : Str} {p pos : Pos} {e : Expr} {es : List Expr} {ta : TA} (hX : CxK K X) (hr : Room K.lev X.A) (hN : X.N[i]? = some x) (hv : Vis X.env.scope x) (ha : PA X (e :: es) ta)
    (hdb : (x == ("__debug__" : Str)) = false := by decide) (hcd : (x == ("__classdict__" : Str)) = false := by decide)
    (he : starEach (e :: es) X.env = (false, eval e X.env) :: starEach es X.env := by rfl) (hpl : (backTo pos (starEach es X.env)).any (·.1) = false := by rfl) : PE X (.Call (.Name x p) (e :: es) [] pos) (tCallF K i ta) := by
  refine ⟨fun pins s σ H Q I h => ?_⟩
  obtain ⟨v, S, F, hs, hF, hsm, ht⟩ := h
  refine wpAny_Call_Name_kw (thn ((pe_var (pos := p) hN hv hdb hcd).run pins s σ H (fun v' H1 => v' = v ∧ H1 = H) I ⟨v, hs, rfl, rfl⟩) fun u s1 ⟨v', H1, I1, r1, q1⟩ => ?_)
  obtain ⟨rfl, rfl⟩ := q1
  obtain ⟨f, c, P', q', φ, rfl, hf, hc, hfn, run⟩ := hF
  cases r1
  rw [← hX.p, ← hX.w, ← hX.k, ← hX.m, ← hX.b] at run
  refine PySem.W.callWith_F (hfn _ (I1.hok f _ (hsm _ _ hf)).1) (thn (ha.run pos pins s1 σ _ _ I1 ht) fun us s2 ⟨vs, H2, I2, r, q⟩ => ?_) he hpl
  obtain ⟨S1, hs2, ds, d, hs3, tb, hd, he, hQ⟩ := q
  refine ⟨hfn _ (I2.hok f _ (hs3 _ _ (hs2 _ _ hf))).1, ?_⟩
  refine wpAny_call (codeAny_mono (run X.A X.stack s2 H2 us vs Q hr I2.env0 (hs3 _ _ (hs2 _ _ hf)) (hs3 _ _ (hs2 _ _ hc)) r ⟨S1, ds, d, hs2 _ _ hc, hs3, tb, hd, he, hQ⟩) fun z s' hq => ?_)
  cases z with
  | error e => exact hq.elim
  | ok fl =>
    cases fl with
    | ret u => exact I2.after hq
    | next => exact hq.elim
    | brk => exact hq.elim
    | cont => exact hq.elim
/-! ### a lambda with one parameter and names of its maker, called while its maker stands still -/
structure KeyS (sc scope : Scope) (p : Str) : Prop where
  kind : scope.kind = .function
  co : scope.isCoroutine = false
  gen : scope.isGenerator = false
  par : scope.names.lookup p = some .local
  own : ∀ y ∈ scope.names, y.2 ≠ .cell
  free : ∀ y ∈ scope.names, y.2 = .free → sc.names.lookup y.1 = some .cell ∨ sc.names.lookup y.1 = some .free
  one : ∀ x, scope.names.lookup x = some .local → x = p
def keySB (sc scope : Scope) (p : Str) : Bool :=
  decide (scope.kind = .function) && (!scope.isCoroutine && (!scope.isGenerator && (decide (scope.names.lookup p = some .local) && scope.names.all fun y => !decide (y.2 = .cell) && ((!decide (y.2 = .free) || decide (sc.names.lookup y.1 = some .cell) || decide (sc.names.lookup y.1 = some .free)) && (!decide (y.2 = .local) || decide (y.1 = p))))))
theorem keyS_by {sc scope : Scope} {p : Str} (h : keySB sc scope p = true) : KeyS sc scope p := by
  unfold keySB at h
  simp only [Bool.and_eq_true, Bool.or_eq_true, Bool.not_eq_true', decide_eq_true_eq, decide_eq_false_iff_not, List.all_eq_true] at h
  obtain ⟨h1, h2, h3, h4, h5⟩ := h
  refine ⟨h1, h2, h3, h4, fun y hy => (h5 y hy).1, fun y hy e => ?_, fun x e => ?_⟩
  · rcases (h5 y hy).2.1 with (z | z) | z
    · exact absurd e z
    · exact .inl z
    · exact .inr z
  · rcases (h5 _ (PySem.mem_of_lookup e)).2.2 with z | z
    · exact absurd rfl z
    · exact z
theorem clo_of {cells : List (Str × Addr)} {ns : List (Str × NameKind)} (hf : ∀ y ∈ ns, y.2 = .free → ∃ c, cells.lookup y.1 = some c) {y : Str} {c : Addr} (e : (cloFrom cells ns []).lookup y = some c) : cells.lookup y = some c := by
  rcases cloFrom_mem (PySem.mem_of_lookup e) with z | ⟨z, e2⟩
  · cases z
  · obtain ⟨d, hd⟩ := hf _ z rfl
    have hd : cells.lookup y = some d := hd
    rw [hd] at e2 ⊢
    rw [e2] <;> rfl
theorem clo_at {cells : List (Str × Addr)} {ns : List (Str × NameKind)} {y : Str} (h : ns.lookup y = some .free) : ∃ c, (cloFrom cells ns []).lookup y = some c := mem_lookup (cloFrom_has (cells := cells) (acc := []) (PySem.mem_of_lookup h))
/-- the context of such a lambda's body, entered at s -/
def keyCx (X : Cx) (A : Around) (s : Shared) (H : Hp) (scope : Scope) (f c' : Addr) : Cx :=
  { prog := X.prog, w := X.w, K := X.K, mg := X.mg, base := X.base, N := X.N, s_0 := s, H_0 := H, outer := X.stack, ex := [], fn := fun _ => false, calm := true, pn := []
    A := A.deeper (lamEnv X scope s.heap.objs.size f c'), env := lamEnv X scope s.heap.objs.size f c', stack := lamEnv X scope s.heap.objs.size f c' :: X.stack
    xe := fun e s' => wpAny (model X.prog X.w) (A.deeper (lamEnv X scope s.heap.objs.size f c')) (leaving (lamEnv X scope s.heap.objs.size f c') e) (fun _ s'' => C8.CX0 X.stack H s C8.E0 e s'') (fun e' s'' => C8.CX0 X.stack H s C8.E0 e' s'') s' }
theorem key_start {A : Around} {scope : Scope} {p : Str} {i : Nat} {f c' : Addr} {h₁ : Heap} {tk : Nat} {u : Value} {v : V} (I : Inv X pins σ H s) (L : KeyS X.env.scope scope p) (hN : X.N[i]? = some p) (nd : X.N.Nodup) (e0 : Env0 X.prog X.w X.K X.mg X.base A X.stack s H) (hd : A.handled = none)
    (hns : h₁.Ns s.heap.objs.size fun y => ([(p, u)] : List (Str × Value)).reverse.lookup y) (kp : ∀ b o, s.heap.get? b = some o → h₁.get? b = some o) (rv : RelV v u) :
    Inv (keyCx X A s H scope f c') [] (σ.set i (some v)) H { s with heap := h₁, toks := tk } := by
  have hfr : ∀ y ∈ scope.names, y.2 = .free → ∃ c, X.env.cells.lookup y.1 = some c := fun y hy e => I.ok.has _ (L.free y hy e)
  have cellK : ∀ {c : Addr} {w : Option Value}, s.heap.IsCell c w → h₁.IsCell c w := fun {c w} ⟨o, ho, hd⟩ => ⟨o, kp _ _ ho, hd⟩
  have noA : ∀ b : Addr, b ∉ (keyCx X A s H scope f c').ex := fun b z => absurd (show b ∈ ([] : List Addr) from z) (by simp)
  refine { ok := ?_, os := rfl, bare := e0.bare, base := Un.kept kp, loc := ⟨_, hns, fun j y w e1 e2 e3 => ?_⟩, cell := fun y c e => ?_, free := e0.hok.fresh (Nat.le_refl _), freeC := fun y c e => I.freeC y c (clo_of hfr e), pin := fun q hq => absurd (show q ∈ ([] : List (Addr × Obj)) ++ [] from hq) (by simp), hok := e0.hok.kept kp, len := ?_ }
  · refine { mod := e0.mod, kind := L.kind, glob := rfl, blt := rfl, above := Nat.le_refl _, inj := fun y z c k1 k2 => I.ok.inj y z c (clo_of hfr k1) (clo_of hfr k2), has := fun y hy => ?_, cab := fun y c z _ => ?_, hd := fun _ => hd, frames := Around.frames_deeper e0.frames, stk := .inr ⟨rfl, rfl⟩, exf := fun b z => absurd z (noA b), bs := e0.bs, bsz := e0.bsz, noex := fun b _ _ => noA b, exfs := fun b z => absurd z (noA b), funs := e0.funs, frf := e0.frf }
    · have hy : scope.names.lookup y = some .cell ∨ scope.names.lookup y = some .free := hy
      rcases hy with z | z
      · exact absurd rfl (L.own _ (PySem.mem_of_lookup z))
      · exact clo_at z
    · have z : false = true := z
      cases z
  · have e1 : X.N[j]? = some y := e1
    have e3 : Vis scope y := e3
    by_cases hij : i = j
    · subst hij
      rw [hN] at e1
      cases e1
      have hl : i < σ.length := by
        have := (List.getElem?_eq_some_iff.mp e2).1
        rwa [List.length_set] at this
      rw [List.getElem?_set_self hl] at e2
      cases e2
      refine ⟨u, rv, .inl ⟨L.par, ?_⟩⟩
      simp
    · rw [List.getElem?_set_ne hij] at e2
      have hyp : y ≠ p := fun z => by
        subst z
        obtain ⟨l1, k1⟩ := List.getElem?_eq_some_iff.mp hN
        obtain ⟨l2, k2⟩ := List.getElem?_eq_some_iff.mp e1
        rcases Nat.lt_trichotomy i j with q | q | q
        · exact absurd (k1.trans k2.symm) (List.pairwise_iff_getElem.mp nd i j l1 l2 q)
        · exact hij q
        · exact absurd (k2.trans k1.symm) (List.pairwise_iff_getElem.mp nd j i l2 l1 q)
      rcases e3 with k | k | k
      · exact absurd (L.one y k) hyp
      · exact absurd rfl (L.own _ (PySem.mem_of_lookup k))
      · obtain ⟨m, hn, hl⟩ := I.loc
        have kk := L.free _ (PySem.mem_of_lookup k) rfl
        have kk : X.env.scope.names.lookup y = some .cell ∨ X.env.scope.names.lookup y = some .free := kk
        obtain ⟨w', r', q⟩ := hl j y w e1 e2 (.inr kk)
        obtain ⟨c2, k2⟩ := clo_at (cells := X.env.cells) k
        refine ⟨w', r', .inr ⟨.inr k, c2, k2, ?_⟩⟩
        rcases q with ⟨k3, _⟩ | ⟨_, c3, k4, z⟩
        · have k3 : X.env.scope.names.lookup y = some .local := k3
          rcases kk with k5 | k5 <;> rw [k5] at k3 <;> cases k3
        · rw [clo_of hfr k2] at k4
          cases k4
          exact cellK z
  · obtain ⟨w, z⟩ := I.cell y c (clo_of hfr e)
    exact ⟨w, cellK z⟩
  · rw [List.length_set]
    exact I.len
theorem key_call {A : Around} {q : Str} {ps : Arguments} {b : Expr} {sc : Scope} {pm ct : Value} {p : Str} {i k : Nat} {f c' : Addr} {u : Value} {v : V} {tb : TE} {Q : VK} (I : Inv X pins σ H s) (L : KeyS X.env.scope sc p) (hN : X.N[i]? = some p) (nd : X.N.Nodup) (hr : Room (k + 1) A) (e0 : Env0 X.prog X.w X.K X.mg X.base A X.stack s H)
    (hq : q = X.env.qual ++ "<lambda>") (hf : H f = some (.ext (LamO f q ps b sc (cloFrom X.env.cells sc.names []) pm c' ct))) (hc : ∀ h : Heap, HOk X.prog X.w H h → h.CodeRec (.ref c') q) (hbind : bindArgs (PySem.W.kla_fn "<lambda>" q ps b sc (cloFrom X.env.cells sc.names []) pm (.ref c') ct) ⟨[u], []⟩ = pure [(p, u)])
    (hbody : Room k (A.deeper (lamEnv X sc s.heap.objs.size f c')) → PE (keyCx X A s H sc f c') b tb) (rv : RelV v u) (ht : tb (σ.set i (some v)) H Q) :
    codeAny (model X.prog X.w) A (.call (.ref f) ⟨[u], []⟩) (CR C8.CX0 X.stack X.prog X.w H s Q C8.E0) s := by
  subst hq
  obtain ⟨hl, _, _⟩ := e0.hok f _ hf
  obtain ⟨c2, oc, us', t, e2, hoc, hd, hv⟩ := hc _ e0.hok
  cases e2
  have lim : s.heap.NoLimit := e0.mod.nolimit.keeps fun b o e => (e0.bs b o e).1
  refine PySem.W.kla_callFunE hr.depth hl rfl L.co L.gen rfl ⟨c', oc, us', t, rfl, hoc, hd, hv⟩ ?_
  rw [hbind]
  refine wpAny_pure (wpAny_newFunctionEnv L.own (fun y hy => ?_) (fun h₁ hns hsb => ⟨lim.fresh _ hsb, ?_⟩) L.kind)
  · rw [List.mem_singleton.mp hy]
    exact L.par
  have kp : ∀ b o, s.heap.get? b = some o → h₁.get? b = some o := fun b o e => hsb.extBut b o (Nat.ne_of_lt (Heap.lt_size e)) (Heap.get?_push_of_some _ e)
  have J := key_start (A := A) (f := f) (c' := c') (tk := s.toks + ([(p, u)] : List (Str × Value)).length) I L hN nd e0 hr.hd hns kp rv
  show codeAny _ _ (.expr b (lamEnv X sc s.heap.objs.size f c')) _ _
  refine PySem.W.kla_codeExpr (wpAny_mono ((hbody (hr.deeper _)).run [] _ _ H Q J ht) (fun w s' hw => ?_) fun e s' hw => hw)
  obtain ⟨w', H', J', rw', q'⟩ := hw
  exact ⟨w', H', J'.os, J'.bare, J'.base, J'.hok, rw', q'⟩
end
end Dz

/-! Dzf: sorted(xs, key=lambda p: e). -/
namespace Dz
open PySem PySem.Spec PySem.SeqAt PySem.W PyProof.Rows L2 RZ LamX
section
variable {prog : Program} {w : World} {A : Around} {E : Value → Shared → Prop} {s : Shared}
end
end Dz
namespace Dz
open PySem PySem.Spec PySem.SeqAt PySem.W PyProof.Rows L2 RZ LamX
section
variable {X : Cx} {pins : List (Addr × Obj)} {σ : L2.St} {H : Hp} {s : Shared}
/-- objects that nobody knows may be left out of the heap -/
theorem inv_sub (I : Inv X pins σ H s) {G : Heap} {bad : Addr → Prop} (gk : ∀ b o, ¬ bad b → s.heap.get? b = some o → G.get? b = some o) (h0 : ∀ b o, X.s_0.heap.get? b = some o → ¬ bad b) (hH : ∀ b o, H b = some o → ¬ bad b) (hl : ¬ bad X.env.locals) (hc : ∀ x c, X.env.cells.lookup x = some c → ¬ bad c)
    (hp : ∀ p ∈ X.pn ++ pins, ¬ bad p.1) : Inv X pins σ H { s with heap := G } := by
  refine { ok := I.ok, os := I.os, bare := I.bare, base := ?_, loc := ?_, cell := fun x c e => ?_, free := I.free, freeC := I.freeC, pin := fun p h => ?_, hok := fun a o e => ?_, len := I.len }
  · refine ⟨fun b o e n h1 h2 => gk b o (h0 b o e) (I.base.keep b o e n h1 h2), fun b o e n h1 h2 => ?_, I.base.free, fun b o e h1 => ?_, I.base.tups, I.base.frzs, I.base.tbls⟩
    · obtain ⟨sl, q⟩ := I.base.slot b o e n h1 h2
      exact ⟨sl, gk _ _ (h0 b o e) q⟩
    · obtain ⟨o', q⟩ := I.base.there b o e h1
      exact ⟨o', gk _ _ (h0 b o e) q⟩
  · obtain ⟨m, ⟨o, es, ep, e, r⟩, q⟩ := I.loc
    refine ⟨m, ⟨o, es, ep, gk _ _ hl e, r⟩, fun i x v e1 e2 e3 => ?_⟩
    obtain ⟨u, ru, z⟩ := q i x v e1 e2 e3
    refine ⟨u, ru, ?_⟩
    rcases z with z | ⟨z1, c, z2, o, z3, z4⟩
    · exact .inl z
    · exact .inr ⟨z1, c, z2, o, gk _ _ (hc _ _ z2) z3, z4⟩
  · obtain ⟨v, o, z3, z4⟩ := I.cell x c e
    exact ⟨v, o, gk _ _ (hc _ _ e) z3, z4⟩
  · obtain ⟨q1, q2⟩ := I.pin p h
    exact ⟨gk _ _ (hp p h) q1, q2⟩
  · exact (I.hok a o e).stay (fun b u hb q => gk b u (hb.elim (fun z => by rw [z]; exact hH _ _ e) fun z => hH _ _ z) q) (fun b q => q) fun b xs q => q
/-- a key: a whole number or a truth -/
inductive KeyV : V → PyData → Prop
  | int (n : Int) : KeyV (.int n) (.int n)
  | bl (b : Bool) : KeyV (.bl b) (.bool b)
theorem KeyV.reads {v : V} {u : Value} {d : PyData} (h : KeyV v d) (r : RelV v u) (hp : Heap) : Reads hp u d [] := by
  cases h with
  | int n => obtain ⟨t, rfl⟩ := r; exact .int n t
  | bl b => obtain rfl := r; exact .bool b
theorem off {a b d : Addr} {n : Nat} (h : @LT.lt Nat _ a n) (h1 : @LE.le Nat _ n b) (h2 : @LE.le Nat _ n d) : ¬ (a = b ∨ a = d) := fun z => by
  rcases z with rfl | rfl
  · exact Nat.lt_irrefl _ (Nat.lt_of_lt_of_le h h1)
  · exact Nat.lt_irrefl _ (Nat.lt_of_lt_of_le h h2)
end
end Dz

namespace Dz
open PySem PySem.SeqAt PyProof.Rows L2 RZ
open AutoSeq1 (wpAny_loadPart')
/-! ### enumerate(tuple) -/
end Dz

namespace Dz
open PySem PySem.SeqAt PyProof.Rows L2 RZ PpSet
/-! ### unlike ints -/
def uniqI : List Int → List Int
  | [] => []
  | x :: r => if x ∈ uniqI r then uniqI r else x :: uniqI r
/-! ### sets of ints, as things of the heap -/
def SetIO (w : World) (a : Addr) (S : Int → Bool) (n : Nat) : HO := .ext fun h => L2.SetR w h a S n
section
variable {X : Cx} {pins : List (Addr × Obj)} {σ : L2.St} {H : Hp} {s : Shared} {a D : Addr} {S : Int → Bool} {n : Nat}
end
/-! ### set comprehensions of ints -/
section
variable {X : Cx} {elt tg iter : Expr} {ifs : List Expr} {scope : Scope} {own : List (PySem.Str × Nat)} {wi : TI} {g : TG} {tt : TT} {te : TE}
end
/-! ### set(list of ints) -/
section
variable {P : Program} {w : World} {A : Around} {E : Value → Shared → Prop} {s : Shared}
theorem set_list {l : Addr} {its : Array Value} (ns : List Int) {Q : Value → Shared → Prop} (hh : A.handled = none) (hl : s.heap.IsList l its) (hit : IntsAre its.toList ns) (hb : ns.length + 1 < scanBound)
    (q : ∀ (h' : Heap) (tk c : Nat), L2.SetR w h' s.heap.objs.size (fun j => decide (j ∈ ns)) c → c ≤ ns.length → (∀ b o, s.heap.get? b = some o → h'.get? b = some o) → Q (.ref s.heap.objs.size) { s with heap := h', toks := tk }) :
    wpAny (model P w) A (call (.type "set") [.ref l]) Q E s := by
  have hsz : its.size = ns.length := by rw [← Array.length_toList]; exact IntsAre.length hit
  obtain ⟨mc, mt, hmro⟩ := F.called_set.mro
  have hmade := F.called_set.made
  have hsb := F.called_set.sub
  have nT := F.called_set.notType
  have cCr := F.called_set.canCreate
  have hct := F.typeCall_set_1 (.ref l)
  refine wpAny_call (codeAny_of_tree ?_)
  show wpAny _ _ (callAny (.type "set") _) _ _ _
  refine wpAny_pure ⟨Code.quiet_builtin _ (by decide +kernel), codeAny_builtin F.entry_type_call ?_⟩
  rw [Around.under_plain (weight_type_call_type "set" [.ref l] []) rfl]
  repeat (any_goals (first | assumption | wp_step))
  refine codeAny_mono (code_set_led1 (.ref l) (E := E) (Q₁ := fun ob z => ob = .ref s.heap.objs.size ∧ z = { s with heap := s.heap.push { cls := .type "set", dict := none, data := .set #[] 0 (.fresh 0 0 (!w.params.followText "set-order")) } }) ⟨rfl, rfl⟩) fun r s₁ hr => ?_
  cases r with
  | error e => exact hr
  | ok fl =>
    cases fl with
    | ret ob =>
      obtain ⟨rfl, rfl⟩ := hr
      have hS : (s.heap.push { cls := .type "set", dict := none, data := .set #[] 0 (.fresh 0 0 (!w.params.followText "set-order")) }).get? s.heap.objs.size = some { cls := .type "set", dict := none, data := .set #[] 0 (.fresh 0 0 (!w.params.followText "set-order")) } := Heap.get?_push_size _ rfl
      have hT : Shared.TypeIs { s with heap := s.heap.push { cls := .type "set", dict := none, data := .set #[] 0 (.fresh 0 0 (!w.params.followText "set-order")) } } (.ref s.heap.objs.size) "set" := ⟨_, hS, rfl⟩
      have lk := F.called_set.init.lookup
      have bd := F.called_set.init.bind (.ref s.heap.objs.size)
      repeat (any_goals (first | assumption | wp_step))
      refine codeAny_mono (codeAny_call_builtin (R := wants (fun r z => r = .none ∧ ∃ h' tk c, z = { s with heap := h', toks := tk } ∧ L2.SetR w h' s.heap.objs.size (fun j => decide (j ∈ ns)) c ∧ c ≤ ns.length ∧ (∀ b o, s.heap.get? b = some o → h'.get? b = some o)) E) F.called_set.init.plain F.entry_set_init (check_set_init_1 hT ?_)) fun r₂ s₂ hr₂ => ?_
      · obtain ⟨⟨oc, od, odt, osl⟩, hol, hcl, nl, hdl⟩ := hl
        simp only at hcl hdl
        subst hcl; subst hdl
        have hol' : (s.heap.push { cls := .type "set", dict := none, data := .set #[] 0 (.fresh 0 0 (!w.params.followText "set-order")) }).get? l = some { cls := .type "list", dict := od, data := .seq its nl, slots := osl } := Heap.get?_push_of_some _ hol
        have s1 := F.sub_list_set
        have s2 := F.sub_list_frozenset
        have ne : (Value.type "list" == Value.type "dict") = false := by decide
        have hl1 : (s.heap.push { cls := .type "set", dict := none, data := .set #[] 0 (.fresh 0 0 (!w.params.followText "set-order")) }).IsList l its := ⟨_, hol', rfl, nl, rfl⟩
        unfold Builtin.«set.__init__» noKeywords Builtin.Frozenset.updateFrom
        generalize hPI : pyIter = PI
        wp_walk
        subst hPI
        refine wpAny_pyIter_list hl1 (wpAny_bind (wpAny_runValue ?_))
        have hlS : l < s.heap.objs.size := Heap.lt_size hol
        have h3 : A.in1.in1.in1.handled = none := by simp [hh]
        have nI : l ≠ (s.heap.push { cls := .type "set", dict := none, data := .set #[] 0 (.fresh 0 0 (!w.params.followText "set-order")) }).objs.size := by rw [Heap.size_push]; exact Nat.ne_of_lt (Nat.lt_succ_of_lt hlS)
        have nS : s.heap.objs.size ∉ [(s.heap.push { cls := .type "set", dict := none, data := .set #[] 0 (.fresh 0 0 (!w.params.followText "set-order")) }).objs.size, l] := by
          rw [Heap.size_push]; simp only [List.mem_cons, List.mem_singleton, List.not_mem_nil, or_false, not_or]; exact ⟨Nat.ne_of_lt (Nat.lt_succ_self _), Nat.ne_of_gt hlS⟩
        have hv : ∀ (i : Nat) (v : Value), its[i]? = some v → ∃ k t, ns[i]? = some k ∧ v = .int k t := fun i v hv => by
          have hi : i < ns.length := by rw [← hsz]; exact (Array.getElem?_eq_some_iff.mp hv).1
          obtain ⟨t, e⟩ := PyProof.Rows.IntsAre.int_at hit i v (by rw [Array.getElem?_toList]; exact hv)
          exact ⟨ns[i], t, List.getElem?_eq_getElem hi, by rw [e, List.getD_eq_getElem?_getD, List.getElem?_eq_getElem hi] <;> rfl⟩
        refine set_update_ints ((Walks.list h3 _ l nI its).toS) s.heap.objs.size nS ns hsz hb hv (its.size - 0) 0 _ (by omega) (Nat.zero_le _) ⟨⟨_, Heap.get?_push_size _ rfl, rfl, rfl⟩, (hl1.push _)⟩ ?h0 ?hR
        case h0 => exact ⟨0, Nat.le_refl 0, setR_new_at (Heap.get?_push_of_some _ hS)⟩
        case hR =>
          intro z c' hm hc' hS'
          obtain ⟨h', g2, d', tk', os'⟩ := z
          have eg : g2 = s.gens := hm.gens
          have ed : d' = s.drawn := hm.drawn
          have eo : os' = s.os := hm.os
          subst eg; subst ed; subst eo
          show wpAny _ _ _ _ _ _
          refine wpAny_pure ?_
          show wpAny _ _ (ret Value.none) _ _ _
          rw [hsz] at hc'
          refine wpAny_pure ⟨rfl, h', tk', c', rfl, hS', hc', fun b o e => ?_⟩
          have hb0 : b < s.heap.objs.size := Heap.lt_size e
          exact hm.heap b o (by rw [Heap.size_push]; simp only [List.mem_cons, List.mem_singleton, List.not_mem_nil, or_false, not_or]; exact ⟨Nat.ne_of_lt hb0, Nat.ne_of_lt (Nat.lt_succ_of_lt hb0)⟩) (Heap.get?_push_of_some _ (Heap.get?_push_of_some _ e))
      · cases r₂ with
        | error e => exact hr₂
        | ok fl₂ =>
          cases fl₂ with
          | ret r =>
            obtain ⟨rfl, h', tk, c', rfl, hS', hc', hk'⟩ := hr₂
            repeat (any_goals (first | assumption | wp_step))
            exact q _ _ _ hS' hc' hk'
          | _ => exact hr₂.elim
    | _ => exact hr.elim
end
/-! ### the calls, as rules -/
def rSetL (K : PySem.W.Frag) (w : World) : List V → Hp → VK → Prop := fun xs H Q => ∃ (a : Addr) (ns : List Int), xs = [.ref a] ∧ (SqL K H a (ns.map V.int) ∨ SqT K H a (ns.map V.int)) ∧ ns.length ≤ 4000 ∧ ∀ (p : Addr), H p = none → Q (.ref p) (upd H p (SetIO w p (fun j => decide (j ∈ ns)) (uniqI ns).length))
section
variable {X : Cx} {K : PySem.W.Frag} {w : World}
end
section
variable {X : Cx} {elt tg iter : Expr} {ifs : List Expr} {scope : Scope} {own : List (PySem.Str × Nat)} {wi : TI} {g : TG} {tt : TT} {te : TE}
end
end Dz

/-! Dzg: dicts whose keys are tuples of data (nested): read, asked, stored. -/
namespace Dz
open PySem PySem.Spec PySem.SeqAt PyProof.Rows L2 RZ LamX
/-- a dict at a with these keys (their places) and values -/
def DnO (P : Program) (w : World) (a : Addr) (xs : List (NestedKey × Addr × Value)) : HO :=
  .ext fun h => (a == sysModules) = false ∧ xs.length ≤ sizeLine ∧ ∃ o es ep, h.get? a = some o ∧ o.ExactDict ∧ o.data = .dict es ep ∧ es.toList = xs.map (entryOfKey (nestedKind P w)) ∧ (xs.map (·.1)).Nodup
/-- the data at b is the key k -/
def Nk (K : Kx) (S : Hp) (b : Addr) (k : NestedKey) : Prop := k.depth ≤ 8 ∧ Dp K S (.ref b) k.data
def KnD (K : Kx) (S : Hp) : List (NestedKey × Addr × Value) → List (NestedKey × PyData) → Prop := Paired fun q p => q.1 = p.1 ∧ Nk K S q.2.1 q.1 ∧ ∃ v, RelV v q.2.2 ∧ Dp K S v p.2
section
variable {K : Kx} {S S1 H : Hp} {xs : List (NestedKey × Addr × Value)} {kvs : List (NestedKey × PyData)} {k : NestedKey} {a b : Addr}
theorem Nk.mono (h : Nk K S b k) (e : Same S S1) : Nk K S1 b k := ⟨h.1, Dp_mono h.2 e⟩
theorem KnD.mono (h : KnD K S xs kvs) (e : Same S S1) : KnD K S1 xs kvs := Paired.mapP h fun _ _ q => ⟨q.1, q.2.1.mono e, let ⟨v, r, d⟩ := q.2.2; ⟨v, r, Dp_mono d e⟩⟩
theorem KnD.len (h : KnD K S xs kvs) : xs.length = kvs.length := by
  induction h with
  | nil => rfl
  | cons _ _ ih => simp [ih]
theorem KnD.val (h : KnD K S xs kvs) : (∀ d, valG kvs k = some d → ∃ b u v, atKey xs k = some (b, u) ∧ RelV v u ∧ Dp K S v d) ∧ (valG kvs k = none → atKey xs k = none) := by
  induction h with
  | nil => exact ⟨fun d z => (by cases z), fun _ => rfl⟩
  | @cons q p xs kvs hq _ ih =>
    obtain ⟨e, _, v, r, hd⟩ := hq
    unfold valG atKey at *
    rw [List.find?_cons, List.find?_cons, e]
    by_cases hk : p.1 = k
    · rw [decide_eq_true hk]
      refine ⟨fun d z => ?_, fun z => ?_⟩
      · cases z
        exact ⟨q.2.1, q.2.2, v, rfl, r, hd⟩
      · cases z
    · rw [decide_eq_false hk]
      exact ih
theorem KnD.put {d : PyData} {v : V} {u : Value} (h : KnD K S xs kvs) (hk : Nk K S b k) (r : RelV v u) (hd : Dp K S v d) : KnD K S (storedH xs k b u) (putG kvs k d) := by
  have ha : (atKey xs k).isSome = kvs.any fun kv => decide (kv.1 = k) := by
    clear hk r hd
    induction h with
    | nil => rfl
    | @cons q p xs kvs hq _ ih =>
      unfold atKey at *
      rw [List.find?_cons, List.any_cons, hq.1]
      by_cases hk : p.1 = k
      · rw [decide_eq_true hk]; rfl
      · rw [decide_eq_false hk, Bool.false_or]; exact ih
  unfold storedH putG
  rw [ha]
  split
  · clear ha
    rename_i z
    clear z
    induction h with
    | nil => exact .nil
    | @cons q p xs kvs hq _ ih =>
      refine .cons ?_ ih
      show (putAt k u q).1 = (if p.1 = k then (p.1, d) else p).1 ∧ Nk K S (putAt k u q).2.1 (putAt k u q).1 ∧ ∃ v, RelV v (putAt k u q).2.2 ∧ Dp K S v (if p.1 = k then (p.1, d) else p).2
      have e1 : putAt k u q = if p.1 = k then (q.1, q.2.1, u) else q := by unfold putAt; rw [hq.1]
      by_cases e : p.1 = k
      · rw [e1, if_pos e, if_pos e]
        exact ⟨hq.1, hq.2.1, v, r, hd⟩
      · rw [e1, if_neg e, if_neg e]; exact hq
  · clear ha
    induction h with
    | nil => exact .cons ⟨rfl, hk, v, r, hd⟩ .nil
    | cons hq _ ih =>
      refine .cons hq (ih ?_)
      rename_i z
      intro z2
      refine z ?_
      rw [List.any_cons, z2, Bool.or_true]
end
section
variable {X : Cx} {K : Kx} {pins : List (Addr × Obj)} {σ : L2.St} {H S : Hp} {s : Shared}
mutual
theorem nest_of {h : Heap} : ∀ (k : NestedKey) (u : Value) (as : List Addr), Reads h u k.data as → NestedIs h k u
  | .none, u, as, r => by
    unfold NestedKey.data at r
    cases r
    exact .none
  | .num i, u, as, r => by
    unfold NestedKey.data at r
    cases r
    exact .int _ _
  | .text x, u, as, r => by
    unfold NestedKey.data at r
    cases r
    exact .text _ _
  | .tup ks, u, as, r => by
    unfold NestedKey.data at r
    cases r with
    | tuple h1 h2 h3 h4 => exact .tup h1 h2 h3 (nest_all ks _ _ h4)
theorem nest_all {h : Heap} : ∀ (ks : List NestedKey) (us : List Value) (as : List Addr), ReadsAll h us (NestedKey.datas ks) as → NestedAll h ks us
  | [], us, as, r => by
    unfold NestedKey.datas at r
    cases r
    exact .nil
  | k :: ks, us, as, r => by
    unfold NestedKey.datas at r
    cases r with
    | cons r1 r2 => exact .cons (nest_of k _ _ r1) (nest_all ks _ _ r2)
end
theorem Nk.is {k : NestedKey} {b : Addr} (hX : CxK K X) (I : Inv X pins σ H s) (hs : Same S H) (h : Nk K S b k) : (nestedKind X.prog X.w).is s.heap k b := by
  have hd : Dp X.K H (.ref b) k.data := by rw [hX.k]; exact Dp_mono h.2 hs
  obtain ⟨as, r⟩ := Dp.reads I _ _ (.ref b) hd rfl
  exact ⟨nest_of k _ as r, h.1⟩
variable {o i e value : Expr} {pos pos' tpos : Pos} {td ty tv : TE}
end
end Dz

/-! Dzh: attributes as targets, list(d.values()). -/
namespace Dz
open PySem PySem.Spec PySem.SeqAt PyProof.Rows L2 RZ LamX
section
variable {X : Cx} {o e : Expr} {f : Str} {pos p apos cpos : Pos} {to te : TE}
end
end Dz

/-! Dzi: a display of one pair, its key a tuple of data. -/
namespace Dz
open PySem PySem.Spec PySem.SeqAt PyProof.Rows L2 RZ LamX
end Dz

/-! Dzj: tuple * 1 hands back the tuple itself. -/
namespace L2
open PySem PySem.Spec PyProof.Rows
end L2

/-! Dzk: sorted of data that compare. -/
namespace Dz
open PySem PySem.Spec PySem.SeqAt PySem.W PyProof.Rows L2 RZ
section
variable {X : Cx}
end
end Dz

/-! Dzl: min(xs, default=d). -/
namespace Dz
open PySem PySem.Spec PySem.SeqAt PySem.W PyProof.Rows L2 RZ
section
variable {X : Cx}
end
end Dz

/-! Dzm: tuple(xs) whose object is known; t.index(x) of such a tuple. -/
namespace L2
open PySem PySem.Spec PyProof.Rows
section
variable {X : Cx}
variable {o e : Expr} {es : List Expr} {to : TE} {t : TA} {name : Str} {apos cpos : Pos} {id : String} {r : V → List V → Hp → VK → Prop}
end
end L2

/-! Dzn: max of a tuple of ints. -/
namespace Dz
open PySem PySem.Spec PySem.SeqAt PySem.W PyProof.Rows L2 RZ
section
variable {X : Cx}
end
end Dz

/-! Dzo: list(d) of a dict whose keys are tuples. -/
namespace Dz
open PySem PySem.Spec PySem.SeqAt PySem.W PyProof.Rows L2 RZ LamX
section
variable {X : Cx} {T : String} {name : Str} {id : String} {r : V → List V → Hp → VK → Prop} {o e : Expr} {es : List Expr} {apos cpos : Pos} {to : TE} {t : TA}
end
end Dz

/-! Dzp: defs picked out of a list, and called. -/
namespace Dz
open PySem PySem.Spec PySem.SeqAt PySem.W PyProof.Rows L2 RZ LamX
section
variable {X : Cx} {k : Nat} {x n1 n2 : Str} {ps ps1 ps2 : List Str} {sp sp1 sp2 : Sp}
end
end Dz

/-! Dzq: t[::-1] of a tuple. -/
namespace Dz
open PySem PySem.Spec PySem.SeqAt PyProof.Rows L2 RZ HT
section
variable {prog : Program} {w : World} {A : Around} {E : Value → Shared → Prop} {s : Shared}
end
end Dz

/-! Dzr: min(xs, default=None). -/
namespace Dz
open PySem PySem.Spec PySem.SeqAt PySem.W PyProof.Rows L2 RZ
section
variable {X : Cx}
end
section
variable {X : Cx} {e : Expr} {f : Str} {ta : TE} {pos : Pos}
end
end Dz

/-! Dzs: min(xs, key=lambda p: e), the lambda made within a lambda. -/
namespace Dz
open PySem PySem.Spec PySem.SeqAt PySem.W PyProof.Rows L2 RZ LamX
section
variable {X : Cx} {K : Kx} {pins : List (Addr × Obj)} {σ : L2.St} {H S : Hp} {s : Shared}
/-- a list is walked, its items told by what they stand for at each step -/
theorem walks_vals {prog : Program} {w : World} {A : Around} (hh : A.handled = none) (it l : Addr) (hne : l ≠ it) (xs : List V) :
    WalksS prog w A it [it, l] [it] (fun a b => b = a) xs.length (fun i v => ∃ x, xs[i]? = some x ∧ RelV x v) (fun i s' => s'.heap.IsListIter it l i ∧ ∃ its : List Value, Vals xs its ∧ s'.heap.IsList l its.toArray) where
  sub := fun b hb => by rw [List.mem_singleton.mp hb]; exact List.mem_cons_self
  grefl := fun _ => rfl
  gtrans := fun a b c e1 e2 => by rw [e2, e1]
  frame := fun i s h' tk ⟨h1, its, rv, h2⟩ _ hk => by
    have W := (Walks.list (prog := prog) (w := w) hh it l hne its.toArray).toS
    obtain ⟨q1, q2⟩ := W.frame i s h' tk ⟨h1, h2⟩ (by assumption) hk
    exact ⟨q1, its, rv, q2⟩
  item := fun i s Q E hi ⟨h1, its, rv, h2⟩ hQ => by
    have W := (Walks.list (prog := prog) (w := w) hh it l hne its.toArray).toS
    refine W.item i s Q E (by rw [List.size_toArray, ← rv.length]; exact hi) ⟨h1, h2⟩ fun v s' hv ⟨q1, q2⟩ hm => ?_
    obtain ⟨v2, e2, r2⟩ := rv.get (List.getElem?_eq_getElem hi)
    have hv : its[i]? = some v := by simpa using hv
    rw [hv] at e2
    cases e2
    exact hQ v s' ⟨_, List.getElem?_eq_getElem hi, r2⟩ ⟨q1, its, rv, q2⟩ hm
  done := fun s Q E ⟨h1, its, rv, h2⟩ hQ => by
    have W := (Walks.list (prog := prog) (w := w) hh it l hne its.toArray).toS
    exact W.done s Q E ⟨by rw [List.size_toArray, ← rv.length]; exact h1, h2⟩ hQ
  self := fun i s Q E ⟨h1, its, rv, h2⟩ hQ => by
    have W := (Walks.list (prog := prog) (w := w) hh it l hne its.toArray).toS
    exact W.self i s Q E ⟨h1, h2⟩ hQ
theorem min_keys {q : Str} {ps : Arguments} {b : Expr} {sc : Scope} {pm ct : Value} {p : Str} {i k : Nat} {f c' l : Addr} {xs : List V} {tb : TE} {Q : VK} (I : Inv X pins σ H s) (hr : Room (k + 3) X.A) (hx : X.ex = []) (L : KeyS X.env.scope sc p) (hN : X.N[i]? = some p) (nd : X.N.Nodup) (hq : q = X.env.qual ++ "<lambda>")
    (hl : SqL X.K H l xs) (h0 : 0 < xs.length) (hbind : ∀ u : Value, bindArgs (PySem.W.kla_fn "<lambda>" q ps b sc (cloFrom X.env.cells sc.names []) pm (.ref c') ct) ⟨[u], []⟩ = pure [(p, u)])
    (hbody : ∀ (A : Around) (s : Shared) (H : Hp), Room k (A.deeper (lamEnv X sc s.heap.objs.size f c')) → PE (keyCx X A s H sc f c') b tb)
    (z : Nat → Int) (W : Hp → Prop) (w0 : W H) (wl : ∀ H, W H → SqL X.K H l xs) (wf : ∀ H, W H → H f = some (.ext (LamO f q ps b sc (cloFrom X.env.cells sc.names []) pm c' ct)) ∧ ∀ h, HOk X.prog X.w H h → h.CodeRec (.ref c') q)
    (turn : ∀ j x H, xs[j]? = some x → W H → tb (σ.set i (some x)) H fun kv H' => kv = .int (z j) ∧ W H')
    (fin : ∀ H x, xs[argBest (fun i j => decide (z i < z j)) (xs.length - 1)]? = some x → W H → Q x H) :
    wpAny (model X.prog X.w) X.A (call (.builtin "min") [.ref l] [(Str.ofString "key", .ref f)]) (EP X pins σ Q) X.xe s := by
  obtain ⟨its, rv, hpl, hz⟩ := I.list hl
  obtain ⟨o, n, e1, e2, e3, e4⟩ := hpl
  have hlt : @LT.lt Nat _ l s.heap.objs.size := Heap.lt_size e1
  refine call_min_walkK (wpAny_pyIter_list ⟨o, e1, e2, n, e4⟩ ?_)
  generalize hI : s.heap.objs.size = it at hlt
  generalize hh2 : s.heap.push { cls := .type "list_iterator", data := .fields #[.ref l, .int 0 0] } = h2
  generalize hS0 : h2.objs.size = S0
  have hS1 : S0 = it + 1 := by rw [← hS0, ← hh2, Heap.size_push, hI]
  have gi : h2.get? it = some { cls := .type "list_iterator", data := .fields #[.ref l, .int 0 0] } := by rw [← hh2, ← hI]; exact Heap.get?_push_size _ rfl
  have kp2 : ∀ b o, s.heap.get? b = some o → h2.get? b = some o := fun b o e => by rw [← hh2]; exact Heap.get?_push_of_some _ e
  have skI : @LE.le Nat _ s.heap.objs.size it := by rw [hI]; exact Nat.le_refl _
  have skS : @LE.le Nat _ s.heap.objs.size S0 := by rw [hI, hS1]; exact Nat.le_succ _
  have I2 : Inv X pins σ H { s with heap := h2 } := I.kept (t' := s.toks) kp2
  have nL : ¬ (X.env.locals = S0 ∨ X.env.locals = it) := off I.lt skS skI
  have nC : ∀ x c, X.env.cells.lookup x = some c → ¬ (c = S0 ∨ c = it) := fun x c e => by
    obtain ⟨v, o, z, _⟩ := I.cell x c e
    exact off (Heap.lt_size z) skS skI
  have nP : ∀ p ∈ X.pn ++ pins, ¬ (p.1 = S0 ∨ p.1 = it) := fun p hp => off (Heap.lt_size (I.pin p hp).1) skS skI
  have n0 : ∀ b o, X.s_0.heap.get? b = some o → ¬ (b = S0 ∨ b = it) := fun b o e => off (Nat.lt_of_lt_of_le (Heap.lt_size e) I.sz) skS skI
  have nF : ∀ b, b = S0 ∨ b = it → b ∉ frs X.stack := fun b hb z => by
    rcases List.mem_cons.mp (I.stkSub _ z) with e | e
    · exact nL (e ▸ hb)
    · exact I.nofs (hb.elim (fun z => z ▸ skS) fun z => z ▸ skI) e
  have nH : ∀ b, b = S0 ∨ b = it → H b = none := fun b hb => I.hok.fresh (hb.elim (fun z => z ▸ skS) fun z => z ▸ skI)
  have other : ∀ {Hj : Hp} {z : Shared} {h' : Heap} {tk : Nat}, Inv X pins σ Hj z → Hj S0 = none → Hj it = none → (∀ b o, ¬ (b = S0 ∨ b = it) → z.heap.get? b = some o → h'.get? b = some o) → Inv X pins σ Hj { z with heap := h', toks := tk } := fun {Hj z h' tk} J j1 j2 gk =>
    (inv_sub J gk n0 (fun b o e hb => by
      rcases hb with rfl | rfl
      · rw [j1] at e; cases e
      · rw [j2] at e; cases e) nL nC nP).tok tk
  have hne : l ≠ it := Nat.ne_of_lt hlt
  have hr1 : Room (k + 1) X.A.in1 := (hr.mono (Nat.le_succ (k + 2))).in1
  have stI : h2.IsListIter it l 0 ∧ ∃ its : List Value, Vals xs its ∧ h2.IsList l its.toArray := ⟨⟨_, gi, rfl, rfl⟩, its, rv, o, kp2 _ _ e1, e2, n, e4⟩
  refine ⟨it, [it, l], [it], fun a b => b = a, xs.length, _, _, fun z => ∃ Hj, Inv X pins σ Hj z ∧ Hj S0 = none ∧ Hj it = none ∧ W Hj, fun i k _ => ∃ t, k = .int (z i) t, fun i j => decide (z i < z j), rfl, walks_vals hr1.hd it l hne xs, stI, fun b hb => ?_, h0, ?_, ⟨H, I2, nH _ (.inl rfl), nH _ (.inr rfl), w0⟩, fun v s' hP hJ => ?_⟩
  · have : b = it ∨ b = l := by simpa using hb
    show @LT.lt Nat _ b S0
    rw [hS1]
    rcases this with rfl | rfl
    · exact Nat.lt_succ_self _
    · exact Nat.lt_succ_of_lt hlt
  · refine ⟨fun s1 s2 ⟨Hj, J, j1, j2, wj⟩ hm => ⟨Hj, ?_, j1, j2, wj⟩, fun i k s1 s2 h _ => h, ?_, fun i j ki kj s1 Q1 E1 _ h1 h2 hQ => ?_⟩
    · have J2 := other (h' := s2.heap) (tk := s2.toks) J j1 j2 fun b o hb e => hm.heap b o (fun z => hb (by simpa using z)) e
      obtain ⟨hp, g, d, tk, os⟩ := s2
      have h1 : g = s1.gens := hm.gens
      have h2 : d = s1.drawn := hm.drawn
      have h3 : os = s1.os := hm.os
      subst h1 h2 h3
      exact J2
    · rintro j v s1 oS Q1 E1 hj ⟨x, hx1, rx⟩ ⟨Hj, J, j1, j2, wj⟩ ⟨⟨oi, i1, i2, i3⟩, its1, rv1, hl1⟩ hS hQ
      obtain ⟨f1, f2⟩ := wf _ wj
      have call := key_call (A := X.A.in1) (Q := fun kv H' => kv = .int (z j) ∧ W H') J L hN nd hr1 J.env0.in1 hq f1 f2 (hbind v) (fun hr2 => hbody _ _ _ hr2) rx (turn j x Hj hx1 wj)
      refine wpAny_call (codeAny_mono call fun r z2 hq2 => ?_)
      cases r with
      | error e => exact hq2.elim
      | ok fl =>
        cases fl with
        | next => exact hq2.elim
        | brk => exact hq2.elim
        | cont => exact hq2.elim
        | ret kv =>
          obtain ⟨v2, H2, os, bare, un, hok, r2, rfl, w2⟩ := hq2
          have J2 : EP X pins σ (fun v H' => v = .int (z j) ∧ H' = H2) kv z2 := J.after ⟨.int (z j), H2, os, bare, un, hok, r2, rfl, rfl⟩
          obtain ⟨v3, H3, J3, _, _, rfl⟩ := J2
          have gi2 : z2.heap.get? it = some oi := un.keep _ _ i1 j2 (nF _ (.inr rfl)) (by simp)
          have gs2 : z2.heap.get? S0 = some oS := un.keep _ _ hS j1 (nF _ (.inl rfl)) (by simp)
          have j3 : H3 S0 = none := un.free _ _ hS j1 (by simp)
          have j4 : H3 it = none := un.free _ _ i1 j2 (by simp)
          obtain ⟨its2, rv2, ⟨o2, n2, a1, a2, a3, a4⟩, _⟩ := J3.list (wl _ w2)
          obtain ⟨t, rfl⟩ := r2
          exact hQ _ z2 ⟨H3, J3, j3, j4, w2⟩ ⟨⟨oi, gi2, i2, i3⟩, its2, rv2, o2, a1, a2, n2, a4⟩ gs2 ⟨t, rfl⟩ fun _ _ h => h
    · exact CmpOf.ints_lt (P := fun i v => ∃ t, v = .int (z i) t) z (fun i v h => h) i j ki kj s1 Q1 E1 h1 h2 hQ
  · obtain ⟨x, hx1, rx⟩ := hP
    obtain ⟨Hj, J, _, _, wj⟩ := hJ
    exact ⟨x, Hj, J, rx, fin Hj x hx1 wj⟩
/-- a lambda is made within a lambda: its code object stands in the table of the outer one's -/
theorem lam_new2 {c P : Addr} {qc : Str} {ps : Arguments} {b : Expr} {sc : Scope} {pos : Pos} {E : Value → Shared → Prop} {Q : Value → Shared → Prop} (I : Inv X pins σ H s) (hs : Same S H) (tb : TabsOk K S H) (hbs : X.base = K.base) (hmg : X.mg = K.mg) (hc : S c = some (CodeN c qc P)) (hcode : X.env.code = .ref c) (hq : X.env.qual ++ "<lambda>" = nqS)
    (hdef : defaultsOf ps X.env = ([], [])) (hfree : ∀ y ∈ sc.names, y.2 = .free → ∃ c, X.env.cells.lookup y.1 = some c)
    (h : ∀ (f c' : Addr) (oc : Obj) (pm ct : Value) (S1 H1 : Hp) (s' : Shared), Inv X pins σ H1 s' → GrowT (isTab S H) S H S1 H1 → TabsOk K S1 H1 → H f = none →
      S1 f = some (.ext (LamO f nqS ps b sc (cloFrom X.env.cells sc.names []) pm c' ct)) → S1 c' = some (.frz oc (.own c')) → (∃ (vs : Array Value) (t : Tok), oc.data = .fields vs ∧ vs[1]? = some (.str nqS t)) → Q (.ref f) s') :
    wpAny (model X.prog X.w) X.A (eval (.Lambda ps b sc pos) X.env) Q E s := by
  obtain ⟨nst, hb, hgP, sP, tab, hP, ht, ha⟩ := tb.ne c qc P hc
  have bP : s.heap.BuiltinsAt X.mg P := by rw [hmg]; exact hb.keeps (hbs ▸ I.bk)
  have hP' : s.heap.get? P = some { cls := .none, data := .fields tab } := I.hok P _ hP
  have hcd : PySem.W.CodeHd s.heap c P := (I.hok c _ (hs _ _ hc)).1.2
  refine PySem.W.kla_eval hdef ?_
  rw [hq]
  have fin : ∀ {S1 H1 : Hp} {h1 : Heap} {tk : Nat} {c' : Addr} {oc : Obj} {ct : Value}, Inv X pins σ H1 { s with heap := h1, toks := tk } → GrowT (isTab S H) S H S1 H1 → TabsOk K S1 H1 → S1 c' = some (.frz oc (.own c')) → (∃ (vs : Array Value) (t : Tok), oc.data = .fields vs ∧ vs[1]? = some (.str nqS t)) →
      Q (.ref h1.objs.size) { s with heap := h1.push (PySem.W.kla_obj "<lambda>" nqS ps b sc (cloFrom X.env.cells sc.names []) ((X.mg "__name__").getD .none) c' ct), toks := tk } := fun {S1 H1 h1 tk c' oc ct} I1 g1 tb1 sc' hoc => by
    have hf : H1 h1.objs.size = none := I1.hok.fresh (Nat.le_refl _)
    have hf0 : H h1.objs.size = none := by
      cases z : H h1.objs.size with
      | none => rfl
      | some o => exact absurd hf (g1.d _ (some_ne z))
    have hg : (h1.push (PySem.W.kla_obj "<lambda>" nqS ps b sc (cloFrom X.env.cells sc.names []) ((X.mg "__name__").getD .none) c' ct)).get? h1.objs.size = some (PySem.W.kla_obj "<lambda>" nqS ps b sc (cloFrom X.env.cells sc.names []) ((X.mg "__name__").getD .none) c' ct) := Heap.get?_push_size _ rfl
    have I2 := I1.laid (h' := h1.push (PySem.W.kla_obj "<lambda>" nqS ps b sc (cloFrom X.env.cells sc.names []) ((X.mg "__name__").getD .none) c' ct)) (t' := tk) (a := h1.objs.size) (o := .ext (LamO h1.objs.size nqS ps b sc (cloFrom X.env.cells sc.names []) ((X.mg "__name__").getD .none) c' ct))
      (fun z o e => Heap.get?_push_of_some _ e) (Nat.le_refl _) ⟨hg, ⟨_, hg⟩, fun h1 h2 q st => st _ q⟩
    have ncd : ∀ q P, (HO.ext (LamO h1.objs.size nqS ps b sc (cloFrom X.env.cells sc.names []) ((X.mg "__name__").getD .none) c' ct)) = CodeN h1.objs.size q P → False := fun q P z => by
      have zz := congrFun (HO.ext.inj z) _ ▸ (show LamO h1.objs.size nqS ps b sc (cloFrom X.env.cells sc.names []) ((X.mg "__name__").getD .none) c' ct _ from hg)
      obtain ⟨_, o, us, file, tf, flags, tg, inF, text, tt, f1, f2, _⟩ := zz
      rw [hg] at f1
      cases f1
      exact absurd (show ("function" : String) = "code" from by injection f2) (by decide)
    have sf : S1 h1.objs.size = none := same_none g1.f hf
    refine h _ c' oc _ ct _ _ _ I2 (g1.trans ⟨same_up sf, same_upup g1.f, fun a e q => ?_, fun a u _ e => by rw [upd_ne (ne_of_none e hf)]; exact e, fun a e => ?_, fun a ps e => ⟨ps, by rw [upd_ne (ne_of_none e hf)]; exact e⟩⟩) ⟨fun p hp => ?_, fun c q P hc => ?_⟩ hf0 upd_same (by rw [upd_ne (ne_of_none sc' sf)]; exact sc') hoc
    · rw [upd_ne fun z => q (by rw [z]; exact hf)]; exact e
    · by_cases z : a = h1.objs.size
      · rw [z, upd_same]; exact fun z => nomatch z
      · rw [upd_ne z]; exact e
    · obtain ⟨p1, p2, p3, p4, p5⟩ := tb1.st p hp
      have hpf := ne_of_none p3 hf
      refine ⟨by rw [upd_ne hpf]; exact p1, p2, by rw [upd_ne hpf]; exact p3, p4, fun pos cv hcv => ?_⟩
      obtain ⟨c0, P0, q1, q2⟩ := p5 pos cv hcv
      exact ⟨c0, P0, q1, same_up sf _ _ q2⟩
    · by_cases hcf : c = h1.objs.size
      · rw [hcf, upd_same] at hc
        exact (ncd q P (Option.some.inj hc)).elim
      · rw [upd_ne hcf] at hc
        obtain ⟨n1, n2, n3, n4, ps, n5, n6, n7⟩ := tb1.ne c q P hc
        have hPf := ne_of_none n5 hf
        refine ⟨n1, n2, n3, by rw [upd_ne hPf]; exact n4, ps, by rw [upd_ne hPf]; exact n5, n6, fun pos cv hcv => ?_⟩
        obtain ⟨c2, q1, oc, q2, q3⟩ := n7 pos cv hcv
        exact ⟨c2, q1, oc, same_up sf _ _ q2, q3⟩
  cases hcm : codeAmong pos tab.toList with
  | some cv =>
    obtain ⟨c', rfl, oc, hco, hoc⟩ := ha pos cv hcm
    exact PySem.W.kla_makeFunctionHit (mg := X.mg) (c := c) (P := P) (ps := tab) (closure_ok hfree) I.ok.glob (I.mod.glob.keeps I.bk) hcode hcd hP' ht hcm bP fun ct h' tk hx hsz => fin (I.kept hx) (GrowT.refl hs) tb hco hoc
  | none =>
    refine PySem.W.kla_makeFunction (mg := X.mg) (c := c) (P := P) (ps := tab) (closure_ok hfree) I.ok.glob (I.mod.glob.keeps I.bk) hcode hcd hP' ht hcm hgP bP fun c' ct h' tk hx hge hlt hrec htb => ?_
    obtain ⟨c2, oc, us, t, e2, hoc, hd, hv⟩ := hrec
    cases e2
    have nC : H c' = none := I.hok.fresh hge
    have sC : S c' = none := same_none hs nC
    have nPc : P ≠ c' := ne_of_none hP nC
    have at_ : ∀ a, a ≠ P → a ≠ c' → upd (upd H P (.tbl (tab ++ #[rawInt pos.line, rawInt pos.col, .ref c']))) c' (.frz oc (.own c')) a = H a := fun a h1 h2 => by rw [upd_ne h2, upd_ne h1]
    have atP : upd (upd H P (.tbl (tab ++ #[rawInt pos.line, rawInt pos.col, .ref c']))) c' (.frz oc (.own c')) P = some (.tbl (tab ++ #[rawInt pos.line, rawInt pos.col, .ref c'])) := by rw [upd_ne nPc, upd_same]
    have atC : upd (upd H P (.tbl (tab ++ #[rawInt pos.line, rawInt pos.col, .ref c']))) c' (.frz oc (.own c')) c' = some (.frz oc (.own c')) := upd_same
    have I1 : Inv X pins σ (upd (upd H P (.tbl (tab ++ #[rawInt pos.line, rawInt pos.col, .ref c']))) c' (.frz oc (.own c'))) { s with heap := h', toks := tk } := by
      refine inv_tabs (more := #[rawInt pos.line, rawInt pos.col, .ref c']) I hP hx htb atP (fun z u hz e => by rw [at_ z hz (ne_of_none e nC)]; exact e) fun z u e => ?_
      by_cases z1 : z = c'
      · rw [z1, atC] at e
        cases e
        rw [z1]
        exact .inr (.inr ⟨hge, hoc, oc, hoc⟩)
      · by_cases z3 : z = P
        · exact .inl z3
        · rw [at_ z z3 z1] at e
          exact .inr (.inl e)
    generalize upd (upd H P (.tbl (tab ++ #[rawInt pos.line, rawInt pos.col, .ref c']))) c' (.frz oc (.own c')) = H1 at at_ atP atC I1
    refine fin I1 (S1 := upd S c' (.frz oc (.own c'))) ⟨same_up sC, fun a o e => ?_, fun a e1 e2 => ?_, fun a o hn e => ?_, fun a e => ?_, fun a ps e => ?_⟩ ⟨fun p hp => ?_, fun c3 q3 P3 hc3 => ?_⟩ upd_same ⟨us, t, hd, hv⟩
    · by_cases hac : a = c'
      · rw [hac, upd_same] at e; rw [hac, atC]; exact e
      · rw [upd_ne hac] at e
        rw [at_ a (fun z => by rw [z, sP] at e; cases e) hac]
        exact hs a o e
    · rw [upd_ne fun z => e2 (by rw [z]; exact nC)]; exact e1
    · rw [at_ a (fun z => hn (by rw [z]; exact ⟨sP, _, hP⟩)) (ne_of_none e nC)]; exact e
    · by_cases hac : a = c'
      · rw [hac, atC]; exact fun z => nomatch z
      · by_cases hap : a = P
        · rw [hap, atP]; exact fun z => nomatch z
        · rw [at_ a hap hac]; exact e
    · by_cases hap : a = P
      · rw [hap, atP]; exact ⟨_, rfl⟩
      · rw [at_ a hap (ne_of_none e nC)]; exact ⟨_, e⟩
    · obtain ⟨p1, p2, p3, p4, p5⟩ := tb.st p hp
      have hpc : p.1 ≠ c' := ne_of_none p3 nC
      refine ⟨by rw [upd_ne hpc]; exact p1, p2, by rw [at_ p.1 (nst p hp) hpc]; exact p3, p4, fun pos cv hcv => ?_⟩
      obtain ⟨c0, P0, q1, q2⟩ := p5 pos cv hcv
      exact ⟨c0, P0, q1, same_up sC _ _ q2⟩
    · have h3c : c3 ≠ c' := fun z => by rw [z, upd_same] at hc3; cases hc3
      rw [upd_ne h3c] at hc3
      obtain ⟨n1, n2, n3, n4, ps3, n5, n6, n7⟩ := tb.ne c3 q3 P3 hc3
      have hPc : P3 ≠ c' := ne_of_none n5 nC
      by_cases hPP : P3 = P
      · subst hPP
        rw [hP] at n5
        cases n5
        have eL : (tab ++ #[rawInt pos.line, rawInt pos.col, .ref c']).toList = tab.toList ++ [rawInt pos.line, rawInt pos.col, .ref c'] := by simp
        refine ⟨n1, n2, n3, by rw [upd_ne hPc]; exact n4, _, atP, by rw [eL]; exact PySem.TriplesOk_snoc _ _ _ _ ht, fun pos' cv hcv => ?_⟩
        rw [eL] at hcv
        rcases among_app _ ht hcv with z | z
        · obtain ⟨c2, q1, oc2, q2, q3⟩ := n7 pos' cv z
          exact ⟨c2, q1, oc2, same_up sC _ _ q2, q3⟩
        · exact ⟨c', z, oc, upd_same, us, t, hd, hv⟩
      · refine ⟨n1, n2, n3, by rw [upd_ne hPc]; exact n4, ps3, by rw [at_ P3 hPP hPc]; exact n5, n6, fun pos cv hcv => ?_⟩
        obtain ⟨c2, q1, oc2, q2, q3⟩ := n7 pos cv hcv
        exact ⟨c2, q1, oc2, same_up sC _ _ q2, q3⟩
/-- min(e, key=lambda p: b) within a lambda: i, the slot of p -/
def tLamN (K : Kx) (X : Cx) (ps : Arguments) (b : Expr) (sc : Scope) : TE := fun _ H Q => ∃ S c P qc, X.env.code = .ref c ∧ S c = some (CodeN c qc P) ∧ Same S H ∧ TabsOk K S H ∧ ∀ (f c' : Addr) (oc : Obj) (pm ct : Value) (S1 H1 : Hp), GrowT (isTab S H) S H S1 H1 → TabsOk K S1 H1 →
  S1 f = some (.ext (LamO f nqS ps b sc (cloFrom X.env.cells sc.names []) pm c' ct)) → S1 c' = some (.frz oc (.own c')) → (∃ (vs : Array Value) (t : Tok), oc.data = .fields vs ∧ vs[1]? = some (.str nqS t)) → Q (.ref f) H1
theorem pe_lamN {ps : Arguments} {b : Expr} {sc : Scope} {pos : Pos} {p : Str} (hX : CxK K X) (hq : X.env.qual ++ "<lambda>" = nqS) (hdef : defaultsOf ps X.env = ([], [])) (L : KeyS X.env.scope sc p) : PE X (.Lambda ps b sc pos) (tLamN K X ps b sc) := by
  refine ⟨fun pins s σ H Q I h => ?_⟩
  obtain ⟨S, c, P, qc, e1, e2, hs, tb, q⟩ := h
  exact lam_new2 I hs tb hX.b hX.m e2 e1 hq hdef (fun y hy z => I.ok.has _ (L.free y hy z)) fun f c' oc pm ct S1 H1 s' I1 g tb1 hf0 hf hc hoc => ⟨.ref f, H1, I1, rfl, q f c' oc pm ct S1 H1 g tb1 hf hc hoc⟩
def tMinK2 (K : Kx) (cd : Value) (i : Nat) (ta : TA) (tb : TE) : TE := fun σ H Q => ta σ H fun vs H1 => ∃ l xs S c P qc, vs = [V.ref l] ∧ SqL K S l xs ∧ 0 < xs.length ∧ cd = .ref c ∧ S c = some (CodeN c qc P) ∧ Same S H1 ∧ TabsOk K S H1 ∧ ∀ S2 H2, GrowT (isTab S H1) S H1 S2 H2 → TabsOk K S2 H2 →
  ∃ (z : Nat → Int) (W : Hp → Prop), W H2 ∧ (∀ H, W H → Same S2 H) ∧ (∀ j x H, xs[j]? = some x → W H → tb (σ.set i (some x)) H fun kv H' => kv = .int (z j) ∧ W H') ∧
    ∀ H x, xs[argBest (fun i j => decide (z i < z j)) (xs.length - 1)]? = some x → W H → Q x H
theorem pe_minK2 {ps : Arguments} {b e : Expr} {sc : Scope} {p : Str} {i k : Nat} {p0 lpos kpos pos : Pos} {ta : TA} {tb : TE} (hX : CxK K X) (hq : X.env.qual ++ "<lambda>" = nqS) (hr : Room (k + 3) X.A) (hx : X.ex = []) (hg : Gl X "min") (hm : X.mg "min" = none) (ha : PA X [e] ta)
    (hdef : defaultsOf ps X.env = ([], [])) (L : KeyS X.env.scope sc p) (hN : X.N[i]? = some p) (nd : X.N.Nodup) (hbind : ∀ (q : Str) (cl : List (Str × Addr)) (pm cv ct u : Value), bindArgs (PySem.W.kla_fn "<lambda>" q ps b sc cl pm cv ct) ⟨[u], []⟩ = pure [(p, u)])
    (hbody : ∀ (f c' : Addr) (A : Around) (s : Shared) (H : Hp), Room k (A.deeper (lamEnv X sc s.heap.objs.size f c')) → PE (keyCx X A s H sc f c') b tb)
    (h1 : backTo pos (starEach [e] X.env) = (false, eval e X.env) :: backTo pos (starEach [] X.env) := by rfl) (h2 : (backTo pos (starEach [e] X.env)).any (·.1) = false := by rfl)
    (h3 : (backToKw pos (keywordEach [⟨some "key", .Lambda ps b sc lpos, kpos⟩] X.env)).all (·.1.isSome) = true := by rfl) (h4 : (backToKw pos (keywordEach [⟨some "key", .Lambda ps b sc lpos, kpos⟩] X.env)).any (·.1.isNone) = false := by rfl)
    (h5 : (backToKw pos (keywordEach [⟨some "key", .Lambda ps b sc lpos, kpos⟩] X.env)).filterMap (·.1) = [Str.ofString "key"] := by rfl) :
    PE X (.Call (.Name "min" p0) [e] [⟨some "key", .Lambda ps b sc lpos, kpos⟩] pos) (tMinK2 K X.env.code i ta tb) := by
  refine ⟨fun pins s σ H Q I h => ?_⟩
  have bs : bootBuiltins "min" = some (.builtin "min") := by decide +kernel
  refine wpAny_Call_Name_kw (ld_blt I hg hm bs (?_ : _))
  refine PyProof.Rows.callWith_kw (thn (ha.run pos pins s σ H _ I h) fun us s1 ⟨vs, H1, I1, r1, q1⟩ => ?_) h1 h2 h3 h4
  obtain ⟨l, xs, S, c, P, qc, rfl, hl, hpos, hcd, hSc, hs, tb1, q⟩ := q1
  have hk : PK X [⟨some "key", .Lambda ps b sc lpos, kpos⟩] (tCons (tLamN K X ps b sc) tNil) := pk_cons (pe_lamN hX hq hdef L) pk_nil
  have hrun := hk.run pos pins s1 σ H1 (fun zs H2 => ∃ f c' oc pm ct S2, zs = [V.ref f] ∧ GrowT (isTab S H1) S H1 S2 H2 ∧ TabsOk K S2 H2 ∧ S2 f = some (.ext (LamO f nqS ps b sc (cloFrom X.env.cells sc.names []) pm c' ct)) ∧ S2 c' = some (.frz oc (.own c')) ∧ ∃ (vs : Array Value) (t : Tok), oc.data = .fields vs ∧ vs[1]? = some (.str nqS t)) I1
    ⟨S, c, P, qc, hcd, hSc, hs, tb1, fun f c' oc pm ct S2 H2 g t2 e1 e2 e3 => ⟨f, c', oc, pm, ct, S2, rfl, g, t2, e1, e2, e3⟩⟩
  refine thn hrun fun ws s2 ⟨zs, H2, I2, r2, f, c', oc, pm, ct, S2, ez, g, t2, e1, e2, vs, t, e3, e4⟩ => ?_
  subst ez
  rw [h5]
  obtain rfl := Vals.ref1 r1
  obtain rfl := Vals.ref1 r2
  obtain ⟨z, W, w0, ws, turn, fin⟩ := q S2 H2 g t2
  have hl2 : ∀ H3, Same S2 H3 → SqL X.K H3 l xs := fun H3 h3 => by
    rw [hX.k]
    exact (g.s.trans h3).seq hl
  exact min_keys I2 hr hx L hN nd hq.symm (hl2 H2 g.f) hpos (fun u => hbind _ _ _ _ _ u) (fun A s H hr2 => hbody f c' A s H hr2) z W w0 (fun H wj => hl2 H (ws _ wj)) (fun H wj => ⟨ws _ wj _ _ e1, fun h hok => by
    obtain ⟨q1, _⟩ := hok c' _ (ws _ wj _ _ e2)
    exact ⟨c', oc, vs, t, rfl, q1, e3, e4⟩⟩) turn fin
end
end Dz

/-! Dzt: max and min of a list of data that compare. -/
namespace Dz
open PySem PySem.Spec PySem.SeqAt PySem.W PyProof.Rows L2 RZ
section
variable {X : Cx}
end
end Dz

/-! Sm: what a def computes, as a plain function over slots and a store; and that the rules of the hand layer come to it. -/
namespace Sm
open PySem L2 RZ Dz

/-! ### plain states -/
inductive Vl where
  | no
  | dat (d : PyData)
  | own (ds : List PyData)
  | dct (kvs : List (Key × PyData))
  | dnk (kvs : List (NestedKey × PyData))
  | ref (j : Nat)
  | fn (F : List PyData → Option PyData)
  | xt (ds : List PyData)
/-- what a field holds -/
inductive Fv where
  | dat (d : PyData)
  | ref (j : Nat)
inductive Ob where
  | lst (ds : List PyData)
  | dct (kvs : List (Key × PyData))
  | dnk (kvs : List (NestedKey × PyData))
  | ins (C : Str) (fs : List (Str × Fv))
abbrev Lo := List Vl
abbrev Sg := List Ob
abbrev M (α : Type) := Lo → Sg → Option (α × Lo × Sg)
def mb {α β : Type} (m : M α) (f : α → M β) : M β := fun l g => match m l g with
  | none => none
  | some (a, l', g') => f a l' g'
def mp {α : Type} (a : α) : M α := fun l g => some (a, l, g)
def mo {α : Type} (o : Option α) : M α := fun l g => match o with
  | none => none
  | some a => some (a, l, g)
theorem mb_some {α β : Type} {m : M α} {f : α → M β} {l l' : Lo} {g g' : Sg} {b : β} (h : mb m f l g = some (b, l', g')) : ∃ a l1 g1, m l g = some (a, l1, g1) ∧ f a l1 g1 = some (b, l', g') := by
  unfold mb at h
  split at h
  · cases h
  · rename_i a l1 g1 e
    exact ⟨a, l1, g1, e, h⟩
theorem mo_some {α : Type} {o : Option α} {l l' : Lo} {g g' : Sg} {b : α} (h : mo o l g = some (b, l', g')) : o = some b ∧ l' = l ∧ g' = g := by
  unfold mo at h
  split at h
  · cases h
  · cases h
    exact ⟨rfl, rfl, rfl⟩
theorem mp_some {α : Type} {a : α} {l l' : Lo} {g g' : Sg} {b : α} (h : mp a l g = some (b, l', g')) : b = a ∧ l' = l ∧ g' = g := by
  unfold mp at h
  cases h
  exact ⟨rfl, rfl, rfl⟩

/-! ### what stands in the machine -/
def FvOk (K : Kx) (S : Hp) (r : List Addr) : Fv → V → Prop
  | .dat d, v => Dp K S v d
  | .ref j, v => ∃ a, r[j]? = some a ∧ v = .ref a
def FsOk (K : Kx) (S : Hp) (r : List Addr) : List (Str × V) → List (Str × Fv) → Prop := Paired fun x y => x.1 = y.1 ∧ FvOk K S r y.2 x.2
def ObOk (K : Kx) (S H : Hp) (r : List Addr) (a : Addr) : Ob → Prop
  | .lst ds => ∃ xs, H a = some (.lst xs) ∧ DpAll K S xs ds
  | .dct kvs => ∃ ws, H a = some (.dK ws) ∧ KvD K S ws kvs
  | .dnk kvs => ∃ xs, H a = some (DnO K.P K.w a xs) ∧ KnD K S xs kvs
  | .ins C fs => ∃ (cls dx : Addr) (vs : List (Str × V)), K.mg C = some (.ref cls) ∧ H a = some (.ins cls dx vs) ∧ H dx = some (.own a) ∧ FsOk K S r vs fs
/-- a tuple whose object is known to have no dict of its own -/
def XtV (K : Kx) (S : Hp) (v : V) (ds : List PyData) : Prop := ∃ (a : Addr) (o : Obj) (xs : List V), v = .ref a ∧ S a = some (.frz o (.tup xs)) ∧ o.cls = .type "tuple" ∧ o.dict = none ∧ DpAll K S xs ds
theorem XtV.mono {K : Kx} {S S1 : Hp} {v : V} {ds : List PyData} (h : XtV K S v ds) (e : Same S S1) : XtV K S1 v ds := by
  obtain ⟨a, o, xs, h1, h2, h3, h4, h5⟩ := h
  exact ⟨a, o, xs, h1, e _ _ h2, h3, h4, DpAll_mono h5 e⟩
theorem XtV.dp {K : Kx} {S : Hp} {v : V} {ds : List PyData} (h : XtV K S v ds) : Dp K S v (.tuple ds) := by
  obtain ⟨a, o, xs, rfl, h2, h3, h4, h5⟩ := h
  exact .tup (.inl (.inr ⟨o, h2⟩)) h5
def SOk (K : Kx) (S H : Hp) (r : List Addr) : Vl → Option Addr → Option V → Prop
  | .no, o, _ => o = none
  | .dat d, o, x => o = none ∧ ∃ v, x = some v ∧ Dp K S v d
  | .own ds, o, x => ∃ a, o = some a ∧ x = some (.ref a) ∧ S a = none ∧ ∃ xs, H a = some (.lst xs) ∧ DpAll K S xs ds
  | .dct kvs, o, x => ∃ a, o = some a ∧ x = some (.ref a) ∧ S a = none ∧ ∃ ws, H a = some (.dK ws) ∧ KvD K S ws kvs
  | .dnk kvs, o, x => ∃ a, o = some a ∧ x = some (.ref a) ∧ S a = none ∧ ∃ xs, H a = some (DnO K.P K.w a xs) ∧ KnD K S xs kvs
  | .ref j, o, x => o = none ∧ ∃ a, r[j]? = some a ∧ x = some (.ref a)
  | .fn F, o, x => o = none ∧ ∃ v, x = some v ∧ FnV K S v F
  | .xt ds, o, x => o = none ∧ ∃ v, x = some v ∧ XtV K S v ds
structure StOk (K : Kx) (l : Lo) (g : Sg) (s : L2.St) (H S : Hp) (r : List Addr) (A : List (Option Addr)) : Prop where
  hs : Same S H
  la : A.length = l.length
  ls : s.length = l.length
  ok : ∀ (i : Nat) (x : Vl), l[i]? = some x → ∃ o v, A[i]? = some o ∧ s[i]? = some v ∧ SOk K S H r x o v
  ij : ∀ (i j : Nat) (a : Addr), A[i]? = some (some a) → A[j]? = some (some a) → i = j
  dr : ∀ a, some a ∈ A → a ∉ r
  rn : r.Nodup
  lg : r.length = g.length
  st : ∀ (j : Nat) (a : Addr) (o : Ob), r[j]? = some a → g[j]? = some o → S a = none ∧ ObOk K S H r a o
  tb : TabsOk K S H
def inR (S H : Hp) (r : List Addr) (a : Addr) : Prop := a ∈ r ∨ isTab S H a
def tr (S H : Hp) (A : List (Option Addr)) (r : List Addr) : Addr → Prop := fun a => some a ∈ A ∨ inR S H r a
/-- from one state to a later one -/
structure Mv (K : Kx) (S H : Hp) (r : List Addr) (A : List (Option Addr)) (S' H' : Hp) (r' : List Addr) (A' : List (Option Addr)) : Prop where
  s : Same S S'
  h : Same S' H'
  n : ∀ a, S a = none → H a ≠ none → ¬ tr S H A r a → S' a = none
  k : ∀ a o, ¬ tr S H A r a → H a = some o → H' a = some o
  d : ∀ a, H a ≠ none → H' a ≠ none
  p : ∃ q, r' = r ++ q
  f : ∀ a, tr S' H' A' r' a → tr S H A r a ∨ H a = none
  t : ∀ a, isTab S H a → isTab S' H' a
theorem tKeep {S H : Hp} : ∀ a, isTab S H a → isTab S H a := fun _ e => e
theorem tUpd {S H : Hp} {b : Addr} {o : HO} (hb : ∀ ps, H b ≠ some (.tbl ps)) : ∀ a, isTab S H a → isTab S (upd H b o) a := fun a ⟨e1, ps, e⟩ => ⟨e1, ps, by rw [upd_ne fun z => hb ps (by rw [← z]; exact e)]; exact e⟩
theorem tUpS {S H : Hp} {b : Addr} {o : HO} (hb : ∀ ps, H b ≠ some (.tbl ps)) : ∀ a, isTab S H a → isTab (upd S b o) H a := fun a ⟨e1, ps, e⟩ => ⟨by rw [upd_ne fun z => hb ps (by rw [← z]; exact e)]; exact e1, ps, e⟩
theorem tGrow {m : Addr → Prop} {S H S1 H1 : Hp} (q : GrowT m S H S1 H1) : ∀ a, isTab S H a → isTab S1 H1 a := fun a ⟨e1, ps, e⟩ => ⟨q.n a e1 (some_ne e), q.t a ps e⟩
theorem nodup_inj {α : Type} {xs : List α} (h : xs.Nodup) {i j : Nat} {a : α} (h1 : xs[i]? = some a) (h2 : xs[j]? = some a) : i = j := by
  obtain ⟨l1, e1⟩ := List.getElem?_eq_some_iff.mp h1
  obtain ⟨l2, e2⟩ := List.getElem?_eq_some_iff.mp h2
  rcases Nat.lt_trichotomy i j with q | q | q
  · exact absurd (e1.trans e2.symm) (List.pairwise_iff_getElem.mp h i j l1 l2 q)
  · exact q
  · exact absurd (e2.trans e1.symm) (List.pairwise_iff_getElem.mp h j i l2 l1 q)
section
variable {K : Kx} {l l' : Lo} {g g' : Sg} {s : L2.St} {H S H1 S1 H2 S2 : Hp} {r r1 r2 : List Addr} {A A1 A2 : List (Option Addr)} {x : Vl} {o : Option Addr} {v : Option V}
theorem Mv.refl (h : Same S H) : Mv K S H r A S H r A := ⟨Same.refl S, h, fun _ e _ _ => e, fun _ _ _ e => e, fun _ e => e, ⟨[], by simp⟩, fun _ h => .inl h, tKeep⟩
theorem Mv.trans (a : Mv K S H r A S1 H1 r1 A1) (b : Mv K S1 H1 r1 A1 S2 H2 r2 A2) : Mv K S H r A S2 H2 r2 A2 := by
  obtain ⟨q1, e1⟩ := a.p
  obtain ⟨q2, e2⟩ := b.p
  have nn : ∀ x, H1 x = none → H x = none := fun x h => by
    cases q : H x with
    | none => rfl
    | some u => exact absurd h (a.d x (some_ne q))
  refine ⟨a.s.trans b.s, b.h, fun x e q hm => b.n x (a.n x e q hm) (a.d x q) (fun z => (a.f x z).elim hm q), fun x u hm e => ?_, fun x e => b.d x (a.d x e), ⟨q1 ++ q2, by rw [e2, e1, List.append_assoc]⟩, fun x h => ?_, fun x e => b.t x (a.t x e)⟩
  · refine b.k x u (fun z => ?_) (a.k x u hm e)
    rcases a.f x z with q | q
    · exact hm q
    · rw [q] at e; cases e
  · rcases b.f x h with q | q
    · exact a.f x q
    · exact .inr (nn x q)
theorem tr_back {a : Addr} (h : tr S1 H1 A r a) (s : Same S S1) (k : ∀ o, H a = some o → (∃ ps, o = .tbl ps) ∨ H1 a = some o) : tr S H A r a ∨ H a = none := by
  rcases h with h | h | h
  · exact .inl (.inl h)
  · exact .inl (.inr (.inl h))
  · exact (h.back s k).imp (fun z => .inr (.inr z)) id
/-- a write of what is no table makes none -/
theorem isTab_upd {S H : Hp} {a b : Addr} {o : HO} (ho : ∀ ps, o ≠ .tbl ps) (h : isTab S (upd H b o) a) : isTab S H a := by
  obtain ⟨h1, ps, h2⟩ := h
  by_cases z : a = b
  · subst z; rw [upd_same] at h2; exact absurd (Option.some.inj h2) (ho ps)
  · rw [upd_ne z] at h2; exact ⟨h1, ps, h2⟩
theorem tr_upd {S H : Hp} {A : List (Option Addr)} {r : List Addr} {a b : Addr} {o : HO} (h : tr S (upd H b o) A r a) (ho : ∀ ps, o ≠ .tbl ps := by intro ps z; cases z) : tr S H A r a := h.imp id fun z => z.imp id (isTab_upd ho)
theorem tr_upup {S H : Hp} {A : List (Option Addr)} {r : List Addr} {a b : Addr} {o : HO} (h : tr (upd S b o) (upd H b o) A r a) : tr S H A r a := h.imp id fun z => z.imp id fun ⟨e1, ps, e2⟩ => by
  have hab : a ≠ b := fun z => by rw [z, upd_same] at e1; cases e1
  rw [upd_ne hab] at e1 e2
  exact ⟨e1, ps, e2⟩
theorem tab_upup {S H : Hp} {a b : Addr} {o : HO} (hab : a ≠ b) (h : isTab S H a) : isTab (upd S b o) (upd H b o) a := by
  obtain ⟨e1, ps, e2⟩ := h
  exact ⟨by rw [upd_ne hab]; exact e1, ps, by rw [upd_ne hab]; exact e2⟩
/-- what grows without a write -/
theorem Mv.grow (q : Grow m0 S H S1 H1) : Mv K S H r A S1 H1 r A := ⟨q.s, q.f, fun a e1 e2 _ => q.n a e1 e2, fun a o _ e => q.all a o e, q.d, ⟨[], by simp⟩, fun _ h => tr_back h q.s fun o e => .inr (q.all _ o e), fun a ⟨e1, ps, e⟩ => ⟨q.n a e1 (some_ne e), ps, q.all a _ e⟩⟩
theorem SOk.go (h : SOk K S H r x o v) (hs : Same S S1) (hk : ∀ a, o = some a → S1 a = none ∧ ∀ u, H a = some u → H1 a = some u) (hr : ∃ q, r1 = r ++ q) : SOk K S1 H1 r1 x o v := by
  cases x with
  | no => exact h
  | dat d => obtain ⟨e, w, e2, q⟩ := h; exact ⟨e, w, e2, Dp_mono q hs⟩
  | own ds => obtain ⟨a, e1, e2, e3, xs, e4, e5⟩ := h; exact ⟨a, e1, e2, (hk a e1).1, xs, (hk a e1).2 _ e4, DpAll_mono e5 hs⟩
  | dct ds => obtain ⟨a, e1, e2, e3, xs, e4, e5⟩ := h; exact ⟨a, e1, e2, (hk a e1).1, xs, (hk a e1).2 _ e4, e5.mono hs⟩
  | dnk ds => obtain ⟨a, e1, e2, e3, xs, e4, e5⟩ := h; exact ⟨a, e1, e2, (hk a e1).1, xs, (hk a e1).2 _ e4, e5.mono hs⟩
  | ref j =>
    obtain ⟨e, a, e2, e3⟩ := h
    obtain ⟨q, rfl⟩ := hr
    exact ⟨e, a, by rw [List.getElem?_append_left (List.getElem?_eq_some_iff.mp e2).1]; exact e2, e3⟩
  | fn F => obtain ⟨e, w, e2, q⟩ := h; exact ⟨e, w, e2, q.mono hs⟩
  | xt ds => obtain ⟨e, w, e2, q⟩ := h; exact ⟨e, w, e2, q.mono hs⟩
theorem FvOk.go {x : Fv} {v : V} (h : FvOk K S r x v) (hs : Same S S1) (hr : ∃ q, r1 = r ++ q) : FvOk K S1 r1 x v := by
  cases x with
  | dat d => exact Dp_mono h hs
  | ref j =>
    obtain ⟨a, e2, e3⟩ := h
    obtain ⟨q, rfl⟩ := hr
    exact ⟨a, by rw [List.getElem?_append_left (List.getElem?_eq_some_iff.mp e2).1]; exact e2, e3⟩
theorem FsOk.go {vs : List (Str × V)} {fs : List (Str × Fv)} (h : FsOk K S r vs fs) (hs : Same S S1) (hr : ∃ q, r1 = r ++ q) : FsOk K S1 r1 vs fs := Paired.mapP h fun _ _ q => ⟨q.1, q.2.go hs hr⟩
/-- the object itself, and what marks an own dict -/
def ItsO (H H1 : Hp) (a : Addr) : Prop := ∀ b z, (b = a ∨ z = .own a) → H b = some z → H1 b = some z
theorem ItsO.of {a : Addr} (h : ∀ b z, H b = some z → H1 b = some z) : ItsO H H1 a := fun b z _ e => h b z e
theorem ItsO.upd {a b : Addr} {o u : HO} (hb : b ≠ a) (ho : H a = some o) (hn : ∀ c, o ≠ .own c) : ItsO H (upd H a u) b := fun c z hc e => by
  have : c ≠ a := by
    rcases hc with rfl | rfl
    · exact hb
    · exact fun q => by rw [q, ho] at e; exact hn b (Option.some.inj e)
  rw [upd_ne this]
  exact e
theorem ObOk.go {a : Addr} {u : Ob} (h : ObOk K S H r a u) (hs : Same S S1) (hk : ItsO H H1 a) (hr : ∃ q, r1 = r ++ q) : ObOk K S1 H1 r1 a u := by
  cases u with
  | lst ds => obtain ⟨xs, e1, e2⟩ := h; exact ⟨xs, hk _ _ (.inl rfl) e1, DpAll_mono e2 hs⟩
  | dct ds => obtain ⟨xs, e1, e2⟩ := h; exact ⟨xs, hk _ _ (.inl rfl) e1, e2.mono hs⟩
  | dnk ds => obtain ⟨xs, e1, e2⟩ := h; exact ⟨xs, hk _ _ (.inl rfl) e1, e2.mono hs⟩
  | ins C fs => obtain ⟨cls, dx, vs, e0, e1, e2, e3⟩ := h; exact ⟨cls, dx, vs, e0, hk _ _ (.inl rfl) e1, hk _ _ (.inr rfl) e2, e3.go hs hr⟩
theorem ObOk.there {a : Addr} {u : Ob} (h : ObOk K S H r a u) : H a ≠ none := by
  cases u with
  | lst ds => obtain ⟨xs, e1, e2⟩ := h; exact some_ne e1
  | dct ds => obtain ⟨xs, e1, e2⟩ := h; exact some_ne e1
  | dnk ds => obtain ⟨xs, e1, e2⟩ := h; exact some_ne e1
  | ins C fs => obtain ⟨cls, dx, vs, e0, e1, e2, e3⟩ := h; exact some_ne e1
/-- it marks no own dict -/
theorem ObOk.noOwn {a : Addr} {u : Ob} (h : ObOk K S H r a u) : ∃ o, H a = some o ∧ ∀ c, o ≠ .own c := by
  cases u with
  | lst ds => obtain ⟨xs, e1, e2⟩ := h; exact ⟨_, e1, fun _ z => nomatch z⟩
  | dct ds => obtain ⟨xs, e1, e2⟩ := h; exact ⟨_, e1, fun _ z => nomatch z⟩
  | dnk ds => obtain ⟨xs, e1, e2⟩ := h; exact ⟨_, e1, fun _ z => nomatch z⟩
  | ins C fs => obtain ⟨cls, dx, vs, e0, e1, e2, e3⟩ := h; exact ⟨_, e1, fun _ z => nomatch z⟩
theorem SOk.noOwn {a : Addr} (h : SOk K S H r x (some a) v) : ∃ o, H a = some o ∧ ∀ c, o ≠ .own c := by
  cases x with
  | no => cases h
  | dat d => cases h.1
  | own ds => obtain ⟨a, e1, e2, e3, xs, e4, e5⟩ := h; cases e1; exact ⟨_, e4, fun _ z => nomatch z⟩
  | dct ds => obtain ⟨a, e1, e2, e3, xs, e4, e5⟩ := h; cases e1; exact ⟨_, e4, fun _ z => nomatch z⟩
  | dnk ds => obtain ⟨a, e1, e2, e3, xs, e4, e5⟩ := h; cases e1; exact ⟨_, e4, fun _ z => nomatch z⟩
  | ref j => cases h.1
  | fn F => cases h.1
  | xt ds => cases h.1
theorem SOk.there {a : Addr} (h : SOk K S H r x (some a) v) : H a ≠ none ∧ S a = none := by
  cases x with
  | no => cases h
  | dat d => cases h.1
  | own ds => obtain ⟨a, e1, e2, e3, xs, e4, e5⟩ := h; cases e1; exact ⟨some_ne e4, e3⟩
  | dct ds => obtain ⟨a, e1, e2, e3, xs, e4, e5⟩ := h; cases e1; exact ⟨some_ne e4, e3⟩
  | dnk ds => obtain ⟨a, e1, e2, e3, xs, e4, e5⟩ := h; cases e1; exact ⟨some_ne e4, e3⟩
  | ref j => cases h.1
  | fn F => cases h.1
  | xt ds => cases h.1
theorem StOk.thereA (h : StOk K l g s H S r A) {a : Addr} (e : some a ∈ A) : H a ≠ none ∧ S a = none := by
  obtain ⟨i, hi⟩ := List.mem_iff_getElem?.mp e
  have hl : i < l.length := by rw [← h.la]; exact (List.getElem?_eq_some_iff.mp hi).1
  obtain ⟨o, v, e1, e2, e3⟩ := h.ok i _ (List.getElem?_eq_getElem hl)
  rw [hi] at e1
  cases e1
  exact e3.there
theorem StOk.thereR (h : StOk K l g s H S r A) {a : Addr} (e : a ∈ r) : H a ≠ none ∧ S a = none := by
  obtain ⟨j, hj⟩ := List.mem_iff_getElem?.mp e
  have hl : j < g.length := by rw [← h.lg]; exact (List.getElem?_eq_some_iff.mp hj).1
  obtain ⟨q1, q2⟩ := h.st j a _ hj (List.getElem?_eq_getElem hl)
  exact ⟨q2.there, q1⟩
theorem StOk.there (h : StOk K l g s H S r A) {a : Addr} (e : tr S H A r a) : H a ≠ none ∧ S a = none := e.elim h.thereA fun e => e.elim h.thereR isTab.there
/-- what is owned, or stands in the store, is no table -/
theorem SOk.noT {a : Addr} (h : SOk K S H r x (some a) v) (ps : Array Value) : H a ≠ some (.tbl ps) := by
  cases x with
  | no => cases h
  | dat d => cases h.1
  | own ds => obtain ⟨a, e1, e2, e3, xs, e4, e5⟩ := h; cases e1; rw [e4]; exact fun z => nomatch z
  | dct ds => obtain ⟨a, e1, e2, e3, xs, e4, e5⟩ := h; cases e1; rw [e4]; exact fun z => nomatch z
  | dnk ds => obtain ⟨a, e1, e2, e3, xs, e4, e5⟩ := h; cases e1; rw [e4]; exact fun z => nomatch z
  | ref j => cases h.1
  | fn F => cases h.1
  | xt ds => cases h.1
theorem ObOk.noT {a : Addr} {u : Ob} (h : ObOk K S H r a u) (ps : Array Value) : H a ≠ some (.tbl ps) := by
  cases u with
  | lst ds => obtain ⟨xs, e1, e2⟩ := h; rw [e1]; exact fun z => nomatch z
  | dct ds => obtain ⟨xs, e1, e2⟩ := h; rw [e1]; exact fun z => nomatch z
  | dnk ds => obtain ⟨xs, e1, e2⟩ := h; rw [e1]; exact fun z => nomatch z
  | ins C fs => obtain ⟨cls, dx, vs, e0, e1, e2, e3⟩ := h; rw [e1]; exact fun z => nomatch z
theorem StOk.apartA (h : StOk K l g s H S r A) {a : Addr} (e : some a ∈ A) : ¬ isTab S H a := fun z => by
  obtain ⟨i, hi⟩ := List.mem_iff_getElem?.mp e
  have hl : i < l.length := by rw [← h.la]; exact (List.getElem?_eq_some_iff.mp hi).1
  obtain ⟨o, v, e1, e2, e3⟩ := h.ok i _ (List.getElem?_eq_getElem hl)
  rw [hi] at e1
  cases e1
  obtain ⟨_, ps, q⟩ := z
  exact e3.noT ps q
theorem StOk.apartR (h : StOk K l g s H S r A) {a : Addr} (e : a ∈ r) : ¬ isTab S H a := fun z => by
  obtain ⟨j, hj⟩ := List.mem_iff_getElem?.mp e
  have hl : j < g.length := by rw [← h.lg]; exact (List.getElem?_eq_some_iff.mp hj).1
  obtain ⟨q1, q2⟩ := h.st j a _ hj (List.getElem?_eq_getElem hl)
  obtain ⟨_, ps, q⟩ := z
  exact q2.noT ps q
theorem StOk.noOwnA (h : StOk K l g s H S r A) {a : Addr} (e : some a ∈ A) : ∃ o, H a = some o ∧ ∀ c, o ≠ .own c := by
  obtain ⟨i, hi⟩ := List.mem_iff_getElem?.mp e
  have hl : i < l.length := by rw [← h.la]; exact (List.getElem?_eq_some_iff.mp hi).1
  obtain ⟨o, v, e1, e2, e3⟩ := h.ok i _ (List.getElem?_eq_getElem hl)
  rw [hi] at e1
  cases e1
  exact e3.noOwn
theorem StOk.noOwnR (h : StOk K l g s H S r A) {a : Addr} (e : a ∈ r) : ∃ o, H a = some o ∧ ∀ c, o ≠ .own c := by
  obtain ⟨j, hj⟩ := List.mem_iff_getElem?.mp e
  have hl : j < g.length := by rw [← h.lg]; exact (List.getElem?_eq_some_iff.mp hj).1
  obtain ⟨q1, q2⟩ := h.st j a _ hj (List.getElem?_eq_getElem hl)
  exact q2.noOwn
/-- the general move: slots as they were, the store as told -/
theorem StOk.move (h : StOk K l g s H S r A) (hs : Same S S1) (hf : Same S1 H1) (hk : ∀ a, some a ∈ A → S1 a = none ∧ ∀ u, H a = some u → H1 a = some u) (hr : ∃ q, r1 = r ++ q) (rn : r1.Nodup) (dr : ∀ a, some a ∈ A → a ∉ r1) (lg : r1.length = g'.length)
    (st : ∀ (j : Nat) (a : Addr) (o : Ob), r1[j]? = some a → g'[j]? = some o → S1 a = none ∧ ObOk K S1 H1 r1 a o) (tb : TabsOk K S1 H1) : StOk K l g' s H1 S1 r1 A :=
  ⟨hf, h.la, h.ls, fun i x e => by
    obtain ⟨o, v, e1, e2, e3⟩ := h.ok i x e
    exact ⟨o, v, e1, e2, e3.go hs (fun a ea => hk a (by rw [← ea]; exact List.mem_of_getElem? e1)) hr⟩, h.ij, dr, rn, lg, st, tb⟩
theorem StOk.grow (h : StOk K l g s H S r A) (q : Grow m0 S H S1 H1) : StOk K l g s H1 S1 r A :=
  h.move q.s q.f (fun a ha => ⟨q.n a (h.thereA ha).2 (h.thereA ha).1, fun u e => q.all a u e⟩) ⟨[], by simp⟩ h.rn h.dr h.lg (fun j a o e1 e2 => by
    obtain ⟨q1, q2⟩ := h.st j a o e1 e2
    exact ⟨q.n a q1 q2.there, q2.go q.s (.of fun b z e => q.all b z e) ⟨[], by simp⟩⟩) (h.tb.grow q fun _ _ z => z)
/-- a call has been: the store is another -/
theorem StOk.call (h : StOk K l g s H S r A) (q : GrowT (inR S H r) S H S1 H1) (hr : ∃ q, r1 = r ++ q) (rn : r1.Nodup) (hn : ∀ a, a ∈ r1 → a ∈ r ∨ H a = none) (lg : r1.length = g'.length)
    (st : ∀ (j : Nat) (a : Addr) (o : Ob), r1[j]? = some a → g'[j]? = some o → S1 a = none ∧ ObOk K S1 H1 r1 a o) (tb : TabsOk K S1 H1) : StOk K l g' s H1 S1 r1 A ∧ Mv K S H r A S1 H1 r1 A :=
  ⟨h.move q.s q.f (fun a ha => ⟨q.n a (h.thereA ha).2 (h.thereA ha).1, fun u e => q.k a u (fun z => z.elim (h.dr a ha) (h.apartA ha)) e⟩) hr rn (fun a ha z => (hn a z).elim (h.dr a ha) fun e => (h.thereA ha).1 e) lg st tb,
    ⟨q.s, q.f, fun a e1 e2 _ => q.n a e1 e2, fun a o hm e => q.k a o (fun z => hm (.inr z)) e, q.d, hr, fun a z => z.elim (fun z => .inl (.inl z)) fun z => z.elim (fun z => (hn a z).elim (fun z => .inl (.inr (.inl z))) .inr) fun z => by
      by_cases hm : inR S H r a
      · exact .inl (.inr hm)
      · exact (z.back q.s fun o e => .inr (q.k a o hm e)).imp (fun z => .inr (.inr z)) id, tGrow q⟩⟩
/-- a slot gets something that is no object of its own -/
theorem StOk.set {i : Nat} {y : Vl} {w : V} (h : StOk K l g s H S r A) (ok : SOk K S H r y none (some w)) : StOk K (l.set i y) g (s.set i (some w)) H S r (A.set i none) :=
  ⟨h.hs, by rw [List.length_set, List.length_set]; exact h.la, by rw [List.length_set, List.length_set]; exact h.ls, fun j z e => by
    by_cases hij : i = j
    · subst hij
      have hl : i < l.length := by
        have := (List.getElem?_eq_some_iff.mp e).1
        rwa [List.length_set] at this
      rw [List.getElem?_set_self hl] at e
      cases e
      exact ⟨none, some w, List.getElem?_set_self (by rw [h.la]; exact hl), List.getElem?_set_self (by rw [h.ls]; exact hl), ok⟩
    · rw [List.getElem?_set_ne hij] at e ⊢
      rw [List.getElem?_set_ne hij]
      exact h.ok j z e, fun j k a e1 e2 => by
    by_cases hij : i = j
    · subst hij
      have hl : i < A.length := by
        have := (List.getElem?_eq_some_iff.mp e1).1
        rwa [List.length_set] at this
      rw [List.getElem?_set_self hl] at e1
      cases e1
    · by_cases hik : i = k
      · subst hik
        have hl : i < A.length := by
          have := (List.getElem?_eq_some_iff.mp e2).1
          rwa [List.length_set] at this
        rw [List.getElem?_set_self hl] at e2
        cases e2
      · rw [List.getElem?_set_ne hij] at e1
        rw [List.getElem?_set_ne hik] at e2
        exact h.ij j k a e1 e2, fun a ha => by
    rcases List.mem_or_eq_of_mem_set ha with q | q
    · exact h.dr a q
    · exact absurd q (by simp), h.rn, h.lg, h.st, h.tb⟩
theorem trset {i : Nat} {a : Addr} (h : tr S H (A.set i none) r a) : tr S H A r a := by
  rcases h with q | q
  · rcases List.mem_or_eq_of_mem_set q with q | q
    · exact .inl q
    · cases q
  · exact .inr q
theorem Mv.set {i : Nat} (h : Mv K S H r A S1 H1 r1 A1) : Mv K S H r A S1 H1 r1 (A1.set i none) := ⟨h.s, h.h, h.n, h.k, h.d, h.p, fun a z => h.f a (trset z), h.t⟩
/-- a slot gets a new object of its own -/
theorem StOk.fresh {i : Nat} {y : Vl} {p : Addr} (h : StOk K l g s H S r A) (hA : some p ∉ A) (hr : p ∉ r) (ok : SOk K S H r y (some p) (some (.ref p))) : StOk K (l.set i y) g (s.set i (some (.ref p))) H S r (A.set i (some p)) :=
  ⟨h.hs, by rw [List.length_set, List.length_set]; exact h.la, by rw [List.length_set, List.length_set]; exact h.ls, fun j z e => by
    by_cases hij : i = j
    · subst hij
      have hl : i < l.length := by
        have := (List.getElem?_eq_some_iff.mp e).1
        rwa [List.length_set] at this
      rw [List.getElem?_set_self hl] at e
      cases e
      exact ⟨some p, some (.ref p), List.getElem?_set_self (by rw [h.la]; exact hl), List.getElem?_set_self (by rw [h.ls]; exact hl), ok⟩
    · rw [List.getElem?_set_ne hij] at e ⊢
      rw [List.getElem?_set_ne hij]
      exact h.ok j z e, fun j k a e1 e2 => by
    have key : ∀ m : Nat, (A.set i (some p))[m]? = some (some a) → (m = i ∧ a = p) ∨ (m ≠ i ∧ A[m]? = some (some a)) := fun m e => by
      by_cases him : i = m
      · subst him
        have hl : i < A.length := by
          have := (List.getElem?_eq_some_iff.mp e).1
          rwa [List.length_set] at this
        rw [List.getElem?_set_self hl] at e
        cases e
        exact .inl ⟨rfl, rfl⟩
      · rw [List.getElem?_set_ne him] at e
        exact .inr ⟨fun z => him z.symm, e⟩
    rcases key j e1 with ⟨q1, q2⟩ | ⟨q1, q2⟩
    · rcases key k e2 with ⟨q3, q4⟩ | ⟨q3, q4⟩
      · rw [q1, q3]
      · rw [q2] at q4; exact absurd (List.mem_of_getElem? q4) hA
    · rcases key k e2 with ⟨q3, q4⟩ | ⟨q3, q4⟩
      · rw [q4] at q2; exact absurd (List.mem_of_getElem? q2) hA
      · exact h.ij j k a q2 q4, fun a ha => by
    rcases List.mem_or_eq_of_mem_set ha with q | q
    · exact h.dr a q
    · exact (Option.some.inj q) ▸ hr, h.rn, h.lg, h.st, h.tb⟩
theorem Mv.fresh {i : Nat} {p : Addr} (h : Mv K S H r A S1 H1 r1 A1) (hp : H p = none) : Mv K S H r A S1 H1 r1 (A1.set i (some p)) := ⟨h.s, h.h, h.n, h.k, h.d, h.p, fun a z => by
  rcases z with q | q
  · rcases List.mem_or_eq_of_mem_set q with q | q
    · exact h.f a (.inl q)
    · cases q; exact .inr hp
  · exact h.f a (.inr q), h.t⟩
/-- the object of a slot is written -/
theorem StOk.putO {i : Nat} {y : Vl} {a : Addr} {u : HO} {w : Option V} (h : StOk K l g s H S r A) (hx : l[i]? = some x) (ha : A[i]? = some (some a)) (hw : s[i]? = some w) (ok : SOk K S (upd H a u) r y (some a) w) : StOk K (l.set i y) g s (upd H a u) S r A ∧ Mv K S H r A S (upd H a u) r A := by
  have ht := h.thereA (List.mem_of_getElem? ha)
  have hne : ∀ b, some b ∈ A → ∀ j, A[j]? = some (some b) → j ≠ i → b ≠ a := fun b _ j e z q => z (h.ij j i a (by rw [← q]; exact e) ha)
  have hs : Same S (upd H a u) := fun b z e => by rw [upd_ne (ne_of_none e ht.2)]; exact h.hs b z e
  have hu : ∀ ps, u ≠ .tbl ps := fun ps z => ok.noT ps (by rw [upd_same, z])
  refine ⟨⟨hs, by rw [List.length_set]; exact h.la, by rw [List.length_set]; exact h.ls, fun j z e => ?_, h.ij, h.dr, h.rn, h.lg, fun j b o e1 e2 => ?_, h.tb.go (Same.refl S) (fun b hb => (h.tb.there hb).2) fun b o hb e => ?_⟩, ⟨Same.refl S, hs, fun _ e _ _ => e, fun b z hm e => ?_, fun b e => ?_, ⟨[], by simp⟩, fun _ z => .inl (tr_upd z hu), tUpd fun ps z => h.apartA (List.mem_of_getElem? ha) ⟨ht.2, ps, z⟩⟩⟩
  · by_cases hij : i = j
    · subst hij
      have hl : i < l.length := (List.getElem?_eq_some_iff.mp hx).1
      rw [List.getElem?_set_self hl] at e
      cases e
      exact ⟨some a, w, ha, hw, ok⟩
    · rw [List.getElem?_set_ne hij] at e
      obtain ⟨o, v, e1, e2, e3⟩ := h.ok j z e
      refine ⟨o, v, e1, e2, e3.go (Same.refl S) (fun b eb => ?_) ⟨[], by simp⟩⟩
      subst eb
      refine ⟨e3.there.2, fun z e => ?_⟩
      rw [upd_ne (hne b (List.mem_of_getElem? e1) j e1 fun q => hij q.symm)]
      exact e
  · obtain ⟨q1, q2⟩ := h.st j b o e1 e2
    have hb : b ≠ a := fun z => h.dr a (List.mem_of_getElem? ha) (by rw [← z]; exact List.mem_of_getElem? e1)
    obtain ⟨oo, ho, hn⟩ := h.noOwnA (List.mem_of_getElem? ha)
    exact ⟨q1, q2.go (Same.refl S) (.upd hb ho hn) ⟨[], by simp⟩⟩
  · have hba : b ≠ a := fun q => h.apartA (List.mem_of_getElem? ha) (by rw [← q]; exact hb)
    rw [upd_ne hba]; exact e
  · have hb : b ≠ a := fun q => hm (.inl (by rw [q]; exact List.mem_of_getElem? ha))
    rw [upd_ne hb]; exact e
  · by_cases hb : b = a
    · subst hb; rw [upd_same]; exact fun q => nomatch q
    · rw [upd_ne hb]; exact e
/-- an object of the store is written -/
theorem StOk.putR {j : Nat} {a : Addr} {u : HO} {o' : Ob} (h : StOk K l g s H S r A) (ha : r[j]? = some a) (ok : ObOk K S (upd H a u) r a o') : StOk K l (g.set j o') s (upd H a u) S r A ∧ Mv K S H r A S (upd H a u) r A := by
  have ht := h.thereR (List.mem_of_getElem? ha)
  have hs : Same S (upd H a u) := fun b z e => by rw [upd_ne (ne_of_none e ht.2)]; exact h.hs b z e
  have hu : ∀ ps, u ≠ .tbl ps := fun ps z => ok.noT ps (by rw [upd_same, z])
  refine ⟨h.move (Same.refl S) hs (fun b hb => ⟨(h.thereA hb).2, fun z e => ?_⟩) ⟨[], by simp⟩ h.rn h.dr (by rw [List.length_set]; exact h.lg) (fun k b o e1 e2 => ?_) (h.tb.go (Same.refl S) (fun b hb => (h.tb.there hb).2) fun b o hb e => ?_), ⟨Same.refl S, hs, fun _ e _ _ => e, fun b z hm e => ?_, fun b e => ?_, ⟨[], by simp⟩, fun _ z => .inl (tr_upd z hu), tUpd fun ps z => h.apartR (List.mem_of_getElem? ha) ⟨ht.2, ps, z⟩⟩⟩
  · rw [upd_ne fun q => h.dr b hb (by rw [q]; exact List.mem_of_getElem? ha)]; exact e
  · by_cases hjk : j = k
    · subst hjk
      have hl : j < g.length := by rw [← h.lg]; exact (List.getElem?_eq_some_iff.mp ha).1
      rw [List.getElem?_set_self hl] at e2
      rw [ha] at e1
      cases e1
      cases e2
      exact ⟨ht.2, ok⟩
    · rw [List.getElem?_set_ne hjk] at e2
      obtain ⟨q1, q2⟩ := h.st k b o e1 e2
      have hb : b ≠ a := fun q => by
        subst q
        exact hjk (nodup_inj h.rn ha e1)
      obtain ⟨oo, ho, hn⟩ := h.noOwnR (List.mem_of_getElem? ha)
      exact ⟨q1, q2.go (Same.refl S) (.upd hb ho hn) ⟨[], by simp⟩⟩
  · have hba : b ≠ a := fun q => h.apartR (List.mem_of_getElem? ha) (by rw [← q]; exact hb)
    rw [upd_ne hba]; exact e
  · have hb : b ≠ a := fun q => hm (.inr (.inl (by rw [q]; exact List.mem_of_getElem? ha)))
    rw [upd_ne hb]; exact e
  · by_cases hb : b = a
    · subst hb; rw [upd_same]; exact fun q => nomatch q
    · rw [upd_ne hb]; exact e
/-- the own list of a slot becomes data -/
theorem StOk.freeze {i : Nat} {ds : List PyData} (h : StOk K l g s H S r A) (hx : l[i]? = some (.own ds)) : ∃ S1, StOk K (l.set i (.dat (.list ds))) g s H S1 r (A.set i none) ∧ Mv K S H r A S1 H r (A.set i none) := by
  obtain ⟨o, v, e1, e2, a, rfl, rfl, e3, xs, e4, e5⟩ := h.ok i _ hx
  have hm : Same S (upd S a (.lst xs)) := same_up e3
  have hil : i < l.length := (List.getElem?_eq_some_iff.mp hx).1
  have hf : Same (upd S a (.lst xs)) H := fun b z e => by
    by_cases hb : b = a
    · subst hb; rw [upd_same] at e; cases e; exact e4
    · rw [upd_ne hb] at e; exact h.hs b z e
  refine ⟨upd S a (.lst xs), ⟨hf, by rw [List.length_set, List.length_set]; exact h.la, by rw [List.length_set]; exact h.ls, fun j z e => ?_, fun j k b q1 q2 => ?_, fun b hb => ?_, h.rn, h.lg, fun j b o q1 q2 => ?_, h.tb.go hm (fun b hb => ?_) fun b o _ e => e⟩, ⟨hm, hf, fun b q1 q2 q3 => ?_, fun b z _ e => e, fun b e => e, ⟨[], by simp⟩, fun b z => tr_back (trset z) hm fun o e => .inr e, tUpS fun ps z => by rw [e4] at z; cases z⟩⟩
  · by_cases hij : i = j
    · subst hij
      rw [List.getElem?_set_self hil] at e
      cases e
      exact ⟨none, _, List.getElem?_set_self (by rw [h.la]; exact hil), e2, rfl, _, rfl, .lst (.inl (.inl upd_same)) (DpAll_mono e5 hm)⟩
    · rw [List.getElem?_set_ne hij] at e ⊢
      obtain ⟨o, v, q1, q2, q3⟩ := h.ok j z e
      refine ⟨o, v, q1, q2, q3.go hm (fun b eb => ?_) ⟨[], by simp⟩⟩
      subst eb
      have hb : b ≠ a := fun q => hij (h.ij i j a e1 (by rw [← q]; exact q1))
      exact ⟨by rw [upd_ne hb]; exact q3.there.2, fun z e => e⟩
  · have key : ∀ m : Nat, (A.set i none)[m]? = some (some b) → A[m]? = some (some b) := fun m e => by
      by_cases him : i = m
      · subst him
        rw [List.getElem?_set_self (by rw [h.la]; exact hil)] at e
        cases e
      · rw [List.getElem?_set_ne him] at e
        exact e
    exact h.ij j k b (key j q1) (key k q2)
  · rcases List.mem_or_eq_of_mem_set hb with q | q
    · exact h.dr b q
    · cases q
  · obtain ⟨q3, q4⟩ := h.st j b o q1 q2
    have hb : b ≠ a := fun z => h.dr a (List.mem_of_getElem? e1) (by rw [← z]; exact List.mem_of_getElem? q1)
    exact ⟨by rw [upd_ne hb]; exact q3, q4.go hm (.of fun _ z e => e) ⟨[], by simp⟩⟩
  · have hba : b ≠ a := fun q => h.apartA (List.mem_of_getElem? e1) (by rw [← q]; exact hb)
    rw [upd_ne hba]; exact (h.tb.there hb).2
  · have hb : b ≠ a := fun z => q3 (.inl (by rw [z]; exact List.mem_of_getElem? e1))
    rw [upd_ne hb]; exact q1
end
end Sm

namespace Sm
open PySem L2 RZ Dz

/-! ### what comes to what -/
def EvS (K : Kx) (te : TE) (e : M PyData) : Prop := ∀ l g d l' g' s H S r A, e l g = some (d, l', g') → StOk K l g s H S r A → ∀ Q : VK, (∀ v H' S' r' A', Mv K S H r A S' H' r' A' → StOk K l' g' s H' S' r' A' → Dp K S' v d → Q v H') → te s H Q
def EvT (K : Kx) (tt : TT) (e : M Bool) : Prop := ∀ l g b l' g' s H S r A, e l g = some (b, l', g') → StOk K l g s H S r A → ∀ Q : Bool → Hp → Prop, (∀ H' S' r' A', Mv K S H r A S' H' r' A' → StOk K l' g' s H' S' r' A' → Q b H') → tt s H Q
def EvA (K : Kx) (ta : TA) (e : M (List PyData)) : Prop := ∀ l g ds l' g' s H S r A, e l g = some (ds, l', g') → StOk K l g s H S r A → ∀ Q : List V → Hp → Prop, (∀ vs H' S' r' A', Mv K S H r A S' H' r' A' → StOk K l' g' s H' S' r' A' → DpAll K S' vs ds → Q vs H') → ta s H Q
def EvO (K : Kx) (to : TO) (e : M (Option Int)) : Prop := ∀ l g o l' g' s H S r A, e l g = some (o, l', g') → StOk K l g s H S r A → ∀ Q : Option Int → Hp → Prop, (∀ H' S' r' A', Mv K S H r A S' H' r' A' → StOk K l' g' s H' S' r' A' → Q o H') → to s H Q
/-- a new list, nobody's yet -/
def EvL (K : Kx) (te : TE) (e : M (List PyData)) : Prop := ∀ l g ds l' g' s H S r A, e l g = some (ds, l', g') → StOk K l g s H S r A → ∀ Q : VK, (∀ p xs H' S' r' A', Mv K S H r A S' H' r' A' → StOk K l' g' s H' S' r' A' → H p = none → ¬ tr S' H' A' r' p → S' p = none → H' p = some (.lst xs) → DpAll K S' xs ds → Q (.ref p) H') → te s H Q
/-- a new dict, nobody's yet -/
def EvC (K : Kx) (te : TE) (e : M (List (Key × PyData))) : Prop := ∀ l g ds l' g' s H S r A, e l g = some (ds, l', g') → StOk K l g s H S r A → ∀ Q : VK, (∀ p xs H' S' r' A', Mv K S H r A S' H' r' A' → StOk K l' g' s H' S' r' A' → H p = none → ¬ tr S' H' A' r' p → S' p = none → H' p = some (.dK xs) → KvD K S' xs ds → Q (.ref p) H') → te s H Q
def EvI (K : Kx) (wi : TI) (e : M (List PyData)) : Prop := ∀ l g ds l' g' s H S r A, e l g = some (ds, l', g') → StOk K l g s H S r A → ∀ R : It → Hp → Prop, (∀ J H' S' r' A', Mv K S H r A S' H' r' A' → StOk K l' g' s H' S' r' A' → WalkD K J S' ds → R J H') → wi s H R
/-- values: data, or an object of the store -/
def VOk (K : Kx) (S : Hp) (r : List Addr) (v : V) : Vl → Prop
  | .dat d => Dp K S v d
  | .ref j => ∃ a, r[j]? = some a ∧ v = .ref a
  | .fn F => FnV K S v F
  | .xt ds => XtV K S v ds
  | _ => False
def VsOk (K : Kx) (S : Hp) (r : List Addr) : List V → List Vl → Prop := Paired (VOk K S r)
def EvV (K : Kx) (te : TE) (e : M Vl) : Prop := ∀ l g d l' g' s H S r A, e l g = some (d, l', g') → StOk K l g s H S r A → ∀ Q : VK, (∀ v H' S' r' A', Mv K S H r A S' H' r' A' → StOk K l' g' s H' S' r' A' → VOk K S' r' v d → Q v H') → te s H Q
def EvVA (K : Kx) (ta : TA) (e : M (List Vl)) : Prop := ∀ l g ds l' g' s H S r A, e l g = some (ds, l', g') → StOk K l g s H S r A → ∀ Q : List V → Hp → Prop, (∀ vs H' S' r' A', Mv K S H r A S' H' r' A' → StOk K l' g' s H' S' r' A' → VsOk K S' r' vs ds → Q vs H') → ta s H Q
theorem VOk.go {K : Kx} {S S1 : Hp} {r r1 : List Addr} {v : V} {x : Vl} (h : VOk K S r v x) (hs : Same S S1) (hr : ∃ q, r1 = r ++ q) : VOk K S1 r1 v x := by
  cases x with
  | dat d => exact Dp_mono h hs
  | ref j =>
    obtain ⟨a, e2, e3⟩ := h
    obtain ⟨q, rfl⟩ := hr
    exact ⟨a, by rw [List.getElem?_append_left (List.getElem?_eq_some_iff.mp e2).1]; exact e2, e3⟩
  | no => exact h
  | own ds => exact h
  | dct ds => exact h
  | dnk ds => exact h
  | fn F => exact FnV.mono h hs
  | xt ds => exact XtV.mono h hs
theorem VsOk.go {K : Kx} {S S1 : Hp} {r r1 : List Addr} {v : List V} {x : List Vl} (h : VsOk K S r v x) (hs : Same S S1) (hr : ∃ q, r1 = r ++ q) : VsOk K S1 r1 v x := Paired.mapP h fun _ _ q => q.go hs hr

/-! ### the plain words -/
def fail {α : Type} : M α := fun _ _ => none
def eVar (i : Nat) : M PyData := fun l g => match l[i]? with
  | some (.dat d) => some (d, l, g)
  | some (.xt ds) => some (.tuple ds, l, g)
  | _ => none
def eC (d : PyData) : M PyData := mp d
def eOp (f : PyData → PyData → Option PyData) (a b : M PyData) : M PyData := mb a fun x => mb b fun y => mo (f x y)
def eUn (f : PyData → Option PyData) (a : M PyData) : M PyData := mb a fun x => mo (f x)
def aNil : M (List PyData) := mp []
def aCons (a : M PyData) (r : M (List PyData)) : M (List PyData) := mb a fun x => mb r fun xs => mp (x :: xs)
def eCB (f : List PyData → Option PyData) (a : M (List PyData)) : M PyData := mb a fun xs => mo (f xs)
def smallO {α : Type} (n : Nat) (a : α) : Option α := if n ≤ 4000000 then some a else none
def eTup (a : M (List PyData)) : M PyData := mb a fun xs => mo (smallO xs.length (.tuple xs))
def eL (m : M (List PyData)) : M PyData := mb m fun xs => mp (.list xs)
def lLst (a : M (List PyData)) : M (List PyData) := mb a fun xs => mo (smallO xs.length xs)
def eIf (t : M Bool) (a b : M PyData) : M PyData := mb t fun c => if c = true then a else b
def truO : PyData → Option Bool
  | .str y => if y.length ≤ 4000000 then some ((y.length : Int) != 0) else none
  | d => some (truD d)
def eAnd (a b : M PyData) : M PyData := mb a fun x => mb (mo (truO x)) fun c => if c = true then b else mp x
def eNot (a : M PyData) : M PyData := mb a fun x => mo ((truO x).map fun c => .bool (!c))
def eIsN (a : M PyData) : M PyData := mb a fun x => mp (.bool (isN x))
def eNotN (a : M PyData) : M PyData := mb a fun x => mp (.bool (!isN x))
def asB : PyData → Option Bool
  | .bool b => some b
  | _ => none
def asI : PyData → Option Int
  | .int b => some b
  | _ => none
def eChain (f f' : PyData → PyData → Option PyData) (a b c : M PyData) : M PyData := mb a fun x => mb b fun y => mb (mo ((f x y).bind asB)) fun z => if z = true then mb c fun w => mo (f' y w) else mp (.bool false)
def bTest (a : M PyData) : M Bool := mb a fun x => mo (asB x)
def bTru (a : M PyData) : M Bool := mb a fun x => mo (truO x)
def bNot (t : M Bool) : M Bool := mb t fun b => mp (!b)
def bAnd (t u : M Bool) : M Bool := mb t fun b => if b = true then u else mp false
def bOr (t u : M Bool) : M Bool := mb t fun b => if b = true then mp true else u
def bYes : M Bool := mp true
def oNone : M (Option Int) := mp none
def oSome (a : M PyData) : M (Option Int) := mb a fun x => mb (mo (asI x)) fun i => mp (some i)
def slD (d : PyData) (lo hi : Option Int) : Option PyData := match d with
  | .list ds => some (.list (cutD ds lo hi))
  | .tuple ds => some (.tuple (cutD ds lo hi))
  | _ => none
def eSl (a : M PyData) (lo hi : M (Option Int)) : M PyData := mb a fun x => mb lo fun i => mb hi fun j => mo (slD x i j)

/-! ### operators on data -/
def RDO (K : Kx) (r : R2) (f : PyData → PyData → Option PyData) : Prop := ∀ a b c, f a b = some c → RD K r a b c
def RUO (K : Kx) (r : V → Hp → VK → Prop) (f : PyData → Option PyData) : Prop := ∀ a c, f a = some c → RUD K r a c
def RCO (K : Kx) (r : List V → Hp → VK → Prop) (f : List PyData → Option PyData) : Prop := ∀ a c, f a = some c → RCD K r a c
def iOp (h : Int → Int → PyData) : PyData → PyData → Option PyData
  | .int i, .int j => some (h i j)
  | _, _ => none
def iOpC (C : Int → Int → Bool) (h : Int → Int → PyData) : PyData → PyData → Option PyData
  | .int i, .int j => if C i j = true then some (h i j) else none
  | _, _ => none
def subD := iOp fun i j => .int (i - j)
def ltD := iOp fun i j => .bool (decide (i < j))
def leD := iOp fun i j => .bool (decide (i ≤ j))
def gtD := iOp fun i j => .bool (decide (j < i))
def geD := iOp fun i j => .bool (decide (j ≤ i))
def modD := iOpC (fun _ j => decide (0 < j)) fun i j => .int (i % j)
def fdivD := iOpC (fun _ j => decide (0 < j) && decide (j < 1073741824)) fun i j => .int (i / j)
def mulD := iOpC (fun i j => (decide (-(2 ^ 64) < i) && decide (i < 2 ^ 64)) || (decide (-(2 ^ 64) < j) && decide (j < 2 ^ 64))) fun i j => .int (i * j)
def plusD : PyData → PyData → Option PyData
  | .int i, .int j => some (.int (i + j))
  | .list xs, .list ys => if xs.length + ys.length ≤ 4000000 then some (.list (xs ++ ys)) else none
  | .tuple xs, .tuple ys => if xs.length + ys.length ≤ 4000000 then some (.tuple (xs ++ ys)) else none
  | .str i, .str j => if i.length + j.length ≤ 4000000 then some (.str (i ++ j)) else none
  | _, _ => none
def negD : PyData → Option PyData
  | .int i => some (.int (-i))
  | _ => none
def eqD (a b : PyData) : Option PyData := if SeqAt.shaped a = true ∧ SeqAt.shaped b = true then some (.bool (PyData.eqv a b)) else match a, b with
  | .str x, .str y => some (.bool (decide (x = y)))
  | .str _, .int _ => some (.bool false)
  | .int _, .str _ => some (.bool false)
  | _, _ => none
def neD (a b : PyData) : Option PyData := (eqD a b).map fun x => match x with
  | .bool c => .bool (!c)
  | x => x
def ixD (a b : PyData) : Option PyData := match a, b with
  | .tuple ds, .int i => atI ds i
  | .list ds, .int i => atI ds i
  | _, _ => none
def inFD (neg : Bool) (a b : PyData) : Option PyData := if flatD a = true then match b with
  | .list ds => if ds.all flatD = true then some (.bool (if neg then !inF a ds else inF a ds)) else none
  | .tuple ds => if ds.all flatD = true then some (.bool (if neg then !inF a ds else inF a ds)) else none
  | _ => none
  else none
section
variable {K : Kx}
theorem ro_I0 {g : Int → Int → V} {h : Int → Int → PyData} (q : ∀ S i j, Dp K S (g i j) (h i j)) : RDO K (rI0 g) (iOp h) := fun a b c e => by
  unfold iOp at e
  split at e
  · cases e; exact rd_I0 fun S => q S _ _
  · cases e
theorem ro_IC {C : Int → Int → Prop} {C' : Int → Int → Bool} {g : Int → Int → V} {h : Int → Int → PyData} (q : ∀ S i j, Dp K S (g i j) (h i j)) (hc : ∀ i j, C' i j = true → C i j) : RDO K (rI C g) (iOpC C' h) := fun a b c e => by
  unfold iOpC at e
  split at e
  · split at e
    · rename_i hq
      cases e; exact rd_I (hc _ _ hq) fun S => q S _ _
    · cases e
  · cases e
theorem ro_sub : RDO K (rI0 fun i j => .int (i - j)) subD := ro_I0 fun _ _ _ => .int _
theorem ro_lt : RDO K (rI0 fun i j => .bl (decide (i < j))) ltD := ro_I0 fun _ _ _ => .bl _
theorem ro_le : RDO K (rI0 fun i j => .bl (decide (i ≤ j))) leD := ro_I0 fun _ _ _ => .bl _
theorem ro_gt : RDO K (rI0 fun i j => .bl (decide (j < i))) gtD := ro_I0 fun _ _ _ => .bl _
theorem ro_ge : RDO K (rI0 fun i j => .bl (decide (j ≤ i))) geD := ro_I0 fun _ _ _ => .bl _
theorem ro_mod : RDO K (rI (fun _ j => 0 < j) fun i j => .int (i % j)) modD := ro_IC (fun _ _ _ => .int _) fun i j h => by simpa using h
theorem ro_fdiv : RDO K (rI CDiv fun i j => .int (i / j)) fdivD := ro_IC (fun _ _ _ => .int _) fun i j h => by
  simp at h
  exact ⟨h.1, h.2⟩
theorem ro_times : RDO K rTimes mulD := fun a b c e => rd_l (ro_IC (C := CMul) (g := fun i j => .int (i * j)) (fun _ _ _ => .int _) (fun i j h => by
  simp only [Bool.or_eq_true, Bool.and_eq_true, decide_eq_true_eq] at h
  exact h) a b c e)
theorem ro_plus : RDO K (rPlus K) plusD := fun a b c e => by
  unfold plusD at e
  split at e
  · cases e; exact rd_plusI
  · split at e
    · cases e; exact rd_plusL (by assumption)
    · cases e
  · split at e
    · cases e; exact rd_plusT (by assumption)
    · cases e
  · split at e
    · cases e; exact rd_plusS (by assumption)
    · cases e
  · cases e
theorem ro_neg : RUO K (rU fun i => .int (-i)) negD := fun a c e => by
  unfold negD at e
  split at e
  · cases e; exact rud_U fun _ => .int _
  · cases e
theorem ro_eq : RDO K (rEqA K) eqD := fun a b c e => by
  unfold eqD at e
  split at e
  · rename_i h
    cases e; exact rd_eqD h.1 h.2
  · split at e
    · cases e; exact rd_eqA rd_eqS
    · cases e; exact rd_eqA rd_eqSI
    · cases e; exact rd_eqA rd_eqIS
    · cases e
theorem ro_ne : RDO K (rNeA K) neD := fun a b c e => by
  unfold neD eqD at e
  split at e
  · rename_i h
    cases e; exact rd_neD h.1 h.2
  · split at e
    · cases e; exact rd_neA rd_neS
    · cases e; exact rd_neA rd_neSI
    · cases e; exact rd_neA rd_neIS
    · cases e
theorem ro_ix : RDO K (rIx K) ixD := fun a b c e => by
  unfold ixD at e
  split at e
  · exact rd_ixT e
  · exact rd_ixL e
  · cases e
theorem ro_in {neg : Bool} : RDO K (rIn K neg) (inFD neg) := fun a b c e => by
  unfold inFD at e
  split at e
  · rename_i hf
    split at e
    · split at e
      · rename_i hq; cases e; exact rd_inL hf hq
      · cases e
    · split at e
      · rename_i hq; cases e; exact rd_inT hf hq
      · cases e
    · cases e
  · cases e
end
/-! ### the rules come to them -/
section
variable {K : Kx} {ta tb te tc : TE} {tt tu : TT} {a b c : M PyData} {t u : M Bool} {r0 : R2}
theorem s_var {i : Nat} : EvS K (tVar i) (eVar i) := fun l g d l' g' s H S r A e h Q q => by
  unfold eVar at e
  split at e
  · rename_i d' hl
    cases e
    obtain ⟨o, v, e1, e2, e3, w, rfl, e4⟩ := h.ok i _ hl
    exact ⟨w, e2, q w H S r A (Mv.refl h.hs) h e4⟩
  · rename_i d' hl
    cases e
    obtain ⟨o, v, e1, e2, e3, w, rfl, e4⟩ := h.ok i _ hl
    exact ⟨w, e2, q w H S r A (Mv.refl h.hs) h e4.dp⟩
  · cases e
theorem s_int {i : Int} : EvS K (tC (.int i)) (eC (.int i)) := fun l g d l' g' s H S r A e h Q q => by
  obtain ⟨rfl, rfl, rfl⟩ := mp_some e
  exact q _ H S r A (Mv.refl h.hs) h (.int i)
theorem s_bl {i : Bool} : EvS K (tC (.bl i)) (eC (.bool i)) := fun l g d l' g' s H S r A e h Q q => by
  obtain ⟨rfl, rfl, rfl⟩ := mp_some e
  exact q _ H S r A (Mv.refl h.hs) h (.bl i)
theorem s_str {i : Str} : EvS K (tC (.str i)) (eC (.str i)) := fun l g d l' g' s H S r A e h Q q => by
  obtain ⟨rfl, rfl, rfl⟩ := mp_some e
  exact q _ H S r A (Mv.refl h.hs) h (.str i)
theorem s_non : EvS K (tC .non) (eC .none) := fun l g d l' g' s H S r A e h Q q => by
  obtain ⟨rfl, rfl, rfl⟩ := mp_some e
  exact q _ H S r A (Mv.refl h.hs) h .non
theorem s_op {f : PyData → PyData → Option PyData} (hr : RDO K r0 f) (ha : EvS K ta a) (hb : EvS K tb b) : EvS K (tOp r0 ta tb) (eOp f a b) := fun l g d l' g' s H S r A e h Q q => by
  replace e := mb_some e; obtain ⟨x, l1, g1, e1, e⟩ := e
  replace e := mb_some e; obtain ⟨y, l2, g2, e2, e⟩ := e
  replace e := mo_some e; obtain ⟨e, rfl, rfl⟩ := e
  refine ha _ _ _ _ _ s H S r A e1 h _ fun v1 H1 S1 r1 A1 m1 h1 d1 => hb _ _ _ _ _ s H1 S1 r1 A1 e2 h1 _ fun v2 H2 S2 r2 A2 m2 h2 d2 => ?_
  exact hr x y d e v1 v2 S2 H2 Q h2.hs (Dp_mono d1 m2.s) d2 fun v S3 H3 g3 d3 => q v H3 S3 r2 A2 ((m1.trans m2).trans (Mv.grow g3)) (h2.grow g3) d3
theorem s_un {r : V → Hp → VK → Prop} {f : PyData → Option PyData} (hr : RUO K r f) (ha : EvS K ta a) : EvS K (tUn r ta) (eUn f a) := fun l g d l' g' s H S r A e h Q q => by
  replace e := mb_some e; obtain ⟨x, l1, g1, e1, e⟩ := e
  replace e := mo_some e; obtain ⟨e, rfl, rfl⟩ := e
  refine ha _ _ _ _ _ s H S r A e1 h _ fun v1 H1 S1 r1 A1 m1 h1 d1 => ?_
  exact hr x d e v1 S1 H1 Q h1.hs d1 fun v S3 H3 g3 d3 => q v H3 S3 r1 A1 (m1.trans (Mv.grow g3)) (h1.grow g3) d3
theorem s_nil : EvA K tNil aNil := fun l g d l' g' s H S r A e h Q q => by
  obtain ⟨rfl, rfl, rfl⟩ := mp_some e
  exact q _ H S r A (Mv.refl h.hs) h .nil
theorem s_cons {tr : TA} {m : M (List PyData)} (ha : EvS K ta a) (hb : EvA K tr m) : EvA K (tCons ta tr) (aCons a m) := fun l g d l' g' s H S r A e h Q q => by
  replace e := mb_some e; obtain ⟨x, l1, g1, e1, e⟩ := e
  replace e := mb_some e; obtain ⟨y, l2, g2, e2, e⟩ := e
  obtain ⟨rfl, rfl, rfl⟩ := mp_some e
  exact ha _ _ _ _ _ s H S r A e1 h _ fun v1 H1 S1 r1 A1 m1 h1 d1 => hb _ _ _ _ _ s H1 S1 r1 A1 e2 h1 _ fun v2 H2 S2 r2 A2 m2 h2 d2 => q _ H2 S2 r2 A2 (m1.trans m2) h2 (.cons (Dp_mono d1 m2.s) d2)
theorem s_cb {rr : List V → Hp → VK → Prop} {tr : TA} {m : M (List PyData)} {f : List PyData → Option PyData} (hr : RCO K rr f) (ha : EvA K tr m) : EvS K (tCB rr tr) (eCB f m) := fun l g d l' g' s H S r A e h Q q => by
  replace e := mb_some e; obtain ⟨x, l1, g1, e1, e⟩ := e
  replace e := mo_some e; obtain ⟨e, rfl, rfl⟩ := e
  refine ha _ _ _ _ _ s H S r A e1 h _ fun v1 H1 S1 r1 A1 m1 h1 d1 => ?_
  exact hr x d e v1 S1 H1 Q h1.hs d1 fun v S3 H3 g3 d3 => q v H3 S3 r1 A1 (m1.trans (Mv.grow g3)) (h1.grow g3) d3
theorem smallO_some {α : Type} {n : Nat} {a b : α} (h : smallO n a = some b) : n ≤ 4000000 ∧ b = a := by
  unfold smallO at h
  split at h
  · cases h; exact ⟨by assumption, rfl⟩
  · cases h
theorem s_tup {tr : TA} {m : M (List PyData)} (ha : EvA K tr m) : EvS K (tTup tr) (eTup m) := fun l g d l' g' s H S r A e h Q q => by
  replace e := mb_some e; obtain ⟨x, l1, g1, e1, e⟩ := e
  replace e := mo_some e; obtain ⟨e, rfl, rfl⟩ := e
  obtain ⟨hz, rfl⟩ := smallO_some e
  exact ha _ _ _ _ _ s H S r A e1 h _ fun v1 H1 S1 r1 A1 m1 h1 d1 => ⟨szl (by rw [DpAll_len d1]; exact hz), new_tup h1.hs d1 fun v S3 H3 g3 d3 => q v H3 S3 r1 A1 (m1.trans (Mv.grow g3)) (h1.grow g3) d3⟩
/-- a new object becomes data -/
theorem StOk.take {l : Lo} {g : Sg} {s : L2.St} {H S : Hp} {r : List Addr} {A : List (Option Addr)} {D : Addr} {o : HO} (h : StOk K l g s H S r A) (ht : ¬ tr S H A r D) (hS : S D = none) (hx : H D = some o) (ho : ∀ φ, o ≠ .ext φ := by intro φ z; cases z) : StOk K l g s H (upd S D o) r A := by
  have hm : Same S (upd S D o) := same_up hS
  refine h.move hm (fun b z e => ?_) (fun b hb => ⟨?_, fun u e => e⟩) ⟨[], by simp⟩ h.rn h.dr h.lg (fun j b u e1 e2 => ?_) (h.tb.go hm (fun b hb => ?_) (fun _ _ _ e => e) (no_ext ho))
  · by_cases hb : b = D
    · subst hb; rw [upd_same] at e; cases e; exact hx
    · rw [upd_ne hb] at e; exact h.hs b z e
  · have : b ≠ D := fun z => ht (.inl (by rw [← z]; exact hb))
    rw [upd_ne this]; exact (h.thereA hb).2
  · obtain ⟨q1, q2⟩ := h.st j b u e1 e2
    have : b ≠ D := fun z => ht (.inr (.inl (by rw [← z]; exact List.mem_of_getElem? e1)))
    exact ⟨by rw [upd_ne this]; exact q1, q2.go hm (.of fun _ z e => e) ⟨[], by simp⟩⟩
  · have : b ≠ D := fun z => ht (.inr (.inr (by rw [← z]; exact hb)))
    rw [upd_ne this]; exact (h.tb.there hb).2
theorem Mv.take {S H S1 H1 : Hp} {r r1 : List Addr} {A A1 : List (Option Addr)} {D : Addr} {o : HO} (h : Mv K S H r A S1 H1 r1 A1) (h0 : H D = none) (hS : S1 D = none) (hx : H1 D = some o) (ho : ∀ ps, o ≠ .tbl ps := by intro ps z; cases z) : Mv K S H r A (upd S1 D o) H1 r1 A1 :=
  ⟨h.s.trans (same_up hS), fun b z e => by
    by_cases hb : b = D
    · subst hb; rw [upd_same] at e; cases e; exact hx
    · rw [upd_ne hb] at e; exact h.h b z e, fun b q1 q2 q3 => by
    have : b ≠ D := fun z => q2 (by rw [z]; exact h0)
    rw [upd_ne this]; exact h.n b q1 q2 q3, h.k, h.d, h.p, fun a z => (tr_back z (same_up hS) fun o e => .inr e).elim (h.f a) fun e => .inr (by
      cases q : H a with
      | none => rfl
      | some u => exact absurd e (h.d a (some_ne q))), fun a e => tUpS (fun ps z => ho ps (Option.some.inj (hx.symm.trans z))) a (h.t a e)⟩
theorem s_ofL {m : M (List PyData)} (h : EvL K te m) : EvS K te (eL m) := fun l g d l' g' s H S r A e hA Q q => by
  replace e := mb_some e; obtain ⟨x, l1, g1, e1, e⟩ := e
  obtain ⟨rfl, rfl, rfl⟩ := mp_some e
  exact h _ _ _ _ _ s H S r A e1 hA _ fun p xs H1 S1 r1 A1 m1 h1 hp ht sp hx hd => q _ H1 _ r1 A1 (m1.take hp sp hx) (h1.take ht sp hx) (.lst (.inl (.inl upd_same)) (DpAll_mono hd (same_up sp)))
/-- a new list is laid -/
theorem new_l {l : Lo} {g : Sg} {s : L2.St} {H S H1 S1 : Hp} {r r1 : List Addr} {A A1 : List (Option Addr)} {xs : List V} {ds : List PyData} {Q : VK} (m1 : Mv K S H r A S1 H1 r1 A1) (h1 : StOk K l g s H1 S1 r1 A1) (hd : DpAll K S1 xs ds)
    (q : ∀ p xs H' S' r' A', Mv K S H r A S' H' r' A' → StOk K l g s H' S' r' A' → H p = none → ¬ tr S' H' A' r' p → S' p = none → H' p = some (.lst xs) → DpAll K S' xs ds → Q (.ref p) H') : ∀ p, H1 p = none → Q (.ref p) (upd H1 p (.lst xs)) := fun p hp => by
  have g2 : Grow m0 S1 H1 S1 (upd H1 p (.lst xs)) := Grow.out h1.hs hp
  refine q p xs _ S1 r1 A1 (m1.trans (Mv.grow g2)) (h1.grow g2) ?_ (fun z => (h1.there (tr_upd z)).1 hp) (h1.hs.free hp) upd_same hd
  cases hq : H p with
  | none => rfl
  | some u => exact absurd hp (m1.d p (some_ne hq))
theorem s_lst {tr : TA} {m : M (List PyData)} (ha : EvA K tr m) : EvL K (tLst tr) (lLst m) := fun l g d l' g' s H S r A e h Q q => by
  replace e := mb_some e; obtain ⟨x, l1, g1, e1, e⟩ := e
  replace e := mo_some e; obtain ⟨e, rfl, rfl⟩ := e
  obtain ⟨hz, rfl⟩ := smallO_some e
  exact ha _ _ _ _ _ s H S r A e1 h _ fun v1 H1 S1 r1 A1 m1 h1 d1 => ⟨szl (by rw [DpAll_len d1]; exact hz), new_l m1 h1 d1 q⟩
theorem s_if (ht : EvT K tt t) (ha : EvS K ta a) (hb : EvS K tb b) : EvS K (tIf tt ta tb) (eIf t a b) := fun l g d l' g' s H S r A e h Q q => by
  replace e := mb_some e; obtain ⟨x, l1, g1, e1, e⟩ := e
  refine ht _ _ _ _ _ s H S r A e1 h _ fun H1 S1 r1 A1 m1 h1 => ?_
  cases x with
  | true => exact ha _ _ _ _ _ s H1 S1 r1 A1 e h1 _ fun v2 H2 S2 r2 A2 m2 h2 d2 => q v2 H2 S2 r2 A2 (m1.trans m2) h2 d2
  | false => exact hb _ _ _ _ _ s H1 S1 r1 A1 e h1 _ fun v2 H2 S2 r2 A2 m2 h2 d2 => q v2 H2 S2 r2 A2 (m1.trans m2) h2 d2
theorem truO_ok {S H : Hp} {v : V} {d : PyData} {c : Bool} (e : truO d = some c) (hs : Same S H) (h : Dp K S v d) : TruV K v H c := by
  cases d with
  | str y =>
    by_cases hy : y.length ≤ 4000000
    · have : truO (.str y) = some ((y.length : Int) != 0) := by show (if _ then _ else _) = _; rw [if_pos hy]
      rw [this] at e
      cases e
      exact truV_of hs h fun y' e => by cases e; exact hy
    · have : truO (.str y) = none := by show (if _ then _ else _) = _; rw [if_neg hy]
      rw [this] at e
      cases e
  | none => cases e; exact truV_of hs h fun y e => by cases e
  | bool b => cases e; exact truV_of hs h fun y e => by cases e
  | int b => cases e; exact truV_of hs h fun y e => by cases e
  | list b => cases e; exact truV_of hs h fun y e => by cases e
  | tuple b => cases e; exact truV_of hs h fun y e => by cases e
  | dict b => cases h
theorem s_and (ha : EvS K ta a) (hb : EvS K tb b) : EvS K (tAndT K ta tb) (eAnd a b) := fun l g d l' g' s H S r A e h Q q => by
  replace e := mb_some e; obtain ⟨x, l1, g1, e1, e⟩ := e
  replace e := mb_some e; obtain ⟨k, l2, g2, e2, e⟩ := e
  replace e2 := mo_some e2; obtain ⟨e2, rfl, rfl⟩ := e2
  refine ha _ _ _ _ _ s H S r A e1 h _ fun v1 H1 S1 r1 A1 m1 h1 d1 => ⟨k, truO_ok e2 h1.hs d1, ?_⟩
  cases k with
  | true => exact hb _ _ _ _ _ s H1 S1 r1 A1 e h1 _ fun v2 H2 S2 r2 A2 m2 h2 d2 => q v2 H2 S2 r2 A2 (m1.trans m2) h2 d2
  | false =>
    obtain ⟨rfl, rfl, rfl⟩ := mp_some e
    exact q v1 H1 S1 r1 A1 m1 h1 d1
theorem s_not (ha : EvS K ta a) : EvS K (tNotT K ta) (eNot a) := fun l g d l' g' s H S r A e h Q q => by
  replace e := mb_some e; obtain ⟨x, l1, g1, e1, e⟩ := e
  replace e := mo_some e; obtain ⟨e, rfl, rfl⟩ := e
  obtain ⟨k, ek, rfl⟩ := Option.map_eq_some_iff.mp e
  exact ha _ _ _ _ _ s H S r A e1 h _ fun v1 H1 S1 r1 A1 m1 h1 d1 => ⟨k, truO_ok ek h1.hs d1, q _ H1 S1 r1 A1 m1 h1 (.bl _)⟩
theorem s_isN (ha : EvS K ta a) : EvS K (tIsN ta) (eIsN a) := fun l g d l' g' s H S r A e h Q q => by
  replace e := mb_some e; obtain ⟨x, l1, g1, e1, e⟩ := e
  obtain ⟨rfl, rfl, rfl⟩ := mp_some e
  exact ha _ _ _ _ _ s H S r A e1 h _ fun v1 H1 S1 r1 A1 m1 h1 d1 => q _ H1 S1 r1 A1 m1 h1 (by rw [dp_isN d1]; exact .bl _)
theorem s_notN (ha : EvS K ta a) : EvS K (tNotN ta) (eNotN a) := fun l g d l' g' s H S r A e h Q q => by
  replace e := mb_some e; obtain ⟨x, l1, g1, e1, e⟩ := e
  obtain ⟨rfl, rfl, rfl⟩ := mp_some e
  exact ha _ _ _ _ _ s H S r A e1 h _ fun v1 H1 S1 r1 A1 m1 h1 d1 => q _ H1 S1 r1 A1 m1 h1 (by rw [dp_isN d1]; exact .bl _)
theorem asB_some {d : PyData} {b : Bool} (h : asB d = some b) : d = .bool b := by
  cases d <;> first | cases h | skip
  rfl
theorem asI_some {d : PyData} {b : Int} (h : asI d = some b) : d = .int b := by
  cases d <;> first | cases h | skip
  rfl
theorem s_chain {r1 r2 : R2} {f f' : PyData → PyData → Option PyData} (hr : RDO K r1 f) (hr' : RDO K r2 f') (ha : EvS K ta a) (hb : EvS K tb b) (hc : EvS K tc c) : EvS K (tChain r1 r2 ta tb tc) (eChain f f' a b c) := fun l g d l' g' s H S r A e h Q q => by
  replace e := mb_some e; obtain ⟨x, l1, g1, e1, e⟩ := e
  replace e := mb_some e; obtain ⟨y, l2, g2, e2, e⟩ := e
  replace e := mb_some e; obtain ⟨k, l3, g3, e3, e⟩ := e
  replace e3 := mo_some e3; obtain ⟨e3, rfl, rfl⟩ := e3
  obtain ⟨z, e3, e4⟩ := Option.bind_eq_some_iff.mp e3
  cases asB_some e4
  refine ha _ _ _ _ _ s H S r A e1 h _ fun v1 H1 S1 r1 A1 m1 h1 d1 => hb _ _ _ _ _ s H1 S1 r1 A1 e2 h1 _ fun v2 H2 S2 r2 A2 m2 h2 d2 => ?_
  refine hr x y _ e3 v1 v2 S2 H2 _ h2.hs (Dp_mono d1 m2.s) d2 fun v S3 H3 g3 d3 => ?_
  cases d3
  refine ⟨k, rfl, ?_⟩
  have h3 := h2.grow g3
  have m3 := (m1.trans m2).trans (Mv.grow g3)
  cases k with
  | false =>
    obtain ⟨rfl, rfl, rfl⟩ := mp_some e
    exact q _ H3 S3 r2 A2 m3 h3 (.bl _)
  | true =>
    replace e := mb_some e; obtain ⟨w, l4, g4, e5, e⟩ := e
    replace e := mo_some e; obtain ⟨e, rfl, rfl⟩ := e
    refine hc _ _ _ _ _ s H3 S3 r2 A2 e5 h3 _ fun v4 H4 S4 r4 A4 m4 h4 d4 => ?_
    exact hr' y w d e v2 v4 S4 H4 Q h4.hs (Dp_mono d2 (g3.s.trans m4.s)) d4 fun v S5 H5 g5 d5 => q v H5 S5 r4 A4 ((m3.trans m4).trans (Mv.grow g5)) (h4.grow g5) d5
theorem s_test (ha : EvS K ta a) : EvT K (tTest ta) (bTest a) := fun l g d l' g' s H S r A e h Q q => by
  replace e := mb_some e; obtain ⟨x, l1, g1, e1, e⟩ := e
  replace e := mo_some e; obtain ⟨e, rfl, rfl⟩ := e
  cases asB_some e
  exact ha _ _ _ _ _ s H S r A e1 h _ fun v1 H1 S1 r1 A1 m1 h1 d1 => by cases d1; exact ⟨_, rfl, q H1 S1 r1 A1 m1 h1⟩
theorem s_B (ha : EvS K ta a) : EvT K (tB ta) (bTest a) := fun l g d l' g' s H S r A e h Q q => by
  replace e := mb_some e; obtain ⟨x, l1, g1, e1, e⟩ := e
  replace e := mo_some e; obtain ⟨e, rfl, rfl⟩ := e
  cases asB_some e
  exact ha _ _ _ _ _ s H S r A e1 h _ fun v1 H1 S1 r1 A1 m1 h1 d1 => by cases d1; exact ⟨_, rfl, q H1 S1 r1 A1 m1 h1⟩
theorem s_tru (ha : EvS K ta a) : EvT K (fun σ H Q => ta σ H fun x H' => ∃ k, TruV K x H' k ∧ Q k H') (bTru a) := fun l g d l' g' s H S r A e h Q q => by
  replace e := mb_some e; obtain ⟨x, l1, g1, e1, e⟩ := e
  replace e := mo_some e; obtain ⟨e, rfl, rfl⟩ := e
  exact ha _ _ _ _ _ s H S r A e1 h _ fun v1 H1 S1 r1 A1 m1 h1 d1 => ⟨_, truO_ok e h1.hs d1, q H1 S1 r1 A1 m1 h1⟩
theorem s_bnot (ht : EvT K tt t) : EvT K (tNot tt) (bNot t) := fun l g d l' g' s H S r A e h Q q => by
  replace e := mb_some e; obtain ⟨x, l1, g1, e1, e⟩ := e
  obtain ⟨rfl, rfl, rfl⟩ := mp_some e
  exact ht _ _ _ _ _ s H S r A e1 h _ fun H1 S1 r1 A1 m1 h1 => q H1 S1 r1 A1 m1 h1
theorem s_band (ht : EvT K tt t) (hu : EvT K tu u) : EvT K (tAnd tt tu) (bAnd t u) := fun l g d l' g' s H S r A e h Q q => by
  replace e := mb_some e; obtain ⟨x, l1, g1, e1, e⟩ := e
  refine ht _ _ _ _ _ s H S r A e1 h _ fun H1 S1 r1 A1 m1 h1 => ?_
  cases x with
  | true => exact hu _ _ _ _ _ s H1 S1 r1 A1 e h1 _ fun H2 S2 r2 A2 m2 h2 => q H2 S2 r2 A2 (m1.trans m2) h2
  | false =>
    obtain ⟨rfl, rfl, rfl⟩ := mp_some e
    exact q H1 S1 r1 A1 m1 h1
theorem s_bor (ht : EvT K tt t) (hu : EvT K tu u) : EvT K (tOr tt tu) (bOr t u) := fun l g d l' g' s H S r A e h Q q => by
  replace e := mb_some e; obtain ⟨x, l1, g1, e1, e⟩ := e
  refine ht _ _ _ _ _ s H S r A e1 h _ fun H1 S1 r1 A1 m1 h1 => ?_
  cases x with
  | false => exact hu _ _ _ _ _ s H1 S1 r1 A1 e h1 _ fun H2 S2 r2 A2 m2 h2 => q H2 S2 r2 A2 (m1.trans m2) h2
  | true =>
    obtain ⟨rfl, rfl, rfl⟩ := mp_some e
    exact q H1 S1 r1 A1 m1 h1
theorem s_yes : EvT K tYes bYes := fun l g d l' g' s H S r A e h Q q => by
  obtain ⟨rfl, rfl, rfl⟩ := mp_some e
  exact q H S r A (Mv.refl h.hs) h
theorem s_onone : EvO K tNoPart oNone := fun l g d l' g' s H S r A e h Q q => by
  obtain ⟨rfl, rfl, rfl⟩ := mp_some e
  exact q H S r A (Mv.refl h.hs) h
theorem s_osome (ha : EvS K ta a) : EvO K (tPart ta) (oSome a) := fun l g d l' g' s H S r A e h Q q => by
  replace e := mb_some e; obtain ⟨x, l1, g1, e1, e⟩ := e
  replace e := mb_some e; obtain ⟨y, l2, g2, e2, e⟩ := e
  replace e2 := mo_some e2; obtain ⟨e2, rfl, rfl⟩ := e2
  obtain ⟨rfl, rfl, rfl⟩ := mp_some e
  cases asI_some e2
  exact ha _ _ _ _ _ s H S r A e1 h _ fun v1 H1 S1 r1 A1 m1 h1 d1 => by cases d1; exact ⟨_, rfl, q H1 S1 r1 A1 m1 h1⟩
theorem s_sl {tl th : TO} {lo hi : M (Option Int)} (ha : EvS K ta a) (hl : EvO K tl lo) (hh : EvO K th hi) : EvS K (tSl (rSlAny K) ta tl th) (eSl a lo hi) := fun l g d l' g' s H S r A e h Q q => by
  replace e := mb_some e; obtain ⟨x, l1, g1, e1, e⟩ := e
  replace e := mb_some e; obtain ⟨y, l2, g2, e2, e⟩ := e
  replace e := mb_some e; obtain ⟨z, l3, g3, e3, e⟩ := e
  replace e := mo_some e; obtain ⟨e, rfl, rfl⟩ := e
  refine ha _ _ _ _ _ s H S r A e1 h _ fun v1 H1 S1 r1 A1 m1 h1 d1 => hl _ _ _ _ _ s H1 S1 r1 A1 e2 h1 _ fun H2 S2 r2 A2 m2 h2 => hh _ _ _ _ _ s H2 S2 r2 A2 e3 h2 _ fun H3 S3 r3 A3 m3 h3 => ?_
  have d3 := Dp_mono d1 (m2.s.trans m3.s)
  have m4 := (m1.trans m2).trans m3
  have fin : ∀ v S4 H4, Grow m0 S3 H3 S4 H4 → Dp K S4 v d → Q v H4 := fun v S4 H4 g4 d4 => q v H4 S4 r3 A3 (m4.trans (Mv.grow g4)) (h3.grow g4) d4
  unfold slD at e
  split at e
  · cases e
    cases d3 with
    | lst q1 q2 => exact .inl ⟨_, _, rfl, h3.hs.seq q1, new_lst h3.hs (cut_dp q2 y z) fin⟩
  · cases e
    rename_i ds
    cases d3 with
    | @tup a xs _ q1 q2 =>
      refine .inr ⟨_, _, rfl, same_seqT h3.hs q1, fun hw => fin _ S3 H3 (Grow.refl h3.hs) ?_, fun _ => new_tup h3.hs (cut_dp q2 y z) fin⟩
      have hl := DpAll_len q2
      rw [hl] at hw
      have ec : cutD ds y z = ds := by
        unfold cutD
        rw [hw.1, hw.2]
        simp
      rw [ec]
      exact .tup q1 q2
  · cases e
end
end Sm

namespace Sm
open PySem L2 RZ Dz

/-! ### lists that may change -/
def lsV (l : Lo) (g : Sg) (i : Nat) : Option (List PyData) := match l[i]? with
  | some (.own ds) => some ds
  | some (.ref j) => (match g[j]? with
    | some (.lst ds) => some ds
    | _ => none)
  | some (.dat (.list ds)) => some ds
  | _ => none
def lsM (l : Lo) (g : Sg) (i : Nat) : Option (List PyData) := match l[i]? with
  | some (.own ds) => some ds
  | some (.ref j) => (match g[j]? with
    | some (.lst ds) => some ds
    | _ => none)
  | _ => none
def ptV (l : Lo) (g : Sg) (i : Nat) (ds : List PyData) : Lo × Sg := match l[i]? with
  | some (.own _) => (l.set i (.own ds), g)
  | some (.ref j) => (l, g.set j (.lst ds))
  | _ => (l, g)
section
variable {K : Kx} {l : Lo} {g : Sg} {s : L2.St} {H S : Hp} {r : List Addr} {A : List (Option Addr)} {i : Nat} {ds : List PyData}
theorem rd_ls (h : StOk K l g s H S r A) (e : lsV l g i = some ds) : ∃ a xs, s[i]? = some (some (.ref a)) ∧ SqL K H a xs ∧ DpAll K S xs ds := by
  unfold lsV at e
  split at e
  · rename_i ds' hl
    cases e
    obtain ⟨o, v, e1, e2, a, rfl, rfl, e3, xs, e4, e5⟩ := h.ok i _ hl
    exact ⟨a, xs, e2, .inl (.inl e4), e5⟩
  · rename_i j hl
    obtain ⟨o, v, e1, e2, e3, a, e4, rfl⟩ := h.ok i _ hl
    split at e
    · rename_i ds' hj
      cases e
      obtain ⟨_, xs, q1, q2⟩ := h.st j a _ e4 hj
      exact ⟨a, xs, e2, .inl (.inl q1), q2⟩
    · cases e
  · rename_i ds' hl
    cases e
    obtain ⟨o, v, e1, e2, e3, w, rfl, e4⟩ := h.ok i _ hl
    cases e4 with
    | lst q1 q2 => exact ⟨_, _, e2, h.hs.seq q1, q2⟩
  · cases e
theorem wr_ls (h : StOk K l g s H S r A) (e : lsM l g i = some ds) : ∃ a xs, s[i]? = some (some (.ref a)) ∧ H a = some (.lst xs) ∧ DpAll K S xs ds ∧
    ∀ ys es, DpAll K S ys es → StOk K (ptV l g i es).1 (ptV l g i es).2 s (upd H a (.lst ys)) S r A ∧ Mv K S H r A S (upd H a (.lst ys)) r A := by
  unfold lsM at e
  split at e
  · rename_i ds' hl
    cases e
    obtain ⟨o, v, e1, e2, a, rfl, rfl, e3, xs, e4, e5⟩ := h.ok i _ hl
    refine ⟨a, xs, e2, e4, e5, fun ys es hd => ?_⟩
    have : ptV l g i es = (l.set i (.own es), g) := by unfold ptV; rw [hl]
    rw [this]
    exact h.putO hl e1 e2 ⟨a, rfl, rfl, e3, ys, upd_same, hd⟩
  · rename_i j hl
    obtain ⟨o, v, e1, e2, e3, a, e4, rfl⟩ := h.ok i _ hl
    split at e
    · rename_i ds' hj
      cases e
      obtain ⟨_, xs, q1, q2⟩ := h.st j a _ e4 hj
      refine ⟨a, xs, e2, q1, q2, fun ys es hd => ?_⟩
      have : ptV l g i es = (l, g.set j (.lst es)) := by unfold ptV; rw [hl]
      rw [this]
      exact h.putR e4 ⟨ys, upd_same, hd⟩
    · cases e
  · cases e
end
def mg {α : Type} (f : Lo → Sg → Option α) : M α := fun l g => match f l g with
  | none => none
  | some a => some (a, l, g)
theorem mg_some {α : Type} {f : Lo → Sg → Option α} {l l' : Lo} {g g' : Sg} {a : α} (h : mg f l g = some (a, l', g')) : f l g = some a ∧ l' = l ∧ g' = g := by
  unfold mg at h
  split at h
  · cases h
  · rename_i a' e
    cases h
    exact ⟨e, rfl, rfl⟩
def eIxV (i : Nat) (b : M PyData) : M PyData := mb (mg fun l g => lsV l g i) fun _ => mb b fun y => mg fun l g => (lsV l g i).bind fun ds => (asI y).bind fun k => atI ds k
def eLenV (i : Nat) : M PyData := mg fun l g => (lsV l g i).map fun ds => .int ds.length
def bTruV (i : Nat) : M Bool := mg fun l g => (lsV l g i).map fun ds => !ds.isEmpty
def eTupleV (i : Nat) : M PyData := mg fun l g => (lsV l g i).map fun ds => .tuple ds
def popAtO (i : Nat) (y : PyData) : M PyData := fun l g => match lsM l g i, asI y with
  | some ds, some k => (match seqIndex? k ds.length with
    | some j => if k < 2 ^ 62 ∧ -(2 ^ 62) < k then (match ds[j]? with
      | some d => some (d, (ptV l g i (ds.eraseIdx j)).1, (ptV l g i (ds.eraseIdx j)).2)
      | none => none) else none
    | none => none)
  | _, _ => none
def ePopAt (i : Nat) (b : M PyData) : M PyData := mb (mg fun l g => lsM l g i) fun _ => mb b fun y => popAtO i y
section
variable {K : Kx} {ta tb te : TE} {a b : M PyData} {i : Nat}
theorem s_ixV (hb : EvS K tb b) : EvS K (tOp (rIx K) (tVar i) tb) (eIxV i b) := fun l g d l' g' s H S r A e h Q q => by
  replace e := mb_some e; obtain ⟨y0, l0, g0, e0, e⟩ := e
  replace e0 := mg_some e0; obtain ⟨e0, rfl, rfl⟩ := e0
  replace e := mb_some e; obtain ⟨y, l1, g1, e1, e⟩ := e
  replace e := mg_some e; obtain ⟨e, rfl, rfl⟩ := e
  replace e := Option.bind_eq_some_iff.mp e; obtain ⟨ds, e2, e⟩ := e
  replace e := Option.bind_eq_some_iff.mp e; obtain ⟨k, e3, e⟩ := e
  cases asI_some e3
  obtain ⟨a, xs, q1, _⟩ := rd_ls h e0
  refine ⟨_, q1, hb _ _ _ _ _ s H S r A e1 h _ fun v1 H1 S1 r1 A1 m1 h1 d1 => ?_⟩
  cases d1
  obtain ⟨a', xs, q2, q3, q4⟩ := rd_ls h1 e2
  rw [q1] at q2
  cases q2
  obtain ⟨w, hw, hdw⟩ := atI_map q4 e
  exact .inl ⟨a, xs, k, w, rfl, rfl, q3, hw, q w H1 S1 r1 A1 m1 h1 hdw⟩
theorem s_lenV : EvS K (tCB (rLenK K) (tCons (tVar i) tNil)) (eLenV i) := fun l g d l' g' s H S r A e h Q q => by
  replace e := mg_some e; obtain ⟨e, rfl, rfl⟩ := e
  obtain ⟨ds, e2, rfl⟩ := Option.map_eq_some_iff.mp e
  obtain ⟨a, xs, q1, q2, q3⟩ := rd_ls h e2
  exact ⟨_, q1, a, xs, rfl, .inl q2, q _ H S r A (Mv.refl h.hs) h (by rw [DpAll_len q3]; exact .int _)⟩
theorem s_truV : EvT K (fun σ H Q => tVar i σ H fun x H' => ∃ k, TruV K x H' k ∧ Q k H') (bTruV i) := fun l g d l' g' s H S r A e h Q q => by
  replace e := mg_some e; obtain ⟨e, rfl, rfl⟩ := e
  obtain ⟨ds, e2, rfl⟩ := Option.map_eq_some_iff.mp e
  obtain ⟨a, xs, q1, q2, q3⟩ := rd_ls h e2
  exact ⟨_, q1, _, .inl ⟨xs, q2, by rw [isEmpty_dp q3]⟩, q H S r A (Mv.refl h.hs) h⟩
theorem s_tupleV : EvS K (tCB (rTupleK K) (tCons (tVar i) tNil)) (eTupleV i) := fun l g d l' g' s H S r A e h Q q => by
  replace e := mg_some e; obtain ⟨e, rfl, rfl⟩ := e
  obtain ⟨ds, e2, rfl⟩ := Option.map_eq_some_iff.mp e
  obtain ⟨a, xs, q1, q2, q3⟩ := rd_ls h e2
  exact ⟨_, q1, a, xs, rfl, .inl ⟨q2, new_tup h.hs q3 fun v S4 H4 g4 d4 => q v H4 S4 r A (Mv.grow g4) (h.grow g4) d4⟩⟩
theorem s_popAt (hb : EvS K tb b) : EvS K (tBM K "list" rPopAt (tVar i) (tCons tb tNil)) (ePopAt i b) := fun l g d l' g' s H S r A e h Q q => by
  replace e := mb_some e; obtain ⟨y0, l0, g0, e0, e⟩ := e
  replace e0 := mg_some e0; obtain ⟨e0, rfl, rfl⟩ := e0
  replace e := mb_some e; obtain ⟨y, l1, g1, e1, e⟩ := e
  obtain ⟨a, xs, q1, q2, q3, _⟩ := wr_ls h e0
  refine ⟨_, q1, .inl ⟨rfl, xs, .inl (.inl q2)⟩, hb _ _ _ _ _ s H S r A e1 h _ fun v1 H1 S1 r1 A1 m1 h1 d1 => ?_⟩
  unfold popAtO at e
  split at e
  · rename_i ds k hm hk
    cases asI_some hk
    cases d1
    split at e
    · rename_i j hj
      split at e
      · rename_i hz
        split at e
        · rename_i d' hd'
          cases e
          obtain ⟨a', xs, q4, q5, q6, q7⟩ := wr_ls h1 hm
          rw [q1] at q4
          cases q4
          obtain ⟨w, hw, hdw⟩ := DpAll_get q6 hd'
          obtain ⟨z1, z2⟩ := q7 _ _ (DpAll_erase j q6)
          exact ⟨a, xs, k, j, w, rfl, rfl, q5, by omega, by omega, by rw [DpAll_len q6]; exact hj, hw, q w _ S1 r1 A1 (m1.trans z2) z1 hdw⟩
        · cases e
      · cases e
    · cases e
  · cases e
end

/-! ### walks -/
def seqD : PyData → Option (List PyData)
  | .list ds => some ds
  | .tuple ds => some ds
  | _ => none
def rgO (n : Int) : Bool := decide (n ≤ 4000000) && decide (-4000000 ≤ n)
def iSq (a : M PyData) : M (List PyData) := mb a fun x => mo (seqD x)
def iRg1 (a : M PyData) : M (List PyData) := mb a fun x => mo ((asI x).bind fun n => if rgO n = true then some (rng 0 n.toNat) else none)
def iEn (a : M PyData) : M (List PyData) := mb a fun x => mo (match x with
  | .list ds => some (enumD ds)
  | _ => none)
def iZp (a b : M PyData) : M (List PyData) := mb a fun x => mb b fun y => mo (match x, y with
  | .list ds, .list es => some (zipD ds es)
  | .tuple ds, .tuple es => some (zipD ds es)
  | _, _ => none)
def lListRg (a : M PyData) : M (List PyData) := mb a fun x => mo ((asI x).bind fun n => if rgO n = true then some (rng 0 n.toNat) else none)
def lList (a : M PyData) : M (List PyData) := mb a fun x => mo (seqD x)
def lRep (a : M (List PyData)) (b : M PyData) : M (List PyData) := mb a fun xs => mb b fun y => mo ((asI y).bind fun k => if (decide (k ≤ 1000) && decide (-1000 ≤ k) && decide (xs.length ≤ 100)) = true then some (List.replicate k.toNat xs).flatten else none)
section
variable {K : Kx} {ta tb te : TE} {a b : M PyData} {i : Nat}
theorem s_iseq (ha : EvS K ta a) : EvI K (iSeq K ta) (iSq a) := fun l g d l' g' s H S r A e h Q q => by
  replace e := mb_some e; obtain ⟨x, l1, g1, e1, e⟩ := e
  replace e := mo_some e; obtain ⟨e, rfl, rfl⟩ := e
  unfold seqD at e
  split at e
  · cases e
    exact .inl (ha _ _ _ _ _ s H S r A e1 h _ fun v1 H1 S1 r1 A1 m1 h1 d1 => by
      cases d1 with
      | lst h3 h4 => exact ⟨_, rfl, ⟨_, h1.hs.seq h3⟩, q _ H1 S1 r1 A1 m1 h1 (walkL h3 h4)⟩)
  · cases e
    exact .inr (ha _ _ _ _ _ s H S r A e1 h _ fun v1 H1 S1 r1 A1 m1 h1 d1 => by
      cases d1 with
      | tup h3 h4 => exact ⟨_, rfl, ⟨_, same_seqT h1.hs h3⟩, q _ H1 S1 r1 A1 m1 h1 (walkT h3 h4)⟩)
  · cases e
theorem rgO_ok {n : Int} (h : rgO n = true) : n ≤ 4000000 ∧ -4000000 ≤ n := by
  unfold rgO at h
  simpa using h
theorem s_irg1 (ha : EvS K ta a) : EvI K (iRng1 (tCons ta tNil)) (iRg1 a) := fun l g d l' g' s H S r A e h Q q => by
  replace e := mb_some e; obtain ⟨x, l1, g1, e1, e⟩ := e
  replace e := mo_some e; obtain ⟨e, rfl, rfl⟩ := e
  replace e := Option.bind_eq_some_iff.mp e; obtain ⟨n, e2, e⟩ := e
  cases asI_some e2
  split at e
  · rename_i hz
    have hz := rgO_ok hz
    cases e
    refine ha _ _ _ _ _ s H S r A e1 h _ fun v1 H1 S1 r1 A1 m1 h1 d1 => ?_
    cases d1
    exact ⟨n, rfl, by omega, by omega, q _ H1 S1 r1 A1 m1 h1 walkR⟩
  · cases e
theorem s_ienum (ha : EvS K ta a) : EvI K (iEnum K (tCons ta tNil)) (iEn a) := fun l g d l' g' s H S r A e h Q q => by
  replace e := mb_some e; obtain ⟨x, l1, g1, e1, e⟩ := e
  replace e := mo_some e; obtain ⟨e, rfl, rfl⟩ := e
  split at e
  · cases e
    refine ha _ _ _ _ _ s H S r A e1 h _ fun v1 H1 S1 r1 A1 m1 h1 d1 => ?_
    cases d1 with
    | lst h3 h4 => exact ⟨_, _, rfl, h1.hs.seq h3, q _ H1 S1 r1 A1 m1 h1 (walkE h3 h4)⟩
  · cases e
theorem s_izip (ha : EvS K ta a) (hb : EvS K tb b) : EvI K (iZipA K (tCons ta (tCons tb tNil))) (iZp a b) := fun l g d l' g' s H S r A e h Q q => by
  replace e := mb_some e; obtain ⟨x, l1, g1, e1, e⟩ := e
  replace e := mb_some e; obtain ⟨y, l2, g2, e2, e⟩ := e
  replace e := mo_some e; obtain ⟨e, rfl, rfl⟩ := e
  refine ha _ _ _ _ _ s H S r A e1 h _ fun v1 H1 S1 r1 A1 m1 h1 d1 => hb _ _ _ _ _ s H1 S1 r1 A1 e2 h1 _ fun v2 H2 S2 r2 A2 m2 h2 d2 => ?_
  have d1 := Dp_mono d1 m2.s
  split at e
  · cases e
    cases d1 with
    | lst h3 h4 =>
      cases d2 with
      | lst h5 h6 => exact ⟨_, _, _, _, rfl, .inl ⟨h2.hs.seq h3, h2.hs.seq h5, q _ H2 S2 r2 A2 (m1.trans m2) h2 (walkZL h3 h4 h5 h6)⟩⟩
  · cases e
    cases d1 with
    | tup h3 h4 =>
      cases d2 with
      | tup h5 h6 => exact ⟨_, _, _, _, rfl, .inr ⟨same_seqT h2.hs h3, same_seqT h2.hs h5, q _ H2 S2 r2 A2 (m1.trans m2) h2 (walkZT h3 h4 h5 h6)⟩⟩
  · cases e
theorem s_listRg (ha : EvS K ta a) : EvL K (tLstRg (tRg1 ta)) (lListRg a) := fun l g d l' g' s H S r A e h Q q => by
  replace e := mb_some e; obtain ⟨x, l1, g1, e1, e⟩ := e
  replace e := mo_some e; obtain ⟨e, rfl, rfl⟩ := e
  replace e := Option.bind_eq_some_iff.mp e; obtain ⟨n, e2, e⟩ := e
  cases asI_some e2
  split at e
  · rename_i hz
    have hz := rgO_ok hz
    cases e
    refine ha _ _ _ _ _ s H S r A e1 h _ fun v1 H1 S1 r1 A1 m1 h1 d1 => ?_
    cases d1
    refine ⟨n, rfl, ⟨by omega, by omega, by omega, by omega, by omega⟩, new_l m1 h1 ?_ q⟩
    have := rgV_dp (K := K) (S := S1) 0 n
    rwa [Int.sub_zero] at this
  · cases e
theorem s_list (ha : EvS K ta a) : EvL K (tCB (rListK K) (tCons ta tNil)) (lList a) := fun l g d l' g' s H S r A e h Q q => by
  replace e := mb_some e; obtain ⟨x, l1, g1, e1, e⟩ := e
  replace e := mo_some e; obtain ⟨e, rfl, rfl⟩ := e
  refine ha _ _ _ _ _ s H S r A e1 h _ fun v1 H1 S1 r1 A1 m1 h1 d1 => ?_
  unfold seqD at e
  split at e
  · cases e
    cases d1 with
    | lst h3 h4 => exact ⟨_, _, rfl, .inl (h1.hs.seq h3), new_l m1 h1 h4 q⟩
  · cases e
    cases d1 with
    | tup h3 h4 => exact ⟨_, _, rfl, .inr (same_seqT h1.hs h3), new_l m1 h1 h4 q⟩
  · cases e
theorem s_rep {tr : TA} {m : M (List PyData)} (ha : EvA K tr m) (hb : EvS K tb b) : EvL K (tOp rTimes (tLst tr) tb) (lRep m b) := fun l g d l' g' s H S r A e h Q q => by
  replace e := mb_some e; obtain ⟨ds, l1, g1, e1, e⟩ := e
  replace e := mb_some e; obtain ⟨y, l2, g2, e2, e⟩ := e
  replace e := mo_some e; obtain ⟨e, rfl, rfl⟩ := e
  replace e := Option.bind_eq_some_iff.mp e; obtain ⟨k, e3, e⟩ := e
  cases asI_some e3
  split at e
  · rename_i hz
    simp only [Bool.and_eq_true, decide_eq_true_eq] at hz
    obtain ⟨⟨hz1, hz2⟩, hz3⟩ := hz
    cases e
    refine ha _ _ _ _ _ s H S r A e1 h _ fun xs H1 S1 r1 A1 m1 h1 d1 => ⟨szl (by rw [DpAll_len d1]; omega), fun p hp => ?_⟩
    have gp : Grow m0 S1 H1 (upd S1 p (.lst xs)) (upd H1 p (.lst xs)) := Grow.new h1.hs hp
    refine hb _ _ _ _ _ s _ _ r1 A1 e2 (h1.grow gp) _ fun v2 H2 S2 r2 A2 m2 h2 d2 => ?_
    cases d2
    have hl := DpAll_len d1
    have hp2 : H2 p = some (.lst xs) := m2.h p _ (m2.s p _ upd_same)
    refine .inr ⟨p, k, xs, rfl, rfl, hp2, by omega, by omega, ?_, ?_⟩
    · refine szl (Nat.le_trans (Nat.mul_le_mul (show xs.length ≤ 100 by omega) (show k.toNat ≤ 1000 by omega)) (by decide))
    · have hrep : ∀ n : Nat, DpAll K S2 (List.replicate n xs).flatten (List.replicate n ds).flatten := fun n => by
        induction n with
        | zero => exact .nil
        | succ n ih =>
          rw [List.replicate_succ, List.replicate_succ, List.flatten_cons, List.flatten_cons]
          exact DpAll_app (DpAll_mono d1 (gp.s.trans m2.s)) ih
      exact new_l ((m1.trans (Mv.grow gp)).trans m2) h2 (hrep _) q
  · cases e
end
end Sm

namespace Sm
open PySem L2 RZ Dz

/-! ### targets -/
abbrev G := PyData → Lo → Option Lo
abbrev Gs := List PyData → Lo → Option Lo
def gNm (i : Nat) : G := fun d l => some (l.set i (.dat d))
def gTp (n : Nat) (gs : Gs) : G := fun d l => match d with
  | .tuple ds => if ds.length = n then gs ds l else none
  | _ => none
def gSt (n i : Nat) (gs : Gs) : G := fun d l => match seqD d with
  | some ds => if n ≤ ds.length + 1 ∧ ds.length ≤ 16384 then gs (ds.take i ++ [.list ((ds.drop i).take (ds.length + 1 - n))] ++ (ds.drop i).drop (ds.length + 1 - n)) l else none
  | none => none
def gsNil : Gs := fun ds l => match ds with
  | [] => some l
  | _ => none
def gsCons (g : G) (gs : Gs) : Gs := fun ds l => match ds with
  | [] => none
  | d :: r => (g d l).bind fun l1 => gs r l1
def BdS (K : Kx) (tg : TG) (G : G) : Prop := ∀ l g d l' s H S r A v (Q : L2.St → Hp → Prop), G d l = some l' → StOk K l g s H S r A → Dp K S v d → (∀ s' H' S' A', Mv K S H r A S' H' r A' → StOk K l' g s' H' S' r A' → Q s' H') → tg v s H Q
def BdsS (K : Kx) (tg : TGs) (G : Gs) : Prop := ∀ l g d l' s H S r A v (Q : L2.St → Hp → Prop), G d l = some l' → StOk K l g s H S r A → DpAll K S v d → (∀ s' H' S' A', Mv K S H r A S' H' r A' → StOk K l' g s' H' S' r A' → Q s' H') → tg v s H Q
section
variable {K : Kx}
theorem b_name {i : Nat} : BdS K (gName i) (gNm i) := fun l g d l' s H S r A v Q e h hd q => by
  cases e
  exact q _ H S _ (Mv.refl h.hs).set (h.set ⟨rfl, v, rfl, hd⟩)
theorem bs_nil : BdsS K gNil gsNil := fun l g d l' s H S r A v Q e h hd q => by
  unfold gsNil at e
  split at e
  · cases e
    cases hd
    exact ⟨rfl, q _ H S A (Mv.refl h.hs) h⟩
  · cases e
theorem bs_cons {tg : TG} {tgs : TGs} {g : G} {gs : Gs} (h1 : BdS K tg g) (h2 : BdsS K tgs gs) : BdsS K (gCons tg tgs) (gsCons g gs) := fun l g d l' s H S r A v Q e h hd q => by
  unfold gsCons at e
  split at e
  · cases e
  · obtain ⟨l1, e1, e2⟩ := Option.bind_eq_some_iff.mp e
    cases hd with
    | cons a b => exact ⟨_, _, rfl, h1 _ _ _ _ _ _ _ _ _ _ _ e1 h a fun s1 H1 S1 A1 m1 h1 => h2 _ _ _ _ _ _ _ _ _ _ _ e2 h1 (DpAll_mono b m1.s) fun s2 H2 S2 A2 m2 h2 => q _ _ _ _ (m1.trans m2) h2⟩
theorem b_tup {tgs : TGs} {gs : Gs} {n : Nat} (h1 : BdsS K tgs gs) : BdS K (gTup K n tgs) (gTp n gs) := fun l g d l' s H S r A v Q e h hd q => by
  unfold gTp at e
  split at e
  · split at e
    · cases hd with
      | tup a b => exact ⟨_, _, rfl, same_seqT h.hs a, (DpAll_len b).trans (by assumption), h1 _ _ _ _ _ _ _ _ _ _ _ e h b q⟩
    · cases e
  · cases e
theorem b_star {tgs : TGs} {gs : Gs} {n i : Nat} (h1 : BdsS K tgs gs) : BdS K (gStar K n i tgs) (gSt n i gs) := fun l g d l' s H S r A v Q e h hd q => by
  unfold gSt at e
  split at e
  · rename_i ds hq
    split at e
    · rename_i hz
      have key : ∀ xs, DpAll K S xs ds → ∀ p, H p = none → tgs (xs.take i ++ [.ref p] ++ (xs.drop i).drop (xs.length + 1 - n)) s (upd H p (.lst ((xs.drop i).take (xs.length + 1 - n)))) Q := fun xs hd p hp => by
        have g2 : Grow m0 S H (upd S p (.lst ((xs.drop i).take (xs.length + 1 - n)))) (upd H p (.lst ((xs.drop i).take (xs.length + 1 - n)))) := Grow.new h.hs hp
        have hl := DpAll_len hd
        have d2 := DpAll_mono hd g2.s
        refine h1 _ _ _ _ s _ _ r A _ Q e (h.grow g2) ?_ fun s2 H2 S2 A2 m2 h2 => q _ _ _ _ ((Mv.grow g2).trans m2) h2
        rw [← hl]
        exact DpAll_app (DpAll_app (DpAll_take i d2) (.cons (.lst (.inl (.inl upd_same)) (DpAll_take _ (DpAll_drop i d2))) .nil)) (DpAll_drop _ (DpAll_drop i d2))
      unfold seqD at hq
      split at hq
      · cases hq
        cases hd with
        | lst a b =>
          have hl := DpAll_len b
          exact ⟨_, _, rfl, .inl (h.hs.seq a), by omega, by omega, fun p hp => key _ b p hp⟩
      · cases hq
        cases hd with
        | tup a b =>
          have hl := DpAll_len b
          exact ⟨_, _, rfl, .inr (same_seqT h.hs a), by omega, by omega, fun p hp => key _ b p hp⟩
      · cases hq
    · cases e
  · cases e
end

/-! ### comprehensions -/
def plainV : Vl → Bool
  | .own _ => false
  | .dct _ => false
  | .dnk _ => false
  | _ => true
def wipeV (l : Lo) : List Nat → Lo
  | [] => l
  | v :: vs => (wipeV l vs).set v .no
def backV (l0 l : Lo) : List Nat → Lo
  | [] => l
  | v :: vs => (backV l0 l vs).set v (l0.getD v .no)
def lcL (vs : List Nat) (tg : G) (t : M Bool) (e : M PyData) : List PyData → M (List PyData)
  | [] => mp []
  | d :: ds => fun l g => match tg d (wipeV l vs) with
    | none => none
    | some l1 => match t l1 g with
      | none => none
      | some (true, l2, g2) => (match e l2 g2 with
        | none => none
        | some (y, l3, g3) => mb (lcL vs tg t e ds) (fun ys => mp (y :: ys)) (backV l l3 vs) g3)
      | some (false, l2, g2) => lcL vs tg t e ds (backV l l2 vs) g2
def plainAt (vs : List Nat) (l : Lo) : Bool := vs.all fun v => plainV (l.getD v .no)
def lLc (vs : List Nat) (it : M (List PyData)) (tg : G) (t : M Bool) (e : M PyData) : M (List PyData) := mb it fun ds => fun l g => if (plainAt vs l && decide (ds.length ≤ 4000000)) = true then lcL vs tg t e ds l g else none
theorem wipeV_len (l : Lo) : ∀ vs, (wipeV l vs).length = l.length
  | [] => rfl
  | v :: vs => by show ((wipeV l vs).set v .no).length = _; rw [List.length_set, wipeV_len l vs]
theorem backV_len (l0 l : Lo) : ∀ vs, (backV l0 l vs).length = l.length
  | [] => rfl
  | v :: vs => by show ((backV l0 l vs).set v _).length = _; rw [List.length_set, backV_len l0 l vs]
theorem wipeV_get {l : Lo} {j : Nat} : ∀ {vs : List Nat}, (wipeV l vs)[j]? = if j ∈ vs then (if j < l.length then some .no else none) else l[j]?
  | [] => by simp [wipeV]
  | v :: vs => by
    show ((wipeV l vs).set v .no)[j]? = _
    rw [List.getElem?_set]
    by_cases h : v = j
    · subst h
      rw [if_pos rfl, wipeV_len, if_pos List.mem_cons_self]
    · rw [if_neg h, wipeV_get]
      have : (j ∈ v :: vs) ↔ j ∈ vs := by
        rw [List.mem_cons]
        exact ⟨fun z => z.elim (fun q => absurd q.symm h) id, .inr⟩
      by_cases hj : j ∈ vs
      · rw [if_pos hj, if_pos (this.mpr hj)]
      · rw [if_neg hj, if_neg fun z => hj (this.mp z)]
theorem backV_get {l0 l : Lo} {j : Nat} : ∀ {vs : List Nat}, (backV l0 l vs)[j]? = if j ∈ vs then (if j < l.length then some (l0.getD j .no) else none) else l[j]?
  | [] => by simp [backV]
  | v :: vs => by
    show ((backV l0 l vs).set v (l0.getD v .no))[j]? = _
    rw [List.getElem?_set]
    by_cases h : v = j
    · subst h
      rw [if_pos rfl, backV_len, if_pos List.mem_cons_self]
    · rw [if_neg h, backV_get]
      have : (j ∈ v :: vs) ↔ j ∈ vs := by
        rw [List.mem_cons]
        exact ⟨fun z => z.elim (fun q => absurd q.symm h) id, .inr⟩
      by_cases hj : j ∈ vs
      · rw [if_pos hj, if_pos (this.mpr hj)]
      · rw [if_neg hj, if_neg fun z => hj (this.mp z)]
section
variable {K : Kx} {l l' : Lo} {g g' : Sg} {s s' : L2.St} {H S H1 S1 : Hp} {r r1 : List Addr} {A A1 : List (Option Addr)} {vs : List Nat}
theorem plainAt_of (h : plainAt vs l = true) {v : Nat} (hv : v ∈ vs) {x : Vl} (hx : l[v]? = some x) : plainV x = true := by
  unfold plainAt at h
  have := List.all_eq_true.mp h v hv
  rw [List.getD_eq_getElem?_getD, hx] at this
  exact this
/-- the addresses with those of some slots left out -/
def cutA (A : List (Option Addr)) : List Nat → List (Option Addr)
  | [] => A
  | v :: vs => (cutA A vs).set v none
theorem cutA_len (A : List (Option Addr)) : ∀ vs, (cutA A vs).length = A.length
  | [] => rfl
  | v :: vs => by show ((cutA A vs).set v none).length = _; rw [List.length_set, cutA_len A vs]
theorem cutA_get {A : List (Option Addr)} {j : Nat} : ∀ {vs : List Nat}, (cutA A vs)[j]? = if j ∈ vs then (if j < A.length then some none else none) else A[j]?
  | [] => by simp [cutA]
  | v :: vs => by
    show ((cutA A vs).set v none)[j]? = _
    rw [List.getElem?_set]
    by_cases h : v = j
    · subst h
      rw [if_pos rfl, cutA_len, if_pos List.mem_cons_self]
    · rw [if_neg h, cutA_get]
      have : (j ∈ v :: vs) ↔ j ∈ vs := by
        rw [List.mem_cons]
        exact ⟨fun z => z.elim (fun q => absurd q.symm h) id, .inr⟩
      by_cases hj : j ∈ vs
      · rw [if_pos hj, if_pos (this.mpr hj)]
      · rw [if_neg hj, if_neg fun z => hj (this.mp z)]
theorem cutA_some {A : List (Option Addr)} {j : Nat} {a : Addr} {vs : List Nat} (h : (cutA A vs)[j]? = some (some a)) : A[j]? = some (some a) := by
  rw [cutA_get] at h
  split at h
  · split at h <;> cases h
  · exact h
theorem cutA_mem {A : List (Option Addr)} {a : Addr} {vs : List Nat} (h : some a ∈ cutA A vs) : some a ∈ A := by
  obtain ⟨j, hj⟩ := List.mem_iff_getElem?.mp h
  exact List.mem_of_getElem? (cutA_some hj)
theorem trcut {a : Addr} (h : tr S H (cutA A vs) r a) : tr S H A r a := h.elim (fun q => .inl (cutA_mem q)) .inr
theorem Mv.cut (h : Mv K S H r A S1 H1 r1 A1) : Mv K S H r A S1 H1 r1 (cutA A1 vs) := ⟨h.s, h.h, h.n, h.k, h.d, h.p, fun a z => h.f a (trcut z), h.t⟩
theorem StOk.wipe (h : StOk K l g s H S r A) : StOk K (wipeV l vs) g (L2.wipe s vs) H S r (cutA A vs) :=
  ⟨h.hs, by rw [cutA_len, wipeV_len]; exact h.la, by rw [wipe_length, wipeV_len]; exact h.ls, fun j x e => by
    rw [wipeV_get] at e
    rw [cutA_get, wipe_get]
    by_cases hj : j ∈ vs
    · rw [if_pos hj] at e ⊢
      rw [if_pos hj]
      split at e
      · rename_i hl
        cases e
        exact ⟨none, none, by rw [if_pos (by rw [h.la]; exact hl)], by rw [if_pos (by rw [h.ls]; exact hl)], rfl⟩
      · cases e
    · rw [if_neg hj] at e ⊢
      rw [if_neg hj]
      exact h.ok j x e, fun i j a e1 e2 => h.ij i j a (cutA_some e1) (cutA_some e2), fun a ha => h.dr a (cutA_mem ha), h.rn, h.lg, h.st, h.tb⟩
/-- behind a turn: the comprehension's own names are as they were -/
theorem StOk.back (h : StOk K l g s H S r A) (hp : plainAt vs l = true) (h1 : StOk K l' g' s' H1 S1 r1 A1) (hw : L2.wipe s' vs = L2.wipe s vs) (hll : l'.length = l.length) (hs : Same S S1) (hr : ∃ q, r1 = r ++ q) : StOk K (backV l l' vs) g' s H1 S1 r1 (cutA A1 vs) :=
  ⟨h1.hs, by rw [cutA_len, backV_len]; exact h1.la, by rw [backV_len, hll]; exact h.ls, fun j x e => by
    rw [backV_get] at e
    rw [cutA_get]
    by_cases hj : j ∈ vs
    · rw [if_pos hj] at e ⊢
      split at e
      · rename_i hl
        have hl0 : j < l.length := by rw [← hll]; exact hl
        have hx : l[j]? = some x := by
          rw [List.getD_eq_getElem?_getD, List.getElem?_eq_getElem hl0] at e
          rw [List.getElem?_eq_getElem hl0]
          exact e
        obtain ⟨o, v, q1, q2, q3⟩ := h.ok j x hx
        have po : o = none := by
          have := plainAt_of hp hj hx
          cases x with
          | no => exact q3
          | dat d => exact q3.1
          | own ds => cases this
          | dct ds => cases this
          | dnk ds => cases this
          | ref k => exact q3.1
          | fn F => exact q3.1
          | xt ds => exact q3.1
        subst po
        exact ⟨none, v, by rw [if_pos (by rw [h1.la]; exact hl)], q2, q3.go hs (fun a z => by cases z) hr⟩
      · cases e
    · rw [if_neg hj] at e ⊢
      obtain ⟨o, v, q1, q2, q3⟩ := h1.ok j x e
      refine ⟨o, v, q1, ?_, q3⟩
      have hg := congrArg (fun (z : L2.St) => z[j]?) hw
      simp only [wipe_get] at hg
      rw [if_neg hj, if_neg hj] at hg
      rw [← hg]
      exact q2, fun i j a e1 e2 => h1.ij i j a (cutA_some e1) (cutA_some e2), fun a ha => h1.dr a (cutA_mem ha), h1.rn, h1.lg, h1.st, h1.tb⟩
end
theorem lcL_step {vs : List Nat} {tg : G} {t : M Bool} {e : M PyData} {d : PyData} {ds ys : List PyData} {l l' : Lo} {g g' : Sg} (h : lcL vs tg t e (d :: ds) l g = some (ys, l', g')) :
    ∃ l1 b l2 g2, tg d (wipeV l vs) = some l1 ∧ t l1 g = some (b, l2, g2) ∧ ((b = true ∧ ∃ y l3 g3 zs, e l2 g2 = some (y, l3, g3) ∧ lcL vs tg t e ds (backV l l3 vs) g3 = some (zs, l', g') ∧ ys = y :: zs) ∨ (b = false ∧ lcL vs tg t e ds (backV l l2 vs) g2 = some (ys, l', g'))) := by
  unfold lcL at h
  split at h
  · cases h
  · rename_i l1 e1
    split at h
    · cases h
    · rename_i l2 g2 e2
      split at h
      · cases h
      · rename_i y l3 g3 e3
        obtain ⟨zs, l4, g4, e4, e5⟩ := mb_some h
        obtain ⟨rfl, rfl, rfl⟩ := mp_some e5
        exact ⟨l1, true, l2, g2, e1, e2, .inl ⟨rfl, y, l3, g3, zs, e3, e4, rfl⟩⟩
    · rename_i l2 g2 e2
      exact ⟨l1, false, l2, g2, e1, e2, .inr ⟨rfl, h⟩⟩
section
variable {K : Kx} {tt : TT} {te : TE} {t : M Bool} {e0 : M PyData} {wi : TI} {it : M (List PyData)} {tg : TG} {gg : G} {vs : List Nat}
theorem plain_back {l l' : Lo} (h : plainAt vs l = true) (hl : l'.length = l.length) : plainAt vs (backV l l' vs) = true := by
  unfold plainAt
  refine List.all_eq_true.mpr fun v hv => ?_
  rw [List.getD_eq_getElem?_getD, backV_get, if_pos hv]
  split
  · exact List.all_eq_true.mp h v hv
  · rfl
theorem lc_run {l1 l' : Lo} {g1 g' : Sg} {s : L2.St} {H S : Hp} {r : List Addr} {A : List (Option Addr)} {ds d : List PyData} (hi : ∀ R : It → Hp → Prop, (∀ J H' S' r' A', Mv K S H r A S' H' r' A' → StOk K l1 g1 s H' S' r' A' → WalkD K J S' ds → R J H') → wi s H R) (hg : GIn tg vs) (hm : ∀ v s H (Q Q' : L2.St → Hp → Prop), (∀ s' H', Q s' H' → Q' s' H') → tg v s H Q → tg v s H Q') (hb : BdS K tg gg) (ht : EvT K tt t) (he : EvS K te e0)
    (hpl : plainAt vs l1 = true) (hz : ds.length ≤ 4000000) (e : lcL vs gg t e0 ds l1 g1 = some (d, l', g')) (Q : VK) (q : ∀ p xs H' S' r' A', Mv K S H r A S' H' r' A' → StOk K l' g' s H' S' r' A' → H p = none → ¬ tr S' H' A' r' p → S' p = none → H' p = some (.lst xs) → DpAll K S' xs d → Q (.ref p) H') : tLc wi tg tt te vs s H Q := by
  refine hi _ fun J H1 S1 r1 A1 m1 h1 w => ?_
  intro D hD
  have hDH : H D = none := by
    cases hq : H D with
    | none => rfl
    | some u => exact absurd hD (m1.d D (some_ne hq))
  have gD : Grow m0 S1 H1 S1 (upd H1 D (.lst [])) := Grow.out h1.hs hD
  have hDt : ¬ tr S1 H1 A1 r1 D := fun z => (h1.there z).1 hD
  refine ⟨fun i m H2 => m = ds.length - i ∧ i ≤ ds.length ∧ ∃ li gi Si ri Ai acc ac rest, StOk K li gi s H2 Si ri Ai ∧ Mv K S1 H1 r1 A1 Si H2 ri Ai ∧ ¬ tr Si H2 Ai ri D ∧ Si D = none ∧ H2 D = some (.lst acc) ∧ DpAll K Si acc ac ∧ ac.length ≤ i ∧ plainAt vs li = true ∧ lcL vs gg t e0 (ds.drop i) li gi = some (rest, l', g') ∧ d = ac ++ rest,
    ⟨ds.length, by simp, Nat.zero_le _, l1, g1, S1, r1, A1, [], [], d, h1.grow gD, Mv.grow gD, fun z => hDt (tr_upd z), h1.hs.free hD, upd_same, .nil, Nat.le_refl _, hpl, e, rfl⟩, ?_⟩
  rintro i m H2 ⟨rfl, hle, li, gi, Si, ri, Ai, acc, ac, rest, hst, mi, hDi, sDi, hacc, hdacc, hal, hpi, hrun, hd⟩
  by_cases hlt : i < ds.length
  · have mw := m1.trans mi
    refine .inr ⟨w.go i H2 hlt (mi.s.trans hst.hs), fun H3 => i + 1 ≤ ds.length ∧ ∃ li gi Si ri Ai acc ac rest, StOk K li gi s H3 Si ri Ai ∧ Mv K S1 H1 r1 A1 Si H3 ri Ai ∧ ¬ tr Si H3 Ai ri D ∧ Si D = none ∧ H3 D = some (.lst acc) ∧ DpAll K Si acc ac ∧ ac.length ≤ i + 1 ∧ plainAt vs li = true ∧ lcL vs gg t e0 (ds.drop (i + 1)) li gi = some (rest, l', g') ∧ d = ac ++ rest, fun H3 ⟨q1, q2⟩ => ⟨ds.length - (i + 1), by omega, rfl, q1, q2⟩, fun x H3 y => ?_⟩
    have hdi : ds[i]? = some ds[i] := List.getElem?_eq_getElem hlt
    obtain ⟨S3, g3, d3⟩ := w.yld i H2 x H3 ds[i] Si hdi mi.s hst.hs y
    have h3 := hst.grow g3
    have hdrop : ds.drop i = ds[i] :: ds.drop (i + 1) := List.drop_eq_getElem_cons hlt
    rw [hdrop] at hrun
    obtain ⟨lb, b, l2, g2, k1, k2, k3⟩ := lcL_step hrun
    have sD3 : S3 D = none := g3.n D sDi (some_ne hacc)
    have hD3 : H3 D = some (.lst acc) := g3.all D _ hacc
    have bnd := hb _ _ _ _ _ _ _ _ _ x (fun s4 H4 => ∃ S4 A4, Mv K S3 H3 ri (cutA Ai vs) S4 H4 ri A4 ∧ StOk K lb gi s4 H4 S4 ri A4) k1 (h3.wipe (vs := vs)) d3 fun s4 H4 S4 A4 m4 h4 => ⟨S4, A4, m4, h4⟩
    refine hm _ _ _ _ _ ?_ (hg x (wipe s vs) H3 _ bnd)
    rintro s4 H4 ⟨hw, S4, A4, m4, h4⟩
    have hw' : wipe s4 vs = wipe s vs := by
      rw [hw]
      apply List.ext_getElem?
      intro j
      rw [wipe_get, wipe_get, wipe_length]
      by_cases hj : j ∈ vs
      · rw [if_pos hj, if_pos hj]
      · rw [if_neg hj, if_neg hj]
    refine ⟨hw', ?_⟩
    have hDc : ¬ tr S3 H3 (cutA Ai vs) ri D := fun z => (tr_back (trcut z) g3.s fun o e => .inr (g3.all _ o e)).elim hDi (some_ne hacc)
    have sD4 : S4 D = none := m4.n D sD3 (some_ne hD3) hDc
    have hD4 : H4 D = some (.lst acc) := m4.k D _ hDc hD3
    have hD4t : ¬ tr S4 H4 A4 ri D := fun z => (m4.f D z).elim hDc (some_ne hD3)
    have mc : Mv K Si H2 ri Ai S4 H4 ri A4 := by
      have := (Mv.grow (r := ri) (A := Ai) g3).trans (Mv.trans (A1 := cutA Ai vs) (A2 := A4) (r1 := ri) (r2 := ri) ⟨Same.refl S3, h3.hs, fun _ e _ _ => e, fun _ _ _ e => e, fun _ e => e, ⟨[], by simp⟩, fun a z => .inl (trcut z), tKeep⟩ m4)
      exact this
    have hlen4 : lb.length = li.length := by
      have e1 := h4.ls
      have e2 := hst.ls
      have e3 := congrArg List.length hw'
      rw [wipe_length, wipe_length] at e3
      omega
    refine ht _ _ _ _ _ s4 H4 S4 ri A4 k2 h4 _ fun H5 S5 r5 A5 m5 h5 => ?_
    have sD5 : S5 D = none := m5.n D sD4 (some_ne hD4) hD4t
    have hD5 : H5 D = some (.lst acc) := m5.k D _ hD4t hD4
    have hD5t : ¬ tr S5 H5 A5 r5 D := fun z => (m5.f D z).elim hD4t (some_ne hD4)
    have hlen5 : l2.length = li.length := by
      have e1 := h5.ls
      have e2 := h4.ls
      omega
    rcases k3 with ⟨rfl, y2, l3, g3', zs, k4, k5, k6⟩ | ⟨rfl, k4⟩
    · rw [if_pos rfl]
      refine he _ _ _ _ _ s4 H5 S5 r5 A5 k4 h5 _ fun v6 H6 S6 r6 A6 m6 h6 d6 => ?_
      have sD6 : S6 D = none := m6.n D sD5 (some_ne hD5) hD5t
      have hD6 : H6 D = some (.lst acc) := m6.k D _ hD5t hD5
      have hD6t : ¬ tr S6 H6 A6 r6 D := fun z => (m6.f D z).elim hD5t (some_ne hD5)
      have hlen6 : l3.length = li.length := by
        have e1 := h6.ls
        have e2 := h4.ls
        omega
      have mall := (mc.trans m5).trans m6
      have hb6 := hst.back hpi h6 hw' hlen6 mall.s mall.p
      have hl := DpAll_len hdacc
      have hDcut : ¬ tr S6 H6 (cutA A6 vs) r6 D := fun z => hD6t (trcut z)
      -- the new list grows
      have hput : StOk K (backV li l3 vs) g3' s (upd H6 D (.lst (acc ++ [v6]))) S6 r6 (cutA A6 vs) := by
        refine hb6.move (Same.refl S6) (fun b z e => ?_) (fun b hb => ⟨(hb6.thereA hb).2, fun u e => ?_⟩) ⟨[], by simp⟩ hb6.rn hb6.dr hb6.lg (fun j b o e1 e2 => ?_) (hb6.tb.go (Same.refl S6) (fun b hb => (hb6.tb.there hb).2) fun b u hb e => by rw [upd_ne fun z => hDcut (.inr (.inr (by rw [← z]; exact hb)))]; exact e)
        · rw [upd_ne (ne_of_none e sD6)]; exact hb6.hs b z e
        · rw [upd_ne fun z => hDcut (.inl (by rw [← z]; exact hb))]; exact e
        · obtain ⟨p1, p2⟩ := hb6.st j b o e1 e2
          exact ⟨p1, p2.go (Same.refl S6) (.upd (fun z => hDcut (.inr (.inl (by rw [← z]; exact List.mem_of_getElem? e1)))) hD6 (fun _ z => nomatch z)) ⟨[], by simp⟩⟩
      have mnew : Mv K S1 H1 r1 A1 S6 (upd H6 D (.lst (acc ++ [v6]))) r6 (cutA A6 vs) := by
        have mm := mi.trans mall
        refine ⟨mm.s, hput.hs, mm.n, fun b o hb e => ?_, fun b e => ?_, mm.p, fun b z => mm.f b (trcut (tr_upd z)), fun a e => tUpd (fun ps z => by rw [hD6] at z; cases z) a (mm.t a e)⟩
        · have hbD : b ≠ D := fun z => by rw [z, hD] at e; cases e
          rw [upd_ne hbD]; exact mm.k b o hb e
        · by_cases hbD : b = D
          · subst hbD; rw [upd_same]; exact fun z => nomatch z
          · rw [upd_ne hbD]; exact mm.d b e
      refine ⟨acc, hD6, szt (by omega), hlt, backV li l3 vs, g3', S6, r6, cutA A6 vs, acc ++ [v6], ac ++ [y2], zs, hput, mnew, fun z => hDcut (tr_upd z), sD6, upd_same, DpAll_app (DpAll_mono hdacc mall.s) (.cons d6 .nil), by rw [List.length_append]; simp; omega, plain_back hpi hlen6, k5, by rw [hd, k6]; simp⟩
    · rw [if_neg Bool.false_ne_true]
      have mall := mc.trans m5
      have hb5 := hst.back hpi h5 hw' hlen5 mall.s mall.p
      exact ⟨hlt, backV li l2 vs, g2, S5, r5, cutA A5 vs, acc, ac, rest, hb5, (mi.trans mall).cut, fun z => hD5t (trcut z), sD5, hD5, DpAll_mono hdacc mall.s, by omega, plain_back hpi hlen5, k4, hd⟩
  · have ei : i = ds.length := by omega
    subst ei
    rw [List.drop_length] at hrun
    obtain ⟨rfl, rfl, rfl⟩ := mp_some hrun
    rw [List.append_nil] at hd
    subst hd
    have mw := m1.trans mi
    exact .inl ⟨w.stop H2 (mi.s.trans hst.hs), q D acc H2 Si ri Ai mw hst hDH hDi sDi hacc hdacc⟩
theorem s_lc (hi : EvI K wi it) (hg : GIn tg vs) (hm : ∀ v s H (Q Q' : L2.St → Hp → Prop), (∀ s' H', Q s' H' → Q' s' H') → tg v s H Q → tg v s H Q') (hb : BdS K tg gg) (ht : EvT K tt t) (he : EvS K te e0) : EvL K (tLc wi tg tt te vs) (lLc vs it gg t e0) := fun l g d l' g' s H S r A e h Q q => by
  replace e := mb_some e; obtain ⟨ds, l1, g1, e1, e⟩ := e
  split at e
  case isFalse => cases e
  rename_i hz
  rw [Bool.and_eq_true, decide_eq_true_eq] at hz
  exact lc_run (fun R k => hi _ _ _ _ _ s H S r A e1 h R k) hg hm hb ht he hz.1 hz.2 e Q q
end
end Sm

namespace Sm
open PySem L2 RZ Dz

/-! ### calls -/
abbrev FS := List Vl → Sg → Option (Vl × Sg)
def StoOk (K : Kx) (S H : Hp) (r : List Addr) (g : Sg) : Prop := r.Nodup ∧ r.length = g.length ∧ (∀ (j : Nat) (a : Addr) (o : Ob), r[j]? = some a → g[j]? = some o → S a = none ∧ ObOk K S H r a o) ∧ TabsOk K S H
def spG (K : Kx) (n : Nat) (F : FS) : Sp := fun vs H Q _ => ∃ S r g as v g', as.length = n ∧ Same S H ∧ StoOk K S H r g ∧ VsOk K S r vs as ∧ F as g = some (v, g') ∧
  ∀ w S' H' r', GrowT (inR S H r) S H S' H' → (∃ q, r' = r ++ q) → (∀ a, a ∈ r' → a ∈ r ∨ H a = none) → StoOk K S' H' r' g' → VOk K S' r' w v → Q w H'
def vE (e : M PyData) : M Vl := mb e fun d => mp (.dat d)
def vR (i : Nat) : M Vl := mg fun l _ => match l[i]? with
  | some (.ref j) => some (.ref j)
  | _ => none
def vNil : M (List Vl) := mp []
def vCons (v : M Vl) (r : M (List Vl)) : M (List Vl) := mb v fun x => mb r fun xs => mp (x :: xs)
def vCall (F : FS) (a : M (List Vl)) : M Vl := mb a fun xs => fun l g => match F xs g with
  | none => none
  | some (v, g') => some (v, l, g')
def asD : Vl → Option PyData
  | .dat d => some d
  | .xt ds => some (.tuple ds)
  | _ => none
def eD (v : M Vl) : M PyData := mb v fun x => mo (asD x)
def eCall (F : FS) (a : M (List Vl)) : M PyData := eD (vCall F a)
section
variable {K : Kx} {ta te : TE} {e0 : M PyData}
theorem s_vE (h : EvS K te e0) : EvV K te (vE e0) := fun l g d l' g' s H S r A e hA Q q => by
  replace e := mb_some e; obtain ⟨x, l1, g1, e1, e⟩ := e
  obtain ⟨rfl, rfl, rfl⟩ := mp_some e
  exact h _ _ _ _ _ s H S r A e1 hA _ fun v H1 S1 r1 A1 m1 h1 d1 => q v H1 S1 r1 A1 m1 h1 d1
theorem s_vR {i : Nat} : EvV K (tVar i) (vR i) := fun l g d l' g' s H S r A e h Q q => by
  replace e := mg_some e; obtain ⟨e, rfl, rfl⟩ := e
  split at e
  · rename_i j hl
    cases e
    obtain ⟨o, v, e1, e2, e3, a, e4, rfl⟩ := h.ok i _ hl
    exact ⟨_, e2, q _ H S r A (Mv.refl h.hs) h ⟨a, e4, rfl⟩⟩
  · cases e
theorem s_vnil : EvVA K tNil vNil := fun l g d l' g' s H S r A e h Q q => by
  obtain ⟨rfl, rfl, rfl⟩ := mp_some e
  exact q _ H S r A (Mv.refl h.hs) h .nil
theorem s_vcons {tr : TA} {v : M Vl} {m : M (List Vl)} (ha : EvV K ta v) (hb : EvVA K tr m) : EvVA K (tCons ta tr) (vCons v m) := fun l g d l' g' s H S r A e h Q q => by
  replace e := mb_some e; obtain ⟨x, l1, g1, e1, e⟩ := e
  replace e := mb_some e; obtain ⟨y, l2, g2, e2, e⟩ := e
  obtain ⟨rfl, rfl, rfl⟩ := mp_some e
  exact ha _ _ _ _ _ s H S r A e1 h _ fun v1 H1 S1 r1 A1 m1 h1 d1 => hb _ _ _ _ _ s H1 S1 r1 A1 e2 h1 _ fun v2 H2 S2 r2 A2 m2 h2 d2 => q _ H2 S2 r2 A2 (m1.trans m2) h2 (.cons (d1.go m2.s m2.p) d2)
/-- by values: what the promise gives at a state -/
theorem call_at {F : FS} {n : Nat} {l : Lo} {g g' : Sg} {s : L2.St} {H S : Hp} {r : List Addr} {A : List (Option Addr)} {vs : List V} {as : List Vl} {v : Vl} {Q : VK} {E : XK} (h : StOk K l g s H S r A) (hv : VsOk K S r vs as) (hn : as.length = n) (e : F as g = some (v, g'))
    (q : ∀ w H1 S1 r1, Mv K S H r A S1 H1 r1 A → StOk K l g' s H1 S1 r1 A → VOk K S1 r1 w v → Q w H1) : spG K n F vs H Q E :=
  ⟨S, r, g, as, v, g', hn, h.hs, ⟨h.rn, h.lg, h.st, h.tb⟩, hv, e, fun w S1 H1 r1 gr hp hf ⟨s1, s2, s3, s4⟩ hw => by
    obtain ⟨h1, m1⟩ := h.call gr hp s1 hf s2 s3 s4
    exact q w H1 S1 r1 m1 h1 hw⟩
theorem paired_len {α β : Type} {R : α → β → Prop} {xs : List α} {ys : List β} (h : Paired R xs ys) : xs.length = ys.length := by
  induction h with
  | nil => rfl
  | cons _ _ ih => simp [ih]
theorem s_vcall {F : FS} {n : Nat} {E : XK} {tr : TA} {m : M (List Vl)} (ha : EvVA K tr m) (hn : ∀ l g xs l' g', m l g = some (xs, l', g') → xs.length = n) : EvV K (tCall (spG K n F) [] E tr) (vCall F m) := fun l g d l' g' s H S r A e h Q q => by
  replace e := mb_some e; obtain ⟨x, l1, g1, e1, e⟩ := e
  split at e
  · cases e
  · rename_i v g2 e2
    cases e
    refine ha _ _ _ _ _ s H S r A e1 h _ fun vs H1 S1 r1 A1 m1 h1 d1 => ?_
    show spG K n F (vs ++ []) H1 Q E
    rw [List.append_nil]
    exact call_at h1 d1 (hn _ _ _ _ _ e1) e2 fun w H2 S2 r2 m2 h2 d2 => q w H2 S2 r2 A1 (m1.trans m2) h2 d2
theorem s_eD {v : M Vl} (h : EvV K te v) : EvS K te (eD v) := fun l g d l' g' s H S r A e hA Q q => by
  replace e := mb_some e; obtain ⟨x, l1, g1, e1, e⟩ := e
  replace e := mo_some e; obtain ⟨e, rfl, rfl⟩ := e
  cases x <;> first | cases e | skip
  · exact h _ _ _ _ _ s H S r A e1 hA _ fun v H1 S1 r1 A1 m1 h1 d1 => q v H1 S1 r1 A1 m1 h1 d1
  · exact h _ _ _ _ _ s H S r A e1 hA _ fun v H1 S1 r1 A1 m1 h1 d1 => q v H1 S1 r1 A1 m1 h1 (XtV.dp d1)
theorem s_call {F : FS} {n : Nat} {E : XK} {tr : TA} {m : M (List Vl)} (ha : EvVA K tr m) (hn : ∀ l g xs l' g', m l g = some (xs, l', g') → xs.length = n) : EvS K (tCall (spG K n F) [] E tr) (eCall F m) := s_eD (s_vcall ha hn)
theorem vn_nil : ∀ l g xs l' g', vNil l g = some (xs, l', g') → xs.length = 0 := fun l g xs l' g' e => by
  obtain ⟨rfl, _⟩ := mp_some e
  rfl
theorem vn_cons {v : M Vl} {m : M (List Vl)} {n : Nat} (h : ∀ l g xs l' g', m l g = some (xs, l', g') → xs.length = n) : ∀ l g xs l' g', vCons v m l g = some (xs, l', g') → xs.length = n + 1 := fun l g xs l' g' e => by
  replace e := mb_some e; obtain ⟨x, l1, g1, e1, e⟩ := e
  replace e := mb_some e; obtain ⟨y, l2, g2, e2, e⟩ := e
  obtain ⟨rfl, _⟩ := mp_some e
  simp [h _ _ _ _ _ e2]
end

theorem StOk.setD {K : Kx} {l : Lo} {g : Sg} {s : L2.St} {H S : Hp} {r : List Addr} {A : List (Option Addr)} {i : Nat} {v : V} {d : PyData} (h : StOk K l g s H S r A) (hd : Dp K S v d) : StOk K (l.set i (.dat d)) g (s.set i (some v)) H S r (A.set i none) := h.set ⟨rfl, v, rfl, hd⟩
theorem StOk.freshL {K : Kx} {l : Lo} {g : Sg} {s : L2.St} {H S : Hp} {r : List Addr} {A : List (Option Addr)} {i : Nat} {p : Addr} {xs : List V} {ds : List PyData} (h : StOk K l g s H S r A) (hA : some p ∉ A) (hr : p ∉ r) (sp : S p = none) (hx : H p = some (.lst xs)) (hd : DpAll K S xs ds) : StOk K (l.set i (.own ds)) g (s.set i (some (.ref p))) H S r (A.set i (some p)) := h.fresh hA hr ⟨p, rfl, rfl, sp, xs, hx, hd⟩
/-! ### statements -/
inductive Out where
  | nx
  | bk
  | ct
  | ret (v : Vl)
abbrev X := M Out
def OutOk (K : Kx) (D : Ends) (S : Hp) (r : List Addr) (s : L2.St) (H : Hp) : Out → Prop
  | .nx => D.nx s H
  | .bk => D.bk s H
  | .ct => D.ct s H
  | .ret v => ∀ w, VOk K S r w v → D.rt w H
def ExS (K : Kx) (ts : TS) (x : X) : Prop := ∀ l g o l' g' s H S r A, x l g = some (o, l', g') → StOk K l g s H S r A → ∀ D : Ends, (∀ s' H' S' r' A', Mv K S H r A S' H' r' A' → StOk K l' g' s' H' S' r' A' → OutOk K D S' r' s' H' o) → ts D s H
def xNext : X := mp .nx
def xSeq (x y : X) : X := mb x fun o => match o with
  | .nx => y
  | o => mp o
def xAsg (i : Nat) (e : M PyData) : X := mb e fun d => fun l g => some (.nx, l.set i (.dat d), g)
def xAsgG (G : G) (e : M PyData) : X := mb e fun d => fun l g => match G d l with
  | none => none
  | some l' => some (.nx, l', g)
def xAsgL (i : Nat) (m : M (List PyData)) : X := mb m fun ds => fun l g => some (.nx, l.set i (.own ds), g)
def xAsgC (i : Nat) (m : M (List (Key × PyData))) : X := mb m fun ds => fun l g => some (.nx, l.set i (.dct ds), g)
def xIf (t : M Bool) (a b : X) : X := mb t fun c => if c = true then a else b
def xRet (e : M PyData) : X := mb e fun d => mp (.ret (.dat d))
def appO (i : Nat) (d : PyData) : X := fun l g => match lsM l g i with
  | some ds => if ds.length < 4000000 then some (.nx, (ptV l g i (ds ++ [d])).1, (ptV l g i (ds ++ [d])).2) else none
  | none => none
def xApp (i : Nat) (e : M PyData) : X := mb (mg fun l g => lsM l g i) fun _ => mb e fun d => appO i d
def setO (i : Nat) (k d : PyData) : X := fun l g => match lsM l g i, asI k with
  | some ds, some n => (match ixN ds.length n with
    | some j => some (.nx, (ptV l g i (ds.set j d)).1, (ptV l g i (ds.set j d)).2)
    | none => none)
  | _, _ => none
def xSetI (i : Nat) (k e : M PyData) : X := mb e fun d => mb (mg fun l g => lsM l g i) fun _ => mb k fun y => setO i y d
def xForL (G : G) (b : X) : List PyData → X
  | [] => mp .nx
  | d :: ds => fun l g => match G d l with
    | none => none
    | some l1 => match b l1 g with
      | none => none
      | some (.nx, l2, g2) => xForL G b ds l2 g2
      | some (.ct, l2, g2) => xForL G b ds l2 g2
      | some (.bk, l2, g2) => some (.nx, l2, g2)
      | some (.ret v, l2, g2) => some (.ret v, l2, g2)
def xFor (it : M (List PyData)) (G : G) (b : X) : X := mb it fun ds => xForL G b ds
def whF (t : M Bool) (b : X) : Nat → X
  | 0 => fail
  | n + 1 => fun l g => match t l g with
    | none => none
    | some (false, l1, g1) => some (.nx, l1, g1)
    | some (true, l1, g1) => match b l1 g1 with
      | none => none
      | some (.nx, l2, g2) => whF t b n l2 g2
      | some (.ct, l2, g2) => whF t b n l2 g2
      | some (.bk, l2, g2) => some (.nx, l2, g2)
      | some (.ret v, l2, g2) => some (.ret v, l2, g2)
/-- turns enough for every while here -/
def wFuel : Nat := 4000000
def xWhile (t : M Bool) (b : X) : X := whF t b wFuel
def xFrz (i : Nat) (x : X) : X := fun l g => match l[i]? with
  | some (.own ds) => x (l.set i (.dat (.list ds))) g
  | _ => x l g
def xPar (i j : Nat) (a b : M PyData) : X := mb a fun x => mb b fun y => fun l g => some (.nx, (l.set i (.dat x)).set j (.dat y), g)
def xParLL (i j : Nat) (a b : M (List PyData)) : X := mb a fun x => mb b fun y => fun l g => some (.nx, (l.set i (.own x)).set j (.own y), g)
section
variable {K : Kx} {ta tb te : TE} {tt : TT} {tu tv : TS} {a b e0 : M PyData} {t : M Bool} {x y : X} {i j k : Nat}
theorem x_next : ExS K tNext xNext := fun l g o l' g' s H S r A e h D q => by
  obtain ⟨rfl, rfl, rfl⟩ := mp_some e
  exact q s H S r A (Mv.refl h.hs) h
theorem x_seq (h1 : ExS K tu x) (h2 : ExS K tv y) : ExS K (tSeq tu tv) (xSeq x y) := fun l g o l' g' s H S r A e h D q => by
  replace e := mb_some e; obtain ⟨o1, l1, g1, e1, e⟩ := e
  refine h1 _ _ _ _ _ s H S r A e1 h _ fun s1 H1 S1 r1 A1 m1 h1' => ?_
  cases o1 with
  | nx => exact h2 _ _ _ _ _ s1 H1 S1 r1 A1 e h1' D fun s2 H2 S2 r2 A2 m2 h2' => q s2 H2 S2 r2 A2 (m1.trans m2) h2'
  | bk => obtain ⟨rfl, rfl, rfl⟩ := mp_some e; exact q s1 H1 S1 r1 A1 m1 h1'
  | ct => obtain ⟨rfl, rfl, rfl⟩ := mp_some e; exact q s1 H1 S1 r1 A1 m1 h1'
  | ret v => obtain ⟨rfl, rfl, rfl⟩ := mp_some e; exact q s1 H1 S1 r1 A1 m1 h1'
theorem x_asg (he : EvS K te e0) : ExS K (tAsg te (gName i)) (xAsg i e0) := fun l g o l' g' s H S r A e h D q => by
  replace e := mb_some e; obtain ⟨d, l1, g1, e1, e⟩ := e
  cases e
  exact he _ _ _ _ _ s H S r A e1 h _ fun v H1 S1 r1 A1 m1 h1 d1 => q _ H1 S1 r1 _ m1.set (h1.set ⟨rfl, v, rfl, d1⟩)
theorem x_asgG {tg : TG} {gg : G} (he : EvS K te e0) (hb : BdS K tg gg) : ExS K (tAsg te tg) (xAsgG gg e0) := fun l g o l' g' s H S r A e h D q => by
  replace e := mb_some e; obtain ⟨d, l1, g1, e1, e⟩ := e
  split at e
  · cases e
  · rename_i l2 e2
    cases e
    exact he _ _ _ _ _ s H S r A e1 h _ fun v H1 S1 r1 A1 m1 h1 d1 => hb _ _ _ _ s H1 S1 r1 A1 v _ e2 h1 d1 fun s2 H2 S2 A2 m2 h2 => q s2 H2 S2 r1 A2 (m1.trans m2) h2
theorem x_asgL {m : M (List PyData)} (he : EvL K te m) : ExS K (tAsg te (gName i)) (xAsgL i m) := fun l g o l' g' s H S r A e h D q => by
  replace e := mb_some e; obtain ⟨d, l1, g1, e1, e⟩ := e
  cases e
  exact he _ _ _ _ _ s H S r A e1 h _ fun p xs H1 S1 r1 A1 m1 h1 hp ht sp hx hd => q _ H1 S1 r1 _ (m1.fresh hp) (h1.fresh (fun z => ht (.inl z)) (fun z => ht (.inr (.inl z))) ⟨p, rfl, rfl, sp, xs, hx, hd⟩)
theorem x_asgC {m : M (List (Key × PyData))} (he : EvC K te m) : ExS K (tAsg te (gName i)) (xAsgC i m) := fun l g o l' g' s H S r A e h D q => by
  replace e := mb_some e; obtain ⟨d, l1, g1, e1, e⟩ := e
  cases e
  exact he _ _ _ _ _ s H S r A e1 h _ fun p xs H1 S1 r1 A1 m1 h1 hp ht sp hx hd => q _ H1 S1 r1 _ (m1.fresh hp) (h1.fresh (fun z => ht (.inl z)) (fun z => ht (.inr (.inl z))) ⟨p, rfl, rfl, sp, xs, hx, hd⟩)
theorem x_if (ht : EvT K tt t) (h1 : ExS K tu x) (h2 : ExS K tv y) : ExS K (tIfS tt tu tv) (xIf t x y) := fun l g o l' g' s H S r A e h D q => by
  replace e := mb_some e; obtain ⟨c, l1, g1, e1, e⟩ := e
  refine ht _ _ _ _ _ s H S r A e1 h _ fun H1 S1 r1 A1 m1 h1' => ?_
  cases c with
  | true => exact h1 _ _ _ _ _ s H1 S1 r1 A1 e h1' D fun s2 H2 S2 r2 A2 m2 h2' => q s2 H2 S2 r2 A2 (m1.trans m2) h2'
  | false => exact h2 _ _ _ _ _ s H1 S1 r1 A1 e h1' D fun s2 H2 S2 r2 A2 m2 h2' => q s2 H2 S2 r2 A2 (m1.trans m2) h2'
theorem x_ret (he : EvS K te e0) : ExS K (tRet te) (xRet e0) := fun l g o l' g' s H S r A e h D q => by
  replace e := mb_some e; obtain ⟨d, l1, g1, e1, e⟩ := e
  obtain ⟨rfl, rfl, rfl⟩ := mp_some e
  exact he _ _ _ _ _ s H S r A e1 h _ fun v H1 S1 r1 A1 m1 h1 d1 => q s H1 S1 r1 A1 m1 h1 v d1
theorem x_app (he : EvS K te e0) : ExS K (tDrop (tBM K "list" rAppend (tVar i) (tCons te tNil))) (xApp i e0) := fun l g o l' g' s H S r A e h D q => by
  replace e := mb_some e; obtain ⟨y0, l0, g0, e0, e⟩ := e
  replace e0 := mg_some e0; obtain ⟨e0, rfl, rfl⟩ := e0
  replace e := mb_some e; obtain ⟨d, l1, g1, e1, e⟩ := e
  obtain ⟨a, xs, q1, q2, q3, _⟩ := wr_ls h e0
  refine ⟨_, q1, .inl ⟨rfl, xs, .inl (.inl q2)⟩, he _ _ _ _ _ s H S r A e1 h _ fun v1 H1 S1 r1 A1 m1 h1 d1 => ?_⟩
  unfold appO at e
  split at e
  · rename_i ds hm
    split at e
    · rename_i hz
      cases e
      obtain ⟨a', xs, q4, q5, q6, q7⟩ := wr_ls h1 hm
      rw [q1] at q4
      cases q4
      obtain ⟨z1, z2⟩ := q7 _ _ (DpAll_app q6 (.cons d1 .nil))
      exact ⟨a, xs, v1, rfl, rfl, q5, szt (by rw [DpAll_len q6]; exact hz), q s _ S1 r1 A1 (m1.trans z2) z1⟩
    · cases e
  · cases e
theorem x_setI (hk : EvS K tb b) (he : EvS K te e0) : ExS K (tAsg te (gSub (tVar i) tb rSetL)) (xSetI i b e0) := fun l g o l' g' s H S r A e h D q => by
  replace e := mb_some e; obtain ⟨d, l1, g1, e1, e⟩ := e
  replace e := mb_some e; obtain ⟨y0, l0, g0, e0, e⟩ := e
  replace e0 := mg_some e0; obtain ⟨e0, rfl, rfl⟩ := e0
  replace e := mb_some e; obtain ⟨y, l2, g2, e2, e⟩ := e
  refine he _ _ _ _ _ s H S r A e1 h _ fun v1 H1 S1 r1 A1 m1 h1 d1 => ?_
  obtain ⟨a, xs, q1, q2, q3, _⟩ := wr_ls h1 e0
  refine ⟨_, q1, hk _ _ _ _ _ s H1 S1 r1 A1 e2 h1 _ fun v2 H2 S2 r2 A2 m2 h2 d2 => ?_⟩
  unfold setO at e
  split at e
  · rename_i ds n hm hn
    cases asI_some hn
    cases d2
    split at e
    · rename_i jj hj
      cases e
      obtain ⟨a', xs, q4, q5, q6, q7⟩ := wr_ls h2 hm
      rw [q1] at q4
      cases q4
      obtain ⟨z1, z2⟩ := q7 _ _ (DpAll_set (Dp_mono d1 m2.s) jj q6)
      exact ⟨a, xs, n, jj, rfl, rfl, q5, by rw [DpAll_len q6]; exact hj, q s _ S2 r2 A2 ((m1.trans m2).trans z2) z1⟩
    · cases e
  · cases e
theorem x_for {wi : TI} {it : M (List PyData)} {tg : TG} {gg : G} (hi : EvI K wi it) (hb : BdS K tg gg) (hx : ExS K tu x) : ExS K (tFor wi tg tu) (xFor it gg x) := fun l g o l' g' s H S r A e h D q => by
  replace e := mb_some e; obtain ⟨ds, l1, g1, e1, e⟩ := e
  refine hi _ _ _ _ _ s H S r A e1 h _ fun J H1 S1 r1 A1 m1 h1 w => ?_
  refine ⟨fun i m s' H' => m = ds.length - i ∧ i ≤ ds.length ∧ ∃ li gi Si ri Ai, StOk K li gi s' H' Si ri Ai ∧ Mv K S1 H1 r1 A1 Si H' ri Ai ∧ xForL gg x (ds.drop i) li gi = some (o, l', g'), ⟨ds.length, by simp, Nat.zero_le _, l1, g1, S1, r1, A1, h1, Mv.refl h1.hs, e⟩, ?_⟩
  rintro i m s' H' ⟨rfl, hle, li, gi, Si, ri, Ai, hst, mi, hrun⟩
  by_cases hlt : i < ds.length
  · refine .inr ⟨w.go i H' hlt (mi.s.trans hst.hs), fun s' H' => i + 1 ≤ ds.length ∧ ∃ li gi Si ri Ai, StOk K li gi s' H' Si ri Ai ∧ Mv K S1 H1 r1 A1 Si H' ri Ai ∧ xForL gg x (ds.drop (i + 1)) li gi = some (o, l', g'), fun s3 H3 ⟨q1, q2⟩ => ⟨ds.length - (i + 1), by omega, rfl, q1, q2⟩, fun v H3 y => ?_⟩
    have hdi : ds[i]? = some ds[i] := List.getElem?_eq_getElem hlt
    obtain ⟨S3, g3, d3⟩ := w.yld i H' v H3 ds[i] Si hdi mi.s hst.hs y
    have h3 := hst.grow g3
    have hdrop : ds.drop i = ds[i] :: ds.drop (i + 1) := List.drop_eq_getElem_cons hlt
    rw [hdrop] at hrun
    unfold xForL at hrun
    split at hrun
    · cases hrun
    · rename_i lb hlb
      refine hb _ _ _ _ s' H3 S3 ri Ai v _ hlb h3 d3 fun s4 H4 S4 A4 m4 h4 => ?_
      have m34 := (mi.trans (Mv.grow g3)).trans m4
      split at hrun
      · cases hrun
      · rename_i l2 g2 e2
        exact hx _ _ _ _ _ s4 H4 S4 ri A4 e2 h4 _ fun s5 H5 S5 r5 A5 m5 h5 => ⟨hlt, l2, g2, S5, r5, A5, h5, m34.trans m5, hrun⟩
      · rename_i l2 g2 e2
        exact hx _ _ _ _ _ s4 H4 S4 ri A4 e2 h4 _ fun s5 H5 S5 r5 A5 m5 h5 => ⟨hlt, l2, g2, S5, r5, A5, h5, m34.trans m5, hrun⟩
      · rename_i l2 g2 e2
        cases hrun
        exact hx _ _ _ _ _ s4 H4 S4 ri A4 e2 h4 _ fun s5 H5 S5 r5 A5 m5 h5 => q s5 H5 S5 r5 A5 (m1.trans (m34.trans m5)) h5
      · rename_i v l2 g2 e2
        cases hrun
        exact hx _ _ _ _ _ s4 H4 S4 ri A4 e2 h4 _ fun s5 H5 S5 r5 A5 m5 h5 => q s5 H5 S5 r5 A5 (m1.trans (m34.trans m5)) h5
  · have ei : i = ds.length := by omega
    subst ei
    rw [List.drop_length] at hrun
    obtain ⟨rfl, rfl, rfl⟩ := mp_some hrun
    exact .inl ⟨w.stop H' (mi.s.trans hst.hs), q s' H' Si ri Ai (m1.trans mi) hst⟩
theorem x_while (ht : EvT K tt t) (hx : ExS K tu x) : ExS K (tWhile tt tu) (xWhile t x) := fun l g o l' g' s H S r A e h D q => by
  refine ⟨fun m s' H' => ∃ li gi Si ri Ai, StOk K li gi s' H' Si ri Ai ∧ Mv K S H r A Si H' ri Ai ∧ whF t x m li gi = some (o, l', g'), ⟨wFuel, l, g, S, r, A, h, Mv.refl h.hs, e⟩, ?_⟩
  rintro m s' H' ⟨li, gi, Si, ri, Ai, hst, mi, hrun⟩
  cases m with
  | zero => cases hrun
  | succ m =>
    unfold whF at hrun
    split at hrun
    · cases hrun
    · rename_i l1 g1 e1
      cases hrun
      refine ht _ _ _ _ _ s' H' Si ri Ai e1 hst _ fun H1 S1 r1 A1 m1 h1 => ?_
      rw [if_neg Bool.false_ne_true]
      exact q s' H1 S1 r1 A1 (mi.trans m1) h1
    · rename_i l1 g1 e1
      refine ht _ _ _ _ _ s' H' Si ri Ai e1 hst _ fun H1 S1 r1 A1 m1 h1 => ?_
      rw [if_pos rfl]
      refine ⟨fun s' H' => ∃ li gi Si ri Ai, StOk K li gi s' H' Si ri Ai ∧ Mv K S H r A Si H' ri Ai ∧ whF t x m li gi = some (o, l', g'), fun s3 H3 q3 => ⟨m, by omega, q3⟩, ?_⟩
      have m2 := mi.trans m1
      split at hrun
      · cases hrun
      · rename_i l2 g2 e2
        exact hx _ _ _ _ _ s' H1 S1 r1 A1 e2 h1 _ fun s5 H5 S5 r5 A5 m5 h5 => ⟨l2, g2, S5, r5, A5, h5, m2.trans m5, hrun⟩
      · rename_i l2 g2 e2
        exact hx _ _ _ _ _ s' H1 S1 r1 A1 e2 h1 _ fun s5 H5 S5 r5 A5 m5 h5 => ⟨l2, g2, S5, r5, A5, h5, m2.trans m5, hrun⟩
      · rename_i l2 g2 e2
        cases hrun
        exact hx _ _ _ _ _ s' H1 S1 r1 A1 e2 h1 _ fun s5 H5 S5 r5 A5 m5 h5 => q s5 H5 S5 r5 A5 (m2.trans m5) h5
      · rename_i v l2 g2 e2
        cases hrun
        exact hx _ _ _ _ _ s' H1 S1 r1 A1 e2 h1 _ fun s5 H5 S5 r5 A5 m5 h5 => q s5 H5 S5 r5 A5 (m2.trans m5) h5
theorem x_frz (hx : ExS K tu x) : ExS K tu (xFrz i x) := fun l g o l' g' s H S r A e h D q => by
  unfold xFrz at e
  split at e
  · rename_i ds hl
    obtain ⟨S1, h1, m1⟩ := h.freeze hl
    exact hx _ _ _ _ _ s H S1 r _ e h1 D fun s2 H2 S2 r2 A2 m2 h2 => q s2 H2 S2 r2 A2 (m1.trans m2) h2
  · exact hx _ _ _ _ _ s H S r A e h D q
theorem x_par (ha : EvS K ta a) (hb : EvS K tb b) : ExS K (tPar i j (tCons ta (tCons tb tNil))) (xPar i j a b) := fun l g o l' g' s H S r A e h D q => by
  replace e := mb_some e; obtain ⟨x, l1, g1, e1, e⟩ := e
  replace e := mb_some e; obtain ⟨y, l2, g2, e2, e⟩ := e
  cases e
  exact ha _ _ _ _ _ s H S r A e1 h _ fun v1 H1 S1 r1 A1 m1 h1 d1 => hb _ _ _ _ _ s H1 S1 r1 A1 e2 h1 _ fun v2 H2 S2 r2 A2 m2 h2 d2 => ⟨_, _, rfl, q _ H2 S2 r2 _ (m1.trans m2).set.set ((h2.setD (Dp_mono d1 m2.s)).setD d2)⟩
theorem x_parLL {m m' : M (List PyData)} (hij : i ≠ j) (ha : EvL K ta m) (hb : EvL K tb m') : ExS K (tPar i j (tCons ta (tCons tb tNil))) (xParLL i j m m') := fun l g o l' g' s H S r A e h D q => by
  replace e := mb_some e; obtain ⟨x, l1, g1, e1, e⟩ := e
  replace e := mb_some e; obtain ⟨y, l2, g2, e2, e⟩ := e
  cases e
  refine ha _ _ _ _ _ s H S r A e1 h _ fun p xs H1 S1 r1 A1 m1 h1 hp ht sp hx hd => hb _ _ _ _ _ s H1 S1 r1 A1 e2 h1 _ fun p2 xs2 H2 S2 r2 A2 m2 h2 hp2 ht2 sp2 hx2 hd2 => ⟨_, _, rfl, q _ H2 S2 r2 _ (((m1.trans m2).fresh hp).fresh ?_) ((h2.freshL (fun z => ?_) (fun z => ?_) ?_ ?_ (DpAll_mono hd m2.s)).freshL ?_ (fun z => ht2 (.inr (.inl z))) sp2 hx2 hd2)⟩
  · cases hq : H p2 with
    | none => rfl
    | some u => exact absurd hp2 (m1.d p2 (some_ne hq))
  · exact (m2.f p (.inl z)).elim ht (some_ne hx)
  · exact (m2.f p (.inr (.inl z))).elim ht (some_ne hx)
  · exact m2.n p sp (some_ne hx) ht
  · exact m2.k p _ ht hx
  · intro z
    rcases List.mem_or_eq_of_mem_set z with z | z
    · exact ht2 (.inl z)
    · cases z; rw [hp2] at hx; cases hx
end

/-! ### defs -/
def fnS (n : Nat) (x : X) : FS := fun as g => match x (as ++ List.replicate (n - as.length) .no) g with
  | some (.ret v, _, g') => some (v, g')
  | some (.nx, _, g') => some (.dat .none, g')
  | _ => none
theorem start_ok {K : Kx} {S H : Hp} {r : List Addr} {g : Sg} {N : List Str} {vs : List V} {as : List Vl} (hs : Same S H) (so : StoOk K S H r g) (hv : VsOk K S r vs as) : StOk K (as ++ List.replicate (N.length - as.length) .no) g (start N vs) H S r (List.replicate (as ++ List.replicate (N.length - as.length) Vl.no).length none) := by
  have hl := paired_len hv
  have key : ∀ {vs : List V} {as : List Vl}, VsOk K S r vs as → ∀ (i : Nat) (x : Vl), as[i]? = some x → ∃ w, (vs.map some)[i]? = some (some w) ∧ SOk K S H r x none (some w) := by
    intro vs as h
    induction h with
    | nil => intro i x e; simp at e
    | @cons v a vs as hva _ ih =>
      intro i x e
      cases i with
      | zero =>
        simp at e
        subst e
        refine ⟨v, rfl, ?_⟩
        cases a with
        | dat d => exact ⟨rfl, v, rfl, hva⟩
        | ref j => obtain ⟨a, e1, rfl⟩ := hva; exact ⟨rfl, a, e1, rfl⟩
        | no => cases hva
        | own ds => cases hva
        | dct ds => cases hva
        | dnk ds => cases hva
        | fn F => exact ⟨rfl, v, rfl, hva⟩
        | xt ds => exact ⟨rfl, v, rfl, hva⟩
      | succ i => simpa using ih i x (by simpa using e)
  refine ⟨hs, by simp, ?_, fun i x e => ?_, fun i j a e => ?_, fun a ha => ?_, so.1, so.2.1, so.2.2.1, so.2.2.2⟩
  · unfold L2.start
    simp [hl]
  · have hi : i < (as ++ List.replicate (N.length - as.length) Vl.no).length := (List.getElem?_eq_some_iff.mp e).1
    have hA : (List.replicate (as ++ List.replicate (N.length - as.length) Vl.no).length (none : Option Addr))[i]? = some none := by
      rw [List.getElem?_replicate, if_pos hi]
    by_cases hia : i < as.length
    · rw [List.getElem?_append_left hia] at e
      obtain ⟨w, e1, e2⟩ := key hv i x e
      refine ⟨none, some w, hA, ?_, e2⟩
      unfold L2.start
      rw [List.getElem?_append_left (by simp [hl]; exact hia)]
      exact e1
    · rw [List.getElem?_append_right (by omega), List.getElem?_replicate] at e
      split at e
      · rename_i hj
        cases e
        refine ⟨none, none, hA, ?_, rfl⟩
        unfold L2.start
        rw [List.getElem?_append_right (by simp [hl]; omega), List.getElem?_replicate, if_pos (by simp [hl]; exact hj)]
      · cases e
  · rw [List.getElem?_replicate] at e
    split at e <;> cases e
  · exact absurd (List.eq_of_mem_replicate ha) (by simp)
theorem run_fn {K : Kx} {ts : TS} {x : X} {N : List Str} {n m : Nat} {vs : List V} {H : Hp} {Q : VK} {E : XK} (hx : ExS K ts x) (hN : N.length = n) (h : spG K m (fnS n x) vs H Q E) : ts { nx := fun _ H' => Q .non H', rt := Q } (start N vs) H := by
  obtain ⟨S, r, g, as, v, g', hm, hs, so, hv, e, q⟩ := h
  subst hN
  have st := start_ok (N := N) hs so hv
  have tr0 : ∀ a, tr S H (List.replicate (as ++ List.replicate (N.length - as.length) Vl.no).length (none : Option Addr)) r a → inR S H r a := fun a z => z.elim (fun z => absurd (List.eq_of_mem_replicate z) (by simp)) id
  have gr : ∀ {S' H' : Hp} {r' : List Addr} {A' : List (Option Addr)} {l : Lo} {g : Sg} {s : L2.St}, Mv K S H r (List.replicate (as ++ List.replicate (N.length - as.length) Vl.no).length none) S' H' r' A' → StOk K l g s H' S' r' A' → GrowT (inR S H r) S H S' H' ∧ (∃ q, r' = r ++ q) ∧ (∀ a, a ∈ r' → a ∈ r ∨ H a = none) ∧ StoOk K S' H' r' g := fun m st' => by
    refine ⟨⟨m.s, m.h, fun a e1 e2 => ?_, fun a o hm e => m.k a o (fun z => hm (tr0 a z)) e, m.d, fun a ps e => ?_⟩, m.p, fun a ha => (m.f a (.inr (.inl ha))).elim (fun z => (tr0 a z).elim .inl fun z => absurd (m.t a z) (st'.apartR ha)) .inr, st'.rn, st'.lg, st'.st, st'.tb⟩
    by_cases ha : inR S H r a
    · rcases ha with ha | ha
      · obtain ⟨q, rfl⟩ := m.p
        exact (st'.thereR (List.mem_append_left _ ha)).2
      · exact (m.t a ha).1
    · exact m.n a e1 e2 fun z => ha (tr0 a z)
    · by_cases ht : S a = none
      · exact (m.t a ⟨ht, ps, e⟩).2
      · obtain ⟨u, hu⟩ := ne_some ht
        have e2 := hs a u hu
        rw [e] at e2
        cases e2
        exact ⟨ps, m.h a _ (m.s a _ hu)⟩
  unfold fnS at e
  split at e
  · rename_i v2 l2 g2 e2
    cases e
    refine hx _ _ _ _ _ _ H S r _ e2 st _ fun s' H' S' r' A' m' st' => ?_
    intro w hw
    obtain ⟨p1, p2, p3, p4⟩ := gr m' st'
    exact q w S' H' r' p1 p2 p3 p4 hw
  · rename_i l2 g2 e2
    cases e
    refine hx _ _ _ _ _ _ H S r _ e2 st _ fun s' H' S' r' A' m' st' => ?_
    obtain ⟨p1, p2, p3, p4⟩ := gr m' st'
    exact q .non S' H' r' p1 p2 p3 p4 .non
  · cases e
theorem spG_len {K : Kx} {n : Nat} {F : FS} {vs : List V} {H : Hp} {Q : VK} {E : XK} (h : spG K n F vs H Q E) : vs.length = n := by
  obtain ⟨S, r, g, as, v, g', hm, hs, so, hv, e, q⟩ := h
  rw [paired_len hv, hm]
end Sm

namespace Sm
open PySem PySem.Spec PyProof.Rows L2 RZ SrtO Dz

/-! ### built-in functions -/
def intsO : List PyData → Option (List Int)
  | [] => some []
  | .int i :: r => (intsO r).map (i :: ·)
  | _ => none
def boolsO : List PyData → Option (List Bool)
  | [] => some []
  | .bool i :: r => (boolsO r).map (i :: ·)
  | _ => none
theorem intsO_some : ∀ {ds : List PyData} {ns : List Int}, intsO ds = some ns → ds = ns.map .int
  | [], ns, h => by cases h; rfl
  | .int i :: r, ns, h => by
    obtain ⟨ms, e, rfl⟩ := Option.map_eq_some_iff.mp (show (intsO r).map (i :: ·) = some ns from h)
    rw [intsO_some e]; rfl
  | .none :: r, ns, h => by cases h
  | .bool _ :: r, ns, h => by cases h
  | .str _ :: r, ns, h => by cases h
  | .list _ :: r, ns, h => by cases h
  | .tuple _ :: r, ns, h => by cases h
  | .dict _ :: r, ns, h => by cases h
theorem boolsO_some : ∀ {ds : List PyData} {ns : List Bool}, boolsO ds = some ns → ds = ns.map .bool
  | [], ns, h => by cases h; rfl
  | .bool i :: r, ns, h => by
    obtain ⟨ms, e, rfl⟩ := Option.map_eq_some_iff.mp (show (boolsO r).map (i :: ·) = some ns from h)
    rw [boolsO_some e]; rfl
  | .none :: r, ns, h => by cases h
  | .int _ :: r, ns, h => by cases h
  | .str _ :: r, ns, h => by cases h
  | .list _ :: r, ns, h => by cases h
  | .tuple _ :: r, ns, h => by cases h
  | .dict _ :: r, ns, h => by cases h
theorem intsO_map : ∀ ns : List Int, intsO (ns.map .int) = some ns
  | [] => rfl
  | n :: ns => by show (intsO (ns.map .int)).map (n :: ·) = _; rw [intsO_map ns]; rfl
theorem boolsO_map : ∀ ns : List Bool, boolsO (ns.map .bool) = some ns
  | [] => rfl
  | n :: ns => by show (boolsO (ns.map .bool)).map (n :: ·) = _; rw [boolsO_map ns]; rfl
def lenD : List PyData → Option PyData
  | [.list ds] => some (.int ds.length)
  | [.tuple ds] => some (.int ds.length)
  | _ => none
def tupleD : List PyData → Option PyData
  | [.list ds] => some (.tuple ds)
  | [.tuple ds] => some (.tuple ds)
  | _ => none
def absD : List PyData → Option PyData
  | [.int i] => some (.int (if i < 0 then -i else i))
  | _ => none
def ofInts (f : List Int → Option PyData) : List PyData → Option PyData
  | [.list ds] => (intsO ds).bind f
  | _ => none
def ofBools (f : List Bool → Option PyData) : List PyData → Option PyData
  | [.list ds] => (boolsO ds).bind f
  | _ => none
def maxD := ofInts fun ns => if ns.isEmpty = true then none else some (.int (maxI ns))
def minD := ofInts fun ns => if ns.isEmpty = true then none else some (.int (minI ns))
def sumD := ofInts fun ns => some (.int ns.sum)
def sortedD := ofInts fun ns => some (.list ((sortI ns).map .int))
def allD := ofBools fun bs => some (.bool (bs.all id))
def eIsi (T : String) (a : M PyData) : M PyData := mb a fun x => mo ((kitB (tyN x) T).map .bool)
section
variable {K : Kx} {ta te : TE} {a : M PyData}
theorem rc_len : RCO K (rLenK K) lenD := fun as c e => by
  unfold lenD at e
  split at e
  · cases e; exact rc_lenL
  · cases e; exact rc_lenT
  · cases e
theorem rc_tuple : RCO K (rTupleK K) tupleD := fun as c e => by
  unfold tupleD at e
  split at e
  · cases e; exact rc_tupleL
  · cases e; exact rc_tupleT
  · cases e
theorem rc_absD : RCO K (fun xs H Q => ∃ i, xs = [.int i] ∧ Q (.int (if i < 0 then -i else i)) H) absD := fun as c e => by
  unfold absD at e
  split at e
  · cases e; exact rc_abs
  · cases e
theorem ofInts_some {f : List Int → Option PyData} {as : List PyData} {c : PyData} (e : ofInts f as = some c) : ∃ ns, as = [.list (ns.map .int)] ∧ f ns = some c := by
  unfold ofInts at e
  split at e
  · obtain ⟨ns, e1, e2⟩ := Option.bind_eq_some_iff.mp e
    exact ⟨ns, by rw [intsO_some e1], e2⟩
  · cases e
theorem ofBools_some {f : List Bool → Option PyData} {as : List PyData} {c : PyData} (e : ofBools f as = some c) : ∃ ns, as = [.list (ns.map .bool)] ∧ f ns = some c := by
  unfold ofBools at e
  split at e
  · obtain ⟨ns, e1, e2⟩ := Option.bind_eq_some_iff.mp e
    exact ⟨ns, by rw [boolsO_some e1], e2⟩
  · cases e
theorem rc_maxD : RCO K (rMax K) maxD := fun as c e => by
  replace e := ofInts_some e; obtain ⟨ns, rfl, e⟩ := e
  split at e
  · cases e
  · rename_i h; cases e; exact rc_max fun z => h (by rw [z]; rfl)
theorem rc_minD : RCO K (rMin K) minD := fun as c e => by
  replace e := ofInts_some e; obtain ⟨ns, rfl, e⟩ := e
  split at e
  · cases e
  · rename_i h; cases e; exact rc_min fun z => h (by rw [z]; rfl)
theorem rc_sumD : RCO K (rSum K) sumD := fun as c e => by
  replace e := ofInts_some e; obtain ⟨ns, rfl, e⟩ := e
  cases e; exact rc_sum
theorem rc_sortedD : RCO K (rSortedI K) sortedD := fun as c e => by
  replace e := ofInts_some e; obtain ⟨ns, rfl, e⟩ := e
  cases e; exact rc_sorted
theorem rc_allD : RCO K (rAll K) allD := fun as c e => by
  replace e := ofBools_some e; obtain ⟨ns, rfl, e⟩ := e
  cases e; exact rc_all
theorem s_isi {T : String} (ha : EvS K ta a) : EvS K (tCB (rIsi K) (tCons ta (tCons (tC (.ty T)) tNil))) (eIsi T a) := fun l g d l' g' s H S r A e h Q q => by
  replace e := mb_some e; obtain ⟨x, l1, g1, e1, e⟩ := e
  replace e := mo_some e; obtain ⟨e, rfl, rfl⟩ := e
  obtain ⟨k, hk, rfl⟩ := Option.map_eq_some_iff.mp e
  exact ha _ _ _ _ _ s H S r A e1 h _ fun v1 H1 S1 r1 A1 m1 h1 d1 => ⟨v1, .ty T, .type (tyN x), .type T, k, rfl, .ty T, tyX_of h1.hs d1, kit_ty hk, q _ H1 S1 r1 A1 m1 h1 (.bl k)⟩
end
/-! ### a new object of the store -/
def xNewL (i : Nat) (m : M (List PyData)) : X := mb m fun ds => fun l g => some (.nx, l.set i (.ref g.length), g ++ [.lst ds])
section
variable {K : Kx} {te : TE} {l : Lo} {g : Sg} {s : L2.St} {H S H0 S0 : Hp} {r r0 : List Addr} {A A0 : List (Option Addr)} {p : Addr} {o : Ob}
theorem StOk.newR (h : StOk K l g s H S r A) (ht : ¬ tr S H A r p) (sp : S p = none) (ok : ObOk K S H (r ++ [p]) p o) : StOk K l (g ++ [o]) s H S (r ++ [p]) A :=
  h.move (Same.refl S) h.hs (fun a ha => ⟨(h.thereA ha).2, fun u e => e⟩) ⟨[p], rfl⟩ (by
    rw [List.nodup_append]
    refine ⟨h.rn, by simp, fun a ha b hb => ?_⟩
    simp at hb
    subst hb
    intro z
    subst z
    exact ht (.inr (.inl ha))) (fun a ha z => by
    rcases List.mem_append.mp z with z | z
    · exact h.dr a ha z
    · simp at z
      subst z
      exact ht (.inl ha)) (by simp [h.lg]) (fun j a u e1 e2 => by
    by_cases hj : j < r.length
    · rw [List.getElem?_append_left hj] at e1
      rw [List.getElem?_append_left (by rw [← h.lg]; exact hj)] at e2
      obtain ⟨z1, z2⟩ := h.st j a u e1 e2
      exact ⟨z1, z2.go (Same.refl S) (.of fun _ z e => e) ⟨[p], rfl⟩⟩
    · have hj2 : j = r.length := by
        have := (List.getElem?_eq_some_iff.mp e1).1
        simp at this
        omega
      subst hj2
      rw [List.getElem?_append_right (Nat.le_refl _)] at e1
      rw [h.lg, List.getElem?_append_right (Nat.le_refl _)] at e2
      simp at e1 e2
      subst e1 e2
      exact ⟨sp, ok⟩) h.tb
theorem Mv.newR (h : Mv K S0 H0 r0 A0 S H r A) (hp : H0 p = none) : Mv K S0 H0 r0 A0 S H (r ++ [p]) A :=
  ⟨h.s, h.h, h.n, h.k, h.d, by obtain ⟨q, e⟩ := h.p; exact ⟨q ++ [p], by rw [e, List.append_assoc]⟩, fun a z => by
    rcases z with z | z
    · exact h.f a (.inl z)
    · rcases z with z | z
      · rcases List.mem_append.mp z with z | z
        · exact h.f a (.inr (.inl z))
        · simp at z
          subst z
          exact .inr hp
      · exact h.f a (.inr (.inr z)), h.t⟩
theorem x_newL {i : Nat} {m : M (List PyData)} (he : EvL K te m) : ExS K (tAsg te (gName i)) (xNewL i m) := fun l g o l' g' s H S r A e h D q => by
  replace e := mb_some e; obtain ⟨d, l1, g1, e1, e⟩ := e
  cases e
  refine he _ _ _ _ _ s H S r A e1 h _ fun p xs H1 S1 r1 A1 m1 h1 hp ht sp hx hd => ?_
  have h2 := h1.newR (o := .lst d) ht sp ⟨xs, hx, hd⟩
  refine q _ H1 S1 (r1 ++ [p]) _ (m1.newR hp).set (h2.set (y := .ref g1.length) ⟨rfl, p, ?_, rfl⟩)
  rw [← h1.lg, List.getElem?_append_right (Nat.le_refl _)]
  simp
end
/-! ### keyword arguments -/
section
variable {K : Kx}
end
/-! ### a if c else b as a test -/
section
variable {K : Kx}
end
/-! ### constants of the top -/
def ConAt (K : PySem.W.Frag) (x : Str) (i : Int) : Prop := ∃ t, PySem.W.nsIn K mainGlobals x = some (some (.int i t))
def QCon (mg : Str → Option Value) (x : Str) (i : Int) : Prop := ∃ t, mg x = some (.int i t)
theorem ConAt.q {K : PySem.W.Frag} {x : Str} {i : Int} {h : Heap} {mg : Str → Option Value} (c : ConAt K x i) (X : K.In h) (G : h.Ns mainGlobals mg) : QCon mg x i := by
  obtain ⟨t, q⟩ := c
  exact ⟨t, PySem.W.mg_of X G q⟩
theorem cal_zero {P : Program} {w : World} {K : PySem.W.Frag} {κ : Kx} {mg : Str → Option Value} {base : Heap} {x : Str} {ps : List Str} {n : Nat} {f : Addr} {fd : FuncData} (hm : mg x = some (.ref f)) (hk : PySem.W.keepIn K (.ref f) = true) (hb : Binds K fd ps []) (k : Nat) : Cal P w K mg base k x ps (spG κ n fun _ _ => none) :=
  (Cal.zero (fun vs H Q E h => by obtain ⟨_, _, _, _, _, _, _, _, _, _, e, _⟩ := h; cases e) hm hk hb).mono (Nat.zero_le k)
/-- the script alone -/
noncomputable def justA (a : Addr) (H : Hp) : Hp := fun b => open Classical in if b = a then H b else none
theorem justA_same {a : Addr} {H : Hp} : Same (justA a H) H := fun b o e => by
  unfold justA at e
  split at e
  · exact e
  · cases e
def kTab (K : Kx) (a : Addr) : Prop := ∃ p ∈ K.T, p.1 = a
/-- the law's own promise -/
def spLaw (K : Kx) : Sp := fun vs H Q _ => ∃ (a : Addr) (ns : List Int), vs = [.ref a] ∧ SqL K H a (ns.map V.int) ∧ ns.length ≤ 63 ∧ (∀ b, kTab K b → H b = some (.tbl #[])) ∧ ∀ H', Q (.bl true) H'
theorem law_of {P : Program} {w : World} {K : Kx} {mg : Str → Option Value} {base : Heap} {k : Nat} {f : Addr} {fd : FuncData} {ps : List Str} {F : FS} (h : FnOk P w K mg base CX0 k f fd ps (spG K 1 F)) (hF : ∀ ns : List Int, ns.length ≤ 63 → ∃ g, F [.dat (.list (ns.map .int))] [] = some (.dat (.bool true), g)) : FnOk P w K mg base CX0 k f fd ps (spLaw K) :=
  h.imp fun vs H Q E ⟨a, ns, e, hS, hl, ht, q⟩ => by
    subst e
    obtain ⟨g, hg⟩ := hF ns hl
    have key : ∀ S : Hp, Same S H → SqL K S a (ns.map V.int) → (∀ c o, S c = some o → (∃ xs, o = .lst xs) ∨ ∃ ob xs, o = .frz ob (.lst xs)) → spG K 1 F [.ref a] H Q E := fun S hS2 hq hk => by
      have no : ∀ c ps, H c = some (.tbl ps) → S c = none := fun c ps e => by
        cases z : S c with
        | none => rfl
        | some o =>
          have e2 := hS2 c o z
          rw [e] at e2
          cases e2
          rcases hk c _ z with ⟨xs, z⟩ | ⟨ob, xs, z⟩ <;> cases z
      refine ⟨S, [], [], [.dat (.list (ns.map .int))], _, g, rfl, hS2, ⟨List.nodup_nil, rfl, fun j a o e => by simp at e, fun p hp => ⟨no _ _ (ht _ ⟨p, hp, rfl⟩), #[], ht _ ⟨p, hp, rfl⟩, True.intro, fun pos cv hc => ?_⟩, fun c q P hc => ?_⟩, .cons (.lst hq (DpAll_ints ns)) .nil, hg, fun w S' H' r' _ _ _ _ hw => ?_⟩
      · have z : codeAmong pos [] = some cv := hc
        simp [codeAmong] at z
      · rcases hk c _ hc with ⟨xs, z⟩ | ⟨ob, xs, z⟩ <;> cases z
      · cases hw
        exact q H'
    rcases hS with z | z
    · have at_ : justA a H a = H a := if_pos rfl
      refine key (justA a H) justA_same (.inl ?_) fun c o e => ?_
      · unfold Rd
        rw [at_]
        exact z
      · unfold justA at e
        split at e
        · rename_i hc
          subst hc
          rcases z with z | ⟨ob, z⟩
          · rw [z] at e; cases e; exact .inl ⟨_, rfl⟩
          · rw [z] at e; cases e; exact .inr ⟨_, _, rfl⟩
        · cases e
    · exact key (fun _ => none) (fun _ _ e => nomatch e) (.inr z) fun _ _ e => nomatch e
abbrev kX (P : Program) (w : World) (K : PySem.W.Frag) (mg : Str → Option Value) (base : Heap) (lv : Nat) (tb : List (Addr × Str)) : Kx := ⟨P, w, K, mg, base, lv, tb⟩
end Sm

namespace Sm
open PySem PySem.Spec PyProof.Rows L2 RZ SrtO Dz
def intD : List PyData → Option PyData
  | [.int i] => some (.int i)
  | [.bool b] => some (.int (if b then 1 else 0))
  | _ => none
section
variable {K : Kx}
theorem rc_intD : RCO K (fun xs H Q => (∃ i, xs = [.int i] ∧ Q (.int i) H) ∨ ∃ k, xs = [.bl k] ∧ Q (.int (if k then 1 else 0)) H) intD := fun as c e => by
  unfold intD at e
  split at e
  · cases e
    exact fun vs S H Q hs hx q => by
      cases hx with
      | cons h1 h2 => cases h2; cases h1; exact .inl ⟨_, rfl, q _ S H (Grow.refl hs) (.int _)⟩
  · cases e
    exact fun vs S H Q hs hx q => by
      cases hx with
      | cons h1 h2 => cases h2; cases h1; exact .inr ⟨_, rfl, q _ S H (Grow.refl hs) (.int _)⟩
  · cases e
end
end Sm

/-! Sm8: the plain words step by step: what stands ahead is worked out first, what follows is left alone until then. -/
namespace Sm
open PySem PySem.Spec PyProof.Rows L2 RZ SrtO Dz
section
variable {α β γ : Type}
def ob (o : Option (α × Lo × Sg)) (f : α → Lo → Sg → Option β) : Option β := match o with
  | none => none
  | some (a, l, g) => f a l g
def oo (o : Option α) (f : α → Option β) : Option β := match o with
  | none => none
  | some a => f a
def os (o : Option (Out × Lo × Sg)) (f : Lo → Sg → Option (Out × Lo × Sg)) : Option (Out × Lo × Sg) := match o with
  | none => none
  | some (.nx, l, g) => f l g
  | some (o, l, g) => some (o, l, g)
/-- a turn's end, within a loop -/
def ol (o : Option (Out × Lo × Sg)) (f : Lo → Sg → Option (Out × Lo × Sg)) : Option (Out × Lo × Sg) := match o with
  | none => none
  | some (.nx, l, g) => f l g
  | some (.ct, l, g) => f l g
  | some (.bk, l, g) => some (.nx, l, g)
  | some (.ret v, l, g) => some (.ret v, l, g)
def of (o : Option (Out × Lo × Sg)) : Option (Vl × Sg) := match o with
  | some (.ret v, _, g) => some (v, g)
  | some (.nx, _, g) => some (.dat .none, g)
  | _ => none
def oc (o : Option (Vl × Sg)) (f : Vl → Sg → Option β) : Option β := match o with
  | none => none
  | some (v, g) => f v g
theorem ob_some {a : α} {l : Lo} {g : Sg} {f : α → Lo → Sg → Option β} : ob (some (a, l, g)) f = f a l g := rfl
theorem oo_some {a : α} {f : α → Option β} : oo (some a) f = f a := rfl
theorem os_nx {l : Lo} {g : Sg} {f : Lo → Sg → Option (Out × Lo × Sg)} : os (some (.nx, l, g)) f = f l g := rfl
theorem ol_nx {l : Lo} {g : Sg} {f : Lo → Sg → Option (Out × Lo × Sg)} : ol (some (.nx, l, g)) f = f l g := rfl
theorem ol_ct {l : Lo} {g : Sg} {f : Lo → Sg → Option (Out × Lo × Sg)} : ol (some (.ct, l, g)) f = f l g := rfl
theorem ol_bk {l : Lo} {g : Sg} {f : Lo → Sg → Option (Out × Lo × Sg)} : ol (some (.bk, l, g)) f = some (.nx, l, g) := rfl
theorem ol_ret {v : Vl} {l : Lo} {g : Sg} {f : Lo → Sg → Option (Out × Lo × Sg)} : ol (some (.ret v, l, g)) f = some (.ret v, l, g) := rfl
theorem of_ret {v : Vl} {l : Lo} {g : Sg} : of (some (.ret v, l, g)) = some (v, g) := rfl
variable {l : Lo} {g : Sg} {i j k : Nat} {f f' : PyData → PyData → Option PyData} {a b c e : M PyData} {t u v : M Bool} {m m' : M (List PyData)}
theorem mb_ob {p : M α} {q : α → M β} : mb p q l g = ob (p l g) fun x l1 g1 => q x l1 g1 := by
  unfold mb ob
  rfl
theorem mo_at {o : Option α} : mo o l g = oo o fun x => some (x, l, g) := by unfold mo oo; rfl
theorem mg_at {p : Lo → Sg → Option α} : mg p l g = oo (p l g) fun x => some (x, l, g) := by unfold mg oo; rfl
theorem eVar_at : eVar i l g = oo (l[i]?) fun x => oo (asD x) fun d => some (d, l, g) := by
  unfold eVar oo asD
  cases h : l[i]? with
  | none => rfl
  | some x => cases x <;> rfl
theorem eOp_at : eOp f a b l g = ob (a l g) fun x l1 g1 => ob (b l1 g1) fun y l2 g2 => oo (f x y) fun z => some (z, l2, g2) := rfl
theorem eUn_at {f : PyData → Option PyData} : eUn f a l g = ob (a l g) fun x l1 g1 => oo (f x) fun z => some (z, l1, g1) := rfl
theorem aCons_at : aCons a m l g = ob (a l g) fun x l1 g1 => ob (m l1 g1) fun xs l2 g2 => some (x :: xs, l2, g2) := rfl
theorem eCB_at {f : List PyData → Option PyData} : eCB f m l g = ob (m l g) fun xs l1 g1 => oo (f xs) fun z => some (z, l1, g1) := rfl
theorem eTup_at : eTup m l g = ob (m l g) fun xs l1 g1 => if xs.length ≤ 4000000 then some (.tuple xs, l1, g1) else none := by
  unfold eTup mb ob
  cases m l g with
  | none => rfl
  | some x =>
    obtain ⟨xs, l1, g1⟩ := x
    show mo (smallO xs.length (PyData.tuple xs)) l1 g1 = if xs.length ≤ 4000000 then some (.tuple xs, l1, g1) else none
    unfold smallO mo
    split <;> split <;> simp_all
theorem eL_at : eL m l g = ob (m l g) fun xs l1 g1 => some (.list xs, l1, g1) := rfl
theorem lLst_at : lLst m l g = ob (m l g) fun xs l1 g1 => if xs.length ≤ 4000000 then some (xs, l1, g1) else none := by
  unfold lLst mb ob
  cases m l g with
  | none => rfl
  | some x =>
    obtain ⟨xs, l1, g1⟩ := x
    show mo (smallO xs.length xs) l1 g1 = if xs.length ≤ 4000000 then some (xs, l1, g1) else none
    unfold smallO mo
    split <;> split <;> simp_all
theorem eIf_at : eIf t a b l g = ob (t l g) fun c l1 g1 => if c = true then a l1 g1 else b l1 g1 := by
  unfold eIf mb ob
  cases t l g with
  | none => rfl
  | some x => obtain ⟨c, l1, g1⟩ := x; cases c <;> rfl
theorem eAnd_at : eAnd a b l g = ob (a l g) fun x l1 g1 => oo (truO x) fun c => if c = true then b l1 g1 else some (x, l1, g1) := by
  show ob (a l g) (fun x l1 g1 => mb (mo (truO x)) (fun c => if c = true then b else mp x) l1 g1) = _
  refine congrArg (ob (a l g)) (funext fun x => funext fun l1 => funext fun g1 => ?_)
  cases h : truO x with
  | none => simp [mb, mo, oo]
  | some c => cases c <;> simp [mb, mo, oo, mp]
theorem eNot_at : eNot a l g = ob (a l g) fun x l1 g1 => oo (truO x) fun c => some (.bool (!c), l1, g1) := by
  show ob (a l g) (fun x l1 g1 => mo ((truO x).map fun c => PyData.bool (!c)) l1 g1) = _
  refine congrArg (ob (a l g)) (funext fun x => funext fun l1 => funext fun g1 => ?_)
  cases h : truO x with
  | none => simp [mo, oo]
  | some c => simp [mo, oo]
theorem bTest_at : bTest a l g = ob (a l g) fun x l1 g1 => oo (asB x) fun z => some (z, l1, g1) := rfl
theorem bTru_at : bTru a l g = ob (a l g) fun x l1 g1 => oo (truO x) fun z => some (z, l1, g1) := rfl
theorem bNot_at : bNot t l g = ob (t l g) fun x l1 g1 => some (!x, l1, g1) := rfl
theorem bOr_at : bOr t u l g = ob (t l g) fun c l1 g1 => if c = true then some (true, l1, g1) else u l1 g1 := by
  unfold bOr mb ob
  cases t l g with
  | none => rfl
  | some x => obtain ⟨c, l1, g1⟩ := x; cases c <;> rfl
theorem oSome_at : oSome a l g = ob (a l g) fun x l1 g1 => oo (asI x) fun z => some (some z, l1, g1) := by
  show ob (a l g) (fun x l1 g1 => mb (mo (asI x)) (fun i => mp (some i)) l1 g1) = _
  refine congrArg (ob (a l g)) (funext fun x => funext fun l1 => funext fun g1 => ?_)
  cases h : asI x with
  | none => simp [mb, mo, oo]
  | some c => simp [mb, mo, oo, mp]
variable {lo hi : M (Option Int)}
theorem eSl_at : eSl a lo hi l g = ob (a l g) fun x l1 g1 => ob (lo l1 g1) fun p l2 g2 => ob (hi l2 g2) fun q l3 g3 => oo (slD x p q) fun z => some (z, l3, g3) := rfl
theorem eIxV_at : eIxV i b l g = oo (lsV l g i) fun _ => ob (b l g) fun y l1 g1 => oo (lsV l1 g1 i) fun ds => oo (asI y) fun n => oo (atI ds n) fun d => some (d, l1, g1) := by
  show mb (mg fun l g => lsV l g i) (fun _ => mb b fun y => mg fun l g => (lsV l g i).bind fun ds => (asI y).bind fun k => atI ds k) l g = _
  rw [mb_ob, mg_at]
  cases h : lsV l g i with
  | none => rfl
  | some x =>
    show mb b _ l g = ob (b l g) _
    rw [mb_ob]
    refine congrArg (ob (b l g)) (funext fun y => funext fun l1 => funext fun g1 => ?_)
    rw [mg_at]
    cases h2 : lsV l1 g1 i with
    | none => simp [oo]
    | some ds =>
      cases h3 : asI y with
      | none => simp [oo]
      | some n => simp [oo]
theorem eLenV_at : eLenV i l g = oo (lsV l g i) fun ds => some (.int ds.length, l, g) := by
  cases h : lsV l g i <;> simp [eLenV, mg, oo, h]
theorem bTruV_at : bTruV i l g = oo (lsV l g i) fun ds => some (!ds.isEmpty, l, g) := by
  cases h : lsV l g i <;> simp [bTruV, mg, oo, h]
theorem eTupleV_at : eTupleV i l g = oo (lsV l g i) fun ds => some (.tuple ds, l, g) := by
  cases h : lsV l g i <;> simp [eTupleV, mg, oo, h]
/-- the list that a slot stands for -/
def lsW (x : Vl) (g : Sg) : Option (List PyData) := match x with
  | .own ds => some ds
  | .ref j => oo (g[j]?) fun o => (match o with
    | .lst ds => some ds
    | _ => none)
  | .dat (.list ds) => some ds
  | _ => none
theorem ePopAt_at : ePopAt i b l g = oo (lsM l g i) fun _ => ob (b l g) fun y l1 g1 => popAtO i y l1 g1 := by
  show mb (mg fun l g => lsM l g i) (fun _ => mb b fun y => popAtO i y) l g = _
  rw [mb_ob, mg_at]
  cases h : lsM l g i with
  | none => rfl
  | some x => rfl
theorem iSq_at : iSq a l g = ob (a l g) fun x l1 g1 => oo (seqD x) fun z => some (z, l1, g1) := rfl
theorem rg1_at {x : PyData} : ((asI x).bind fun n => if rgO n = true then some (rng 0 n.toNat) else none) = oo (asI x) fun n => if rgO n = true then some (rng 0 n.toNat) else none := by cases asI x <;> rfl
theorem iRg1_at : iRg1 a l g = ob (a l g) fun x l1 g1 => oo (oo (asI x) fun n => if rgO n = true then some (rng 0 n.toNat) else none) fun z => some (z, l1, g1) := by
  show ob (a l g) (fun x l1 g1 => mo _ l1 g1) = _
  refine congrArg (ob (a l g)) (funext fun x => funext fun l1 => funext fun g1 => ?_)
  rw [mo_at, rg1_at]
def enL : PyData → Option (List PyData)
  | .list ds => some (enumD ds)
  | _ => none
def zpL : PyData → PyData → Option (List PyData)
  | .list ds, .list es => some (zipD ds es)
  | .tuple ds, .tuple es => some (zipD ds es)
  | _, _ => none
theorem iEn_at : iEn a l g = ob (a l g) fun x l1 g1 => oo (enL x) fun z => some (z, l1, g1) := by
  show ob (a l g) (fun x l1 g1 => mo _ l1 g1) = _
  refine congrArg (ob (a l g)) (funext fun x => funext fun l1 => funext fun g1 => ?_)
  rw [mo_at]
  rfl
theorem iZp_at : iZp a b l g = ob (a l g) fun x l1 g1 => ob (b l1 g1) fun y l2 g2 => oo (zpL x y) fun z => some (z, l2, g2) := by
  show ob (a l g) (fun x l1 g1 => ob (b l1 g1) fun y l2 g2 => mo _ l2 g2) = _
  refine congrArg (ob (a l g)) (funext fun x => funext fun l1 => funext fun g1 => congrArg (ob (b l1 g1)) (funext fun y => funext fun l2 => funext fun g2 => ?_))
  rw [mo_at]
  rfl
theorem lRep_at : lRep m b l g = ob (m l g) fun xs l1 g1 => ob (b l1 g1) fun y l2 g2 => oo (asI y) fun k => if (decide (k ≤ 1000) && decide (-1000 ≤ k) && decide (xs.length ≤ 100)) = true then some ((List.replicate k.toNat xs).flatten, l2, g2) else none := by
  show ob (m l g) (fun xs l1 g1 => ob (b l1 g1) fun y l2 g2 => mo _ l2 g2) = _
  refine congrArg (ob (m l g)) (funext fun x => funext fun l1 => funext fun g1 => congrArg (ob (b l1 g1)) (funext fun y => funext fun l2 => funext fun g2 => ?_))
  cases h : asI y with
  | none => simp [mo, oo]
  | some k => by_cases hc : (decide (k ≤ 1000) && decide (-1000 ≤ k) && decide (x.length ≤ 100)) = true <;> simp only [mo, oo, Option.bind_some, hc, if_true, if_false, Bool.false_eq_true]
def lcO (vs : List Nat) (tg : G) (t : M Bool) (e : M PyData) (ds : List PyData) (l : Lo) (g : Sg) : Option (List PyData × Lo × Sg) := if (plainAt vs l && decide (ds.length ≤ 4000000)) = true then lcL vs tg t e ds l g else none
theorem lLc_at {vs : List Nat} {tg : G} : lLc vs m tg t e l g = ob (m l g) fun ds l1 g1 => lcO vs tg t e ds l1 g1 := rfl
theorem eCall_at {F : FS} {q : M (List Vl)} : eCall F q l g = ob (q l g) fun xs l1 g1 => oc (F xs g1) fun v g2 => oo (asD v) fun d => some (d, l1, g2) := by
  cases hq : q l g with
  | none => simp [eCall, eD, vCall, mb, ob, hq]
  | some x =>
    obtain ⟨xs, l1, g1⟩ := x
    cases hF : F xs g1 with
    | none => simp [eCall, eD, vCall, mb, ob, oc, hq, hF]
    | some y => obtain ⟨v, g2⟩ := y; cases hv : asD v <;> simp [eCall, eD, vCall, mb, ob, oc, oo, mo, hq, hF, hv]
theorem vE_at : vE a l g = ob (a l g) fun d l1 g1 => some (.dat d, l1, g1) := rfl
def refO : Vl → Option Nat
  | .ref j => some j
  | _ => none
theorem vR_at : vR i l g = oo (l[i]?) fun x => oo (refO x) fun j => some (.ref j, l, g) := by
  cases h : l[i]? with
  | none => simp [vR, mg, oo, h]
  | some x => cases x <;> simp [vR, mg, oo, h, refO]
theorem vCons_at {x : M Vl} {q : M (List Vl)} : vCons x q l g = ob (x l g) fun y l1 g1 => ob (q l1 g1) fun ys l2 g2 => some (y :: ys, l2, g2) := rfl
theorem eIsi_at {T : String} : eIsi T a l g = ob (a l g) fun x l1 g1 => oo (kitB (tyN x) T) fun c => some (.bool c, l1, g1) := by
  show ob (a l g) (fun x l1 g1 => mo _ l1 g1) = _
  refine congrArg (ob (a l g)) (funext fun x => funext fun l1 => funext fun g1 => ?_)
  unfold mo oo
  cases kitB (tyN x) T <;> rfl
variable {x y : X}
theorem xSeq_at : xSeq x y l g = os (x l g) fun l1 g1 => y l1 g1 := by
  unfold xSeq mb os
  cases x l g with
  | none => rfl
  | some o => obtain ⟨o, l1, g1⟩ := o; cases o <;> rfl
theorem xAsg_at : xAsg i e l g = ob (e l g) fun d l1 g1 => some (.nx, l1.set i (.dat d), g1) := rfl
theorem xAsgG_at {G : G} : xAsgG G e l g = ob (e l g) fun d l1 g1 => oo (G d l1) fun l2 => some (.nx, l2, g1) := by
  show ob (e l g) _ = _
  refine congrArg (ob (e l g)) (funext fun x => funext fun l1 => funext fun g1 => ?_)
  unfold oo
  cases G x l1 <;> rfl
theorem xAsgL_at : xAsgL i m l g = ob (m l g) fun ds l1 g1 => some (.nx, l1.set i (.own ds), g1) := rfl
theorem xNewL_at : xNewL i m l g = ob (m l g) fun ds l1 g1 => some (.nx, l1.set i (.ref g1.length), g1 ++ [.lst ds]) := rfl
theorem xIf_at : xIf t x y l g = ob (t l g) fun c l1 g1 => if c = true then x l1 g1 else y l1 g1 := by
  unfold xIf mb ob
  cases t l g with
  | none => rfl
  | some x => obtain ⟨c, l1, g1⟩ := x; cases c <;> rfl
theorem xRet_at : xRet e l g = ob (e l g) fun d l1 g1 => some (.ret (.dat d), l1, g1) := rfl
theorem xApp_at : xApp i e l g = oo (lsM l g i) fun _ => ob (e l g) fun d l1 g1 => appO i d l1 g1 := by
  show mb (mg fun l g => lsM l g i) (fun _ => mb e fun y => appO i y) l g = _
  rw [mb_ob, mg_at]
  cases h : lsM l g i with
  | none => rfl
  | some x => rfl
theorem xSetI_at {k : M PyData} : xSetI i k e l g = ob (e l g) fun d l1 g1 => oo (lsM l1 g1 i) fun _ => ob (k l1 g1) fun y l2 g2 => setO i y d l2 g2 := by
  show ob (e l g) (fun d l1 g1 => mb (mg fun l g => lsM l g i) (fun _ => mb k fun y => setO i y d) l1 g1) = _
  refine congrArg (ob (e l g)) (funext fun d => funext fun l1 => funext fun g1 => ?_)
  rw [mb_ob, mg_at]
  cases h : lsM l1 g1 i with
  | none => rfl
  | some x => rfl
theorem xFor_at {G : G} : xFor m G x l g = ob (m l g) fun ds l1 g1 => xForL G x ds l1 g1 := rfl
theorem xForL_cons {G : G} {d : PyData} {ds : List PyData} : xForL G x (d :: ds) l g = oo (G d l) fun l1 => ol (x l1 g) fun l2 g2 => xForL G x ds l2 g2 := by
  rw [xForL]
  cases h : G d l with
  | none => simp [oo, h]
  | some l1 =>
    cases hx : x l1 g with
    | none => simp [oo, ol, h, hx]
    | some o => obtain ⟨o, l2, g2⟩ := o; cases o <;> simp [oo, ol, h, hx]
theorem whF_at {n : Nat} : whF t x (n + 1) l g = ob (t l g) fun c l1 g1 => if c = true then ol (x l1 g1) fun l2 g2 => whF t x n l2 g2 else some (.nx, l1, g1) := by
  rw [whF]
  cases h : t l g with
  | none => simp [ob, h]
  | some c =>
    obtain ⟨c, l1, g1⟩ := c
    cases c with
    | false => simp [ob, h]
    | true =>
      cases hx : x l1 g1 with
      | none => simp [ob, ol, h, hx]
      | some o => obtain ⟨o, l2, g2⟩ := o; cases o <;> simp [ob, ol, h, hx]
theorem whF_mono : ∀ {n n' : Nat} {l : Lo} {g : Sg} {r : Out × Lo × Sg}, whF t x n l g = some r → n ≤ n' → whF t x n' l g = some r
  | 0, _, _, _, _, h, _ => by cases h
  | n + 1, 0, _, _, _, h, hn => by omega
  | n + 1, n' + 1, l, g, r, h, hn => by
    rw [whF_at] at h ⊢
    unfold ob at h ⊢
    cases ht : t l g with
    | none => rw [ht] at h; cases h
    | some c =>
      obtain ⟨c, l1, g1⟩ := c
      rw [ht] at h
      cases c with
      | false => exact h
      | true =>
        simp only [if_true] at h ⊢
        unfold ol at h ⊢
        cases hx : x l1 g1 with
        | none => rw [hx] at h; cases h
        | some o =>
          obtain ⟨o, l2, g2⟩ := o
          rw [hx] at h
          cases o with
          | nx => exact whF_mono (n := n) (n' := n') h (by omega)
          | ct => exact whF_mono (n := n) (n' := n') h (by omega)
          | bk => exact h
          | ret v => exact h
theorem xWhile_of {n : Nat} {r : Out × Lo × Sg} (h : whF t x n l g = some r) (hn : n ≤ 4000000) : xWhile t x l g = some r := whF_mono h hn
theorem xPar_at : xPar i j a b l g = ob (a l g) fun x l1 g1 => ob (b l1 g1) fun y l2 g2 => some (.nx, (l2.set i (.dat x)).set j (.dat y), g2) := rfl
theorem xParLL_at : xParLL i j m m' l g = ob (m l g) fun x l1 g1 => ob (m' l1 g1) fun y l2 g2 => some (.nx, (l2.set i (.own x)).set j (.own y), g2) := rfl
theorem fnS_at {n : Nat} {as : List Vl} : fnS n x as g = of (x (as ++ List.replicate (n - as.length) .no) g) := by
  unfold fnS of
  rfl
variable {d : PyData} {ds : List PyData} {G : G} {gs : Gs}
end
end Sm

namespace Sm
open PySem PySem.Spec PyProof.Rows L2 RZ SrtO Dz
/-! ### data, worked out -/
theorem eqD_ii {i j : Int} : eqD (.int i) (.int j) = some (.bool (decide (i = j))) := by
  unfold eqD
  rw [if_pos ⟨rfl, rfl⟩]
  show some (PyData.bool (i == j)) = _
  rw [Bool.beq_eq_decide_eq]
theorem eqD_bb {i j : Bool} : eqD (.bool i) (.bool j) = some (.bool (decide (i = j))) := by
  unfold eqD
  rw [if_pos ⟨rfl, rfl⟩]
  cases i <;> cases j <;> rfl
theorem eqD_ss {i j : Str} : eqD (.str i) (.str j) = some (.bool (decide (i = j))) := by
  unfold eqD
  split
  · show some (PyData.bool (i == j)) = _
    rw [Bool.beq_eq_decide_eq]
  · rfl
theorem eqD_is {i : Int} {j : Str} : eqD (.int i) (.str j) = some (.bool false) := by
  unfold eqD
  split <;> rfl
theorem eqD_sh {a b : PyData} (h1 : SeqAt.shaped a = true) (h2 : SeqAt.shaped b = true) : eqD a b = some (.bool (PyData.eqv a b)) := by
  unfold eqD
  rw [if_pos ⟨h1, h2⟩]
theorem neD_of {a b : PyData} {c : Bool} (h : eqD a b = some (.bool c)) : neD a b = some (.bool (!c)) := by unfold neD; rw [h]; rfl
theorem neD_ii {i j : Int} : neD (.int i) (.int j) = some (.bool (!decide (i = j))) := neD_of eqD_ii
theorem neD_ss {i j : Str} : neD (.str i) (.str j) = some (.bool (!decide (i = j))) := neD_of eqD_ss
theorem neD_is {i : Int} {j : Str} : neD (.int i) (.str j) = some (.bool true) := neD_of eqD_is
theorem neD_bb {i j : Bool} : neD (.bool i) (.bool j) = some (.bool (!decide (i = j))) := neD_of eqD_bb
theorem truO_b {b : Bool} : truO (.bool b) = some b := rfl
theorem truO_l {ds : List PyData} : truO (.list ds) = some (!ds.isEmpty) := rfl
theorem truO_t {ds : List PyData} : truO (.tuple ds) = some (!ds.isEmpty) := rfl
theorem maxD_i {ns : List Int} (h : ns ≠ []) : maxD [.list (ns.map .int)] = some (.int (maxI ns)) := by
  show (intsO (ns.map .int)).bind _ = _
  rw [intsO_map]
  show (if _ then _ else _) = _
  rw [if_neg (by cases ns with | nil => exact absurd rfl h | cons => simp)]
theorem minD_i {ns : List Int} (h : ns ≠ []) : minD [.list (ns.map .int)] = some (.int (minI ns)) := by
  show (intsO (ns.map .int)).bind _ = _
  rw [intsO_map]
  show (if _ then _ else _) = _
  rw [if_neg (by cases ns with | nil => exact absurd rfl h | cons => simp)]
theorem sumD_i {ns : List Int} : sumD [.list (ns.map .int)] = some (.int ns.sum) := by
  show (intsO (ns.map .int)).bind _ = _
  rw [intsO_map]; rfl
theorem sortedD_i {ns : List Int} : sortedD [.list (ns.map .int)] = some (.list ((sortI ns).map .int)) := by
  show (intsO (ns.map .int)).bind _ = _
  rw [intsO_map]; rfl
theorem allD_b {ns : List Bool} : allD [.list (ns.map .bool)] = some (.bool (ns.all id)) := by
  show (boolsO (ns.map .bool)).bind _ = _
  rw [boolsO_map]; rfl
/-! ### comprehensions, worked out -/
theorem backV_id {l l' : Lo} {vs : List Nat} (hl : l'.length = l.length) (h : ∀ j, j ∉ vs → l'[j]? = l[j]?) : backV l l' vs = l := by
  apply List.ext_getElem?
  intro j
  rw [backV_get]
  by_cases hj : j ∈ vs
  · rw [if_pos hj]
    by_cases hlt : j < l.length
    · rw [if_pos (by omega), List.getD_eq_getElem?_getD, List.getElem?_eq_getElem hlt]
      rfl
    · rw [if_neg (by omega), List.getElem?_eq_none (by omega)]
  · rw [if_neg hj]
    exact h j hj
theorem lcL_cons {vs : List Nat} {tg : G} {t : M Bool} {e : M PyData} {d : PyData} {ds : List PyData} {l : Lo} {g : Sg} : lcL vs tg t e (d :: ds) l g = oo (tg d (wipeV l vs)) fun l1 => ob (t l1 g) fun b l2 g2 => if b = true then ob (e l2 g2) fun y l3 g3 => ob (lcL vs tg t e ds (backV l l3 vs) g3) fun ys l4 g4 => some (y :: ys, l4, g4) else lcL vs tg t e ds (backV l l2 vs) g2 := by
  rw [lcL]
  cases h1 : tg d (wipeV l vs) with
  | none => simp [oo, h1]
  | some l1 =>
    cases h2 : t l1 g with
    | none => simp [oo, ob, h1, h2]
    | some b =>
      obtain ⟨b, l2, g2⟩ := b
      cases b with
      | false => simp [oo, ob, h1, h2]
      | true =>
        cases h3 : e l2 g2 with
        | none => simp [oo, ob, h1, h2, h3]
        | some y => simp [oo, ob, h1, h2, h3, mb, mp] <;> rfl
/-- an element that leaves all as it is -/
theorem lcL_pure {vs : List Nat} {tg : G} {t : M Bool} {e : M PyData} {l : Lo} {g : Sg} {q : PyData → Bool} {f : PyData → PyData} : ∀ {ds : List PyData}, (∀ d ∈ ds, ∃ l1, tg d (wipeV l vs) = some l1 ∧ backV l l1 vs = l ∧ t l1 g = some (q d, l1, g) ∧ (q d = true → e l1 g = some (f d, l1, g))) →
    lcL vs tg t e ds l g = some ((ds.filter q).map f, l, g)
  | [], _ => rfl
  | d :: ds, h => by
    obtain ⟨l1, e1, e2, e3, e4⟩ := h d List.mem_cons_self
    have ih := lcL_pure (ds := ds) fun d hd => h d (List.mem_cons_of_mem _ hd)
    rw [lcL_cons, e1, oo_some, e3, ob_some]
    cases hq : q d with
    | true =>
      rw [if_pos rfl, e4 hq, ob_some, e2, ih, ob_some, List.filter_cons, if_pos hq]
      rfl
    | false => rw [if_neg Bool.false_ne_true, e2, ih, List.filter_cons, if_neg (by rw [hq]; exact Bool.false_ne_true)]
theorem lcO_of {vs : List Nat} {tg : G} {t : M Bool} {e : M PyData} {l : Lo} {g : Sg} {ds : List PyData} {r : List PyData × Lo × Sg} (hp : plainAt vs l = true) (hz : ds.length ≤ 4000000) (h : lcL vs tg t e ds l g = some r) : lcO vs tg t e ds l g = some r := by
  unfold lcO
  rw [if_pos (by rw [hp, decide_eq_true hz]; rfl), h]
/-- .. over one slot's name -/
theorem lcO_one {v : Nat} {t : M Bool} {e : M PyData} {l : Lo} {g : Sg} {α : Type} {xs : List α} {h : α → PyData} {q : α → Bool} {f : α → PyData} (hp : plainV (l.getD v .no) = true) (hz : xs.length ≤ 4000000)
    (ht : ∀ x ∈ xs, t (l.set v (.dat (h x))) g = some (q x, l.set v (.dat (h x)), g)) (he : ∀ x ∈ xs, q x = true → e (l.set v (.dat (h x))) g = some (f x, l.set v (.dat (h x)), g)) : lcO [v] (gNm v) t e (xs.map h) l g = some ((xs.filter q).map f, l, g) := by
  refine lcO_of (by unfold plainAt; rw [List.all_cons, hp]; rfl) (by simpa using hz) ?_
  have hb : ∀ x : Vl, backV l (l.set v x) [v] = l := fun x => backV_id (by simp) fun j hj => List.getElem?_set_ne fun z => hj (by simp [z])
  have hw : ∀ d, gNm v d (wipeV l [v]) = some (l.set v (.dat d)) := fun d => by
    show some ((l.set v .no).set v (.dat d)) = _
    rw [List.set_set]
  induction xs with
  | nil => rfl
  | cons x xs ih =>
    have ih := ih (by simp at hz; omega) (fun x hx => ht x (List.mem_cons_of_mem _ hx)) (fun x hx => he x (List.mem_cons_of_mem _ hx))
    rw [List.map_cons, lcL_cons, hw, oo_some, ht x List.mem_cons_self, ob_some]
    cases hq : q x with
    | true =>
      rw [if_pos rfl, he x List.mem_cons_self hq, ob_some, hb, ih, ob_some, List.filter_cons, if_pos hq]
      rfl
    | false => rw [if_neg Bool.false_ne_true, hb, ih, List.filter_cons, if_neg (by rw [hq]; exact Bool.false_ne_true)]
/-- .. without a test -/
theorem lcO_map {v : Nat} {e : M PyData} {l : Lo} {g : Sg} {α : Type} {xs : List α} {h : α → PyData} {f : α → PyData} (hp : plainV (l.getD v .no) = true) (hz : xs.length ≤ 4000000)
    (he : ∀ x ∈ xs, e (l.set v (.dat (h x))) g = some (f x, l.set v (.dat (h x)), g)) : lcO [v] (gNm v) bYes e (xs.map h) l g = some (xs.map f, l, g) := by
  have := lcO_one (t := bYes) (q := fun _ => true) (f := f) (h := h) hp hz (fun x _ => rfl) (fun x hx _ => he x hx)
  rwa [List.filter_eq_self.mpr fun _ _ => rfl] at this
/-! ### loops, worked out -/
/-- a for whose turns each lead on -/
theorem xForL_inv {G : G} {x : X} {ds : List PyData} {l : Lo} {g : Sg} (I : Nat → Lo → Sg → Prop) (h0 : I 0 l g) (hs : ∀ i d l g, ds[i]? = some d → I i l g → ∃ l1 l2 g2, G d l = some l1 ∧ (x l1 g = some (.nx, l2, g2) ∨ x l1 g = some (.ct, l2, g2)) ∧ I (i + 1) l2 g2) : ∃ l' g', xForL G x ds l g = some (.nx, l', g') ∧ I ds.length l' g' := by
  have key : ∀ n i l g, n = ds.length - i → i ≤ ds.length → I i l g → ∃ l' g', xForL G x (ds.drop i) l g = some (.nx, l', g') ∧ I ds.length l' g' := by
    intro n
    induction n with
    | zero =>
      intro i l g hn hi hI
      have : i = ds.length := by omega
      subst this
      rw [List.drop_length]
      exact ⟨l, g, rfl, hI⟩
    | succ n ih =>
      intro i l g hn hi hI
      have hlt : i < ds.length := by omega
      rw [List.drop_eq_getElem_cons hlt, xForL_cons]
      obtain ⟨l1, l2, g2, e1, e2, e3⟩ := hs i ds[i] l g (List.getElem?_eq_getElem hlt) hI
      rw [e1, oo_some]
      rcases e2 with e2 | e2
      · rw [e2, ol_nx]
        exact ih (i + 1) l2 g2 (by omega) hlt e3
      · rw [e2, ol_ct]
        exact ih (i + 1) l2 g2 (by omega) hlt e3
  simpa using key ds.length 0 l g (by omega) (Nat.zero_le _) h0
/-- a while by a measure -/
theorem xWhile_inv {t : M Bool} {x : X} {l : Lo} {g : Sg} {α : Type} (lf : α → Lo) (gf : α → Sg) (I : α → Prop) (mu : α → Nat) (P : Out → Lo → Sg → Prop) (x0 : α) (h0 : I x0) (el : l = lf x0) (eg : g = gf x0) (hm : mu x0 < 4000000)
    (hs : ∀ a, I a → (∃ l1 g1, t (lf a) (gf a) = some (false, l1, g1) ∧ P .nx l1 g1) ∨ (∃ l1 g1, t (lf a) (gf a) = some (true, l1, g1) ∧ ((∃ b, (x l1 g1 = some (.nx, lf b, gf b) ∨ x l1 g1 = some (.ct, lf b, gf b)) ∧ I b ∧ mu b < mu a) ∨ (∃ l2 g2, x l1 g1 = some (.bk, l2, g2) ∧ P .nx l2 g2) ∨ (∃ v l2 g2, x l1 g1 = some (.ret v, l2, g2) ∧ P (.ret v) l2 g2)))) :
    ∃ o l' g', xWhile t x l g = some (o, l', g') ∧ P o l' g' := by
  subst el eg
  have key : ∀ n a, mu a < n → I a → ∃ o l' g', whF t x n (lf a) (gf a) = some (o, l', g') ∧ P o l' g' := by
    intro n
    induction n with
    | zero => intro a h; omega
    | succ n ih =>
      intro a hn hI
      rw [whF_at]
      rcases hs a hI with ⟨l1, g1, e1, e2⟩ | ⟨l1, g1, e1, e2⟩
      · exact ⟨.nx, l1, g1, by rw [e1]; rfl, e2⟩
      · rw [e1, ob_some, if_pos rfl]
        rcases e2 with ⟨b, e3, e4, e5⟩ | ⟨l2, g2, e3, e4⟩ | ⟨v, l2, g2, e3, e4⟩
        · obtain ⟨o, l', g', q1, q2⟩ := ih b (by omega) e4
          rcases e3 with e3 | e3
          · exact ⟨o, l', g', by rw [e3, ol_nx]; exact q1, q2⟩
          · exact ⟨o, l', g', by rw [e3, ol_ct]; exact q1, q2⟩
        · exact ⟨.nx, l2, g2, by rw [e3, ol_bk], e4⟩
        · exact ⟨.ret v, l2, g2, by rw [e3, ol_ret], e4⟩
  obtain ⟨o, l', g', q1, q2⟩ := key (mu x0 + 1) x0 (Nat.lt_succ_self _) h0
  exact ⟨o, l', g', xWhile_of q1 (by omega), q2⟩
/-! ### what is put, what is frozen, worked out -/
section
variable {β : Type} {l : Lo} {g : Sg} {i j : Nat} {ds es : List PyData} {f : Lo → Sg → β} {x : X}
def pk (o : Option Vl) (l : Lo) (g : Sg) (i : Nat) (ds : List PyData) (f : Lo → Sg → β) : β := match o with
  | some (.own _) => f (l.set i (.own ds)) g
  | some (.ref j) => f l (g.set j (.lst ds))
  | _ => f l g
def fz (o : Option Vl) (i : Nat) (x : X) (l : Lo) (g : Sg) : Option (Out × Lo × Sg) := match o with
  | some (.own ds) => x (l.set i (.dat (.list ds))) g
  | _ => x l g
theorem xFrz_at : xFrz i x l g = fz (l[i]?) i x l g := rfl
theorem fz_own : fz (some (.own ds)) i x l g = x (l.set i (.dat (.list ds))) g := rfl
end
/-! ### conditions that arithmetic decides -/
section
variable {α : Type} {x y : α}
theorem c_rgO {n : Int} (h : n ≤ 4000000 ∧ -4000000 ≤ n) : rgO n = true := by unfold rgO; simp [h]
theorem atI_in {ds : List PyData} {k : Int} (h : 0 ≤ k) : atI ds k = ds[k.toNat]? := by
  unfold atI ixN
  rw [if_pos h]
  by_cases hk : k < ds.length
  · rw [if_pos hk]; rfl
  · rw [if_neg hk, List.getElem?_eq_none (by omega)]; rfl
theorem ixN_in {n : Nat} {k : Int} (h : 0 ≤ k ∧ k < n) : ixN n k = some k.toNat := by
  unfold ixN
  rw [if_pos h.1, if_pos h.2]
theorem seqIx_in {n : Nat} {k : Int} (h : 0 ≤ k ∧ k < n) : seqIndex? k n = some k.toNat := by
  have := seqIndex_of (k := k) (n := n) h.1 (by omega)
  simpa using this
end
theorem seq_step {x y : X} {l l1 : Lo} {g g1 : Sg} {R : Option (Out × Lo × Sg)} (h : x l g = some (.nx, l1, g1)) (h2 : y l1 g1 = R) : xSeq x y l g = R := by
  rw [xSeq_at, h, os_nx]; exact h2
/-- what a def's run gives back -/
def Rt (x : X) (l : Lo) (g : Sg) (v : Vl) (g' : Sg) : Prop := ∃ l1, x l g = some (.ret v, l1, g')
theorem fn_ret {n : Nat} {x : X} {as : List Vl} {g g1 : Sg} {v : Vl} {l : Lo} (hl : as ++ List.replicate (n - as.length) .no = l) (h : Rt x l g v g1) : fnS n x as g = some (v, g1) := by
  obtain ⟨l1, h⟩ := h
  rw [fnS_at, hl, h, of_ret]
theorem rt_seq {x y : X} {l l1 : Lo} {g g1 g' : Sg} {v : Vl} (h : x l g = some (.nx, l1, g1)) (h2 : Rt y l1 g1 v g') : Rt (xSeq x y) l g v g' := by
  obtain ⟨l2, h2⟩ := h2
  exact ⟨l2, seq_step h h2⟩
theorem rt_ret {e : M PyData} {l l1 : Lo} {g g' : Sg} {d : PyData} (h : e l g = some (d, l1, g')) : Rt (xRet e) l g (.dat d) g' := ⟨l1, by rw [xRet_at, h, ob_some]⟩
theorem rt_frz {i : Nat} {x : X} {l : Lo} {g g' : Sg} {v : Vl} {ds : List PyData} (h : l[i]? = some (.own ds)) (h2 : Rt x (l.set i (.dat (.list ds))) g v g') : Rt (xFrz i x) l g v g' := by
  obtain ⟨l2, h2⟩ := h2
  exact ⟨l2, by rw [xFrz_at, h, fz_own]; exact h2⟩
theorem rt_is {x : X} {l : Lo} {g g1 g2 : Sg} {v w : Vl} (h : Rt x l g v g1) (e : v = w) (eg : g1 = g2) : Rt x l g w g2 := by subst e eg; exact h
end Sm

namespace Sm
open PySem PySem.Spec PyProof.Rows L2 RZ SrtO Dz
/-! ### the plain words by rules: what each comes to, part by part -/
section
variable {α β : Type} {l l1 l2 l3 : Lo} {g g1 g2 g3 : Sg} {i j k : Nat} {f f' : PyData → PyData → Option PyData} {a b c e : M PyData} {t u v : M Bool} {m m' : M (List PyData)} {d d1 d2 d3 : PyData} {ds es : List PyData} {p q : Bool}
theorem eVar_ev (h : l[i]? = some (.dat d)) : eVar i l g = some (d, l, g) := by rw [eVar_at, h]; rfl
theorem eC_ev : eC d l g = some (d, l, g) := rfl
theorem eOp_ev (h1 : a l g = some (d1, l1, g1)) (h2 : b l1 g1 = some (d2, l2, g2)) (h3 : f d1 d2 = some d) : eOp f a b l g = some (d, l2, g2) := by rw [eOp_at, h1, ob_some, h2, ob_some, h3]; rfl
theorem eUn_ev {f : PyData → Option PyData} (h1 : a l g = some (d1, l1, g1)) (h3 : f d1 = some d) : eUn f a l g = some (d, l1, g1) := by rw [eUn_at, h1, ob_some, h3]; rfl
theorem aNil_ev : aNil l g = some ([], l, g) := rfl
theorem aCons_ev (h1 : a l g = some (d1, l1, g1)) (h2 : m l1 g1 = some (ds, l2, g2)) : aCons a m l g = some (d1 :: ds, l2, g2) := by rw [aCons_at, h1, ob_some, h2]; rfl
theorem eCB_ev {f : List PyData → Option PyData} (h1 : m l g = some (ds, l1, g1)) (h3 : f ds = some d) : eCB f m l g = some (d, l1, g1) := by rw [eCB_at, h1, ob_some, h3]; rfl
theorem eTup_ev (h1 : m l g = some (ds, l1, g1)) (h : ds.length ≤ 4000000) : eTup m l g = some (.tuple ds, l1, g1) := by rw [eTup_at, h1, ob_some, if_pos h]
theorem eL_ev (h1 : m l g = some (ds, l1, g1)) : eL m l g = some (.list ds, l1, g1) := by rw [eL_at, h1]; rfl
theorem lLst_ev (h1 : m l g = some (ds, l1, g1)) (h : ds.length ≤ 4000000) : lLst m l g = some (ds, l1, g1) := by rw [lLst_at, h1, ob_some, if_pos h]
theorem eAnd_B (h : a l g = some (.bool p, l1, g1)) (h2 : p = true → b l1 g1 = some (.bool q, l1, g1)) : eAnd a b l g = some (.bool (p && q), l1, g1) := by
  rw [eAnd_at, h, ob_some]
  cases p with
  | true => exact h2 rfl
  | false => rfl
theorem eNot_ev (h : a l g = some (d1, l1, g1)) (ht : truO d1 = some p) : eNot a l g = some (.bool (!p), l1, g1) := by rw [eNot_at, h, ob_some, ht]; rfl
theorem bTest_ev (h : a l g = some (.bool p, l1, g1)) : bTest a l g = some (p, l1, g1) := by rw [bTest_at, h]; rfl
theorem bTru_ev (h : a l g = some (d1, l1, g1)) (ht : truO d1 = some p) : bTru a l g = some (p, l1, g1) := by rw [bTru_at, h, ob_some, ht]; rfl
theorem bNot_ev (h : t l g = some (p, l1, g1)) : bNot t l g = some (!p, l1, g1) := by rw [bNot_at, h]; rfl
theorem bOr_T (h : t l g = some (p, l1, g1)) (hp : p = true) : bOr t u l g = some (true, l1, g1) := by rw [bOr_at, h, ob_some, if_pos hp]
theorem bOr_F (h : t l g = some (p, l1, g1)) (hp : p = false) (h2 : u l1 g1 = some (q, l2, g2)) : bOr t u l g = some (q, l2, g2) := by rw [bOr_at, h, ob_some, if_neg (by rw [hp]; exact Bool.false_ne_true)]; exact h2
theorem oNone_ev : oNone l g = some (none, l, g) := rfl
theorem oSome_ev {n : Int} (h : a l g = some (.int n, l1, g1)) : oSome a l g = some (some n, l1, g1) := by rw [oSome_at, h]; rfl
variable {lo hi : M (Option Int)} {x y : Option Int}
theorem eSl_ev (h1 : a l g = some (d1, l1, g1)) (h2 : lo l1 g1 = some (x, l2, g2)) (h3 : hi l2 g2 = some (y, l3, g3)) (h4 : slD d1 x y = some d) : eSl a lo hi l g = some (d, l3, g3) := by rw [eSl_at, h1, ob_some, h2, ob_some, h3, ob_some, h4]; rfl
theorem eIxV_ev {n : Int} (h0 : lsV l g i = some es) (h1 : b l g = some (.int n, l1, g1)) (h2 : lsV l1 g1 i = some ds) (h3 : atI ds n = some d) : eIxV i b l g = some (d, l1, g1) := by rw [eIxV_at, h0, oo_some, h1, ob_some, h2, oo_some]; show oo (atI ds n) _ = _; rw [h3]; rfl
theorem eLenV_ev (h : lsV l g i = some ds) : eLenV i l g = some (.int ds.length, l, g) := by rw [eLenV_at, h]; rfl
theorem bTruV_ev (h : lsV l g i = some ds) : bTruV i l g = some (!ds.isEmpty, l, g) := by rw [bTruV_at, h]; rfl
theorem eTupleV_ev (h : lsV l g i = some ds) : eTupleV i l g = some (.tuple ds, l, g) := by rw [eTupleV_at, h]; rfl
theorem ePopAt_ev {n : Int} (h0 : lsM l g i = some es) (h1 : b l g = some (.int n, l1, g1)) (h2 : lsM l1 g1 i = some ds) (h3 : seqIndex? n ds.length = some j) (hn : n < 2 ^ 62 ∧ -(2 ^ 62) < n) (h4 : ds[j]? = some d) : ePopAt i b l g = some (d, (ptV l1 g1 i (ds.eraseIdx j)).1, (ptV l1 g1 i (ds.eraseIdx j)).2) := by
  rw [ePopAt_at, h0, oo_some, h1, ob_some]
  unfold popAtO
  rw [h2]
  show (match seqIndex? n ds.length with | some j => _ | none => none) = _
  rw [h3]
  show (if _ then _ else _) = _
  rw [if_pos hn, h4]
theorem iSq_ev (h : a l g = some (d1, l1, g1)) (h2 : seqD d1 = some ds) : iSq a l g = some (ds, l1, g1) := by rw [iSq_at, h, ob_some, h2]; rfl
theorem lList_ev (h : a l g = some (d1, l1, g1)) (h2 : seqD d1 = some ds) : lList a l g = some (ds, l1, g1) := iSq_ev h h2
theorem iRg1_ev {n : Int} (h : a l g = some (.int n, l1, g1)) (hn : n ≤ 4000000 ∧ -4000000 ≤ n) : iRg1 a l g = some (rng 0 n.toNat, l1, g1) := by
  rw [iRg1_at, h, ob_some]
  show oo (if rgO n = true then _ else _) _ = _
  rw [if_pos (c_rgO hn)]; rfl
theorem lListRg_ev {n : Int} (h : a l g = some (.int n, l1, g1)) (hn : n ≤ 4000000 ∧ -4000000 ≤ n) : lListRg a l g = some (rng 0 n.toNat, l1, g1) := iRg1_ev h hn
theorem iEn_ev (h : a l g = some (.list ds, l1, g1)) : iEn a l g = some (enumD ds, l1, g1) := by rw [iEn_at, h]; rfl
theorem iZp_T (h : a l g = some (.tuple ds, l1, g1)) (h2 : b l1 g1 = some (.tuple es, l2, g2)) : iZp a b l g = some (zipD ds es, l2, g2) := by rw [iZp_at, h, ob_some, h2]; rfl
theorem lRep_ev {n : Int} (h : m l g = some (ds, l1, g1)) (h2 : b l1 g1 = some (.int n, l2, g2)) (hn : n ≤ 1000 ∧ -1000 ≤ n) (hd : ds.length ≤ 100) : lRep m b l g = some ((List.replicate n.toNat ds).flatten, l2, g2) := by
  rw [lRep_at, h, ob_some, h2, ob_some]
  show (if _ then _ else _) = _
  rw [if_pos (by simp [hn.1, hn.2, hd])]
theorem lLc_ev {vs : List Nat} {tg : G} (h : m l g = some (ds, l1, g1)) (h2 : lcO vs tg t e ds l1 g1 = some (es, l2, g2)) : lLc vs m tg t e l g = some (es, l2, g2) := by rw [lLc_at, h, ob_some]; exact h2
variable {F : FS} {w z : M (List Vl)} {xs ys : List Vl} {s : Vl} {r : M Vl}
theorem eCall_ev (h1 : w l g = some (xs, l1, g1)) (h2 : F xs g1 = some (.dat d, g2)) : eCall F w l g = some (d, l1, g2) := by rw [eCall_at, h1, ob_some, h2]; rfl
theorem vE_ev (h : a l g = some (d, l1, g1)) : vE a l g = some (.dat d, l1, g1) := by rw [vE_at, h]; rfl
theorem vR_ev (h : l[i]? = some (.ref j)) : vR i l g = some (.ref j, l, g) := by rw [vR_at, h]; rfl
theorem vNil_ev : vNil l g = some ([], l, g) := rfl
theorem vCons_ev (h1 : r l g = some (s, l1, g1)) (h2 : w l1 g1 = some (xs, l2, g2)) : vCons r w l g = some (s :: xs, l2, g2) := by rw [vCons_at, h1, ob_some, h2]; rfl
theorem eIsi_ev {T : String} (h : a l g = some (d, l1, g1)) (h2 : kitB (tyN d) T = some p) : eIsi T a l g = some (.bool p, l1, g1) := by rw [eIsi_at, h, ob_some, h2]; rfl
/-! statements -/
variable {A B : Sm.X} {o : Out}
theorem xNext_ev : xNext l g = some (.nx, l, g) := rfl
theorem xAsg_ev (h : e l g = some (d, l1, g1)) : xAsg i e l g = some (.nx, l1.set i (.dat d), g1) := by rw [xAsg_at, h]; rfl
theorem xAsgG_ev {G : G} (h : e l g = some (d, l1, g1)) (h2 : G d l1 = some l2) : xAsgG G e l g = some (.nx, l2, g1) := by rw [xAsgG_at, h, ob_some, h2]; rfl
theorem xAsgL_ev (h : m l g = some (ds, l1, g1)) : xAsgL i m l g = some (.nx, l1.set i (.own ds), g1) := by rw [xAsgL_at, h]; rfl
theorem xNewL_ev (h : m l g = some (ds, l1, g1)) : xNewL i m l g = some (.nx, l1.set i (.ref g1.length), g1 ++ [.lst ds]) := by rw [xNewL_at, h]; rfl
theorem xIf_T (h : t l g = some (p, l1, g1)) (hp : p = true) (h2 : A l1 g1 = some (o, l2, g2)) : xIf t A B l g = some (o, l2, g2) := by rw [xIf_at, h, ob_some, if_pos hp]; exact h2
theorem xIf_F (h : t l g = some (p, l1, g1)) (hp : p = false) (h2 : B l1 g1 = some (o, l2, g2)) : xIf t A B l g = some (o, l2, g2) := by rw [xIf_at, h, ob_some, if_neg (by rw [hp]; exact Bool.false_ne_true)]; exact h2
theorem xApp_ev (h0 : lsM l g i = some es) (h : e l g = some (d, l1, g1)) (h2 : lsM l1 g1 i = some ds) (hz : ds.length < 4000000) : xApp i e l g = some (.nx, (ptV l1 g1 i (ds ++ [d])).1, (ptV l1 g1 i (ds ++ [d])).2) := by
  rw [xApp_at, h0, oo_some, h, ob_some]
  unfold appO
  rw [h2]
  show (if _ then _ else _) = _
  rw [if_pos hz]
theorem xSetI_ev {n : Int} (h : e l g = some (d, l1, g1)) (h0 : lsM l1 g1 i = some es) (h1 : b l1 g1 = some (.int n, l2, g2)) (h2 : lsM l2 g2 i = some ds) (h3 : ixN ds.length n = some j) : xSetI i b e l g = some (.nx, (ptV l2 g2 i (ds.set j d)).1, (ptV l2 g2 i (ds.set j d)).2) := by
  rw [xSetI_at, h, ob_some, h0, oo_some, h1, ob_some]
  unfold setO
  rw [h2]
  show (match ixN ds.length n with | some j => _ | none => none) = _
  rw [h3]
theorem xFor_ev {G : G} (h : m l g = some (ds, l1, g1)) (h2 : xForL G A ds l1 g1 = some (o, l2, g2)) : xFor m G A l g = some (o, l2, g2) := by rw [xFor_at, h, ob_some]; exact h2
theorem xPar_ev (h1 : a l g = some (d1, l1, g1)) (h2 : b l1 g1 = some (d2, l2, g2)) : xPar i j a b l g = some (.nx, (l2.set i (.dat d1)).set j (.dat d2), g2) := by rw [xPar_at, h1, ob_some, h2]; rfl
theorem xParLL_ev (h1 : m l g = some (ds, l1, g1)) (h2 : m' l1 g1 = some (es, l2, g2)) : xParLL i j m m' l g = some (.nx, (l2.set i (.own ds)).set j (.own es), g2) := by rw [xParLL_at, h1, ob_some, h2]; rfl
theorem xFrz_O (h : l[i]? = some (.own ds)) (h2 : A (l.set i (.dat (.list ds))) g = some (o, l1, g1)) : xFrz i A l g = some (o, l1, g1) := by rw [xFrz_at, h]; exact h2
end
/-! data -/
theorem mulD_ev {i j : Int} (h : (-(2 ^ 64) < i ∧ i < 2 ^ 64) ∨ (-(2 ^ 64) < j ∧ j < 2 ^ 64)) : mulD (.int i) (.int j) = some (.int (i * j)) := by
  show (if _ then _ else _) = _
  rw [if_pos (by simpa using h)]
theorem modD_ev {i j : Int} (h : 0 < j) : modD (.int i) (.int j) = some (.int (i % j)) := by
  show (if _ then _ else _) = _
  rw [if_pos (by simpa using h)]
theorem fdivD_ev {i j : Int} (h : 0 < j ∧ j < 1073741824) : fdivD (.int i) (.int j) = some (.int (i / j)) := by
  show (if _ then _ else _) = _
  rw [if_pos (by simpa using h)]
theorem plusD_l {xs ys : List PyData} (h : xs.length + ys.length ≤ 4000000) : plusD (.list xs) (.list ys) = some (.list (xs ++ ys)) := by
  show (if _ then _ else _) = _
  rw [if_pos h]
theorem ixD_t {ds : List PyData} {k : Int} {d : PyData} (h0 : 0 ≤ k) (h : ds[k.toNat]? = some d) : ixD (.tuple ds) (.int k) = some d := by
  show atI ds k = _
  rw [atI_in h0, h]
theorem ixD_l {ds : List PyData} {k : Int} {d : PyData} (h0 : 0 ≤ k) (h : ds[k.toNat]? = some d) : ixD (.list ds) (.int k) = some d := by
  show atI ds k = _
  rw [atI_in h0, h]
theorem ixD_tN {ds : List PyData} {k : Nat} {d : PyData} (h : ds[k]? = some d) : ixD (.tuple ds) (.int (k : Int)) = some d := ixD_t (Int.natCast_nonneg k) (by simpa using h)
theorem ixD_lN {ds : List PyData} {k : Nat} {d : PyData} (h : ds[k]? = some d) : ixD (.list ds) (.int (k : Int)) = some d := ixD_l (Int.natCast_nonneg k) (by simpa using h)
theorem atI_N {ds : List PyData} {k : Nat} {d : PyData} (h : ds[k]? = some d) : atI ds (k : Int) = some d := by rw [atI_in (Int.natCast_nonneg k)]; simpa using h
theorem plusD_ii {i j : Int} : plusD (.int i) (.int j) = some (.int (i + j)) := rfl
theorem subD_ii {i j : Int} : subD (.int i) (.int j) = some (.int (i - j)) := rfl
theorem ltD_ii {i j : Int} : ltD (.int i) (.int j) = some (.bool (decide (i < j))) := rfl
theorem gtD_ii {i j : Int} : gtD (.int i) (.int j) = some (.bool (decide (j < i))) := rfl
theorem geD_ii {i j : Int} : geD (.int i) (.int j) = some (.bool (decide (j ≤ i))) := rfl
theorem atI_z {ds : List PyData} {d : PyData} (h : ds[0]? = some d) : atI ds 0 = some d := atI_N h
theorem ixD_t0 {ds : List PyData} {d : PyData} (h : ds[0]? = some d) : ixD (.tuple ds) (.int 0) = some d := atI_N h
theorem ixD_t1 {ds : List PyData} {d : PyData} (h : ds[1]? = some d) : ixD (.tuple ds) (.int 1) = some d := atI_N h
theorem k_bb {x : Bool} : kitB (tyN (.bool x)) "bool" = some true := by show kitB "bool" "bool" = _; decide +kernel
theorem k_bt {x : Bool} : kitB (tyN (.bool x)) "tuple" = some false := by show kitB "bool" "tuple" = _; decide +kernel
theorem k_bi {x : Bool} : kitB (tyN (.bool x)) "int" = some true := by show kitB "bool" "int" = _; decide +kernel
theorem k_tt {x : List PyData} : kitB (tyN (.tuple x)) "tuple" = some true := by show kitB "tuple" "tuple" = _; decide +kernel
theorem k_ti {x : List PyData} : kitB (tyN (.tuple x)) "int" = some false := by show kitB "tuple" "int" = _; decide +kernel
theorem k_st {x : Str} : kitB (tyN (.str x)) "tuple" = some false := by show kitB "str" "tuple" = _; decide +kernel
theorem k_si {x : Str} : kitB (tyN (.str x)) "int" = some false := by show kitB "str" "int" = _; decide +kernel
theorem k_ib {x : Int} : kitB (tyN (.int x)) "bool" = some false := by show kitB "int" "bool" = _; decide +kernel
theorem k_it {x : Int} : kitB (tyN (.int x)) "tuple" = some false := by show kitB "int" "tuple" = _; decide +kernel
theorem k_is {x : Int} : kitB (tyN (.int x)) "str" = some false := by show kitB "int" "str" = _; decide +kernel
theorem k_ii {x : Int} : kitB (tyN (.int x)) "int" = some true := by show kitB "int" "int" = _; decide +kernel
theorem k_nt  : kitB (tyN (.none)) "tuple" = some false := by show kitB "NoneType" "tuple" = _; decide +kernel
theorem k_ni  : kitB (tyN (.none)) "int" = some false := by show kitB "NoneType" "int" = _; decide +kernel
theorem k_lt {x : List PyData} : kitB (tyN (.list x)) "tuple" = some false := by show kitB "list" "tuple" = _; decide +kernel
theorem k_li {x : List PyData} : kitB (tyN (.list x)) "int" = some false := by show kitB "list" "int" = _; decide +kernel
section
variable {α : Type} {l l1 l2 : Lo} {g g1 g2 : Sg} {a b : M PyData} {t u : M Bool} {p : Bool} {r : Option (PyData × Lo × Sg)} {rb : Option (Bool × Lo × Sg)} {rx : Option (Out × Lo × Sg)} {A B : X}
theorem cd_T {x y z : α} (h : p = true) (h2 : x = z) : cond p x y = z := by subst h; exact h2
theorem cd_F {x y z : α} (h : p = false) (h2 : y = z) : cond p x y = z := by subst h; exact h2
theorem eIf_D (h : t l g = some (p, l1, g1)) (h2 : cond p (a l1 g1) (b l1 g1) = r) : eIf t a b l g = r := by
  rw [eIf_at, h, ob_some, ← h2]
  cases p <;> rfl
theorem xIf_D (h : t l g = some (p, l1, g1)) (h2 : cond p (A l1 g1) (B l1 g1) = rx) : xIf t A B l g = rx := by
  rw [xIf_at, h, ob_some, ← h2]
  cases p <;> rfl
end
end Sm

/-! ### x = {k: v for ..} where x is a plain local (as L2.ps_setLc for lists) -/
namespace L2
open PySem PySem.Spec PyProof.Rows
section
variable {X : Cx}
theorem ps_setDc {i : Nat} {y : Str} {py : Pos} {kx vx tg iter : Expr} {ifs : List Expr} {scope : Scope} {own : List (Str × Nat)} {pos spos : Pos} {wi : TI} {g : TG} {tt : TT} {tk tv : TE} (hc : X.calm = true) (hN : X.N.Nodup) (hy : X.N[i]? = some y) (hyl : X.env.scope.names.lookup y = some .local)
    (hsw : swapsWith (.DictComp kx vx [⟨tg, iter, ifs, 0⟩] scope pos) (some (.Name y py)) spos.line X.env = pure true) (hi : PI X tg iter wi) (ok : BlkOk X.N X.env.scope scope own)
    (hg : ∀ (s : Shared) (H : Hp) (C : Addr) (cl : List (Str × Addr)) (fp : List Addr), PG (X.blk s H scope (compEnvC scope cl C X.env) fp) tg g) (ht : ∀ (s : Shared) (H : Hp) (C : Addr) (cl : List (Str × Addr)) (fp : List Addr), PTs (X.blk s H scope (compEnvC scope cl C X.env) fp) ifs tt)
    (hk : ∀ (s : Shared) (H : Hp) (C : Addr) (cl : List (Str × Addr)) (fp : List Addr), PE (X.blk s H scope (compEnvC scope cl C X.env) fp) kx tk)
    (he : ∀ (s : Shared) (H : Hp) (C : Addr) (cl : List (Str × Addr)) (fp : List Addr), PE (X.blk s H scope (compEnvC scope cl C X.env) fp) vx tv) (hs : ∀ x, foldedSetIterable iter X.env x = pure x := by intro _; rfl) :
    PS X (.Assign [.Name y py] (.DictComp kx vx [⟨tg, iter, ifs, 0⟩] scope pos) spos) (tAsg (tDc wi g tt tk tv (own.map (·.2))) (gName i)) := by
  refine ⟨fun pins s σ H D I h => ?_⟩
  rw [exec_Assign_Name_used _ _ _ _ hsw]
  refine wpAny_bind (wpAny_standAt (wpAny_bind ?_))
  show wpAny _ X.A (do let _ ← comprehension (.DictComp kx vx [⟨tg, iter, ifs, 0⟩] scope pos) scope X.env (firstIterPos [⟨tg, iter, ifs, 0⟩] pos) newDict false (eval iter X.env) (some (assign (.Name y py) X.env))) _ _ s
  have h : tDc wi g tt tk tv (own.map (·.2)) σ H (fun x H1 => gName i x σ H1 D.nx) := h
  refine wpAny_bind (thn (dc_core (Qf := fun _ s' => SP X pins D .next s') hc hN I hi ok hg ht hk he hs h fun L C s' m H' I' q hn f => ?_) fun _ s' hq => wpAny_pure (wpAny_pure hq))
  show wpAny _ _ (assign (.Name y py) X.env (.ref L)) _ _ _
  refine wpAny_assign_Name (store_ok2 (v := V.ref L) I' hN hy (.inl hyl) rfl (fun s2 I2 ⟨a, sb, ha⟩ => ?_) (.inr hyl))
  obtain ⟨f0, f1, f2, f3, f4, f5⟩ := f
  have haC : C ≠ a := by
    rcases ha with z | z
    · rw [z]; exact f1
    · exact fun e => f4 y a z e.symm
  refine ⟨m, hn.sameBut sb haC, fun h3 sb3 => ?_⟩
  exact ⟨_, H', I2.turned (t' := s2.toks) (fun b o hb e => (sb3.2 b hb).trans e) f0 f1 f3 f4 f5, q⟩
theorem sw_trueD {kx vx : Expr} {gs : List Comprehension} {scope : Scope} {pos py : Pos} {y : Str} {l : Nat} {env : Env} (hk : env.scope.kind = .function) (hy : env.scope.names.lookup y = some .local) (hl : (py.line == pos.line) = true)
    (ha : (scope.names.any fun (n, k) => n == y && (k == .local || k == .cell)) = false) : swapsWith (.DictComp kx vx gs scope pos) (some (.Name y py)) l env = pure true := by
  have ky : env.kindOf y = some .local := hy
  have hb : env.blockKind = .function := by unfold Env.blockKind; rw [hk]; rfl
  unfold swapsWith
  simp only [hb, ky, ha, Expr.pos, hl]
  rfl
end
end L2
namespace Sm
open PySem PySem.Spec PyProof.Rows L2 RZ Dz
/-! ### dicts of one's own -/
def keyO : PyData → Option Key
  | .int i => some (.inl i)
  | .str x => some (.inr x)
  | _ => none
theorem keyO_some {d : PyData} {k : Key} (h : keyO d = some k) : d = keyD k := by
  unfold keyO at h
  split at h
  · cases h; rfl
  · cases h; rfl
  · cases h
def dcV (l : Lo) (g : Sg) (i : Nat) : Option (List (Key × PyData)) := match l[i]? with
  | some (.dct kvs) => some kvs
  | some (.ref j) => (match g[j]? with
    | some (.dct kvs) => some kvs
    | _ => none)
  | _ => none
def ptD (l : Lo) (g : Sg) (i : Nat) (kvs : List (Key × PyData)) : Lo × Sg := match l[i]? with
  | some (.dct _) => (l.set i (.dct kvs), g)
  | some (.ref j) => (l, g.set j (.dct kvs))
  | _ => (l, g)
section
variable {K : Kx} {l : Lo} {g : Sg} {s : L2.St} {H S : Hp} {r : List Addr} {A : List (Option Addr)} {i : Nat} {kvs : List (Key × PyData)}
theorem rd_dc (h : StOk K l g s H S r A) (e : dcV l g i = some kvs) : ∃ a ws, s[i]? = some (some (.ref a)) ∧ H a = some (.dK ws) ∧ KvD K S ws kvs ∧
    ∀ ys es, KvD K S ys es → StOk K (ptD l g i es).1 (ptD l g i es).2 s (upd H a (.dK ys)) S r A ∧ Mv K S H r A S (upd H a (.dK ys)) r A := by
  unfold dcV at e
  split at e
  · rename_i ds' hl
    cases e
    obtain ⟨o, v, e1, e2, a, rfl, rfl, e3, xs, e4, e5⟩ := h.ok i _ hl
    refine ⟨a, xs, e2, e4, e5, fun ys es hd => ?_⟩
    have : ptD l g i es = (l.set i (.dct es), g) := by unfold ptD; rw [hl]
    rw [this]
    exact h.putO hl e1 e2 ⟨a, rfl, rfl, e3, ys, upd_same, hd⟩
  · rename_i j hl
    obtain ⟨o, v, e1, e2, e3, a, e4, rfl⟩ := h.ok i _ hl
    split at e
    · rename_i ds' hj
      cases e
      obtain ⟨_, xs, q1, q2⟩ := h.st j a _ e4 hj
      refine ⟨a, xs, e2, q1, q2, fun ys es hd => ?_⟩
      have : ptD l g i es = (l, g.set j (.dct es)) := by unfold ptD; rw [hl]
      rw [this]
      exact h.putR e4 ⟨ys, upd_same, hd⟩
    · cases e
  · cases e
end
def eDget (i : Nat) (b : M PyData) : M PyData := mb (mg fun l g => dcV l g i) fun _ => mb b fun y => mg fun l g => (dcV l g i).bind fun kvs => (keyO y).bind fun k => valG kvs k
def bTruD (i : Nat) : M Bool := mg fun l g => (dcV l g i).map fun kvs => !kvs.isEmpty
def lKeys (i : Nat) : M (List PyData) := mg fun l g => (dcV l g i).map fun kvs => kvs.map fun kv => keyD kv.1
def lDnew : M (List (Key × PyData)) := mp []
def xDput (i : Nat) (b a : M PyData) : X := mb a fun x => mb (mg fun l g => dcV l g i) fun _ => mb b fun y => fun l g => match dcV l g i, keyO y with
  | some kvs, some k => if kvs.length < 4000000 then some (.nx, (ptD l g i (putG kvs k x)).1, (ptD l g i (putG kvs k x)).2) else none
  | _, _ => none
def xDpop (i : Nat) (b : M PyData) : X := mb (mg fun l g => dcV l g i) fun _ => mb b fun y => fun l g => match dcV l g i, keyO y with
  | some kvs, some k => if (valG kvs k).isSome = true then some (.nx, (ptD l g i (dropG kvs k)).1, (ptD l g i (dropG kvs k)).2) else none
  | _, _ => none
section
variable {K : Kx} {ta tb tc : TE} {a b c : M PyData} {i : Nat}
theorem s_dget (hb : EvS K tb b) : EvS K (tDGet (tVar i) tb) (eDget i b) := fun l g d l' g' s H S r A e h Q q => by
  replace e := mb_some e; obtain ⟨y0, l0, g0, e0, e⟩ := e
  replace e0 := mg_some e0; obtain ⟨e0, rfl, rfl⟩ := e0
  replace e := mb_some e; obtain ⟨y, l1, g1, e1, e⟩ := e
  replace e := mg_some e; obtain ⟨e, rfl, rfl⟩ := e
  replace e := Option.bind_eq_some_iff.mp e; obtain ⟨kvs, e2, e⟩ := e
  replace e := Option.bind_eq_some_iff.mp e; obtain ⟨k, e3, e⟩ := e
  cases keyO_some e3
  obtain ⟨a, ws, q1, _⟩ := rd_dc h e0
  refine ⟨_, q1, hb _ _ _ _ _ s H S r A e1 h _ fun v1 H1 S1 r1 A1 m1 h1 d1 => ?_⟩
  obtain ⟨a', ws, q2, q3, q4, _⟩ := rd_dc h1 e2
  rw [q1] at q2
  cases q2
  obtain ⟨v, hv, hd⟩ := q4.val.1 d e
  exact ⟨a, v, rfl, .inl ⟨ws, k, .inl q3, key_dp d1, hv.symm⟩, q v H1 S1 r1 A1 m1 h1 hd⟩
theorem s_truD : EvT K (fun σ H Q => tVar i σ H fun x H' => ∃ k, TruV K x H' k ∧ Q k H') (bTruD i) := fun l g d l' g' s H S r A e h Q q => by
  replace e := mg_some e; obtain ⟨e, rfl, rfl⟩ := e
  obtain ⟨kvs, e2, rfl⟩ := Option.map_eq_some_iff.mp e
  obtain ⟨a, ws, q1, q2, q3, _⟩ := rd_dc h e2
  refine ⟨_, q1, !kvs.isEmpty, .inr (.inr ⟨ws, q2, ?_⟩), q H S r A (Mv.refl h.hs) h⟩
  have := q3.len
  cases ws <;> cases kvs <;> simp at this ⊢
theorem s_keys : EvL K (tCB rListD (tCons (tVar i) tNil)) (lKeys i) := fun l g d l' g' s H S r A e h Q q => by
  replace e := mg_some e; obtain ⟨e, rfl, rfl⟩ := e
  obtain ⟨kvs, e2, rfl⟩ := Option.map_eq_some_iff.mp e
  obtain ⟨a, ws, q1, q2, q3, _⟩ := rd_dc h e2
  exact ⟨_, q1, a, ws, rfl, q2, new_l (Mv.refl h.hs) h q3.keys q⟩
theorem s_dnew : EvC K tDNewK lDnew := fun l g d l' g' s H S r A e h Q q => by
  obtain ⟨rfl, rfl, rfl⟩ := mp_some e
  intro p hp
  have gr : Grow m0 S H S (upd H p (.dK [])) := Grow.out h.hs hp
  exact q p [] _ S r A (Mv.grow gr) (h.grow gr) hp (fun z => (h.there (tr_upd z)).1 hp) (h.hs.free hp) upd_same .nil
theorem x_dput (hb : EvS K tb b) (ha : EvS K ta a) : ExS K (sDPut (tVar i) tb ta) (xDput i b a) := fun l g o l' g' s H S r A e h D q => by
  replace e := mb_some e; obtain ⟨x, l1, g1, e1, e⟩ := e
  replace e := mb_some e; obtain ⟨y0, l2, g2, e2, e⟩ := e
  replace e2 := mg_some e2; obtain ⟨e2, rfl, rfl⟩ := e2
  replace e := mb_some e; obtain ⟨y, l3, g3, e3, e⟩ := e
  split at e
  · rename_i kvs k e4 e5
    split at e
    · rename_i hz
      cases e
      cases keyO_some e5
      refine ha _ _ _ _ _ s H S r A e1 h _ fun v1 H1 S1 r1 A1 m1 h1 d1 => ?_
      obtain ⟨ad, ws, q1, _⟩ := rd_dc h1 e2
      refine ⟨_, q1, hb _ _ _ _ _ s H1 S1 r1 A1 e3 h1 _ fun v2 H2 S2 r2 A2 m2 h2 d2 => ?_⟩
      obtain ⟨ad', ws, q2, q3, q4, q5⟩ := rd_dc h2 e4
      rw [q1] at q2
      cases q2
      obtain ⟨h3, m3⟩ := q5 _ _ (q4.put (k := k) (Dp_mono d1 m2.s))
      exact ⟨ad, _, rfl, .inl ⟨ws, k, q3, key_dp d2, szt (by rw [q4.len]; exact hz), rfl⟩, q s _ S2 r2 A2 ((m1.trans m2).trans m3) h3⟩
    · cases e
  · cases e
theorem x_dpop (hb : EvS K tb b) : ExS K (tDrop (tDPop1 (tVar i) tb)) (xDpop i b) := fun l g o l' g' s H S r A e h D q => by
  replace e := mb_some e; obtain ⟨y0, l2, g2, e2, e⟩ := e
  replace e2 := mg_some e2; obtain ⟨e2, rfl, rfl⟩ := e2
  replace e := mb_some e; obtain ⟨y, l3, g3, e3, e⟩ := e
  split at e
  · rename_i kvs k e4 e5
    split at e
    · rename_i hk
      cases e
      cases keyO_some e5
      obtain ⟨ad, ws, q1, q1', _⟩ := rd_dc h e2
      refine ⟨_, q1, ad, rfl, .inl ⟨ws, .inl q1'⟩, hb _ _ _ _ _ s H S r A e3 h _ fun v2 H2 S2 r2 A2 m2 h2 d2 => ?_⟩
      obtain ⟨ad', ws, q2, q3, q4, q5⟩ := rd_dc h2 e4
      rw [q1] at q2
      cases q2
      obtain ⟨x, hx⟩ := Option.isSome_iff_exists.mp hk
      obtain ⟨v, hv, _⟩ := q4.val.1 x hx
      obtain ⟨h3, m3⟩ := q5 _ _ (q4.drop (k := k))
      exact ⟨ws, k, v, q3, key_dp d2, hv, q s _ S2 r2 A2 (m2.trans m3) h3⟩
    · cases e
  · cases e
end
/-! ### a comprehension over d.items(), the dict being frozen for that time -/
def pairD (kv : Key × PyData) : PyData := .tuple [keyD kv.1, kv.2]
def xItems (i j : Nat) (vs : List Nat) (tg : G) (t : M Bool) (e : M PyData) : X := fun l g => match l[i]? with
  | some (.dct kvs) => if (plainAt vs (l.set i .no) && decide (kvs.length ≤ 4000000)) = true then (match lcL vs tg t e (kvs.map pairD) (l.set i .no) g with
    | some (ys, l1, g1) => (match l1[i]? with
      | some .no => if j < l1.length then some (.nx, (l1.set i (.dct kvs)).set j (.dat (.list ys)), g1) else none
      | _ => none)
    | none => none) else none
  | _ => none
section
variable {K : Kx} {l : Lo} {g : Sg} {s : L2.St} {H S : Hp} {r : List Addr} {A : List (Option Addr)} {i : Nat}
/-- a slot is forgotten -/
theorem StOk.drop (h : StOk K l g s H S r A) : StOk K (l.set i .no) g s H S r (A.set i none) :=
  ⟨h.hs, by rw [List.length_set, List.length_set]; exact h.la, by rw [List.length_set]; exact h.ls, fun j z e => by
    by_cases hij : i = j
    · subst hij
      have hl : i < l.length := by
        have := (List.getElem?_eq_some_iff.mp e).1
        rwa [List.length_set] at this
      rw [List.getElem?_set_self hl] at e
      cases e
      obtain ⟨o, v, e1, e2, e3⟩ := h.ok i _ (List.getElem?_eq_getElem hl)
      exact ⟨none, v, List.getElem?_set_self (by rw [h.la]; exact hl), e2, rfl⟩
    · rw [List.getElem?_set_ne hij] at e ⊢
      exact h.ok j z e, fun j k a e1 e2 => by
    have key : ∀ m : Nat, (A.set i none)[m]? = some (some a) → A[m]? = some (some a) := fun m e => by
      by_cases him : i = m
      · subst him
        have hl : i < A.length := by
          have := (List.getElem?_eq_some_iff.mp e).1
          rwa [List.length_set] at this
        rw [List.getElem?_set_self hl] at e
        cases e
      · rw [List.getElem?_set_ne him] at e
        exact e
    exact h.ij j k a (key j e1) (key k e2), fun a ha => by
    rcases List.mem_or_eq_of_mem_set ha with q | q
    · exact h.dr a q
    · exact absurd q (by simp), h.rn, h.lg, h.st, h.tb⟩
theorem kn_del {o : Addr} {od : Obj} {ws : List (Key × V)} {xs : List (NestedKey × Addr × Value)} {kvs : List (NestedKey × PyData)} (h : S o = some (.frz od (.dK ws))) (q : KnD K S xs kvs) : KnD K (del S o) xs kvs := Paired.mapP q fun _ _ z => ⟨z.1, ⟨z.2.1.1, dp_del h _ _ z.2.1.2⟩, let ⟨v, r, d⟩ := z.2.2; ⟨v, r, dp_del h _ _ d⟩⟩
theorem fv_del {o : Addr} {od : Obj} {ws : List (Key × V)} {x : Fv} {v : V} (h : S o = some (.frz od (.dK ws))) (q : FvOk K S r x v) : FvOk K (del S o) r x v := by
  cases x with
  | dat d => exact dp_del h _ _ q
  | ref j => exact q
theorem SOk.del {o : Addr} {od : Obj} {ws : List (Key × V)} {x : Vl} {oa : Option Addr} {w : Option V} {H' : Hp} (hS : S o = some (.frz od (.dK ws))) (na : ∀ a, oa = some a → a ≠ o) (hk : ∀ a u, a ≠ o → H a = some u → H' a = some u) (q : SOk K S H r x oa w) : SOk K (del S o) H' r x oa w := by
  cases x with
  | no => exact q
  | dat d => obtain ⟨e1, v, e2, e3⟩ := q; exact ⟨e1, v, e2, dp_del hS _ _ e3⟩
  | own ds => obtain ⟨a, e1, e2, e3, xs, e4, e5⟩ := q; exact ⟨a, e1, e2, by rw [del_ne (na a e1)]; exact e3, xs, hk _ _ (na a e1) e4, dpAll_del hS _ _ e5⟩
  | dct ds => obtain ⟨a, e1, e2, e3, xs, e4, e5⟩ := q; exact ⟨a, e1, e2, by rw [del_ne (na a e1)]; exact e3, xs, hk _ _ (na a e1) e4, kv_del hS e5⟩
  | dnk ds => obtain ⟨a, e1, e2, e3, xs, e4, e5⟩ := q; exact ⟨a, e1, e2, by rw [del_ne (na a e1)]; exact e3, xs, hk _ _ (na a e1) e4, kn_del hS e5⟩
  | ref j => exact q
  | fn F =>
    obtain ⟨e1, v, e2, f, c, P, q', φ, e3, e4, e5, e6⟩ := q
    have nf : ∀ b φ, S b = some (.ext φ) → b ≠ o := fun b φ e z => by rw [z, hS] at e; cases e
    exact ⟨e1, v, e2, f, c, P, q', φ, e3, by rw [del_ne (nf _ _ e4)]; exact e4, by rw [del_ne (nf c _ e5)]; exact e5, e6⟩
  | xt ds =>
    obtain ⟨e1, v, e2, a, o', xs, e3, e4, e5, e6, e7⟩ := q
    have na : a ≠ o := fun z => by rw [z, hS] at e4; cases e4
    exact ⟨e1, v, e2, a, o', xs, e3, by rw [del_ne na]; exact e4, e5, e6, dpAll_del hS _ _ e7⟩
/-- a frozen dict that nobody knows is thawed -/
theorem StOk.thaw {o : Addr} {od : Obj} {ws : List (Key × V)} (h : StOk K l g s H S r A) (hS : S o = some (.frz od (.dK ws))) : StOk K l g s (upd H o (.dK ws)) (del S o) r A := by
  have nt : ∀ a, tr S H A r a → a ≠ o := fun a ha z => by
    have := (h.there ha).2
    rw [z, hS] at this
    cases this
  have hk : ∀ a u, a ≠ o → H a = some u → upd H o (.dK ws) a = some u := fun a u ha hu => by rw [upd_ne ha]; exact hu
  refine ⟨fun a u hu => ?_, h.la, h.ls, fun j z e => ?_, h.ij, h.dr, h.rn, h.lg, fun j a ob e1 e2 => ?_, fun p hp => ?_, fun c q P hc => ?_⟩
  · have ha : a ≠ o := fun z => by rw [z, del_same] at hu; cases hu
    rw [del_ne ha] at hu
    exact hk a u ha (h.hs a u hu)
  · obtain ⟨oa, v, e1, e2, e3⟩ := h.ok j z e
    exact ⟨oa, v, e1, e2, e3.del hS (fun a ea => nt a (.inl (by rw [← ea]; exact List.mem_of_getElem? e1))) hk⟩
  · have ha := nt a (.inr (.inl (List.mem_of_getElem? e1)))
    obtain ⟨q1, q2⟩ := h.st j a ob e1 e2
    refine ⟨by rw [del_ne ha]; exact q1, ?_⟩
    cases ob with
    | lst ds => obtain ⟨xs, p1, p2⟩ := q2; exact ⟨xs, hk _ _ ha p1, dpAll_del hS _ _ p2⟩
    | dct ds => obtain ⟨xs, p1, p2⟩ := q2; exact ⟨xs, hk _ _ ha p1, kv_del hS p2⟩
    | dnk ds => obtain ⟨xs, p1, p2⟩ := q2; exact ⟨xs, hk _ _ ha p1, kn_del hS p2⟩
    | ins C fs =>
      obtain ⟨cls, dx, vs, p0, p1, p2, p3⟩ := q2
      have hdx : dx ≠ o := fun z => by rw [z, h.hs _ _ hS] at p2; cases p2
      exact ⟨cls, dx, vs, p0, hk _ _ ha p1, hk _ _ hdx p2, Paired.mapP p3 fun _ _ q => ⟨q.1, fv_del hS q.2⟩⟩
  · obtain ⟨p1, ps, p2, p3, p4⟩ := h.tb.st p hp
    have ha : p.1 ≠ o := fun z => by rw [z, h.hs _ _ hS] at p2; cases p2
    refine ⟨by rw [del_ne ha]; exact p1, ps, hk _ _ ha p2, p3, fun pos cv hc => ?_⟩
    obtain ⟨c, P, c1, c2⟩ := p4 pos cv hc
    exact ⟨c, P, c1, by rw [del_ne fun z => by rw [z, hS] at c2; cases c2]; exact c2⟩
  · have hco : c ≠ o := fun z => by rw [z, del_same] at hc; cases hc
    rw [del_ne hco] at hc
    obtain ⟨n1, n2, n3, n4, ps, n5, n6, n7⟩ := h.tb.ne c q P hc
    have hP : P ≠ o := fun z => by rw [z, h.hs _ _ hS] at n5; cases n5
    refine ⟨n1, n2, n3, by rw [del_ne hP]; exact n4, ps, hk _ _ hP n5, n6, fun pos cv hcv => ?_⟩
    obtain ⟨c2, q1, oc, q2, q3⟩ := n7 pos cv hcv
    exact ⟨c2, q1, oc, by rw [del_ne fun z => by rw [z, hS] at q2; cases q2]; exact q2, q3⟩
end
section
variable {K : Kx} {tt : TT} {te : TE} {t : M Bool} {e0 : M PyData} {tg : TG} {gg : G} {vs : List Nat} {i j : Nat}
/-- x = [e for k, v in d.items() if c] -/
theorem x_items (hij : i ≠ j) (hg : GIn tg vs) (hm : ∀ v s H (Q Q' : L2.St → Hp → Prop), (∀ s' H', Q s' H' → Q' s' H') → tg v s H Q → tg v s H Q') (hb : BdS K tg gg) (ht : EvT K tt t) (he : EvS K te e0) : ExS K (tLock (tAsg (tLc (iItems (tVar i)) tg tt te vs) (gName j))) (xItems i j vs gg t e0) := fun l g o l' g' s H S r A e h D q => by
  unfold xItems at e
  split at e
  case h_2 => cases e
  rename_i kvs hi
  split at e
  case isFalse => cases e
  rename_i hz
  rw [Bool.and_eq_true, decide_eq_true_eq] at hz
  split at e
  case h_2 => cases e
  rename_i ys l1 g1 e1
  split at e
  case h_2 => cases e
  rename_i hno
  split at e
  case isFalse => cases e
  rename_i hjl
  cases e
  obtain ⟨oo, v, a1, a2, a, rfl, rfl, hS, ws, hw, hkv⟩ := h.ok i _ hi
  have hil : i < l.length := (List.getElem?_eq_some_iff.mp hi).1
  have haA : some a ∈ A := List.mem_of_getElem? a1
  have ntr : ¬ tr S H (A.set i none) r a := fun z => by
    rcases z with z | z
    · obtain ⟨m, hmm⟩ := List.mem_iff_getElem?.mp z
      by_cases him : i = m
      · subst him
        have hl : i < A.length := by
          have := (List.getElem?_eq_some_iff.mp hmm).1
          rwa [List.length_set] at this
        rw [List.getElem?_set_self hl] at hmm
        cases hmm
      · rw [List.getElem?_set_ne him] at hmm
        exact him (h.ij i m a a1 hmm)
    · exact z.elim (h.dr a haA) (h.apartA haA)
  refine ⟨a, .dK ws, hw, trivial, fun od => ?_⟩
  have hSS : Same S (upd S a (.frz od (.dK ws))) := same_up hS
  have h0 := h.drop (i := i)
  have h1 : StOk K (l.set i .no) g s (upd H a (.frz od (.dK ws))) (upd S a (.frz od (.dK ws))) r (A.set i none) := by
    refine h0.move hSS (same_upup h.hs) (fun b hb => ?_) ⟨[], by simp⟩ h0.rn h0.dr h0.lg (fun m b ob e1 e2 => ?_) (h0.tb.go hSS (fun b hb => ?_) fun b u hb hu => ?_)
    · have hba : b ≠ a := fun z => ntr (.inl (z ▸ hb))
      exact ⟨by rw [upd_ne hba]; exact (h0.thereA hb).2, fun u hu => by rw [upd_ne hba]; exact hu⟩
    · have hba : b ≠ a := fun z => ntr (.inr (.inl (z ▸ List.mem_of_getElem? e1)))
      obtain ⟨p1, p2⟩ := h0.st m b ob e1 e2
      exact ⟨by rw [upd_ne hba]; exact p1, p2.go hSS (.upd hba hw (fun _ z => nomatch z)) ⟨[], by simp⟩⟩
    · have hba : b ≠ a := fun z => ntr (.inr (.inr (z ▸ hb)))
      rw [upd_ne hba]; exact (h0.tb.there hb).2
    · have hba : b ≠ a := fun z => ntr (.inr (.inr (z ▸ hb)))
      rw [upd_ne hba]; exact hu
  refine lc_run (S := upd S a (.frz od (.dK ws))) (r := r) (A := A.set i none) (ds := kvs.map pairD) (fun R k => ⟨_, a2, a, od, ws, rfl, upd_same, k _ _ _ _ _ (Mv.refl h1.hs) h1 (walkItems upd_same (hkv.mono hSS))⟩) hg hm hb ht he hz.1 (by rw [List.length_map]; exact hz.2) e1 _ fun p xs H2 S2 r2 A2 m2 h2 hp ht2 sp hx hd => ?_
  have ho2 : H2 a = some (.frz od (.dK ws)) := m2.k a _ (fun z => ntr (tr_upup z)) upd_same
  have so2 : S2 a = some (.frz od (.dK ws)) := m2.s a _ upd_same
  refine ⟨ho2, ?_⟩
  have hpa : p ≠ a := fun z => by rw [z, upd_same] at hp; cases hp
  have hpH : H p = none := by rw [upd_ne hpa] at hp; exact hp
  have nt2 : ¬ tr S2 H2 A2 r2 a := fun z => by
    have := (h2.there z).2
    rw [so2] at this
    cases this
  have h3 := h2.thaw so2
  have kv3 : KvD K (del S2 a) ws kvs := kv_del so2 ((hkv.mono hSS).mono m2.s)
  have hsi : s.set i (some (V.ref a)) = s := by
    apply List.ext_getElem?
    intro m
    by_cases him : i = m
    · subst him
      rw [List.getElem?_set_self (by rw [h.ls]; exact hil), a2]
    · rw [List.getElem?_set_ne him]
  have h4 := h3.fresh (i := i) (y := .dct kvs) (p := a) (fun z => nt2 (.inl z)) (fun z => nt2 (.inr (.inl z))) ⟨a, rfl, rfl, del_same, ws, upd_same, kv3⟩
  rw [hsi] at h4
  have h5 := h4.freshL (i := j) (p := p) (xs := xs) (ds := ys) (fun z => by
    rcases List.mem_or_eq_of_mem_set z with z | z
    · exact ht2 (.inl z)
    · cases z; exact hpa rfl) (fun z => ht2 (.inr (.inl z))) (by rw [del_ne hpa]; exact sp) (by rw [upd_ne hpa]; exact hx) (dpAll_del so2 _ _ hd)
  have m5 : Mv K S H r A (del S2 a) (upd H2 a (.dK ws)) r2 ((A2.set i (some a)).set j (some p)) := by
    have sS : Same S (del S2 a) := fun b u hu => by
      have hba : b ≠ a := fun z => by rw [z, hS] at hu; cases hu
      rw [del_ne hba]
      exact m2.s b u (by rw [upd_ne hba]; exact hu)
    have tN : ∀ b, isTab S H b → b ≠ a := fun b ⟨_, ps, e⟩ z => by rw [z, hw] at e; cases e
    refine ⟨sS, h3.hs, fun b hb1 hb2 hb3 => ?_, fun b u hb1 hb2 => ?_, fun b hb => ?_, m2.p, fun b hb => ?_, fun b hb => ?_⟩
    · have hba : b ≠ a := fun z => hb3 (.inl (z ▸ haA))
      rw [del_ne hba]
      exact m2.n b (by rw [upd_ne hba]; exact hb1) (by rw [upd_ne hba]; exact hb2) fun z => hb3 (trset (tr_upup z))
    · have hba : b ≠ a := fun z => hb1 (.inl (z ▸ haA))
      rw [upd_ne hba]
      exact m2.k b u (fun z => hb1 (trset (tr_upup z))) (by rw [upd_ne hba]; exact hb2)
    · by_cases hba : b = a
      · rw [hba, upd_same]; exact fun z => nomatch z
      · rw [upd_ne hba]
        exact m2.d b (by rw [upd_ne hba]; exact hb)
    · have key : tr S2 H2 A2 r2 b → tr S H A r b ∨ H b = none := fun z => by
        rcases m2.f b z with z | z
        · exact .inl (trset (tr_upup z))
        · by_cases hba : b = a
          · rw [hba, upd_same] at z; cases z
          · rw [upd_ne hba] at z; exact .inr z
      rcases hb with hb | hb
      · rcases List.mem_or_eq_of_mem_set hb with hb | hb
        · rcases List.mem_or_eq_of_mem_set hb with hb | hb
          · exact key (.inl hb)
          · cases hb; exact .inl (.inl haA)
        · cases hb; exact .inr hpH
      · refine key (.inr (hb.imp id fun ⟨e1, ps, e2⟩ => ?_))
        have hba : b ≠ a := fun z => by rw [z, upd_same] at e2; cases e2
        rw [del_ne hba] at e1
        rw [upd_ne hba] at e2
        exact ⟨e1, ps, e2⟩
    · have hba := tN b hb
      obtain ⟨e1, ps, e2⟩ := m2.t b (tab_upup hba hb)
      exact ⟨by rw [del_ne hba]; exact e1, ps, by rw [upd_ne hba]; exact e2⟩
  obtain ⟨S6, h6, m6⟩ := h5.freeze (i := j) (ds := ys) (by
    rw [List.getElem?_set_self (by rw [List.length_set]; exact hjl)])
  rw [List.set_set] at h6
  exact q _ _ S6 _ _ (m5.trans m6) h6
end
/-! ### dict comprehensions -/
def lcD (vs : List Nat) (tg : G) (t : M Bool) (k e : M PyData) : List PyData → List (Key × PyData) → M (List (Key × PyData))
  | [], acc => mp acc
  | d :: ds, acc => fun l g => match tg d (wipeV l vs) with
    | none => none
    | some l1 => match t l1 g with
      | none => none
      | some (true, l2, g2) => (match k l2 g2 with
        | none => none
        | some (y, l3, g3) => (match e l3 g3 with
          | none => none
          | some (z, l4, g4) => (match keyO y with
            | none => none
            | some kk => lcD vs tg t k e ds (putG acc kk z) (backV l l4 vs) g4)))
      | some (false, l2, g2) => lcD vs tg t k e ds acc (backV l l2 vs) g2
def lDc (vs : List Nat) (it : M (List PyData)) (tg : G) (t : M Bool) (k e : M PyData) : M (List (Key × PyData)) := mb it fun ds => fun l g => if (plainAt vs l && decide (ds.length ≤ 4000000)) = true then lcD vs tg t k e ds [] l g else none
theorem lcD_step {vs : List Nat} {tg : G} {t : M Bool} {k e : M PyData} {d : PyData} {ds : List PyData} {acc ys : List (Key × PyData)} {l l' : Lo} {g g' : Sg} (h : lcD vs tg t k e (d :: ds) acc l g = some (ys, l', g')) :
    ∃ l1 b l2 g2, tg d (wipeV l vs) = some l1 ∧ t l1 g = some (b, l2, g2) ∧ ((b = true ∧ ∃ y l3 g3 z l4 g4 kk, k l2 g2 = some (y, l3, g3) ∧ e l3 g3 = some (z, l4, g4) ∧ keyO y = some kk ∧ lcD vs tg t k e ds (putG acc kk z) (backV l l4 vs) g4 = some (ys, l', g')) ∨ (b = false ∧ lcD vs tg t k e ds acc (backV l l2 vs) g2 = some (ys, l', g'))) := by
  unfold lcD at h
  split at h
  · cases h
  · rename_i l1 e1
    split at h
    · cases h
    · rename_i l2 g2 e2
      split at h
      · cases h
      · rename_i y l3 g3 e3
        split at h
        · cases h
        · rename_i z l4 g4 e4
          split at h
          · cases h
          · rename_i kk e5
            exact ⟨l1, true, l2, g2, e1, e2, .inl ⟨rfl, y, l3, g3, z, l4, g4, kk, e3, e4, e5, h⟩⟩
    · rename_i l2 g2 e2
      exact ⟨l1, false, l2, g2, e1, e2, .inr ⟨rfl, h⟩⟩
theorem putG_len {kvs : List (Key × PyData)} {k : Key} {v : PyData} : (putG kvs k v).length ≤ kvs.length + 1 := by
  unfold putG
  split
  · rw [List.length_map]; omega
  · rw [List.length_append]; simp
section
variable {K : Kx} {tt : TT} {tk te : TE} {t : M Bool} {k0 e0 : M PyData} {wi : TI} {it : M (List PyData)} {tg : TG} {gg : G} {vs : List Nat}
theorem s_dc (hi : EvI K wi it) (hg : GIn tg vs) (hm : ∀ v s H (Q Q' : L2.St → Hp → Prop), (∀ s' H', Q s' H' → Q' s' H') → tg v s H Q → tg v s H Q') (hb : BdS K tg gg) (ht : EvT K tt t) (hk : EvS K tk k0) (he : EvS K te e0) : EvC K (tDc wi tg tt tk te vs) (lDc vs it gg t k0 e0) := fun l g d l' g' s H S r A e h Q q => by
  replace e := mb_some e; obtain ⟨ds, l1, g1, e1, e⟩ := e
  split at e
  case isFalse => cases e
  rename_i hz
  rw [Bool.and_eq_true, decide_eq_true_eq] at hz
  obtain ⟨hpl, hz⟩ := hz
  refine hi _ _ _ _ _ s H S r A e1 h _ fun J H1 S1 r1 A1 m1 h1 w => ?_
  intro D hD
  have hDH : H D = none := by
    cases hq : H D with
    | none => rfl
    | some u => exact absurd hD (m1.d D (some_ne hq))
  have gD : Grow m0 S1 H1 S1 (upd H1 D (.dK [])) := Grow.out h1.hs hD
  have hDt : ¬ tr S1 H1 A1 r1 D := fun z => (h1.there z).1 hD
  refine ⟨fun i m H2 => m = ds.length - i ∧ i ≤ ds.length ∧ ∃ li gi Si ri Ai acc ac, StOk K li gi s H2 Si ri Ai ∧ Mv K S1 H1 r1 A1 Si H2 ri Ai ∧ ¬ tr Si H2 Ai ri D ∧ Si D = none ∧ H2 D = some (.dK acc) ∧ KvD K Si acc ac ∧ ac.length ≤ i ∧ plainAt vs li = true ∧ lcD vs gg t k0 e0 (ds.drop i) ac li gi = some (d, l', g'),
    ⟨ds.length, by simp, Nat.zero_le _, l1, g1, S1, r1, A1, [], [], h1.grow gD, Mv.grow gD, fun z => hDt (tr_upd z), h1.hs.free hD, upd_same, .nil, Nat.le_refl _, hpl, e⟩, ?_⟩
  rintro i m H2 ⟨rfl, hle, li, gi, Si, ri, Ai, acc, ac, hst, mi, hDi, sDi, hacc, hdacc, hal, hpi, hrun⟩
  by_cases hlt : i < ds.length
  · have mw := m1.trans mi
    refine .inr ⟨w.go i H2 hlt (mi.s.trans hst.hs), fun H3 => i + 1 ≤ ds.length ∧ ∃ li gi Si ri Ai acc ac, StOk K li gi s H3 Si ri Ai ∧ Mv K S1 H1 r1 A1 Si H3 ri Ai ∧ ¬ tr Si H3 Ai ri D ∧ Si D = none ∧ H3 D = some (.dK acc) ∧ KvD K Si acc ac ∧ ac.length ≤ i + 1 ∧ plainAt vs li = true ∧ lcD vs gg t k0 e0 (ds.drop (i + 1)) ac li gi = some (d, l', g'), fun H3 ⟨q1, q2⟩ => ⟨ds.length - (i + 1), by omega, rfl, q1, q2⟩, fun x H3 y => ?_⟩
    have hdi : ds[i]? = some ds[i] := List.getElem?_eq_getElem hlt
    obtain ⟨S3, g3, d3⟩ := w.yld i H2 x H3 ds[i] Si hdi mi.s hst.hs y
    have h3 := hst.grow g3
    have hdrop : ds.drop i = ds[i] :: ds.drop (i + 1) := List.drop_eq_getElem_cons hlt
    rw [hdrop] at hrun
    obtain ⟨lb, b, l2, g2, k1, k2, k3⟩ := lcD_step hrun
    have sD3 : S3 D = none := g3.n D sDi (some_ne hacc)
    have hD3 : H3 D = some (.dK acc) := g3.all D _ hacc
    have bnd := hb _ _ _ _ _ _ _ _ _ x (fun s4 H4 => ∃ S4 A4, Mv K S3 H3 ri (cutA Ai vs) S4 H4 ri A4 ∧ StOk K lb gi s4 H4 S4 ri A4) k1 (h3.wipe (vs := vs)) d3 fun s4 H4 S4 A4 m4 h4 => ⟨S4, A4, m4, h4⟩
    refine hm _ _ _ _ _ ?_ (hg x (wipe s vs) H3 _ bnd)
    rintro s4 H4 ⟨hw, S4, A4, m4, h4⟩
    have hw' : wipe s4 vs = wipe s vs := by
      rw [hw]
      apply List.ext_getElem?
      intro j
      rw [wipe_get, wipe_get, wipe_length]
      by_cases hj : j ∈ vs
      · rw [if_pos hj, if_pos hj]
      · rw [if_neg hj, if_neg hj]
    refine ⟨hw', ?_⟩
    have hDc : ¬ tr S3 H3 (cutA Ai vs) ri D := fun z => (tr_back (trcut z) g3.s fun o e => .inr (g3.all _ o e)).elim hDi (some_ne hacc)
    have sD4 : S4 D = none := m4.n D sD3 (some_ne hD3) hDc
    have hD4 : H4 D = some (.dK acc) := m4.k D _ hDc hD3
    have hD4t : ¬ tr S4 H4 A4 ri D := fun z => (m4.f D z).elim hDc (some_ne hD3)
    have mc : Mv K Si H2 ri Ai S4 H4 ri A4 := by
      have := (Mv.grow (r := ri) (A := Ai) g3).trans (Mv.trans (A1 := cutA Ai vs) (A2 := A4) (r1 := ri) (r2 := ri) ⟨Same.refl S3, h3.hs, fun _ e _ _ => e, fun _ _ _ e => e, fun _ e => e, ⟨[], by simp⟩, fun a z => .inl (trcut z), tKeep⟩ m4)
      exact this
    have hlen4 : lb.length = li.length := by
      have e1 := h4.ls
      have e2 := hst.ls
      have e3 := congrArg List.length hw'
      rw [wipe_length, wipe_length] at e3
      omega
    refine ht _ _ _ _ _ s4 H4 S4 ri A4 k2 h4 _ fun H5 S5 r5 A5 m5 h5 => ?_
    have sD5 : S5 D = none := m5.n D sD4 (some_ne hD4) hD4t
    have hD5 : H5 D = some (.dK acc) := m5.k D _ hD4t hD4
    have hD5t : ¬ tr S5 H5 A5 r5 D := fun z => (m5.f D z).elim hD4t (some_ne hD4)
    have hlen5 : l2.length = li.length := by
      have e1 := h5.ls
      have e2 := h4.ls
      omega
    rcases k3 with ⟨rfl, y2, l3, g3', z2, l4, g4', kk, k4, k5, k6, k7⟩ | ⟨rfl, k4⟩
    · rw [if_pos rfl]
      cases keyO_some k6
      refine hk _ _ _ _ _ s4 H5 S5 r5 A5 k4 h5 _ fun v55 H55 S55 r55 A55 m55 h55 d55 => ?_
      have sD55 : S55 D = none := m55.n D sD5 (some_ne hD5) hD5t
      have hD55 : H55 D = some (.dK acc) := m55.k D _ hD5t hD5
      have hD55t : ¬ tr S55 H55 A55 r55 D := fun z => (m55.f D z).elim hD5t (some_ne hD5)
      refine he _ _ _ _ _ s4 H55 S55 r55 A55 k5 h55 _ fun v6 H6 S6 r6 A6 m6 h6 d6 => ?_
      have sD6 : S6 D = none := m6.n D sD55 (some_ne hD55) hD55t
      have hD6 : H6 D = some (.dK acc) := m6.k D _ hD55t hD55
      have hD6t : ¬ tr S6 H6 A6 r6 D := fun z => (m6.f D z).elim hD55t (some_ne hD55)
      have hlen6 : l4.length = li.length := by
        have e1 := h6.ls
        have e2 := h4.ls
        omega
      have mall := ((mc.trans m5).trans m55).trans m6
      have hb6 := hst.back hpi h6 hw' hlen6 mall.s mall.p
      have hl := hdacc.len
      have hDcut : ¬ tr S6 H6 (cutA A6 vs) r6 D := fun z => hD6t (trcut z)
      have hput : StOk K (backV li l4 vs) g4' s (upd H6 D (.dK (putK acc kk v6))) S6 r6 (cutA A6 vs) := by
        refine hb6.move (Same.refl S6) (fun b z e => ?_) (fun b hb => ⟨(hb6.thereA hb).2, fun u e => ?_⟩) ⟨[], by simp⟩ hb6.rn hb6.dr hb6.lg (fun j b o e1 e2 => ?_) (hb6.tb.go (Same.refl S6) (fun b hb => (hb6.tb.there hb).2) fun b u hb e => by rw [upd_ne fun z => hDcut (.inr (.inr (by rw [← z]; exact hb)))]; exact e)
        · rw [upd_ne (ne_of_none e sD6)]; exact hb6.hs b z e
        · rw [upd_ne fun z => hDcut (.inl (by rw [← z]; exact hb))]; exact e
        · obtain ⟨p1, p2⟩ := hb6.st j b o e1 e2
          exact ⟨p1, p2.go (Same.refl S6) (.upd (fun z => hDcut (.inr (.inl (by rw [← z]; exact List.mem_of_getElem? e1)))) hD6 (fun _ z => nomatch z)) ⟨[], by simp⟩⟩
      have mnew : Mv K S1 H1 r1 A1 S6 (upd H6 D (.dK (putK acc kk v6))) r6 (cutA A6 vs) := by
        have mm := mi.trans mall
        refine ⟨mm.s, hput.hs, mm.n, fun b o hb e => ?_, fun b e => ?_, mm.p, fun b z => mm.f b (trcut (tr_upd z)), fun a e => tUpd (fun ps z => by rw [hD6] at z; cases z) a (mm.t a e)⟩
        · have hbD : b ≠ D := fun z => by rw [z, hD] at e; cases e
          rw [upd_ne hbD]; exact mm.k b o hb e
        · by_cases hbD : b = D
          · subst hbD; rw [upd_same]; exact fun z => nomatch z
          · rw [upd_ne hbD]; exact mm.d b e
      have hpl2 := putG_len (kvs := ac) (k := kk) (v := z2)
      exact ⟨acc, kk, key_dp d55, hD6, szt (by omega), hlt, backV li l4 vs, g4', S6, r6, cutA A6 vs, _, putG ac kk z2, hput, mnew, fun z => hDcut (tr_upd z), sD6, upd_same, (hdacc.mono mall.s).put d6, by omega, plain_back hpi hlen6, k7⟩
    · rw [if_neg Bool.false_ne_true]
      have mall := mc.trans m5
      have hb5 := hst.back hpi h5 hw' hlen5 mall.s mall.p
      exact ⟨hlt, backV li l2 vs, g2, S5, r5, cutA A5 vs, acc, ac, hb5, (mi.trans mall).cut, fun z => hD5t (trcut z), sD5, hD5, hdacc.mono mall.s, by omega, plain_back hpi hlen5, k4⟩
  · have ei : i = ds.length := by omega
    subst ei
    rw [List.drop_length] at hrun
    obtain ⟨rfl, rfl, rfl⟩ := mp_some hrun
    have mw := m1.trans mi
    exact .inl ⟨w.stop H2 (mi.s.trans hst.hs), q D acc H2 Si ri Ai mw hst hDH hDi sDi hacc hdacc⟩
end
/-! ### a, b = e, f with new lists or dicts among them -/
inductive NAll (K : Kx) (S H : Hp) (r : List Addr) : List V → List Vl → List (Option Addr) → Prop
  | nil : NAll K S H r [] [] []
  | cons {v : V} {x : Vl} {o : Option Addr} {vs : List V} {xs : List Vl} {os : List (Option Addr)} : SOk K S H r x o (some v) → NAll K S H r vs xs os → NAll K S H r (v :: vs) (x :: xs) (o :: os)
theorem NAll.go {K : Kx} {S H S1 H1 : Hp} {r r1 : List Addr} {vs : List V} {xs : List Vl} {os : List (Option Addr)} (h : NAll K S H r vs xs os) (hs : Same S S1) (hk : ∀ a, some a ∈ os → S1 a = none ∧ ∀ u, H a = some u → H1 a = some u) (hr : ∃ q, r1 = r ++ q) : NAll K S1 H1 r1 vs xs os := by
  induction h with
  | nil => exact .nil
  | cons h1 _ ih => exact .cons (h1.go hs (fun a ea => hk a (by rw [ea]; exact List.mem_cons_self)) hr) (ih fun a ha => hk a (List.mem_cons_of_mem _ ha))
section
variable {K : Kx} {te : TE} {ta : TA} {m : M (List Vl)}
theorem NAll.len {S H : Hp} {r : List Addr} {vs : List V} {xs : List Vl} {os : List (Option Addr)} (h : NAll K S H r vs xs os) : vs.length = xs.length := by
  induction h with
  | nil => rfl
  | cons _ _ ih => simp [ih]
end
end Sm

namespace Sm
open PySem PySem.Spec PyProof.Rows L2 RZ SrtO Dz
/-! ### dicts by rules -/
section
variable {l l1 l2 l3 : Lo} {g g1 g2 g3 : Sg} {i j n : Nat} {a b c e : M PyData} {t : M Bool} {m : M (List PyData)} {w : M (List Vl)} {d d1 d2 d3 y x z : PyData} {ds es : List PyData} {p q : Bool} {kvs kvs0 : List (Key × PyData)} {k : Key} {vs : List Nat} {tg : G} {xs : List Vl}
theorem keyO_i {v : Int} : keyO (.int v) = some (.inl v) := rfl
theorem dcV_own (h : l[i]? = some (.dct kvs)) : dcV l g i = some kvs := by unfold dcV; rw [h]
theorem ptD_own (h : l[i]? = some (.dct kvs0)) : ptD l g i kvs = (l.set i (.dct kvs), g) := by unfold ptD; rw [h]
theorem mb_ev {α β : Type} {A : M α} {f : α → M β} {v : α} {r : Option (β × Lo × Sg)} (h : A l g = some (v, l1, g1)) (h2 : f v l1 g1 = r) : mb A f l g = r := by unfold mb; rw [h]; exact h2
theorem mg_ev {α : Type} {f : Lo → Sg → Option α} {v : α} (h : f l g = some v) : mg f l g = some (v, l, g) := by unfold mg; rw [h]
theorem eDget_ev (h0 : l[i]? = some (.dct kvs0)) (h1 : b l g = some (y, l1, g1)) (h2 : l1[i]? = some (.dct kvs)) (h3 : keyO y = some k) (h4 : valG kvs k = some d) : eDget i b l g = some (d, l1, g1) := by
  unfold eDget
  refine mb_ev (mg_ev (dcV_own h0)) (mb_ev h1 (mg_ev ?_))
  rw [dcV_own h2, Option.bind_some, h3, Option.bind_some, h4]
theorem bTruD_ev (h : l[i]? = some (.dct kvs)) : bTruD i l g = some (!kvs.isEmpty, l, g) := mg_ev (by rw [dcV_own h]; rfl)
theorem lKeys_ev (h : l[i]? = some (.dct kvs)) : lKeys i l g = some (kvs.map fun kv => keyD kv.1, l, g) := mg_ev (by rw [dcV_own h]; rfl)
theorem xAsgC_ev {q : M (List (Key × PyData))} (h : q l g = some (kvs, l1, g1)) : xAsgC i q l g = some (.nx, l1.set i (.dct kvs), g1) := mb_ev h rfl
theorem xDput_ev (h1 : a l g = some (x, l1, g1)) (h2 : l1[i]? = some (.dct kvs0)) (h3 : b l1 g1 = some (y, l2, g2)) (h4 : l2[i]? = some (.dct kvs)) (h5 : keyO y = some k) (hz : kvs.length < 4000000) : xDput i b a l g = some (.nx, l2.set i (.dct (putG kvs k x)), g2) := by
  unfold xDput
  refine mb_ev h1 (mb_ev (mg_ev (dcV_own h2)) (mb_ev h3 ?_))
  simp only [dcV_own h4, h5, if_pos hz, ptD_own h4]
theorem xDpop_ev (h2 : l[i]? = some (.dct kvs0)) (h3 : b l g = some (y, l2, g2)) (h4 : l2[i]? = some (.dct kvs)) (h5 : keyO y = some k) (hk : (valG kvs k).isSome = true) : xDpop i b l g = some (.nx, l2.set i (.dct (dropG kvs k)), g2) := by
  unfold xDpop
  refine mb_ev (mg_ev (dcV_own h2)) (mb_ev h3 ?_)
  simp only [dcV_own h4, h5, if_pos hk, ptD_own h4]
theorem set_back {x : Vl} (h : l[i]? = some x) {y : Vl} : (l.set i y).set i x = l := by
  rw [List.set_set]
  apply List.ext_getElem?
  intro m
  by_cases him : i = m
  · subst him
    rw [List.getElem?_set_self (List.getElem?_eq_some_iff.mp h).1, h]
  · rw [List.getElem?_set_ne him]
theorem xItems_ev (h : l[i]? = some (.dct kvs)) (hp : plainAt vs (l.set i .no) = true) (hz : kvs.length ≤ 4000000) (h1 : lcL vs tg t e (kvs.map pairD) (l.set i .no) g = some (ds, l.set i .no, g)) (hj : j < l.length) : xItems i j vs tg t e l g = some (.nx, l.set j (.dat (.list ds)), g) := by
  have hil := (List.getElem?_eq_some_iff.mp h).1
  unfold xItems
  simp only [h]
  rw [if_pos (by rw [hp, decide_eq_true hz]; rfl), h1]
  simp only [List.getElem?_set_self hil, List.length_set]
  rw [if_pos hj, set_back h]
theorem lDc_ev {kx : M PyData} (h : m l g = some (ds, l1, g1)) (hp : plainAt vs l1 = true) (hz : ds.length ≤ 4000000) (h2 : lcD vs tg t kx e ds [] l1 g1 = some (kvs, l2, g2)) : lDc vs m tg t kx e l g = some (kvs, l2, g2) := mb_ev h (by rw [if_pos (by rw [hp, decide_eq_true hz]; rfl)]; exact h2)
theorem fold_put {α : Type} {kf : α → Key} {f : α → PyData} : ∀ {xs : List α} {acc : List (Key × PyData)}, (xs.map kf).Nodup → (∀ x ∈ xs, ∀ kv ∈ acc, kv.1 ≠ kf x) → xs.foldl (fun acc d => putG acc (kf d) (f d)) acc = acc ++ xs.map fun x => (kf x, f x)
  | [], acc, _, _ => by simp
  | x :: xs, acc, hn, ha => by
    rw [List.map_cons, List.nodup_cons] at hn
    rw [List.foldl_cons, putG_new fun kv hkv => ha x List.mem_cons_self kv hkv, fold_put hn.2 fun y hy kv hkv => ?_]
    · simp
    · rcases List.mem_append.mp hkv with z | z
      · exact ha y (List.mem_cons_of_mem _ hy) kv z
      · rw [List.mem_singleton] at z
        subst z
        exact fun z => hn.1 (by have z : kf x = kf y := z; rw [z]; exact List.mem_map.mpr ⟨y, hy, rfl⟩)
end
end Sm

namespace Sm
open PySem PySem.Spec PyProof.Rows L2 RZ SrtO Dz
/-! ### slots that are forgotten -/
def iWipe (vs : List Nat) (it : M (List PyData)) : M (List PyData) := mb it fun ds => fun l g => some (ds, wipeV l vs, g)
def xKeep (vs : List Nat) (x : X) : X := mb x fun o => fun l g => some (o, wipeV l vs, g)
def xPre (vs : List Nat) (x : X) : X := fun l g => x (wipeV l vs) g
section
variable {K : Kx} {l : Lo} {g : Sg} {s : L2.St} {H S H1 S1 : Hp} {r r1 : List Addr} {A A1 : List (Option Addr)} {vs : List Nat}
theorem StOk.forget (h : StOk K l g s H S r A) : StOk K (wipeV l vs) g s H S r (cutA A vs) :=
  ⟨h.hs, by rw [cutA_len, wipeV_len]; exact h.la, by rw [wipeV_len]; exact h.ls, fun j x e => by
    rw [wipeV_get] at e
    rw [cutA_get]
    by_cases hj : j ∈ vs
    · rw [if_pos hj] at e ⊢
      split at e
      · rename_i hl
        cases e
        obtain ⟨o, v, e1, e2, e3⟩ := h.ok j _ (List.getElem?_eq_getElem hl)
        exact ⟨none, v, by rw [if_pos (by rw [h.la]; exact hl)], e2, rfl⟩
      · cases e
    · rw [if_neg hj] at e ⊢
      exact h.ok j x e, fun i j a e1 e2 => h.ij i j a (cutA_some e1) (cutA_some e2), fun a ha => h.dr a (cutA_mem ha), h.rn, h.lg, h.st, h.tb⟩
theorem s_iwipe {wi : TI} {it : M (List PyData)} (hi : EvI K wi it) : EvI K wi (iWipe vs it) := fun l g d l' g' s H S r A e h R q => by
  replace e := mb_some e; obtain ⟨ds, l1, g1, e1, e⟩ := e
  cases e
  exact hi _ _ _ _ _ s H S r A e1 h _ fun J H1 S1 r1 A1 m1 h1 w => q J H1 S1 r1 _ m1.cut h1.forget w
theorem x_keep {tu : TS} {x : X} (hx : ExS K tu x) : ExS K tu (xKeep vs x) := fun l g o l' g' s H S r A e h D q => by
  replace e := mb_some e; obtain ⟨o1, l1, g1, e1, e⟩ := e
  cases e
  exact hx _ _ _ _ _ s H S r A e1 h D fun s2 H2 S2 r2 A2 m2 h2 => q s2 H2 S2 r2 _ m2.cut h2.forget
theorem x_pre {tu : TS} {x : X} (hx : ExS K tu x) : ExS K tu (xPre vs x) := fun l g o l' g' s H S r A e h D q => by
  exact hx _ _ _ _ _ s H S r _ e (h.forget (vs := vs)) D fun s2 H2 S2 r2 A2 m2 h2 => q s2 H2 S2 r2 A2 (((Mv.refl h.hs).cut (vs := vs)).trans m2) h2
end
/-! ### what a word surely comes to -/
def Wp {α : Type} (m : M α) (l : Lo) (g : Sg) (Q : α → Lo → Sg → Prop) : Prop := ∃ a l' g', m l g = some (a, l', g') ∧ Q a l' g'
def Has {α : Type} (o : Option α) (Q : α → Prop) : Prop := ∃ a, o = some a ∧ Q a
def Br (p : Bool) (A B : Prop) : Prop := (p = true → A) ∧ (p = false → B)
def FOk (F : FS) (as : List Vl) (g : Sg) (Q : Vl → Sg → Prop) : Prop := ∃ v g', F as g = some (v, g') ∧ Q v g'
inductive SetR : Lo → Nat → Vl → Lo → Prop
  | z {x v : Vl} {l : Lo} : SetR (x :: l) 0 v (v :: l)
  | s {x v : Vl} {l l' : Lo} {i : Nat} (h : SetR l i v l') : SetR (x :: l) (i + 1) v (x :: l')
theorem SetR.eq {l l' : Lo} {i : Nat} {v : Vl} (h : SetR l i v l') : l' = l.set i v := by
  induction h with
  | z => rfl
  | s _ ih => rw [List.set_cons_succ, ih]
section
variable {α β : Type} {l l1 l2 l3 : Lo} {g g1 g2 g3 : Sg} {i j k : Nat} {p : Bool} {P R : Prop}
theorem br_T (h : p = true) (a : P) : Br p P R := ⟨fun _ => a, fun z => by rw [h] at z; cases z⟩
theorem br_F (h : p = false) (a : R) : Br p P R := ⟨fun z => by (rw [h] at z; cases z), fun _ => a⟩
theorem br_C (a : p = true → P) (b : p = false → R) : Br p P R := ⟨a, b⟩
/-! ### what stands between two words -/
section
variable {l l1 l2 l3 l4 l5 l6 : Lo} {g : Sg} {i j k m : Nat} {x y z u : PyData} {v vx vy vz vu : Vl} {ds es : List PyData} {kvs : List (Key × PyData)} {kk : Key} {n n' a b c d : Int}
theorem ex_set {Q : Lo → Prop} (h : SetR l i v l1) (q : Q l1) : ∃ l2, SetR l i v l2 ∧ Q l2 := ⟨l1, h, q⟩
theorem ex_rng {Q : Int → Prop} (h : n ≤ a ∧ b ≤ n) (q : Q n) : ∃ n', PyData.int n = .int n' ∧ (n' ≤ a ∧ b ≤ n') ∧ Q n' := ⟨n, rfl, h, q⟩
theorem ex_bool {p : Bool} {Q : Bool → Prop} (q : Q p) : ∃ p', PyData.bool p = .bool p' ∧ Q p' := ⟨p, rfl, q⟩
theorem ex_dat {Q : PyData → Prop} (q : Q x) : ∃ y, Vl.dat x = .dat y ∧ Q y := ⟨x, rfl, q⟩
theorem ex_zipT {Q : List PyData → List PyData → Prop} (q : Q ds es) : ∃ d1 d2, PyData.tuple ds = .tuple d1 ∧ PyData.tuple es = .tuple d2 ∧ Q d1 d2 := ⟨ds, es, rfl, rfl, q⟩
theorem ex_key {Q : List (Key × PyData) → Key → Prop} (h : l[i]? = some (.dct kvs)) (h2 : keyO y = some kk) (q : Q kvs kk) : ∃ kvs' k', l[i]? = some (.dct kvs') ∧ keyO y = some k' ∧ Q kvs' k' := ⟨kvs, kk, h, h2, q⟩
theorem ex_app {Q : Lo → Prop} (h : l[i]? = some (.own ds)) (hz : ds.length < j) (hs : SetR l i (.own (ds ++ [x])) l1) (q : Q l1) : ∃ ds' l2, l[i]? = some (.own ds') ∧ ds'.length < j ∧ SetR l i (.own (ds' ++ [x])) l2 ∧ Q l2 := ⟨ds, l1, h, hz, hs, q⟩
theorem ex_dct {P : Prop} (h : l[i]? = some (.dct kvs)) (q : P) : (∃ es, l[i]? = some (.dct es)) ∧ P := ⟨⟨kvs, h⟩, q⟩
theorem ex_dput {Q : Lo → Prop} (h : l[i]? = some (.dct kvs)) (h2 : keyO y = some kk) (hz : kvs.length < j) (hs : SetR l i (.dct (putG kvs kk x)) l1) (q : Q l1) : ∃ kvs' k' l3, l[i]? = some (.dct kvs') ∧ keyO y = some k' ∧ kvs'.length < j ∧ SetR l i (.dct (putG kvs' k' x)) l3 ∧ Q l3 := ⟨kvs, kk, l1, h, h2, hz, hs, q⟩
theorem ex_dpop {Q : Lo → Prop} (h : l[i]? = some (.dct kvs)) (h2 : keyO y = some kk) (hz : (valG kvs kk).isSome = true) (hs : SetR l i (.dct (dropG kvs kk)) l1) (q : Q l1) : ∃ kvs' k' l3, l[i]? = some (.dct kvs') ∧ keyO y = some k' ∧ (valG kvs' k').isSome = true ∧ SetR l i (.dct (dropG kvs' k')) l3 ∧ Q l3 := ⟨kvs, kk, l1, h, h2, hz, hs, q⟩
theorem ex_par {Q : Lo → Prop} (h : SetR l i v l1) (h2 : SetR l1 j vx l2) (q : Q l2) : ∃ l3 l4, SetR l i v l3 ∧ SetR l3 j vx l4 ∧ Q l4 := ⟨l1, l2, h, h2, q⟩
theorem ex_kit {t T : String} {p : Bool} {Q : Bool → Prop} (h : kitB t T = some p) (q : Q p) : ∃ p', kitB t T = some p' ∧ Q p' := ⟨p, h, q⟩
theorem ex_chain {o : Option PyData} {p p' : Bool} {R : Bool → Prop} {Q : Bool → Bool → Prop} (h : o = some (.bool p)) (h2 : p = true → R p') (q : Q p p') : ∃ p1 p2, o = some (.bool p1) ∧ (p1 = true → R p2) ∧ Q p1 p2 := ⟨p, p', h, h2, q⟩
end
theorem and_le {a b : Nat} (h : a ≤ b) (q : P) : a ≤ b ∧ P := ⟨h, q⟩
theorem and_bk {l0 l1 l2 : Lo} {vs : List Nat} (h : backV l0 l1 vs = l2) (q : P) : backV l0 l1 vs = l2 ∧ P := ⟨h, q⟩
theorem has_of {o : Option α} {a : α} {Q : α → Prop} (h : o = some a) (q : Q a) : Has o Q := ⟨a, h, q⟩
theorem fok_eq {F : FS} {as : List Vl} {v : Vl} {Q : Vl → Sg → Prop} (h : F as g = some (v, g1)) (q : Q v g1) : FOk F as g Q := ⟨v, g1, h, q⟩
theorem fok_is {F : FS} {as : List Vl} {v : Vl} (h : FOk F as g fun v' g' => v' = v ∧ g' = g1) : F as g = some (v, g1) := by
  obtain ⟨v', g', e, rfl, rfl⟩ := h
  exact e
theorem wp_eq {m : M α} {Q : α → Lo → Sg → Prop} {a : α} (h : m l g = some (a, l1, g1)) (q : Q a l1 g1) : Wp m l g Q := ⟨a, l1, g1, h, q⟩
theorem wp_is {m : M α} {a : α} (h : Wp m l g fun a' l' g' => a' = a ∧ l' = l1 ∧ g' = g1) : m l g = some (a, l1, g1) := by
  obtain ⟨a', l', g', e, rfl, rfl, rfl⟩ := h
  exact e
theorem wp_mono {m : M α} {Q Q' : α → Lo → Sg → Prop} (h : Wp m l g Q) (q : ∀ a l' g', Q a l' g' → Q' a l' g') : Wp m l g Q' := by
  obtain ⟨a, l', g', e, hq⟩ := h
  exact ⟨a, l', g', e, q a l' g' hq⟩
theorem wp_mb {m : M α} {f : α → M β} {Q : β → Lo → Sg → Prop} (h : Wp m l g fun a l1 g1 => Wp (f a) l1 g1 Q) : Wp (mb m f) l g Q := by
  obtain ⟨a, l1, g1, e, b, l2, g2, e2, q⟩ := h
  exact ⟨b, l2, g2, by unfold mb; rw [e]; exact e2, q⟩
theorem wp_mp {a : α} {Q : α → Lo → Sg → Prop} (q : Q a l g) : Wp (mp a) l g Q := ⟨a, l, g, rfl, q⟩
theorem wp_mo {o : Option α} {Q : α → Lo → Sg → Prop} (h : Has o fun a => Q a l g) : Wp (mo o) l g Q := by
  obtain ⟨a, e, q⟩ := h
  exact ⟨a, l, g, by unfold mo; rw [e], q⟩
variable {a b c e : M PyData} {t u v : M Bool} {m m' : M (List PyData)} {d : PyData} {ds : List PyData} {f f' : PyData → PyData → Option PyData}
section
variable {Q : PyData → Lo → Sg → Prop}
theorem wp_eVar (h : l[i]? = some (.dat d)) (q : Q d l g) : Wp (eVar i) l g Q := wp_eq (eVar_ev h) q
theorem wp_eC (q : Q d l g) : Wp (eC d) l g Q := wp_eq eC_ev q
theorem wp_eOp (h : Wp a l g fun x l1 g1 => Wp b l1 g1 fun y l2 g2 => Has (f x y) fun z => Q z l2 g2) : Wp (eOp f a b) l g Q := wp_mb (wp_mono h fun _ _ _ h => wp_mb (wp_mono h fun _ _ _ h => wp_mo h))
theorem wp_eUn {f : PyData → Option PyData} (h : Wp a l g fun x l1 g1 => Has (f x) fun z => Q z l1 g1) : Wp (eUn f a) l g Q := wp_mb (wp_mono h fun _ _ _ h => wp_mo h)
theorem wp_eCB {f : List PyData → Option PyData} (h : Wp m l g fun x l1 g1 => Has (f x) fun z => Q z l1 g1) : Wp (eCB f m) l g Q := wp_mb (wp_mono h fun _ _ _ h => wp_mo h)
theorem wp_eTup (h : Wp m l g fun xs l1 g1 => xs.length ≤ 4000000 ∧ Q (.tuple xs) l1 g1) : Wp (eTup m) l g Q := wp_mb (wp_mono h fun _ _ _ h => wp_mo ⟨_, if_pos h.1, h.2⟩)
theorem wp_eL (h : Wp m l g fun xs l1 g1 => Q (.list xs) l1 g1) : Wp (eL m) l g Q := wp_mb (wp_mono h fun _ _ _ h => wp_mp h)
theorem wp_ite {A B : M α} {Q : α → Lo → Sg → Prop} (h : Br p (Wp A l g Q) (Wp B l g Q)) : Wp (if p = true then A else B) l g Q := by
  cases p with
  | true => rw [if_pos rfl]; exact h.1 rfl
  | false => rw [if_neg Bool.false_ne_true]; exact h.2 rfl
theorem wp_eIf (h : Wp t l g fun p l1 g1 => Br p (Wp a l1 g1 Q) (Wp b l1 g1 Q)) : Wp (eIf t a b) l g Q := wp_mb (wp_mono h fun _ _ _ h => wp_ite h)
theorem wp_eAnd (h : Wp a l g fun x l1 g1 => Has (truO x) fun p => Br p (Wp b l1 g1 Q) (Q x l1 g1)) : Wp (eAnd a b) l g Q := wp_mb (wp_mono h fun _ _ _ h => wp_mb (wp_mo (h.imp fun _ h => ⟨h.1, wp_ite ⟨h.2.1, fun z => wp_mp (h.2.2 z)⟩⟩)))
/-- both sides are truths, the second asked only if the first is -/
theorem wp_eAndB (h : Wp a l g fun x l1 g1 => ∃ p q, x = .bool p ∧ (p = true → Wp b l1 g1 fun y l2 g2 => y = .bool q ∧ l2 = l1 ∧ g2 = g1) ∧ Q (.bool (p && q)) l1 g1) : Wp (eAnd a b) l g Q := by
  obtain ⟨x, l1, g1, e, p, q, rfl, h, hq⟩ := h
  exact ⟨_, l1, g1, eAnd_B e fun z => wp_is (h z), hq⟩
theorem wp_eNot (h : Wp a l g fun x l1 g1 => Has (truO x) fun p => Q (.bool (!p)) l1 g1) : Wp (eNot a) l g Q := by
  obtain ⟨x, l1, g1, e, p, hp, q⟩ := h
  exact ⟨_, l1, g1, eNot_ev e hp, q⟩
theorem wp_eIsN (h : Wp a l g fun x l1 g1 => Q (.bool (isN x)) l1 g1) : Wp (eIsN a) l g Q := wp_mb (wp_mono h fun _ _ _ h => wp_mp h)
theorem wp_eNotN (h : Wp a l g fun x l1 g1 => Q (.bool (!isN x)) l1 g1) : Wp (eNotN a) l g Q := wp_mb (wp_mono h fun _ _ _ h => wp_mp h)
theorem wp_eChain (h : Wp a l g fun x l1 g1 => Wp b l1 g1 fun y l2 g2 => ∃ p q, f x y = some (.bool p) ∧ (p = true → Wp c l2 g2 fun w l3 g3 => l3 = l2 ∧ g3 = g2 ∧ f' y w = some (.bool q)) ∧ Q (.bool (p && q)) l2 g2) : Wp (eChain f f' a b c) l g Q := by
  refine wp_mb (wp_mono h fun x l1 g1 h => wp_mb (wp_mono h fun y l2 g2 h => ?_))
  obtain ⟨p, q, e, h, hq⟩ := h
  refine wp_mb (wp_mo ⟨p, by rw [e]; rfl, ?_⟩)
  cases p with
  | true =>
    rw [if_pos rfl]
    refine wp_mb (wp_mono (h rfl) fun w l3 g3 h => ?_)
    obtain ⟨rfl, rfl, e2⟩ := h
    exact wp_mo ⟨_, e2, hq⟩
  | false =>
    rw [if_neg Bool.false_ne_true]
    exact wp_mp hq
theorem wp_eTupleV (h : lsV l g i = some ds) (q : Q (.tuple ds) l g) : Wp (eTupleV i) l g Q := wp_eq (eTupleV_ev h) q
theorem wp_eDget (h0 : ∃ kvs, l[i]? = some (.dct kvs)) (h : Wp b l g fun y l1 g1 => ∃ kvs k, l1[i]? = some (.dct kvs) ∧ keyO y = some k ∧ Has (valG kvs k) fun z => Q z l1 g1) : Wp (eDget i b) l g Q := by
  obtain ⟨kv0, h0⟩ := h0
  obtain ⟨y, l1, g1, e, kvs, k, h1, h2, z, hz, q⟩ := h
  exact ⟨z, l1, g1, eDget_ev h0 e h1 h2 hz, q⟩
theorem wp_eIsi {T : String} (h : Wp a l g fun x l1 g1 => ∃ p, kitB (tyN x) T = some p ∧ Q (.bool p) l1 g1) : Wp (eIsi T a) l g Q := by
  obtain ⟨x, l1, g1, e, p, hp, q⟩ := h
  exact ⟨_, l1, g1, eIsi_ev e hp, q⟩
theorem wp_eCall {F : FS} {w : M (List Vl)} (h : Wp w l g fun xs l1 g1 => FOk F xs g1 fun v g2 => ∃ d, v = .dat d ∧ Q d l1 g2) : Wp (eCall F w) l g Q := by
  obtain ⟨xs, l1, g1, e, v, g2, e2, d, rfl, q⟩ := h
  exact ⟨d, l1, g2, eCall_ev e e2, q⟩
end
section
variable {Q : List Vl → Lo → Sg → Prop}
theorem wp_vNil (q : Q [] l g) : Wp vNil l g Q := wp_mp q
theorem wp_vE {w : M (List Vl)} (h : Wp a l g fun d l1 g1 => Wp w l1 g1 fun xs l2 g2 => Q (.dat d :: xs) l2 g2) : Wp (vCons (vE a) w) l g Q := wp_mb (wp_mb (wp_mono h fun _ _ _ h => wp_mp (wp_mb (wp_mono h fun _ _ _ h => wp_mp h))))
theorem wp_vR {w : M (List Vl)} (h0 : l[i]? = some (.ref j)) (h : Wp w l g fun xs l2 g2 => Q (.ref j :: xs) l2 g2) : Wp (vCons (vR i) w) l g Q := by
  obtain ⟨xs, l2, g2, e, q⟩ := h
  exact ⟨_, l2, g2, vCons_ev (vR_ev h0) e, q⟩
end
section
variable {Q : List PyData → Lo → Sg → Prop}
theorem wp_aNil (q : Q [] l g) : Wp aNil l g Q := wp_mp q
theorem wp_aCons (h : Wp a l g fun x l1 g1 => Wp m l1 g1 fun xs l2 g2 => Q (x :: xs) l2 g2) : Wp (aCons a m) l g Q := wp_mb (wp_mono h fun _ _ _ h => wp_mb (wp_mono h fun _ _ _ h => wp_mp h))
theorem wp_lLst (h : Wp m l g fun xs l1 g1 => xs.length ≤ 4000000 ∧ Q xs l1 g1) : Wp (lLst m) l g Q := wp_mb (wp_mono h fun _ _ _ h => wp_mo ⟨_, if_pos h.1, h.2⟩)
theorem wp_iSq (h : Wp a l g fun x l1 g1 => Has (seqD x) fun ds => Q ds l1 g1) : Wp (iSq a) l g Q := wp_mb (wp_mono h fun _ _ _ h => wp_mo h)
theorem wp_lList (h : Wp a l g fun x l1 g1 => Has (seqD x) fun ds => Q ds l1 g1) : Wp (lList a) l g Q := wp_iSq h
theorem wp_iRg1 (h : Wp a l g fun x l1 g1 => ∃ n, x = .int n ∧ (n ≤ 4000000 ∧ -4000000 ≤ n) ∧ Q (rng 0 n.toNat) l1 g1) : Wp (iRg1 a) l g Q := by
  obtain ⟨x, l1, g1, e, n, rfl, hn, q⟩ := h
  exact ⟨_, l1, g1, iRg1_ev e hn, q⟩
theorem wp_iZpT (h : Wp a l g fun x l1 g1 => Wp b l1 g1 fun y l2 g2 => ∃ ds es, x = .tuple ds ∧ y = .tuple es ∧ Q (zipD ds es) l2 g2) : Wp (iZp a b) l g Q := by
  obtain ⟨x, l1, g1, e, y, l2, g2, e2, ds, es, rfl, rfl, q⟩ := h
  exact ⟨_, l2, g2, iZp_T e e2, q⟩
theorem wp_lKeys {kvs : List (Key × PyData)} (h : l[i]? = some (.dct kvs)) (q : Q (kvs.map fun kv => keyD kv.1) l g) : Wp (lKeys i) l g Q := wp_eq (lKeys_ev h) q
theorem wp_iWipe {vs : List Nat} (h : Wp m l g fun ds l1 g1 => Q ds (wipeV l1 vs) g1) : Wp (iWipe vs m) l g Q := by
  obtain ⟨ds, l1, g1, e, q⟩ := h
  exact ⟨ds, wipeV l1 vs, g1, by unfold iWipe mb; rw [e], q⟩
/-- a comprehension over ds, worked out elsewhere -/
def LcW (vs : List Nat) (tg : G) (t : M Bool) (e : M PyData) (ds : List PyData) (l : Lo) (g : Sg) (Q : List PyData → Lo → Sg → Prop) : Prop := ∃ es l' g', lcO vs tg t e ds l g = some (es, l', g') ∧ Q es l' g'
theorem wp_lLc {vs : List Nat} {tg : G} (h : Wp m l g fun ds l1 g1 => LcW vs tg t e ds l1 g1 Q) : Wp (lLc vs m tg t e) l g Q := by
  obtain ⟨ds, l1, g1, e1, es, l2, g2, e2, q⟩ := h
  exact ⟨es, l2, g2, lLc_ev e1 e2, q⟩
end
section
variable {Q : Bool → Lo → Sg → Prop}
theorem wp_bYes (q : Q true l g) : Wp bYes l g Q := wp_mp q
theorem wp_bTest (h : Wp a l g fun x l1 g1 => ∃ p, x = .bool p ∧ Q p l1 g1) : Wp (bTest a) l g Q := by
  obtain ⟨x, l1, g1, e, p, rfl, q⟩ := h
  exact ⟨p, l1, g1, bTest_ev e, q⟩
theorem wp_bTru (h : Wp a l g fun x l1 g1 => Has (truO x) fun p => Q p l1 g1) : Wp (bTru a) l g Q := wp_mb (wp_mono h fun _ _ _ h => wp_mo h)
theorem wp_bTruD {kvs : List (Key × PyData)} (h : l[i]? = some (.dct kvs)) (q : Q (!kvs.isEmpty) l g) : Wp (bTruD i) l g Q := wp_eq (bTruD_ev h) q
theorem wp_bNot (h : Wp t l g fun p l1 g1 => Q (!p) l1 g1) : Wp (bNot t) l g Q := wp_mb (wp_mono h fun _ _ _ h => wp_mp h)
theorem wp_bAnd (h : Wp t l g fun p l1 g1 => Br p (Wp u l1 g1 Q) (Q false l1 g1)) : Wp (bAnd t u) l g Q := wp_mb (wp_mono h fun _ _ _ h => wp_ite ⟨h.1, fun z => wp_mp (h.2 z)⟩)
theorem wp_bOr (h : Wp t l g fun p l1 g1 => Br p (Q true l1 g1) (Wp u l1 g1 Q)) : Wp (bOr t u) l g Q := wp_mb (wp_mono h fun _ _ _ h => wp_ite ⟨fun z => wp_mp (h.1 z), h.2⟩)
end
section
variable {Q : Option Int → Lo → Sg → Prop}
end
section
variable {Q : List (Key × PyData) → Lo → Sg → Prop}
theorem wp_lDnew (q : Q [] l g) : Wp lDnew l g Q := wp_mp q
def DcW (vs : List Nat) (tg : G) (t : M Bool) (k e : M PyData) (ds : List PyData) (l : Lo) (g : Sg) (Q : List (Key × PyData) → Lo → Sg → Prop) : Prop := plainAt vs l = true ∧ ds.length ≤ 4000000 ∧ ∃ es l' g', lcD vs tg t k e ds [] l g = some (es, l', g') ∧ Q es l' g'
theorem wp_lDc {vs : List Nat} {tg : G} {k : M PyData} (h : Wp m l g fun ds l1 g1 => DcW vs tg t k e ds l1 g1 Q) : Wp (lDc vs m tg t k e) l g Q := by
  obtain ⟨ds, l1, g1, e1, h1, h2, es, l2, g2, e2, q⟩ := h
  exact ⟨es, l2, g2, lDc_ev e1 h1 h2 e2, q⟩
end
/-! statements -/
def seqK (B : X) (Q : Out → Lo → Sg → Prop) : Out → Lo → Sg → Prop
  | .nx, l, g => Wp B l g Q
  | o, l, g => Q o l g
def retK (Q : Vl → Sg → Prop) : Out → Lo → Sg → Prop
  | .ret v, _, g => Q v g
  | .nx, _, g => Q (.dat .none) g
  | _, _, _ => False
def bodyK (N : Lo → Sg → Prop) (Q : Out → Lo → Sg → Prop) : Out → Lo → Sg → Prop
  | .nx, l, g => N l g
  | .ct, l, g => N l g
  | .bk, l, g => Q .nx l g
  | .ret v, l, g => Q (.ret v) l g
section
variable {Q : Out → Lo → Sg → Prop} {A B : Sm.X} {o : Out} {N : Lo → Sg → Prop} {w : Vl}
theorem seqK_nx (h : Wp B l g Q) : seqK B Q .nx l g := h
theorem seqK_ret (h : Q (.ret w) l g) : seqK B Q (.ret w) l g := h
theorem retK_ret {Q : Vl → Sg → Prop} (h : Q w g) : retK Q (.ret w) l g := h
theorem bodyK_nx (h : N l g) : bodyK N Q .nx l g := h
theorem bodyK_ret (h : Q (.ret w) l g) : bodyK N Q (.ret w) l g := h
theorem wp_seq (h : Wp A l g (seqK B Q)) : Wp (xSeq A B) l g Q := by
  refine wp_mb (wp_mono h fun o l1 g1 h => ?_)
  cases o with
  | nx => exact h
  | bk => exact wp_mp h
  | ct => exact wp_mp h
  | ret w => exact wp_mp h
theorem wp_next (h : Q .nx l g) : Wp xNext l g Q := wp_mp h
theorem wp_asg (h : Wp e l g fun d l1 g1 => ∃ l2, SetR l1 i (.dat d) l2 ∧ Q .nx l2 g1) : Wp (xAsg i e) l g Q := by
  obtain ⟨d, l1, g1, e1, l2, hs, q⟩ := h
  exact ⟨_, l2, g1, by rw [hs.eq]; exact xAsg_ev e1, q⟩
theorem wp_asgG {G : G} (h : Wp e l g fun d l1 g1 => Has (G d l1) fun l2 => Q .nx l2 g1) : Wp (xAsgG G e) l g Q := by
  obtain ⟨d, l1, g1, e1, l2, hs, q⟩ := h
  exact ⟨_, l2, g1, xAsgG_ev e1 hs, q⟩
theorem wp_asgL (h : Wp m l g fun ds l1 g1 => ∃ l2, SetR l1 i (.own ds) l2 ∧ Q .nx l2 g1) : Wp (xAsgL i m) l g Q := by
  obtain ⟨d, l1, g1, e1, l2, hs, q⟩ := h
  exact ⟨_, l2, g1, by rw [hs.eq]; exact xAsgL_ev e1, q⟩
theorem wp_asgC {z : M (List (Key × PyData))} (h : Wp z l g fun ds l1 g1 => ∃ l2, SetR l1 i (.dct ds) l2 ∧ Q .nx l2 g1) : Wp (xAsgC i z) l g Q := by
  obtain ⟨d, l1, g1, e1, l2, hs, q⟩ := h
  exact ⟨_, l2, g1, by rw [hs.eq]; exact xAsgC_ev e1, q⟩
theorem wp_newL (h : Wp m l g fun ds l1 g1 => ∃ l2, SetR l1 i (.ref g1.length) l2 ∧ Q .nx l2 (g1 ++ [.lst ds])) : Wp (xNewL i m) l g Q := by
  obtain ⟨d, l1, g1, e1, l2, hs, q⟩ := h
  exact ⟨_, l2, _, by rw [hs.eq]; exact xNewL_ev e1, q⟩
theorem wp_if (h : Wp t l g fun p l1 g1 => Br p (Wp A l1 g1 Q) (Wp B l1 g1 Q)) : Wp (xIf t A B) l g Q := wp_mb (wp_mono h fun _ _ _ h => wp_ite h)
theorem wp_ret (h : Wp e l g fun d l1 g1 => Q (.ret (.dat d)) l1 g1) : Wp (xRet e) l g Q := wp_mb (wp_mono h fun _ _ _ h => wp_mp h)
theorem wp_app (h0 : ∃ es, l[i]? = some (.own es)) (h : Wp e l g fun d l1 g1 => ∃ ds l2, l1[i]? = some (.own ds) ∧ ds.length < 4000000 ∧ SetR l1 i (.own (ds ++ [d])) l2 ∧ Q .nx l2 g1) : Wp (xApp i e) l g Q := by
  obtain ⟨es, h0⟩ := h0
  obtain ⟨d, l1, g1, e1, ds, l2, h1, hz, hs, q⟩ := h
  refine ⟨_, l2, g1, ?_, q⟩
  have a1 : lsM l g i = some es := by unfold lsM; rw [h0]
  have a2 : lsM l1 g1 i = some ds := by unfold lsM; rw [h1]
  have a3 : ptV l1 g1 i (ds ++ [d]) = (l1.set i (.own (ds ++ [d])), g1) := by unfold ptV; rw [h1]
  rw [hs.eq, xApp_ev a1 e1 a2 hz, a3]
theorem wp_par (h : Wp a l g fun x l1 g1 => Wp b l1 g1 fun y l2 g2 => ∃ l3 l4, SetR l2 i (.dat x) l3 ∧ SetR l3 j (.dat y) l4 ∧ Q .nx l4 g2) : Wp (xPar i j a b) l g Q := by
  obtain ⟨x, l1, g1, e1, y, l2, g2, e2, l3, l4, s1, s2, q⟩ := h
  exact ⟨_, l4, g2, by rw [s2.eq, s1.eq]; exact xPar_ev e1 e2, q⟩
theorem wp_dput {bb : M PyData} (h : Wp a l g fun x l1 g1 => (∃ kvs, l1[i]? = some (.dct kvs)) ∧ Wp bb l1 g1 fun y l2 g2 => ∃ kvs k l3, l2[i]? = some (.dct kvs) ∧ keyO y = some k ∧ kvs.length < 4000000 ∧ SetR l2 i (.dct (putG kvs k x)) l3 ∧ Q .nx l3 g2) : Wp (xDput i bb a) l g Q := by
  obtain ⟨x, l1, g1, e1, ⟨kv0, h0⟩, y, l2, g2, e2, kvs, k, l3, h1, hk, hz, hs, q⟩ := h
  exact ⟨_, l3, g2, by rw [hs.eq]; exact xDput_ev e1 h0 e2 h1 hk hz, q⟩
theorem wp_dpop {bb : M PyData} (h0 : ∃ kvs, l[i]? = some (.dct kvs)) (h : Wp bb l g fun y l2 g2 => ∃ kvs k l3, l2[i]? = some (.dct kvs) ∧ keyO y = some k ∧ (valG kvs k).isSome = true ∧ SetR l2 i (.dct (dropG kvs k)) l3 ∧ Q .nx l3 g2) : Wp (xDpop i bb) l g Q := by
  obtain ⟨kv0, h0⟩ := h0
  obtain ⟨y, l2, g2, e2, kvs, k, l3, h1, hk, hz, hs, q⟩ := h
  exact ⟨_, l3, g2, by rw [hs.eq]; exact xDpop_ev h0 e2 h1 hk hz, q⟩
section
variable {Q : List Vl → Lo → Sg → Prop} {ww : M (List Vl)}
end
theorem wp_keep {vs : List Nat} (h : Wp A l g fun o l1 g1 => Q o (wipeV l1 vs) g1) : Wp (xKeep vs A) l g Q := by
  obtain ⟨o, l1, g1, e, q⟩ := h
  exact ⟨o, wipeV l1 vs, g1, by unfold xKeep mb; rw [e], q⟩
theorem wp_pre {vs : List Nat} (h : Wp A (wipeV l vs) g Q) : Wp (xPre vs A) l g Q := h
theorem wp_for {G : G} (h : Wp m l g fun ds l1 g1 => Wp (xForL G A ds) l1 g1 Q) : Wp (xFor m G A) l g Q := by
  obtain ⟨ds, l1, g1, e, o, l2, g2, e2, q⟩ := h
  exact ⟨o, l2, g2, xFor_ev e e2, q⟩
theorem wp_forNil {G : G} (h : Q .nx l g) : Wp (xForL G A []) l g Q := ⟨.nx, l, g, rfl, h⟩
theorem wp_forCons {G : G} (h : Has (G d l) fun l1 => Wp A l1 g (bodyK (fun l g => Wp (xForL G A ds) l g Q) Q)) : Wp (xForL G A (d :: ds)) l g Q := by
  obtain ⟨l1, e1, o, l2, g2, e2, q⟩ := h
  unfold Wp
  rw [xForL_cons, e1, oo_some, e2]
  cases o with
  | nx => rw [ol_nx]; exact q
  | ct => rw [ol_ct]; exact q
  | bk => rw [ol_bk]; exact ⟨_, _, _, rfl, q⟩
  | ret v => rw [ol_ret]; exact ⟨_, _, _, rfl, q⟩
/-- a for by what holds ahead of each turn -/
theorem wp_forI {G : G} (I : Nat → Lo → Sg → Prop) (h0 : I 0 l g) (hs : ∀ i d l g, ds[i]? = some d → I i l g → Has (G d l) fun l1 => Wp A l1 g (bodyK (I (i + 1)) Q)) (hq : ∀ l g, I ds.length l g → Q .nx l g) : Wp (xForL G A ds) l g Q := by
  have key : ∀ (n i : Nat) l g, n = ds.length - i → i ≤ ds.length → I i l g → Wp (xForL G A (ds.drop i)) l g Q := by
    intro n
    induction n with
    | zero =>
      intro i l g hn hi hI
      have : i = ds.length := by omega
      subst this
      rw [List.drop_length]
      exact wp_forNil (hq l g hI)
    | succ n ih =>
      intro i l g hn hi hI
      have hlt : i < ds.length := by omega
      rw [List.drop_eq_getElem_cons hlt]
      refine wp_forCons ((hs i ds[i] l g (List.getElem?_eq_getElem hlt) hI).imp fun l1 h => ⟨h.1, wp_mono h.2 fun o l2 g2 h => ?_⟩)
      cases o with
      | nx => exact ih (i + 1) l2 g2 (by omega) hlt h
      | ct => exact ih (i + 1) l2 g2 (by omega) hlt h
      | bk => exact h
      | ret v => exact h
  simpa using key ds.length 0 l g (by omega) (Nat.zero_le _) h0
/-- a for over told things, by a state that each turn changes -/
theorem wp_forS {G : G} {σ : Type} (xs : List α) (h : α → PyData) (lf : σ → Lo) (gf : σ → Sg) (I : List α → σ → Prop) (s0 : σ) (h0 : I [] s0) (hs : ∀ pre x post s, xs = pre ++ x :: post → I pre s → Has (G (h x) (lf s)) fun l1 => Wp A l1 (gf s) (bodyK (fun l g => ∃ s', l = lf s' ∧ g = gf s' ∧ I (pre ++ [x]) s') Q)) (hq : ∀ s, I xs s → Q .nx (lf s) (gf s)) : Wp (xForL G A (xs.map h)) (lf s0) (gf s0) Q := by
  have key : ∀ (post pre : List α) (s : σ), xs = pre ++ post → I pre s → Wp (xForL G A (post.map h)) (lf s) (gf s) Q := by
    intro post
    induction post with
    | nil =>
      intro pre s e hI
      rw [List.append_nil] at e
      subst e
      exact wp_forNil (hq s hI)
    | cons x post ih =>
      intro pre s e hI
      refine wp_forCons ((hs pre x post s e hI).imp fun l1 hh => ⟨hh.1, wp_mono hh.2 fun o l2 g2 hk => ?_⟩)
      have nxt : (∃ s', l2 = lf s' ∧ g2 = gf s' ∧ I (pre ++ [x]) s') → Wp (xForL G A (post.map h)) l2 g2 Q := by
        rintro ⟨s', rfl, rfl, hI'⟩
        exact ih (pre ++ [x]) s' (by rw [e, List.append_assoc]; rfl) hI'
      cases o with
      | nx => exact nxt hk
      | ct => exact nxt hk
      | bk => exact hk
      | ret v => exact hk
  exact key xs [] s0 rfl h0
/-- a while by a state and a measure -/
theorem wp_while {σ : Type} (lf : σ → Lo) (gf : σ → Sg) (I : σ → Prop) (mu : σ → Nat) (s0 : σ) (h0 : I s0) (hm : mu s0 < 4000000)
    (hs : ∀ s, I s → Wp t (lf s) (gf s) fun p l1 g1 => Br p (Wp A l1 g1 (bodyK (fun l g => ∃ s', l = lf s' ∧ g = gf s' ∧ I s' ∧ mu s' < mu s) Q)) (Q .nx l1 g1)) : Wp (xWhile t A) (lf s0) (gf s0) Q := by
  obtain ⟨o, l', g', e, q⟩ := xWhile_inv (t := t) (x := A) lf gf I mu Q s0 h0 rfl rfl hm (fun s hI => by
    obtain ⟨p, l1, g1, e, q⟩ := hs s hI
    cases p with
    | false => exact .inl ⟨l1, g1, e, q.2 rfl⟩
    | true =>
      obtain ⟨o, l2, g2, e2, q2⟩ := q.1 rfl
      refine .inr ⟨l1, g1, e, ?_⟩
      cases o with
      | nx =>
        obtain ⟨s', rfl, rfl, h1, h2⟩ := q2
        exact .inl ⟨s', .inl e2, h1, h2⟩
      | ct =>
        obtain ⟨s', rfl, rfl, h1, h2⟩ := q2
        exact .inl ⟨s', .inr e2, h1, h2⟩
      | bk => exact .inr (.inl ⟨l2, g2, e2, q2⟩)
      | ret v => exact .inr (.inr ⟨v, l2, g2, e2, q2⟩))
  exact ⟨o, l', g', e, q⟩
end
theorem fok_fn {n : Nat} {x : X} {as : List Vl} {Q : Vl → Sg → Prop} (hl : as ++ List.replicate (n - as.length) .no = l) (h : Wp x l g (retK Q)) : FOk (fnS n x) as g Q := by
  obtain ⟨o, l1, g1, e, q⟩ := h
  unfold FOk fnS
  rw [hl, e]
  cases o with
  | ret v => exact ⟨v, g1, rfl, q⟩
  | nx => exact ⟨_, g1, rfl, q⟩
  | bk => exact q.elim
  | ct => exact q.elim
theorem hasG_nm {Q : Lo → Prop} (hs : SetR l i (.dat d) l1) (q : Q l1) : Has (gNm i d l) Q := ⟨l1, by rw [hs.eq]; rfl, q⟩
theorem hasG_tp {n : Nat} {gs : Gs} {Q : Lo → Prop} (hd : d = .tuple ds) (hn : ds.length = n) (h : Has (gs ds l) Q) : Has (gTp n gs d l) Q := by
  subst hd hn
  obtain ⟨l1, e, q⟩ := h
  exact ⟨l1, by show (if ds.length = ds.length then gs ds l else none) = _; rw [if_pos rfl, e], q⟩
theorem hasG_nil {Q : Lo → Prop} (q : Q l) : Has (gsNil [] l) Q := ⟨l, rfl, q⟩
theorem hasG_cons {G : G} {gs : Gs} {Q : Lo → Prop} (h : Has (G d l) fun l1 => Has (gs ds l1) Q) : Has (gsCons G gs (d :: ds) l) Q := by
  obtain ⟨l1, e1, l2, e2, q⟩ := h
  exact ⟨l2, by show (G d l).bind _ = _; rw [e1]; exact e2, q⟩
/-! ### comprehensions over told things -/
/-- pure in test and element -/
theorem lcw_pure {vs : List Nat} {tg : G} {Q : List PyData → Lo → Sg → Prop} {l0 : Lo} {xs : List α} (h : α → PyData) (q : α → Bool) (f : α → PyData) (hd : ds = xs.map h) (hp : plainAt vs l = true) (hz : xs.length ≤ 4000000) (hw : wipeV l vs = l0)
    (he : ∀ x ∈ xs, Has (tg (h x) l0) fun l1 => backV l l1 vs = l ∧ Wp t l1 g fun p l2 g2 => (p = q x ∧ l2 = l1 ∧ g2 = g) ∧ (q x = true → Wp e l1 g fun y l3 g3 => y = f x ∧ l3 = l1 ∧ g3 = g))
    (hq : Q ((xs.filter q).map f) l g) : LcW vs tg t e ds l g Q := by
  subst hd hw
  refine ⟨_, l, g, lcO_of hp (by rw [List.length_map]; exact hz) ?_, hq⟩
  clear hq hz
  induction xs with
  | nil => rfl
  | cons x xs ih =>
    obtain ⟨l1, e1, e2, p, l2, g2, e3, ⟨rfl, rfl, rfl⟩, e4⟩ := he x List.mem_cons_self
    have ih := ih fun y hy => he y (List.mem_cons_of_mem _ hy)
    rw [List.map_cons, lcL_cons, e1, oo_some, e3, ob_some]
    by_cases hx : q x = true
    · obtain ⟨y, l3, g3, e5, rfl, rfl, rfl⟩ := e4 hx
      rw [if_pos hx, e5, ob_some, e2, ih, ob_some, List.filter_cons_of_pos hx, List.map_cons]
    · rw [if_neg hx, e2, ih, List.filter_cons_of_neg hx]
/-- .. without a test -/
theorem lcw_map {vs : List Nat} {tg : G} {Q : List PyData → Lo → Sg → Prop} {l0 : Lo} {xs : List α} (h : α → PyData) (f : α → PyData) (hd : ds = xs.map h) (hp : plainAt vs l = true) (hz : xs.length ≤ 4000000) (hw : wipeV l vs = l0)
    (he : ∀ x ∈ xs, Has (tg (h x) l0) fun l1 => backV l l1 vs = l ∧ Wp e l1 g fun y l3 g3 => y = f x ∧ l3 = l1 ∧ g3 = g)
    (hq : Q (xs.map f) l g) : LcW vs tg bYes e ds l g Q :=
  lcw_pure h (fun _ => true) f hd hp hz hw (fun x hx => (he x hx).imp fun l1 hh => ⟨hh.1, hh.2.1, wp_bYes ⟨⟨rfl, rfl, rfl⟩, fun _ => hh.2.2⟩⟩) (by rw [List.filter_eq_self.mpr fun _ _ => rfl]; exact hq)
/-- a dict of unlike keys -/
theorem dcw_pure {vs : List Nat} {tg : G} {k : M PyData} {Q : List (Key × PyData) → Lo → Sg → Prop} {l0 : Lo} {xs : List α} (h : α → PyData) (kf : α → Key) (q : α → Bool) (f : α → PyData) (hd : ds = xs.map h) (hp : plainAt vs l = true) (hz : xs.length ≤ 4000000) (hw : wipeV l vs = l0)
    (he : ∀ x ∈ xs, Has (tg (h x) l0) fun l1 => backV l l1 vs = l ∧ Wp t l1 g fun p l2 g2 => (p = q x ∧ l2 = l1 ∧ g2 = g) ∧ (q x = true → Wp k l1 g fun y l3 g3 => (keyO y = some (kf x) ∧ l3 = l1 ∧ g3 = g) ∧ Wp e l1 g fun z l4 g4 => z = f x ∧ l4 = l1 ∧ g4 = g))
    (hn : ((xs.filter q).map kf).Nodup) (hq : Q ((xs.filter q).map fun x => (kf x, f x)) l g) : DcW vs tg t k e ds l g Q := by
  subst hd hw
  refine ⟨hp, by rw [List.length_map]; exact hz, _, l, g, ?_, hq⟩
  have e1 := fold_put (kf := kf) (f := f) (acc := []) hn fun _ _ kv hkv => by cases hkv
  rw [List.nil_append] at e1
  rw [← e1]
  clear hq hz e1 hn
  have key : ∀ acc, lcD vs tg t k e (xs.map h) acc l g = some ((xs.filter q).foldl (fun acc d => putG acc (kf d) (f d)) acc, l, g) := by
    induction xs with
    | nil => intro acc; rfl
    | cons x xs ih =>
      intro acc
      obtain ⟨l1, e1, e2, p, l2, g2, e3, ⟨rfl, rfl, rfl⟩, e4⟩ := he x List.mem_cons_self
      have ih := ih fun y hy => he y (List.mem_cons_of_mem _ hy)
      rw [List.map_cons]
      unfold lcD
      simp only [e1, e3]
      cases hx : q x with
      | true =>
        obtain ⟨y, l3, g3, e5, ⟨e6, rfl, rfl⟩, z, l4, g4, e7, rfl, rfl, rfl⟩ := e4 hx
        simp only [e5, e7, e6, e2, ih, List.filter_cons, hx, if_true, List.foldl_cons]
      | false => simp only [e2, ih, List.filter_cons, hx, Bool.false_eq_true, if_false]
  exact key []
end
end Sm

namespace Sm
open PySem PySem.Spec PyProof.Rows L2 RZ SrtO Dz
/-! ### enumerate of lists and tuples -/
section
variable {K : Kx} {ta : TE} {a : M PyData}
end
/-! ### sets of ints -/
section
variable {K : Kx} {tt : TT} {te : TE} {t : M Bool} {e0 : M PyData} {wi : TI} {it : M (List PyData)} {tg : TG} {gg : G} {vs : List Nat} {w : World} {ta : TE} {a : M PyData} {m : M (List Int)}
/-! ### xs[::-1] -/
end
/-! ### what they surely come to -/
section
variable {l : Lo} {g : Sg} {a : M PyData} {m : M (List Int)} {Q : List PyData → Lo → Sg → Prop}
end
end Sm

namespace Dz
open PySem PySem.SeqAt PyProof.Rows L2 RZ
section
variable {X : Cx} {K : Kx}
theorem k_indexD (K : Kx) (hu : X.A.units + 65 < cLine) (h : X.K = K := by rfl) : MtR X "list.index" (rIndexD K) := h ▸ mt_indexD hu
end
end Dz
namespace Sm
open PySem PySem.Spec PyProof.Rows L2 RZ SrtO Dz
section
variable {K : Kx} {l : Lo} {g : Sg} {s : L2.St} {H S H0 S0 : Hp} {r r0 : List Addr} {A A0 : List (Option Addr)} {p : Addr} {o : HO}
end
/-! ### {k: v} -/
section
variable {K : Kx} {tk tv ta tb : TE} {k v a b : M PyData}
/-! ### sorted(d), keys ints -/
/-! ### tuple * n -/
/-! ### list.index -/
def firstIx (d : PyData) : Nat → List PyData → Option Nat
  | _, [] => none
  | i, z :: r => if PyData.eqv z d = true then some i else firstIx d (i + 1) r
theorem firstIx_some {d : PyData} : ∀ {ds : List PyData} {i j : Nat}, firstIx d i ds = some j → i ≤ j ∧ ∃ z, ds[j - i]? = some z ∧ PyData.eqv z d = true ∧ ∀ (m : Nat) (z' : PyData), m < j - i → ds[m]? = some z' → PyData.eqv z' d = false
  | [], i, j, h => by cases h
  | y :: r, i, j, h => by
    unfold firstIx at h
    by_cases hy : PyData.eqv y d = true
    · rw [if_pos hy] at h
      cases h
      exact ⟨Nat.le_refl _, y, by simp, hy, fun m z' hm => by omega⟩
    · rw [if_neg hy] at h
      obtain ⟨h1, z, h2, h3, h4⟩ := firstIx_some h
      have e : j - i = (j - (i + 1)) + 1 := by omega
      refine ⟨by omega, z, by rw [e]; simpa using h2, h3, fun m z' hm hz => ?_⟩
      cases m with
      | zero => simp at hz; subst hz; simpa using hy
      | succ m => exact h4 m z' (by omega) (by simpa using hz)
def indexD (a b : PyData) : Option PyData := match a with
  | .list ds => if SeqAt.shaped (.list ds) = true ∧ SeqAt.shaped b = true then (firstIx b 0 ds).map fun j => .int (j : Nat) else none
  | _ => none
def eIndex (a b : M PyData) : M PyData := eOp indexD a b
theorem s_index (ha : EvS K ta a) (hb : EvS K tb b) : EvS K (tBM K "list" (rIndexD K) ta (tCons tb tNil)) (eIndex a b) := fun l g d l' g' s H S r A e h Q q => by
  replace e := mb_some e; obtain ⟨x, l1, g1, e1, e⟩ := e
  replace e := mb_some e; obtain ⟨y, l2, g2, e2, e⟩ := e
  replace e := mo_some e; obtain ⟨e, rfl, rfl⟩ := e
  unfold indexD at e
  split at e
  · split at e
    · rename_i ds hsh
      obtain ⟨j, ej, rfl⟩ := Option.map_eq_some_iff.mp e
      obtain ⟨_, z, h2, h3, h4⟩ := firstIx_some ej
      rw [Nat.sub_zero] at h2 h4
      refine ha _ _ _ _ _ s H S r A e1 h _ fun v1 H1 S1 r1 A1 m1 h1 d1 => ⟨?_, ?_⟩
      · cases d1 with
        | lst k1 k2 => exact .inl ⟨rfl, _, h1.hs.seq k1⟩
      · refine hb _ _ _ _ _ s H1 S1 r1 A1 e2 h1 _ fun v2 H2 S2 r2 A2 m2 h2' d2 => ?_
        cases d1 with
        | lst k1 k2 => exact ⟨_, _, _, _, j, z, rfl, rfl, .lst (h2'.hs.seq (m2.s.seq k1)) (DpAll_mono k2 (m2.s.trans h2'.hs)), Dp_mono d2 h2'.hs, hsh.1, hsh.2, h2, h3, h4, q _ H2 S2 r2 A2 (m1.trans m2) h2' (.int _)⟩
    · cases e
  · cases e
end
section
variable {l : Lo} {g : Sg} {a b k v : M PyData}
theorem wp_eIndex {Q : PyData → Lo → Sg → Prop} (h : Wp a l g fun x l1 g1 => Wp b l1 g1 fun y l2 g2 => Has (indexD x y) fun z => Q z l2 g2) : Wp (eIndex a b) l g Q := wp_eOp h
end
end Sm

namespace Dz
open PySem PySem.Spec PySem.SeqAt PyProof.Rows L2 RZ
/-! ### sorted(xs), xs a list of pairs of ints -/
inductive F2 {α β : Type} (R : α → β → Prop) : List α → List β → Prop
  | nil : F2 R [] []
  | cons {x : α} {y : β} {xs : List α} {ys : List β} : R x y → F2 R xs ys → F2 R (x :: xs) (y :: ys)
def lexLe (p q : Int × Int) : Prop := p.1 < q.1 ∨ (p.1 = q.1 ∧ p.2 ≤ q.2)
instance (p q : Int × Int) : Decidable (lexLe p q) := inferInstanceAs (Decidable (_ ∨ _))
section
variable {X : Cx}
end
end Dz
namespace Sm
open PySem PySem.Spec PyProof.Rows L2 RZ SrtO Dz
section
variable {K : Kx} {S : Hp}
end
end Sm

/-! SmH: functions as values; sorted by keys. -/
namespace Dz
open PySem PySem.Spec PyProof.Rows L2 RZ LamX
/-- a def by its body, its code object known -/
theorem okC {P : Program} {w : World} {K : PySem.W.Frag} {mg : Str → Option Value} {base : Heap} {x qual : Str} {st : Stmt} {f : Addr} {fd : FuncData} {cd : Value} {N ps : List Str} {k : Nat} {sp : Sp} (F : Fun K x qual st f fd) (hc : fd.code = cd) (S : FnScope N ps (defScope st)) (len : ∀ vs H Q E, sp vs H Q E → vs.length = ps.length)
    (hbody : ∀ (A : Around) (outer : List PySem.Env) (s : Shared) (H : Hp) (vs : List V) (Q : VK) (E : XK), Room k (A.deeper (envOfC qual (defScope st) s.heap.objs.size f cd)) → sp vs H Q E →
      ∃ t, PSs (cxOf CX0 P w K mg base N qual (defScope st) f cd A outer s H E).nox (defBody st) t ∧ t { nx := fun _ H' => Q .non H', rt := Q } (start N vs) H) : FnOk P w K mg base CX0 (k + 1) f fd ps sp := by
  obtain ⟨oc, od, kV, doc, pm, an, cdv, ct, osl, rfl, lk, hcd⟩ := F.ex
  obtain rfl : cdv = cd := hc
  refine fn_of lk hcd S len fun A outer s H vs Q E hr hsp => ?_
  obtain ⟨t, h, q⟩ := hbody A outer s H vs Q E hr hsp
  exact ⟨t, h.nox, q⟩
end Dz
namespace Sm
open PySem PySem.Spec PyProof.Rows L2 RZ SrtO Dz
section
variable {K : Kx} {l : Lo} {g : Sg} {s : L2.St} {H S H1 S1 : Hp} {r : List Addr} {A : List (Option Addr)} {i : Nat}
theorem StOk.gTab (h : StOk K l g s H S r A) (q : GrowT (isTab S H) S H S1 H1) (tb : TabsOk K S1 H1) : StOk K l g s H1 S1 r A ∧ Mv K S H r A S1 H1 r A :=
  h.call (q.mono fun _ z => .inr z) ⟨[], by simp⟩ h.rn (fun _ z => .inl z) h.lg (fun j a o e1 e2 => by
    obtain ⟨q1, q2⟩ := h.st j a o e1 e2
    exact ⟨q.n a q1 q2.there, q2.go q.s (fun b z hb e => q.k b z (by
      rcases hb with rfl | rfl
      · exact h.apartR (List.mem_of_getElem? e1)
      · intro z
        obtain ⟨_, ps, hz⟩ := z
        rw [e] at hz
        cases hz) e) ⟨[], by simp⟩⟩) tb
/-- a slot of which nothing is known -/
theorem StOk.any (h : StOk K l g s H S r A) (e : l[i]? = some .no) (x : Option V) : StOk K l g (s.set i x) H S r A :=
  ⟨h.hs, h.la, by rw [List.length_set]; exact h.ls, fun j z ej => by
    obtain ⟨o, v, q1, q2, q3⟩ := h.ok j z ej
    by_cases hij : i = j
    · subst hij
      rw [e] at ej
      cases ej
      exact ⟨o, x, q1, by rw [List.getElem?_set_self (List.getElem?_eq_some_iff.mp q2).1], q3⟩
    · exact ⟨o, v, q1, by rw [List.getElem?_set_ne hij]; exact q2, q3⟩, h.ij, h.dr, h.rn, h.lg, h.st, h.tb⟩
end
/-! ### a lambda as a value, a call of what a slot holds -/
def vLam (F : List PyData → Option PyData) : M Vl := mp (.fn F)
def eCallF (i : Nat) (a : M (List PyData)) : M PyData := fun l g => match l[i]? with
  | some (.fn F) => mb a (fun xs => mo (F xs)) l g
  | _ => none
section
variable {K : Kx} {ta : TA} {a : M (List PyData)} {i : Nat}
theorem s_lam {F : List PyData → Option PyData} : EvV K (tLamV K F) (vLam F) := fun l g d l' g' s H S r A e h Q q => by
  obtain ⟨rfl, rfl, rfl⟩ := mp_some e
  refine ⟨S, h.hs, h.tb, fun v S1 H1 gr tb hv => ?_⟩
  obtain ⟨h1, m1⟩ := h.gTab gr tb
  exact q v H1 S1 r A m1 h1 hv
theorem s_callF (ha : EvA K ta a) : EvS K (tCallF K i ta) (eCallF i a) := fun l g d l' g' s H S r A e h Q q => by
  unfold eCallF at e
  split at e
  · rename_i F hl
    obtain ⟨o, v, e1, e2, e3, w, rfl, e4⟩ := h.ok i _ hl
    replace e := mb_some e; obtain ⟨xs, l1, g1, k1, e⟩ := e
    replace e := mo_some e; obtain ⟨e, rfl, rfl⟩ := e
    refine ⟨w, S, F, e2, e4, h.hs, ha _ _ _ _ _ s H S r A k1 h _ fun vs H1 S1 r1 A1 m1 h1 d1 => ⟨S1, m1.s, xs, d, h1.hs, h1.tb, d1, e, fun w S2 H2 gr tb2 dp => ?_⟩⟩
    obtain ⟨h2, m2⟩ := h1.gTab gr tb2
    exact q w H2 S2 r1 A1 (m1.trans m2) h2 dp
  · cases e
/-- a function of data by what its body comes to: n, its slots -/
def lamF (n m : Nat) (b : M PyData) : List PyData → Option PyData := fun ds => if ds.length = m then (b (ds.map .dat ++ List.replicate (n - ds.length) .no) []).map (·.1) else none
theorem lamF_len {n m : Nat} {b : M PyData} : ∀ ds d, lamF n m b ds = some d → ds.length = m := fun ds d e => by
  unfold lamF at e
  split at e
  · rename_i h; exact h
  · cases e
end
theorem vs_of {K : Kx} {S : Hp} {r : List Addr} : ∀ (ds : List PyData) (vs : List V), DpAll K S vs ds → VsOk K S r vs (ds.map .dat)
  | [], _, .nil => .nil
  | d :: ds, _, .cons h1 h2 => .cons h1 (vs_of ds _ h2)
/-- the body's reading keeps the promise -/
theorem lam_body {K : Kx} {te : TE} {b : M PyData} {N : List Str} {n m : Nat} {vs : List V} {H : Hp} {Q : VK} {E : XK} (hb : EvS K te b) (hN : N.length = n) (h : spL K (lamF n m b) vs H Q E) : te (L2.start N vs) H Q := by
  obtain ⟨S, ds, d, hs, tb, hd, e, q⟩ := h
  subst hN
  unfold lamF at e
  split at e
  · rename_i hn
    obtain ⟨⟨d', l', g'⟩, e1, rfl⟩ := Option.map_eq_some_iff.mp e
    have hv : VsOk K S [] vs (ds.map .dat) := vs_of ds vs hd
    have st := start_ok (N := N) (g := []) hs ⟨List.nodup_nil, rfl, fun j a o e => by simp at e, tb⟩ hv
    rw [List.length_map] at st
    refine hb _ _ _ _ _ _ H S [] _ e1 st _ fun v H1 S1 r1 A1 m1 h1 d1 => q v S1 H1 ⟨m1.s, m1.h, fun a e1 e2 => ?_, fun a o hn e => m1.k a o (fun z => ?_) e, m1.d, fun a ps e => ?_⟩ h1.tb d1
    · by_cases ht : isTab S H a
      · exact (m1.t a ht).1
      · refine m1.n a e1 e2 fun z => ?_
        rcases z with z | z | z
        · exact absurd (List.eq_of_mem_replicate z) (by simp)
        · cases z
        · exact ht z
    · rcases z with z | z | z
      · exact absurd (List.eq_of_mem_replicate z) (by simp)
      · cases z
      · exact hn z
    · by_cases ht : S a = none
      · exact (m1.t a ⟨ht, ps, e⟩).2
      · obtain ⟨u, hu⟩ := ne_some ht
        have e2 := hs a u hu
        rw [e] at e2
        cases e2
        exact ⟨ps, m1.h a _ (m1.s a _ hu)⟩
  · cases e
/-! ### sorted by keys -/
theorem dp_zip {K : Kx} {S : Hp} : ∀ {ds : List PyData} {xs : List V}, DpAll K S xs ds → ∀ p ∈ xs.zip ds, Dp K S p.1 p.2
  | [], _, .nil, p, hp => (nomatch hp)
  | d :: ds, _, .cons h1 h2, p, hp => by
    rcases List.mem_cons.mp hp with rfl | hp
    · exact h1
    · exact dp_zip h2 p hp
/-! ### the closing, with tables -/
def spLawT (K : PySem.W.Frag) (ts : List Addr) : Sp := fun vs H Q _ => ∃ (a : Addr) (ns : List Int), vs = [.ref a] ∧ SqL K H a (ns.map V.int) ∧ ns.length ≤ 63 ∧ (∀ b ∈ ts, H b = some (.tbl #[])) ∧ ∀ H', Q (.bl true) H'
theorem law_ofT {P : Program} {w : World} {K : PySem.W.Frag} {mg : Str → Option Value} {base : Heap} {lv k : Nat} {tb : List (Addr × Str)} {f : Addr} {fd : FuncData} {ps : List Str} {F : FS} (h : FnOk P w K mg base CX0 k f fd ps (spG (kX P w K mg base lv tb) 1 F)) (hF : ∀ ns : List Int, ns.length ≤ 63 → ∃ g, F [.dat (.list (ns.map .int))] [] = some (.dat (.bool true), g)) : FnOk P w K mg base CX0 k f fd ps (spLawT K (tb.map (·.1))) :=
  (law_of (K := kX P w K mg base lv tb) h hF).imp fun vs H Q E ⟨a, ns, e, hS, hl, ht, q⟩ => ⟨a, ns, e, hS, hl, fun b ⟨p, hp, e⟩ => ht b (List.mem_map.mpr ⟨p, hp, e⟩), q⟩
/-- the tables of the defs that make lambdas: name, code object, table -/
def qLam (x : Str) : Str := x ++ ".<locals>." ++ "<lambda>"
def tabsOf (cs : List (Str × Addr × Addr)) : List (Addr × Str) := cs.map fun p => (p.2.2, qLam p.1)
theorem tabAt_of {P : Program} {w : World} {K : PySem.W.Frag} {mg : Str → Option Value} {base : Heap} {lv : Nat} {cs : List (Str × Addr × Addr)} (h : ∀ p ∈ cs, LamX.TabB base mg p.2.1 p.2.2) (nd : (cs.map (·.2.2)).Nodup) {p : Str × Addr × Addr} (hp : p ∈ cs) : TabAt (kX P w K mg base lv (tabsOf cs)) (.ref p.2.1) (qLam p.1) := by
  refine ⟨p.2.1, p.2.2, rfl, h p hp, List.mem_map.mpr ⟨p, hp, rfl⟩, fun z hz e => ?_⟩
  obtain ⟨p', hp', rfl⟩ := List.mem_map.mp hz
  have e : p'.2.2 = p.2.2 := e
  have key : ∀ {cs : List (Str × Addr × Addr)}, (cs.map (·.2.2)).Nodup → p ∈ cs → p' ∈ cs → p' = p := by
    intro cs
    induction cs with
    | nil => intro _ h; cases h
    | cons c cs ih =>
      intro nd h1 h2
      rw [List.map_cons, List.nodup_cons] at nd
      rcases List.mem_cons.mp h1 with rfl | h1
      · rcases List.mem_cons.mp h2 with h2 | h2
        · exact h2
        · exact absurd (List.mem_map.mpr ⟨p', h2, e⟩) nd.1
      · rcases List.mem_cons.mp h2 with h3 | h2
        · rw [← h3] at nd
          exact absurd (List.mem_map.mpr ⟨p, h1, e.symm⟩) nd.1
        · exact ih nd.2 h1 h2
  rw [key nd hp hp']
theorem walkT {l : PySem.W.OpenLaw} {k : Nat} {q : Program} {loose : List Str} {XP : (Str → Option Value) → Heap → Prop} {YP : World → Heap → Prop} {d : DefRec} {K : Params → PySem.W.Frag} {x : Str} (hn : l.most = some 63) (hdf : d.params.defaults = []) (hr : Room k callerA) (hY : ∀ (w : World) (h : Heap), YP w h → (K w.params).In h)
    (F : ∀ (w : World) (mg : Str → Option Value) (fa : Addr) (h : Heap), (K w.params).In h → h.Ns mainGlobals mg → mg d.name = some (.ref fa) →
      ∃ (fd : FuncData) (cs : List (Str × Addr × Addr)), PySem.W.noTabs (K w.params) = true ∧ (∀ p ∈ cs, PySem.W.tabIn (K w.params) p.1 = some p.2 ∧ ∃ dr, (recsOf q).find? (fun e => e.name == p.1) = some dr) ∧ (∀ (s : Shared) (u : Value), BindsTo s fd ⟨[u], []⟩ [(x, u)]) ∧
        ∀ base : Heap, (K w.params).In base → base.Ns mainGlobals mg → (∀ p ∈ cs, LamX.TabB base mg p.2.1 p.2.2) → FnOk l.prog w (K w.params) mg base CX0 k fa fd [x] (spLawT (K w.params) (cs.map (·.2.2)))) :
    PySem.W.WalkO q loose XP YP l.row.toRowW d [] (fun f vs => PySem.call f vs) := by
  refine Att.attach_callB hn hdf fun w s₀ s₁ mg mb fa o pm cd doc a vs ns G Y ho hd hcd hmg hobj hints hlen hbits hg => ?_
  have KX := hY w _ Y
  obtain ⟨fd, cs, hno, hcs, hb, hF⟩ := F w mg fa _ KX G.T.g hmg
  have hall : ∀ p ∈ cs, PySem.W.CodeHd s₁.heap p.2.1 p.2.2 ∧ s₁.heap.get? p.2.2 = some (PySem.W.tabObj #[]) := fun p hp => by
    obtain ⟨h1, dr, h2⟩ := hcs p hp
    exact PySem.W.tab_of G.T KX h2 h1
  have hmem : ∀ p ∈ cs.map (·.2), ∃ z ∈ cs, z.2 = p := fun p hp => List.mem_map.mp hp
  refine LamX.law_callTs (cs := cs.map (·.2)) KX G.T.g G.T.b G.T.builtins G.T.nolimit hg (fun p hp => ?_) (fun p hp => ?_) (fun p hp => ?_) G.T.bmain hobj hints (Nat.le_trans hlen (by decide)) hr (fun base h1 h2 h3 => hF base h1 h2 fun p hp => h3 _ (List.mem_map.mpr ⟨p, hp, rfl⟩)) hb (fun H hH hS => ⟨a, ns, rfl, hS, hlen, fun b hb => ?_, fun _ => rfl⟩) fun H e s' h => h
  · obtain ⟨z, hz, rfl⟩ := hmem p hp
    exact (hall z hz).2
  · obtain ⟨z, hz, rfl⟩ := hmem p hp
    cases e : (K w.params).lookup z.2.2 with
    | none => rfl
    | some o =>
      have e2 := KX _ _ e
      rw [(hall z hz).2] at e2
      have h2 := List.all_eq_true.mp hno _ (PySem.W.mem_of_lookupK e)
      cases e2
      exact absurd (show false = true from h2) Bool.false_ne_true
  · obtain ⟨z, hz, rfl⟩ := hmem p hp
    exact (hall z hz).1
  · obtain ⟨z, hz, rfl⟩ := List.mem_map.mp hb
    exact hH z.2 (List.mem_map.mpr ⟨z, hz, rfl⟩)
theorem code_of {K : PySem.W.Frag} {h : Heap} {mg : Str → Option Value} {x : Str} {st : Stmt} {f c T0 : Addr} {fd : FuncData} (X : K.In h) (G : h.Ns mainGlobals mg) (F : Fun K x x st f fd) (hm : mg x = some (.ref f)) (ht : PySem.W.tabIn K x = some (c, T0)) : fd.code = .ref c := by
  obtain ⟨oc, od, kV, doc, pm, an, cdv, ct, osl, rfl, lk, _⟩ := F.ex
  exact PySem.W.law_code X G ht hm (X _ _ lk) rfl
end Sm

/-! SmI: dicts handed back; what the words of SmH surely come to. -/
namespace Sm
open PySem PySem.Spec PyProof.Rows L2 RZ SrtO Dz
/-! ### a dict of one's own is handed back: it stands in the store from then on -/
def xRetD (i : Nat) : X := fun l g => match l[i]? with
  | some (.dct kvs) => some (.ret (.ref g.length), l.set i .no, g ++ [.dct kvs])
  | _ => none
open Classical in
/-- F(..)[x], F handing back a new dict, x in slot i: the dict is forgotten at once -/
noncomputable def eCallDg (F : FS) (a : M (List Vl)) (i : Nat) : M PyData := mb a fun xs => fun l g => match F xs g, l[i]? with
  | some (.ref j, g1), some (.dat d) => (match g1[j]?, keyO d with
    | some (.dct kvs), some k => if j + 1 = g1.length ∧ g1.take j = g then (valG kvs k).map fun z => (z, l, g1.take j) else none
    | _, _ => none)
  | _, _ => none
section
variable {K : Kx} {i : Nat}
theorem x_retD : ExS K (tRet (tVar i)) (xRetD i) := fun l g o l' g' s H S r A e h D q => by
  unfold xRetD at e
  split at e
  case h_2 => cases e
  rename_i kvs hl
  cases e
  obtain ⟨oo, v, e1, e2, a, rfl, rfl, hS, ws, hw, hkv⟩ := h.ok i _ hl
  have hil : i < l.length := (List.getElem?_eq_some_iff.mp hl).1
  have haA : some a ∈ A := List.mem_of_getElem? e1
  have ntr : ¬ tr S H (A.set i none) r a := fun z => by
    rcases z with z | z | z
    · obtain ⟨m, hm⟩ := List.mem_iff_getElem?.mp z
      by_cases him : i = m
      · subst him
        rw [List.getElem?_set_self (by rw [h.la]; exact hil)] at hm
        cases hm
      · rw [List.getElem?_set_ne him] at hm
        exact him (h.ij i m a e1 hm)
    · exact h.dr a haA z
    · exact h.apartA haA z
  have h2 := (h.drop (i := i)).newR (o := .dct kvs) ntr hS ⟨ws, hw, hkv⟩
  refine ⟨_, e2, ?_⟩
  refine q s H S (r ++ [a]) (A.set i none) ⟨Same.refl S, h.hs, fun _ e _ _ => e, fun _ _ _ e => e, fun _ e => e, ⟨[a], rfl⟩, fun b z => ?_, tKeep⟩ h2 (.ref a) ⟨a, by rw [← h.lg, List.getElem?_append_right (Nat.le_refl _)]; simp, rfl⟩
  rcases z with z | z | z
  · exact .inl (trset (.inl z))
  · rcases List.mem_append.mp z with z | z
    · exact .inl (.inr (.inl z))
    · rw [List.mem_singleton.mp z]
      exact .inl (.inl haA)
  · exact .inl (.inr (.inr z))
theorem s_callDg {F : FS} {n : Nat} {E : XK} {ta : TA} {m : M (List Vl)} (ha : EvVA K ta m) (hn : ∀ l g xs l' g', m l g = some (xs, l', g') → xs.length = n) : EvS K (tDGet (tCall (spG K n F) [] E ta) (tVar i)) (eCallDg F m i) := fun l g d l' g' s H S r A e h Q q => by
  replace e := mb_some e; obtain ⟨xs, l1, g1, k1, e⟩ := e
  split at e
  case h_2 => cases e
  rename_i j g2 kd eF hl
  split at e
  case h_2 => cases e
  rename_i kvs kk hj hk
  split at e
  case isFalse => cases e
  rename_i hlen
  obtain ⟨z, ez, e⟩ := Option.map_eq_some_iff.mp e
  cases e
  refine ha _ _ _ _ _ s H S r A k1 h _ fun vs H1 S1 r1 A1 m1 h1 d1 => ?_
  show spG K n F (vs ++ []) H1 _ E
  rw [List.append_nil]
  refine call_at h1 d1 (hn _ _ _ _ _ k1) eF fun w H2 S2 r2 m2 h2 hw => ?_
  obtain ⟨a, hra, rfl⟩ := hw
  obtain ⟨o, v, e1, e2, e3, w, rfl, e4⟩ := h2.ok i _ hl
  obtain ⟨hSa, ws, hws, hkv⟩ := h2.st j a _ hra hj
  cases keyO_some hk
  obtain ⟨u, hu, hd⟩ := hkv.val.1 _ ez
  refine ⟨_, e2, a, u, rfl, .inl ⟨ws, kk, .inl hws, key_dp e4, hu.symm⟩, ?_⟩
  have hr2 : r2.length = j + 1 := by rw [h2.lg]; omega
  have hp1 : ∃ q, r2.take j = r1 ++ q := by
    obtain ⟨q2, e5⟩ := m2.p
    have hle : r1.length ≤ j := by rw [h1.lg, ← hlen.2, List.length_take]; omega
    exact ⟨q2.take (j - r1.length), by rw [e5, List.take_append, List.take_of_length_le hle]⟩
  have htk : ∃ q, r2.take j = r ++ q := by
    obtain ⟨q1, e6⟩ := m1.p
    obtain ⟨q2, e5⟩ := hp1
    exact ⟨q1 ++ q2, by rw [e5, e6, List.append_assoc]⟩
  have sub : ∀ b, b ∈ r2.take j → b ∈ r2 := fun b hb => List.mem_of_mem_take hb
  have h3 : StOk K l' (g2.take j) s H2 S2 (r2.take j) A1 := by
    refine ⟨h2.hs, h2.la, h2.ls, fun y x ex => ?_, h2.ij, fun b hb z => h2.dr b hb (sub b z), h2.rn.sublist (List.take_sublist _ _), ?_, fun y b o f1 f2 => ?_, h2.tb⟩
    · obtain ⟨o, v, f1, f2, f3⟩ := h2.ok y x ex
      refine ⟨o, v, f1, f2, ?_⟩
      cases x with
      | ref t =>
        obtain ⟨o', v', f7, f8, f4, b, f5, f6⟩ := h1.ok y _ ex
        rw [f1] at f7
        rw [f2] at f8
        cases f7
        cases f8
        obtain ⟨q2, e5⟩ := hp1
        exact ⟨f4, b, by rw [e5, List.getElem?_append_left (List.getElem?_eq_some_iff.mp f5).1]; exact f5, f6⟩
      | no => exact f3
      | dat d => exact f3
      | own ds => exact f3
      | dct ds => exact f3
      | dnk ds => exact f3
      | fn F => exact f3
      | xt ds => exact f3
    · rw [List.length_take, List.length_take, h2.lg]
    · have hy : y < j := by
        have := (List.getElem?_eq_some_iff.mp f1).1
        rw [List.length_take] at this
        omega
      rw [List.getElem?_take_of_lt hy] at f1 f2
      refine ⟨(h2.st y b o f1 f2).1, ?_⟩
      have f3 := (h2.st y b o f1 f2).2
      have hg1 : g1[y]? = some o := by rw [← hlen.2, List.getElem?_take_of_lt hy]; exact f2
      cases o with
      | lst ds => exact f3
      | dct ds => exact f3
      | dnk ds => exact f3
      | ins C fs =>
        obtain ⟨cls, dx, vs, p0, p1, p2, p3⟩ := f3
        refine ⟨cls, dx, vs, p0, p1, p2, ?_⟩
        obtain ⟨q2, e5⟩ := hp1
        obtain ⟨q3, e7⟩ := m2.p
        have hyr : y < r1.length := by rw [h1.lg]; exact (List.getElem?_eq_some_iff.mp hg1).1
        have hb1 : r1[y]? = some b := by rw [e7, List.getElem?_append_left hyr] at f1; exact f1
        obtain ⟨_, cls', dx', vs', _, _, _, p4⟩ := h1.st y b _ hb1 hg1
        have key : ∀ {vs vs' : List (Str × V)} {fs : List (Str × Fv)}, FsOk K S2 r2 vs fs → FsOk K S1 r1 vs' fs → FsOk K S2 (r2.take j) vs fs := by
          intro vs vs' fs a
          induction a generalizing vs' with
          | nil => intro _; exact .nil
          | @cons x w xs ws hq _ ih =>
            intro c
            cases c with
            | cons hq' c' =>
              refine .cons ⟨hq.1, ?_⟩ (ih c')
              obtain ⟨n, w2⟩ := w
              cases w2 with
              | dat d => exact hq.2
              | ref t =>
                obtain ⟨b1, k1, k2⟩ := hq.2
                obtain ⟨b2, k3, k4⟩ := hq'.2
                have ht : t < r1.length := (List.getElem?_eq_some_iff.mp k3).1
                refine ⟨b1, ?_, k2⟩
                rw [e5, List.getElem?_append_left ht]
                rw [e7, List.getElem?_append_left ht] at k1
                exact k1
        exact key p3 p4
  refine q u H2 S2 (r2.take j) A1 ?_ h3 hd
  have mm := m1.trans m2
  exact ⟨mm.s, mm.h, mm.n, mm.k, mm.d, htk, fun b z => mm.f b (z.imp id fun z => z.imp (sub b) id), mm.t⟩
end
section
variable {l l1 : Lo} {g g1 : Sg} {i : Nat}
theorem wp_vLam {F : List PyData → Option PyData} {m : M (List Vl)} {Q : List Vl → Lo → Sg → Prop} (q : Wp m l g fun xs l2 g2 => Q (.fn F :: xs) l2 g2) : Wp (vCons (vLam F) m) l g Q := wp_mb (wp_mp (wp_mb (wp_mono q fun _ _ _ h => wp_mp h)))
theorem wp_eCallF {F : List PyData → Option PyData} {a : M (List PyData)} {Q : PyData → Lo → Sg → Prop} (h : l[i]? = some (.fn F)) (h2 : Wp a l g fun xs l1 g1 => Has (F xs) fun z => Q z l1 g1) : Wp (eCallF i a) l g Q := by
  obtain ⟨xs, l1, g1, e, z, hz, q⟩ := h2
  refine ⟨z, l1, g1, ?_, q⟩
  unfold eCallF
  rw [h]
  show mb a (fun xs => mo (F xs)) l g = _
  unfold mb
  rw [e]
  show mo (F xs) l1 g1 = _
  unfold mo
  rw [hz]
theorem wp_retD {kvs : List (Key × PyData)} {Q : Out → Lo → Sg → Prop} (h : l[i]? = some (.dct kvs)) (q : Q (.ret (.ref g.length)) (l.set i .no) (g ++ [.dct kvs])) : Wp (xRetD i) l g Q := ⟨_, _, _, by unfold xRetD; rw [h], q⟩
theorem wp_callDg {F : FS} {a : M (List Vl)} {Q : PyData → Lo → Sg → Prop} (h : Wp a l g fun xs l1 g1 => FOk F xs g1 fun v g2 => ∃ kvs kd k z, v = .ref g1.length ∧ g2 = g1 ++ [.dct kvs] ∧ l1[i]? = some (.dat kd) ∧ keyO kd = some k ∧ valG kvs k = some z ∧ Q z l1 g1) : Wp (eCallDg F a i) l g Q := by
  obtain ⟨xs, l1, g1, e, v, g2, eF, kvs, kd, k, z, rfl, rfl, h1, h2, h3, q⟩ := h
  refine ⟨z, l1, g1, ?_, q⟩
  unfold eCallDg mb
  rw [e]
  dsimp only
  rw [eF, h1]
  dsimp only
  have e2 : (g1 ++ [Ob.dct kvs])[g1.length]? = some (.dct kvs) := by rw [List.getElem?_append_right (Nat.le_refl _)]; simp
  rw [e2, h2]
  dsimp only
  rw [if_pos ⟨by simp, by rw [List.take_left']; rfl⟩, h3, Option.map_some, List.take_left']
  rfl
end
theorem tab_in {K : PySem.W.Frag} {x : Str} {f c T0 : Addr} {oc oc' : Value} {od od' : Option Addr} {fd : FuncData} {sl sl' : Array (Option Value)} {vs : Array Value} (a : PySem.W.nsIn K mainGlobals x = some (some (.ref f))) (l : K.lookup f = some ⟨oc, od, .func fd, sl⟩) (hc : fd.code = .ref c) (lc : K.lookup c = some ⟨oc', od', .fields vs, sl'⟩) (hv : vs[11]? = some (.ref T0)) : PySem.W.tabIn K x = some (c, T0) := by
  unfold PySem.W.tabIn
  rw [a]
  dsimp only
  rw [l]
  dsimp only
  rw [hc]
  dsimp only
  rw [lc]
  dsimp only
  rw [hv]
theorem lamF_wp {n m : Nat} {b : M PyData} {ds : List PyData} {d : PyData} {l : Lo} (hm : ds.length = m) (hl : ds.map .dat ++ List.replicate (n - ds.length) .no = l) (h : Wp b l [] fun z _ _ => z = d) : lamF n m b ds = some d := by
  obtain ⟨z, l', g', e, rfl⟩ := h
  unfold lamF
  rw [if_pos hm, hl, e]
  rfl
end Sm

/-! SmJ: objects of own classes in the store: fields, methods, new ones. -/
namespace Dz
open PySem PySem.Spec PySem.SeqAt PyProof.Rows L2 RZ LamX
structure CalM (P : Program) (w : World) (K : PySem.W.Frag) (mg : Str → Option Value) (base : Heap) (k : Nat) (C m : Str) (ps : List Str) (dv : List V) (sp : Sp) : Prop where
  ex : ∃ cls f fd ds, mg C = some (.ref cls) ∧ Cls K cls ∧ Meth K cls m f ∧ FnOk P w K mg base CX0 k f fd ps sp ∧ Vals dv ds ∧ Binds K fd ps ds
structure CalMK (P : Program) (w : World) (K : PySem.W.Frag) (mg : Str → Option Value) (base : Heap) (k : Nat) (C m : Str) (ps : List Str) (n : Nat) (ks : List Str) (gV : List V → List V → List V) (sp : Sp) : Prop where
  ex : ∃ cls f fd g, mg C = some (.ref cls) ∧ Cls K cls ∧ Meth K cls m f ∧ FnOk P w K mg base CX0 k f fd ps sp ∧ KBn K fd ps (n + 1) ks g gV
structure CalI (P : Program) (w : World) (K : PySem.W.Frag) (mg : Str → Option Value) (base : Heap) (k : Nat) (C : Str) (ps : List Str) (dv : List V) (sp : Sp) : Prop where
  ex : ∃ cls f fd ds, mg C = some (.ref cls) ∧ Mk K cls f ∧ FnOk P w K mg base CX0 k f fd ps sp ∧ Vals dv ds ∧ Binds K fd ps ds
structure CalIK (P : Program) (w : World) (K : PySem.W.Frag) (mg : Str → Option Value) (base : Heap) (k : Nat) (C : Str) (ps : List Str) (n : Nat) (ks : List Str) (gV : List V → List V → List V) (sp : Sp) : Prop where
  ex : ∃ cls f fd g, mg C = some (.ref cls) ∧ Mk K cls f ∧ FnOk P w K mg base CX0 k f fd ps sp ∧ KBn K fd ps (n + 1) ks g gV
section
variable {P : Program} {w : World} {K : PySem.W.Frag} {mg : Str → Option Value} {base : Heap} {j k n : Nat} {C m : Str} {ps ks : List Str} {dv : List V} {sp : Sp} {gV : List V → List V → List V}
theorem CalM.mono (c : CalM P w K mg base j C m ps dv sp) (h : j ≤ k) : CalM P w K mg base k C m ps dv sp := let ⟨cls, f, fd, ds, a, b, d, e, q⟩ := c.ex; ⟨cls, f, fd, ds, a, b, d, e.mono h, q⟩
theorem CalMK.mono (c : CalMK P w K mg base j C m ps n ks gV sp) (h : j ≤ k) : CalMK P w K mg base k C m ps n ks gV sp := let ⟨cls, f, fd, ds, a, b, d, e, q⟩ := c.ex; ⟨cls, f, fd, ds, a, b, d, e.mono h, q⟩
theorem CalI.mono (c : CalI P w K mg base j C ps dv sp) (h : j ≤ k) : CalI P w K mg base k C ps dv sp := let ⟨cls, f, fd, ds, a, b, e, q⟩ := c.ex; ⟨cls, f, fd, ds, a, b, e.mono h, q⟩
theorem CalIK.mono (c : CalIK P w K mg base j C ps n ks gV sp) (h : j ≤ k) : CalIK P w K mg base k C ps n ks gV sp := let ⟨cls, f, fd, ds, a, b, e, q⟩ := c.ex; ⟨cls, f, fd, ds, a, b, e.mono h, q⟩
end
section
variable {X : Cx} {κ : Kx} {k n : Nat} {C m : Str} {ps ks : List Str} {dv : List V} {sp : Sp} {gV : List V → List V → List V} {p pos apos : Pos} {o e : Expr} {es : List Expr} {kws : List Keyword} {ta : TE} {t tk : TA} {pl : Sem Bool}
end
end Dz
namespace Sm
open PySem PySem.Spec PyProof.Rows L2 RZ SrtO Dz
/-! ### handles -/
def fsO (C : Str) : Ob → Option (List (Str × Fv))
  | .ins D fs => if D = C then some fs else none
  | _ => none
def fsAt (g : Sg) (j : Nat) (C : Str) : Option (List (Str × Fv)) := (g[j]?).bind (fsO C)
def fvR : Option Fv → Option Nat
  | some (.ref k) => some k
  | _ => none
def hF (h : M Nat) (C f : Str) : M Nat := mb h fun j => mg fun _ g => (fsAt g j C).bind fun fs => fvR (fs.lookup f)
def putFv (f : Str) (v : Fv) : List (Str × Fv) → List (Str × Fv)
  | [] => [(f, v)]
  | (k, x) :: r => if k = f then (k, v) :: r else (k, x) :: putFv f v r
section
variable {K : Kx} {te ta tb tc : TE} {h h2 h3 : M Nat} {C f f2 f3 : Str} {a b c : M PyData}
theorem FsOk.put {S : Hp} {r : List Addr} {vs : List (Str × V)} {fs : List (Str × Fv)} {x : Fv} {v : V} (q : FsOk K S r vs fs) (hx : FvOk K S r x v) : FsOk K S r (putF f v vs) (putFv f x fs) := by
  unfold FsOk at q
  induction q with
  | nil => exact .cons ⟨rfl, hx⟩ .nil
  | @cons w y vs fs hq q0 ih =>
    show FsOk K S r (if w.1 = f then (w.1, v) :: vs else (w.1, w.2) :: putF f v vs) (if y.1 = f then (y.1, x) :: fs else (y.1, y.2) :: putFv f x fs)
    rw [hq.1]
    split
    · exact .cons ⟨rfl, hx⟩ q0
    · exact .cons ⟨rfl, hq.2⟩ ih
theorem FsOk.len {S : Hp} {r : List Addr} {vs : List (Str × V)} {fs : List (Str × Fv)} (q : FsOk K S r vs fs) : vs.length = fs.length := paired_len q
end
end Sm

/-! SmK: dicts and lists behind handles, methods, new objects. -/
namespace Sm
open PySem PySem.Spec PyProof.Rows L2 RZ SrtO Dz
section
variable {K : Kx} {te ta tb tc : TE} {h : M Nat} {a b c : M PyData} {l : Lo} {g : Sg} {s : L2.St} {H S H1 S1 : Hp} {r r1 : List Addr} {A A1 : List (Option Addr)} {j : Nat} {ad : Addr} {kvs : List (Key × PyData)} {ds : List PyData}
theorem Mv.at_ (m : Mv K S H r A S1 H1 r1 A1) (e : r[j]? = some ad) : r1[j]? = some ad := by
  obtain ⟨q, rfl⟩ := m.p
  rw [List.getElem?_append_left (List.getElem?_eq_some_iff.mp e).1]
  exact e
end
/-! ### methods -/
section
variable {K : Kx} {te : TE} {ta tk : TA} {h : M Nat} {a k : M (List Vl)} {C m : Str} {F : FS} {n c q : Nat} {dv : List V} {ds : List PyData} {gv : List V → List V → List V} {gs : List Vl → List Vl → List Vl}
end
end Sm

/-! SmL: what the words of SmJ and SmK surely come to; dicts with tuple keys as slots and behind handles. -/
namespace Sm
open PySem PySem.Spec PyProof.Rows L2 RZ SrtO Dz
section
variable {l l1 : Lo} {g g1 : Sg} {i j k : Nat} {h h2 h3 : M Nat} {C f f2 f3 : Str} {a b c : M PyData}
section
variable {Q : Out → Lo → Sg → Prop}
end
section
variable {Q : PyData → Lo → Sg → Prop}
end
section
variable {F : FS} {m : Str} {ds : List PyData} {a k : M (List Vl)} {gs : List Vl → List Vl → List Vl} {Q : Vl → Lo → Sg → Prop}
end
/-! ### looking a place of the store up -/
end
/-! ### objects in tuples, by a cond -/
section
variable {K : Kx} {te : TE} {ta : TA} {m : M (List Vl)}
end
/-! ### two names at once, objects among them -/
section
variable {K : Kx} {ta tb : TE} {i j : Nat}
theorem VOk.so {S H : Hp} {r : List Addr} {v : V} {x : Vl} (h : VOk K S r v x) : SOk K S H r x none (some v) := by
  cases x with
  | dat d => exact ⟨rfl, v, rfl, h⟩
  | ref j => obtain ⟨a, e3, rfl⟩ := h; exact ⟨rfl, a, e3, rfl⟩
  | fn F => exact ⟨rfl, v, rfl, h⟩
  | xt ds => exact ⟨rfl, v, rfl, h⟩
  | no => cases h
  | own ds => cases h
  | dct ds => cases h
  | dnk ds => cases h
end
section
variable {l : Lo} {g : Sg} {t : M Bool}
end
section
variable {l : Lo} {g : Sg} {i j : Nat} {Q : Out → Lo → Sg → Prop}
end
end Sm

/-! SmM: the closing by the head's facts; len(o) by an own method. -/
namespace Sm
open PySem PySem.Spec PyProof.Rows L2 RZ SrtO Dz
section
variable {P : Program} {w : World} {K : PySem.W.Frag} {mg : Str → Option Value} {base h : Heap}
end
/-! ### len(o) by an own method -/
section
variable {P : Program} {w : World} {K : PySem.W.Frag} {mg : Str → Option Value} {base h : Heap}
/-! ### what the facts give -/
end
end Sm

/-! SmN: methods that call themselves. -/
namespace Sm
open PySem PySem.Spec PyProof.Rows L2 RZ SrtO Dz
end Sm

/-! SmO: dicts whose keys are tuples of data: in a slot, or behind a handle. -/
namespace Sm
open PySem PySem.Spec PyProof.Rows L2 RZ SrtO Dz
mutual
def nkO : PyData → Option NestedKey
  | .none => some .none
  | .int i => some (.num i)
  | .str x => some (.text x)
  | .tuple ds => (nkL ds).map .tup
  | _ => none
def nkL : List PyData → Option (List NestedKey)
  | [] => some []
  | d :: ds => (nkO d).bind fun k => (nkL ds).map fun ks => k :: ks
end
mutual
theorem nkO_data : ∀ (d : PyData) (k : NestedKey), nkO d = some k → k.data = d
  | .none, k, e => by simp only [nkO] at e; cases e; rfl
  | .int i, k, e => by simp only [nkO] at e; cases e; rfl
  | .str x, k, e => by simp only [nkO] at e; cases e; rfl
  | .tuple ds, k, e => by
    simp only [nkO] at e
    obtain ⟨ks, e1, rfl⟩ := Option.map_eq_some_iff.mp e
    simp only [NestedKey.data, nkL_datas ds ks e1]
  | .bool b, k, e => by simp only [nkO] at e; cases e
  | .list ds, k, e => by simp only [nkO] at e; cases e
  | .dict ds, k, e => by simp only [nkO] at e; cases e
theorem nkL_datas : ∀ (ds : List PyData) (ks : List NestedKey), nkL ds = some ks → NestedKey.datas ks = ds
  | [], ks, e => by simp only [nkL] at e; cases e; rfl
  | d :: ds, ks, e => by
    simp only [nkL] at e
    obtain ⟨k, e1, e⟩ := Option.bind_eq_some_iff.mp e
    obtain ⟨ks', e2, rfl⟩ := Option.map_eq_some_iff.mp e
    simp only [NestedKey.datas, nkO_data d k e1, nkL_datas ds ks' e2]
end
abbrev KNs := List (NestedKey × PyData)
section
variable {K : Kx} {te ta tb : TE} {a b : M PyData} {i j : Nat} {l : Lo} {g : Sg} {s : L2.St} {H S : Hp} {r : List Addr} {A : List (Option Addr)} {kvs : KNs} {ad : Addr} {h : M Nat}
end
section
variable {l : Lo} {g : Sg} {i j : Nat} {a b : M PyData} {h : M Nat} {kvs : KNs} {k : NestedKey} {y : PyData}
end
end Sm

/-! SmP: tuple * k, k from 1. -/
namespace Sm
open PySem PySem.SeqAt PySem.Spec PyProof.Rows L2 RZ SrtO Dz
end Sm

/-! SmQ: index of a list of one's own; in, of any data, in a list of one's own. -/
namespace Sm
open PySem PySem.SeqAt PySem.Spec PyProof.Rows L2 RZ SrtO Dz
section
variable {K : Kx} {ta tb : TE} {a b : M PyData} {i : Nat}
end
section
variable {l : Lo} {g : Sg} {a b : M PyData} {i : Nat} {ds : List PyData} {Q : PyData → Lo → Sg → Prop}
end
end Sm

/-! SmR: sorted of data that compare. -/
namespace Sm
open PySem PySem.SeqAt PySem.Spec PySem.W PyProof.Rows L2 RZ SrtO Dz
end Sm

/-! SmS: a list of one's own is lent to an expression that keeps no hold of it. -/
namespace Sm
open PySem PySem.SeqAt PySem.Spec PyProof.Rows L2 RZ SrtO Dz
mutual
/-- data without lists -/
def nl : PyData → Bool
  | .list _ => false
  | .tuple xs => nlA xs
  | _ => true
def nlA : List PyData → Bool
  | [] => true
  | x :: xs => nl x && nlA xs
end
def delS (S : Hp) (a : Addr) : Hp := fun b => if b = a then none else S b
section
variable {K : Kx} {S : Hp} {a : Addr} {ys : List V}
theorem del_ne {b : Addr} (h : b ≠ a) : delS S a b = S b := if_neg h
theorem rd_del (ha : S a = some (.lst ys)) {b : Addr} {u : HO} (hu : ∀ zs, u ≠ .lst zs) (h : Rd S b u) : Rd (delS S a) b u := by
  have hb : b ≠ a := fun z => by
    subst z
    rcases h with h | ⟨o, h⟩
    · rw [ha] at h; cases h; exact hu _ rfl
    · rw [ha] at h; cases h
  rcases h with h | ⟨o, h⟩
  · exact .inl (by rw [del_ne hb]; exact h)
  · exact .inr ⟨o, by rw [del_ne hb]; exact h⟩
theorem sqT_del (ha : S a = some (.lst ys)) {b : Addr} {xs : List V} (h : SqT K S b xs) : SqT K (delS S a) b xs := h.imp (rd_del ha fun zs z => by cases z) id
mutual
theorem dp_del (ha : S a = some (.lst ys)) : ∀ (d : PyData) (v : V), nl d = true → Dp K S v d → Dp K (delS S a) v d
  | .none, _, _, h => by cases h; exact .non
  | .bool b, _, _, h => by cases h; exact .bl b
  | .int i, _, _, h => by cases h; exact .int i
  | .str x, _, _, h => by cases h; exact .str x
  | .list xs, _, h0, _ => by simp [nl] at h0
  | .tuple xs, _, h0, h => by
    cases h with
    | tup h1 h2 => exact .tup (sqT_del ha h1) (dpA_del ha xs _ (by simpa [nl] using h0) h2)
  | .dict _, _, _, h => nomatch h
theorem dpA_del (ha : S a = some (.lst ys)) : ∀ (ds : List PyData) (vs : List V), nlA ds = true → DpAll K S vs ds → DpAll K (delS S a) vs ds
  | [], _, _, h => by cases h; exact .nil
  | d :: ds, _, h0, h => by
    cases h with
    | cons h1 h2 =>
      rw [nlA, Bool.and_eq_true] at h0
      exact .cons (dp_del ha d _ h0.1 h1) (dpA_del ha ds _ h0.2 h2)
end
end
section
variable {K : Kx} {l l' : Lo} {g g' : Sg} {s : L2.St} {H S H1 S1 H2 S2 : Hp} {r r1 r2 : List Addr} {A A1 A2 : List (Option Addr)}
theorem kv_del {a : Addr} {ys : List V} (ha : S a = some (.lst ys)) : ∀ {ws : List (Key × V)} {kvs : List (Key × PyData)}, (kvs.all fun p => nl p.2) = true → KvD K S ws kvs → KvD K (delS S a) ws kvs := fun {ws kvs} h0 h => by
  unfold KvD at h ⊢
  induction h with
  | nil => exact .nil
  | cons h1 h2 ih =>
    rw [List.all_cons, Bool.and_eq_true] at h0
    exact .cons ⟨h1.1, dp_del ha _ _ h0.1 h1.2⟩ (ih h0.2)
end
end Sm

/-! SmT: dicts handed to defs, list(d.values()) of a dict of one's own, min(.., default=..). -/
namespace Sm
open PySem PySem.SeqAt PySem.Spec PyProof.Rows L2 RZ SrtO Dz
section
variable {K : Kx} {ta te tb : TE} {a b : M PyData} {i : Nat}
end
section
variable {l : Lo} {g : Sg} {a b : M PyData} {i : Nat}
end
end Sm

/-! SmU: tuples whose objects are known: made, handed on, t.index(x). -/
namespace Sm
open PySem PySem.SeqAt PySem.Spec PyProof.Rows L2 RZ SrtO Dz
section
variable {K : Kx} {ta tb : TE} {a b : M PyData} {i : Nat}
end
section
variable {l : Lo} {g : Sg} {a b : M PyData} {i : Nat} {ds : List PyData} {d : PyData}
end
end Sm

/-! SmV: max of a tuple of ints. -/
namespace Sm
open PySem PySem.SeqAt PySem.Spec PyProof.Rows L2 RZ SrtO Dz
end Sm

/-! SmW: dicts with tuple keys: listed, handed back; objects in tuple assignments. -/
namespace Sm
open PySem PySem.Spec PyProof.Rows L2 RZ SrtO Dz
section
variable {K : Kx} {te : TE} {ta : TA} {i : Nat}
end
section
variable {l : Lo} {g : Sg} {i : Nat} {kvs : KNs}
end
end Sm

/-! SmX: a list of one's own is lent to a comprehension that keeps no hold of it. -/
namespace Sm
open PySem PySem.SeqAt PySem.Spec PyProof.Rows L2 RZ SrtO Dz
mutual
theorem nl_key : ∀ k : NestedKey, nl k.data = true
  | .none => by simp only [NestedKey.data, nl]
  | .num i => by simp only [NestedKey.data, nl]
  | .text x => by simp only [NestedKey.data, nl]
  | .tup ks => by simp only [NestedKey.data, nl]; exact nl_keys ks
theorem nl_keys : ∀ ks : List NestedKey, nlA (NestedKey.datas ks) = true
  | [] => by simp only [NestedKey.datas, nlA]
  | k :: ks => by simp only [NestedKey.datas, nlA, nl_key k, nl_keys ks, Bool.and_self]
end
section
variable {K : Kx} {S H : Hp} {r : List Addr}
end
end Sm

/-! SmY: tuple(range(..)). -/
namespace Sm
open PySem PySem.SeqAt PySem.Spec PyProof.Rows L2 RZ SrtO Dz
section
variable {K : Kx} {ta tb : TE} {a b : M PyData} {l : Lo} {g : Sg}
end
end Sm

/-! SmZ: one of two defs is drawn out of a list and called. -/
namespace Sm
open PySem PySem.SeqAt PySem.Spec PyProof.Rows L2 RZ SrtO Dz
section
variable {K : Kx} {ta tb : TE} {tm : TA} {a b : M Vl} {m : M (List Vl)} {Fd F1 F2 : FS} {n1 n2 : Str} {c1 c2 : Nat}
end
end Sm

/-! Sma: str of a number. -/
namespace Sm
open PySem PySem.SeqAt PySem.Spec PyProof.Rows L2 RZ SrtO Dz
section
variable {K : Kx}
end
end Sm

/-! Smb: t[::-1] of a tuple. -/
namespace Sm
open PySem PySem.SeqAt PySem.Spec PyProof.Rows L2 RZ SrtO Dz
section
variable {K : Kx} {ta : TE} {a : M PyData} {l : Lo} {g : Sg}
end
end Sm

/-! Smc: a statement that is never come to (raise in a branch that is not taken). -/
namespace Sm
open PySem PySem.SeqAt PySem.Spec PyProof.Rows L2 RZ SrtO Dz
end Sm

/-! Smd: min(xs, default=None), range(a, b, -1). -/
namespace Sm
open PySem PySem.SeqAt PySem.Spec PyProof.Rows L2 RZ SrtO Dz
section
variable {K : Kx} {ta tb : TE} {a b : M PyData} {l : Lo} {g : Sg}
end
end Sm

/-! Sme: in, of any data, in a list behind a handle; a default that is the empty tuple. -/
namespace Sm
open PySem PySem.SeqAt PySem.Spec PyProof.Rows L2 RZ SrtO Dz
section
variable {K : Kx} {ta te : TE} {a : M PyData} {h : M Nat}
end
section
variable {l : Lo} {g : Sg} {a : M PyData} {h : M Nat} {Q : PyData → Lo → Sg → Prop}
end
end Sm

/-! Smf: x, y, z = [..], b, c: a list of one's own and two things. -/
namespace Sm
open PySem PySem.SeqAt PySem.Spec PyProof.Rows L2 RZ SrtO Dz
section
variable {K : Kx} {ta tb tc : TE} {m : M (List PyData)} {b c : M PyData} {i j k : Nat}
end
theorem nselfI (x : Int) : (!decide (x = x)) = false := by simp
end Sm

/-! Smg: min(xs, key=lambda p: e) within a lambda that is a value. -/
namespace Dz
open PySem
theorem hqN : (((("least_paper" : Str) ++ ".<locals>.") ++ "<lambda>") ++ ".<locals>.") ++ "<lambda>" = nqS := by decide +kernel
end Dz
namespace Sm
open PySem PySem.Spec PyProof.Rows L2 RZ SrtO Dz
/-- what a key says of each item, the state being as it was -/
noncomputable def keyAt (i : Nat) (b : M PyData) (l : Lo) (g : Sg) (d : PyData) : Option Int := open Classical in match b (l.set i (.dat d)) g with
  | some (.int z, l1, g1) => if l1 = l.set i (.dat d) ∧ g1 = g then some z else none
  | _ => none
noncomputable def keysAt (i : Nat) (b : M PyData) (l : Lo) (g : Sg) : List PyData → Option (List Int)
  | [] => some []
  | d :: ds => match keyAt i b l g d with
    | none => none
    | some z => (keysAt i b l g ds).map (z :: ·)
def bestZ (zs : List Int) : Nat := argBest (fun i j => decide (zs.getD i 0 < zs.getD j 0)) (zs.length - 1)
def oneList : List PyData → Option (List PyData)
  | [.list ds] => some ds
  | _ => none
noncomputable def eMinBy (i : Nat) (a : M (List PyData)) (b : M PyData) : M PyData := mb a fun vs => mb (mo (oneList vs)) fun ds => fun l g => match keysAt i b l g ds, ds[bestZ ((keysAt i b l g ds).getD [])]? with
  | some _, some d => if i < l.length then some (d, l.set i .no, g) else none
  | _, _ => none
theorem keysAt_get {i : Nat} {b : M PyData} {l : Lo} {g : Sg} : ∀ {ds : List PyData} {zs : List Int}, keysAt i b l g ds = some zs → zs.length = ds.length ∧ ∀ j (h : j < ds.length), ∃ z, zs[j]? = some z ∧ b (l.set i (.dat ds[j])) g = some (.int z, l.set i (.dat ds[j]), g)
  | [], zs, e => by cases e; exact ⟨rfl, fun j h => absurd h (Nat.not_lt_zero _)⟩
  | d :: ds, zs, e => by
    unfold keysAt at e
    split at e
    · cases e
    · rename_i z hz
      obtain ⟨ws, hw, rfl⟩ := Option.map_eq_some_iff.mp e
      obtain ⟨h1, h2⟩ := keysAt_get hw
      refine ⟨by rw [List.length_cons, List.length_cons, h1], fun j hj => ?_⟩
      cases j with
      | zero =>
        refine ⟨z, rfl, ?_⟩
        unfold keyAt at hz
        split at hz
        · rename_i z1 l1 g1 e1
          split at hz
          · rename_i hc
            obtain ⟨rfl, rfl⟩ := hc
            cases hz
            exact e1
          · cases hz
        · cases hz
      | succ j => exact h2 j (by simpa using hj)
/-- the same as EvS, where a code object is known -/
def EvSc (K : Kx) (c : Addr) (q : Str) (P : Addr) (te : TE) (e : M PyData) : Prop := ∀ l g d l' g' s H S r A, e l g = some (d, l', g') → StOk K l g s H S r A → S c = some (CodeN c q P) → ∀ Q : VK, (∀ v H' S' r' A', Mv K S H r A S' H' r' A' → StOk K l' g' s H' S' r' A' → Dp K S' v d → Q v H') → te s H Q
theorem lam_bodyC {K : Kx} {te : TE} {b : M PyData} {N : List Str} {n m : Nat} {vs : List V} {H : Hp} {Q : VK} {c P : Addr} {q : Str} (hb : EvSc K c q P te b) (hN : N.length = n) (h : spLc K (lamF n m b) c q P vs H Q) : te (L2.start N vs) H Q := by
  obtain ⟨S, ds, d, hc, hs, tb, hd, e, hQ⟩ := h
  subst hN
  unfold lamF at e
  split at e
  · rename_i hn
    obtain ⟨⟨d', l', g'⟩, e1, rfl⟩ := Option.map_eq_some_iff.mp e
    have st := start_ok (N := N) (g := []) hs ⟨List.nodup_nil, rfl, fun j a o e => by simp at e, tb⟩ (vs_of (r := []) ds vs hd)
    rw [List.length_map] at st
    refine hb _ _ _ _ _ _ H S [] _ e1 st hc _ fun v H1 S1 r1 A1 m1 h1 d1 => ?_
    have nr : ∀ a, tr S H (List.replicate (List.map Vl.dat ds ++ List.replicate (N.length - ds.length) Vl.no).length none) [] a → isTab S H a := fun a z => by
      rcases z with z | z | z
      · exact absurd (List.eq_of_mem_replicate z) (by simp)
      · cases z
      · exact z
    refine hQ v S1 H1 ⟨m1.s, m1.h, fun a e1 e2 => ?_, fun a o hn e => m1.k a o (fun z => hn (nr a z)) e, m1.d, fun a ps e => ?_⟩ h1.tb d1
    · by_cases ht : isTab S H a
      · exact (m1.t a ht).1
      · exact m1.n a e1 e2 fun z => ht (nr a z)
    · by_cases ht : S a = none
      · exact (m1.t a ⟨ht, ps, e⟩).2
      · obtain ⟨u, hu⟩ := ne_some ht
        have e2 := hs a u hu
        rw [e] at e2
        cases e2
        exact ⟨ps, m1.h a _ (m1.s a _ hu)⟩
  · cases e
/-- the frame's slot is given back -/
theorem StOk.backS {K : Kx} {l : Lo} {g : Sg} {s s2 : L2.St} {H S : Hp} {r : List Addr} {A : List (Option Addr)} {i : Nat} (h : StOk K l g s2 H S r A) (hs : ∀ x, s2.set i x = s.set i x) (hi : i < l.length) : StOk K (l.set i .no) g s H S r (A.set i none) := by
  have hno := h.drop (i := i)
  have hs2 := hno.any (i := i) (List.getElem?_set_self hi) (s.getD i none)
  rw [hs] at hs2
  have hil : i < s.length := by
    have e0 := congrArg List.length (hs none)
    rw [List.length_set, List.length_set] at e0
    have := h.ls
    omega
  have e3 : s.set i (s.getD i none) = s := by
    apply List.ext_getElem?
    intro m
    by_cases him : i = m
    · subst him
      rw [List.getElem?_set_self hil, List.getD_eq_getElem?_getD, List.getElem?_eq_getElem hil]
      rfl
    · rw [List.getElem?_set_ne him]
  rw [e3] at hs2
  exact hs2
theorem s_minBy {K : Kx} {c P : Addr} {q : Str} {i : Nat} {ta : TA} {tb : TE} {a : M (List PyData)} {b : M PyData} (ha : EvA K ta a) (hb : EvS K tb b) : EvSc K c q P (tMinK2 K (.ref c) i ta tb) (eMinBy i a b) := fun l g d l' g' s H S r A e h hSc Q hQ => by
  replace e := mb_some e; obtain ⟨vs, l1, g1, k1, e⟩ := e
  replace e := mb_some e; obtain ⟨ds, l2, g2, k2, e⟩ := e
  replace k2 := mo_some k2; obtain ⟨k2, rfl, rfl⟩ := k2
  split at e
  case h_2 => cases e
  rename_i zs d1 hz hd
  rw [hz, Option.getD_some] at hd
  split at e
  case isFalse => cases e
  rename_i hil
  cases e
  obtain ⟨hzl, hzg⟩ := keysAt_get hz
  refine ha _ _ _ _ _ s H S r A k1 h _ fun xs H1 S1 r1 A1 m1 h1 dd => ?_
  obtain ⟨p, vx, hsq, e1, hdp⟩ : ∃ p vx, SqL K S1 p vx ∧ xs = [.ref p] ∧ DpAll K S1 vx ds := by
    unfold oneList at k2
    split at k2
    · cases k2
      cases dd with
      | cons hd hn =>
        cases hn
        cases hd with
        | lst h1 h2 => exact ⟨_, _, h1, rfl, h2⟩
    · cases k2
  have hlen := DpAll_len hdp
  have hbl : bestZ zs < ds.length := (List.getElem?_eq_some_iff.mp hd).1
  refine ⟨p, vx, S1, c, P, q, e1, hsq, by omega, rfl, m1.s _ _ hSc, h1.hs, h1.tb, fun S2 H2 gr tb2 => ?_⟩
  obtain ⟨h2, m2⟩ := h1.gTab gr tb2
  refine ⟨fun j => zs.getD j 0, fun Hj => ∃ Sj rj Aj, StOk K (l2.set i .no) g' s Hj Sj rj Aj ∧ Mv K S2 H2 r1 A1 Sj Hj rj Aj, ⟨S2, r1, A1.set i none, h2.drop, (Mv.refl h2.hs).set⟩, fun Hj ⟨Sj, rj, Aj, hst, mj⟩ => mj.s.trans hst.hs, ?_, ?_⟩
  · rintro j x Hj hx ⟨Sj, rj, Aj, hst, mj⟩
    have hj : j < ds.length := by
      have := (List.getElem?_eq_some_iff.mp hx).1
      omega
    obtain ⟨z, hz1, hz2⟩ := hzg j hj
    have hdx : Dp K Sj x ds[j] := Dp_mono (dp_zip hdp (x, ds[j]) (List.mem_of_getElem? (i := j) (by rw [List.getElem?_zip_eq_some]; exact ⟨hx, List.getElem?_eq_getElem hj⟩))) (m2.s.trans mj.s)
    have hset := hst.setD (i := i) hdx
    rw [List.set_set] at hset
    refine hb _ _ _ _ _ _ Hj Sj rj _ hz2 hset _ fun kv H5 S5 r5 A5 m5 h5 d5 => ?_
    cases d5
    refine ⟨by show V.int z = V.int (zs.getD j 0); rw [List.getD_eq_getElem?_getD, hz1]; rfl, S5, r5, A5.set i none, ?_, (mj.trans ((Mv.refl hst.hs).set.trans m5)).set⟩
    have hb5 := h5.backS (s := s) (i := i) (fun y => by rw [List.set_set]) (by rw [List.length_set]; exact hil)
    rw [List.set_set] at hb5
    exact hb5
  · rintro Hj x hx ⟨Sj, rj, Aj, hst, mj⟩
    have hx2 : vx[bestZ zs]? = some x := by
      have : vx.length - 1 = zs.length - 1 := by omega
      unfold bestZ
      rw [← this]
      exact hx
    have hdx : Dp K S1 x d := dp_zip hdp (x, d) (List.mem_of_getElem? (i := bestZ zs) (by rw [List.getElem?_zip_eq_some]; exact ⟨hx2, hd⟩))
    exact hQ x Hj Sj rj Aj ((m1.trans m2).trans mj) hst (Dp_mono hdx (m2.s.trans mj.s))
end Sm

/-! Smh: max and min of a list of data that compare. -/
namespace Sm
open PySem PySem.SeqAt PySem.Spec PySem.W PyProof.Rows L2 RZ SrtO Dz
end Sm

namespace Sm
open PySem PySem.Spec PyProof.Rows L2 RZ SrtO Dz
local macro_rules | `(tactic| walk_at "tr") => `(tactic| first | rfl | exact decide_eq_true (by omega) | exact decide_eq_false (by omega) | with_reducible assumption | (simp only [Bool.and_eq_true, Bool.and_eq_false_iff, Bool.or_eq_true, Bool.or_eq_false_iff, Bool.not_eq_true', Bool.not_eq_false', decide_eq_true_eq, decide_eq_false_iff_not]; omega) | (simp; done) | with_reducible exact nselfI _)
local macro_rules | `(tactic| walk_at "le") => `(tactic| first | omega | (simp only [List.length_cons, List.length_nil, List.length_append, List.length_map]; omega) | decide)
local macro_rules | `(tactic| walk_at "gt") => `(tactic| first | with_reducible assumption | with_reducible rfl | rfl)
local macro_rules | `(tactic| walk_at "op") => `(tactic| first
  | with_reducible exact plusD_ii | with_reducible exact subD_ii | with_reducible exact addI_ii | with_reducible exact ltD_ii | with_reducible exact leD_ii | with_reducible exact gtD_ii | with_reducible exact geD_ii
  | with_reducible exact eqD_ii | with_reducible exact eqD_ss | with_reducible exact eqD_is | with_reducible exact eqD_si | with_reducible exact eqD_bb | with_reducible exact neD_ii | with_reducible exact neD_ss | with_reducible exact neD_is | with_reducible exact neD_si | with_reducible exact neD_bb
  | with_reducible assumption
  | ((with_reducible apply modD_ev); omega) | ((with_reducible apply fdivD_ev); omega) | ((with_reducible apply mulD_ev); (first | exact Or.inl ⟨by omega, by omega⟩ | exact Or.inr ⟨by omega, by omega⟩))
  | ((with_reducible apply ixD_t0); walk_at "gt") | ((with_reducible apply ixD_l0); walk_at "gt") | ((with_reducible apply ixD_t1); walk_at "gt") | ((with_reducible apply ixD_l1); walk_at "gt")
  | ((with_reducible apply ixD_last); walk_at "gt") | ((with_reducible apply ixD_lastL); walk_at "gt")
  | ((with_reducible apply ixD_tN); walk_at "gt") | ((with_reducible apply ixD_lN); walk_at "gt")
  | ((with_reducible apply ixD_t); omega; walk_at "gt") | ((with_reducible apply ixD_l); omega; walk_at "gt")
  | ((with_reducible apply plusD_l); walk_at "le") | ((with_reducible apply plusD_t); walk_at "le"))
local macro_rules | `(tactic| walk_at "at") => `(tactic| first | with_reducible assumption | ((with_reducible apply atI_z); walk_at "gt") | ((with_reducible apply atI_last); walk_at "gt") | ((with_reducible apply atI_N); walk_at "gt") | ((with_reducible apply atI_i); omega; walk_at "gt") | ((with_reducible apply atI_last); walk_at "gt"))
local macro_rules | `(tactic| walk_at "ki") => `(tactic| first | with_reducible exact k_bb | with_reducible exact k_tt | with_reducible exact k_ss | with_reducible exact k_ii | with_reducible exact k_ib | with_reducible exact k_it | with_reducible exact k_is | with_reducible exact k_tb | with_reducible exact k_sb | with_reducible exact k_st | with_reducible exact k_bi | with_reducible exact k_bt | with_reducible exact k_bs | with_reducible exact k_ti | with_reducible exact k_ts | with_reducible exact k_si | with_reducible exact k_nb | with_reducible exact k_nt | with_reducible exact k_ns | with_reducible exact k_ni | with_reducible exact k_lt | with_reducible exact k_lb | with_reducible exact k_ls | with_reducible exact k_li)
local macro_rules | `(tactic| walk_at "cl") => `(tactic| with_reducible assumption)
local macro_rules | `(tactic| walk_at "bi") => `(tactic| first | with_reducible assumption | rfl)
local macro_rules | `(tactic| walk_at "lc") => `(tactic| with_reducible assumption)
local macro_rules | `(tactic| walk_at "ar") => `(tactic| first | with_reducible exact aNil_ev | ((with_reducible apply aCons_ev); (walk_at "ev"); (walk_at "ar")))
local macro_rules | `(tactic| walk_at "va") => `(tactic| first | with_reducible exact vNil_ev | ((with_reducible apply vCons_ev); ((with_reducible apply vE_ev); (walk_at "ev")); (walk_at "va")) | ((with_reducible apply vCons_ev); ((with_reducible apply vR_ev); rfl); (walk_at "va")))
local macro_rules | `(tactic| walk_at "os") => `(tactic| first | with_reducible exact oNone_ev | ((with_reducible apply oSome_ev); (walk_at "ev")))
local macro_rules | `(tactic| walk_at "ls") => `(tactic| first
  | ((with_reducible apply lLst_ev); (walk_at "ar"); (walk_at "le"))
  | ((with_reducible apply lList_ev); (walk_at "ev"); rfl)
  | ((with_reducible apply lListV_ev); rfl)
  | ((with_reducible apply lListRg_ev); (walk_at "ev"); omega)
  | ((with_reducible apply lListRg2_ev); (walk_at "ev"); (walk_at "ev"); omega; omega)
  | ((with_reducible apply lRep_ev); (walk_at "ar"); (walk_at "ev"); omega; (walk_at "le"))
  | ((with_reducible apply lLc_ev); (walk_at "it"); (walk_at "lc"))
  | ((with_reducible apply lKeys_ev); rfl))
local macro_rules | `(tactic| walk_at "it") => `(tactic| first
  | ((with_reducible apply iSq_ev); (walk_at "ev"); rfl)
  | ((with_reducible apply iRg1_ev); (walk_at "ev"); omega)
  | ((with_reducible apply iRg2_ev); (walk_at "ev"); (walk_at "ev"); omega; omega)
  | ((with_reducible apply iEn_ev); (walk_at "ev"))
  | ((with_reducible apply iZp_T); (walk_at "ev"); (walk_at "ev"))
  | ((with_reducible apply iZp_L); (walk_at "ev"); (walk_at "ev")))
local macro_rules | `(tactic| walk_at "dg") => `(tactic| with_reducible assumption)
local macro_rules | `(tactic| walk_at "dl") => `(tactic| with_reducible exact lDnew_ev)
local macro_rules | `(tactic| walk_at "nt") => `(tactic| first | with_reducible exact uNil_ev | ((with_reducible apply uD_ev); (walk_at "ev"); (walk_at "nt")) | ((with_reducible apply uL_ev); (walk_at "ls"); (walk_at "nt")) | ((with_reducible apply uC_ev); (walk_at "dl"); (walk_at "nt")))
local macro_rules | `(tactic| walk_at "ev") => `(tactic| first
  | ((with_reducible apply eVar_ev); rfl) | with_reducible exact eC_ev
  | ((with_reducible apply eOp_ev); (walk_at "ev"); (walk_at "ev"); (walk_at "op"))
  | ((with_reducible apply eUn_ev); (walk_at "ev"); rfl)
  | ((with_reducible apply eCB_ev); (walk_at "ar"); (walk_at "bi"))
  | ((with_reducible apply eTup_ev); (walk_at "ar"); (walk_at "le"))
  | ((with_reducible apply eL_ev); (walk_at "ls"))
  | ((with_reducible apply eCall_ev); (walk_at "va"); (walk_at "cl"))
  | ((with_reducible apply eCallK_ev); (walk_at "va"); (walk_at "va"); (walk_at "cl"))
  | ((with_reducible apply eCallD_ev); (walk_at "va"); (walk_at "cl"))
  | ((with_reducible apply eIsN_ev); (walk_at "ev"))
  | ((with_reducible apply eNotN_ev); (walk_at "ev"))
  | ((with_reducible apply eIsi_ev); (walk_at "ev"); (walk_at "ki"))
  | ((with_reducible apply eNot_ev); (walk_at "ev"); rfl)
  | ((with_reducible apply eChain_B); (walk_at "ev"); (walk_at "ev"); (walk_at "op"); (walk_at "ev"); (walk_at "op"))
  | ((with_reducible apply eSl_ev); (walk_at "ev"); (walk_at "os"); (walk_at "os"); rfl)
  | ((with_reducible apply eIxV_ev); rfl; (walk_at "ev"); rfl; (walk_at "at"))
  | ((with_reducible apply eLenV_ev); rfl)
  | ((with_reducible apply eTupleV_ev); rfl)
  | ((with_reducible apply eSlV_ev); rfl; (walk_at "os"); (walk_at "os"); rfl)
  | ((with_reducible apply eInV_ev); (walk_at "ev"); rfl; (walk_at "op"))
  | ((with_reducible apply eDget_ev); rfl; (walk_at "ev"); rfl; with_reducible exact keyO_i; (walk_at "dg"))
  | ((with_reducible apply eDin_ev); (walk_at "ev"); rfl; with_reducible exact keyO_i)
  | ((with_reducible apply eDnot_ev); (walk_at "ev"); rfl; with_reducible exact keyO_i)
  | ((with_reducible apply eLenD_ev); rfl)
  | ((with_reducible apply eIf_D); (walk_at "be"); (first | ((with_reducible apply cd_T); (walk_at "tr"); (walk_at "ev")) | ((with_reducible apply cd_F); (walk_at "tr"); (walk_at "ev"))))
  | ((with_reducible apply eAnd_F); (walk_at "ev"); rfl)
  | ((with_reducible apply eAnd_T); (walk_at "ev"); rfl; (walk_at "ev"))
  | ((with_reducible apply eOr_T); (walk_at "ev"); rfl)
  | ((with_reducible apply eOr_F); (walk_at "ev"); rfl; (walk_at "ev"))
  | ((with_reducible apply eAnd_B); (walk_at "ev"); (intro _; walk_at "ev"))
  | ((with_reducible apply eOr_B); (walk_at "ev"); (intro _; walk_at "ev")))
local macro_rules | `(tactic| walk_at "be") => `(tactic| first
  | with_reducible exact bYes_ev
  | ((with_reducible apply bTest_ev); (walk_at "ev"))
  | ((with_reducible apply bTru_ev); (walk_at "ev"); rfl)
  | ((with_reducible apply bTruV_ev); rfl)
  | ((with_reducible apply bTruD_ev); rfl)
  | ((with_reducible apply bNot_ev); (walk_at "be"))
  | ((with_reducible apply bIf_D); (walk_at "be"); (first | ((with_reducible apply cd_T); (walk_at "tr"); (walk_at "be")) | ((with_reducible apply cd_F); (walk_at "tr"); (walk_at "be"))))
  | ((with_reducible apply bAnd_D); (walk_at "be"); (first | ((with_reducible apply cd_T); (walk_at "tr"); (walk_at "be")) | ((with_reducible apply cd_F); (walk_at "tr"); rfl)))
  | ((with_reducible apply bOr_D); (walk_at "be"); (first | ((with_reducible apply cd_T); (walk_at "tr"); rfl) | ((with_reducible apply cd_F); (walk_at "tr"); (walk_at "be"))))
  | ((with_reducible apply bAnd_B); (walk_at "be"); (intro _; walk_at "be"))
  | ((with_reducible apply bOr_B); (walk_at "be"); (intro _; walk_at "be")))
local macro_rules | `(tactic| walk_at "ex") => `(tactic| first
  | with_reducible exact xNext_ev | with_reducible exact xBreak_ev | with_reducible exact xCont_ev
  | ((with_reducible apply xAsg_ev); (walk_at "ev"))
  | ((with_reducible apply xAsgG_ev); (walk_at "ev"); rfl)
  | ((with_reducible apply xAsgL_ev); (walk_at "ls"))
  | ((with_reducible apply xNewL_ev); (walk_at "ls"))
  | ((with_reducible apply xAug_ev); rfl; (walk_at "ev"); (walk_at "op"))
  | ((with_reducible apply xDrop_ev); (walk_at "ev"))
  | ((with_reducible apply xRet_ev); (walk_at "ev"))
  | ((with_reducible apply xApp_ev); rfl; (walk_at "ev"); rfl; (walk_at "le"))
  | ((with_reducible apply xSetI_ev); (walk_at "ev"); rfl; (walk_at "ev"); rfl; exact ixN_in (by walk_at "le"))
  | ((with_reducible apply xPar_ev); (walk_at "ev"); (walk_at "ev"))
  | ((with_reducible apply xParDL_ev); (walk_at "ev"); (walk_at "ls"))
  | ((with_reducible apply xParLD_ev); (walk_at "ls"); (walk_at "ev"))
  | ((with_reducible apply xParLL_ev); (walk_at "ls"); (walk_at "ls"))
  | ((with_reducible apply xPar3_ev); (walk_at "ar"))
  | ((with_reducible apply xDput_ev); (walk_at "ev"); rfl; (walk_at "ev"); rfl; with_reducible exact keyO_i; (walk_at "le"))
  | ((with_reducible apply xDpop_ev); rfl; (walk_at "ev"); rfl; with_reducible exact keyO_i; (walk_at "dg"))
  | ((with_reducible apply xAsgC_ev); (walk_at "dl"))
  | ((with_reducible apply xTup2_ev); (walk_at "nt"))
  | ((with_reducible apply xFrz_O); rfl; (walk_at "ex"))
  | ((with_reducible apply xFrz_D); rfl; (walk_at "ex"))
  | ((with_reducible apply xIf_D); (walk_at "be"); (first | ((with_reducible apply cd_T); (walk_at "tr"); (walk_at "ex")) | ((with_reducible apply cd_F); (walk_at "tr"); (walk_at "ex"))))
  | ((with_reducible apply xSeq_ev); (walk_at "ex"); (walk_at "ex")))
local macro_rules | `(tactic| walk_at "st") => `(tactic| ((first | refine rt_seq (by walk_at "ex") ?_ | refine seq_step (by walk_at "ex") ?_); try simp only [List.set_cons_succ, List.set_cons_zero]))
local macro_rules | `(tactic| walk_at "rt") => `(tactic| refine rt_is (rt_ret (by walk_at "ev")) ?_ ?_)
local macro_rules | `(tactic| walk_at "yes") => `(tactic| (first | refine rt_now (rt_T (by walk_at "be") (by walk_at "tr") ?_) | refine rt_T (by walk_at "be") (by walk_at "tr") ?_))
local macro_rules | `(tactic| walk_at "noo") => `(tactic| (first | refine rt_now (rt_F (by walk_at "be") (by walk_at "tr") ?_) | refine rt_F (by walk_at "be") (by walk_at "tr") ?_))

section

/-! ### draws -/
/-- the greatest of the script's numbers, by size -/
def scM (ns : List Int) : Int := maxI (ns.map (fun i => if i < 0 then -i else i) ++ [0])
def twn (ns : List Int) : Nat → List Int
  | 0 => []
  | n + 1 => scM ns / 65536 ^ (n + 1) :: List.replicate (n + 1) 0
def nI (ns : List Int) : List PyData := ns.map .int
/-- the store with the town ahead -/
abbrev tw (ns : List Int) (n : Nat) (g : Sg) : Sg := .lst (nI (twn ns n)) :: g
abbrev scr (ns : List Int) : Vl := .dat (.list (nI ns))
def drN (ns : List Int) (n : Nat) : Int :=
  let c : Int := if ns.isEmpty then 0 else (ns[(n + 2) % ns.length]?).getD 0
  let d : Int := (scM ns / 65536 ^ n) % 65536
  let x : Int := (c + 40503 * d + 104729 * ((n + 2 : Nat) : Int)) % 4294967291
  let y : Int := x * x % 4294967279 * 48271 % 4294967291
  let z : Int := y * y % 4294967279 * 69621 % 4294967291
  y / 64 * 67108864 + z / 64
noncomputable def m_l_draw : X :=
  (xSeq (xIf (bNot (bTruV 1))
    (xApp 1 (eCB maxD (aCons (eOp plusD (eL (lLc [3] (iSq (eVar 0)) (gNm 3) bYes (eCB absD (aCons (eVar 3) aNil)))) (eL (lLst (aCons (eC (.int 0)) aNil)))) aNil)))
    xNext)
  (xSeq (xApp 1 (eC (.int 0)))
  (xSeq (xAsg 4 (eLenV 1))
  (xSeq (xAsg 3 (eIf (bTru (eVar 0)) (eOp ixD (eVar 0) (eOp modD (eVar 4) (eCB lenD (aCons (eVar 0) aNil)))) (eC (.int 0))))
  (xSeq (xAsg 5 (eOp modD (eIxV 1 (eC (.int 0))) (eC (.int 65536))))
  (xSeq (xSetI 1 (eC (.int 0)) (eOp fdivD (eIxV 1 (eC (.int 0))) (eC (.int 65536))))
  (xSeq (xAsg 6 (eOp modD (eOp plusD (eOp plusD (eVar 3) (eOp mulD (eC (.int 40503)) (eVar 5))) (eOp mulD (eC (.int 104729)) (eVar 4))) (eC (.int 4294967291))))
  (xSeq (xAsg 6 (eOp modD (eOp mulD (eOp modD (eOp mulD (eVar 6) (eVar 6)) (eC (.int 4294967279))) (eC (.int 48271))) (eC (.int 4294967291))))
  (xSeq (xAsg 7 (eOp modD (eOp mulD (eOp modD (eOp mulD (eVar 6) (eVar 6)) (eC (.int 4294967279))) (eC (.int 69621))) (eC (.int 4294967291))))
  (xRet (eOp modD (eOp plusD (eOp mulD (eOp fdivD (eVar 6) (eC (.int 64))) (eC (.int 67108864))) (eOp fdivD (eVar 7) (eC (.int 64)))) (eVar 2))))))))))))
noncomputable def f_l_draw : FS := fnS 8 (m_l_draw )

theorem nI_len (ns : List Int) : (nI ns).length = ns.length := by simp [nI]
theorem nI_get (ns : List Int) (k : Nat) : (nI ns)[k]? = (ns[k]?).map .int := by simp [nI]
set_option maxHeartbeats 2000000 in
theorem draw_eq (ns : List Int) (n : Nat) (m : Int) (g : Sg) (hn : n < 90000) (hm : 0 < m) (hz : ns.length ≤ 63) : f_l_draw [scr ns, .ref 0, .dat (.int m)] (tw ns n g) = some (.dat (.int (drN ns n % m)), tw ns (n + 1) g) := by
  unfold f_l_draw m_l_draw
  refine fn_ret (l := [scr ns, .ref 0, .dat (.int m), .no, .no, .no, .no, .no]) rfl ?_
  have ab : ∀ g, lcO [3] (gNm 3) bYes (eCB absD (aCons (eVar 3) aNil)) (nI ns) [scr ns, .ref 0, .dat (.int m), .no, .no, .no, .no, .no] g = some (nI (ns.map fun i => if i < 0 then -i else i), [scr ns, .ref 0, .dat (.int m), .no, .no, .no, .no, .no], g) := fun g => by
    unfold nI
    rw [List.map_map]
    exact lcO_map rfl (by omega) fun x _ => by walk_at "ev"
  refine rt_seq (l1 := [scr ns, .ref 0, .dat (.int m), .no, .no, .no, .no, .no]) (g1 := .lst (nI (scM ns / 65536 ^ n :: List.replicate n 0)) :: g) ?_ ?_
  · cases n with
    | zero =>
      have h3 : maxD [.list (nI (ns.map fun i => if i < 0 then -i else i) ++ [.int 0])] = some (.int (scM ns)) := by
        have : nI (ns.map fun i => if i < 0 then -i else i) ++ [.int 0] = ((ns.map fun i => if i < 0 then -i else i) ++ [0]).map PyData.int := by simp [nI]
        rw [this]
        exact maxD_i (by simp)
      have h4 : scM ns / 65536 ^ 0 = scM ns := by simp
      have h5 : (nI (ns.map fun i => if i < 0 then -i else i)).length = ns.length := by simp [nI]
      have h6 : (nI (twn ns 0)).length = 0 := rfl
      have ab := ab (tw ns 0 g)
      rw [h4]
      refine Eq.trans (by walk_at "ex") ?_
      rfl
    | succ n =>
      refine Eq.trans (by walk_at "ex") ?_
      rfl
  clear ab
  have hlen : (nI (scM ns / 65536 ^ n :: List.replicate n 0)).length = n + 1 := by simp [nI]
  have happ : nI (scM ns / 65536 ^ n :: List.replicate n 0) ++ [PyData.int 0] = nI (scM ns / 65536 ^ n :: List.replicate (n + 1) 0) := by simp [nI, List.replicate_succ']
  have hlen2 : (nI (scM ns / 65536 ^ n :: List.replicate (n + 1) 0)).length = n + 2 := by simp [nI]
  walk_at "st"
  show Rt _ [scr ns, .ref 0, .dat (.int m), .no, .no, .no, .no, .no] (.lst (nI (scM ns / 65536 ^ n :: List.replicate n 0) ++ [PyData.int 0]) :: g) _ _
  rw [happ]
  walk_at "st"
  rw [hlen2]
  refine rt_seq (l1 := [scr ns, .ref 0, .dat (.int m), .dat (.int (if ns.isEmpty then 0 else (ns[(n + 2) % ns.length]?).getD 0)), .dat (.int ((n + 2 : Nat) : Int)), .no, .no, .no]) (g1 := .lst (nI (scM ns / 65536 ^ n :: List.replicate (n + 1) 0)) :: g) ?_ ?_
  · cases ns with
    | nil =>
      refine Eq.trans (by walk_at "ex") ?_
      rfl
    | cons x r =>
      have hm2 : (n + 2) % (x :: r).length < (x :: r).length := Nat.mod_lt _ (by simp)
      have e2 : (nI (x :: r))[(n + 2) % (x :: r).length]? = some (.int (((x :: r)[(n + 2) % (x :: r).length]?).getD 0)) := by
        rw [nI_get, List.getElem?_eq_getElem hm2]; rfl
      have e1 : ixD (.list (nI (x :: r))) (.int (((n + 2 : Nat) : Int) % (((nI (x :: r)).length : Nat) : Int))) = some (.int (((x :: r)[(n + 2) % (x :: r).length]?).getD 0)) := by
        rw [nI_len, ← Int.natCast_emod]
        exact ixD_lN e2
      have e3 : 0 < (nI (x :: r)).length := by simp [nI]
      refine Eq.trans (by walk_at "ex") ?_
      rfl
  generalize hc : (if ns.isEmpty then 0 else (ns[(n + 2) % ns.length]?).getD 0) = c
  have ht : tw ns (n + 1) g = .lst (nI (scM ns / 65536 ^ n / 65536 :: List.replicate (n + 1) 0)) :: g := by
    show Ob.lst (nI (scM ns / 65536 ^ (n + 1) :: _)) :: g = _
    rw [Int.pow_succ, Int.ediv_ediv_of_nonneg (Int.le_of_lt (Int.pow_pos (by decide)))]
  rw [ht]
  clear ht hlen happ
  generalize ha : scM ns / 65536 ^ n = a at *
  generalize hv : drN ns n % m = vv
  walk_at "st"
  walk_at "st"
  show Rt _ _ (.lst (nI (a / 65536 :: List.replicate (n + 1) 0)) :: g) _ _
  walk_at "st"
  have hx1 : 0 ≤ (c + 40503 * (a % 65536) + 104729 * ((n + 2 : Nat) : Int)) % 4294967291 := Int.emod_nonneg _ (by decide)
  have hx2 : (c + 40503 * (a % 65536) + 104729 * ((n + 2 : Nat) : Int)) % 4294967291 < 4294967291 := Int.emod_lt_of_pos _ (by decide)
  generalize hx : (c + 40503 * (a % 65536) + 104729 * ((n + 2 : Nat) : Int)) % 4294967291 = x at *
  have y1 : 0 ≤ x * x % 4294967279 := Int.emod_nonneg _ (by decide)
  have y2 : x * x % 4294967279 < 4294967279 := Int.emod_lt_of_pos _ (by decide)
  walk_at "st"
  have hy1 : 0 ≤ x * x % 4294967279 * 48271 % 4294967291 := Int.emod_nonneg _ (by decide)
  have hy2 : x * x % 4294967279 * 48271 % 4294967291 < 4294967291 := Int.emod_lt_of_pos _ (by decide)
  generalize hy : x * x % 4294967279 * 48271 % 4294967291 = y at *
  have z1 : 0 ≤ y * y % 4294967279 := Int.emod_nonneg _ (by decide)
  have z2 : y * y % 4294967279 < 4294967279 := Int.emod_lt_of_pos _ (by decide)
  walk_at "st"
  generalize hz2 : y * y % 4294967279 * 69621 % 4294967291 = z at *
  walk_at "rt"
  · rw [← hv]
    unfold drN
    simp only [hc, ha, hx, hy, hz2]
  · rfl
/-- a draw as a number -/
theorem drN_nat (ns : List Int) (n : Nat) {m : Nat} (h : 0 < m) : ∃ k : Nat, drN ns n % (m : Int) = k ∧ k < m := by
  have h1 := Int.emod_nonneg (drN ns n) (show (m : Int) ≠ 0 by omega)
  have h2 := Int.emod_lt_of_pos (drN ns n) (show (0 : Int) < m by omega)
  exact ⟨(drN ns n % (m : Int)).toNat, by omega, by omega⟩
theorem drN_int (ns : List Int) (n : Nat) {m : Int} (h : 0 < m) : 0 ≤ drN ns n % m ∧ drN ns n % m < m := ⟨Int.emod_nonneg _ (by omega), Int.emod_lt_of_pos _ h⟩

end
section

/-! ### games as plain data -/
inductive Pl where
  | fin (w : Int)
  | mv (s : Int) (ms : List Nat)
def nD (ms : List Nat) : List PyData := ms.map fun m => PyData.int (m : Nat)
def Pl.d : Pl → PyData
  | .fin w => .tuple [.str "end", .int w]
  | .mv s ms => .tuple [.int s, .tuple (nD ms)]
def gD (g : List Pl) : PyData := .tuple (g.map Pl.d)
def PlOk (n : Nat) : Pl → Prop
  | .fin w => -99 ≤ w ∧ w ≤ 99
  | .mv s ms => (s = 0 ∨ s = 1) ∧ ms ≠ [] ∧ ms.Nodup ∧ (∀ m ∈ ms, m < n) ∧ ms.length ≤ 3
def Pl.moves : Pl → List Nat
  | .fin _ => []
  | .mv _ ms => ms
structure Good (g : List Pl) : Prop where
  ok : ∀ (p : Nat) (x : Pl), g[p]? = some x → PlOk g.length x
  len : g.length ≤ 30
structure Straight (g : List Pl) : Prop where
  ex : ∃ rk : Nat → Nat, (∀ (p : Nat) (x : Pl) (m : Nat), g[p]? = some x → m ∈ x.moves → rk m < rk p) ∧ ∀ p, p < g.length → rk p < g.length
theorem PlOk.mono {n m : Nat} (h : n ≤ m) : ∀ {x : Pl}, PlOk n x → PlOk m x
  | .fin _, q => q
  | .mv _ _, q => ⟨q.1, q.2.1, q.2.2.1, fun k hk => Nat.lt_of_lt_of_le (q.2.2.2.1 k hk) h, q.2.2.2.2⟩
/-- rows that lead down, each place given another number -/
def ren (es : List Nat) : Pl → Pl
  | .fin w => .fin w
  | .mv s ms => .mv s (ms.map fun m => es.getD m 0)
theorem rng_nat (n : Nat) : rng 0 n = nD (List.range n) := by
  unfold rng nD
  apply List.map_congr_left
  intro i _
  simp
theorem nD_perm {es : List PyData} {n : Nat} (h : es.Perm (nD (List.range n))) : ∃ ns : List Nat, es = nD ns ∧ ns.Perm (List.range n) := by
  have key : ∀ (a b : List PyData), a.Perm b → ∀ ns : List Nat, b = nD ns → ∃ ms : List Nat, a = nD ms ∧ ms.Perm ns := by
    intro a b hp
    induction hp with
    | nil => intro ns e; cases ns with
      | nil => exact ⟨[], rfl, List.Perm.refl _⟩
      | cons x r => simp [nD] at e
    | @cons x l1 l2 _ ih => intro ns e; cases ns with
      | nil => simp [nD] at e
      | cons y r =>
        have e1 : x = PyData.int (y : Nat) ∧ l2 = nD r := by simpa [nD] using e
        obtain ⟨ms, e2, p2⟩ := ih r e1.2
        exact ⟨y :: ms, by rw [e1.1, e2]; rfl, p2.cons y⟩
    | swap x y l2 => intro ns e; match ns, e with
      | [], e => simp [nD] at e
      | [_], e => simp [nD] at e
      | u :: v :: r, e =>
        have e1 : x = PyData.int (u : Nat) ∧ y = PyData.int (v : Nat) ∧ l2 = nD r := by simpa [nD] using e
        exact ⟨v :: u :: r, by rw [e1.1, e1.2.1, e1.2.2]; rfl, List.Perm.swap u v r⟩
    | trans _ _ ih1 ih2 => intro ns e; obtain ⟨ms, e1, p1⟩ := ih2 ns e; obtain ⟨ks, e2, p2⟩ := ih1 ms e1; exact ⟨ks, e2, p2.trans p1⟩
  exact key _ _ h _ rfl
theorem nD_get {ns : List Nat} {i : Nat} {m : Nat} (h : ns[i]? = some m) : (nD ns)[i]? = some (PyData.int (m : Nat)) := by
  unfold nD
  rw [List.getElem?_map, h]
  rfl
theorem nD_len (ns : List Nat) : (nD ns).length = ns.length := List.length_map _
theorem nD_take (ns : List Nat) (k : Nat) : (nD ns).take k = nD (ns.take k) := by unfold nD; rw [List.map_take]
theorem getD_lt {α : Type} {l : List α} {i : Nat} {d : α} (h : i < l.length) : l.getD i d = l[i] := by rw [List.getD_eq_getElem?_getD, List.getElem?_eq_getElem h]; rfl
/-- the rows rs, each place j being number es[j] then -/
def renG (es : List Nat) (rs : List Pl) : List Pl := (List.range rs.length).map fun p => ren es (rs.getD (es.idxOf p) (.fin 0))
theorem renG_len (es : List Nat) (rs : List Pl) : (renG es rs).length = rs.length := by simp [renG]
section
variable {es : List Nat} {rs : List Pl} (hes : es.Perm (List.range rs.length))
include hes
theorem es_len : es.length = rs.length := by rw [hes.length_eq, List.length_range]
theorem es_nd : es.Nodup := hes.nodup_iff.mpr List.nodup_range
theorem es_ix {p : Nat} (h : p < rs.length) : es.idxOf p < rs.length ∧ es[es.idxOf p]? = some p := by
  have hm : p ∈ es := hes.mem_iff.mpr (List.mem_range.mpr h)
  have hl := List.idxOf_lt_length_of_mem hm
  refine ⟨by rw [← es_len hes]; exact hl, ?_⟩
  rw [List.getElem?_eq_getElem hl, List.getElem_idxOf hl]
theorem es_lt {j : Nat} (h : j < rs.length) : es.getD j 0 < rs.length := by
  have hl : j < es.length := by rw [es_len hes]; exact h
  rw [getD_lt hl]
  exact List.mem_range.mp (hes.mem_iff.mp (List.getElem_mem hl))
theorem es_of {j : Nat} (h : j < rs.length) : es.idxOf (es.getD j 0) = j := by
  have hl : j < es.length := by rw [es_len hes]; exact h
  rw [getD_lt hl]
  exact (es_nd hes).idxOf_getElem j hl
theorem renG_get {p : Nat} {x : Pl} (h : (renG es rs)[p]? = some x) : p < rs.length ∧ ∃ y, rs[es.idxOf p]? = some y ∧ x = ren es y := by
  have hp : p < rs.length := by
    have := (List.getElem?_eq_some_iff.mp h).1
    rwa [renG_len] at this
  refine ⟨hp, ?_⟩
  have hj := (es_ix hes hp).1
  unfold renG at h
  rw [List.getElem?_map, List.getElem?_range hp] at h
  refine ⟨rs[es.idxOf p], List.getElem?_eq_getElem hj, ?_⟩
  have h2 : x = ren es (rs.getD (es.idxOf p) (.fin 0)) := (Option.some.inj h).symm
  rw [getD_lt hj] at h2
  exact h2
theorem renG_good (hok : ∀ (j : Nat) (p : Pl), rs[j]? = some p → PlOk j p) (hl : rs.length ≤ 12) : Good (renG es rs) := by
  refine ⟨fun p x h => ?_, by rw [renG_len]; omega⟩
  obtain ⟨hp, y, hy, rfl⟩ := renG_get hes h
  rw [renG_len]
  have hj := (es_ix hes hp).1
  have ho := hok _ _ hy
  cases y with
  | fin w => exact ho
  | mv s ms =>
    obtain ⟨h1, h2, h3, h4, h5⟩ := ho
    refine ⟨h1, fun z => h2 (by simpa using z), ?_, fun m hm => ?_, by rw [List.length_map]; exact h5⟩
    · show (ms.map _).Pairwise (· ≠ ·)
      rw [List.pairwise_map]
      refine List.Pairwise.imp_of_mem ?_ h3
      intro a b ha hb hab z
      have e1 := es_of hes (Nat.lt_trans (h4 a ha) hj)
      have e2 := es_of hes (Nat.lt_trans (h4 b hb) hj)
      rw [z, e2] at e1
      exact hab e1.symm
    · obtain ⟨k, hk, rfl⟩ := List.mem_map.mp hm
      exact es_lt hes (Nat.lt_trans (h4 k hk) hj)
theorem renG_straight (hok : ∀ (j : Nat) (p : Pl), rs[j]? = some p → PlOk j p) : Straight (renG es rs) := by
  refine ⟨es.idxOf, fun p x m h hm => ?_, fun p hp => ?_⟩
  · obtain ⟨hp, y, hy, rfl⟩ := renG_get hes h
    have hj := (es_ix hes hp).1
    cases y with
    | fin w => cases hm
    | mv s ms =>
      obtain ⟨_, _, _, h4, _⟩ := hok _ _ hy
      obtain ⟨k, hk, rfl⟩ := List.mem_map.mp hm
      show es.idxOf (es.getD k 0) < es.idxOf p
      rw [es_of hes (Nat.lt_trans (h4 k hk) hj)]
      exact h4 k hk
  · rw [renG_len] at hp ⊢
    exact (es_ix hes hp).1
theorem renG_is {x : List PyData} (hl : x.length = rs.length) (h : ∀ (j : Nat) (p : Pl) (e : Nat), j < rs.length → rs[j]? = some p → es[j]? = some e → x[e]? = some (ren es p).d) : x = (renG es rs).map Pl.d := by
  apply List.ext_getElem?
  intro p
  by_cases hp : p < rs.length
  · obtain ⟨hj, he⟩ := es_ix hes hp
    rw [h _ _ p hj (List.getElem?_eq_getElem hj) he, List.getElem?_map]
    unfold renG
    rw [List.getElem?_map, List.getElem?_range hp, Option.map_some, Option.map_some, getD_lt hj]
  · rw [List.getElem?_eq_none (by omega), List.getElem?_eq_none (by rw [List.length_map, renG_len]; omega)]
end
/-! ### a place: its side, and the rest of it -/
def Pl.side : Pl → PyData
  | .fin _ => .str "end"
  | .mv s _ => .int s
def Pl.more : Pl → PyData
  | .fin w => .int w
  | .mv _ ms => .tuple (nD ms)
def chI (s : Int) (xs : List Int) : Int := if s = 0 then maxI xs else minI xs
/-! ### what is told of a place by those to which it moves -/
def fixS {α : Type} (d : α) (F : (Nat → α) → Pl → α) (g : List Pl) : Nat → Nat → α
  | 0, _ => d
  | k + 1, p => match g[p]? with | some x => F (fixS d F g k) x | none => d
def valS {α : Type} (d : α) (F : (Nat → α) → Pl → α) (g : List Pl) (p : Nat) : α := fixS d F g g.length p
structure Rk (g : List Pl) (rk : Nat → Nat) : Prop where
  dn : ∀ (p : Nat) (x : Pl) (m : Nat), g[p]? = some x → m ∈ x.moves → rk m < rk p
  lt : ∀ p, p < g.length → rk p < g.length
theorem Straight.rk {g : List Pl} (h : Straight g) : ∃ rk, Rk g rk := by
  obtain ⟨rk, h1, h2⟩ := h.ex
  exact ⟨rk, h1, h2⟩
/-- what F tells rests on the moves alone -/
def Loc1 {α : Type} (F : (Nat → α) → Pl → α) : Prop := ∀ f f' x, (∀ m ∈ x.moves, f m = f' m) → F f x = F f' x
theorem fix_stable {α : Type} {d : α} {F : (Nat → α) → Pl → α} {g : List Pl} {rk : Nat → Nat} (hF : Loc1 F) (h : Rk g rk) : ∀ (k k' p : Nat), rk p < k → rk p < k' → fixS d F g k p = fixS d F g k' p
  | 0, _, _, h1, _ => absurd h1 (Nat.not_lt_zero _)
  | _ + 1, 0, _, _, h2 => absurd h2 (Nat.not_lt_zero _)
  | k + 1, k' + 1, p, h1, h2 => by
    rw [fixS, fixS]
    cases e : g[p]? with
    | none => rfl
    | some x =>
      refine hF _ _ x fun m hm => ?_
      have := h.dn p x m e hm
      exact fix_stable hF h k k' m (by omega) (by omega)
theorem val_eq {α : Type} {d : α} {F : (Nat → α) → Pl → α} {g : List Pl} {rk : Nat → Nat} (hF : Loc1 F) (h : Rk g rk) {p : Nat} {x : Pl} (e : g[p]? = some x) : valS d F g p = F (valS d F g) x := by
  have hp : p < g.length := (List.getElem?_eq_some_iff.mp e).1
  have hr := h.lt p hp
  have h1 : valS d F g p = fixS d F g (g.length + 1) p := fix_stable hF h _ _ p hr (by omega)
  rw [h1, fixS, e]
  rfl
/-- the worth of a place -/
def wF (f : Nat → Int) : Pl → Int
  | .fin w => w
  | .mv s ms => chI s (ms.map f)
def wor (g : List Pl) (p : Nat) : Int := valS 0 wF g p
theorem wF_loc : Loc1 wF := fun f f' x h => by
  cases x with
  | fin w => rfl
  | mv s ms =>
    have e : ms.map f = ms.map f' := List.map_congr_left h
    show chI s (ms.map f) = chI s (ms.map f')
    rw [e]
theorem wor_fin {g : List Pl} {rk : Nat → Nat} (h : Rk g rk) {p : Nat} {w : Int} (e : g[p]? = some (.fin w)) : wor g p = w := val_eq wF_loc h e
theorem wor_mv {g : List Pl} {rk : Nat → Nat} (h : Rk g rk) {p : Nat} {s : Int} {ms : List Nat} (e : g[p]? = some (.mv s ms)) : wor g p = chI s (ms.map (wor g)) := val_eq wF_loc h e

theorem gD_get {g : List Pl} {p : Nat} {x : Pl} (h : g[p]? = some x) : (g.map Pl.d)[p]? = some x.d := by rw [List.getElem?_map, h]; rfl
theorem ixD_g {g : List Pl} {p : Nat} {x : Pl} (h : g[p]? = some x) : ixD (gD g) (.int (p : Int)) = some x.d := ixD_tN (gD_get h)
local macro_rules | `(tactic| walk_at "op") => `(tactic| ((with_reducible apply ixD_g); assumption))
local macro_rules | `(tactic| walk_at "bi") => `(tactic| with_reducible exact lenD_g)
local macro_rules | `(tactic| walk_at "bi") => `(tactic| with_reducible exact lenD_n)

end
section
local macro_rules | `(tactic| walk_at "op") => `(tactic| ((with_reducible apply ixD_g); assumption))
local macro_rules | `(tactic| walk_at "bi") => `(tactic| with_reducible exact lenD_g)
local macro_rules | `(tactic| walk_at "bi") => `(tactic| with_reducible exact lenD_n)
/-! ### picks, mixed rows, worths -/
noncomputable def m_l_pick (F_l_draw : FS) : X :=
  (xRet (eOp ixD (eVar 2) (eCall F_l_draw (vCons (vE (eVar 0)) (vCons (vR 1) (vCons (vE (eCB lenD (aCons (eVar 2) aNil))) vNil))))))
noncomputable def f_l_pick : FS := fnS 3 (m_l_pick f_l_draw)

def pkD (ns : List Int) (n : Nat) (ds : List PyData) : PyData := ds.getD (drN ns n % (ds.length : Int)).toNat .none
theorem pkD_at (ns : List Int) (n : Nat) {ds : List PyData} (h : 0 < ds.length) : ∃ k, k < ds.length ∧ drN ns n % (ds.length : Int) = (k : Nat) ∧ ds[k]? = some (pkD ns n ds) := by
  obtain ⟨k, hk, hl⟩ := drN_nat ns n h
  refine ⟨k, hl, hk, ?_⟩
  unfold pkD
  rw [hk, Int.toNat_natCast, List.getD_eq_getElem?_getD, List.getElem?_eq_getElem hl]
  rfl
theorem pkD_mem (ns : List Int) (n : Nat) {ds : List PyData} (h : 0 < ds.length) : pkD ns n ds ∈ ds := by
  obtain ⟨k, _, _, e⟩ := pkD_at ns n h
  exact List.mem_of_getElem? e
theorem pick_eq (ns : List Int) (n : Nat) (ds : List PyData) (g : Sg) (hn : n < 90000) (hd : 0 < ds.length) (hz : ns.length ≤ 63) : f_l_pick [scr ns, .ref 0, .dat (.list ds)] (tw ns n g) = some (.dat (pkD ns n ds), tw ns (n + 1) g) := by
  unfold f_l_pick m_l_pick
  refine fn_ret (l := [scr ns, .ref 0, .dat (.list ds)]) rfl ?_
  obtain ⟨k, hk, e, hg⟩ := pkD_at ns n hd
  have hdr := draw_eq ns n (ds.length : Int) g hn (by omega) hz
  rw [e] at hdr
  walk_at "rt"
  · rfl
  · rfl
noncomputable def b_l_mixed_1 (F_l_draw : FS) : X :=
  (xApp 4 (ePopAt 3 (eCall F_l_draw (vCons (vE (eVar 0)) (vCons (vR 1) (vCons (vE (eLenV 3)) vNil))))))
noncomputable def m_l_mixed (F_l_draw : FS) : X :=
  (xSeq (xParLL 3 4 (lList (eVar 2)) (lLst aNil))
  (xSeq (xWhile (bTruV 3)
    (b_l_mixed_1 F_l_draw))
  (xFrz 4 (xRet (eVar 4)))))
noncomputable def f_l_mixed : FS := fnS 5 (m_l_mixed f_l_draw)

def mxL (ns : List Int) : Nat → Nat → List PyData → List PyData
  | 0, _, _ => []
  | f + 1, n, ds => match ds[(drN ns n % (ds.length : Int)).toNat]? with
    | none => []
    | some d => d :: mxL ns f (n + 1) (ds.eraseIdx (drN ns n % (ds.length : Int)).toNat)
theorem erase_perm {α : Type} : ∀ (l : List α) (j : Nat) (h : j < l.length), (l[j] :: l.eraseIdx j).Perm l
  | [], j, h => absurd h (Nat.not_lt_zero _)
  | x :: l, 0, h => List.Perm.refl _
  | x :: l, j + 1, h => (List.Perm.swap _ _ _).trans ((erase_perm l j (by simpa using h)).cons x)
theorem mxL_perm (ns : List Int) : ∀ (f n : Nat) (ds : List PyData), ds.length = f → (mxL ns f n ds).Perm ds
  | 0, _, ds, h => by
    rw [List.length_eq_zero_iff.mp h]
    exact List.Perm.refl _
  | f + 1, n, ds, h => by
    obtain ⟨k, hk, hl⟩ := drN_nat ns n (m := ds.length) (by omega)
    rw [mxL, hk, Int.toNat_natCast, List.getElem?_eq_getElem hl]
    exact ((mxL_perm ns f (n + 1) _ (by rw [List.length_eraseIdx, if_pos hl]; omega)).cons _).trans (erase_perm ds k hl)
theorem mixed_run (ns : List Int) (g : Sg) (hz : ns.length ≤ 63) (x2 : Vl) : ∀ (f n : Nat) (ds acc : List PyData), ds.length = f → n + f < 90000 → acc.length + f < 90000 →
    whF (bTruV 3) (xApp 4 (ePopAt 3 (eCall f_l_draw (vCons (vE (eVar 0)) (vCons (vR 1) (vCons (vE (eLenV 3)) vNil)))))) (f + 1) [scr ns, .ref 0, x2, .own ds, .own acc] (tw ns n g) = some (.nx, [scr ns, .ref 0, x2, .own [], .own (acc ++ mxL ns f n ds)], tw ns (n + f) g)
  | 0, n, ds, acc, h, _, _ => by
    rw [List.length_eq_zero_iff.mp h, whF_at]
    simp [bTruV_at, lsV, ob, oo, mxL]
  | f + 1, n, ds, acc, h, hn, ha => by
    obtain ⟨k, hk, hl⟩ := drN_nat ns n (m := ds.length) (by omega)
    have hdr := draw_eq ns n (ds.length : Int) g (by omega) (by omega) hz
    rw [hk] at hdr
    have hne : (!ds.isEmpty) = true := by cases ds with
      | nil => simp at h
      | cons => rfl
    have hx : xApp 4 (ePopAt 3 (eCall f_l_draw (vCons (vE (eVar 0)) (vCons (vR 1) (vCons (vE (eLenV 3)) vNil))))) [scr ns, .ref 0, x2, .own ds, .own acc] (tw ns n g) = some (.nx, [scr ns, .ref 0, x2, .own (ds.eraseIdx k), .own (acc ++ [ds[k]])], tw ns (n + 1) g) := by
      refine Eq.trans (xApp_ev rfl (ePopAt_ev rfl (by walk_at "ev") rfl (seqIx_in (by omega)) (by omega) (by rw [Int.toNat_natCast]; exact List.getElem?_eq_getElem hl)) rfl (by show acc.length < 4000000; omega)) ?_
      rw [Int.toNat_natCast]
      rfl
    have ih := mixed_run ns g hz x2 f (n + 1) (ds.eraseIdx k) (acc ++ [ds[k]]) (by rw [List.length_eraseIdx, if_pos hl]; omega) (by omega) (by simp; omega)
    rw [whF_at, bTruV_ev rfl, ob_some, if_pos hne, hx, ol_nx, ih, mxL, hk, Int.toNat_natCast, List.getElem?_eq_getElem hl]
    simp only [List.append_assoc, List.singleton_append]
    rw [show n + 1 + f = n + (f + 1) by omega]
theorem mixed_eq (ns : List Int) (n : Nat) (ds : List PyData) (g : Sg) (hn : n + ds.length < 90000) (hd : ds.length ≤ 1000) (hz : ns.length ≤ 63) : f_l_mixed [scr ns, .ref 0, .dat (.list ds)] (tw ns n g) = some (.dat (.list (mxL ns ds.length n ds)), tw ns (n + ds.length) g) := by
  unfold f_l_mixed m_l_mixed
  refine fn_ret (l := [scr ns, .ref 0, .dat (.list ds), .no, .no]) rfl ?_
  walk_at "st"
  refine rt_seq (xWhile_of (mixed_run ns g hz _ ds.length n ds [] rfl hn (by simp; omega)) (by omega)) ?_
  refine rt_frz rfl ?_
  walk_at "rt"
  · rfl
  · rfl
noncomputable def m_l_drawn_worth (F_l_draw F_l_pick : FS) : X :=
  (xSeq (xAsg 2 (eOp subD (eCall F_l_draw (vCons (vE (eVar 0)) (vCons (vR 1) (vCons (vE (eC (.int 5))) vNil)))) (eC (.int 2))))
  (xRet (eCall F_l_pick (vCons (vE (eVar 0)) (vCons (vR 1) (vCons (vE (eL (lLst (aCons (eVar 2) (aCons (eVar 2) (aCons (eVar 2) (aCons (eVar 2) (aCons (eC (.int 99)) (aCons (eUn negD (eC (.int 99))) (aCons (eOp subD (eCall F_l_draw (vCons (vE (eVar 0)) (vCons (vR 1) (vCons (vE (eC (.int 199))) vNil)))) (eC (.int 99))) aNil)))))))))) vNil))))))
noncomputable def f_l_drawn_worth : FS := fnS 3 (m_l_drawn_worth f_l_draw f_l_pick)

def dwI (ns : List Int) (n : Nat) : Int := match pkD ns (n + 2) [.int (drN ns n % 5 - 2), .int (drN ns n % 5 - 2), .int (drN ns n % 5 - 2), .int (drN ns n % 5 - 2), .int 99, .int (-99), .int (drN ns (n + 1) % 199 - 99)] with
  | .int i => i
  | _ => 0
theorem dwI_ok (ns : List Int) (n : Nat) : pkD ns (n + 2) [.int (drN ns n % 5 - 2), .int (drN ns n % 5 - 2), .int (drN ns n % 5 - 2), .int (drN ns n % 5 - 2), .int 99, .int (-99), .int (drN ns (n + 1) % 199 - 99)] = .int (dwI ns n) ∧ -99 ≤ dwI ns n ∧ dwI ns n ≤ 99 := by
  have h1 := drN_int ns n (m := 5) (by omega)
  have h2 := drN_int ns (n + 1) (m := 199) (by omega)
  have hm := pkD_mem ns (n + 2) (ds := [.int (drN ns n % 5 - 2), .int (drN ns n % 5 - 2), .int (drN ns n % 5 - 2), .int (drN ns n % 5 - 2), .int 99, .int (-99), .int (drN ns (n + 1) % 199 - 99)]) (by simp)
  unfold dwI
  generalize pkD ns (n + 2) [.int (drN ns n % 5 - 2), .int (drN ns n % 5 - 2), .int (drN ns n % 5 - 2), .int (drN ns n % 5 - 2), .int 99, .int (-99), .int (drN ns (n + 1) % 199 - 99)] = d at hm
  simp only [List.mem_cons, List.not_mem_nil, or_false] at hm
  rcases hm with rfl | rfl | rfl | rfl | rfl | rfl | rfl <;> exact ⟨rfl, by simp only; omega, by simp only; omega⟩
theorem dworth_eq (ns : List Int) (n : Nat) (g : Sg) (hn : n + 3 < 90000) (hz : ns.length ≤ 63) : f_l_drawn_worth [scr ns, .ref 0] (tw ns n g) = some (.dat (.int (dwI ns n)), tw ns (n + 3) g) := by
  unfold f_l_drawn_worth m_l_drawn_worth
  refine fn_ret (l := [scr ns, .ref 0, .no]) rfl ?_
  have d1 := draw_eq ns n 5 g (by omega) (by omega) hz
  have d2 := draw_eq ns (n + 1) 199 g (by omega) (by omega) hz
  walk_at "st"
  have p := pick_eq ns (n + 2) [.int (drN ns n % 5 - 2), .int (drN ns n % 5 - 2), .int (drN ns n % 5 - 2), .int (drN ns n % 5 - 2), .int 99, .int (-99), .int (drN ns (n + 1) % 199 - 99)] g (by omega) (by simp) hz
  rw [(dwI_ok ns n).1] at p
  walk_at "rt"
  · rfl
  · rfl
local macro_rules | `(tactic| walk_at "cl") => `(tactic| ((with_reducible apply draw_eq) <;> first | omega | assumption))
local macro_rules | `(tactic| walk_at "cl") => `(tactic| ((with_reducible apply dworth_eq) <;> first | omega | assumption))

end
section
local macro_rules | `(tactic| walk_at "cq") => `(tactic| with_reducible assumption)
local macro_rules | `(tactic| walk_at "le") => `(tactic| first | omega | (simp only [List.length_cons, List.length_nil, List.length_append, List.length_map, List.length_set, List.length_range, nD_len]; omega) | decide)
local macro_rules | `(tactic| walk_at "sr") => `(tactic| ((repeat (with_reducible apply SetR.s)); with_reducible exact SetR.z))
local macro_rules | `(tactic| walk_at "ha") => `(tactic| first | walk_at "op" | with_reducible exact truO_b | with_reducible exact truO_l | with_reducible exact truO_t | with_reducible exact truO_n | with_reducible exact truO_i | walk_at "at" | walk_at "bi" | walk_at "dg" | with_reducible rfl | rfl)
local macro_rules | `(tactic| walk_at "v") => `(tactic| first
  | with_reducible refine wp_seq ?_
  | ((with_reducible apply wp_eVar); (rfl))
  | with_reducible refine wp_eC ?_
  | with_reducible refine wp_eOp ?_
  | with_reducible refine has_some ?_
  | ((with_reducible apply hasG_nm); (walk_at "sr"))
  | ((with_reducible apply hasG_tp); (rfl); (rfl))
  | with_reducible refine hasG_cons ?_
  | with_reducible refine hasG_nil ?_
  | ((with_reducible apply has_of); (walk_at "ha"))
  | with_reducible refine wp_eCall ?_
  | with_reducible refine wp_vE ?_
  | ((with_reducible apply wp_vR); (rfl))
  | with_reducible refine wp_vNil ?_
  | ((with_reducible apply fok_eq); (walk_at "cq"))
  | with_reducible refine wp_asg ?_
  | with_reducible refine wp_asgG ?_
  | with_reducible refine wp_asgL ?_
  | with_reducible refine wp_if ?_
  | with_reducible refine wp_ret ?_
  | with_reducible refine seqK_ret ?_
  | with_reducible refine retK_ret ?_
  | with_reducible refine wp_bTest ?_
  | with_reducible refine wp_bTru ?_
  | with_reducible refine wp_bNot ?_
  | with_reducible refine wp_eCB ?_
  | with_reducible refine wp_aCons ?_
  | with_reducible refine wp_aNil ?_
  | with_reducible refine wp_eUn ?_
  | with_reducible refine wp_eTup ?_
  | with_reducible refine wp_eL ?_
  | with_reducible refine wp_lLst ?_
  | with_reducible refine wp_eIf ?_
  | with_reducible refine wp_for ?_
  | with_reducible refine wp_iWipe ?_
  | with_reducible refine wp_iSq ?_
  | with_reducible refine wp_iRg1 ?_
  | with_reducible refine wp_iRg2 ?_
  | with_reducible refine wp_keep ?_
  | with_reducible refine wp_pre ?_
  | with_reducible refine wp_next ?_
  | with_reducible refine wp_break ?_
  | with_reducible refine wp_cont ?_
  | with_reducible refine bodyK_nx ?_
  | with_reducible refine bodyK_ct ?_
  | with_reducible refine bodyK_bk ?_
  | with_reducible refine bodyK_ret ?_
  | with_reducible refine seqK_bk ?_
  | with_reducible refine seqK_ct ?_
  | with_reducible refine retK_nx ?_
  | with_reducible refine wp_forNil ?_
  | with_reducible refine wp_eIsN ?_
  | with_reducible refine wp_eNotN ?_
  | with_reducible refine wp_eNot ?_
  | ((with_reducible apply wp_eIxV); (rfl))
  | ((with_reducible apply wp_eLenV); (rfl))
  | ((with_reducible apply wp_eTupleV); (rfl))
  | ((with_reducible apply wp_eSlV); (rfl))
  | with_reducible refine wp_eSl ?_
  | with_reducible refine wp_oNone ?_
  | with_reducible refine wp_oSome ?_
  | with_reducible refine wp_eInV ?_
  | ((with_reducible apply wp_ePopO); (rfl); (walk_at "gt"); (walk_at "sr"))
  | ((with_reducible apply wp_eDget); (exact ⟨_, rfl⟩))
  | ((with_reducible apply wp_eDget2); (exact ⟨_, rfl⟩))
  | with_reducible refine wp_eDin ?_
  | with_reducible refine wp_eDnot ?_
  | ((with_reducible apply wp_eLenD); (rfl))
  | with_reducible refine wp_eIsi ?_
  | with_reducible refine wp_eCallK ?_
  | with_reducible refine wp_eCallD ?_
  | with_reducible refine wp_lList ?_
  | with_reducible refine wp_lListRg ?_
  | with_reducible refine wp_lListRg2 ?_
  | with_reducible refine wp_iEn ?_
  | with_reducible refine wp_iEnA ?_
  | with_reducible refine wp_kSet ?_
  | with_reducible refine wp_kSc ?_
  | with_reducible refine wp_sortS ?_
  | with_reducible refine wp_lenS ?_
  | with_reducible refine wp_lRev ?_
  | with_reducible refine wp_lRep ?_
  | ((with_reducible apply wp_lListV); (rfl))
  | ((with_reducible apply wp_lKeys); (rfl))
  | ((with_reducible apply wp_lVals); (rfl))
  | with_reducible refine wp_vNewD ?_
  | with_reducible refine wp_eMinDef ?_
  | with_reducible refine wp_lLc ?_
  | with_reducible refine wp_bYes ?_
  | ((with_reducible apply wp_bTruV); (rfl))
  | ((with_reducible apply wp_bTruD); (rfl))
  | with_reducible refine wp_bIf ?_
  | with_reducible refine wp_lDnew ?_
  | with_reducible refine wp_lDc ?_
  | with_reducible refine wp_asgC ?_
  | with_reducible refine wp_newL ?_
  | with_reducible refine wp_retN ?_
  | with_reducible refine wp_drop ?_
  | ((with_reducible apply wp_app); (exact ⟨_, rfl⟩))
  | with_reducible refine wp_setI ?_
  | ((with_reducible apply wp_aug); (rfl))
  | ((with_reducible apply wp_frzO); (rfl); (walk_at "sr"))
  | ((with_reducible apply wp_frzD); (rfl))
  | with_reducible refine wp_par ?_
  | with_reducible refine wp_parDL ?_
  | with_reducible refine wp_parLD ?_
  | with_reducible refine wp_parLL ?_
  | with_reducible refine wp_par3 ?_
  | with_reducible refine wp_parCL ?_
  | with_reducible refine wp_lDone ?_
  | ((with_reducible apply wp_lSortK); (rfl))
  | with_reducible refine wp_eIndex ?_
  | ((with_reducible apply wp_eIndexV); (rfl))
  | with_reducible refine wp_eInDV ?_
  | with_reducible refine wp_dput ?_
  | ((with_reducible apply wp_dpop); (exact ⟨_, rfl⟩))
  | with_reducible refine wp_tup2 ?_
  | with_reducible refine wp_tup3 ?_
  | with_reducible refine wp_tup4 ?_
  | with_reducible refine wp_uNil ?_
  | with_reducible refine wp_uD ?_
  | with_reducible refine wp_uL ?_
  | with_reducible refine wp_uC ?_
  | with_reducible refine wp_vLam ?_
  | ((with_reducible apply wp_vFn); (rfl))
  | ((with_reducible apply wp_eCallF); (rfl))
  | ((with_reducible apply wp_retD); (rfl))
  | with_reducible refine wp_callDg ?_
  | with_reducible refine wp_sortBy ?_
  | ((with_reducible apply ex_one); (rfl))
  | with_reducible refine wp_eChain ?_
  | ((with_reducible refine wp_bAnd ?_); (repeat walk_at "v"); walk_at "br")
  | ((with_reducible refine wp_bOr ?_); (repeat walk_at "v"); walk_at "br")
  | ((with_reducible refine wp_eAnd ?_); (repeat walk_at "v"); walk_at "br")
  | ((with_reducible refine wp_eOr ?_); (repeat walk_at "v"); walk_at "br")
  | with_reducible refine wp_bAndB ?_
  | with_reducible refine wp_bOrB ?_
  | with_reducible refine wp_eAndB ?_
  | with_reducible refine wp_eOrB ?_
  | walk_at "xx")
local macro_rules | `(tactic| walk_at "nk") => `(tactic| ((repeat walk_at "v"); first | exact ⟨rfl, rfl, rfl⟩ | exact ⟨rfl, rfl, by walk_at "op"⟩))
local macro_rules | `(tactic| walk_at "lt2") => `(tactic| first | omega | exact ⟨by omega, by omega⟩ | (simp only [List.length_cons, List.length_nil, List.length_append, List.length_map, List.length_set, nD_len]; omega))
local macro_rules | `(tactic| walk_at "ky") => `(tactic| first | with_reducible exact keyO_i | with_reducible exact keyO_s | rfl)
local macro_rules | `(tactic| walk_at "xx") => `(tactic| first
  | ((with_reducible apply ex_set); (walk_at "sr"))
  | with_reducible refine ex_bool ?_
  | with_reducible refine ex_dat ?_
  | ((with_reducible apply ex_rng); omega)
  | ((with_reducible apply ex_rep); omega; (walk_at "le"))
  | ((with_reducible apply ex_rng2); omega; omega)
  | with_reducible refine ex_int ?_
  | with_reducible refine ex_list ?_
  | ((with_reducible apply and_le); (walk_at "le"))
  | ((with_reducible apply and_bk); (rfl))
  | ((with_reducible apply ex_ix); (rfl))
  | ((with_reducible apply ex_key); (rfl); (walk_at "ky"))
  | ((with_reducible apply ex_app); (rfl); (walk_at "le"); (walk_at "sr"))
  | ((with_reducible apply ex_own); (rfl))
  | ((with_reducible apply ex_dct); (rfl))
  | ((with_reducible apply ex_setI); (rfl); (walk_at "lt2"); (walk_at "sr"))
  | ((with_reducible apply ex_dput); (rfl); (walk_at "ky"); (walk_at "lt2"); (walk_at "sr"))
  | ((with_reducible apply ex_dpop); (rfl); (walk_at "ky"); (walk_at "gt"); (walk_at "sr"))
  | ((with_reducible apply ex_par); (walk_at "sr"); (walk_at "sr"))
  | ((with_reducible apply ex_par3); (walk_at "sr"); (walk_at "sr"); (walk_at "sr"))
  | ((with_reducible apply ex_tup2); (walk_at "sr"); (walk_at "sr"))
  | ((with_reducible apply ex_tup3); (walk_at "sr"); (walk_at "sr"); (walk_at "sr"))
  | ((with_reducible apply ex_tup4); (walk_at "sr"); (walk_at "sr"); (walk_at "sr"); (walk_at "sr"))
  | ((with_reducible apply ex_kit); (walk_at "ki"))
  | with_reducible refine ex_zipT ?_
  | with_reducible refine ex_zipL ?_
  | ((with_reducible apply ex_chain); (walk_at "op"); (intro _; walk_at "nk"))
  | ((with_reducible apply ex_and2); (intro _; walk_at "nk"))
  | ((with_reducible apply ex_and1); (intro _; walk_at "nk"))
  | ((with_reducible apply ex_ls); (rfl)))
local macro_rules | `(tactic| walk_at "br") => `(tactic| first | ((with_reducible apply br_T); (walk_at "tr")) | ((with_reducible apply br_F); (walk_at "tr")))
local macro_rules | `(tactic| walk_at "vfn") => `(tactic| refine fok_fn (by (simp only [List.length_cons, List.length_nil, Nat.reduceAdd, Nat.reduceSub, List.replicate_succ, List.replicate_zero, List.cons_append, List.nil_append]; try rfl)) ?_)
local macro_rules | `(tactic| walk_at "vc") => `(tactic| repeat (first | walk_at "v" | with_reducible refine seqK_nx ?_ | walk_at "br" | with_reducible exact ⟨rfl, rfl, rfl⟩ | with_reducible exact ⟨rfl, rfl⟩))
local macro_rules | `(tactic| walk_at "wi") => `(tactic| (simp only [wipeV, List.set_cons_succ, List.set_cons_zero]; try rfl))
local macro_rules | `(tactic| walk_at "vs") => `(tactic| ((try with_reducible refine wp_seq ?_); (repeat (first | walk_at "v" | walk_at "br")); (try with_reducible refine seqK_nx ?_)))

section
local macro_rules | `(tactic| walk_at "op") => `(tactic| ((with_reducible apply ixD_g); assumption))
local macro_rules | `(tactic| walk_at "bi") => `(tactic| with_reducible exact lenD_g)
local macro_rules | `(tactic| walk_at "bi") => `(tactic| with_reducible exact lenD_n)
local macro_rules | `(tactic| walk_at "cl") => `(tactic| ((with_reducible apply draw_eq) <;> first | omega | assumption))
local macro_rules | `(tactic| walk_at "cl") => `(tactic| ((with_reducible apply dworth_eq) <;> first | omega | assumption))
/-! ### straight games -/
theorem mixR (ns : List Int) (n i : Nat) (g : Sg) (hn : n + i < 90000) (hi : i ≤ 1000) (hz : ns.length ≤ 63) : ∃ es : List Nat, f_l_mixed [scr ns, .ref 0, .dat (.list (rng 0 i))] (tw ns n g) = some (.dat (.list (nD es)), tw ns (n + i) g) ∧ es.Perm (List.range i) := by
  have h := mixed_eq ns n (rng 0 i) g (by rw [rng_len]; exact hn) (by rw [rng_len]; exact hi) hz
  have hp := mxL_perm ns _ n (rng 0 i) rfl
  rw [rng_len] at h hp
  rw [rng_nat] at hp
  obtain ⟨es, e, p⟩ := nD_perm hp
  rw [rng_nat] at h ⊢
  rw [e] at h
  exact ⟨es, h, p⟩
noncomputable def b_l_straight_1 (F_l_draw F_l_mixed F_l_drawn_worth : FS) : X :=
  (xSeq (xAsg 5 (eSl (eCall F_l_mixed (vCons (vE (eVar 0)) (vCons (vR 1) (vCons (vE (eL (lListRg (eVar 4)))) vNil)))) oNone (oSome (eOp plusD (eC (.int 1)) (eCall F_l_draw (vCons (vE (eVar 0)) (vCons (vR 1) (vCons (vE (eC (.int 3))) vNil))))))))
    (xIf (bOr (bTest (eOp ltD (eVar 4) (eC (.int 2)))) (bTest (eOp eqD (eCall F_l_draw (vCons (vE (eVar 0)) (vCons (vR 1) (vCons (vE (eC (.int 6))) vNil)))) (eC (.int 0)))))
      (xApp 3 (eTup (aCons (eC (.str "end")) (aCons (eCall F_l_drawn_worth (vCons (vE (eVar 0)) (vCons (vR 1) vNil))) aNil))))
      (xApp 3 (eTup (aCons (eCall F_l_draw (vCons (vE (eVar 0)) (vCons (vR 1) (vCons (vE (eC (.int 2))) vNil)))) (aCons (eCB tupleD (aCons (eVar 5) aNil)) aNil))))))
noncomputable def b_l_straight_2 (F_l_draw F_l_mixed F_l_drawn_worth : FS) : X :=
  (xSetI 7 (eOp ixD (eVar 6) (eVar 4)) (eIf (bTest (eOp eqD (eVar 8) (eC (.str "end")))) (eTup (aCons (eVar 8) (aCons (eVar 9) aNil))) (eTup (aCons (eVar 8) (aCons (eCB tupleD (aCons (eL (lLc [10] (iSq (eVar 9)) (gNm 10) bYes (eOp ixD (eVar 6) (eVar 10)))) aNil)) aNil)))))
noncomputable def m_l_straight (F_l_draw F_l_mixed F_l_drawn_worth : FS) : X :=
  (xSeq (xAsgL 3 (lLst aNil))
  (xSeq (xFor (iRg1 (eVar 2)) (gNm 4)
    (b_l_straight_1 F_l_draw F_l_mixed F_l_drawn_worth))
  (xSeq (xAsg 6 (eCall F_l_mixed (vCons (vE (eVar 0)) (vCons (vR 1) (vCons (vE (eL (lListRg (eVar 2)))) vNil)))))
  (xSeq (xAsgL 7 (lRep (aCons (eC .none) aNil) (eVar 2)))
  (xSeq (xFrz 3 (xFor (iEn (eVar 3)) (gTp 2 (gsCons (gNm 4) (gsCons (gTp 2 (gsCons (gNm 8) (gsCons (gNm 9) gsNil))) gsNil)))
    (b_l_straight_2 F_l_draw F_l_mixed F_l_drawn_worth)))
  (xRet (eTupleV 7)))))))
noncomputable def f_l_straight : FS := fnS 11 (m_l_straight f_l_draw f_l_mixed f_l_drawn_worth)

def stL (ns : List Int) (m : Nat) (rs : List Pl) (w4 w5 : Vl) : Lo := [scr ns, .ref 0, .dat (.int m), .own (rs.map Pl.d), w4, w5, .no, .no, .no, .no, .no]
theorem st_body (ns : List Int) (m i k : Nat) (g : Sg) (rs : List Pl) (w5 : Vl) (hz : ns.length ≤ 63) (hm : m ≤ 12) (hi : i < m) (hl : rs.length = i) (hok : ∀ (j : Nat) (p : Pl), rs[j]? = some p → PlOk j p) (hk : k < 80000) :
    ∃ p w5' k', b_l_straight_1 f_l_draw f_l_mixed f_l_drawn_worth (stL ns m rs (.dat (.int (i : Int))) w5) (tw ns k g) = some (.nx, stL ns m (rs ++ [p]) (.dat (.int (i : Int))) w5', tw ns k' g) ∧ PlOk i p ∧ k ≤ k' ∧ k' ≤ k + 16 := by
  obtain ⟨es, hmx, hes⟩ := mixR ns k (i : Int).toNat g (by omega) (by omega) hz
  rw [Int.toNat_natCast] at hes
  obtain ⟨r, hr, hr3⟩ := drN_nat ns (k + (i : Int).toNat) (m := 3) (by omega)
  have hr' : drN ns (k + (i : Int).toNat) % 3 = (r : Int) := hr
  have hd3 := draw_eq ns (k + (i : Int).toNat) 3 g (by omega) (by omega) hz
  rw [hr'] at hd3
  have hcut : slD (.list (nD es)) none (some (1 + (r : Int))) = some (.list (nD (es.take (r + 1)))) := by
    show some (PyData.list (cutD (nD es) none (some (1 + (r : Int))))) = _
    rw [show (1 + (r : Int)) = ((r + 1 : Nat) : Int) by omega, cutD_take, nD_take]
  have h1 : xAsg 5 (eSl (eCall f_l_mixed (vCons (vE (eVar 0)) (vCons (vR 1) (vCons (vE (eL (lListRg (eVar 4)))) vNil)))) oNone (oSome (eOp plusD (eC (.int 1)) (eCall f_l_draw (vCons (vE (eVar 0)) (vCons (vR 1) (vCons (vE (eC (.int 3))) vNil))))))) (stL ns m rs (.dat (.int (i : Int))) w5) (tw ns k g) = some (.nx, stL ns m rs (.dat (.int (i : Int))) (.dat (.list (nD (es.take (r + 1))))), tw ns (k + i + 1) g) := by
    refine Eq.trans (xAsg_ev (eSl_ev (eCall_ev (by walk_at "va") hmx) oNone_ev (oSome_ev (eOp_ev eC_ev (eCall_ev (by walk_at "va") hd3) plusD_ii)) hcut)) ?_
    rw [Int.toNat_natCast]
    rfl
  generalize hms : es.take (r + 1) = ms at h1
  have hmm : ∀ x ∈ ms, x < i := fun y hy => by
    rw [← hms] at hy
    exact List.mem_range.mp (hes.mem_iff.mp (List.mem_of_mem_take hy))
  have hmn : ms.Nodup := by
    rw [← hms]
    exact (List.take_sublist _ _).nodup (hes.nodup_iff.mpr List.nodup_range)
  have hml : ms.length ≤ 3 := by
    rw [← hms, List.length_take]
    omega
  have hmne : 1 ≤ i → ms ≠ [] := fun h1 z => by
    have e1 : ms.length = min (r + 1) i := by rw [← hms, List.length_take, hes.length_eq, List.length_range]
    rw [z] at e1
    simp at e1
    omega
  have happ : ∀ p : Pl, rs.map Pl.d ++ [p.d] = (rs ++ [p]).map Pl.d := fun p => by simp
  have hlr : (rs.map Pl.d).length < 4000000 := by rw [List.length_map]; omega
  have hd6 := draw_eq ns (k + i + 1) 6 g (by omega) (by omega) hz
  by_cases h2 : i < 2
  · refine ⟨.fin (dwI ns (k + i + 1)), .dat (.list (nD ms)), k + i + 1 + 3, ?_, (dwI_ok ns (k + i + 1)).2, by omega, by omega⟩
    refine seq_step h1 ?_
    refine Eq.trans (xIf_T (bOr_T (by walk_at "be") (decide_eq_true (by omega))) rfl (xApp_ev rfl (by walk_at "ev") rfl hlr)) ?_
    show some (Out.nx, [scr ns, .ref 0, .dat (.int m), .own (rs.map Pl.d ++ [(Pl.fin (dwI ns (k + i + 1))).d]), _, _, _, _, _, _, _], _) = _
    rw [happ]
    rfl
  · by_cases h6 : drN ns (k + i + 1) % 6 = 0
    · refine ⟨.fin (dwI ns (k + i + 2)), .dat (.list (nD ms)), k + i + 2 + 3, ?_, (dwI_ok ns (k + i + 2)).2, by omega, by omega⟩
      refine seq_step h1 ?_
      refine Eq.trans (xIf_T (bOr_F (by walk_at "be") (decide_eq_false (by omega)) (by walk_at "be")) (decide_eq_true h6) (xApp_ev rfl (by walk_at "ev") rfl hlr)) ?_
      show some (Out.nx, [scr ns, .ref 0, .dat (.int m), .own (rs.map Pl.d ++ [(Pl.fin (dwI ns (k + i + 2))).d]), _, _, _, _, _, _, _], _) = _
      rw [happ]
      rfl
    · obtain ⟨s, hs, hs2⟩ := drN_nat ns (k + i + 1 + 1) (m := 2) (by omega)
      have hs' : drN ns (k + i + 1 + 1) % 2 = (s : Int) := hs
      have hd2 := draw_eq ns (k + i + 1 + 1) 2 g (by omega) (by omega) hz
      rw [hs'] at hd2
      refine ⟨.mv (s : Int) ms, .dat (.list (nD ms)), k + i + 3, ?_, ⟨by omega, hmne (by omega), hmn, hmm, hml⟩, by omega, by omega⟩
      refine seq_step h1 ?_
      refine Eq.trans (xIf_F (bOr_F (by walk_at "be") (decide_eq_false (by omega)) (by walk_at "be")) (decide_eq_false h6) (xApp_ev rfl (eTup_ev (aCons_ev (eCall_ev (by walk_at "va") hd2) (by walk_at "ar")) (by simp)) rfl hlr)) ?_
      show some (Out.nx, [scr ns, .ref 0, .dat (.int m), .own (rs.map Pl.d ++ [(Pl.mv (s : Int) ms).d]), _, _, _, _, _, _, _], _) = _
      rw [happ]
      rfl
def st2 (ns : List Int) (m : Nat) (rs : List Pl) (es : List Nat) (x : List PyData) (w4 w5 w8 w9 : Vl) : Lo := [scr ns, .ref 0, .dat (.int m), .dat (.list (rs.map Pl.d)), w4, w5, .dat (.list (nD es)), .own x, w8, w9, .no]
theorem straight_eq (ns : List Int) (n m : Nat) (g : Sg) (hz : ns.length ≤ 63) (h1 : 1 ≤ m) (hm : m ≤ 12) (hn : n < 70000) :
    ∃ gm n', f_l_straight [scr ns, .ref 0, .dat (.int (m : Int))] (tw ns n g) = some (.dat (gD gm), tw ns n' g) ∧ gm.length = m ∧ Good gm ∧ Straight gm ∧ n ≤ n' ∧ n' ≤ n + 300 := by
  -- the rows
  have loop1 := xForL_inv (G := gNm 4) (x := b_l_straight_1 f_l_draw f_l_mixed f_l_drawn_worth) (ds := rng 0 (m : Int).toNat) (l := stL ns m [] .no .no) (g := tw ns n g)
    (fun i l g' => ∃ rs w4 w5 k, l = stL ns m rs w4 w5 ∧ g' = tw ns k g ∧ rs.length = i ∧ (∀ (j : Nat) (p : Pl), rs[j]? = some p → PlOk j p) ∧ n ≤ k ∧ k ≤ n + 16 * i) ⟨[], .no, .no, n, rfl, rfl, rfl, fun j p e => by simp at e, by omega, by omega⟩ (by
    rintro i d l g' hd ⟨rs, w4, w5, k, rfl, rfl, hl, hok, hk1, hk2⟩
    obtain ⟨hi, rfl⟩ := rng_get hd
    rw [Int.toNat_natCast] at hi
    obtain ⟨p, w5', k', e1, e2, e3, e4⟩ := st_body ns m i k g rs w5 hz hm hi hl hok (by omega)
    refine ⟨stL ns m rs (.dat (.int (i : Int))) w5, _, _, by rw [Int.zero_add]; rfl, .inl e1, rs ++ [p], _, w5', k', rfl, rfl, by simp [hl], fun j q e => ?_, by omega, by omega⟩
    rw [List.getElem?_append] at e
    split at e
    · exact hok j q e
    · rename_i hj
      rw [List.getElem?_singleton] at e
      split at e
      · cases e
        have : j = i := by omega
        subst this
        exact e2
      · cases e)
  obtain ⟨l1, g1, e1, rs, w4, w5, k, rfl, rfl, hl, hok, hk1, hk2⟩ := loop1
  rw [rng_len, Int.toNat_natCast] at hl hk2
  obtain ⟨es, hmx, hes⟩ := mixR ns k (m : Int).toNat g (by omega) (by omega) hz
  rw [Int.toNat_natCast] at hes
  have hes' : es.Perm (List.range rs.length) := by rw [hl]; exact hes
  have hel : es.length = m := by rw [hes.length_eq, List.length_range]
  -- the places by their new numbers
  have loop2 := xForL_inv (G := (gTp 2 (gsCons (gNm 4) (gsCons (gTp 2 (gsCons (gNm 8) (gsCons (gNm 9) gsNil))) gsNil)))) (x := b_l_straight_2 f_l_draw f_l_mixed f_l_drawn_worth) (ds := enumD (rs.map Pl.d)) (l := st2 ns m rs es (List.replicate m .none) w4 w5 .no .no) (g := tw ns (k + m) g)
    (fun i l g' => ∃ x w4 w8 w9, l = st2 ns m rs es x w4 w5 w8 w9 ∧ g' = tw ns (k + m) g ∧ x.length = m ∧ ∀ (j : Nat) (p : Pl) (e : Nat), j < i → rs[j]? = some p → es[j]? = some e → x[e]? = some (ren es p).d) ⟨_, w4, .no, .no, rfl, rfl, by simp, fun j p e hj => absurd hj (Nat.not_lt_zero _)⟩ (by
    rintro i d l g' hd ⟨x, w4, w8, w9, rfl, rfl, hx1, hx2⟩
    obtain ⟨e, he, rfl⟩ := enumD_get hd
    rw [List.getElem?_map] at he
    obtain ⟨p, hp, rfl⟩ : ∃ p, rs[i]? = some p ∧ e = p.d := by
      cases hq : rs[i]? with
      | none => rw [hq] at he; cases he
      | some p => rw [hq] at he; exact ⟨p, rfl, (Option.some.inj he).symm⟩
    have hi : i < rs.length := (List.getElem?_eq_some_iff.mp hp).1
    have hee : es[i]? = some (es.getD i 0) := by rw [getD_lt (by omega), List.getElem?_eq_getElem (by omega)]
    have helt : es.getD i 0 < m := by
      have := es_lt hes' hi
      omega
    have hix : (nD es)[i]? = some (.int ((es.getD i 0 : Nat) : Int)) := nD_get hee
    have hset : ixN x.length ((es.getD i 0 : Nat) : Int) = some (es.getD i 0) := by
      rw [ixN_in (by omega), Int.toNat_natCast]
    have fin : ∀ (d : PyData), d = (ren es p).d → ∀ (j : Nat) (p' : Pl) (e : Nat), j < i + 1 → rs[j]? = some p' → es[j]? = some e → (x.set (es.getD i 0) d)[e]? = some (ren es p').d := by
      rintro _ rfl j p' e hj hp' he'
      by_cases hji : j = i
      · subst hji
        rw [hp] at hp'
        rw [hee] at he'
        cases hp'
        cases he'
        rw [List.getElem?_set_self (by omega)]
      · have hne : es.getD i 0 ≠ e := fun z => by
          have e1 := es_of hes' hi
          have hjl : j < es.length := (List.getElem?_eq_some_iff.mp he').1
          have e2 := es_of hes' (show j < rs.length by omega)
          rw [getD_lt hjl] at e2
          have e3 : es[j] = e := by rw [List.getElem?_eq_getElem hjl] at he'; exact Option.some.inj he'
          rw [z] at e1
          rw [e3, e1] at e2
          exact hji e2.symm
        rw [List.getElem?_set_ne hne]
        exact hx2 j p' e (by omega) hp' he'
    cases p with
    | fin w =>
      have hb : xSetI 7 (eOp ixD (eVar 6) (eVar 4)) (eIf (bTest (eOp eqD (eVar 8) (eC (.str "end")))) (eTup (aCons (eVar 8) (aCons (eVar 9) aNil))) (eTup (aCons (eVar 8) (aCons (eCB tupleD (aCons (eL (lLc [10] (iSq (eVar 9)) (gNm 10) bYes (eOp ixD (eVar 6) (eVar 10)))) aNil)) aNil)))) (st2 ns m rs es x (.dat (.int (i : Nat))) w5 (.dat (.str "end")) (.dat (.int w))) (tw ns (k + m) g) = some (.nx, st2 ns m rs es (x.set (es.getD i 0) (ren es (.fin w)).d) (.dat (.int (i : Nat))) w5 (.dat (.str "end")) (.dat (.int w)), tw ns (k + m) g) := by
        refine Eq.trans (by walk_at "ex") ?_
        rfl
      exact ⟨st2 ns m rs es x (.dat (.int (i : Nat))) w5 (.dat (.str "end")) (.dat (.int w)), _, _, rfl, .inl hb, _, _, _, _, rfl, rfl, by rw [List.length_set]; exact hx1, fin _ rfl⟩
    | mv sd ms =>
      obtain ⟨q1, q2, q3, q4, q5⟩ := hok i _ hp
      have hlc : lcO [10] (gNm 10) bYes (eOp ixD (eVar 6) (eVar 10)) (nD ms) (st2 ns m rs es x (.dat (.int (i : Nat))) w5 (.dat (.int sd)) (.dat (.tuple (nD ms)))) (tw ns (k + m) g) = some (nD (ms.map fun m => es.getD m 0), st2 ns m rs es x (.dat (.int (i : Nat))) w5 (.dat (.int sd)) (.dat (.tuple (nD ms))), tw ns (k + m) g) := by
        unfold nD
        rw [List.map_map]
        refine lcO_map rfl (by omega) fun y hy => ?_
        have := q4 y hy
        have hg : (nD es)[y]? = some (.int ((es.getD y 0 : Nat) : Int)) := nD_get (by rw [getD_lt (by omega), List.getElem?_eq_getElem (by omega)])
        exact eOp_ev (eVar_ev rfl) (eVar_ev rfl) (ixD_lN hg)
      have hb : xSetI 7 (eOp ixD (eVar 6) (eVar 4)) (eIf (bTest (eOp eqD (eVar 8) (eC (.str "end")))) (eTup (aCons (eVar 8) (aCons (eVar 9) aNil))) (eTup (aCons (eVar 8) (aCons (eCB tupleD (aCons (eL (lLc [10] (iSq (eVar 9)) (gNm 10) bYes (eOp ixD (eVar 6) (eVar 10)))) aNil)) aNil)))) (st2 ns m rs es x (.dat (.int (i : Nat))) w5 (.dat (.int sd)) (.dat (.tuple (nD ms)))) (tw ns (k + m) g) = some (.nx, st2 ns m rs es (x.set (es.getD i 0) (ren es (.mv sd ms)).d) (.dat (.int (i : Nat))) w5 (.dat (.int sd)) (.dat (.tuple (nD ms))), tw ns (k + m) g) := by
        refine Eq.trans (by walk_at "ex") ?_
        rfl
      exact ⟨st2 ns m rs es x (.dat (.int (i : Nat))) w5 (.dat (.int sd)) (.dat (.tuple (nD ms))), _, _, rfl, .inl hb, _, _, _, _, rfl, rfl, by rw [List.length_set]; exact hx1, fin _ rfl⟩)
  obtain ⟨l2, g2, e2, x, w4', w8, w9, rfl, rfl, hx1, hx2⟩ := loop2
  rw [enumD_len, List.length_map] at hx2
  have ex := renG_is hes' (by omega) hx2
  refine ⟨renG es rs, k + m, ?_, by rw [renG_len]; exact hl, renG_good hes' hok (by omega), renG_straight hes' hok, by omega, by omega⟩
  unfold f_l_straight m_l_straight
  refine fn_ret (l := [scr ns, .ref 0, .dat (.int (m : Int)), .no, .no, .no, .no, .no, .no, .no, .no]) rfl ?_
  walk_at "st"
  refine rt_seq (xFor_ev (iRg1_ev (eVar_ev rfl) (by omega)) e1) ?_
  refine rt_seq (xAsg_ev (eCall_ev (by walk_at "va") hmx)) ?_
  refine rt_seq (xAsgL_ev (lRep_ev (by walk_at "ar") (eVar_ev rfl) (by omega) (by simp))) ?_
  have hrep : (List.replicate (m : Int).toNat [PyData.none]).flatten = List.replicate m .none := by simp
  rw [hrep, Int.toNat_natCast]
  refine rt_seq (xFrz_O rfl (xFor_ev (iEn_ev (eVar_ev rfl)) e2)) ?_
  refine rt_is (rt_ret (eTupleV_ev rfl)) ?_ ?_
  · rw [ex]; rfl
  · rfl

end
end
section
local macro_rules | `(tactic| walk_at "op") => `(tactic| ((with_reducible apply ixD_g); assumption))
local macro_rules | `(tactic| walk_at "bi") => `(tactic| with_reducible exact lenD_g)
local macro_rules | `(tactic| walk_at "bi") => `(tactic| with_reducible exact lenD_n)
local macro_rules | `(tactic| walk_at "cl") => `(tactic| ((with_reducible apply draw_eq) <;> first | omega | assumption))
local macro_rules | `(tactic| walk_at "cl") => `(tactic| ((with_reducible apply dworth_eq) <;> first | omega | assumption))
/-! ### the same thing twice -/
end
section
local macro_rules | `(tactic| walk_at "op") => `(tactic| ((with_reducible apply ixD_g); assumption))
local macro_rules | `(tactic| walk_at "bi") => `(tactic| with_reducible exact lenD_g)
local macro_rules | `(tactic| walk_at "bi") => `(tactic| with_reducible exact lenD_n)
/-! ### an order of all places, plainly -/
def mvs (g : List Pl) (p : Nat) : List Nat := ((g[p]?).map Pl.moves).getD []
def cnt (g : List Pl) (dn : List Nat) (p : Nat) : Nat := ((mvs g p).filter fun m => decide (m ∉ dn)).length
def restP (g : List Pl) (dn : List Nat) : List Nat := (List.range g.length).filter fun p => decide (p ∉ dn)
def readyP (g : List Pl) (dn : List Nat) : List Nat := (restP g dn).filter fun p => decide (cnt g dn p = 0)
def ordGo (g : List Pl) : Nat → List Nat → Option (List Nat)
  | 0, dn => some dn
  | k + 1, dn => match readyP g dn with | [] => none | f :: _ => ordGo g k (dn ++ [f])
def ordOf (g : List Pl) : Option (List Nat) := ordGo g g.length []
theorem mvs_eq {g : List Pl} {p : Nat} {x : Pl} (h : g[p]? = some x) : mvs g p = x.moves := by unfold mvs; rw [h]; rfl
theorem mem_rest {g : List Pl} {dn : List Nat} {p : Nat} : p ∈ restP g dn ↔ p < g.length ∧ p ∉ dn := by
  unfold restP
  rw [List.mem_filter, List.mem_range, decide_eq_true_eq]
theorem mem_ready {g : List Pl} {dn : List Nat} {p : Nat} : p ∈ readyP g dn ↔ (p < g.length ∧ p ∉ dn) ∧ ∀ m ∈ mvs g p, m ∈ dn := by
  unfold readyP cnt
  rw [List.mem_filter, mem_rest, decide_eq_true_eq, List.length_eq_zero_iff, List.filter_eq_nil_iff]
  refine and_congr_right fun _ => forall_congr' fun m => forall_congr' fun _ => ?_
  rw [decide_eq_true_eq, Classical.not_not]
theorem filter_two (q : Nat → Bool) : ∀ xs : List Nat, xs.length = (xs.filter q).length + (xs.filter fun p => !q p).length
  | [] => rfl
  | x :: r => by
    have := filter_two q r
    by_cases h : q x = true
    · rw [List.filter_cons_of_pos h, List.filter_cons_of_neg (by simp [h])]
      simp only [List.length_cons]
      omega
    · rw [List.filter_cons_of_neg h, List.filter_cons_of_pos (by simpa using h)]
      simp only [List.length_cons]
      omega
theorem rest_len {g : List Pl} {dn : List Nat} (hn : dn.Nodup) (hl : ∀ p ∈ dn, p < g.length) : (restP g dn).length + dn.length = g.length := by
  have h1 : ((List.range g.length).filter fun p => decide (p ∈ dn)).Perm dn := by
    refine (List.perm_ext_iff_of_nodup (List.Pairwise.filter _ List.nodup_range) hn).mpr fun p => ?_
    rw [List.mem_filter, List.mem_range, decide_eq_true_eq]
    exact ⟨fun q => q.2, fun q => ⟨hl p q, q⟩⟩
  have h2 := filter_two (fun p => decide (p ∈ dn)) (List.range g.length)
  rw [List.length_range, h1.length_eq] at h2
  unfold restP
  have h3 : (List.range g.length).filter (fun p => decide (p ∉ dn)) = (List.range g.length).filter fun p => !decide (p ∈ dn) := by
    apply List.filter_congr
    intro x _
    simp
  rw [h3]
  omega
theorem rest_snoc {g : List Pl} {dn : List Nat} {f : Nat} : restP g (dn ++ [f]) = (restP g dn).filter fun p => decide (p ≠ f) := by
  unfold restP
  rw [List.filter_filter]
  apply List.filter_congr
  intro x _
  simp [and_comm]
theorem cnt_snoc {g : List Pl} {dn : List Nat} {f p : Nat} (hf : f ∉ dn) (hn : (mvs g p).Nodup) : cnt g dn p = cnt g (dn ++ [f]) p + (if f ∈ mvs g p then 1 else 0) := by
  unfold cnt
  generalize mvs g p = ms at hn
  induction ms with
  | nil => simp
  | cons m r ih =>
    obtain ⟨hm, hr⟩ := List.nodup_cons.mp hn
    have ih := ih hr
    by_cases e : f = m
    · subst e
      have : f ∉ r := hm
      rw [if_neg this] at ih
      rw [if_pos List.mem_cons_self, List.filter_cons_of_pos (by simpa using hf), List.filter_cons_of_neg (by simp)]
      simp only [List.length_cons]
      omega
    · have h2 : (f ∈ m :: r) = (f ∈ r) := by simp [e]
      simp only [h2]
      by_cases hd : m ∈ dn
      · rw [List.filter_cons_of_neg (by simpa using hd), List.filter_cons_of_neg (by simp [hd])]
        exact ih
      · rw [List.filter_cons_of_pos (by simpa using hd), List.filter_cons_of_pos (by simp [hd, Ne.symm e])]
        simp only [List.length_cons]
        omega
structure Topo (g : List Pl) (o : List Nat) : Prop where
  perm : o.Perm (List.range g.length)
  dn : ∀ (i p : Nat), o[i]? = some p → ∀ m ∈ mvs g p, m ∈ o.take i
theorem least_rk {rk : Nat → Nat} : ∀ {xs : List Nat}, xs ≠ [] → ∃ x ∈ xs, ∀ y ∈ xs, rk x ≤ rk y
  | [], h => absurd rfl h
  | [x], _ => ⟨x, by simp, by simp⟩
  | x :: y :: r, _ => by
    obtain ⟨z, hz, hm⟩ := least_rk (rk := rk) (xs := y :: r) (by simp)
    by_cases h : rk x ≤ rk z
    · refine ⟨x, by simp, fun w hw => ?_⟩
      rcases List.mem_cons.mp hw with rfl | hw
      · exact Nat.le_refl _
      · exact Nat.le_trans h (hm w hw)
    · refine ⟨z, List.mem_cons_of_mem _ hz, fun w hw => ?_⟩
      rcases List.mem_cons.mp hw with rfl | hw
      · omega
      · exact hm w hw
theorem ready_ne {g : List Pl} {rk : Nat → Nat} {dn : List Nat} (hg : Good g) (h : Rk g rk) (hr : restP g dn ≠ []) : readyP g dn ≠ [] := by
  obtain ⟨p, hp, hm⟩ := least_rk (rk := rk) hr
  refine List.ne_nil_of_mem (a := p) (mem_ready.mpr ⟨mem_rest.mp hp, fun m hmm => ?_⟩)
  have hpl := (mem_rest.mp hp).1
  have hx : g[p]? = some g[p] := List.getElem?_eq_getElem hpl
  generalize g[p] = x at hx
  rw [mvs_eq hx] at hmm
  have h1 := h.dn p x m hx hmm
  have h2 : m < g.length := by
    cases x with
    | fin w => cases hmm
    | mv s ms => exact (hg.ok p _ hx).2.2.2.1 m hmm
  by_cases hd : m ∈ dn
  · exact hd
  · have := hm m (mem_rest.mpr ⟨h2, hd⟩)
    omega
theorem ordGo_topo {g : List Pl} {rk : Nat → Nat} (hg : Good g) (h : Rk g rk) : ∀ (k : Nat) (dn : List Nat), dn.Nodup → (∀ p ∈ dn, p < g.length) → k + dn.length = g.length → (∀ (i p : Nat), dn[i]? = some p → ∀ m ∈ mvs g p, m ∈ dn.take i) → ∃ o, ordGo g k dn = some o ∧ Topo g o
  | 0, dn, hn, hl, hk, ht => by
    refine ⟨dn, rfl, ⟨(List.perm_ext_iff_of_nodup hn List.nodup_range).mpr fun p => ?_, ht⟩⟩
    rw [List.mem_range]
    refine ⟨hl p, fun hp => ?_⟩
    have := rest_len hn hl
    have h0 : restP g dn = [] := List.length_eq_zero_iff.mp (by omega)
    by_cases hd : p ∈ dn
    · exact hd
    · have := mem_rest.mpr ⟨hp, hd⟩
      rw [h0] at this
      cases this
  | k + 1, dn, hn, hl, hk, ht => by
    have hlen := rest_len hn hl
    have hne : readyP g dn ≠ [] := ready_ne hg h fun z => by rw [z] at hlen; simp at hlen; omega
    rw [ordGo]
    cases hq : readyP g dn with
    | nil => exact absurd hq hne
    | cons f r =>
      obtain ⟨⟨f1, f2⟩, f3⟩ := mem_ready.mp (show f ∈ readyP g dn by rw [hq]; simp)
      refine ordGo_topo hg h k (dn ++ [f]) ?_ ?_ (by simp; omega) ?_
      · rw [List.nodup_append]
        exact ⟨hn, by simp, fun a ha b hb z => by simp at hb; subst hb; subst z; exact f2 ha⟩
      · intro p hp
        rcases List.mem_append.mp hp with hp | hp
        · exact hl p hp
        · simp at hp; subst hp; exact f1
      · intro i p hi m hm
        by_cases hlt : i < dn.length
        · rw [List.getElem?_append_left hlt] at hi
          rw [List.take_append_of_le_length (by omega)]
          exact ht i p hi m hm
        · have e : i = dn.length := by
            have := (List.getElem?_eq_some_iff.mp hi).1
            simp at this
            omega
          subst e
          rw [List.getElem?_append_right (Nat.le_refl _)] at hi
          simp at hi
          subst hi
          rw [List.take_left']
          · exact f3 m hm
          · rfl
theorem ord_topo {g : List Pl} (hg : Good g) (h : Straight g) : ∃ o, ordOf g = some o ∧ Topo g o := by
  obtain ⟨rk, hr⟩ := h.rk
  exact ordGo_topo hg hr g.length [] List.nodup_nil (fun p hp => by cases hp) (by simp) (fun i p hi => by simp at hi)
/-! ### dicts, plainly -/
section
variable {β : Type} {kvs : List (Key × β)} {k : Key} {v w : β} {i : Nat}
theorem val_at (hn : (kvs.map (·.1)).Nodup) (h : kvs[i]? = some (k, v)) : valG kvs k = some v := by
  unfold valG
  induction kvs generalizing i with
  | nil => simp at h
  | cons x r ih =>
    rw [List.map_cons, List.nodup_cons] at hn
    cases i with
    | zero =>
      simp at h
      subst h
      simp
    | succ i =>
      have h' : r[i]? = some (k, v) := by simpa using h
      have hx : x.1 ≠ k := fun z => hn.1 (by rw [z]; exact List.mem_map.mpr ⟨(k, v), List.mem_of_getElem? h', rfl⟩)
      rw [List.find?_cons_of_neg (by simpa using hx)]
      exact ih hn.2 h'
theorem put_at (hn : (kvs.map (·.1)).Nodup) (h : kvs[i]? = some (k, v)) : putG kvs k w = kvs.set i (k, w) := by
  have hany : (kvs.any fun kv => decide (kv.1 = k)) = true := List.any_eq_true.mpr ⟨(k, v), List.mem_of_getElem? h, by simp⟩
  unfold putG
  rw [if_pos hany]
  clear hany
  induction kvs generalizing i with
  | nil => simp at h
  | cons x r ih =>
    rw [List.map_cons, List.nodup_cons] at hn
    cases i with
    | zero =>
      simp at h
      subst h
      rw [List.map_cons, if_pos rfl, List.set_cons_zero]
      congr 1
      refine (List.map_congr_left fun y hy => ?_).trans (List.map_id r)
      have : y.1 ≠ k := fun z => hn.1 (by rw [← z]; exact List.mem_map.mpr ⟨y, hy, rfl⟩)
      rw [if_neg this]
      rfl
    | succ i =>
      have h' : r[i]? = some (k, v) := by simpa using h
      have hx : x.1 ≠ k := fun z => hn.1 (by rw [z]; exact List.mem_map.mpr ⟨(k, v), List.mem_of_getElem? h', rfl⟩)
      rw [List.map_cons, if_neg hx, List.set_cons_succ, ih hn.2 h']
theorem val_none (h : ∀ kv ∈ kvs, kv.1 ≠ k) : valG kvs k = none := by
  unfold valG
  rw [List.find?_eq_none.mpr fun kv hkv => by simpa using h kv hkv]
  rfl
end
def kN (p : Nat) : Key := .inl (p : Int)
theorem kN_inj {p q : Nat} (h : kN p = kN q) : p = q := by
  have := Sum.inl.inj h
  omega
theorem kN_nodup {ps : List Nat} (h : ps.Nodup) : (ps.map kN).Nodup := by
  show (ps.map kN).Pairwise (· ≠ ·)
  rw [List.pairwise_map]
  exact h.imp fun hab z => hab (kN_inj z)
/-! ### order_of -/
def ordD : Option (List Nat) → PyData
  | none => .none
  | some o => .tuple (nD o)
def leftD (g : List Pl) (dn : List Nat) : List (Key × PyData) := (restP g dn).map fun p => (kN p, .int (cnt g dn p : Nat))
def midD (g : List Pl) (dn : List Nat) (f i : Nat) : List (Key × PyData) := (restP g (dn ++ [f])).mapIdx fun j p => (kN p, .int (cnt g (if j < i then dn ++ [f] else dn) p : Nat))
theorem rest_nodup (g : List Pl) (dn : List Nat) : (restP g dn).Nodup := List.Pairwise.filter _ List.nodup_range
theorem left_zero (g : List Pl) : leftD g [] = (List.range g.length).map fun p => (kN p, .int ((mvs g p).length : Nat)) := by
  unfold leftD restP cnt
  rw [List.filter_eq_self.mpr (by simp)]
  apply List.map_congr_left
  intro p _
  rw [List.filter_eq_self.mpr (by simp)]
theorem mid_get {g : List Pl} {dn : List Nat} {f i j : Nat} : (midD g dn f i)[j]? = ((restP g (dn ++ [f]))[j]?).map fun p => (kN p, .int (cnt g (if j < i then dn ++ [f] else dn) p : Nat)) := by
  unfold midD
  rw [List.getElem?_mapIdx]
theorem left_drop (g : List Pl) (dn : List Nat) (f : Nat) : dropG (leftD g dn) (kN f) = midD g dn f 0 := by
  apply List.ext_getElem?
  intro j
  rw [mid_get]
  unfold dropG leftD
  rw [List.filter_map, List.getElem?_map, rest_snoc]
  have e : ((fun kv : Key × PyData => decide (kv.1 ≠ kN f)) ∘ fun p => (kN p, PyData.int (cnt g dn p : Nat))) = fun p => decide (p ≠ f) := by
    funext p
    show decide (kN p ≠ kN f) = decide (p ≠ f)
    by_cases h : p = f
    · subst h; simp
    · rw [decide_eq_true (show p ≠ f from h), decide_eq_true (show kN p ≠ kN f from fun z => h (kN_inj z))]
  rw [e]
  rfl
theorem mid_keys (g : List Pl) (dn : List Nat) (f i : Nat) : (midD g dn f i).map (·.1) = (restP g (dn ++ [f])).map kN := by
  apply List.ext_getElem?
  intro j
  rw [List.getElem?_map, mid_get, List.getElem?_map, Option.map_map]
  rfl
theorem mid_all (g : List Pl) (dn : List Nat) (f : Nat) : midD g dn f (restP g (dn ++ [f])).length = leftD g (dn ++ [f]) := by
  apply List.ext_getElem?
  intro j
  rw [mid_get]
  unfold leftD
  rw [List.getElem?_map]
  by_cases h : j < (restP g (dn ++ [f])).length
  · rw [if_pos h]
  · rw [List.getElem?_eq_none (by omega)]
    rfl
theorem mid_next {g : List Pl} {dn : List Nat} {f i p : Nat} (h : (restP g (dn ++ [f]))[i]? = some p) : (midD g dn f i).set i (kN p, .int (cnt g (dn ++ [f]) p : Nat)) = midD g dn f (i + 1) := by
  have hl : i < (restP g (dn ++ [f])).length := (List.getElem?_eq_some_iff.mp h).1
  apply List.ext_getElem?
  intro j
  rw [mid_get]
  by_cases hij : i = j
  · subst hij
    rw [List.getElem?_set_self (by unfold midD; rw [List.length_mapIdx]; exact hl), h, if_pos (by omega)]
    rfl
  · rw [List.getElem?_set_ne hij, mid_get]
    by_cases hj : j < i
    · rw [if_pos hj, if_pos (by omega)]
    · rw [if_neg hj, if_neg (by omega)]
theorem mid_same {g : List Pl} {dn : List Nat} {f i p : Nat} (h : (restP g (dn ++ [f]))[i]? = some p) (e : cnt g (dn ++ [f]) p = cnt g dn p) : midD g dn f i = midD g dn f (i + 1) := by
  rw [← mid_next h]
  apply List.ext_getElem?
  intro j
  by_cases hij : i = j
  · subst hij
    rw [List.getElem?_set_self (by unfold midD; rw [List.length_mapIdx]; exact (List.getElem?_eq_some_iff.mp h).1), mid_get, h, if_neg (Nat.lt_irrefl _), e]
    rfl
  · rw [List.getElem?_set_ne hij]
theorem left_empty {g : List Pl} {dn : List Nat} : (leftD g dn).isEmpty = (restP g dn).isEmpty := by
  unfold leftD
  cases restP g dn <;> rfl
def iD : PyData → Int
  | .int i => i
  | _ => 0
theorem ready_list (g : List Pl) (dn : List Nat) : ((leftD g dn).filter fun kv => decide (iD kv.2 = 0)).map (fun kv => keyD kv.1) = nD (readyP g dn) := by
  unfold leftD readyP nD
  rw [List.filter_map, List.map_map]
  have e : ((fun kv : Key × PyData => decide (iD kv.2 = 0)) ∘ fun p => (kN p, PyData.int (cnt g dn p : Nat))) = fun p => decide (cnt g dn p = 0) := by
    funext p
    show decide ((cnt g dn p : Int) = 0) = decide (cnt g dn p = 0)
    by_cases h : cnt g dn p = 0
    · simp [h]
    · rw [decide_eq_false h, decide_eq_false (by omega)]
  rw [e]
  rfl
theorem ready_sorted (g : List Pl) (dn : List Nat) : sortI ((readyP g dn).map fun p : Nat => (p : Int)) = (readyP g dn).map fun p : Nat => (p : Int) := by
  refine (sortI_is (List.Perm.refl _) ?_).symm
  rw [List.pairwise_map]
  have h : (readyP g dn).Pairwise (· < ·) := List.Pairwise.filter _ (List.Pairwise.filter _ List.pairwise_lt_range)
  exact h.imp fun hab => by omega
theorem nD_ints (ps : List Nat) : nD ps = (ps.map fun p : Nat => (p : Int)).map PyData.int := by unfold nD; rw [List.map_map]; rfl
theorem mvs_nodup {g : List Pl} (hg : Good g) (p : Nat) : (mvs g p).Nodup := by
  unfold mvs
  cases h : g[p]? with
  | none => exact List.nodup_nil
  | some x =>
    cases x with
    | fin w => exact List.nodup_nil
    | mv s ms => exact (hg.ok p _ h).2.2.1
theorem flat_nD (ps : List Nat) : (nD ps).all flatD = true := by rw [nD_ints]; exact flat_ints _
theorem in_nD (f : Nat) (ps : List Nat) : inF (.int (f : Nat)) (nD ps) = decide (f ∈ ps) := by
  rw [nD_ints, inF_ints]
  by_cases h : f ∈ ps
  · rw [decide_eq_true h, decide_eq_true (List.mem_map.mpr ⟨f, h, rfl⟩)]
  · rw [decide_eq_false h, decide_eq_false]
    intro z
    obtain ⟨q, hq, e⟩ := List.mem_map.mp z
    have : q = f := by omega
    subst this
    exact h hq

end
section
local macro_rules | `(tactic| walk_at "cq") => `(tactic| with_reducible assumption)
local macro_rules | `(tactic| walk_at "le") => `(tactic| first | omega | (simp only [List.length_cons, List.length_nil, List.length_append, List.length_map, List.length_set, List.length_range, nD_len]; omega) | decide)
local macro_rules | `(tactic| walk_at "sr") => `(tactic| ((repeat (with_reducible apply SetR.s)); with_reducible exact SetR.z))
local macro_rules | `(tactic| walk_at "ha") => `(tactic| first | walk_at "op" | with_reducible exact truO_b | with_reducible exact truO_l | with_reducible exact truO_t | with_reducible exact truO_n | with_reducible exact truO_i | walk_at "at" | walk_at "bi" | walk_at "dg" | with_reducible rfl | rfl)
local macro_rules | `(tactic| walk_at "v") => `(tactic| first
  | with_reducible refine wp_seq ?_
  | ((with_reducible apply wp_eVar); (rfl))
  | with_reducible refine wp_eC ?_
  | with_reducible refine wp_eOp ?_
  | with_reducible refine has_some ?_
  | ((with_reducible apply hasG_nm); (walk_at "sr"))
  | ((with_reducible apply hasG_tp); (rfl); (rfl))
  | with_reducible refine hasG_cons ?_
  | with_reducible refine hasG_nil ?_
  | ((with_reducible apply has_of); (walk_at "ha"))
  | with_reducible refine wp_eCall ?_
  | with_reducible refine wp_vE ?_
  | ((with_reducible apply wp_vR); (rfl))
  | with_reducible refine wp_vNil ?_
  | ((with_reducible apply fok_eq); (walk_at "cq"))
  | with_reducible refine wp_asg ?_
  | with_reducible refine wp_asgG ?_
  | with_reducible refine wp_asgL ?_
  | with_reducible refine wp_if ?_
  | with_reducible refine wp_ret ?_
  | with_reducible refine seqK_ret ?_
  | with_reducible refine retK_ret ?_
  | with_reducible refine wp_bTest ?_
  | with_reducible refine wp_bTru ?_
  | with_reducible refine wp_bNot ?_
  | with_reducible refine wp_eCB ?_
  | with_reducible refine wp_aCons ?_
  | with_reducible refine wp_aNil ?_
  | with_reducible refine wp_eUn ?_
  | with_reducible refine wp_eTup ?_
  | with_reducible refine wp_eL ?_
  | with_reducible refine wp_lLst ?_
  | with_reducible refine wp_eIf ?_
  | with_reducible refine wp_for ?_
  | with_reducible refine wp_iWipe ?_
  | with_reducible refine wp_iSq ?_
  | with_reducible refine wp_iRg1 ?_
  | with_reducible refine wp_iRg2 ?_
  | with_reducible refine wp_keep ?_
  | with_reducible refine wp_pre ?_
  | with_reducible refine wp_next ?_
  | with_reducible refine wp_break ?_
  | with_reducible refine wp_cont ?_
  | with_reducible refine bodyK_nx ?_
  | with_reducible refine bodyK_ct ?_
  | with_reducible refine bodyK_bk ?_
  | with_reducible refine bodyK_ret ?_
  | with_reducible refine seqK_bk ?_
  | with_reducible refine seqK_ct ?_
  | with_reducible refine retK_nx ?_
  | with_reducible refine wp_forNil ?_
  | with_reducible refine wp_eIsN ?_
  | with_reducible refine wp_eNotN ?_
  | with_reducible refine wp_eNot ?_
  | ((with_reducible apply wp_eIxV); (rfl))
  | ((with_reducible apply wp_eLenV); (rfl))
  | ((with_reducible apply wp_eTupleV); (rfl))
  | ((with_reducible apply wp_eSlV); (rfl))
  | with_reducible refine wp_eSl ?_
  | with_reducible refine wp_oNone ?_
  | with_reducible refine wp_oSome ?_
  | with_reducible refine wp_eInV ?_
  | ((with_reducible apply wp_ePopO); (rfl); (walk_at "gt"); (walk_at "sr"))
  | ((with_reducible apply wp_eDget); (exact ⟨_, rfl⟩))
  | ((with_reducible apply wp_eDget2); (exact ⟨_, rfl⟩))
  | with_reducible refine wp_eDin ?_
  | with_reducible refine wp_eDnot ?_
  | ((with_reducible apply wp_eLenD); (rfl))
  | with_reducible refine wp_eIsi ?_
  | with_reducible refine wp_eCallK ?_
  | with_reducible refine wp_eCallD ?_
  | with_reducible refine wp_lList ?_
  | with_reducible refine wp_lListRg ?_
  | with_reducible refine wp_lListRg2 ?_
  | with_reducible refine wp_iEn ?_
  | with_reducible refine wp_iEnA ?_
  | with_reducible refine wp_kSet ?_
  | with_reducible refine wp_kSc ?_
  | with_reducible refine wp_sortS ?_
  | with_reducible refine wp_lenS ?_
  | with_reducible refine wp_lRev ?_
  | with_reducible refine wp_lRep ?_
  | ((with_reducible apply wp_lListV); (rfl))
  | ((with_reducible apply wp_lKeys); (rfl))
  | ((with_reducible apply wp_lVals); (rfl))
  | with_reducible refine wp_vNewD ?_
  | with_reducible refine wp_eMinDef ?_
  | with_reducible refine wp_lLc ?_
  | with_reducible refine wp_bYes ?_
  | ((with_reducible apply wp_bTruV); (rfl))
  | ((with_reducible apply wp_bTruD); (rfl))
  | with_reducible refine wp_bIf ?_
  | with_reducible refine wp_lDnew ?_
  | with_reducible refine wp_lDc ?_
  | with_reducible refine wp_asgC ?_
  | with_reducible refine wp_newL ?_
  | with_reducible refine wp_retN ?_
  | with_reducible refine wp_drop ?_
  | ((with_reducible apply wp_app); (exact ⟨_, rfl⟩))
  | with_reducible refine wp_setI ?_
  | ((with_reducible apply wp_aug); (rfl))
  | ((with_reducible apply wp_frzO); (rfl); (walk_at "sr"))
  | ((with_reducible apply wp_frzD); (rfl))
  | with_reducible refine wp_par ?_
  | with_reducible refine wp_parDL ?_
  | with_reducible refine wp_parLD ?_
  | with_reducible refine wp_parLL ?_
  | with_reducible refine wp_par3 ?_
  | with_reducible refine wp_parCL ?_
  | with_reducible refine wp_lDone ?_
  | ((with_reducible apply wp_lSortK); (rfl))
  | with_reducible refine wp_eIndex ?_
  | ((with_reducible apply wp_eIndexV); (rfl))
  | with_reducible refine wp_eInDV ?_
  | with_reducible refine wp_dput ?_
  | ((with_reducible apply wp_dpop); (exact ⟨_, rfl⟩))
  | with_reducible refine wp_tup2 ?_
  | with_reducible refine wp_tup3 ?_
  | with_reducible refine wp_tup4 ?_
  | with_reducible refine wp_uNil ?_
  | with_reducible refine wp_uD ?_
  | with_reducible refine wp_uL ?_
  | with_reducible refine wp_uC ?_
  | with_reducible refine wp_vLam ?_
  | ((with_reducible apply wp_vFn); (rfl))
  | ((with_reducible apply wp_eCallF); (rfl))
  | ((with_reducible apply wp_retD); (rfl))
  | with_reducible refine wp_callDg ?_
  | with_reducible refine wp_sortBy ?_
  | ((with_reducible apply ex_one); (rfl))
  | with_reducible refine wp_eChain ?_
  | ((with_reducible refine wp_bAnd ?_); (repeat walk_at "v"); walk_at "br")
  | ((with_reducible refine wp_bOr ?_); (repeat walk_at "v"); walk_at "br")
  | ((with_reducible refine wp_eAnd ?_); (repeat walk_at "v"); walk_at "br")
  | ((with_reducible refine wp_eOr ?_); (repeat walk_at "v"); walk_at "br")
  | with_reducible refine wp_bAndB ?_
  | with_reducible refine wp_bOrB ?_
  | with_reducible refine wp_eAndB ?_
  | with_reducible refine wp_eOrB ?_
  | walk_at "xx")
local macro_rules | `(tactic| walk_at "nk") => `(tactic| ((repeat walk_at "v"); first | exact ⟨rfl, rfl, rfl⟩ | exact ⟨rfl, rfl, by walk_at "op"⟩))
local macro_rules | `(tactic| walk_at "lt2") => `(tactic| first | omega | exact ⟨by omega, by omega⟩ | (simp only [List.length_cons, List.length_nil, List.length_append, List.length_map, List.length_set, nD_len]; omega))
local macro_rules | `(tactic| walk_at "ky") => `(tactic| first | with_reducible exact keyO_i | with_reducible exact keyO_s | rfl)
local macro_rules | `(tactic| walk_at "xx") => `(tactic| first
  | ((with_reducible apply ex_set); (walk_at "sr"))
  | with_reducible refine ex_bool ?_
  | with_reducible refine ex_dat ?_
  | ((with_reducible apply ex_rng); omega)
  | ((with_reducible apply ex_rep); omega; (walk_at "le"))
  | ((with_reducible apply ex_rng2); omega; omega)
  | with_reducible refine ex_int ?_
  | with_reducible refine ex_list ?_
  | ((with_reducible apply and_le); (walk_at "le"))
  | ((with_reducible apply and_bk); (rfl))
  | ((with_reducible apply ex_ix); (rfl))
  | ((with_reducible apply ex_key); (rfl); (walk_at "ky"))
  | ((with_reducible apply ex_app); (rfl); (walk_at "le"); (walk_at "sr"))
  | ((with_reducible apply ex_own); (rfl))
  | ((with_reducible apply ex_dct); (rfl))
  | ((with_reducible apply ex_setI); (rfl); (walk_at "lt2"); (walk_at "sr"))
  | ((with_reducible apply ex_dput); (rfl); (walk_at "ky"); (walk_at "lt2"); (walk_at "sr"))
  | ((with_reducible apply ex_dpop); (rfl); (walk_at "ky"); (walk_at "gt"); (walk_at "sr"))
  | ((with_reducible apply ex_par); (walk_at "sr"); (walk_at "sr"))
  | ((with_reducible apply ex_par3); (walk_at "sr"); (walk_at "sr"); (walk_at "sr"))
  | ((with_reducible apply ex_tup2); (walk_at "sr"); (walk_at "sr"))
  | ((with_reducible apply ex_tup3); (walk_at "sr"); (walk_at "sr"); (walk_at "sr"))
  | ((with_reducible apply ex_tup4); (walk_at "sr"); (walk_at "sr"); (walk_at "sr"); (walk_at "sr"))
  | ((with_reducible apply ex_kit); (walk_at "ki"))
  | with_reducible refine ex_zipT ?_
  | with_reducible refine ex_zipL ?_
  | ((with_reducible apply ex_chain); (walk_at "op"); (intro _; walk_at "nk"))
  | ((with_reducible apply ex_and2); (intro _; walk_at "nk"))
  | ((with_reducible apply ex_and1); (intro _; walk_at "nk"))
  | ((with_reducible apply ex_ls); (rfl)))
local macro_rules | `(tactic| walk_at "br") => `(tactic| first | ((with_reducible apply br_T); (walk_at "tr")) | ((with_reducible apply br_F); (walk_at "tr")))
local macro_rules | `(tactic| walk_at "vfn") => `(tactic| refine fok_fn (by (simp only [List.length_cons, List.length_nil, Nat.reduceAdd, Nat.reduceSub, List.replicate_succ, List.replicate_zero, List.cons_append, List.nil_append]; try rfl)) ?_)
local macro_rules | `(tactic| walk_at "vc") => `(tactic| repeat (first | walk_at "v" | with_reducible refine seqK_nx ?_ | walk_at "br" | with_reducible exact ⟨rfl, rfl, rfl⟩ | with_reducible exact ⟨rfl, rfl⟩))
local macro_rules | `(tactic| walk_at "wi") => `(tactic| (simp only [wipeV, List.set_cons_succ, List.set_cons_zero]; try rfl))
local macro_rules | `(tactic| walk_at "vs") => `(tactic| ((try with_reducible refine wp_seq ?_); (repeat (first | walk_at "v" | walk_at "br")); (try with_reducible refine seqK_nx ?_)))

section
local macro_rules | `(tactic| walk_at "op") => `(tactic| ((with_reducible apply ixD_g); assumption))
local macro_rules | `(tactic| walk_at "bi") => `(tactic| with_reducible exact lenD_g)
local macro_rules | `(tactic| walk_at "bi") => `(tactic| with_reducible exact lenD_n)
local macro_rules | `(tactic| walk_at "cl") => `(tactic| ((with_reducible apply draw_eq) <;> first | omega | assumption))
local macro_rules | `(tactic| walk_at "cl") => `(tactic| ((with_reducible apply dworth_eq) <;> first | omega | assumption))
noncomputable def m_moves_of : X :=
  (xSeq (xAsgG (gTp 2 (gsCons (gNm 2) (gsCons (gNm 3) gsNil))) (eOp ixD (eVar 0) (eVar 1)))
  (xRet (eIf (bTest (eOp eqD (eVar 2) (eC (.str "end")))) (eTup aNil) (eVar 3))))
noncomputable def f_moves_of : FS := fnS 4 (m_moves_of )

noncomputable def b_order_of_1 (F_moves_of : FS) : X :=
  (xIf (bTest (eOp (inFD false) (eVar 6) (eCall F_moves_of (vCons (vE (eVar 0)) (vCons (vE (eVar 2)) vNil)))))
        (xDput 1 (eVar 2) (eOp subD (eDget 1 (eVar 2)) (eC (.int 1))))
        xNext)
noncomputable def b_order_of_2 (F_moves_of : FS) : X :=
  (xSeq (xItems 1 4 [2, 5] (gTp 2 (gsCons (gNm 2) (gsCons (gNm 5) gsNil))) (bTest (eOp eqD (eVar 5) (eC (.int 0)))) (eVar 2))
    (xSeq (xIf (bNot (bTru (eVar 4)))
      (xRet (eC .none))
      xNext)
    (xSeq (xAsgG (gSt 2 1 (gsCons (gNm 6) (gsCons (gNm 7) gsNil))) (eCB sortedD (aCons (eVar 4) aNil)))
    (xSeq (xApp 3 (eVar 6))
    (xSeq (xDpop 1 (eVar 6))
    (xFor (iWipe [2, 4, 5, 7] (iSq (eL (lKeys 1)))) (gNm 2)
      (xKeep [2, 4, 5, 7] (b_order_of_1 F_moves_of))))))))
noncomputable def m_order_of (F_moves_of : FS) : X :=
  (xSeq (xAsgC 1 (lDc [2] (iRg1 (eCB lenD (aCons (eVar 0) aNil))) (gNm 2) bYes (eVar 2) (eCB lenD (aCons (eCall F_moves_of (vCons (vE (eVar 0)) (vCons (vE (eVar 2)) vNil))) aNil))))
  (xSeq (xAsgL 3 (lLst aNil))
  (xSeq (xPre [2, 4, 5, 6, 7] (xWhile (bTruD 1)
    (xKeep [2, 4, 5, 6, 7] (b_order_of_2 F_moves_of))))
  (xRet (eTupleV 3)))))
noncomputable def f_order_of : FS := fnS 8 (m_order_of f_moves_of)

theorem nD_at {ns : List Nat} {i : Nat} {d : PyData} (h : (nD ns)[i]? = some d) : ∃ p, ns[i]? = some p ∧ d = .int (p : Nat) := by
  unfold nD at h
  rw [List.getElem?_map] at h
  cases hp : ns[i]? with
  | none => rw [hp] at h; cases h
  | some p => rw [hp] at h; exact ⟨p, rfl, (Option.some.inj h).symm⟩
theorem lenD_gD (g : List Pl) : lenD [gD g] = some (.int (g.length : Nat)) := by
  show some (PyData.int ((g.map Pl.d).length : Nat)) = _
  rw [List.length_map]
theorem lenD_nD (g : List Nat) : lenD [.tuple (nD g)] = some (.int (g.length : Nat)) := by
  show some (PyData.int ((nD g).length : Nat)) = _
  rw [nD_len]
local macro_rules | `(tactic| walk_at "bi") => `(tactic| first | with_reducible exact lenD_gD _ | with_reducible exact lenD_nD _ | with_reducible exact lenD_nL _ | with_reducible exact gX_at (by assumption))
theorem moves_of_eq {g : List Pl} (st : Sg) {p : Nat} (hp : p < g.length) : f_moves_of [.dat (gD g), .dat (.int (p : Int))] st = some (.dat (.tuple (nD (mvs g p))), st) := by
  have hx : g[p]? = some g[p] := List.getElem?_eq_getElem hp
  generalize g[p] = x at hx
  rw [mvs_eq hx]
  unfold f_moves_of m_moves_of
  refine fok_is ?_
  walk_at "vfn"
  cases x with
  | fin w => walk_at "vc"
  | mv sd ms => walk_at "vc"
local macro_rules | `(tactic| walk_at "cq") => `(tactic| ((with_reducible apply moves_of_eq); first | omega | assumption))
def pq (d : PyData) : Bool := match d with
  | .tuple [_, c] => decide (iD c = 0)
  | _ => false
def pf (d : PyData) : PyData := match d with
  | .tuple [k, _] => k
  | _ => .none
theorem mem_leftD {g : List Pl} {dn : List Nat} {kv : Key × PyData} (h : kv ∈ leftD g dn) : ∃ p, p ∈ restP g dn ∧ kv = (kN p, .int (cnt g dn p : Nat)) := by
  obtain ⟨p, hp, e⟩ := List.mem_map.mp h
  exact ⟨p, hp, e.symm⟩
theorem items_eq {g : List Pl} {dn : List Nat} {st : Sg} {l : Lo} {w2 w4 w5 w6 w7 : Vl} (h2 : plainV w2 = true) (h5 : plainV w5 = true) (hl : l = [.dat (gD g), .dct (leftD g dn), w2, .own (nD dn), w4, w5, w6, w7]) (hz : g.length ≤ 1000) :
    xItems 1 4 [2, 5] (gTp 2 (gsCons (gNm 2) (gsCons (gNm 5) gsNil))) (bTest (eOp eqD (eVar 5) (eC (.int 0)))) (eVar 2) l st = some (.nx, l.set 4 (.dat (.list (nD (readyP g dn)))), st) := by
  subst hl
  refine xItems_ev rfl (by simp [plainAt, h2, h5]) ?_ ?_ (by simp)
  · have h1 : (leftD g dn).length = (restP g dn).length := List.length_map _
    have h2 : (restP g dn).length ≤ g.length := by
      unfold restP
      exact Nat.le_trans (List.length_filter_le _ _) (by rw [List.length_range]; exact Nat.le_refl _)
    omega
  · rw [lcL_pure (q := pq) (f := pf) ?_]
    · congr 2
      rw [← ready_list, List.filter_map, List.map_map]
      rfl
    · intro d hd
      obtain ⟨kv, hkv, rfl⟩ := List.mem_map.mp hd
      obtain ⟨p, hp, rfl⟩ := mem_leftD hkv
      refine ⟨_, rfl, ?_, ?_, fun _ => ?_⟩
      · exact backV_id (by simp [wipeV]) fun j hj => match j, hj with
        | 0, _ => rfl
        | 1, _ => rfl
        | 2, hj => absurd (by simp) hj
        | 3, _ => rfl
        | 4, _ => rfl
        | 5, hj => absurd (by simp) hj
        | 6, _ => rfl
        | 7, _ => rfl
        | n + 8, _ => rfl
      · refine Eq.trans (by walk_at "be") ?_
        rfl
      · rfl
theorem in_mvs (f : Nat) (ps : List Nat) : inFD false (.int (f : Int)) (.tuple (nD ps)) = some (.bool (decide (f ∈ ps))) := by
  show (if (nD ps).all flatD = true then some (PyData.bool (if false = true then !inF (.int (f : Int)) (nD ps) else inF (.int (f : Int)) (nD ps))) else none) = _
  rw [if_pos (flat_nD ps), if_neg Bool.false_ne_true]
  have := in_nD f ps
  rw [this]
theorem sortD_ready (g : List Pl) (dn : List Nat) : sortedD [.list (nD (readyP g dn))] = some (.list (nD (readyP g dn))) := by
  rw [nD_ints, sortedD_i, ready_sorted]
theorem first_rest {f : Nat} {r : List Nat} {l : Lo} (hz : r.length ≤ 1000) : gSt 2 1 (gsCons (gNm 6) (gsCons (gNm 7) gsNil)) (.list (nD (f :: r))) l = some ((l.set 6 (.dat (.int (f : Int)))).set 7 (.dat (.list (nD r)))) := by
  have hl : (nD (f :: r)).length = r.length + 1 := nD_len _
  show (if 2 ≤ (nD (f :: r)).length + 1 ∧ (nD (f :: r)).length ≤ 16384 then _ else none) = _
  rw [if_pos (by omega), hl, show r.length + 1 + 1 - 2 = (nD r).length by rw [nD_len]; omega]
  show gsCons (gNm 6) (gsCons (gNm 7) gsNil) ([.int (f : Int)] ++ [.list ((nD r).take (nD r).length)] ++ (nD r).drop (nD r).length) l = _
  rw [List.take_length, List.drop_length]
  rfl

def ordL (g : List Pl) (d : List (Key × PyData)) (dn : List Nat) (w6 : Vl) : Lo := [.dat (gD g), .dct d, .no, .own (nD dn), .no, .no, w6, .no]
theorem ord_inner {g : List Pl} (hg : Good g) {dn : List Nat} {f : Nat} (hf : f ∉ dn) {st : Sg} {Q : Out → Lo → Sg → Prop} (hq : Q .nx (ordL g (leftD g (dn ++ [f])) (dn ++ [f]) (.dat (.int (f : Int)))) st) :
    Wp (xForL (gNm 2) (xKeep [2, 4, 5, 7] (b_order_of_1 f_moves_of)) (nD (restP g (dn ++ [f])))) (ordL g (midD g dn f 0) (dn ++ [f]) (.dat (.int (f : Int)))) st Q := by
  refine wp_forI (fun i l g' => l = ordL g (midD g dn f i) (dn ++ [f]) (.dat (.int (f : Int))) ∧ g' = st) ⟨rfl, rfl⟩ ?_ ?_
  · rintro i d l g' hd ⟨rfl, rfl⟩
    obtain ⟨p, hp, rfl⟩ := nD_at hd
    have hpl : p < g.length := (mem_rest.mp (List.mem_of_getElem? hp)).1
    have hmid : (midD g dn f i)[i]? = some (kN p, .int (cnt g dn p : Nat)) := by
      rw [mid_get, hp, if_neg (Nat.lt_irrefl i)]
      rfl
    have hnd : ((midD g dn f i).map (·.1)).Nodup := by
      rw [mid_keys]
      exact kN_nodup (rest_nodup g _)
    have hv : valG (midD g dn f i) (.inl (p : Int)) = some (.int (cnt g dn p : Nat)) := val_at hnd hmid
    have hc := cnt_snoc (g := g) (dn := dn) (f := f) (p := p) hf (mvs_nodup hg p)
    have hin := in_mvs f (mvs g p)
    have hlen : (midD g dn f i).length < 4000000 := by
      have h1 : (midD g dn f i).length = (restP g (dn ++ [f])).length := by unfold midD; rw [List.length_mapIdx]
      have h2 : (restP g (dn ++ [f])).length ≤ g.length := by
        unfold restP
        exact Nat.le_trans (List.length_filter_le _ _) (by rw [List.length_range]; exact Nat.le_refl _)
      have := hg.len
      omega
    unfold ordL b_order_of_1
    walk_at "vc"
   
    refine br_C (fun hm => ?_) (fun hm => ?_)
    · rw [if_pos (of_decide_eq_true hm)] at hc
      walk_at "vc"
     
      refine ⟨?_, rfl⟩
      have e1 : putG (midD g dn f i) (.inl (p : Int)) (.int ((cnt g dn p : Nat) - 1 : Int)) = (midD g dn f i).set i (kN p, .int ((cnt g dn p : Nat) - 1 : Int)) := put_at hnd hmid
      have e2 : ((cnt g dn p : Nat) - 1 : Int) = (cnt g (dn ++ [f]) p : Nat) := by omega
      rw [← mid_next hp, ← e2, ← e1]
      rfl
    · rw [if_neg (of_decide_eq_false hm)] at hc
      walk_at "vc"
      refine ⟨?_, rfl⟩
      rw [← mid_same hp (by omega)]
      rfl
  · rintro l g' ⟨rfl, rfl⟩
    rw [nD_len, mid_all]
    exact hq
theorem order_of_eq {g : List Pl} (hg : Good g) (st : Sg) : f_order_of [.dat (gD g)] st = some (.dat (ordD (ordOf g)), st) := by
  have hl := hg.len
  unfold f_order_of m_order_of
  refine fok_is ?_
  walk_at "vfn"
  walk_at "vc"
  rw [Int.toNat_natCast, rng_nat]
  refine dcw_pure (xs := List.range g.length) (fun p => .int (p : Nat)) kN (fun _ => true) (fun p => .int ((mvs g p).length : Nat)) (by rfl) (by rfl) (by rw [List.length_range]; omega) (by walk_at "wi") (fun p hp => ?_) ?_ ?_
  · have hp := List.mem_range.mp hp
    walk_at "vc"
    refine ⟨⟨rfl, rfl, rfl⟩, fun _ => ?_⟩
    walk_at "vc"
    refine ⟨⟨rfl, rfl, rfl⟩, ?_⟩
    walk_at "vc"
  · rw [List.filter_eq_self.mpr (by simp)]
    exact kN_nodup List.nodup_range
  · rw [List.filter_eq_self.mpr (by simp), ← left_zero]
    walk_at "vc"
    refine wp_while (fun dn => ordL g (leftD g dn) dn .no) (fun _ => st) (fun dn => dn.Nodup ∧ (∀ p ∈ dn, p < g.length) ∧ ordGo g (g.length - dn.length) dn = ordOf g) (fun dn => g.length - dn.length) [] ⟨List.nodup_nil, by simp, rfl⟩ (by simp; omega) ?_
    rintro dn ⟨h1, h2, h3⟩
    have hr := rest_len h1 h2
    unfold ordL
    walk_at "vc"
    rw [left_empty]
    refine br_C (fun hb => ?_) (fun hb => ?_)
    · unfold b_order_of_2
      have hne : restP g dn ≠ [] := fun z => by rw [z] at hb; cases hb
      have hlt : dn.length < g.length := by
        have : 0 < (restP g dn).length := List.length_pos_iff.mpr hne
        omega
      rw [show g.length - dn.length = (g.length - dn.length - 1) + 1 by omega, ordGo] at h3
      walk_at "v"
      walk_at "v"
      refine wp_eq (items_eq rfl rfl rfl (by omega)) ?_
      cases hq : readyP g dn with
      | nil =>
        rw [hq] at h3
        walk_at "vc"
        rw [← h3]
        exact ⟨rfl, rfl⟩
      | cons f r =>
        rw [hq] at h3
        have hs := sortD_ready g dn
        rw [hq] at hs
        obtain ⟨⟨f1, f2⟩, f3⟩ := mem_ready.mp (show f ∈ readyP g dn by rw [hq]; simp)
        have hrl : (f :: r).length ≤ (restP g dn).length := by rw [← hq]; exact List.length_filter_le _ _
        have hdl : dn.length < 4000000 := by omega
        have hkey : (valG (leftD g dn) (.inl (f : Int))).isSome = true := by
          obtain ⟨i, hi⟩ := List.mem_iff_getElem?.mp (mem_rest.mpr ⟨f1, f2⟩)
          have := val_at (kvs := leftD g dn) (k := kN f) (i := i) (v := .int (cnt g dn f : Nat)) (by unfold leftD; rw [List.map_map]; exact kN_nodup (rest_nodup g dn)) (by unfold leftD; rw [List.getElem?_map, hi]; rfl)
          show (valG (leftD g dn) (kN f)).isSome = true
          rw [this]
          rfl
        walk_at "vc"
        refine has_of (first_rest (by simp at hrl; omega)) ?_
        simp only [List.set_cons_succ, List.set_cons_zero]
        walk_at "vc"
        have ed : dropG (leftD g dn) (Sum.inl (f : Int)) = midD g dn f 0 := left_drop g dn f
        have ek : (midD g dn f 0).map (fun kv => keyD kv.1) = nD (restP g (dn ++ [f])) := by
          have := congrArg (List.map keyD) (mid_keys g dn f 0)
          rw [List.map_map, List.map_map] at this
          exact this
        rw [ed, ek]
        have ea : nD dn ++ [PyData.int (f : Int)] = nD (dn ++ [f]) := by unfold nD; rw [List.map_append]; rfl
        rw [ea]
        refine ord_inner hg f2 ?_
        refine ⟨dn ++ [f], rfl, rfl, ⟨?_, ?_, ?_⟩, by rw [List.length_append]; simp; omega⟩
        · rw [List.nodup_append]
          exact ⟨h1, by simp, fun a ha b hb z => by simp at hb; subst hb; subst z; exact f2 ha⟩
        · intro p hp
          rcases List.mem_append.mp hp with hp | hp
          · exact h2 p hp
          · simp at hp; subst hp; exact f1
        · rw [← h3, List.length_append, List.length_singleton, Nat.sub_add_eq]
    · have : restP g dn = [] := by
        cases hz : restP g dn with
        | nil => rfl
        | cons => rw [hz] at hb; cases hb
      rw [this] at hr
      walk_at "vc"
      rw [show g.length - dn.length = 0 by simp at hr; omega] at h3
      rw [← h3]
      exact ⟨rfl, rfl⟩

end
section
local macro_rules | `(tactic| walk_at "op") => `(tactic| ((with_reducible apply ixD_g); assumption))
local macro_rules | `(tactic| walk_at "bi") => `(tactic| with_reducible exact lenD_g)
local macro_rules | `(tactic| walk_at "bi") => `(tactic| with_reducible exact lenD_n)
local macro_rules | `(tactic| walk_at "cl") => `(tactic| ((with_reducible apply draw_eq) <;> first | omega | assumption))
local macro_rules | `(tactic| walk_at "cl") => `(tactic| ((with_reducible apply dworth_eq) <;> first | omega | assumption))
local macro_rules | `(tactic| walk_at "bi") => `(tactic| first | with_reducible exact lenD_gD _ | with_reducible exact lenD_nD _ | with_reducible exact lenD_nL _ | with_reducible exact gX_at (by assumption))
local macro_rules | `(tactic| walk_at "cq") => `(tactic| ((with_reducible apply moves_of_eq); first | omega | assumption))
/-! ### dicts by places -/
def dOf (f : Nat → PyData) (ps : List Nat) : List (Key × PyData) := ps.map fun p => (kN p, f p)
theorem dOf_get {f : Nat → PyData} {ps : List Nat} {p : Nat} (h : p ∈ ps) : valG (dOf f ps) (.inl (p : Int)) = some (f p) := by
  unfold valG dOf
  induction ps with
  | nil => cases h
  | cons q r ih =>
    rw [List.map_cons]
    by_cases e : q = p
    · subst e
      rw [List.find?_cons_of_pos (by simp [kN])]
      rfl
    · rw [List.find?_cons_of_neg (by
        show ¬ (decide (kN q = .inl (p : Int)) = true)
        rw [decide_eq_true_eq]
        exact fun z => e (kN_inj (q := p) z))]
      exact ih ((List.mem_cons.mp h).resolve_left fun z => e z.symm)
theorem dOf_none {f : Nat → PyData} {ps : List Nat} {p : Nat} (h : p ∉ ps) : valG (dOf f ps) (.inl (p : Int)) = none := val_none fun kv hkv => by
  obtain ⟨q, hq, rfl⟩ := List.mem_map.mp hkv
  exact fun z => h (by rw [← kN_inj (q := p) z]; exact hq)
theorem dOf_put {f : Nat → PyData} {ps : List Nat} {p : Nat} (h : p ∉ ps) {v : PyData} (e : v = f p) : putG (dOf f ps) (.inl (p : Int)) v = dOf f (ps ++ [p]) := by
  subst e
  rw [putG_new]
  · unfold dOf; rw [List.map_append]; rfl
  · intro kv hkv
    obtain ⟨q, hq, rfl⟩ := List.mem_map.mp hkv
    exact fun z => h (by rw [← kN_inj (q := p) z]; exact hq)
theorem dOf_len {f : Nat → PyData} {ps : List Nat} : (dOf f ps).length = ps.length := List.length_map _
/-! ### the greatest, the least -/
noncomputable def m_choice : X :=
  (xRet (eIf (bTest (eOp eqD (eVar 0) (eC (.int 0)))) (eCB maxD (aCons (eVar 1) aNil)) (eCB minD (aCons (eVar 1) aNil))))
noncomputable def f_choice : FS := fnS 2 (m_choice )

theorem choice_eq (st : Sg) {s : Int} (hs : s = 0 ∨ s = 1) {ns : List Int} (hn : ns ≠ []) : f_choice [.dat (.int s), .dat (.list (ns.map .int))] st = some (.dat (.int (chI s ns)), st) := by
  unfold f_choice m_choice
  refine fok_is ?_
  walk_at "vfn"
  have h1 := maxD_i hn
  have h2 := minD_i hn
  rcases hs with rfl | rfl
  · walk_at "vc"
  · walk_at "vc"
local macro_rules | `(tactic| walk_at "cq") => `(tactic| ((with_reducible apply choice_eq) <;> assumption))
/-! ### worths -/
noncomputable def b_worths_1 (F_order_of F_choice : FS) : X :=
  (xSeq (xAsgG (gTp 2 (gsCons (gNm 3) (gsCons (gNm 4) gsNil))) (eOp ixD (eVar 0) (eVar 2)))
    (xDput 1 (eVar 2) (eIf (bTest (eOp eqD (eVar 3) (eC (.str "end")))) (eVar 4) (eCall F_choice (vCons (vE (eVar 3)) (vCons (vE (eL (lLc [5] (iSq (eVar 4)) (gNm 5) bYes (eDget 1 (eVar 5))))) vNil))))))
noncomputable def m_worths (F_order_of F_choice : FS) : X :=
  (xSeq (xAsgC 1 lDnew)
  (xSeq (xFor (iWipe [2, 3, 4, 5] (iSq (eCall F_order_of (vCons (vE (eVar 0)) vNil)))) (gNm 2)
    (xKeep [2, 3, 4, 5] (b_worths_1 F_order_of F_choice)))
  (xRet (eCB tupleD (aCons (eL (lLc [2] (iRg1 (eCB lenD (aCons (eVar 0) aNil))) (gNm 2) bYes (eDget 1 (eVar 2)))) aNil)))))
noncomputable def f_worths : FS := fnS 6 (m_worths f_order_of f_choice)

def wI (g : List Pl) (p : Nat) : PyData := .int (wor g p)
def worsD (g : List Pl) : List PyData := (List.range g.length).map (wI g)
theorem mvs_lt {g : List Pl} (hg : Good g) {p m : Nat} (h : m ∈ mvs g p) : m < g.length := by
  unfold mvs at h
  cases e : g[p]? with
  | none => rw [e] at h; cases h
  | some x =>
    rw [e] at h
    cases x with
    | fin w => cases h
    | mv s ms => exact (hg.ok p _ e).2.2.2.1 m h
theorem worths_eq {g : List Pl} (hg : Good g) (hst : Straight g) (st : Sg) : f_worths [.dat (gD g)] st = some (.dat (.tuple (worsD g)), st) := by
  have hl := hg.len
  obtain ⟨rk, hrk⟩ := hst.rk
  obtain ⟨o, ho, ht⟩ := ord_topo hg hst
  have hoe := order_of_eq hg st
  rw [ho] at hoe
  have hol : o.length = g.length := by rw [ht.perm.length_eq, List.length_range]
  unfold f_worths m_worths
  refine fok_is ?_
  walk_at "vfn"
  walk_at "vc"
  refine wp_forS o (fun p => .int (p : Nat)) (fun pre => [.dat (gD g), .dct (dOf (wI g) pre), .no, .no, .no, .no]) (fun _ => st) (fun pre s => s = pre) [] rfl ?_ ?_
  · rintro pre p post s e rfl
    have hi : o[s.length]? = some p := by rw [e]; simp
    have htk : o.take s.length = s := by rw [e]; simp
    have hmv := ht.dn _ _ hi
    rw [htk] at hmv
    have hp : p < g.length := List.mem_range.mp (ht.perm.mem_iff.mp (List.mem_of_getElem? hi))
    have hnd : o.Nodup := ht.perm.nodup_iff.mpr List.nodup_range
    have hpn : p ∉ s := fun z => by
      rw [e, List.nodup_append] at hnd
      exact hnd.2.2 p z p List.mem_cons_self rfl
    have hsl : s.length < 4000000 := by
      have := (List.getElem?_eq_some_iff.mp hi).1
      omega
    have hdl : (dOf (wI g) s).length < 4000000 := by rw [dOf_len]; exact hsl
    have hx : g[p]? = some g[p] := List.getElem?_eq_getElem hp
    generalize g[p] = x at hx
    rw [mvs_eq hx] at hmv
    unfold b_worths_1
    cases x with
    | fin w =>
      have hw := wor_fin hrk hx
      walk_at "vc"
      refine ⟨_, ?_, rfl, rfl⟩
      rw [← dOf_put hpn (v := .int w) (by unfold wI; rw [hw])]
      rfl
    | mv sd ms =>
      obtain ⟨q1, q2, q3, q4, q5⟩ := hg.ok p _ hx
      have hw := wor_mv hrk hx
      walk_at "vc"
      refine lcw_map (xs := ms) (fun m => .int (m : Nat)) (wI g) (by rfl) (by rfl) (by omega) (by walk_at "wi") (fun m hm => ?_) ?_
      · have hg := dOf_get (f := wI g) (hmv m hm)
        walk_at "vc"
      · have e1 : ms.map (wI g) = (ms.map (wor g)).map PyData.int := by rw [List.map_map]; rfl
        rw [e1]
        have hne : ms.map (wor g) ≠ [] := fun z => q2 (by simpa using z)
        walk_at "vc"
        refine ⟨_, ?_, rfl, rfl⟩
        rw [← dOf_put hpn (v := .int (chI sd (ms.map (wor g)))) (by unfold wI; rw [hw])]
        rfl
  · rintro s rfl
    walk_at "vc"
    rw [Int.toNat_natCast, rng_nat]
    refine lcw_map (xs := List.range g.length) (fun m => .int (m : Nat)) (wI g) (by rfl) (by rfl) (by rw [List.length_range]; omega) (by walk_at "wi") (fun m hm => ?_) ?_
    · have hg := dOf_get (f := wI g) (ht.perm.mem_iff.mpr hm)
      walk_at "vc"
    · walk_at "vc"

theorem wors_at {g : List Pl} {p : Nat} (hp : p < g.length) : (worsD g)[p]? = some (wI g p) := by unfold worsD; rw [List.getElem?_map, List.getElem?_range hp]; rfl
local macro_rules | `(tactic| walk_at "cq") => `(tactic| ((with_reducible apply worths_eq) <;> assumption))
local macro_rules | `(tactic| walk_at "bi") => `(tactic| first | ((with_reducible apply wors_ix); assumption) | ((with_reducible apply wors_ixL); assumption))
/-! ### best moves -/
/-! ### the main line -/
end
end
section
local macro_rules | `(tactic| walk_at "op") => `(tactic| ((with_reducible apply ixD_g); assumption))
local macro_rules | `(tactic| walk_at "bi") => `(tactic| with_reducible exact lenD_g)
local macro_rules | `(tactic| walk_at "bi") => `(tactic| with_reducible exact lenD_n)
local macro_rules | `(tactic| walk_at "cl") => `(tactic| ((with_reducible apply draw_eq) <;> first | omega | assumption))
local macro_rules | `(tactic| walk_at "cl") => `(tactic| ((with_reducible apply dworth_eq) <;> first | omega | assumption))
local macro_rules | `(tactic| walk_at "bi") => `(tactic| first | with_reducible exact lenD_gD _ | with_reducible exact lenD_nD _ | with_reducible exact lenD_nL _ | with_reducible exact gX_at (by assumption))
local macro_rules | `(tactic| walk_at "cq") => `(tactic| ((with_reducible apply moves_of_eq); first | omega | assumption))
local macro_rules | `(tactic| walk_at "cq") => `(tactic| ((with_reducible apply choice_eq) <;> assumption))
local macro_rules | `(tactic| walk_at "cq") => `(tactic| ((with_reducible apply worths_eq) <;> assumption))
local macro_rules | `(tactic| walk_at "bi") => `(tactic| first | ((with_reducible apply wors_ix); assumption) | ((with_reducible apply wors_ixL); assumption))
/-! ### draws, as they are asked in laws -/
theorem draw_ok {ns : List Int} {n : Nat} {m : Int} {g : Sg} {Q : Vl → Sg → Prop} (hz : ns.length ≤ 63) (hn : n < 90000) (hm : 0 < m) (h : ∀ k : Nat, (k : Int) < m → Q (.dat (.int (k : Int))) (tw ns (n + 1) g)) : FOk f_l_draw [scr ns, .ref 0, .dat (.int m)] (tw ns n g) Q := by
  refine fok_eq (draw_eq ns n m g hn hm hz) ?_
  obtain ⟨k, e, hk⟩ := drN_nat ns n (m := m.toNat) (by omega)
  rw [Int.toNat_of_nonneg (by omega)] at e
  rw [e]
  exact h k (by omega)
theorem straight_ok {ns : List Int} {n : Nat} {m : Int} {g : Sg} {Q : Vl → Sg → Prop} (hz : ns.length ≤ 63) (hn : n < 70000) (h1 : 1 ≤ m) (h2 : m ≤ 12) (h : ∀ gm n', (gm.length : Int) = m → Good gm → Straight gm → n ≤ n' → n' ≤ n + 300 → Q (.dat (gD gm)) (tw ns n' g)) : FOk f_l_straight [scr ns, .ref 0, .dat (.int m)] (tw ns n g) Q := by
  obtain ⟨gm, n', e, hl, hg, hs, h3, h4⟩ := straight_eq ns n m.toNat g hz (by omega) (by omega) hn
  rw [Int.toNat_of_nonneg (by omega)] at e
  exact fok_eq e (h gm n' (by omega) hg hs h3 h4)
theorem pick_ok {ns : List Int} {n : Nat} {ds : List PyData} {g : Sg} {Q : Vl → Sg → Prop} (hz : ns.length ≤ 63) (hn : n < 90000) (hd : ds ≠ []) (h : ∀ d ∈ ds, Q (.dat d) (tw ns (n + 1) g)) : FOk f_l_pick [scr ns, .ref 0, .dat (.list ds)] (tw ns n g) Q :=
  fok_eq (pick_eq ns n ds g hn (List.length_pos_iff.mpr hd) hz) (h _ (pkD_mem ns n (List.length_pos_iff.mpr hd)))
/-! ### plain things -/
end
section
local macro_rules | `(tactic| walk_at "op") => `(tactic| ((with_reducible apply ixD_g); assumption))
local macro_rules | `(tactic| walk_at "bi") => `(tactic| with_reducible exact lenD_g)
local macro_rules | `(tactic| walk_at "bi") => `(tactic| with_reducible exact lenD_n)
local macro_rules | `(tactic| walk_at "cl") => `(tactic| ((with_reducible apply draw_eq) <;> first | omega | assumption))
local macro_rules | `(tactic| walk_at "cl") => `(tactic| ((with_reducible apply dworth_eq) <;> first | omega | assumption))
/-! ### data that compare -/
def shN : Nat → PyData → Bool
  | _, .none => true
  | _, .bool _ => true
  | _, .int _ => true
  | _, .str x => PyData.canLay0 (.str x)
  | 0, _ => false
  | k + 1, .tuple ds => ds.all (shN k)
  | k + 1, .list ds => ds.all (shN k)
  | _, _ => false
theorem sh_allL {ds : List PyData} (h : ∀ d ∈ ds, d.canLay0 = true) : PyData.canLayAll0 ds = true := by
  induction ds with
  | nil => simp [PyData.canLayAll0]
  | cons a r ih => simp [PyData.canLayAll0, h a (by simp), ih fun d hd => h d (by simp [hd])]
theorem sh_allD {ds : List PyData} {n : Nat} (h : ∀ d ∈ ds, d.depth ≤ n) : PyData.depthAll ds ≤ n := by
  induction ds with
  | nil => simp [PyData.depthAll]
  | cons a r ih =>
    have h1 := h a (by simp)
    have h2 := ih fun d hd => h d (by simp [hd])
    simp only [PyData.depthAll]
    omega
theorem shN_ok : ∀ (k : Nat) (d : PyData), shN k d = true → d.canLay0 = true ∧ d.depth ≤ k + 1 := by
  intro k
  induction k with
  | zero =>
    intro d h
    cases d <;> first | (exact ⟨rfl, by simp [PyData.depth]⟩) | (simp [shN] at h; done) | exact ⟨h, by simp [PyData.depth]⟩
  | succ k ih =>
    intro d h
    cases d with
    | tuple ds =>
      have h : ds.all (shN k) = true := h
      have hh := fun d hd => ih d (List.all_eq_true.mp h d hd)
      have h2 := sh_allD fun d hd => (hh d hd).2
      exact ⟨by simp only [PyData.canLay0]; exact sh_allL fun d hd => (hh d hd).1, by simp only [PyData.depth]; omega⟩
    | list ds =>
      have h : ds.all (shN k) = true := h
      have hh := fun d hd => ih d (List.all_eq_true.mp h d hd)
      have h2 := sh_allD fun d hd => (hh d hd).2
      exact ⟨by simp only [PyData.canLay0]; exact sh_allL fun d hd => (hh d hd).1, by simp only [PyData.depth]; omega⟩
    | _ => first | (exact ⟨rfl, by simp [PyData.depth]⟩) | (simp [shN] at h; done) | exact ⟨h, by simp [PyData.depth]⟩
theorem sh_shaped {k : Nat} {d : PyData} (h : shN k d = true) (hk : k ≤ 63) : SeqAt.shaped d = true := by
  obtain ⟨h1, h2⟩ := shN_ok k d h
  show (PyData.canLay0 d && decide (PyData.depth d ≤ 64)) = true
  rw [h1, decide_eq_true (by omega)]
  rfl
theorem eqD_self {k : Nat} {d : PyData} (h : shN k d = true) (hk : k ≤ 63) : eqD d d = some (.bool true) := by
  rw [eqD_sh (sh_shaped h hk) (sh_shaped h hk), SeqAt.eqv_refl d (shN_ok k d h).1]
theorem neD_self {k : Nat} {d : PyData} (h : shN k d = true) (hk : k ≤ 63) : neD d d = some (.bool false) := neD_of (eqD_self h hk)
theorem sh_tup {k : Nat} {ds : List PyData} (h : ∀ d ∈ ds, shN k d = true) : shN (k + 1) (.tuple ds) = true := List.all_eq_true.mpr h
theorem sh_lst {k : Nat} {ds : List PyData} (h : ∀ d ∈ ds, shN k d = true) : shN (k + 1) (.list ds) = true := List.all_eq_true.mpr h
theorem sh_int (k : Nat) (i : Int) : shN k (.int i) = true := by cases k <;> rfl
theorem sh_nD {k : Nat} {ms : List Nat} : shN (k + 1) (.tuple (nD ms)) = true := sh_tup fun d hd => by
  obtain ⟨m, _, rfl⟩ := List.mem_map.mp hd
  exact sh_int _ _
theorem sh_nL {k : Nat} {ms : List Nat} : shN (k + 1) (.list (nD ms)) = true := sh_lst fun d hd => by
  obtain ⟨m, _, rfl⟩ := List.mem_map.mp hd
  exact sh_int _ _
end
section
local macro_rules | `(tactic| walk_at "cq") => `(tactic| with_reducible assumption)
local macro_rules | `(tactic| walk_at "le") => `(tactic| first | omega | (simp only [List.length_cons, List.length_nil, List.length_append, List.length_map, List.length_set, List.length_range, nD_len]; omega) | decide)
local macro_rules | `(tactic| walk_at "sr") => `(tactic| ((repeat (with_reducible apply SetR.s)); with_reducible exact SetR.z))
local macro_rules | `(tactic| walk_at "ha") => `(tactic| first | walk_at "op" | with_reducible exact truO_b | with_reducible exact truO_l | with_reducible exact truO_t | with_reducible exact truO_n | with_reducible exact truO_i | walk_at "at" | walk_at "bi" | walk_at "dg" | with_reducible rfl | rfl)
local macro_rules | `(tactic| walk_at "v") => `(tactic| first
  | with_reducible refine wp_seq ?_
  | ((with_reducible apply wp_eVar); (rfl))
  | with_reducible refine wp_eC ?_
  | with_reducible refine wp_eOp ?_
  | with_reducible refine has_some ?_
  | ((with_reducible apply hasG_nm); (walk_at "sr"))
  | ((with_reducible apply hasG_tp); (rfl); (rfl))
  | with_reducible refine hasG_cons ?_
  | with_reducible refine hasG_nil ?_
  | ((with_reducible apply has_of); (walk_at "ha"))
  | with_reducible refine wp_eCall ?_
  | with_reducible refine wp_vE ?_
  | ((with_reducible apply wp_vR); (rfl))
  | with_reducible refine wp_vNil ?_
  | ((with_reducible apply fok_eq); (walk_at "cq"))
  | with_reducible refine wp_asg ?_
  | with_reducible refine wp_asgG ?_
  | with_reducible refine wp_asgL ?_
  | with_reducible refine wp_if ?_
  | with_reducible refine wp_ret ?_
  | with_reducible refine seqK_ret ?_
  | with_reducible refine retK_ret ?_
  | with_reducible refine wp_bTest ?_
  | with_reducible refine wp_bTru ?_
  | with_reducible refine wp_bNot ?_
  | with_reducible refine wp_eCB ?_
  | with_reducible refine wp_aCons ?_
  | with_reducible refine wp_aNil ?_
  | with_reducible refine wp_eUn ?_
  | with_reducible refine wp_eTup ?_
  | with_reducible refine wp_eL ?_
  | with_reducible refine wp_lLst ?_
  | with_reducible refine wp_eIf ?_
  | with_reducible refine wp_for ?_
  | with_reducible refine wp_iWipe ?_
  | with_reducible refine wp_iSq ?_
  | with_reducible refine wp_iRg1 ?_
  | with_reducible refine wp_iRg2 ?_
  | with_reducible refine wp_keep ?_
  | with_reducible refine wp_pre ?_
  | with_reducible refine wp_next ?_
  | with_reducible refine wp_break ?_
  | with_reducible refine wp_cont ?_
  | with_reducible refine bodyK_nx ?_
  | with_reducible refine bodyK_ct ?_
  | with_reducible refine bodyK_bk ?_
  | with_reducible refine bodyK_ret ?_
  | with_reducible refine seqK_bk ?_
  | with_reducible refine seqK_ct ?_
  | with_reducible refine retK_nx ?_
  | with_reducible refine wp_forNil ?_
  | with_reducible refine wp_eIsN ?_
  | with_reducible refine wp_eNotN ?_
  | with_reducible refine wp_eNot ?_
  | ((with_reducible apply wp_eIxV); (rfl))
  | ((with_reducible apply wp_eLenV); (rfl))
  | ((with_reducible apply wp_eTupleV); (rfl))
  | ((with_reducible apply wp_eSlV); (rfl))
  | with_reducible refine wp_eSl ?_
  | with_reducible refine wp_oNone ?_
  | with_reducible refine wp_oSome ?_
  | with_reducible refine wp_eInV ?_
  | ((with_reducible apply wp_ePopO); (rfl); (walk_at "gt"); (walk_at "sr"))
  | ((with_reducible apply wp_eDget); (exact ⟨_, rfl⟩))
  | ((with_reducible apply wp_eDget2); (exact ⟨_, rfl⟩))
  | with_reducible refine wp_eDin ?_
  | with_reducible refine wp_eDnot ?_
  | ((with_reducible apply wp_eLenD); (rfl))
  | with_reducible refine wp_eIsi ?_
  | with_reducible refine wp_eCallK ?_
  | with_reducible refine wp_eCallD ?_
  | with_reducible refine wp_lList ?_
  | with_reducible refine wp_lListRg ?_
  | with_reducible refine wp_lListRg2 ?_
  | with_reducible refine wp_iEn ?_
  | with_reducible refine wp_iEnA ?_
  | with_reducible refine wp_kSet ?_
  | with_reducible refine wp_kSc ?_
  | with_reducible refine wp_sortS ?_
  | with_reducible refine wp_lenS ?_
  | with_reducible refine wp_lRev ?_
  | with_reducible refine wp_lRep ?_
  | ((with_reducible apply wp_lListV); (rfl))
  | ((with_reducible apply wp_lKeys); (rfl))
  | ((with_reducible apply wp_lVals); (rfl))
  | with_reducible refine wp_vNewD ?_
  | with_reducible refine wp_eMinDef ?_
  | with_reducible refine wp_lLc ?_
  | with_reducible refine wp_bYes ?_
  | ((with_reducible apply wp_bTruV); (rfl))
  | ((with_reducible apply wp_bTruD); (rfl))
  | with_reducible refine wp_bIf ?_
  | with_reducible refine wp_lDnew ?_
  | with_reducible refine wp_lDc ?_
  | with_reducible refine wp_asgC ?_
  | with_reducible refine wp_newL ?_
  | with_reducible refine wp_retN ?_
  | with_reducible refine wp_drop ?_
  | ((with_reducible apply wp_app); (exact ⟨_, rfl⟩))
  | with_reducible refine wp_setI ?_
  | ((with_reducible apply wp_aug); (rfl))
  | ((with_reducible apply wp_frzO); (rfl); (walk_at "sr"))
  | ((with_reducible apply wp_frzD); (rfl))
  | with_reducible refine wp_par ?_
  | with_reducible refine wp_parDL ?_
  | with_reducible refine wp_parLD ?_
  | with_reducible refine wp_parLL ?_
  | with_reducible refine wp_par3 ?_
  | with_reducible refine wp_parCL ?_
  | with_reducible refine wp_lDone ?_
  | ((with_reducible apply wp_lSortK); (rfl))
  | with_reducible refine wp_eIndex ?_
  | ((with_reducible apply wp_eIndexV); (rfl))
  | with_reducible refine wp_eInDV ?_
  | with_reducible refine wp_dput ?_
  | ((with_reducible apply wp_dpop); (exact ⟨_, rfl⟩))
  | with_reducible refine wp_tup2 ?_
  | with_reducible refine wp_tup3 ?_
  | with_reducible refine wp_tup4 ?_
  | with_reducible refine wp_uNil ?_
  | with_reducible refine wp_uD ?_
  | with_reducible refine wp_uL ?_
  | with_reducible refine wp_uC ?_
  | with_reducible refine wp_vLam ?_
  | ((with_reducible apply wp_vFn); (rfl))
  | ((with_reducible apply wp_eCallF); (rfl))
  | ((with_reducible apply wp_retD); (rfl))
  | with_reducible refine wp_callDg ?_
  | with_reducible refine wp_sortBy ?_
  | ((with_reducible apply ex_one); (rfl))
  | with_reducible refine wp_eChain ?_
  | ((with_reducible refine wp_bAnd ?_); (repeat walk_at "v"); walk_at "br")
  | ((with_reducible refine wp_bOr ?_); (repeat walk_at "v"); walk_at "br")
  | ((with_reducible refine wp_eAnd ?_); (repeat walk_at "v"); walk_at "br")
  | ((with_reducible refine wp_eOr ?_); (repeat walk_at "v"); walk_at "br")
  | with_reducible refine wp_bAndB ?_
  | with_reducible refine wp_bOrB ?_
  | with_reducible refine wp_eAndB ?_
  | with_reducible refine wp_eOrB ?_
  | walk_at "xx")
local macro_rules | `(tactic| walk_at "nk") => `(tactic| ((repeat walk_at "v"); first | exact ⟨rfl, rfl, rfl⟩ | exact ⟨rfl, rfl, by walk_at "op"⟩))
local macro_rules | `(tactic| walk_at "lt2") => `(tactic| first | omega | exact ⟨by omega, by omega⟩ | (simp only [List.length_cons, List.length_nil, List.length_append, List.length_map, List.length_set, nD_len]; omega))
local macro_rules | `(tactic| walk_at "ky") => `(tactic| first | with_reducible exact keyO_i | with_reducible exact keyO_s | rfl)
local macro_rules | `(tactic| walk_at "xx") => `(tactic| first
  | ((with_reducible apply ex_set); (walk_at "sr"))
  | with_reducible refine ex_bool ?_
  | with_reducible refine ex_dat ?_
  | ((with_reducible apply ex_rng); omega)
  | ((with_reducible apply ex_rep); omega; (walk_at "le"))
  | ((with_reducible apply ex_rng2); omega; omega)
  | with_reducible refine ex_int ?_
  | with_reducible refine ex_list ?_
  | ((with_reducible apply and_le); (walk_at "le"))
  | ((with_reducible apply and_bk); (rfl))
  | ((with_reducible apply ex_ix); (rfl))
  | ((with_reducible apply ex_key); (rfl); (walk_at "ky"))
  | ((with_reducible apply ex_app); (rfl); (walk_at "le"); (walk_at "sr"))
  | ((with_reducible apply ex_own); (rfl))
  | ((with_reducible apply ex_dct); (rfl))
  | ((with_reducible apply ex_setI); (rfl); (walk_at "lt2"); (walk_at "sr"))
  | ((with_reducible apply ex_dput); (rfl); (walk_at "ky"); (walk_at "lt2"); (walk_at "sr"))
  | ((with_reducible apply ex_dpop); (rfl); (walk_at "ky"); (walk_at "gt"); (walk_at "sr"))
  | ((with_reducible apply ex_par); (walk_at "sr"); (walk_at "sr"))
  | ((with_reducible apply ex_par3); (walk_at "sr"); (walk_at "sr"); (walk_at "sr"))
  | ((with_reducible apply ex_tup2); (walk_at "sr"); (walk_at "sr"))
  | ((with_reducible apply ex_tup3); (walk_at "sr"); (walk_at "sr"); (walk_at "sr"))
  | ((with_reducible apply ex_tup4); (walk_at "sr"); (walk_at "sr"); (walk_at "sr"); (walk_at "sr"))
  | ((with_reducible apply ex_kit); (walk_at "ki"))
  | with_reducible refine ex_zipT ?_
  | with_reducible refine ex_zipL ?_
  | ((with_reducible apply ex_chain); (walk_at "op"); (intro _; walk_at "nk"))
  | ((with_reducible apply ex_and2); (intro _; walk_at "nk"))
  | ((with_reducible apply ex_and1); (intro _; walk_at "nk"))
  | ((with_reducible apply ex_ls); (rfl)))
local macro_rules | `(tactic| walk_at "br") => `(tactic| first | ((with_reducible apply br_T); (walk_at "tr")) | ((with_reducible apply br_F); (walk_at "tr")))
local macro_rules | `(tactic| walk_at "vfn") => `(tactic| refine fok_fn (by (simp only [List.length_cons, List.length_nil, Nat.reduceAdd, Nat.reduceSub, List.replicate_succ, List.replicate_zero, List.cons_append, List.nil_append]; try rfl)) ?_)
local macro_rules | `(tactic| walk_at "vc") => `(tactic| repeat (first | walk_at "v" | with_reducible refine seqK_nx ?_ | walk_at "br" | with_reducible exact ⟨rfl, rfl, rfl⟩ | with_reducible exact ⟨rfl, rfl⟩))
local macro_rules | `(tactic| walk_at "wi") => `(tactic| (simp only [wipeV, List.set_cons_succ, List.set_cons_zero]; try rfl))
local macro_rules | `(tactic| walk_at "vs") => `(tactic| ((try with_reducible refine wp_seq ?_); (repeat (first | walk_at "v" | walk_at "br")); (try with_reducible refine seqK_nx ?_)))

section
local macro_rules | `(tactic| walk_at "op") => `(tactic| ((with_reducible apply ixD_g); assumption))
local macro_rules | `(tactic| walk_at "bi") => `(tactic| with_reducible exact lenD_g)
local macro_rules | `(tactic| walk_at "bi") => `(tactic| with_reducible exact lenD_n)
local macro_rules | `(tactic| walk_at "cl") => `(tactic| ((with_reducible apply draw_eq) <;> first | omega | assumption))
local macro_rules | `(tactic| walk_at "cl") => `(tactic| ((with_reducible apply dworth_eq) <;> first | omega | assumption))
local macro_rules | `(tactic| walk_at "bi") => `(tactic| first | with_reducible exact lenD_gD _ | with_reducible exact lenD_nD _ | with_reducible exact lenD_nL _ | with_reducible exact gX_at (by assumption))
local macro_rules | `(tactic| walk_at "cq") => `(tactic| ((with_reducible apply moves_of_eq); first | omega | assumption))
local macro_rules | `(tactic| walk_at "cq") => `(tactic| ((with_reducible apply choice_eq) <;> assumption))
local macro_rules | `(tactic| walk_at "cq") => `(tactic| ((with_reducible apply worths_eq) <;> assumption))
local macro_rules | `(tactic| walk_at "bi") => `(tactic| first | ((with_reducible apply wors_ix); assumption) | ((with_reducible apply wors_ixL); assumption))
/-! ### things, and which of them are games -/
def tmN : Nat → PyData → Bool
  | _, .none => true
  | _, .bool _ => true
  | _, .int i => decide (-1000000 ≤ i) && decide (i ≤ 1000000)
  | _, .str x => PyData.canLay0 (.str x)
  | 0, _ => false
  | k + 1, .tuple ds => decide (ds.length ≤ 200) && ds.all (tmN k)
  | k + 1, .list ds => decide (ds.length ≤ 200) && ds.all (tmN k)
  | _, _ => false
theorem tm_sh : ∀ (k : Nat) (d : PyData), tmN k d = true → shN k d = true := by
  intro k
  induction k with
  | zero => intro d h; cases d <;> first | rfl | exact h | (simp [tmN] at h; done)
  | succ k ih =>
    intro d h
    cases d with
    | tuple ds =>
      have h : (decide (ds.length ≤ 200) && ds.all (tmN k)) = true := h
      rw [Bool.and_eq_true] at h
      exact List.all_eq_true.mpr fun d hd => ih d (List.all_eq_true.mp h.2 d hd)
    | list ds =>
      have h : (decide (ds.length ≤ 200) && ds.all (tmN k)) = true := h
      rw [Bool.and_eq_true] at h
      exact List.all_eq_true.mpr fun d hd => ih d (List.all_eq_true.mp h.2 d hd)
    | _ => first | rfl | exact h | (simp [tmN] at h; done)
theorem tm_tup {k : Nat} {ds : List PyData} : tmN (k + 1) (.tuple ds) = true ↔ ds.length ≤ 200 ∧ ∀ d ∈ ds, tmN k d = true := by
  show (decide (ds.length ≤ 200) && ds.all (tmN k)) = true ↔ _
  rw [Bool.and_eq_true, decide_eq_true_eq, List.all_eq_true]
def whB : PyData → Bool
  | .int _ => true
  | _ => false
def ofI : PyData → Int
  | .int m => m
  | _ => 0
theorem eqT_emp {k : Nat} {ds : List PyData} (h : tmN k (.tuple ds) = true) (hk : k ≤ 60) : eqD (.tuple ds) (.tuple []) = some (.bool ds.isEmpty) := by
  have e : eqD (.tuple ds) (.tuple []) = some (.bool (PyData.eqv (.tuple ds) (.tuple []))) := eqD_sh (sh_shaped (tm_sh k _ h) (by omega)) (sh_shaped (k := 1) (sh_nD (ms := [])) (by omega))
  rw [e]
  cases ds <;> rfl
theorem tm_dict {k : Nat} {kvs : List (PyData × PyData)} (h : tmN k (.dict kvs) = true) : False := by cases k <;> simp [tmN] at h
noncomputable def m_is_whole : X :=
  (xRet (eAnd (eIsi "int" (eVar 0)) (eNot (eIsi "bool" (eVar 0)))))
noncomputable def f_is_whole : FS := fnS 1 (m_is_whole )

theorem whole_eq {k : Nat} {d : PyData} (hd : tmN k d = true) (st : Sg) : f_is_whole [.dat d] st = some (.dat (.bool (whB d)), st) := by
  unfold f_is_whole m_is_whole
  refine fok_is ?_
  cases d with
  | dict kvs => exact (tm_dict hd).elim
  | _ => (walk_at "vfn"; walk_at "vc")
end
end
section
local macro_rules | `(tactic| walk_at "op") => `(tactic| ((with_reducible apply ixD_g); assumption))
local macro_rules | `(tactic| walk_at "bi") => `(tactic| with_reducible exact lenD_g)
local macro_rules | `(tactic| walk_at "bi") => `(tactic| with_reducible exact lenD_n)
local macro_rules | `(tactic| walk_at "cl") => `(tactic| ((with_reducible apply draw_eq) <;> first | omega | assumption))
local macro_rules | `(tactic| walk_at "cl") => `(tactic| ((with_reducible apply dworth_eq) <;> first | omega | assumption))
local macro_rules | `(tactic| walk_at "bi") => `(tactic| first | with_reducible exact lenD_gD _ | with_reducible exact lenD_nD _ | with_reducible exact lenD_nL _ | with_reducible exact gX_at (by assumption))
local macro_rules | `(tactic| walk_at "cq") => `(tactic| ((with_reducible apply moves_of_eq); first | omega | assumption))
local macro_rules | `(tactic| walk_at "cq") => `(tactic| ((with_reducible apply choice_eq) <;> assumption))
local macro_rules | `(tactic| walk_at "cq") => `(tactic| ((with_reducible apply worths_eq) <;> assumption))
local macro_rules | `(tactic| walk_at "bi") => `(tactic| first | ((with_reducible apply wors_ix); assumption) | ((with_reducible apply wors_ixL); assumption))
/-! ### what a side can surely come to, plainly -/
/-- places from which the side h surely comes to an end that is good, in k moves -/
def sur (g : List Pl) (h : Int) (good : Int → Bool) : Nat → Nat → Bool
  | 0, p => match g[p]? with
    | some (.fin w) => good w
    | _ => false
  | k + 1, p => sur g h good k p || match g[p]? with
    | some (.mv s ms) => if s = h then ms.any (sur g h good k) else ms.all (sur g h good k)
    | _ => false
section
variable {g : List Pl} {h : Int} {good : Int → Bool} {p : Nat}
end
/-- in the end -/
def sure (g : List Pl) (h : Int) (good : Int → Bool) (p : Nat) : Bool := sur g h good g.length p
def F0 (g : List Pl) (goal : Int) (p : Nat) : Bool := sure g 0 (fun w => decide (goal ≤ w)) p
def F1 (g : List Pl) (goal : Int) (p : Nat) : Bool := sure g 1 (fun w => decide (w < goal)) p
/-! ### ranks -/
end
section
local macro_rules | `(tactic| walk_at "cq") => `(tactic| with_reducible assumption)
local macro_rules | `(tactic| walk_at "le") => `(tactic| first | omega | (simp only [List.length_cons, List.length_nil, List.length_append, List.length_map, List.length_set, List.length_range, nD_len]; omega) | decide)
local macro_rules | `(tactic| walk_at "sr") => `(tactic| ((repeat (with_reducible apply SetR.s)); with_reducible exact SetR.z))
local macro_rules | `(tactic| walk_at "ha") => `(tactic| first | walk_at "op" | with_reducible exact truO_b | with_reducible exact truO_l | with_reducible exact truO_t | with_reducible exact truO_n | with_reducible exact truO_i | walk_at "at" | walk_at "bi" | walk_at "dg" | with_reducible rfl | rfl)
local macro_rules | `(tactic| walk_at "v") => `(tactic| first
  | with_reducible refine wp_seq ?_
  | ((with_reducible apply wp_eVar); (rfl))
  | with_reducible refine wp_eC ?_
  | with_reducible refine wp_eOp ?_
  | with_reducible refine has_some ?_
  | ((with_reducible apply hasG_nm); (walk_at "sr"))
  | ((with_reducible apply hasG_tp); (rfl); (rfl))
  | with_reducible refine hasG_cons ?_
  | with_reducible refine hasG_nil ?_
  | ((with_reducible apply has_of); (walk_at "ha"))
  | with_reducible refine wp_eCall ?_
  | with_reducible refine wp_vE ?_
  | ((with_reducible apply wp_vR); (rfl))
  | with_reducible refine wp_vNil ?_
  | ((with_reducible apply fok_eq); (walk_at "cq"))
  | with_reducible refine wp_asg ?_
  | with_reducible refine wp_asgG ?_
  | with_reducible refine wp_asgL ?_
  | with_reducible refine wp_if ?_
  | with_reducible refine wp_ret ?_
  | with_reducible refine seqK_ret ?_
  | with_reducible refine retK_ret ?_
  | with_reducible refine wp_bTest ?_
  | with_reducible refine wp_bTru ?_
  | with_reducible refine wp_bNot ?_
  | with_reducible refine wp_eCB ?_
  | with_reducible refine wp_aCons ?_
  | with_reducible refine wp_aNil ?_
  | with_reducible refine wp_eUn ?_
  | with_reducible refine wp_eTup ?_
  | with_reducible refine wp_eL ?_
  | with_reducible refine wp_lLst ?_
  | with_reducible refine wp_eIf ?_
  | with_reducible refine wp_for ?_
  | with_reducible refine wp_iWipe ?_
  | with_reducible refine wp_iSq ?_
  | with_reducible refine wp_iRg1 ?_
  | with_reducible refine wp_iRg2 ?_
  | with_reducible refine wp_keep ?_
  | with_reducible refine wp_pre ?_
  | with_reducible refine wp_next ?_
  | with_reducible refine wp_break ?_
  | with_reducible refine wp_cont ?_
  | with_reducible refine bodyK_nx ?_
  | with_reducible refine bodyK_ct ?_
  | with_reducible refine bodyK_bk ?_
  | with_reducible refine bodyK_ret ?_
  | with_reducible refine seqK_bk ?_
  | with_reducible refine seqK_ct ?_
  | with_reducible refine retK_nx ?_
  | with_reducible refine wp_forNil ?_
  | with_reducible refine wp_eIsN ?_
  | with_reducible refine wp_eNotN ?_
  | with_reducible refine wp_eNot ?_
  | ((with_reducible apply wp_eIxV); (rfl))
  | ((with_reducible apply wp_eLenV); (rfl))
  | ((with_reducible apply wp_eTupleV); (rfl))
  | ((with_reducible apply wp_eSlV); (rfl))
  | with_reducible refine wp_eSl ?_
  | with_reducible refine wp_oNone ?_
  | with_reducible refine wp_oSome ?_
  | with_reducible refine wp_eInV ?_
  | ((with_reducible apply wp_ePopO); (rfl); (walk_at "gt"); (walk_at "sr"))
  | ((with_reducible apply wp_eDget); (exact ⟨_, rfl⟩))
  | ((with_reducible apply wp_eDget2); (exact ⟨_, rfl⟩))
  | with_reducible refine wp_eDin ?_
  | with_reducible refine wp_eDnot ?_
  | ((with_reducible apply wp_eLenD); (rfl))
  | with_reducible refine wp_eIsi ?_
  | with_reducible refine wp_eCallK ?_
  | with_reducible refine wp_eCallD ?_
  | with_reducible refine wp_lList ?_
  | with_reducible refine wp_lListRg ?_
  | with_reducible refine wp_lListRg2 ?_
  | with_reducible refine wp_iEn ?_
  | with_reducible refine wp_iEnA ?_
  | with_reducible refine wp_kSet ?_
  | with_reducible refine wp_kSc ?_
  | with_reducible refine wp_sortS ?_
  | with_reducible refine wp_lenS ?_
  | with_reducible refine wp_lRev ?_
  | with_reducible refine wp_lRep ?_
  | ((with_reducible apply wp_lListV); (rfl))
  | ((with_reducible apply wp_lKeys); (rfl))
  | ((with_reducible apply wp_lVals); (rfl))
  | with_reducible refine wp_vNewD ?_
  | with_reducible refine wp_eMinDef ?_
  | with_reducible refine wp_lLc ?_
  | with_reducible refine wp_bYes ?_
  | ((with_reducible apply wp_bTruV); (rfl))
  | ((with_reducible apply wp_bTruD); (rfl))
  | with_reducible refine wp_bIf ?_
  | with_reducible refine wp_lDnew ?_
  | with_reducible refine wp_lDc ?_
  | with_reducible refine wp_asgC ?_
  | with_reducible refine wp_newL ?_
  | with_reducible refine wp_retN ?_
  | with_reducible refine wp_drop ?_
  | ((with_reducible apply wp_app); (exact ⟨_, rfl⟩))
  | with_reducible refine wp_setI ?_
  | ((with_reducible apply wp_aug); (rfl))
  | ((with_reducible apply wp_frzO); (rfl); (walk_at "sr"))
  | ((with_reducible apply wp_frzD); (rfl))
  | with_reducible refine wp_par ?_
  | with_reducible refine wp_parDL ?_
  | with_reducible refine wp_parLD ?_
  | with_reducible refine wp_parLL ?_
  | with_reducible refine wp_par3 ?_
  | with_reducible refine wp_parCL ?_
  | with_reducible refine wp_lDone ?_
  | ((with_reducible apply wp_lSortK); (rfl))
  | with_reducible refine wp_eIndex ?_
  | ((with_reducible apply wp_eIndexV); (rfl))
  | with_reducible refine wp_eInDV ?_
  | with_reducible refine wp_dput ?_
  | ((with_reducible apply wp_dpop); (exact ⟨_, rfl⟩))
  | with_reducible refine wp_tup2 ?_
  | with_reducible refine wp_tup3 ?_
  | with_reducible refine wp_tup4 ?_
  | with_reducible refine wp_uNil ?_
  | with_reducible refine wp_uD ?_
  | with_reducible refine wp_uL ?_
  | with_reducible refine wp_uC ?_
  | with_reducible refine wp_vLam ?_
  | ((with_reducible apply wp_vFn); (rfl))
  | ((with_reducible apply wp_eCallF); (rfl))
  | ((with_reducible apply wp_retD); (rfl))
  | with_reducible refine wp_callDg ?_
  | with_reducible refine wp_sortBy ?_
  | ((with_reducible apply ex_one); (rfl))
  | with_reducible refine wp_eChain ?_
  | ((with_reducible refine wp_bAnd ?_); (repeat walk_at "v"); walk_at "br")
  | ((with_reducible refine wp_bOr ?_); (repeat walk_at "v"); walk_at "br")
  | ((with_reducible refine wp_eAnd ?_); (repeat walk_at "v"); walk_at "br")
  | ((with_reducible refine wp_eOr ?_); (repeat walk_at "v"); walk_at "br")
  | with_reducible refine wp_bAndB ?_
  | with_reducible refine wp_bOrB ?_
  | with_reducible refine wp_eAndB ?_
  | with_reducible refine wp_eOrB ?_
  | walk_at "xx")
local macro_rules | `(tactic| walk_at "nk") => `(tactic| ((repeat walk_at "v"); first | exact ⟨rfl, rfl, rfl⟩ | exact ⟨rfl, rfl, by walk_at "op"⟩))
local macro_rules | `(tactic| walk_at "lt2") => `(tactic| first | omega | exact ⟨by omega, by omega⟩ | (simp only [List.length_cons, List.length_nil, List.length_append, List.length_map, List.length_set, nD_len]; omega))
local macro_rules | `(tactic| walk_at "ky") => `(tactic| first | with_reducible exact keyO_i | with_reducible exact keyO_s | rfl)
local macro_rules | `(tactic| walk_at "xx") => `(tactic| first
  | ((with_reducible apply ex_set); (walk_at "sr"))
  | with_reducible refine ex_bool ?_
  | with_reducible refine ex_dat ?_
  | ((with_reducible apply ex_rng); omega)
  | ((with_reducible apply ex_rep); omega; (walk_at "le"))
  | ((with_reducible apply ex_rng2); omega; omega)
  | with_reducible refine ex_int ?_
  | with_reducible refine ex_list ?_
  | ((with_reducible apply and_le); (walk_at "le"))
  | ((with_reducible apply and_bk); (rfl))
  | ((with_reducible apply ex_ix); (rfl))
  | ((with_reducible apply ex_key); (rfl); (walk_at "ky"))
  | ((with_reducible apply ex_app); (rfl); (walk_at "le"); (walk_at "sr"))
  | ((with_reducible apply ex_own); (rfl))
  | ((with_reducible apply ex_dct); (rfl))
  | ((with_reducible apply ex_setI); (rfl); (walk_at "lt2"); (walk_at "sr"))
  | ((with_reducible apply ex_dput); (rfl); (walk_at "ky"); (walk_at "lt2"); (walk_at "sr"))
  | ((with_reducible apply ex_dpop); (rfl); (walk_at "ky"); (walk_at "gt"); (walk_at "sr"))
  | ((with_reducible apply ex_par); (walk_at "sr"); (walk_at "sr"))
  | ((with_reducible apply ex_par3); (walk_at "sr"); (walk_at "sr"); (walk_at "sr"))
  | ((with_reducible apply ex_tup2); (walk_at "sr"); (walk_at "sr"))
  | ((with_reducible apply ex_tup3); (walk_at "sr"); (walk_at "sr"); (walk_at "sr"))
  | ((with_reducible apply ex_tup4); (walk_at "sr"); (walk_at "sr"); (walk_at "sr"); (walk_at "sr"))
  | ((with_reducible apply ex_kit); (walk_at "ki"))
  | with_reducible refine ex_zipT ?_
  | with_reducible refine ex_zipL ?_
  | ((with_reducible apply ex_chain); (walk_at "op"); (intro _; walk_at "nk"))
  | ((with_reducible apply ex_and2); (intro _; walk_at "nk"))
  | ((with_reducible apply ex_and1); (intro _; walk_at "nk"))
  | ((with_reducible apply ex_ls); (rfl)))
local macro_rules | `(tactic| walk_at "br") => `(tactic| first | ((with_reducible apply br_T); (walk_at "tr")) | ((with_reducible apply br_F); (walk_at "tr")))
local macro_rules | `(tactic| walk_at "vfn") => `(tactic| refine fok_fn (by (simp only [List.length_cons, List.length_nil, Nat.reduceAdd, Nat.reduceSub, List.replicate_succ, List.replicate_zero, List.cons_append, List.nil_append]; try rfl)) ?_)
local macro_rules | `(tactic| walk_at "vc") => `(tactic| repeat (first | walk_at "v" | with_reducible refine seqK_nx ?_ | walk_at "br" | with_reducible exact ⟨rfl, rfl, rfl⟩ | with_reducible exact ⟨rfl, rfl⟩))
local macro_rules | `(tactic| walk_at "wi") => `(tactic| (simp only [wipeV, List.set_cons_succ, List.set_cons_zero]; try rfl))
local macro_rules | `(tactic| walk_at "vs") => `(tactic| ((try with_reducible refine wp_seq ?_); (repeat (first | walk_at "v" | walk_at "br")); (try with_reducible refine seqK_nx ?_)))

section
local macro_rules | `(tactic| walk_at "op") => `(tactic| ((with_reducible apply ixD_g); assumption))
local macro_rules | `(tactic| walk_at "bi") => `(tactic| with_reducible exact lenD_g)
local macro_rules | `(tactic| walk_at "bi") => `(tactic| with_reducible exact lenD_n)
local macro_rules | `(tactic| walk_at "cl") => `(tactic| ((with_reducible apply draw_eq) <;> first | omega | assumption))
local macro_rules | `(tactic| walk_at "cl") => `(tactic| ((with_reducible apply dworth_eq) <;> first | omega | assumption))
local macro_rules | `(tactic| walk_at "bi") => `(tactic| first | with_reducible exact lenD_gD _ | with_reducible exact lenD_nD _ | with_reducible exact lenD_nL _ | with_reducible exact gX_at (by assumption))
local macro_rules | `(tactic| walk_at "cq") => `(tactic| ((with_reducible apply moves_of_eq); first | omega | assumption))
local macro_rules | `(tactic| walk_at "cq") => `(tactic| ((with_reducible apply choice_eq) <;> assumption))
local macro_rules | `(tactic| walk_at "cq") => `(tactic| ((with_reducible apply worths_eq) <;> assumption))
local macro_rules | `(tactic| walk_at "bi") => `(tactic| first | ((with_reducible apply wors_ix); assumption) | ((with_reducible apply wors_ixL); assumption))
/-! ### enumerated games -/
local macro_rules | `(tactic| walk_at "bi") => `(tactic| with_reducible rfl)
/-! ### sides exchanged -/
def turnP : Pl → Pl
  | .fin w => .fin (-w)
  | .mv s ms => .mv (1 - s) ms
noncomputable def m_turned : X :=
  (xRet (eCB tupleD (aCons (eL (lLc [1, 2] (iSq (eVar 0)) (gTp 2 (gsCons (gNm 1) (gsCons (gNm 2) gsNil))) bYes (eIf (bTest (eOp eqD (eVar 1) (eC (.str "end")))) (eTup (aCons (eC (.str "end")) (aCons (eUn negD (eVar 2)) aNil))) (eTup (aCons (eOp subD (eC (.int 1)) (eVar 1)) (aCons (eVar 2) aNil)))))) aNil)))
noncomputable def f_turned : FS := fnS 3 (m_turned )

theorem turned_eq {g : List Pl} (hl : g.length ≤ 1000) (st : Sg) : f_turned [.dat (gD g)] st = some (.dat (gD (g.map turnP)), st) := by
  unfold f_turned m_turned
  refine fok_is ?_
  walk_at "vfn"
  walk_at "vc"
  refine lcw_map (xs := g) Pl.d (fun x => (turnP x).d) (by rfl) (by rfl) (by omega) (by walk_at "wi") (fun x hx => ?_) ?_
  · cases x with
    | fin w => walk_at "vc"
    | mv s ms => walk_at "vc"
  · walk_at "vc"
    unfold gD
    rw [List.map_map]
    exact ⟨rfl, rfl⟩
local macro_rules | `(tactic| walk_at "cq") => `(tactic| ((with_reducible apply turned_eq); omega))
theorem turnP_good {g : List Pl} (hg : Good g) : Good (g.map turnP) := by
  refine ⟨fun p x h => ?_, by rw [List.length_map]; exact hg.len⟩
  rw [List.getElem?_map] at h
  cases hx : g[p]? with
  | none => rw [hx] at h; cases h
  | some y =>
    rw [hx] at h
    cases h
    have := hg.ok p y hx
    rw [List.length_map]
    cases y with
    | fin w =>
      obtain ⟨h1, h2⟩ := this
      exact ⟨by omega, by omega⟩
    | mv s ms =>
      obtain ⟨h1, h2, h3, h4, h5⟩ := this
      exact ⟨by omega, h2, h3, h4, h5⟩
/-! ### forced -/
local macro_rules | `(tactic| walk_at "cq") => `(tactic| ((with_reducible apply forced_eq); assumption))
local macro_rules | `(tactic| walk_at "bi") => `(tactic| first | ((with_reducible apply rks_ix); assumption) | ((with_reducible apply rks_ixL); assumption))
/-! ### ranks, move by move -/
/-! ### plans -/
end
section
local macro_rules | `(tactic| walk_at "op") => `(tactic| ((with_reducible apply ixD_g); assumption))
local macro_rules | `(tactic| walk_at "bi") => `(tactic| with_reducible exact lenD_g)
local macro_rules | `(tactic| walk_at "bi") => `(tactic| with_reducible exact lenD_n)
local macro_rules | `(tactic| walk_at "cl") => `(tactic| ((with_reducible apply draw_eq) <;> first | omega | assumption))
local macro_rules | `(tactic| walk_at "cl") => `(tactic| ((with_reducible apply dworth_eq) <;> first | omega | assumption))
local macro_rules | `(tactic| walk_at "bi") => `(tactic| first | with_reducible exact lenD_gD _ | with_reducible exact lenD_nD _ | with_reducible exact lenD_nL _ | with_reducible exact gX_at (by assumption))
local macro_rules | `(tactic| walk_at "cq") => `(tactic| ((with_reducible apply moves_of_eq); first | omega | assumption))
local macro_rules | `(tactic| walk_at "cq") => `(tactic| ((with_reducible apply choice_eq) <;> assumption))
local macro_rules | `(tactic| walk_at "cq") => `(tactic| ((with_reducible apply worths_eq) <;> assumption))
local macro_rules | `(tactic| walk_at "bi") => `(tactic| first | ((with_reducible apply wors_ix); assumption) | ((with_reducible apply wors_ixL); assumption))
local macro_rules | `(tactic| walk_at "bi") => `(tactic| with_reducible rfl)
local macro_rules | `(tactic| walk_at "cq") => `(tactic| ((with_reducible apply turned_eq); omega))
local macro_rules | `(tactic| walk_at "cq") => `(tactic| ((with_reducible apply forced_eq); assumption))
local macro_rules | `(tactic| walk_at "bi") => `(tactic| first | ((with_reducible apply rks_ix); assumption) | ((with_reducible apply rks_ixL); assumption))
/-! ### sides exchanged: what is sure -/
theorem turn_get {g : List Pl} {p : Nat} : (g.map turnP)[p]? = (g[p]?).map turnP := List.getElem?_map
/-! ### endless plays, plainly -/
/-- what endless play is worth -/
structure EndW (g : List Pl) (again : Int) (p : Nat) (e : Int) : Prop where
  up : ∀ goal, again < goal → (goal ≤ e ↔ F0 g goal p = true)
  dn : ∀ goal, goal ≤ again → (e < goal ↔ F1 g goal p = true)
/-! ### endless -/
end
section
local macro_rules | `(tactic| walk_at "op") => `(tactic| ((with_reducible apply ixD_g); assumption))
local macro_rules | `(tactic| walk_at "bi") => `(tactic| with_reducible exact lenD_g)
local macro_rules | `(tactic| walk_at "bi") => `(tactic| with_reducible exact lenD_n)
local macro_rules | `(tactic| walk_at "cl") => `(tactic| ((with_reducible apply draw_eq) <;> first | omega | assumption))
local macro_rules | `(tactic| walk_at "cl") => `(tactic| ((with_reducible apply dworth_eq) <;> first | omega | assumption))
local macro_rules | `(tactic| walk_at "bi") => `(tactic| first | with_reducible exact lenD_gD _ | with_reducible exact lenD_nD _ | with_reducible exact lenD_nL _ | with_reducible exact gX_at (by assumption))
local macro_rules | `(tactic| walk_at "cq") => `(tactic| ((with_reducible apply moves_of_eq); first | omega | assumption))
local macro_rules | `(tactic| walk_at "cq") => `(tactic| ((with_reducible apply choice_eq) <;> assumption))
local macro_rules | `(tactic| walk_at "cq") => `(tactic| ((with_reducible apply worths_eq) <;> assumption))
local macro_rules | `(tactic| walk_at "bi") => `(tactic| first | ((with_reducible apply wors_ix); assumption) | ((with_reducible apply wors_ixL); assumption))
local macro_rules | `(tactic| walk_at "bi") => `(tactic| with_reducible rfl)
local macro_rules | `(tactic| walk_at "cq") => `(tactic| ((with_reducible apply turned_eq); omega))
local macro_rules | `(tactic| walk_at "cq") => `(tactic| ((with_reducible apply forced_eq); assumption))
local macro_rules | `(tactic| walk_at "bi") => `(tactic| first | ((with_reducible apply rks_ix); assumption) | ((with_reducible apply rks_ixL); assumption))
/-! ### papers: any things -/
noncomputable def m_is_paper (F_is_whole F_is_paper : FS) : X :=
  (xSeq (xAsgG (gTp 2 (gsCons (gNm 4) (gsCons (gNm 5) gsNil))) (eOp ixD (eVar 0) (eVar 1)))
  (xSeq (xIf (bNot (bTru (eIsi "tuple" (eVar 3))))
    (xRet (eC (.bool false)))
    xNext)
  (xSeq (xIf (bTest (eOp eqD (eVar 4) (eC (.str "end"))))
    (xRet (eAnd (eOp eqD (eVar 3) (eTup aNil)) (eOp geD (eVar 5) (eVar 2))))
    xNext)
  (xSeq (xIf (bTest (eOp eqD (eVar 4) (eC (.int 0))))
    (xSeq (xIf (bOr (bTest (eOp neD (eCB lenD (aCons (eVar 3) aNil)) (eC (.int 2)))) (bOr (bNot (bTru (eCall F_is_whole (vCons (vE (eOp ixD (eVar 3) (eC (.int 0)))) vNil)))) (bTest (eOp (inFD true) (eOp ixD (eVar 3) (eC (.int 0))) (eVar 5)))))
      (xRet (eC (.bool false)))
      xNext)
    (xRet (eCall F_is_paper (vCons (vE (eVar 0)) (vCons (vE (eOp ixD (eVar 3) (eC (.int 0)))) (vCons (vE (eVar 2)) (vCons (vE (eOp ixD (eVar 3) (eC (.int 1)))) vNil)))))))
    xNext)
  (xRet (eAnd (eOp eqD (eCB lenD (aCons (eVar 3) aNil)) (eCB lenD (aCons (eVar 5) aNil))) (eCB allD (aCons (eL (lLc [6, 7] (iZp (eVar 5) (eVar 3)) (gTp 2 (gsCons (gNm 6) (gsCons (gNm 7) gsNil))) bYes (eCall F_is_paper (vCons (vE (eVar 0)) (vCons (vE (eVar 6)) (vCons (vE (eVar 2)) (vCons (vE (eVar 7)) vNil))))))) aNil))))))))
noncomputable def r_is_paper : Nat → FS
  | 0 => fun _ _ => none
  | n + 1 => fnS 8 (m_is_paper f_is_whole (r_is_paper n))
noncomputable def f_is_paper : FS := r_is_paper 40

noncomputable def m_is_paper_against (F_is_paper F_turned : FS) : X :=
  (xRet (eCall F_is_paper (vCons (vE (eCall F_turned (vCons (vE (eVar 0)) vNil))) (vCons (vE (eVar 1)) (vCons (vE (eOp subD (eC (.int 1)) (eVar 2))) (vCons (vE (eVar 3)) vNil))))))
noncomputable def f_is_paper_against : FS := fnS 4 (m_is_paper_against f_is_paper f_turned)

noncomputable def m_l_is_paper (F_l_is_paper : FS) : X :=
  (xSeq (xAsgG (gTp 2 (gsCons (gNm 5) (gsCons (gNm 6) gsNil))) (eOp ixD (eVar 0) (eVar 1)))
  (xSeq (xIf (bNot (bTru (eIsi "tuple" (eVar 3))))
    (xRet (eC (.bool false)))
    xNext)
  (xSeq (xIf (bTest (eOp eqD (eVar 5) (eC (.str "end"))))
    (xRet (eAnd (eOp eqD (eVar 3) (eTup aNil)) (eIf (bTest (eOp eqD (eVar 4) (eC (.int 0)))) (eOp geD (eVar 6) (eVar 2)) (eOp ltD (eVar 6) (eVar 2)))))
    xNext)
  (xSeq (xIf (bTest (eOp eqD (eVar 5) (eVar 4)))
    (xSeq (xIf (bOr (bTest (eOp neD (eCB lenD (aCons (eVar 3) aNil)) (eC (.int 2)))) (bOr (bNot (bTru (eIsi "int" (eOp ixD (eVar 3) (eC (.int 0)))))) (bOr (bTru (eIsi "bool" (eOp ixD (eVar 3) (eC (.int 0))))) (bTest (eOp (inFD true) (eOp ixD (eVar 3) (eC (.int 0))) (eL (lList (eVar 6))))))))
      (xRet (eC (.bool false)))
      xNext)
    (xRet (eCall F_l_is_paper (vCons (vE (eVar 0)) (vCons (vE (eOp ixD (eVar 3) (eC (.int 0)))) (vCons (vE (eVar 2)) (vCons (vE (eOp ixD (eVar 3) (eC (.int 1)))) (vCons (vE (eVar 4)) vNil))))))))
    xNext)
  (xSeq (xIf (bTest (eOp neD (eCB lenD (aCons (eVar 3) aNil)) (eCB lenD (aCons (eVar 6) aNil))))
    (xRet (eC (.bool false)))
    xNext)
  (xRet (eOp eqD (eL (lLc [7, 8] (iZp (eVar 6) (eVar 3)) (gTp 2 (gsCons (gNm 7) (gsCons (gNm 8) gsNil))) (bNot (bTru (eCall F_l_is_paper (vCons (vE (eVar 0)) (vCons (vE (eVar 7)) (vCons (vE (eVar 2)) (vCons (vE (eVar 8)) (vCons (vE (eVar 4)) vNil)))))))) (eC (.int 1)))) (eL (lLst aNil)))))))))
noncomputable def r_l_is_paper : Nat → FS
  | 0 => fun _ _ => none
  | n + 1 => fnS 9 (m_l_is_paper (r_l_is_paper n))
noncomputable def f_l_is_paper : FS := r_l_is_paper 40

local macro_rules | `(tactic| walk_at "xx") => `(tactic| with_reducible refine wp_iZpT ?_)
def inB (ms : List Nat) : PyData → Bool
  | .int m => ms.any fun x => decide ((x : Int) = m)
  | _ => false
def gdB (hand goal w : Int) : Bool := if hand = 0 then decide (goal ≤ w) else decide (w < goal)
def isPp (g : List Pl) (goal hand : Int) : Nat → Nat → PyData → Bool
  | k + 1, p, .tuple ds => match g[p]? with
    | some (.fin w) => ds.isEmpty && gdB hand goal w
    | some (.mv s ms) => if s = hand then (match ds with
        | [a, t] => inB ms a && isPp g goal hand k (ofI a).toNat t
        | _ => false)
      else decide (ds.length = ms.length) && (ms.zip ds).all fun q => isPp g goal hand k q.1 q.2
    | none => false
  | _, _, _ => false
theorem isPp_no {g : List Pl} {goal hand : Int} (k p : Nat) {d : PyData} (h : ∀ ds, d ≠ .tuple ds) : isPp g goal hand k p d = false := by
  cases d with
  | tuple ds => exact absurd rfl (h ds)
  | _ => cases k <;> rfl
theorem isPp_t {g : List Pl} {goal hand : Int} {k p : Nat} {ds : List PyData} : isPp g goal hand (k + 1) p (.tuple ds) = match g[p]? with
    | some (.fin w) => ds.isEmpty && gdB hand goal w
    | some (.mv s ms) => if s = hand then (match ds with
        | [a, t] => inB ms a && isPp g goal hand k (ofI a).toNat t
        | _ => false)
      else decide (ds.length = ms.length) && (ms.zip ds).all fun q => isPp g goal hand k q.1 q.2
    | none => false := by rw [isPp]
theorem in_anyI (m : Int) (ms : List Nat) : inF (.int m) (nD ms) = inB ms (.int m) := by
  unfold inF nD inB
  rw [List.any_map]
  refine congrArg (fun f => ms.any f) (funext fun x => ?_)
  show decide ((x : Int) = m) = _
  rfl
theorem notinT (m : Int) (ms : List Nat) : inFD true (.int m) (.tuple (nD ms)) = some (.bool (!inB ms (.int m))) := by
  show (if (nD ms).all flatD = true then some (PyData.bool (if true = true then !inF (.int m) (nD ms) else inF (.int m) (nD ms))) else none) = _
  rw [if_pos (flat_nD ms), if_pos rfl, in_anyI]
theorem notinL (m : Int) (ms : List Nat) : inFD true (.int m) (.list (nD ms)) = some (.bool (!inB ms (.int m))) := by
  show (if (nD ms).all flatD = true then some (PyData.bool (if true = true then !inF (.int m) (nD ms) else inF (.int m) (nD ms))) else none) = _
  rw [if_pos (flat_nD ms), if_pos rfl, in_anyI]
theorem inB_some {m : Int} {ms : List Nat} (h : inB ms (.int m) = true) : ∃ x ∈ ms, m = (x : Int) := by
  obtain ⟨x, hx, e⟩ := List.any_eq_true.mp h
  exact ⟨x, hx, (of_decide_eq_true e).symm⟩
theorem zip_any : ∀ {ms : List Nat} {ds : List PyData}, zipD (nD ms) ds = (ms.zip ds).map fun q => .tuple [.int (q.1 : Nat), q.2]
  | [], ds => by cases ds <;> rfl
  | m :: r, [] => rfl
  | m :: r, d :: ds => by
    have := zip_any (ms := r) (ds := ds)
    unfold zipD nD at this ⊢
    simp only [List.map_cons, List.zipWith_cons_cons, List.zip_cons_cons]
    rw [this]
theorem onesA (xs : List (Nat × PyData)) : eqD (.list (xs.map fun _ => PyData.int 1)) (.list []) = some (.bool xs.isEmpty) := by
  have h : shN 1 (.list (xs.map fun _ => PyData.int 1)) = true := sh_lst fun d hd => by
    obtain ⟨_, _, rfl⟩ := List.mem_map.mp hd
    exact sh_int 0 1
  rw [eqD_sh (sh_shaped h (by omega)) (sh_shaped (k := 1) rfl (by omega))]
  cases xs with
  | nil => rfl
  | cons a r => rfl
set_option maxHeartbeats 4000000 in
theorem paper_any {g : List Pl} (hg : Good g) {goal : Int} (st : Sg) : ∀ (n k p : Nat) (d : PyData), k < n → k ≤ 50 → p < g.length → tmN k d = true → r_is_paper n [.dat (gD g), .dat (.int (p : Int)), .dat (.int goal), .dat d] st = some (.dat (.bool (isPp g goal 0 k p d)), st)
  | 0, k, p, d, h, _, _, _ => absurd h (Nat.not_lt_zero _)
  | n + 1, k, p, d, h, hk, hp, htm => by
    have hx : g[p]? = some g[p] := List.getElem?_eq_getElem hp
    generalize g[p] = x at hx
    have hdx := ixD_g hx
    unfold r_is_paper m_is_paper
    refine fok_is ?_
    cases d with
    | dict kvs => exact (tm_dict htm).elim
    | tuple ds =>
      cases k with
      | zero => simp [tmN] at htm
      | succ k =>
        have hemp := eqT_emp htm (by omega)
        obtain ⟨hl, hds⟩ := tm_tup.mp htm
        rw [isPp_t, hx]
        cases x with
        | fin w =>
          cases ds with
          | nil =>
            walk_at "vfn"
            walk_at "vc"
          | cons a r =>
            walk_at "vfn"
            walk_at "vc"
        | mv s ms =>
          obtain ⟨q1, q2, q3, q4, q5⟩ := hg.ok p _ hx
          rcases q1 with rfl | rfl
          · simp only [if_true]
            match ds, hl, hds, hemp with
            | [], _, _, _ => (walk_at "vfn"; walk_at "vc")
            | [a], _, _, _ => (walk_at "vfn"; walk_at "vc")
            | a :: b :: c :: r, _, _, _ =>
              have hb : (!decide (((a :: b :: c :: r).length : Int) = 2)) = true := by
                rw [decide_eq_false (by simp only [List.length_cons]; omega)]; rfl
              walk_at "vfn"
              walk_at "vc"
            | [a, t], _, hds, _ =>
              have hw := whole_eq (hds a (by simp)) st
              cases a with
              | int m =>
                have hni := notinT m ms
                cases hin : inB ms (.int m) with
                | false =>
                  rw [hin] at hni
                  walk_at "vfn"
                  walk_at "vc"
                  refine ⟨?_, rfl⟩
                  show Vl.dat (.bool false) = Vl.dat (.bool (inB ms (.int m) && _))
                  rw [hin]
                  rfl
                | true =>
                  obtain ⟨y, hy, rfl⟩ := inB_some hin
                  rw [hin] at hni
                  have ih := paper_any hg (goal := goal) st n k y t (by omega) (by omega) (q4 y hy) (hds t (by simp))
                  walk_at "vfn"
                  walk_at "vc"
                  refine ⟨?_, rfl⟩
                  show Vl.dat (.bool (isPp g goal 0 k y t)) = Vl.dat (.bool (inB ms (.int (y : Int)) && isPp g goal 0 k ((y : Int)).toNat t))
                  rw [hin, Int.toNat_natCast]
                  rfl
              | dict kvs => exact (tm_dict (hds (.dict kvs) List.mem_cons_self)).elim
              | _ => (walk_at "vfn"; walk_at "vc")
          · simp only [show ¬ ((1 : Int) = 0) by decide, if_false]
            have hdec : decide ((ds.length : Int) = (ms.length : Nat)) = decide (ds.length = ms.length) := decide_eq_decide.mpr (by omega)
            walk_at "vfn"
            walk_at "vc"
            refine ⟨_, (ms.zip ds).all (fun q => isPp g goal 0 k q.1 q.2), rfl, fun hle => ?_, ?_⟩
            · walk_at "vc"
              refine lcw_map (xs := ms.zip ds) (fun q => .tuple [.int (q.1 : Nat), q.2]) (fun q => .bool (isPp g goal 0 k q.1 q.2)) zip_any (by rfl) (by rw [List.length_zip]; omega) (by walk_at "wi") (fun q hq => ?_) ?_
              · obtain ⟨a, t⟩ := q
                obtain ⟨h1, h2⟩ := List.of_mem_zip hq
                have ih := paper_any hg (goal := goal) st n k a t (by omega) (by omega) (q4 _ h1) (hds _ h2)
                walk_at "vc"
              · have e1 : (ms.zip ds).map (fun q => PyData.bool (isPp g goal 0 k q.1 q.2)) = ((ms.zip ds).map fun q => isPp g goal 0 k q.1 q.2).map PyData.bool := by rw [List.map_map]; rfl
                have hall := allD_b (ns := (ms.zip ds).map fun q => isPp g goal 0 k q.1 q.2)
                rw [List.all_map, show (id ∘ fun q : Nat × PyData => isPp g goal 0 k q.1 q.2) = (fun q => isPp g goal 0 k q.1 q.2) from rfl] at hall
                rw [e1]
                walk_at "vc"
            · rw [hdec]
              walk_at "vc"
    | _ => (rw [isPp_no k p (by intro ds; simp)]; walk_at "vfn"; cases x <;> walk_at "vc")
set_option maxHeartbeats 4000000 in
theorem l_paper_any {g : List Pl} (hg : Good g) {goal hand : Int} (hh : hand = 0 ∨ hand = 1) (st : Sg) : ∀ (n k p : Nat) (d : PyData), k < n → k ≤ 50 → p < g.length → tmN k d = true → r_l_is_paper n [.dat (gD g), .dat (.int (p : Int)), .dat (.int goal), .dat d, .dat (.int hand)] st = some (.dat (.bool (isPp g goal hand k p d)), st)
  | 0, k, p, d, h, _, _, _ => absurd h (Nat.not_lt_zero _)
  | n + 1, k, p, d, h, hk, hp, htm => by
    have hx : g[p]? = some g[p] := List.getElem?_eq_getElem hp
    generalize g[p] = x at hx
    have hdx := ixD_g hx
    unfold r_l_is_paper m_l_is_paper
    refine fok_is ?_
    cases d with
    | dict kvs => exact (tm_dict htm).elim
    | tuple ds =>
      cases k with
      | zero => simp [tmN] at htm
      | succ k =>
        have hemp := eqT_emp htm (by omega)
        obtain ⟨hl, hds⟩ := tm_tup.mp htm
        rw [isPp_t, hx]
        cases x with
        | fin w =>
          rcases hh with rfl | rfl
          · cases ds with
            | nil => (walk_at "vfn"; walk_at "vc")
            | cons a r => (walk_at "vfn"; walk_at "vc")
          · cases ds with
            | nil => (walk_at "vfn"; walk_at "vc")
            | cons a r => (walk_at "vfn"; walk_at "vc")
        | mv s ms =>
          obtain ⟨q1, q2, q3, q4, q5⟩ := hg.ok p _ hx
          by_cases hs : s = hand
          · subst hs
            simp only [if_true]
            match ds, hl, hds, hemp with
            | [], _, _, _ => (rcases q1 with rfl | rfl <;> (walk_at "vfn"; walk_at "vc"))
            | [a], _, _, _ => (rcases q1 with rfl | rfl <;> (walk_at "vfn"; walk_at "vc"))
            | a :: b :: c :: r, _, _, _ =>
              have hb : (!decide (((a :: b :: c :: r).length : Int) = 2)) = true := by
                rw [decide_eq_false (by simp only [List.length_cons]; omega)]; rfl
              rcases q1 with rfl | rfl <;> (walk_at "vfn"; walk_at "vc")
            | [a, t], _, hds, _ =>
              cases a with
              | int m =>
                have hni := notinL m ms
                cases hin : inB ms (.int m) with
                | false =>
                  rw [hin] at hni
                  rcases q1 with rfl | rfl
                  · walk_at "vfn"
                    walk_at "vc"
                    refine ⟨?_, rfl⟩
                    show Vl.dat (.bool false) = Vl.dat (.bool (inB ms (.int m) && _))
                    rw [hin]
                    rfl
                  · walk_at "vfn"
                    walk_at "vc"
                    refine ⟨?_, rfl⟩
                    show Vl.dat (.bool false) = Vl.dat (.bool (inB ms (.int m) && _))
                    rw [hin]
                    rfl
                | true =>
                  obtain ⟨y, hy, rfl⟩ := inB_some hin
                  rw [hin] at hni
                  have ih := l_paper_any hg (goal := goal) q1 st n k y t (by omega) (by omega) (q4 y hy) (hds t (by simp))
                  rcases q1 with rfl | rfl
                  · walk_at "vfn"
                    walk_at "vc"
                    refine ⟨?_, rfl⟩
                    show Vl.dat (.bool (isPp g goal 0 k y t)) = Vl.dat (.bool (inB ms (.int (y : Int)) && isPp g goal 0 k ((y : Int)).toNat t))
                    rw [hin, Int.toNat_natCast]
                    rfl
                  · walk_at "vfn"
                    walk_at "vc"
                    refine ⟨?_, rfl⟩
                    show Vl.dat (.bool (isPp g goal 1 k y t)) = Vl.dat (.bool (inB ms (.int (y : Int)) && isPp g goal 1 k ((y : Int)).toNat t))
                    rw [hin, Int.toNat_natCast]
                    rfl
              | dict kvs => exact (tm_dict (hds (.dict kvs) List.mem_cons_self)).elim
              | _ => (rcases q1 with rfl | rfl <;> (walk_at "vfn"; walk_at "vc"))
          · simp only [hs, if_false]
            have hb : decide (s = hand) = false := decide_eq_false hs
            have hdec : decide ((ds.length : Int) = (ms.length : Nat)) = decide (ds.length = ms.length) := decide_eq_decide.mpr (by omega)
            by_cases hle : ds.length = ms.length
            · have hd1 : (!decide ((ds.length : Int) = (ms.length : Nat))) = false := by rw [hdec, decide_eq_true hle]; rfl
              rw [decide_eq_true hle, Bool.true_and]
              walk_at "vfn"
              walk_at "vc"
              refine lcw_pure (xs := ms.zip ds) (fun q => .tuple [.int (q.1 : Nat), q.2]) (fun q => !isPp g goal hand k q.1 q.2) (fun q => .int 1) zip_any (by rfl) (by rw [List.length_zip]; omega) (by walk_at "wi") (fun q hq => ?_) ?_
              · obtain ⟨a, t⟩ := q
                obtain ⟨h1, h2⟩ := List.of_mem_zip hq
                have ih := l_paper_any hg (goal := goal) hh st n k a t (by omega) (by omega) (q4 _ h1) (hds _ h2)
                walk_at "vc"
                exact ⟨⟨rfl, rfl, rfl⟩, fun _ => by walk_at "vc"⟩
              · have ho := onesA ((ms.zip ds).filter fun q => !isPp g goal hand k q.1 q.2)
                have e1 : ((ms.zip ds).filter fun q => !isPp g goal hand k q.1 q.2).isEmpty = (ms.zip ds).all fun q => isPp g goal hand k q.1 q.2 := by
                  generalize ms.zip ds = L
                  induction L with
                  | nil => rfl
                  | cons a r ih =>
                    rw [List.filter_cons, List.all_cons]
                    cases isPp g goal hand k a.1 a.2 with
                    | true => simpa using ih
                    | false => rfl
                rw [e1] at ho
                walk_at "vc"
            · have hd1 : (!decide ((ds.length : Int) = (ms.length : Nat))) = true := by rw [hdec, decide_eq_false hle]; rfl
              rw [decide_eq_false hle, Bool.false_and]
              walk_at "vfn"
              walk_at "vc"
    | _ => (rw [isPp_no k p (by intro ds; simp)]; walk_at "vfn"; cases x <;> walk_at "vc")
theorem isPp_turn {g : List Pl} (hg : Good g) {goal : Int} : ∀ (k p : Nat) (d : PyData), isPp (g.map turnP) (1 - goal) 0 k p d = isPp g goal 1 k p d
  | 0, p, d => by rw [isPp, isPp] <;> simp
  | k + 1, p, d => by
    cases d with
    | tuple ds =>
      rw [isPp_t, isPp_t, turn_get]
      cases hx : g[p]? with
      | none => rfl
      | some x =>
        cases x with
        | fin w =>
          show (ds.isEmpty && gdB 0 (1 - goal) (-w)) = (ds.isEmpty && gdB 1 goal w)
          congr 1
          show decide (1 - goal ≤ -w) = decide (w < goal)
          exact decide_eq_decide.mpr (by omega)
        | mv s ms =>
          obtain ⟨q1, q2, q3, q4, q5⟩ := hg.ok p _ hx
          have ih := fun p d => isPp_turn hg (goal := goal) k p d
          rcases q1 with rfl | rfl
          · show (if (1 - 0 : Int) = 0 then _ else (decide (ds.length = ms.length) && (ms.zip ds).all fun q => isPp (g.map turnP) (1 - goal) 0 k q.1 q.2)) = if (0 : Int) = 1 then _ else _
            rw [if_neg (by decide), if_neg (by decide)]
            simp only [ih]
          · show (if (1 - 1 : Int) = 0 then (match ds with
              | [a, t] => inB ms a && isPp (g.map turnP) (1 - goal) 0 k (ofI a).toNat t
              | _ => false) else _) = if (1 : Int) = 1 then _ else _
            rw [if_pos (by decide), if_pos rfl]
            simp only [ih]
    | _ => rw [isPp_no _ _ (by intro ds; simp), isPp_no _ _ (by intro ds; simp)]
theorem is_paper_any {g : List Pl} (hg : Good g) {goal : Int} (st : Sg) {p : Nat} {d : PyData} (hp : p < g.length) (ht : tmN 30 d = true) : f_is_paper [.dat (gD g), .dat (.int (p : Int)), .dat (.int goal), .dat d] st = some (.dat (.bool (isPp g goal 0 30 p d)), st) := paper_any hg st 40 30 p d (by omega) (by omega) hp ht
theorem l_is_paper_any {g : List Pl} (hg : Good g) {goal hand : Int} (hh : hand = 0 ∨ hand = 1) (st : Sg) {p : Nat} {d : PyData} (hp : p < g.length) (ht : tmN 30 d = true) : f_l_is_paper [.dat (gD g), .dat (.int (p : Int)), .dat (.int goal), .dat d, .dat (.int hand)] st = some (.dat (.bool (isPp g goal hand 30 p d)), st) := l_paper_any hg hh st 40 30 p d (by omega) (by omega) hp ht
theorem is_paper_against_any {g : List Pl} (hg : Good g) {goal : Int} (st : Sg) {p : Nat} {d : PyData} (hp : p < g.length) (ht : tmN 30 d = true) : f_is_paper_against [.dat (gD g), .dat (.int (p : Int)), .dat (.int goal), .dat d] st = some (.dat (.bool (isPp g goal 1 30 p d)), st) := by
  have h1 := turned_eq (g := g) (by have := hg.len; omega) st
  have h2 := is_paper_any (turnP_good hg) (goal := 1 - goal) st (p := p) (d := d) (by rw [List.length_map]; exact hp) ht
  rw [isPp_turn hg] at h2
  unfold f_is_paper_against m_is_paper_against
  refine fok_is ?_
  walk_at "vfn"
  walk_at "vc"

end
section
local macro_rules | `(tactic| walk_at "op") => `(tactic| ((with_reducible apply ixD_g); assumption))
local macro_rules | `(tactic| walk_at "bi") => `(tactic| with_reducible exact lenD_g)
local macro_rules | `(tactic| walk_at "bi") => `(tactic| with_reducible exact lenD_n)
local macro_rules | `(tactic| walk_at "cl") => `(tactic| ((with_reducible apply draw_eq) <;> first | omega | assumption))
local macro_rules | `(tactic| walk_at "cl") => `(tactic| ((with_reducible apply dworth_eq) <;> first | omega | assumption))
local macro_rules | `(tactic| walk_at "bi") => `(tactic| first | with_reducible exact lenD_gD _ | with_reducible exact lenD_nD _ | with_reducible exact lenD_nL _ | with_reducible exact gX_at (by assumption))
local macro_rules | `(tactic| walk_at "cq") => `(tactic| ((with_reducible apply moves_of_eq); first | omega | assumption))
local macro_rules | `(tactic| walk_at "cq") => `(tactic| ((with_reducible apply choice_eq) <;> assumption))
local macro_rules | `(tactic| walk_at "cq") => `(tactic| ((with_reducible apply worths_eq) <;> assumption))
local macro_rules | `(tactic| walk_at "bi") => `(tactic| first | ((with_reducible apply wors_ix); assumption) | ((with_reducible apply wors_ixL); assumption))
/-! ### bent things -/
def smN : Nat → PyData → Bool
  | _, .int i => decide (-1000 ≤ i) && decide (i ≤ 1000)
  | _, .str x => PyData.canLay0 (.str x)
  | 0, _ => false
  | k + 1, .tuple ds => decide (ds.length ≤ 100) && ds.all (smN k)
  | _, _ => false
theorem sm_tm : ∀ (k : Nat) (d : PyData), smN k d = true → tmN k d = true := by
  intro k
  have hi : ∀ (k : Nat) (i : Int), smN k (.int i) = true → tmN k (.int i) = true := fun k i h => by
    have h : (decide (-1000 ≤ i) && decide (i ≤ 1000)) = true := by cases k <;> exact h
    rw [Bool.and_eq_true, decide_eq_true_eq, decide_eq_true_eq] at h
    have h2 : (decide (-1000000 ≤ i) && decide (i ≤ 1000000)) = true := by
      rw [Bool.and_eq_true, decide_eq_true_eq, decide_eq_true_eq]
      omega
    cases k <;> exact h2
  induction k with
  | zero =>
    intro d h
    cases d with
    | int i => exact hi 0 i h
    | str x => exact h
    | _ => simp [smN] at h
  | succ k ih =>
    intro d h
    cases d with
    | int i => exact hi _ i h
    | str x => exact h
    | tuple ds =>
      have h : (decide (ds.length ≤ 100) && ds.all (smN k)) = true := h
      rw [Bool.and_eq_true, decide_eq_true_eq, List.all_eq_true] at h
      exact tm_tup.mpr ⟨by omega, fun d hd => ih d (h.2 d hd)⟩
    | _ => simp [smN] at h
local macro_rules | `(tactic| walk_at "v") => `(tactic| with_reducible refine wp_eRevT ?_)
end
section
local macro_rules | `(tactic| walk_at "op") => `(tactic| ((with_reducible apply ixD_g); assumption))
local macro_rules | `(tactic| walk_at "bi") => `(tactic| with_reducible exact lenD_g)
local macro_rules | `(tactic| walk_at "bi") => `(tactic| with_reducible exact lenD_n)
local macro_rules | `(tactic| walk_at "cl") => `(tactic| ((with_reducible apply draw_eq) <;> first | omega | assumption))
local macro_rules | `(tactic| walk_at "cl") => `(tactic| ((with_reducible apply dworth_eq) <;> first | omega | assumption))
local macro_rules | `(tactic| walk_at "bi") => `(tactic| first | with_reducible exact lenD_gD _ | with_reducible exact lenD_nD _ | with_reducible exact lenD_nL _ | with_reducible exact gX_at (by assumption))
local macro_rules | `(tactic| walk_at "cq") => `(tactic| ((with_reducible apply moves_of_eq); first | omega | assumption))
local macro_rules | `(tactic| walk_at "cq") => `(tactic| ((with_reducible apply choice_eq) <;> assumption))
local macro_rules | `(tactic| walk_at "cq") => `(tactic| ((with_reducible apply worths_eq) <;> assumption))
local macro_rules | `(tactic| walk_at "bi") => `(tactic| first | ((with_reducible apply wors_ix); assumption) | ((with_reducible apply wors_ixL); assumption))
local macro_rules | `(tactic| walk_at "bi") => `(tactic| with_reducible rfl)
local macro_rules | `(tactic| walk_at "cq") => `(tactic| ((with_reducible apply turned_eq); omega))
local macro_rules | `(tactic| walk_at "cq") => `(tactic| ((with_reducible apply forced_eq); assumption))
local macro_rules | `(tactic| walk_at "bi") => `(tactic| first | ((with_reducible apply rks_ix); assumption) | ((with_reducible apply rks_ixL); assumption))
local macro_rules | `(tactic| walk_at "xx") => `(tactic| with_reducible refine wp_iZpT ?_)
local macro_rules | `(tactic| walk_at "v") => `(tactic| with_reducible refine wp_eRevT ?_)
/-! ### papers by hand: the row of all; how many ends; spoilt ones -/
def isT : PyData → Bool
  | .tuple _ => true
  | _ => false
def endsV : Nat → PyData → Int
  | k + 1, .tuple ds => if ds.isEmpty = true then 1 else ((ds.filter isT).map (endsV k)).sum
  | _, _ => 0
theorem endsV_t {k : Nat} {ds : List PyData} : endsV (k + 1) (.tuple ds) = if ds.isEmpty = true then 1 else ((ds.filter isT).map (endsV k)).sum := by rw [endsV]
noncomputable def m_ends_in (F_ends_in : FS) : X :=
  (xSeq (xIf (bTest (eOp eqD (eVar 0) (eTup aNil)))
    (xRet (eC (.int 1)))
    xNext)
  (xRet (eCB sumD (aCons (eL (lLc [1] (iSq (eVar 0)) (gNm 1) (bTru (eIsi "tuple" (eVar 1))) (eCall F_ends_in (vCons (vE (eVar 1)) vNil)))) aNil))))
noncomputable def r_ends_in : Nat → FS
  | 0 => fun _ _ => none
  | n + 1 => fnS 2 (m_ends_in (r_ends_in n))
noncomputable def f_ends_in : FS := r_ends_in 40

noncomputable def m_l_ends (F_l_ends : FS) : X :=
  (xSeq (xIf (bTest (eOp eqD (eVar 0) (eTup aNil)))
    (xRet (eC (.int 1)))
    xNext)
  (xRet (eCB sumD (aCons (eL (lLc [1] (iSq (eVar 0)) (gNm 1) (bTru (eIsi "tuple" (eVar 1))) (eCall F_l_ends (vCons (vE (eVar 1)) vNil)))) aNil))))
noncomputable def r_l_ends : Nat → FS
  | 0 => fun _ _ => none
  | n + 1 => fnS 2 (m_l_ends (r_l_ends n))
noncomputable def f_l_ends : FS := r_l_ends 40

theorem ends_any (st : Sg) : ∀ (n k : Nat) (ds : List PyData), k ≤ n → k ≤ 50 → tmN k (.tuple ds) = true → r_ends_in n [.dat (.tuple ds)] st = some (.dat (.int (endsV k (.tuple ds))), st)
  | n, 0, ds, _, _, h => by simp [tmN] at h
  | 0, k + 1, ds, h, _, _ => absurd h (by omega)
  | n + 1, k + 1, ds, h, hk, htm => by
    have hemp := eqT_emp htm (by omega)
    obtain ⟨hl, hds⟩ := tm_tup.mp htm
    rw [endsV_t]
    unfold r_ends_in m_ends_in
    refine fok_is ?_
    cases he : ds.isEmpty with
    | true =>
      rw [he] at hemp
      rw [if_pos rfl]
      walk_at "vfn"
      walk_at "vc"
    | false =>
      rw [he] at hemp
      rw [if_neg Bool.false_ne_true]
      walk_at "vfn"
      walk_at "vc"
      refine lcw_pure (xs := ds) id isT (fun d => .int (endsV k d)) (by rw [List.map_id]) (by rfl) (by omega) (by walk_at "wi") (fun d hd => ?_) ?_
      · have htd := hds d hd
        cases d with
        | dict kvs => exact (tm_dict htd).elim
        | tuple es =>
          have ih := ends_any st n k es (by omega) (by omega) htd
          show Has (gNm 1 (.tuple es) _) _
          walk_at "vc"
          exact ⟨⟨rfl, rfl, rfl⟩, fun _ => by walk_at "vc"⟩
        | _ => (show Has (gNm 1 _ _) _; dsimp only [id]; walk_at "vc"; exact ⟨⟨rfl, rfl, rfl⟩, fun z => by cases z⟩)
      · have hs := sumD_i (ns := (ds.filter isT).map (endsV k))
        rw [List.map_map] at hs
        rw [show (ds.filter isT).map (fun d => PyData.int (endsV k d)) = (ds.filter isT).map (PyData.int ∘ endsV k) from rfl]
        walk_at "vc"
theorem l_ends_run : ∀ n, r_l_ends n = r_ends_in n
  | 0 => rfl
  | n + 1 => by rw [r_l_ends, r_ends_in, l_ends_run n]; rfl
theorem ends_in_any (st : Sg) {k : Nat} {ds : List PyData} (hk : k ≤ 39) (h : tmN k (.tuple ds) = true) : f_ends_in [.dat (.tuple ds)] st = some (.dat (.int (endsV k (.tuple ds))), st) := ends_any st 40 k ds (by omega) (by omega) h
theorem l_ends_any (st : Sg) {k : Nat} {ds : List PyData} (hk : k ≤ 39) (h : tmN k (.tuple ds) = true) : f_l_ends [.dat (.tuple ds)] st = some (.dat (.int (endsV k (.tuple ds))), st) := by
  show r_l_ends 40 _ _ = _
  rw [l_ends_run]
  exact ends_any st 40 k ds (by omega) (by omega) h
/-! ### all papers -/
def rowsL (f : Nat → List PyData) (ms : List Nat) : List (List PyData) := ms.foldl (fun rows m => rows.flatMap fun r => (f m).map fun q => r ++ [q]) [[]]
def ppL (g : List Pl) (goal hand : Int) : Nat → Nat → List PyData
  | 0, _ => []
  | k + 1, p => match g[p]? with
    | some (.fin w) => if gdB hand goal w = true then [.tuple []] else []
    | some (.mv s ms) => if s = hand then ms.flatMap fun m => (ppL g goal hand k m).map fun q => .tuple [.int (m : Nat), q]
      else (rowsL (ppL g goal hand k) ms).map .tuple
    | none => []
section
variable {g : List Pl} {goal hand : Int} {k p : Nat}
theorem ppL_fin {w : Int} (h : g[p]? = some (.fin w)) : ppL g goal hand (k + 1) p = if gdB hand goal w = true then [.tuple []] else [] := by rw [ppL, h]
theorem ppL_own {ms : List Nat} (h : g[p]? = some (.mv hand ms)) : ppL g goal hand (k + 1) p = ms.flatMap fun m => (ppL g goal hand k m).map fun q => .tuple [.int (m : Nat), q] := by
  rw [ppL, h]; exact if_pos rfl
theorem ppL_oth {s : Int} {ms : List Nat} (hs : s ≠ hand) (h : g[p]? = some (.mv s ms)) : ppL g goal hand (k + 1) p = (rowsL (ppL g goal hand k) ms).map .tuple := by
  rw [ppL, h]; exact if_neg hs
end
/-! how many there are -/
def bP (r : Nat) : Nat := [1, 1, 2, 4, 8, 64, 2048, 1048576].getD r 1048576
def prodN (xs : List Nat) : Nat := xs.foldr (· * ·) 1
theorem prodN_le {f h : Nat → Nat} : ∀ {xs : List Nat}, (∀ x ∈ xs, f x ≤ h x) → prodN (xs.map f) ≤ prodN (xs.map h)
  | [], _ => Nat.le_refl _
  | a :: r, q => Nat.mul_le_mul (q a (by simp)) (prodN_le fun x hx => q x (by simp [hx]))
theorem sumN_le {f h : Nat → Nat} : ∀ {xs : List Nat}, (∀ x ∈ xs, f x ≤ h x) → (xs.map f).sum ≤ (xs.map h).sum
  | [], _ => Nat.le_refl _
  | a :: r, q => by
    have h1 := q a (by simp)
    have h2 := sumN_le fun x hx => q x (List.mem_cons_of_mem a hx)
    simp only [List.map_cons, List.sum_cons]; omega
theorem rowsL_len (f : Nat → List PyData) (ms : List Nat) : (rowsL f ms).length = prodN (ms.map fun m => (f m).length) := by
  have key : ∀ (ms : List Nat) (rows : List (List PyData)), (ms.foldl (fun rows m => rows.flatMap fun r => (f m).map fun q => r ++ [q]) rows).length = rows.length * prodN (ms.map fun m => (f m).length) := by
    intro ms
    induction ms with
    | nil => intro rows; simp [prodN]
    | cons m r ih =>
      intro rows
      rw [List.foldl_cons, ih]
      have : (rows.flatMap fun x => (f m).map fun q => x ++ [q]).length = rows.length * (f m).length := by
        rw [List.length_flatMap]
        simp only [List.length_map]
        induction rows with
        | nil => simp
        | cons y t ih2 => simp only [List.map_cons, List.sum_cons, ih2, List.length_cons]; rw [Nat.succ_mul]; omega
      rw [this]
      show _ = rows.length * ((f m).length * prodN _)
      rw [Nat.mul_assoc]
  rw [rowsL, key]
  simp
theorem idx_tk {o : List Nat} {m i : Nat} (h : m ∈ o.take i) : o.idxOf m < i := by
  have h1 := List.idxOf_lt_length_of_mem h
  have h2 : (o.take i).length ≤ i := by rw [List.length_take]; omega
  have h3 : o.idxOf m = (o.take i).idxOf m := by
    conv => lhs; rw [← List.take_append_drop i o]
    rw [List.idxOf_append, if_pos h]
  omega
theorem topo_lt {g : List Pl} {o : List Nat} (ht : Topo g o) {p m : Nat} (hp : p < g.length) (hm : m ∈ mvs g p) : o.idxOf m < o.idxOf p := by
  have hpo : p ∈ o := ht.perm.mem_iff.mpr (List.mem_range.mpr hp)
  have hlt := List.idxOf_lt_length_of_mem hpo
  exact idx_tk (ht.dn _ p (by rw [List.getElem?_eq_getElem hlt, List.getElem_idxOf hlt]) m hm)
/-- ranks that tell places apart -/
structure RkI (g : List Pl) (rk : Nat → Nat) : Prop where
  dn : ∀ p m, p < g.length → m ∈ mvs g p → rk m < rk p
  lt : ∀ p, p < g.length → rk p < g.length
  inj : ∀ p q, p < g.length → q < g.length → rk p = rk q → p = q
theorem rkI_of {g : List Pl} (hg : Good g) (hs : Straight g) : ∃ rk, RkI g rk := by
  obtain ⟨o, ho, ht⟩ := ord_topo hg hs
  have hm : ∀ p, p < g.length → p ∈ o := fun p hp => ht.perm.mem_iff.mpr (List.mem_range.mpr hp)
  have hl : o.length = g.length := by rw [ht.perm.length_eq, List.length_range]
  refine ⟨o.idxOf, fun p m hp hmm => topo_lt ht hp hmm, fun p hp => ?_, fun p q hp hq e => ?_⟩
  · rw [← hl]; exact List.idxOf_lt_length_of_mem (hm p hp)
  · have e1 := List.getElem_idxOf (List.idxOf_lt_length_of_mem (hm p hp))
    have e2 := List.getElem_idxOf (List.idxOf_lt_length_of_mem (hm q hq))
    rw [← e1, ← e2]
    simp only [e]
section
variable {g : List Pl} {rk : Nat → Nat} {goal hand : Int}
end
/-! as data: small tuples of numbers and of papers -/
def pdN : Nat → PyData → Bool
  | k + 1, .tuple ds => decide (ds.length ≤ 100) && ds.all fun d => match d with
    | .int i => decide (-1000 ≤ i) && decide (i ≤ 1000)
    | d => pdN k d
  | _, _ => false
def pdE (k : Nat) (d : PyData) : Prop := (∃ i, d = .int i ∧ -1000 ≤ i ∧ i ≤ 1000) ∨ pdN k d = true
theorem pd_tup {k : Nat} {ds : List PyData} : pdN (k + 1) (.tuple ds) = true ↔ ds.length ≤ 100 ∧ ∀ d ∈ ds, pdE k d := by
  rw [pdN, Bool.and_eq_true, decide_eq_true_eq, List.all_eq_true]
  refine and_congr Iff.rfl (forall_congr' fun d => imp_congr Iff.rfl ?_)
  unfold pdE
  cases d with
  | int i =>
    have hn : pdN k (.int i) = false := by cases k <;> rfl
    rw [hn]
    simp
  | _ => simp
theorem pd_is {k : Nat} {d : PyData} (h : pdN k d = true) : ∃ j ds, k = j + 1 ∧ d = .tuple ds := by
  cases k with
  | zero => cases d <;> simp [pdN] at h
  | succ k =>
    cases d with
    | tuple ds => exact ⟨k, ds, rfl, rfl⟩
    | _ => simp [pdN] at h
theorem pd_sm : ∀ (k : Nat) (d : PyData), pdN k d = true → smN k d = true
  | 0, d, h => by cases d <;> simp [pdN] at h
  | k + 1, d, h => by
    obtain ⟨j, ds, e, rfl⟩ := pd_is h
    obtain ⟨h1, h2⟩ := pd_tup.mp h
    show (decide (ds.length ≤ 100) && ds.all (smN k)) = true
    rw [Bool.and_eq_true, decide_eq_true_eq, List.all_eq_true]
    refine ⟨h1, fun d hd => ?_⟩
    rcases h2 d hd with ⟨i, rfl, q1, q2⟩ | q
    · have : (decide (-1000 ≤ i) && decide (i ≤ 1000)) = true := by rw [Bool.and_eq_true, decide_eq_true_eq, decide_eq_true_eq]; exact ⟨q1, q2⟩
      cases k <;> exact this
    · exact pd_sm k d q
theorem rowsL_mem {f : Nat → List PyData} {P : PyData → Prop} {ms : List Nat} (h : ∀ m ∈ ms, ∀ d ∈ f m, P d) : ∀ r ∈ rowsL f ms, r.length = ms.length ∧ ∀ d ∈ r, P d := by
  have key : ∀ (ms : List Nat) (n : Nat) (rows : List (List PyData)), (∀ m ∈ ms, ∀ d ∈ f m, P d) → (∀ r ∈ rows, r.length = n ∧ ∀ d ∈ r, P d) → ∀ r ∈ ms.foldl (fun rows m => rows.flatMap fun r => (f m).map fun q => r ++ [q]) rows, r.length = n + ms.length ∧ ∀ d ∈ r, P d := by
    intro ms
    induction ms with
    | nil => intro n rows _ h2 r hr; exact h2 r hr
    | cons m rest ih =>
      intro n rows h1 h2 r hr
      rw [List.foldl_cons] at hr
      have h3 := ih (n + 1) _ (fun x hx => h1 x (List.mem_cons_of_mem _ hx)) (fun x hx => ?_) r hr
      · rw [List.length_cons]; exact ⟨by omega, h3.2⟩
      · obtain ⟨y, hy, hx⟩ := List.mem_flatMap.mp hx
        obtain ⟨q, hq, rfl⟩ := List.mem_map.mp hx
        obtain ⟨k1, k2⟩ := h2 y hy
        refine ⟨by rw [List.length_append, k1]; rfl, fun d hd => ?_⟩
        rcases List.mem_append.mp hd with hd | hd
        · exact k2 d hd
        · rw [List.mem_singleton.mp hd]; exact h1 m List.mem_cons_self q hq
  intro r hr
  have := key ms 0 [[]] h (fun r hr => by rw [List.mem_singleton.mp hr]; exact ⟨rfl, fun d hd => nomatch hd⟩) r hr
  exact ⟨by omega, this.2⟩
theorem ppL_pd {g : List Pl} (hg : Good g) {goal hand : Int} : ∀ (k p : Nat), p < g.length → ∀ d ∈ ppL g goal hand k p, pdN k d = true
  | 0, p, _, d, h => nomatch h
  | k + 1, p, hp, d, h => by
    have hx : g[p]? = some g[p] := List.getElem?_eq_getElem hp
    generalize g[p] = x at hx
    cases x with
    | fin w =>
      rw [ppL_fin hx] at h
      split at h
      · rw [List.mem_singleton.mp h]; exact pd_tup.mpr ⟨by simp, fun d hd => nomatch hd⟩
      · cases h
    | mv s ms =>
      obtain ⟨q1, q2, q3, q4, q5⟩ := hg.ok p _ hx
      have ih := fun m (hm : m ∈ ms) => ppL_pd hg (goal := goal) (hand := hand) k m (q4 m hm)
      by_cases hs : s = hand
      · subst hs
        rw [ppL_own hx] at h
        obtain ⟨m, hm, h⟩ := List.mem_flatMap.mp h
        obtain ⟨q, hq, rfl⟩ := List.mem_map.mp h
        have hml := q4 m hm
        have hgl := hg.len
        refine pd_tup.mpr ⟨by simp, fun d hd => ?_⟩
        simp only [List.mem_cons, List.not_mem_nil, or_false] at hd
        rcases hd with rfl | rfl
        · exact .inl ⟨_, rfl, by omega, by omega⟩
        · exact .inr (ih m hm _ hq)
      · rw [ppL_oth hs hx] at h
        obtain ⟨r, hr, rfl⟩ := List.mem_map.mp h
        obtain ⟨h1, h2⟩ := rowsL_mem (P := fun d => pdN k d = true) ih r hr
        exact pd_tup.mpr ⟨by omega, fun d hd => .inr (h2 d hd)⟩
end
section
local macro_rules | `(tactic| walk_at "op") => `(tactic| ((with_reducible apply ixD_g); assumption))
local macro_rules | `(tactic| walk_at "bi") => `(tactic| with_reducible exact lenD_g)
local macro_rules | `(tactic| walk_at "bi") => `(tactic| with_reducible exact lenD_n)
local macro_rules | `(tactic| walk_at "cl") => `(tactic| ((with_reducible apply draw_eq) <;> first | omega | assumption))
local macro_rules | `(tactic| walk_at "cl") => `(tactic| ((with_reducible apply dworth_eq) <;> first | omega | assumption))
local macro_rules | `(tactic| walk_at "bi") => `(tactic| first | with_reducible exact lenD_gD _ | with_reducible exact lenD_nD _ | with_reducible exact lenD_nL _ | with_reducible exact gX_at (by assumption))
local macro_rules | `(tactic| walk_at "cq") => `(tactic| ((with_reducible apply moves_of_eq); first | omega | assumption))
local macro_rules | `(tactic| walk_at "cq") => `(tactic| ((with_reducible apply choice_eq) <;> assumption))
local macro_rules | `(tactic| walk_at "cq") => `(tactic| ((with_reducible apply worths_eq) <;> assumption))
local macro_rules | `(tactic| walk_at "bi") => `(tactic| first | ((with_reducible apply wors_ix); assumption) | ((with_reducible apply wors_ixL); assumption))
local macro_rules | `(tactic| walk_at "cq") => `(tactic| ((with_reducible apply l_moves_eq); first | omega | assumption))

end
section
local macro_rules | `(tactic| walk_at "op") => `(tactic| ((with_reducible apply ixD_g); assumption))
local macro_rules | `(tactic| walk_at "bi") => `(tactic| with_reducible exact lenD_g)
local macro_rules | `(tactic| walk_at "bi") => `(tactic| with_reducible exact lenD_n)
local macro_rules | `(tactic| walk_at "cl") => `(tactic| ((with_reducible apply draw_eq) <;> first | omega | assumption))
local macro_rules | `(tactic| walk_at "cl") => `(tactic| ((with_reducible apply dworth_eq) <;> first | omega | assumption))
local macro_rules | `(tactic| walk_at "bi") => `(tactic| first | with_reducible exact lenD_gD _ | with_reducible exact lenD_nD _ | with_reducible exact lenD_nL _ | with_reducible exact gX_at (by assumption))
local macro_rules | `(tactic| walk_at "cq") => `(tactic| ((with_reducible apply moves_of_eq); first | omega | assumption))
local macro_rules | `(tactic| walk_at "cq") => `(tactic| ((with_reducible apply choice_eq) <;> assumption))
local macro_rules | `(tactic| walk_at "cq") => `(tactic| ((with_reducible apply worths_eq) <;> assumption))
local macro_rules | `(tactic| walk_at "bi") => `(tactic| first | ((with_reducible apply wors_ix); assumption) | ((with_reducible apply wors_ixL); assumption))
local macro_rules | `(tactic| walk_at "cq") => `(tactic| ((with_reducible apply l_moves_eq); first | omega | assumption))
local macro_rules | `(tactic| walk_at "cq") => `(tactic| ((with_reducible apply l_worth_eq) <;> assumption))

end
section
local macro_rules | `(tactic| walk_at "op") => `(tactic| ((with_reducible apply ixD_g); assumption))
local macro_rules | `(tactic| walk_at "bi") => `(tactic| with_reducible exact lenD_g)
local macro_rules | `(tactic| walk_at "bi") => `(tactic| with_reducible exact lenD_n)
local macro_rules | `(tactic| walk_at "cl") => `(tactic| ((with_reducible apply draw_eq) <;> first | omega | assumption))
local macro_rules | `(tactic| walk_at "cl") => `(tactic| ((with_reducible apply dworth_eq) <;> first | omega | assumption))
local macro_rules | `(tactic| walk_at "bi") => `(tactic| first | with_reducible exact lenD_gD _ | with_reducible exact lenD_nD _ | with_reducible exact lenD_nL _ | with_reducible exact gX_at (by assumption))
local macro_rules | `(tactic| walk_at "cq") => `(tactic| ((with_reducible apply moves_of_eq); first | omega | assumption))
local macro_rules | `(tactic| walk_at "cq") => `(tactic| ((with_reducible apply choice_eq) <;> assumption))
local macro_rules | `(tactic| walk_at "cq") => `(tactic| ((with_reducible apply worths_eq) <;> assumption))
local macro_rules | `(tactic| walk_at "bi") => `(tactic| first | ((with_reducible apply wors_ix); assumption) | ((with_reducible apply wors_ixL); assumption))
/-! ### all_papers: for each place a paper, or none -/
def opD : Option PyData → PyData
  | none => .none
  | some d => d
def someP (f : Nat → Option PyData) (ms : List Nat) : List (Nat × PyData) := ms.filterMap fun m => (f m).map fun q => (m, q)
def mqD (z : Nat × PyData) : PyData := .tuple [.int (z.1 : Nat), z.2]
def apF (ch : List (Nat × PyData) → PyData) (goal : Int) (f : Nat → Option PyData) : Pl → Option PyData
  | .fin w => if goal ≤ w then some (.tuple []) else none
  | .mv s ms => if s = 0 then (if someP f ms = [] then none else some (ch (someP f ms))) else if (someP f ms).length = ms.length then some (.tuple ((someP f ms).map (·.2))) else none
def apP (ch : List (Nat × PyData) → PyData) (goal : Int) (g : List Pl) (p : Nat) : Option PyData := valS none (apF ch goal) g p
theorem someP_congr {f f' : Nat → Option PyData} {ms : List Nat} (h : ∀ m ∈ ms, f m = f' m) : someP f ms = someP f' ms := by
  induction ms with
  | nil => rfl
  | cons a r ih =>
    unfold someP at ih ⊢
    rw [List.filterMap_cons, List.filterMap_cons, h a List.mem_cons_self, ih fun m hm => h m (List.mem_cons_of_mem _ hm)]
theorem apF_loc {ch : List (Nat × PyData) → PyData} {goal : Int} : Loc1 (apF ch goal) := fun f f' x h => by
  cases x with
  | fin w => rfl
  | mv s ms =>
    have e : someP f ms = someP f' ms := someP_congr h
    unfold apF
    simp only [e]
section
variable {ch : List (Nat × PyData) → PyData} {goal : Int} {g : List Pl} {rk : Nat → Nat} {p : Nat}
theorem ap_fin (h : Rk g rk) {w : Int} (e : g[p]? = some (.fin w)) : apP ch goal g p = if goal ≤ w then some (.tuple []) else none := val_eq apF_loc h e
theorem ap_mv (h : Rk g rk) {s : Int} {ms : List Nat} (e : g[p]? = some (.mv s ms)) : apP ch goal g p = if s = 0 then (if someP (apP ch goal g) ms = [] then none else some (ch (someP (apP ch goal g) ms))) else if (someP (apP ch goal g) ms).length = ms.length then some (.tuple ((someP (apP ch goal g) ms).map (·.2))) else none := val_eq apF_loc h e
end
theorem someP_len (f : Nat → Option PyData) (ms : List Nat) : (someP f ms).length ≤ ms.length := List.length_filterMap_le _ _
theorem someP_mem {f : Nat → Option PyData} {ms : List Nat} {z : Nat × PyData} (h : z ∈ someP f ms) : z.1 ∈ ms ∧ f z.1 = some z.2 := by
  obtain ⟨m, hm, e⟩ := List.mem_filterMap.mp h
  obtain ⟨q, hq, rfl⟩ := Option.map_eq_some_iff.mp e
  exact ⟨hm, hq⟩
theorem someP_filt (f : Nat → Option PyData) (ms : List Nat) : (ms.filter fun m => (f m).isSome).map (fun m => PyData.tuple [.int (m : Nat), opD (f m)]) = (someP f ms).map mqD := by
  induction ms with
  | nil => rfl
  | cons a r ih =>
    unfold someP at ih ⊢
    rw [List.filter_cons, List.filterMap_cons]
    cases e : f a with
    | none => simpa using ih
    | some q =>
      rw [Option.isSome_some, if_pos rfl, List.map_cons, ih, e]
      rfl
noncomputable def b_all_papers_1 (F_order_of F_moves_of : FS) : X :=
  (xSeq (xAsgG (gTp 2 (gsCons (gNm 5) (gsCons (gNm 6) gsNil))) (eOp ixD (eVar 0) (eVar 4)))
    (xSeq (xAsg 7 (eL (lLc [8] (iSq (eCall F_moves_of (vCons (vE (eVar 0)) (vCons (vE (eVar 4)) vNil)))) (gNm 8) (bTest (eNotN (eDget 3 (eVar 8)))) (eTup (aCons (eVar 8) (aCons (eDget 3 (eVar 8)) aNil))))))
    (xIf (bTest (eOp eqD (eVar 5) (eC (.str "end"))))
      (xDput 3 (eVar 4) (eIf (bTest (eOp geD (eVar 6) (eVar 1))) (eTup aNil) (eC .none)))
      (xIf (bTest (eOp eqD (eVar 5) (eC (.int 0))))
        (xDput 3 (eVar 4) (eIf (bTru (eVar 7)) (eCallF 2 (aCons (eVar 7) aNil)) (eC .none)))
        (xDput 3 (eVar 4) (eIf (bTest (eOp eqD (eCB lenD (aCons (eVar 7) aNil)) (eCB lenD (aCons (eVar 6) aNil)))) (eCB tupleD (aCons (eL (lLc [8, 9] (iSq (eVar 7)) (gTp 2 (gsCons (gNm 8) (gsCons (gNm 9) gsNil))) bYes (eVar 9))) aNil)) (eC .none)))))))
noncomputable def m_all_papers (F_order_of F_moves_of : FS) : X :=
  (xSeq (xAsgC 3 lDnew)
  (xSeq (xFor (iWipe [4, 5, 6, 7, 8, 9] (iSq (eCall F_order_of (vCons (vE (eVar 0)) vNil)))) (gNm 4)
    (xKeep [4, 5, 6, 7, 8, 9] (b_all_papers_1 F_order_of F_moves_of)))
  (xRetD 3)))
noncomputable def f_all_papers : FS := fnS 10 (m_all_papers f_order_of f_moves_of)

set_option maxHeartbeats 4000000 in
theorem all_papers_eq {g : List Pl} (hg : Good g) (hst : Straight g) {ch : List (Nat × PyData) → PyData} {goal : Int} {F : List PyData → Option PyData} (hF : ∀ (p : Nat) (ms : List Nat), g[p]? = some (Pl.mv 0 ms) → someP (apP ch goal g) ms ≠ [] → F [.list ((someP (apP ch goal g) ms).map mqD)] = some (ch (someP (apP ch goal g) ms)))
    (hT : ∀ p q, p < g.length → apP ch goal g p = some q → ∃ ds, q = .tuple ds) (st : Sg) : ∃ o, f_all_papers [.dat (gD g), .dat (.int goal), .fn F] st = some (.ref st.length, st ++ [.dct (dOf (fun p => opD (apP ch goal g p)) o)]) ∧ ∀ p, p < g.length → valG (dOf (fun p => opD (apP ch goal g p)) o) (.inl (p : Int)) = some (opD (apP ch goal g p)) := by
  obtain ⟨rk, hrk⟩ := hst.rk
  obtain ⟨o, ho, ht⟩ := ord_topo hg hst
  have hl := hg.len
  have hoe := order_of_eq hg st
  rw [ho] at hoe
  have hol : o.length = g.length := by rw [ht.perm.length_eq, List.length_range]
  refine ⟨o, ?_, fun p hp => dOf_get (ht.perm.mem_iff.mpr (List.mem_range.mpr hp))⟩
  unfold f_all_papers m_all_papers
  refine fok_is ?_
  walk_at "vfn"
  walk_at "vc"
  refine wp_forS o (fun p => .int (p : Nat)) (fun pre => [.dat (gD g), .dat (.int goal), .fn F, .dct (dOf (fun p => opD (apP ch goal g p)) pre), .no, .no, .no, .no, .no, .no]) (fun _ => st) (fun pre s => s = pre) [] rfl ?_ ?_
  · rintro pre p post s e rfl
    have hi : o[s.length]? = some p := by rw [e]; simp
    have htk : o.take s.length = s := by rw [e]; simp
    have hmv := ht.dn _ _ hi
    rw [htk] at hmv
    have hp : p < g.length := List.mem_range.mp (ht.perm.mem_iff.mp (List.mem_of_getElem? hi))
    have hnd : o.Nodup := ht.perm.nodup_iff.mpr List.nodup_range
    have hpn : p ∉ s := fun z => by
      rw [e, List.nodup_append] at hnd
      exact hnd.2.2 p z p List.mem_cons_self rfl
    have hsl : s.length < 4000000 := by
      have := (List.getElem?_eq_some_iff.mp hi).1
      omega
    have hdl : (dOf (fun p => opD (apP ch goal g p)) s).length < 4000000 := by rw [dOf_len]; exact hsl
    have hx : g[p]? = some g[p] := List.getElem?_eq_getElem hp
    generalize g[p] = x at hx
    have hdx := ixD_g hx
    rw [mvs_eq hx] at hmv
    have hmg : ∀ m ∈ x.moves, m < g.length := fun m hm => mvs_lt hg (p := p) (by rw [mvs_eq hx]; exact hm)
    have hml : x.moves.length ≤ 3 := by
      cases x with
      | fin w => exact Nat.zero_le _
      | mv sd ms => exact (hg.ok p _ hx).2.2.2.2
    have hmq := mvs_eq hx
    have hxd : x.d = .tuple [x.side, x.more] := by cases x <;> rfl
    unfold b_all_papers_1
    walk_at "vc"
    rw [hxd]
    walk_at "vc"
    rw [hmq]
    refine lcw_pure (xs := x.moves) (fun m => .int (m : Nat)) (fun m => (apP ch goal g m).isSome) (fun m => .tuple [.int (m : Nat), opD (apP ch goal g m)]) (by rfl) (by rfl) (by omega) (by walk_at "wi") (fun m hm => ?_) ?_
    · have hgt := dOf_get (f := fun p => opD (apP ch goal g p)) (hmv m hm)
      have hTm := hT m
      generalize apP ch goal g m = a at hgt hTm
      cases a with
      | none =>
        walk_at "vc"
        exact ⟨⟨rfl, rfl, rfl⟩, fun z => by cases z⟩
      | some q =>
        obtain ⟨ds, rfl⟩ := hTm q (hmg m hm) rfl
        walk_at "vc"
        exact ⟨⟨rfl, rfl, rfl⟩, fun _ => by walk_at "vc"⟩
    rw [someP_filt]
    cases x with
    | fin w =>
      have hv := ap_fin (ch := ch) (goal := goal) hrk hx
      by_cases hw : goal ≤ w
      · have e2 : decide (w ≥ goal) = true := decide_eq_true hw
        rw [if_pos hw] at hv
        dsimp only [Pl.side, Pl.more]
        walk_at "vc"
        refine ⟨_, ?_, rfl, rfl⟩
        rw [← dOf_put hpn (v := .tuple []) (by rw [hv]; rfl)]
        rfl
      · have e2 : decide (w ≥ goal) = false := decide_eq_false hw
        rw [if_neg hw] at hv
        dsimp only [Pl.side, Pl.more]
        walk_at "vc"
        refine ⟨_, ?_, rfl, rfl⟩
        rw [← dOf_put hpn (v := .none) (by rw [hv]; rfl)]
        rfl
    | mv sd ms =>
      obtain ⟨q1, q2, q3, q4, q5⟩ := hg.ok p _ hx
      have hv := ap_mv (ch := ch) (goal := goal) hrk hx
      dsimp only [Pl.side, Pl.more, Pl.moves]
      have hsl2 := someP_len (apP ch goal g) ms
      rcases q1 with rfl | rfl
      · rw [if_pos rfl] at hv
        have hf := hF p ms hx
        generalize someP (apP ch goal g) ms = so at hv hf hsl2
        cases so with
        | nil =>
          rw [if_pos rfl] at hv
          walk_at "vc"
          refine ⟨_, ?_, rfl, rfl⟩
          rw [← dOf_put hpn (v := .none) (by rw [hv]; rfl)]
          rfl
        | cons a r =>
          rw [if_neg (by simp)] at hv
          have hf := hf (by simp)
          walk_at "vc"
          refine ⟨_, ?_, rfl, rfl⟩
          rw [← dOf_put hpn (v := ch (a :: r)) (by rw [hv]; rfl)]
          rfl
      · rw [if_neg (by decide)] at hv
        generalize someP (apP ch goal g) ms = so at hv hsl2
        have hml2 : (so.map mqD).length = so.length := List.length_map _
        by_cases hle : so.length = ms.length
        · rw [if_pos hle] at hv
          have hd1 : decide (((so.map mqD).length : Int) = (ms.length : Nat)) = true := decide_eq_true (by omega)
          walk_at "vc"
          refine lcw_map (xs := so) mqD (fun z => z.2) (by rfl) (by rfl) (by omega) (by walk_at "wi") (fun z hz => ?_) ?_
          · show Has (gTp 2 _ (.tuple [.int (z.1 : Nat), z.2]) _) _
            walk_at "vc"
          · walk_at "vc"
            refine ⟨_, ?_, rfl, rfl⟩
            rw [← dOf_put hpn (v := .tuple (so.map (·.2))) (by rw [hv]; rfl)]
            rfl
        · rw [if_neg hle] at hv
          have hd1 : decide (((so.map mqD).length : Int) = (ms.length : Nat)) = false := decide_eq_false (by omega)
          walk_at "vc"
          refine ⟨_, ?_, rfl, rfl⟩
          rw [← dOf_put hpn (v := .none) (by rw [hv]; rfl)]
          rfl
  · rintro s rfl
    walk_at "vc"

end
section
local macro_rules | `(tactic| walk_at "op") => `(tactic| ((with_reducible apply ixD_g); assumption))
local macro_rules | `(tactic| walk_at "bi") => `(tactic| with_reducible exact lenD_g)
local macro_rules | `(tactic| walk_at "bi") => `(tactic| with_reducible exact lenD_n)
local macro_rules | `(tactic| walk_at "cl") => `(tactic| ((with_reducible apply draw_eq) <;> first | omega | assumption))
local macro_rules | `(tactic| walk_at "cl") => `(tactic| ((with_reducible apply dworth_eq) <;> first | omega | assumption))
local macro_rules | `(tactic| walk_at "bi") => `(tactic| first | with_reducible exact lenD_gD _ | with_reducible exact lenD_nD _ | with_reducible exact lenD_nL _ | with_reducible exact gX_at (by assumption))
local macro_rules | `(tactic| walk_at "cq") => `(tactic| ((with_reducible apply moves_of_eq); first | omega | assumption))
local macro_rules | `(tactic| walk_at "cq") => `(tactic| ((with_reducible apply choice_eq) <;> assumption))
local macro_rules | `(tactic| walk_at "cq") => `(tactic| ((with_reducible apply worths_eq) <;> assumption))
local macro_rules | `(tactic| walk_at "bi") => `(tactic| first | ((with_reducible apply wors_ix); assumption) | ((with_reducible apply wors_ixL); assumption))
local macro_rules | `(tactic| walk_at "bi") => `(tactic| with_reducible rfl)
local macro_rules | `(tactic| walk_at "cq") => `(tactic| ((with_reducible apply turned_eq); omega))
local macro_rules | `(tactic| walk_at "cq") => `(tactic| ((with_reducible apply forced_eq); assumption))
local macro_rules | `(tactic| walk_at "bi") => `(tactic| first | ((with_reducible apply rks_ix); assumption) | ((with_reducible apply rks_ixL); assumption))
local macro_rules | `(tactic| walk_at "xx") => `(tactic| with_reducible refine wp_iZpT ?_)
local macro_rules | `(tactic| walk_at "v") => `(tactic| with_reducible refine wp_eRevT ?_)
local macro_rules | `(tactic| walk_at "cq") => `(tactic| ((with_reducible apply l_moves_eq); first | omega | assumption))
local macro_rules | `(tactic| walk_at "cq") => `(tactic| ((with_reducible apply l_worth_eq) <;> assumption))
/-! ### the paper of either hand by a choice -/
def apHF (ch : List (Nat × PyData) → PyData) (hand goal : Int) (f : Nat → Option PyData) : Pl → Option PyData
  | .fin w => if gdB hand goal w = true then some (.tuple []) else none
  | .mv s ms => if s = hand then (if someP f ms = [] then none else some (ch (someP f ms))) else if (someP f ms).length = ms.length then some (.tuple ((someP f ms).map (·.2))) else none
def apH (ch : List (Nat × PyData) → PyData) (hand goal : Int) (g : List Pl) (p : Nat) : Option PyData := valS none (apHF ch hand goal) g p
theorem apHF_loc {ch : List (Nat × PyData) → PyData} {hand goal : Int} : Loc1 (apHF ch hand goal) := fun f f' x h => by
  cases x with
  | fin w => rfl
  | mv s ms =>
    have e : someP f ms = someP f' ms := someP_congr h
    unfold apHF
    simp only [e]
section
variable {ch : List (Nat × PyData) → PyData} {hand goal : Int} {g : List Pl} {rk : Nat → Nat} {p : Nat}
theorem aph_fin (h : Rk g rk) {w : Int} (e : g[p]? = some (.fin w)) : apH ch hand goal g p = if gdB hand goal w = true then some (.tuple []) else none := val_eq apHF_loc h e
theorem aph_mv (h : Rk g rk) {s : Int} {ms : List Nat} (e : g[p]? = some (.mv s ms)) : apH ch hand goal g p = if s = hand then (if someP (apH ch hand goal g) ms = [] then none else some (ch (someP (apH ch hand goal g) ms))) else if (someP (apH ch hand goal g) ms).length = ms.length then some (.tuple ((someP (apH ch hand goal g) ms).map (·.2))) else none := val_eq apHF_loc h e
theorem apH_0 : apP ch goal g = apH ch 0 goal g := by
  have : apF ch goal = apHF ch 0 goal := by
    funext f x
    cases x with
    | fin w =>
      show (if goal ≤ w then _ else _) = if decide (goal ≤ w) = true then _ else _
      simp only [decide_eq_true_eq]
    | mv s ms => rfl
  unfold apP apH
  rw [this]
theorem turn_rk (h : Rk g rk) : Rk (g.map turnP) rk := ⟨fun p x m hx hm => by
  rw [turn_get] at hx
  obtain ⟨y, hy, rfl⟩ := Option.map_eq_some_iff.mp hx
  exact h.dn p y m hy (by cases y <;> exact hm), fun p hp => by rw [List.length_map] at hp ⊢; exact h.lt p hp⟩
theorem apH_turn (hg : Good g) (h : Rk g rk) : ∀ (n p : Nat), rk p < n → p < g.length → apH ch 0 (1 - goal) (g.map turnP) p = apH ch 1 goal g p
  | 0, p, h0, _ => absurd h0 (Nat.not_lt_zero _)
  | n + 1, p, h0, hp => by
    have hx : g[p]? = some g[p] := List.getElem?_eq_getElem hp
    generalize g[p] = x at hx
    have hx2 : (g.map turnP)[p]? = some (turnP x) := by rw [turn_get, hx]; rfl
    cases x with
    | fin w =>
      rw [aph_fin (turn_rk h) hx2, aph_fin h hx]
      have : gdB 0 (1 - goal) (-w) = gdB 1 goal w := by
        show decide (1 - goal ≤ -w) = decide (w < goal)
        exact decide_eq_decide.mpr (by omega)
      rw [this]
    | mv s ms =>
      obtain ⟨q1, q2, q3, q4, q5⟩ := hg.ok p _ hx
      have e : someP (apH ch 0 (1 - goal) (g.map turnP)) ms = someP (apH ch 1 goal g) ms := someP_congr fun m hm => by
        have := h.dn p _ m hx hm
        exact apH_turn hg h n m (by omega) (q4 m hm)
      rw [aph_mv (turn_rk h) hx2, aph_mv h hx, e]
      rcases q1 with rfl | rfl <;> rfl
/-- there is one just if the worth is good -/
theorem someP_all {f : Nat → Option PyData} : ∀ {ms : List Nat}, (someP f ms).length = ms.length ↔ ∀ m ∈ ms, f m ≠ none
  | [] => by simp [someP]
  | a :: r => by
    have ih := someP_all (f := f) (ms := r)
    have hl := someP_len f r
    unfold someP at ih hl ⊢
    rw [List.filterMap_cons]
    cases e : f a with
    | none =>
      simp only [Option.map_none, List.length_cons]
      exact ⟨fun z => by omega, fun z => absurd e (z a List.mem_cons_self)⟩
    | some q =>
      simp only [Option.map_some, List.length_cons]
      refine ⟨fun z m hm => ?_, fun z => ?_⟩
      · rcases List.mem_cons.mp hm with rfl | hm
        · rw [e]; exact fun z => nomatch z
        · exact ih.mp (by omega) m hm
      · have := ih.mpr fun m hm => z m (List.mem_cons_of_mem _ hm)
        omega
theorem someP_nil {f : Nat → Option PyData} {ms : List Nat} : someP f ms = [] ↔ ∀ m ∈ ms, f m = none := by
  unfold someP
  rw [List.filterMap_eq_nil_iff]
  exact forall_congr' fun m => forall_congr' fun _ => by simp
theorem gd_own {s goal : Int} (hs : s = 0 ∨ s = 1) {ws : List Int} (hn : ws ≠ []) : gdB s goal (chI s ws) = true ↔ ∃ w ∈ ws, gdB s goal w = true := by
  rcases hs with rfl | rfl
  · show decide (goal ≤ maxI ws) = true ↔ ∃ w ∈ ws, decide (goal ≤ w) = true
    simp only [decide_eq_true_eq]
    exact ⟨fun h => ⟨_, maxI_mem hn, h⟩, fun ⟨w, hw, h⟩ => Int.le_trans h (maxI_ge hw)⟩
  · show decide (minI ws < goal) = true ↔ ∃ w ∈ ws, decide (w < goal) = true
    simp only [decide_eq_true_eq]
    exact ⟨fun h => ⟨_, minI_mem hn, h⟩, fun ⟨w, hw, h⟩ => Int.lt_of_le_of_lt (minI_le hw) h⟩
theorem gd_oth {s hand goal : Int} (hs : s = 0 ∨ s = 1) (hh : hand = 0 ∨ hand = 1) (hne : s ≠ hand) {ws : List Int} (hn : ws ≠ []) : gdB hand goal (chI s ws) = true ↔ ∀ w ∈ ws, gdB hand goal w = true := by
  rcases hs with rfl | rfl <;> rcases hh with rfl | rfl
  · exact absurd rfl hne
  · show decide (maxI ws < goal) = true ↔ ∀ w ∈ ws, decide (w < goal) = true
    simp only [decide_eq_true_eq]
    exact ⟨fun h w hw => Int.lt_of_le_of_lt (maxI_ge hw) h, fun h => h _ (maxI_mem hn)⟩
  · show decide (goal ≤ minI ws) = true ↔ ∀ w ∈ ws, decide (goal ≤ w) = true
    simp only [decide_eq_true_eq]
    exact ⟨fun h w hw => Int.le_trans h (minI_le hw), fun h => h _ (minI_mem hn)⟩
  · exact absurd rfl hne
theorem apH_wor (hg : Good g) (h : Rk g rk) (hh : hand = 0 ∨ hand = 1) : ∀ (n p : Nat), rk p < n → p < g.length → (apH ch hand goal g p ≠ none ↔ gdB hand goal (wor g p) = true)
  | 0, p, h0, _ => absurd h0 (Nat.not_lt_zero _)
  | n + 1, p, h0, hp => by
    have hx : g[p]? = some g[p] := List.getElem?_eq_getElem hp
    generalize g[p] = x at hx
    cases x with
    | fin w =>
      rw [aph_fin h hx, wor_fin h hx]
      split
      · rename_i e; exact ⟨fun _ => e, fun _ z => nomatch z⟩
      · rename_i e; exact ⟨fun z => absurd rfl z, fun z => absurd z e⟩
    | mv s ms =>
      obtain ⟨q1, q2, q3, q4, q5⟩ := hg.ok p _ hx
      have ih : ∀ m ∈ ms, (apH ch hand goal g m ≠ none ↔ gdB hand goal (wor g m) = true) := fun m hm => by
        have := h.dn p _ m hx hm
        exact apH_wor hg h hh n m (by omega) (q4 m hm)
      have hne : ms.map (wor g) ≠ [] := by simpa using q2
      rw [aph_mv h hx, wor_mv h hx]
      by_cases hs : s = hand
      · subst hs
        rw [if_pos rfl, gd_own q1 hne]
        split
        · rename_i e
          rw [someP_nil] at e
          refine ⟨fun z => absurd rfl z, fun ⟨w, hw, hgd⟩ => ?_⟩
          obtain ⟨m, hm, rfl⟩ := List.mem_map.mp hw
          exact absurd (e m hm) ((ih m hm).mpr hgd)
        · rename_i e
          refine ⟨fun _ => ?_, fun _ z => nomatch z⟩
          rw [someP_nil] at e
          have ⟨m, hm, hz⟩ : ∃ m ∈ ms, apH ch s goal g m ≠ none := by
            by_cases q : ∃ m ∈ ms, apH ch s goal g m ≠ none
            · exact q
            · exact absurd (fun m hm => Classical.byContradiction fun z => q ⟨m, hm, z⟩) e
          exact ⟨_, List.mem_map.mpr ⟨m, hm, rfl⟩, (ih m hm).mp hz⟩
      · rw [if_neg hs, gd_oth q1 hh hs hne]
        split
        · rename_i e
          rw [someP_all] at e
          refine ⟨fun _ w hw => ?_, fun _ z => nomatch z⟩
          obtain ⟨m, hm, rfl⟩ := List.mem_map.mp hw
          exact (ih m hm).mp (e m hm)
        · rename_i e
          refine ⟨fun z => absurd rfl z, fun z => absurd (someP_all.mpr fun m hm => ?_) e⟩
          exact (ih m hm).mpr (z _ (List.mem_map.mpr ⟨m, hm, rfl⟩))
/-- it is a tuple -/
theorem apH_tup (hg : Good g) (h : Rk g rk) (hc : ∀ z so, ∃ ds, ch (z :: so) = .tuple ds) {q : PyData} (hp : p < g.length) (e : apH ch hand goal g p = some q) : ∃ ds, q = .tuple ds := by
  have hx : g[p]? = some g[p] := List.getElem?_eq_getElem hp
  generalize g[p] = x at hx
  cases x with
  | fin w =>
    rw [aph_fin h hx] at e
    split at e
    · cases e; exact ⟨_, rfl⟩
    · cases e
  | mv s ms =>
    rw [aph_mv h hx] at e
    split at e
    · split at e
      · cases e
      · cases e
        generalize someP (apH ch hand goal g) ms = so at *
        cases so with
        | nil => rename_i z; exact absurd rfl z
        | cons a r => exact hc a r
    · split at e
      · cases e; exact ⟨_, rfl⟩
      · cases e
end
def ch1 : List (Nat × PyData) → PyData
  | z :: _ => mqD z
  | [] => .none
noncomputable def y_paper_for_1 (F_all_papers : FS) : List PyData → Option PyData := lamF 1 1 (eOp ixD (eVar 0) (eC (.int 0)))
noncomputable def m_paper_for (F_all_papers : FS) : X :=
  (xRet (eCallDg F_all_papers (vCons (vE (eVar 0)) (vCons (vE (eVar 2)) (vCons (vLam (y_paper_for_1 F_all_papers)) vNil))) 1))
noncomputable def f_paper_for : FS := fnS 3 (m_paper_for f_all_papers)

noncomputable def m_paper_against (F_paper_for F_turned : FS) : X :=
  (xRet (eCall F_paper_for (vCons (vE (eCall F_turned (vCons (vE (eVar 0)) vNil))) (vCons (vE (eVar 1)) (vCons (vE (eOp subD (eC (.int 1)) (eVar 2))) vNil)))))
noncomputable def f_paper_against : FS := fnS 3 (m_paper_against f_paper_for f_turned)

theorem all_ok {g : List Pl} (hg : Good g) (hst : Straight g) {ch : List (Nat × PyData) → PyData} (hc : ∀ z so, ∃ ds, ch (z :: so) = .tuple ds) {goal : Int} {F : List PyData → Option PyData} (hF : ∀ (p : Nat) (ms : List Nat), g[p]? = some (Pl.mv 0 ms) → someP (apH ch 0 goal g) ms ≠ [] → F [.list ((someP (apH ch 0 goal g) ms).map mqD)] = some (ch (someP (apH ch 0 goal g) ms))) (st : Sg) :
    ∃ o, f_all_papers [.dat (gD g), .dat (.int goal), .fn F] st = some (.ref st.length, st ++ [.dct (dOf (fun p => opD (apH ch 0 goal g p)) o)]) ∧ ∀ p, p < g.length → valG (dOf (fun p => opD (apH ch 0 goal g p)) o) (.inl (p : Int)) = some (opD (apH ch 0 goal g p)) := by
  obtain ⟨rk, hr⟩ := hst.rk
  have := all_papers_eq hg hst (ch := ch) (goal := goal) (F := F) (by rw [apH_0]; exact hF) (by rw [apH_0]; exact fun p q hp e => apH_tup hg hr hc hp e) st
  rw [apH_0] at this
  exact this
theorem paper_for_eq {g : List Pl} (hg : Good g) (hst : Straight g) {goal : Int} {p : Nat} (hp : p < g.length) (st : Sg) : f_paper_for [.dat (gD g), .dat (.int (p : Int)), .dat (.int goal)] st = some (.dat (opD (apH ch1 0 goal g p)), st) := by
  obtain ⟨o, e1, e2⟩ := all_ok hg hst (ch := ch1) (fun z so => ⟨_, rfl⟩) (goal := goal) (F := y_paper_for_1 f_all_papers) (fun p ms _ hne => lamF_wp rfl rfl (by
    generalize someP (apH ch1 0 goal g) ms = so at hne ⊢
    cases so with
    | nil => exact absurd rfl hne
    | cons a r =>
      have hix : ixD (.list ((a :: r).map mqD)) (.int 0) = some (mqD a) := ixD_lN (k := 0) rfl
      walk_at "vc"
      rfl)) st
  have e2 := e2 p hp
  unfold f_paper_for m_paper_for
  refine fok_is ?_
  walk_at "vfn"
  walk_at "vc"
  refine ⟨_, _, _, _, rfl, rfl, rfl, rfl, e2, ?_⟩
  walk_at "vc"
theorem paper_against_eq {g : List Pl} (hg : Good g) (hst : Straight g) {goal : Int} {p : Nat} (hp : p < g.length) (st : Sg) : f_paper_against [.dat (gD g), .dat (.int (p : Int)), .dat (.int goal)] st = some (.dat (opD (apH ch1 1 goal g p)), st) := by
  obtain ⟨rk, hr⟩ := hst.rk
  have h1 := turned_eq (g := g) (by have := hg.len; omega) st
  have hst2 : Straight (g.map turnP) := ⟨rk, fun p x m hx hm => (turn_rk hr).dn p x m hx hm, fun p hp => (turn_rk hr).lt p hp⟩
  have h2 := paper_for_eq (turnP_good hg) hst2 (goal := 1 - goal) (p := p) (by rw [List.length_map]; exact hp) st
  rw [apH_turn hg hr (rk p + 1) p (Nat.lt_succ_self _) hp] at h2
  unfold f_paper_against m_paper_against
  refine fok_is ?_
  walk_at "vfn"
  walk_at "vc"

end
section
local macro_rules | `(tactic| walk_at "op") => `(tactic| ((with_reducible apply ixD_g); assumption))
local macro_rules | `(tactic| walk_at "bi") => `(tactic| with_reducible exact lenD_g)
local macro_rules | `(tactic| walk_at "bi") => `(tactic| with_reducible exact lenD_n)
local macro_rules | `(tactic| walk_at "cl") => `(tactic| ((with_reducible apply draw_eq) <;> first | omega | assumption))
local macro_rules | `(tactic| walk_at "cl") => `(tactic| ((with_reducible apply dworth_eq) <;> first | omega | assumption))
local macro_rules | `(tactic| walk_at "bi") => `(tactic| first | with_reducible exact lenD_gD _ | with_reducible exact lenD_nD _ | with_reducible exact lenD_nL _ | with_reducible exact gX_at (by assumption))
local macro_rules | `(tactic| walk_at "cq") => `(tactic| ((with_reducible apply moves_of_eq); first | omega | assumption))
local macro_rules | `(tactic| walk_at "cq") => `(tactic| ((with_reducible apply choice_eq) <;> assumption))
local macro_rules | `(tactic| walk_at "cq") => `(tactic| ((with_reducible apply worths_eq) <;> assumption))
local macro_rules | `(tactic| walk_at "bi") => `(tactic| first | ((with_reducible apply wors_ix); assumption) | ((with_reducible apply wors_ixL); assumption))
local macro_rules | `(tactic| walk_at "bi") => `(tactic| with_reducible rfl)
local macro_rules | `(tactic| walk_at "cq") => `(tactic| ((with_reducible apply turned_eq); omega))
local macro_rules | `(tactic| walk_at "cq") => `(tactic| ((with_reducible apply forced_eq); assumption))
local macro_rules | `(tactic| walk_at "bi") => `(tactic| first | ((with_reducible apply rks_ix); assumption) | ((with_reducible apply rks_ixL); assumption))
local macro_rules | `(tactic| walk_at "xx") => `(tactic| with_reducible refine wp_iZpT ?_)
local macro_rules | `(tactic| walk_at "v") => `(tactic| with_reducible refine wp_eRevT ?_)
local macro_rules | `(tactic| walk_at "cq") => `(tactic| ((with_reducible apply l_moves_eq); first | omega | assumption))
local macro_rules | `(tactic| walk_at "cq") => `(tactic| ((with_reducible apply l_worth_eq) <;> assumption))
/-! ### the first paper by hand; how many papers -/
theorem someP_op {f : Nat → Option PyData} : ∀ {ms : List Nat}, (someP f ms).length = ms.length → ms.map (fun m => opD (f m)) = (someP f ms).map (·.2)
  | [], _ => rfl
  | a :: r, h => by
    have hall := someP_all.mp h
    have ih := someP_op (f := f) (ms := r) (someP_all.mpr fun m hm => hall m (List.mem_cons_of_mem _ hm))
    have ha := hall a List.mem_cons_self
    unfold someP at ih ⊢
    rw [List.filterMap_cons]
    cases e : f a with
    | none => exact absurd e ha
    | some q =>
      rw [List.map_cons, ih, e]
      rfl
/-! ### how many -/
def cnF (goal : Int) (f : Nat → Int) : Pl → Int
  | .fin w => if goal ≤ w then 1 else 0
  | .mv s ms => if s = 0 then (ms.map f).sum else (ms.map f).foldl (· * ·) 1
def cntP (goal : Int) (g : List Pl) (p : Nat) : Int := valS 0 (cnF goal) g p
theorem cnF_loc {goal : Int} : Loc1 (cnF goal) := fun f f' x h => by
  cases x with
  | fin w => rfl
  | mv s ms =>
    have e : ms.map f = ms.map f' := List.map_congr_left h
    unfold cnF
    simp only [e]
theorem cn_fin {goal : Int} {g : List Pl} {rk : Nat → Nat} (h : Rk g rk) {p : Nat} {w : Int} (e : g[p]? = some (.fin w)) : cntP goal g p = if goal ≤ w then 1 else 0 := val_eq cnF_loc h e
theorem cn_mv {goal : Int} {g : List Pl} {rk : Nat → Nat} (h : Rk g rk) {p : Nat} {s : Int} {ms : List Nat} (e : g[p]? = some (.mv s ms)) : cntP goal g p = if s = 0 then (ms.map (cntP goal g)).sum else (ms.map (cntP goal g)).foldl (· * ·) 1 := val_eq cnF_loc h e
theorem dOf_new {f : Nat → PyData} {ps : List Nat} {p : Nat} (h : p ∉ ps) (v : PyData) : putG (dOf f ps) (.inl (p : Int)) v = dOf f ps ++ [(kN p, v)] := putG_new fun kv hkv => by
  obtain ⟨q, hq, rfl⟩ := List.mem_map.mp hkv
  exact fun z => h (by rw [← kN_inj (q := p) z]; exact hq)
theorem dOf_one1 {f : Nat → PyData} {ps : List Nat} {p m : Nat} (h : m ∈ ps) (v : PyData) : valG (dOf f ps ++ [(kN p, v)]) (.inl (m : Int)) = some (f m) := by
  have h1 := dOf_get (f := f) h
  unfold valG at h1 ⊢
  rw [List.find?_append]
  cases e : (dOf f ps).find? (fun kv => decide (kv.1 = .inl (m : Int))) with
  | none => rw [e] at h1; cases h1
  | some kv => rw [e] at h1; exact h1
theorem dOf_one2 {f : Nat → PyData} {ps : List Nat} {p : Nat} (h : p ∉ ps) (v : PyData) : valG (dOf f ps ++ [(kN p, v)]) (.inl (p : Int)) = some v := by
  have h1 := dOf_none (f := f) h
  unfold valG at h1 ⊢
  rw [List.find?_append, Option.map_eq_none_iff.mp h1, Option.none_or]
  rw [List.find?_cons_of_pos (by simp [kN])]
  rfl
theorem dOf_again {f : Nat → PyData} {ps : List Nat} {p : Nat} (h : p ∉ ps) (v w : PyData) : putG (dOf f ps ++ [(kN p, v)]) (.inl (p : Int)) w = dOf f ps ++ [(kN p, w)] := by
  unfold putG
  rw [if_pos (by rw [List.any_append]; simp [kN]), List.map_append]
  congr 1
  · refine (List.map_congr_left fun kv hkv => ?_).trans (List.map_id _)
    obtain ⟨q, hq, rfl⟩ := List.mem_map.mp hkv
    show (if kN q = .inl (p : Int) then _ else _) = _
    rw [if_neg fun z => h (by rw [← kN_inj (q := p) z]; exact hq)]
    rfl
  · show [if kN p = .inl (p : Int) then (kN p, w) else (kN p, v)] = _
    rw [if_pos (show kN p = .inl (p : Int) from rfl)]
noncomputable def b_papers_in_all_1 (F_order_of : FS) : X :=
  (xDput 3 (eVar 4) (eOp mulD (eDget 3 (eVar 4)) (eDget 3 (eVar 7))))
noncomputable def b_papers_in_all_2 (F_order_of : FS) : X :=
  (xSeq (xAsgG (gTp 2 (gsCons (gNm 5) (gsCons (gNm 6) gsNil))) (eOp ixD (eVar 0) (eVar 4)))
    (xIf (bTest (eOp eqD (eVar 5) (eC (.str "end"))))
      (xDput 3 (eVar 4) (eCB intD (aCons (eOp geD (eVar 6) (eVar 2)) aNil)))
      (xIf (bTest (eOp eqD (eVar 5) (eC (.int 0))))
        (xDput 3 (eVar 4) (eCB sumD (aCons (eL (lLc [7] (iSq (eVar 6)) (gNm 7) bYes (eDget 3 (eVar 7)))) aNil)))
        (xSeq (xDput 3 (eVar 4) (eC (.int 1)))
        (xFor (iWipe [5, 6, 7] (iSq (eVar 6))) (gNm 7)
          (xKeep [5, 6, 7] (b_papers_in_all_1 F_order_of)))))))
noncomputable def m_papers_in_all (F_order_of : FS) : X :=
  (xSeq (xAsgC 3 lDnew)
  (xSeq (xFor (iWipe [4, 5, 6, 7] (iSq (eCall F_order_of (vCons (vE (eVar 0)) vNil)))) (gNm 4)
    (xKeep [4, 5, 6, 7] (b_papers_in_all_2 F_order_of)))
  (xRet (eDget 3 (eVar 1)))))
noncomputable def f_papers_in_all : FS := fnS 8 (m_papers_in_all f_order_of)

/-- in a product of some of them one of two has few bits -/
def NotBig (g : List Pl) (val : Nat → Int) : Prop := ∀ (p : Nat) (ms : List Nat), g[p]? = some (Pl.mv 1 ms) → ∀ pre m post, ms = pre ++ m :: post → (decide (-(2 ^ 64) < (pre.map val).foldl (· * ·) 1) && decide ((pre.map val).foldl (· * ·) 1 < 2 ^ 64) || (decide (-(2 ^ 64) < val m) && decide (val m < 2 ^ 64))) = true
set_option maxHeartbeats 4000000 in
theorem papers_in_all_eq {g : List Pl} (hg : Good g) (hst : Straight g) {goal : Int} (hnb : NotBig g (cntP goal g)) {p0 : Nat} (hp0 : p0 < g.length) (st : Sg) : f_papers_in_all [.dat (gD g), .dat (.int (p0 : Int)), .dat (.int goal)] st = some (.dat (.int (cntP goal g p0)), st) := by
  obtain ⟨rk, hrk⟩ := hst.rk
  obtain ⟨o, ho, ht⟩ := ord_topo hg hst
  have hl := hg.len
  have hoe := order_of_eq hg st
  rw [ho] at hoe
  have hol : o.length = g.length := by rw [ht.perm.length_eq, List.length_range]
  have hv0 : valG (dOf (fun p => .int (cntP goal g p)) o) (.inl (p0 : Int)) = some (.int (cntP goal g p0)) := dOf_get (ht.perm.mem_iff.mpr (List.mem_range.mpr hp0))
  unfold f_papers_in_all m_papers_in_all
  refine fok_is ?_
  walk_at "vfn"
  walk_at "vc"
  refine wp_forS o (fun p => .int (p : Nat)) (fun pre => [.dat (gD g), .dat (.int (p0 : Nat)), .dat (.int goal), .dct (dOf (fun p => .int (cntP goal g p)) pre), .no, .no, .no, .no]) (fun _ => st) (fun pre s => s = pre) [] rfl ?_ ?_
  · rintro pre p post s e rfl
    have hi : o[s.length]? = some p := by rw [e]; simp
    have htk : o.take s.length = s := by rw [e]; simp
    have hmv := ht.dn _ _ hi
    rw [htk] at hmv
    have hp : p < g.length := List.mem_range.mp (ht.perm.mem_iff.mp (List.mem_of_getElem? hi))
    have hnd : o.Nodup := ht.perm.nodup_iff.mpr List.nodup_range
    have hpn : p ∉ s := fun z => by
      rw [e, List.nodup_append] at hnd
      exact hnd.2.2 p z p List.mem_cons_self rfl
    have hsl : s.length < 3000000 := by
      have := (List.getElem?_eq_some_iff.mp hi).1
      omega
    have hdl : (dOf (fun p => PyData.int (cntP goal g p)) s).length < 3000000 := by rw [dOf_len]; exact hsl
    have hx : g[p]? = some g[p] := List.getElem?_eq_getElem hp
    generalize g[p] = x at hx
    have hdx := ixD_g hx
    rw [mvs_eq hx] at hmv
    have hnew := fun v => dOf_new (f := fun p => PyData.int (cntP goal g p)) hpn v
    unfold b_papers_in_all_2
    cases x with
    | fin w =>
      have hv := cn_fin (goal := goal) hrk hx
      have hput : dOf (fun p => PyData.int (cntP goal g p)) s ++ [(kN p, .int (cntP goal g p))] = dOf (fun p => PyData.int (cntP goal g p)) (s ++ [p]) := by unfold dOf; rw [List.map_append]; rfl
      by_cases hw : goal ≤ w
      · have e2 : decide (goal ≤ w) = true := decide_eq_true hw
        rw [if_pos hw] at hv
        walk_at "vc"
        refine ⟨_, ?_, rfl, rfl⟩
        rw [← hput, hv, hnew, e2]
        rfl
      · have e2 : decide (goal ≤ w) = false := decide_eq_false hw
        rw [if_neg hw] at hv
        walk_at "vc"
        refine ⟨_, ?_, rfl, rfl⟩
        rw [← hput, hv, hnew, e2]
        rfl
    | mv sd ms =>
      obtain ⟨q1, q2, q3, q4, q5⟩ := hg.ok p _ hx
      have hv := cn_mv (goal := goal) hrk hx
      have hput : dOf (fun p => PyData.int (cntP goal g p)) s ++ [(kN p, .int (cntP goal g p))] = dOf (fun p => PyData.int (cntP goal g p)) (s ++ [p]) := by unfold dOf; rw [List.map_append]; rfl
      rcases q1 with rfl | rfl
      · rw [if_pos rfl] at hv
        walk_at "vc"
        refine lcw_map (xs := ms) (fun m => .int (m : Nat)) (fun m => .int (cntP goal g m)) (by rfl) (by rfl) (by omega) (by walk_at "wi") (fun m hm => ?_) ?_
        · have hgt := dOf_get (f := fun p => PyData.int (cntP goal g p)) (hmv m hm)
          walk_at "vc"
        · have hs := sumD_i (ns := ms.map (cntP goal g))
          rw [List.map_map, ← hv] at hs
          rw [show ms.map (fun m => PyData.int (cntP goal g m)) = ms.map (PyData.int ∘ cntP goal g) from rfl]
          walk_at "vc"
          refine ⟨_, ?_, rfl, rfl⟩
          rw [← hput, hnew]
          rfl
      · rw [if_neg (by decide)] at hv
        have hb := hnb p ms hx
        walk_at "vc"
        rw [hnew]
        refine wp_forS ms (fun m => .int (m : Nat)) (fun pre : List Nat => [.dat (gD g), .dat (.int (p0 : Nat)), .dat (.int goal), (.dct (dOf (fun p => PyData.int (cntP goal g p)) s ++ [(kN p, PyData.int ((pre.map (cntP goal g)).foldl (· * ·) 1))])), .dat (.int (p : Nat)), .no, .no, .no]) (fun _ => st) (fun pre s => s = pre) [] rfl ?_ ?_
        · rintro pre m post s2 e2 rfl
          have hmm : m ∈ ms := by rw [e2]; simp
          have hms := hmv m hmm
          have hbm := hb s2 m post e2
          have g1 := dOf_one1 (f := fun p => PyData.int (cntP goal g p)) (p := p) hms (PyData.int ((s2.map (cntP goal g)).foldl (· * ·) 1))
          have g2 := dOf_one2 (f := fun p => PyData.int (cntP goal g p)) hpn (PyData.int ((s2.map (cntP goal g)).foldl (· * ·) 1))
          have hmu : mulD (.int ((s2.map (cntP goal g)).foldl (· * ·) 1)) (.int (cntP goal g m)) = some (.int ((s2.map (cntP goal g)).foldl (· * ·) 1 * cntP goal g m)) := if_pos hbm
          have hln : (dOf (fun p => PyData.int (cntP goal g p)) s ++ [(kN p, PyData.int ((s2.map (cntP goal g)).foldl (· * ·) 1))]).length < 4000000 := by rw [List.length_append]; simp only [List.length_cons, List.length_nil]; omega
          unfold b_papers_in_all_1
          walk_at "vc"
          refine ⟨s2 ++ [m], ?_, rfl, rfl⟩
          rw [dOf_again hpn, List.map_append, List.foldl_append]
          rfl
        · rintro s2 rfl
          walk_at "vc"
          refine ⟨_, ?_, rfl, rfl⟩
          rw [← hput, hv]
          rfl
  · rintro s rfl
    walk_at "vc"

end
end
section
local macro_rules | `(tactic| walk_at "op") => `(tactic| ((with_reducible apply ixD_g); assumption))
local macro_rules | `(tactic| walk_at "bi") => `(tactic| with_reducible exact lenD_g)
local macro_rules | `(tactic| walk_at "bi") => `(tactic| with_reducible exact lenD_n)
local macro_rules | `(tactic| walk_at "cl") => `(tactic| ((with_reducible apply draw_eq) <;> first | omega | assumption))
local macro_rules | `(tactic| walk_at "cl") => `(tactic| ((with_reducible apply dworth_eq) <;> first | omega | assumption))
local macro_rules | `(tactic| walk_at "bi") => `(tactic| first | with_reducible exact lenD_gD _ | with_reducible exact lenD_nD _ | with_reducible exact lenD_nL _ | with_reducible exact gX_at (by assumption))
local macro_rules | `(tactic| walk_at "cq") => `(tactic| ((with_reducible apply moves_of_eq); first | omega | assumption))
local macro_rules | `(tactic| walk_at "cq") => `(tactic| ((with_reducible apply choice_eq) <;> assumption))
local macro_rules | `(tactic| walk_at "cq") => `(tactic| ((with_reducible apply worths_eq) <;> assumption))
local macro_rules | `(tactic| walk_at "bi") => `(tactic| first | ((with_reducible apply wors_ix); assumption) | ((with_reducible apply wors_ixL); assumption))
local macro_rules | `(tactic| walk_at "bi") => `(tactic| with_reducible rfl)
local macro_rules | `(tactic| walk_at "cq") => `(tactic| ((with_reducible apply turned_eq); omega))
local macro_rules | `(tactic| walk_at "cq") => `(tactic| ((with_reducible apply forced_eq); assumption))
local macro_rules | `(tactic| walk_at "bi") => `(tactic| first | ((with_reducible apply rks_ix); assumption) | ((with_reducible apply rks_ixL); assumption))
local macro_rules | `(tactic| walk_at "xx") => `(tactic| with_reducible refine wp_iZpT ?_)
local macro_rules | `(tactic| walk_at "v") => `(tactic| with_reducible refine wp_eRevT ?_)
local macro_rules | `(tactic| walk_at "cq") => `(tactic| ((with_reducible apply l_moves_eq); first | omega | assumption))
local macro_rules | `(tactic| walk_at "cq") => `(tactic| ((with_reducible apply l_worth_eq) <;> assumption))
/-! ### the paper with the fewest ends -/
theorem endsV_up : ∀ (k j : Nat) (d : PyData), tmN k d = true → k ≤ j → endsV j d = endsV k d
  | 0, j, d, h, _ => by
    cases d with
    | tuple ds => simp [tmN] at h
    | _ => cases j <;> rfl
  | k + 1, 0, d, h, hj => absurd hj (by omega)
  | k + 1, j + 1, d, h, hj => by
    cases d with
    | tuple ds =>
      rw [endsV_t, endsV_t]
      have hds := (tm_tup.mp h).2
      have e : (ds.filter isT).map (endsV j) = (ds.filter isT).map (endsV k) := List.map_congr_left fun d hd => endsV_up k j d (hds d (List.mem_filter.mp hd).1) (by omega)
      rw [e]
    | _ => rfl
theorem pd_tm {k : Nat} {d : PyData} (h : pdN k d = true) : tmN k d = true := sm_tm _ _ (pd_sm _ _ h)
def eV (d : PyData) : Int := endsV 35 d
theorem eV_nil : eV (.tuple []) = 1 := rfl
theorem eV_row {k : Nat} (hk : k ≤ 30) {ds : List PyData} (hn : ds ≠ []) (hd : ∀ d ∈ ds, pdN k d = true) : eV (.tuple ds) = (ds.map eV).sum := by
  unfold eV
  rw [endsV_t, if_neg (by cases ds with | nil => exact absurd rfl hn | cons a r => simp)]
  have e1 : ds.filter isT = ds := List.filter_eq_self.mpr fun d hd' => by
    obtain ⟨j, es, _, rfl⟩ := pd_is (hd d hd')
    rfl
  rw [e1]
  refine congrArg List.sum (List.map_congr_left fun d hd' => ?_)
  have h := pd_tm (hd d hd')
  rw [endsV_up k 34 d h (by omega), endsV_up k 35 d h (by omega)]
theorem eV_own {k : Nat} (hk : k ≤ 30) {z : Nat × PyData} (hz : pdN k z.2 = true) : eV (mqD z) = eV z.2 := by
  obtain ⟨m, q⟩ := z
  unfold eV mqD
  rw [endsV_t, if_neg (by simp)]
  obtain ⟨j, es, _, rfl⟩ := pd_is hz
  have e1 : ([PyData.int (m : Nat), .tuple es] : List PyData).filter isT = [.tuple es] := rfl
  rw [e1]
  have h := pd_tm hz
  simp only [List.map_cons, List.map_nil, List.sum_cons, List.sum_nil, Int.add_zero]
  rw [endsV_up k 34 _ h (by omega), endsV_up k 35 _ h (by omega)]
/-! the least of a row -/
theorem best_all (zs : List Int) : ∀ k, k < zs.length → argBest (fun i j => decide (zs.getD i 0 < zs.getD j 0)) k < zs.length ∧ ∀ j, j ≤ k → zs.getD (argBest (fun i j => decide (zs.getD i 0 < zs.getD j 0)) k) 0 ≤ zs.getD j 0
  | 0, h => ⟨h, fun j hj => by rw [Nat.le_zero.mp hj]; exact Int.le_refl _⟩
  | k + 1, h => by
    obtain ⟨h1, h2⟩ := best_all zs k (by omega)
    have e : argBest (fun i j => decide (zs.getD i 0 < zs.getD j 0)) (k + 1) = if decide (zs.getD (k + 1) 0 < zs.getD (argBest (fun i j => decide (zs.getD i 0 < zs.getD j 0)) k) 0) = true then k + 1 else argBest (fun i j => decide (zs.getD i 0 < zs.getD j 0)) k := rfl
    rw [e]
    split
    · rename_i hb
      have hb := of_decide_eq_true hb
      refine ⟨h, fun j hj => ?_⟩
      by_cases e : j = k + 1
      · rw [e]; exact Int.le_refl _
      · have := h2 j (by omega); omega
    · rename_i hb
      have hb : ¬ zs.getD (k + 1) 0 < zs.getD (argBest (fun i j => decide (zs.getD i 0 < zs.getD j 0)) k) 0 := fun z => hb (decide_eq_true z)
      refine ⟨h1, fun j hj => ?_⟩
      by_cases e : j = k + 1
      · rw [e]; omega
      · exact h2 j (by omega)
theorem bestZ_ok {zs : List Int} (h : 0 < zs.length) : bestZ zs < zs.length ∧ ∀ j, j < zs.length → zs.getD (bestZ zs) 0 ≤ zs.getD j 0 := by
  obtain ⟨h1, h2⟩ := best_all zs (zs.length - 1) (by omega)
  exact ⟨h1, fun j hj => h2 j (by omega)⟩
def chL (so : List (Nat × PyData)) : PyData := mqD (so.getD (bestZ (so.map fun z => eV z.2)) (0, .none))
theorem chL_ok {so : List (Nat × PyData)} (h : so ≠ []) : ∃ z ∈ so, chL so = mqD z ∧ ∀ y ∈ so, eV z.2 ≤ eV y.2 := by
  have hl : 0 < (so.map fun z => eV z.2).length := by rw [List.length_map]; exact List.length_pos_iff.mpr h
  obtain ⟨h1, h2⟩ := bestZ_ok hl
  unfold chL
  generalize bestZ (so.map fun z => eV z.2) = b at h1 h2
  rw [List.length_map] at h1 h2
  have hb : so[b]? = some so[b] := List.getElem?_eq_getElem h1
  refine ⟨so[b], List.getElem_mem h1, by rw [List.getD_eq_getElem?_getD, hb]; rfl, fun y hy => ?_⟩
  obtain ⟨j, hj, rfl⟩ := List.mem_iff_getElem.mp hy
  have := h2 j hj
  rw [List.getD_eq_getElem?_getD, List.getD_eq_getElem?_getD, List.getElem?_map, List.getElem?_map, hb, List.getElem?_eq_getElem hj] at this
  exact this
/-! it is one of all -/
theorem rowsL_in {F : Nat → List PyData} {f : Nat → PyData} : ∀ {ms : List Nat}, (∀ m ∈ ms, f m ∈ F m) → ms.map f ∈ rowsL F ms := by
  have key : ∀ (ms : List Nat) (rows : List (List PyData)) (r : List PyData), r ∈ rows → (∀ m ∈ ms, f m ∈ F m) → r ++ ms.map f ∈ ms.foldl (fun rows m => rows.flatMap fun r => (F m).map fun q => r ++ [q]) rows := by
    intro ms
    induction ms with
    | nil => intro rows r hr _; rw [List.map_nil, List.append_nil]; exact hr
    | cons m rest ih =>
      intro rows r hr h
      rw [List.foldl_cons, List.map_cons, show r ++ f m :: rest.map f = (r ++ [f m]) ++ rest.map f by simp]
      exact ih _ _ (List.mem_flatMap.mpr ⟨r, hr, List.mem_map.mpr ⟨f m, h m List.mem_cons_self, rfl⟩⟩) fun x hx => h x (List.mem_cons_of_mem _ hx)
  intro ms h
  exact key ms [[]] [] (by simp) h
/-- each part of a row is one of its move's -/
theorem rowsL_at {F : Nat → List PyData} : ∀ {ms : List Nat} {r : List PyData}, r ∈ rowsL F ms → r.length = ms.length ∧ ∀ z ∈ ms.zip r, z.2 ∈ F z.1 := by
  have key : ∀ (ms : List Nat) (pre : List Nat) (rows : List (List PyData)), (∀ r ∈ rows, r.length = pre.length ∧ ∀ z ∈ pre.zip r, z.2 ∈ F z.1) → ∀ r ∈ ms.foldl (fun rows m => rows.flatMap fun r => (F m).map fun q => r ++ [q]) rows, r.length = (pre ++ ms).length ∧ ∀ z ∈ (pre ++ ms).zip r, z.2 ∈ F z.1 := by
    intro ms
    induction ms with
    | nil => intro pre rows h r hr; rw [List.append_nil]; exact h r hr
    | cons m rest ih =>
      intro pre rows h r hr
      rw [List.foldl_cons] at hr
      have := ih (pre ++ [m]) _ (fun x hx => ?_) r hr
      · rw [List.append_assoc] at this; exact this
      · obtain ⟨y, hy, hx⟩ := List.mem_flatMap.mp hx
        obtain ⟨q, hq, rfl⟩ := List.mem_map.mp hx
        obtain ⟨k1, k2⟩ := h y hy
        refine ⟨by simp [k1], fun z hz => ?_⟩
        rw [List.zip_append k1.symm] at hz
        rcases List.mem_append.mp hz with hz | hz
        · exact k2 z hz
        · rw [show [m].zip [q] = [(m, q)] from rfl, List.mem_singleton] at hz
          rw [hz]; exact hq
  intro ms r hr
  exact key ms [] [[]] (fun r hr => by rw [List.mem_singleton.mp hr]; exact ⟨rfl, fun z hz => nomatch hz⟩) r hr
section
variable {ch : List (Nat × PyData) → PyData} {hand goal : Int} {g : List Pl} {rk : Nat → Nat}
theorem apH_mem (hg : Good g) (h : Rk g rk) (hc : ∀ so, so ≠ [] → ∃ z ∈ so, ch so = mqD z) : ∀ (n p : Nat) (q : PyData), rk p < n → p < g.length → apH ch hand goal g p = some q → q ∈ ppL g goal hand n p
  | 0, p, q, h0, _, _ => absurd h0 (Nat.not_lt_zero _)
  | n + 1, p, q, h0, hp, e => by
    have hx : g[p]? = some g[p] := List.getElem?_eq_getElem hp
    generalize g[p] = x at hx
    cases x with
    | fin w =>
      rw [aph_fin h hx] at e
      rw [ppL_fin hx]
      split at e
      · rename_i hgd; rw [if_pos hgd]; cases e; exact List.mem_singleton.mpr rfl
      · cases e
    | mv s ms =>
      obtain ⟨q1, q2, q3, q4, q5⟩ := hg.ok p _ hx
      have ih : ∀ m ∈ ms, ∀ q, apH ch hand goal g m = some q → q ∈ ppL g goal hand n m := fun m hm q e => by
        have := h.dn p _ m hx hm
        exact apH_mem hg h hc n m q (by omega) (q4 m hm) e
      rw [aph_mv h hx] at e
      by_cases hs : s = hand
      · subst hs
        rw [ppL_own hx]
        rw [if_pos rfl] at e
        split at e
        · cases e
        · rename_i hne
          cases e
          obtain ⟨z, hz, ez⟩ := hc _ hne
          obtain ⟨z1, z2⟩ := someP_mem hz
          rw [ez]
          exact List.mem_flatMap.mpr ⟨z.1, z1, List.mem_map.mpr ⟨z.2, ih z.1 z1 z.2 z2, rfl⟩⟩
      · rw [ppL_oth hs hx]
        rw [if_neg hs] at e
        split at e
        · rename_i hle
          cases e
          rw [← someP_op hle]
          have hall := someP_all.mp hle
          refine List.mem_map.mpr ⟨_, rowsL_in (F := ppL g goal hand n) (f := fun m => opD (apH ch hand goal g m)) (fun m hm => ?_), rfl⟩
          cases e2 : apH ch hand goal g m with
          | none => exact absurd e2 (hall m hm)
          | some q => exact ih m hm q e2
        · cases e
/-- there is one as soon as there is any; the least has the fewest ends -/
theorem apL_least (hg : Good g) (h : Rk g rk) : ∀ (n p : Nat) (q' : PyData), rk p < n → n ≤ 30 → p < g.length → q' ∈ ppL g goal hand n p → ∃ q, apH chL hand goal g p = some q ∧ eV q ≤ eV q'
  | 0, p, q', h0, _, _, _ => absurd h0 (Nat.not_lt_zero _)
  | n + 1, p, q', h0, hn, hp, e => by
    have hx : g[p]? = some g[p] := List.getElem?_eq_getElem hp
    generalize g[p] = x at hx
    cases x with
    | fin w =>
      rw [ppL_fin hx] at e
      rw [aph_fin h hx]
      split at e
      · rename_i hgd; rw [if_pos hgd]; rw [List.mem_singleton.mp e]; exact ⟨_, rfl, Int.le_refl _⟩
      · cases e
    | mv s ms =>
      obtain ⟨q1, q2, q3, q4, q5⟩ := hg.ok p _ hx
      have ih : ∀ m ∈ ms, ∀ q' ∈ ppL g goal hand n m, ∃ q, apH chL hand goal g m = some q ∧ eV q ≤ eV q' := fun m hm q' e => by
        have := h.dn p _ m hx hm
        exact apL_least hg h n m q' (by omega) (by omega) (q4 m hm) e
      have hpd : ∀ m ∈ ms, ∀ q, apH chL hand goal g m = some q → pdN n q = true := fun m hm q e => by
        have := h.dn p _ m hx hm
        exact ppL_pd hg n m (q4 m hm) q (apH_mem hg h (fun so hso => by obtain ⟨z, hz, ez, _⟩ := chL_ok hso; exact ⟨z, hz, ez⟩) n m q (by omega) (q4 m hm) e)
      rw [aph_mv h hx]
      by_cases hs : s = hand
      · subst hs
        rw [ppL_own hx] at e
        obtain ⟨m, hm, e⟩ := List.mem_flatMap.mp e
        obtain ⟨r, hr, rfl⟩ := List.mem_map.mp e
        obtain ⟨q, hq, hle⟩ := ih m hm r hr
        have hin : (m, q) ∈ someP (apH chL s goal g) ms := List.mem_filterMap.mpr ⟨m, hm, by rw [hq]; rfl⟩
        have hne : someP (apH chL s goal g) ms ≠ [] := fun z => by rw [z] at hin; cases hin
        obtain ⟨z, hz, ez, hmin⟩ := chL_ok hne
        obtain ⟨z1, z2⟩ := someP_mem hz
        rw [if_pos rfl, if_neg hne]
        refine ⟨_, rfl, ?_⟩
        have h1 := hmin _ hin
        have h2 := eV_own (k := n) (by omega) (hpd z.1 z1 z.2 z2)
        have h3 := eV_own (k := n) (z := (m, r)) (by omega) (ppL_pd hg n m (q4 m hm) r hr)
        rw [ez, h2]
        have h3 : eV (mqD (m, r)) = eV r := h3
        have h1 : eV z.2 ≤ eV q := h1
        have h4 : eV (.tuple [.int (m : Nat), r]) = eV r := h3
        rw [h4]
        omega
      · rw [ppL_oth hs hx] at e
        obtain ⟨row, hrow, rfl⟩ := List.mem_map.mp e
        obtain ⟨r1, r2⟩ := rowsL_at hrow
        have hat : ∀ m ∈ ms, ∃ q, apH chL hand goal g m = some q := fun m hm => by
          obtain ⟨i, hi, rfl⟩ := List.mem_iff_getElem.mp hm
          have hz : (ms[i], row[i]'(by omega)) ∈ ms.zip row := List.mem_of_getElem? (i := i) (by rw [List.getElem?_zip_eq_some]; exact ⟨List.getElem?_eq_getElem hi, List.getElem?_eq_getElem (by omega)⟩)
          obtain ⟨q, hq, _⟩ := ih _ (List.getElem_mem hi) _ (r2 _ hz)
          exact ⟨q, hq⟩
        have hle : (someP (apH chL hand goal g) ms).length = ms.length := someP_all.mpr fun m hm z => by
          obtain ⟨q, hq⟩ := hat m hm
          rw [hq] at z; cases z
        rw [if_neg hs, if_pos hle, ← someP_op hle]
        refine ⟨_, rfl, ?_⟩
        have hne : ms.map (fun m => opD (apH chL hand goal g m)) ≠ [] := by simpa using q2
        have hne2 : row ≠ [] := fun z => by rw [z] at r1; exact q2 (List.length_eq_zero_iff.mp r1.symm)
        rw [eV_row (k := n) (by omega) hne fun d hd => ?_, eV_row (k := n) (by omega) hne2 fun d hd => ?_]
        · rw [List.map_map]
          have sums : ∀ (ms : List Nat) (row : List PyData), row.length = ms.length → (∀ z ∈ ms.zip row, eV (opD (apH chL hand goal g z.1)) ≤ eV z.2) → (ms.map (eV ∘ fun m => opD (apH chL hand goal g m))).sum ≤ (row.map eV).sum := by
            intro ms
            induction ms with
            | nil => intro row hl _; rw [List.length_eq_zero_iff.mp hl]; exact Int.le_refl _
            | cons a rest ih2 =>
              intro row hl hz
              cases row with
              | nil => cases hl
              | cons b row =>
                have e1 := hz (a, b) List.mem_cons_self
                have e2 := ih2 row (by simpa using hl) fun z hzz => hz z (List.mem_cons_of_mem _ hzz)
                simp only [List.map_cons, List.sum_cons, Function.comp] at e1 e2 ⊢
                omega
          refine sums ms row r1 fun z hz => ?_
          obtain ⟨q, hq, hle2⟩ := ih z.1 (List.of_mem_zip hz).1 z.2 (r2 z hz)
          rw [hq]
          exact hle2
        · obtain ⟨i, hi, rfl⟩ := List.mem_iff_getElem.mp hd
          have hz : (ms[i]'(by omega), row[i]) ∈ ms.zip row := List.mem_of_getElem? (i := i) (by rw [List.getElem?_zip_eq_some]; exact ⟨List.getElem?_eq_getElem (by omega), List.getElem?_eq_getElem hi⟩)
          exact ppL_pd hg n _ (q4 _ (List.getElem_mem (by omega))) _ (r2 _ hz)
        · obtain ⟨m, hm, rfl⟩ := List.mem_map.mp hd
          obtain ⟨q, hq⟩ := hat m hm
          rw [hq]
          exact hpd m hm q hq
end

end
section
local macro_rules | `(tactic| walk_at "cq") => `(tactic| with_reducible assumption)
local macro_rules | `(tactic| walk_at "le") => `(tactic| first | omega | (simp only [List.length_cons, List.length_nil, List.length_append, List.length_map, List.length_set, List.length_range, nD_len]; omega) | decide)
local macro_rules | `(tactic| walk_at "sr") => `(tactic| ((repeat (with_reducible apply SetR.s)); with_reducible exact SetR.z))
local macro_rules | `(tactic| walk_at "ha") => `(tactic| first | walk_at "op" | with_reducible exact truO_b | with_reducible exact truO_l | with_reducible exact truO_t | with_reducible exact truO_n | with_reducible exact truO_i | walk_at "at" | walk_at "bi" | walk_at "dg" | with_reducible rfl | rfl)
local macro_rules | `(tactic| walk_at "v") => `(tactic| first
  | with_reducible refine wp_seq ?_
  | ((with_reducible apply wp_eVar); (rfl))
  | with_reducible refine wp_eC ?_
  | with_reducible refine wp_eOp ?_
  | with_reducible refine has_some ?_
  | ((with_reducible apply hasG_nm); (walk_at "sr"))
  | ((with_reducible apply hasG_tp); (rfl); (rfl))
  | with_reducible refine hasG_cons ?_
  | with_reducible refine hasG_nil ?_
  | ((with_reducible apply has_of); (walk_at "ha"))
  | with_reducible refine wp_eCall ?_
  | with_reducible refine wp_vE ?_
  | ((with_reducible apply wp_vR); (rfl))
  | with_reducible refine wp_vNil ?_
  | ((with_reducible apply fok_eq); (walk_at "cq"))
  | with_reducible refine wp_asg ?_
  | with_reducible refine wp_asgG ?_
  | with_reducible refine wp_asgL ?_
  | with_reducible refine wp_if ?_
  | with_reducible refine wp_ret ?_
  | with_reducible refine seqK_ret ?_
  | with_reducible refine retK_ret ?_
  | with_reducible refine wp_bTest ?_
  | with_reducible refine wp_bTru ?_
  | with_reducible refine wp_bNot ?_
  | with_reducible refine wp_eCB ?_
  | with_reducible refine wp_aCons ?_
  | with_reducible refine wp_aNil ?_
  | with_reducible refine wp_eUn ?_
  | with_reducible refine wp_eTup ?_
  | with_reducible refine wp_eL ?_
  | with_reducible refine wp_lLst ?_
  | with_reducible refine wp_eIf ?_
  | with_reducible refine wp_for ?_
  | with_reducible refine wp_iWipe ?_
  | with_reducible refine wp_iSq ?_
  | with_reducible refine wp_iRg1 ?_
  | with_reducible refine wp_iRg2 ?_
  | with_reducible refine wp_keep ?_
  | with_reducible refine wp_pre ?_
  | with_reducible refine wp_next ?_
  | with_reducible refine wp_break ?_
  | with_reducible refine wp_cont ?_
  | with_reducible refine bodyK_nx ?_
  | with_reducible refine bodyK_ct ?_
  | with_reducible refine bodyK_bk ?_
  | with_reducible refine bodyK_ret ?_
  | with_reducible refine seqK_bk ?_
  | with_reducible refine seqK_ct ?_
  | with_reducible refine retK_nx ?_
  | with_reducible refine wp_forNil ?_
  | with_reducible refine wp_eIsN ?_
  | with_reducible refine wp_eNotN ?_
  | with_reducible refine wp_eNot ?_
  | ((with_reducible apply wp_eIxV); (rfl))
  | ((with_reducible apply wp_eLenV); (rfl))
  | ((with_reducible apply wp_eTupleV); (rfl))
  | ((with_reducible apply wp_eSlV); (rfl))
  | with_reducible refine wp_eSl ?_
  | with_reducible refine wp_oNone ?_
  | with_reducible refine wp_oSome ?_
  | with_reducible refine wp_eInV ?_
  | ((with_reducible apply wp_ePopO); (rfl); (walk_at "gt"); (walk_at "sr"))
  | ((with_reducible apply wp_eDget); (exact ⟨_, rfl⟩))
  | ((with_reducible apply wp_eDget2); (exact ⟨_, rfl⟩))
  | with_reducible refine wp_eDin ?_
  | with_reducible refine wp_eDnot ?_
  | ((with_reducible apply wp_eLenD); (rfl))
  | with_reducible refine wp_eIsi ?_
  | with_reducible refine wp_eCallK ?_
  | with_reducible refine wp_eCallD ?_
  | with_reducible refine wp_lList ?_
  | with_reducible refine wp_lListRg ?_
  | with_reducible refine wp_lListRg2 ?_
  | with_reducible refine wp_iEn ?_
  | with_reducible refine wp_iEnA ?_
  | with_reducible refine wp_kSet ?_
  | with_reducible refine wp_kSc ?_
  | with_reducible refine wp_sortS ?_
  | with_reducible refine wp_lenS ?_
  | with_reducible refine wp_lRev ?_
  | with_reducible refine wp_lRep ?_
  | ((with_reducible apply wp_lListV); (rfl))
  | ((with_reducible apply wp_lKeys); (rfl))
  | ((with_reducible apply wp_lVals); (rfl))
  | with_reducible refine wp_vNewD ?_
  | with_reducible refine wp_eMinDef ?_
  | with_reducible refine wp_lLc ?_
  | with_reducible refine wp_bYes ?_
  | ((with_reducible apply wp_bTruV); (rfl))
  | ((with_reducible apply wp_bTruD); (rfl))
  | with_reducible refine wp_bIf ?_
  | with_reducible refine wp_lDnew ?_
  | with_reducible refine wp_lDc ?_
  | with_reducible refine wp_asgC ?_
  | with_reducible refine wp_newL ?_
  | with_reducible refine wp_retN ?_
  | with_reducible refine wp_drop ?_
  | ((with_reducible apply wp_app); (exact ⟨_, rfl⟩))
  | with_reducible refine wp_setI ?_
  | ((with_reducible apply wp_aug); (rfl))
  | ((with_reducible apply wp_frzO); (rfl); (walk_at "sr"))
  | ((with_reducible apply wp_frzD); (rfl))
  | with_reducible refine wp_par ?_
  | with_reducible refine wp_parDL ?_
  | with_reducible refine wp_parLD ?_
  | with_reducible refine wp_parLL ?_
  | with_reducible refine wp_par3 ?_
  | with_reducible refine wp_parCL ?_
  | with_reducible refine wp_lDone ?_
  | ((with_reducible apply wp_lSortK); (rfl))
  | with_reducible refine wp_eIndex ?_
  | ((with_reducible apply wp_eIndexV); (rfl))
  | with_reducible refine wp_eInDV ?_
  | with_reducible refine wp_dput ?_
  | ((with_reducible apply wp_dpop); (exact ⟨_, rfl⟩))
  | with_reducible refine wp_tup2 ?_
  | with_reducible refine wp_tup3 ?_
  | with_reducible refine wp_tup4 ?_
  | with_reducible refine wp_uNil ?_
  | with_reducible refine wp_uD ?_
  | with_reducible refine wp_uL ?_
  | with_reducible refine wp_uC ?_
  | with_reducible refine wp_vLam ?_
  | ((with_reducible apply wp_vFn); (rfl))
  | ((with_reducible apply wp_eCallF); (rfl))
  | ((with_reducible apply wp_retD); (rfl))
  | with_reducible refine wp_callDg ?_
  | with_reducible refine wp_sortBy ?_
  | ((with_reducible apply ex_one); (rfl))
  | with_reducible refine wp_eChain ?_
  | ((with_reducible refine wp_bAnd ?_); (repeat walk_at "v"); walk_at "br")
  | ((with_reducible refine wp_bOr ?_); (repeat walk_at "v"); walk_at "br")
  | ((with_reducible refine wp_eAnd ?_); (repeat walk_at "v"); walk_at "br")
  | ((with_reducible refine wp_eOr ?_); (repeat walk_at "v"); walk_at "br")
  | with_reducible refine wp_bAndB ?_
  | with_reducible refine wp_bOrB ?_
  | with_reducible refine wp_eAndB ?_
  | with_reducible refine wp_eOrB ?_
  | walk_at "xx")
local macro_rules | `(tactic| walk_at "nk") => `(tactic| ((repeat walk_at "v"); first | exact ⟨rfl, rfl, rfl⟩ | exact ⟨rfl, rfl, by walk_at "op"⟩))
local macro_rules | `(tactic| walk_at "lt2") => `(tactic| first | omega | exact ⟨by omega, by omega⟩ | (simp only [List.length_cons, List.length_nil, List.length_append, List.length_map, List.length_set, nD_len]; omega))
local macro_rules | `(tactic| walk_at "ky") => `(tactic| first | with_reducible exact keyO_i | with_reducible exact keyO_s | rfl)
local macro_rules | `(tactic| walk_at "xx") => `(tactic| first
  | ((with_reducible apply ex_set); (walk_at "sr"))
  | with_reducible refine ex_bool ?_
  | with_reducible refine ex_dat ?_
  | ((with_reducible apply ex_rng); omega)
  | ((with_reducible apply ex_rep); omega; (walk_at "le"))
  | ((with_reducible apply ex_rng2); omega; omega)
  | with_reducible refine ex_int ?_
  | with_reducible refine ex_list ?_
  | ((with_reducible apply and_le); (walk_at "le"))
  | ((with_reducible apply and_bk); (rfl))
  | ((with_reducible apply ex_ix); (rfl))
  | ((with_reducible apply ex_key); (rfl); (walk_at "ky"))
  | ((with_reducible apply ex_app); (rfl); (walk_at "le"); (walk_at "sr"))
  | ((with_reducible apply ex_own); (rfl))
  | ((with_reducible apply ex_dct); (rfl))
  | ((with_reducible apply ex_setI); (rfl); (walk_at "lt2"); (walk_at "sr"))
  | ((with_reducible apply ex_dput); (rfl); (walk_at "ky"); (walk_at "lt2"); (walk_at "sr"))
  | ((with_reducible apply ex_dpop); (rfl); (walk_at "ky"); (walk_at "gt"); (walk_at "sr"))
  | ((with_reducible apply ex_par); (walk_at "sr"); (walk_at "sr"))
  | ((with_reducible apply ex_par3); (walk_at "sr"); (walk_at "sr"); (walk_at "sr"))
  | ((with_reducible apply ex_tup2); (walk_at "sr"); (walk_at "sr"))
  | ((with_reducible apply ex_tup3); (walk_at "sr"); (walk_at "sr"); (walk_at "sr"))
  | ((with_reducible apply ex_tup4); (walk_at "sr"); (walk_at "sr"); (walk_at "sr"); (walk_at "sr"))
  | ((with_reducible apply ex_kit); (walk_at "ki"))
  | with_reducible refine ex_zipT ?_
  | with_reducible refine ex_zipL ?_
  | ((with_reducible apply ex_chain); (walk_at "op"); (intro _; walk_at "nk"))
  | ((with_reducible apply ex_and2); (intro _; walk_at "nk"))
  | ((with_reducible apply ex_and1); (intro _; walk_at "nk"))
  | ((with_reducible apply ex_ls); (rfl)))
local macro_rules | `(tactic| walk_at "br") => `(tactic| first | ((with_reducible apply br_T); (walk_at "tr")) | ((with_reducible apply br_F); (walk_at "tr")))
local macro_rules | `(tactic| walk_at "vfn") => `(tactic| refine fok_fn (by (simp only [List.length_cons, List.length_nil, Nat.reduceAdd, Nat.reduceSub, List.replicate_succ, List.replicate_zero, List.cons_append, List.nil_append]; try rfl)) ?_)
local macro_rules | `(tactic| walk_at "vc") => `(tactic| repeat (first | walk_at "v" | with_reducible refine seqK_nx ?_ | walk_at "br" | with_reducible exact ⟨rfl, rfl, rfl⟩ | with_reducible exact ⟨rfl, rfl⟩))
local macro_rules | `(tactic| walk_at "wi") => `(tactic| (simp only [wipeV, List.set_cons_succ, List.set_cons_zero]; try rfl))
local macro_rules | `(tactic| walk_at "vs") => `(tactic| ((try with_reducible refine wp_seq ?_); (repeat (first | walk_at "v" | walk_at "br")); (try with_reducible refine seqK_nx ?_)))

section
local macro_rules | `(tactic| walk_at "op") => `(tactic| ((with_reducible apply ixD_g); assumption))
local macro_rules | `(tactic| walk_at "bi") => `(tactic| with_reducible exact lenD_g)
local macro_rules | `(tactic| walk_at "bi") => `(tactic| with_reducible exact lenD_n)
local macro_rules | `(tactic| walk_at "cl") => `(tactic| ((with_reducible apply draw_eq) <;> first | omega | assumption))
local macro_rules | `(tactic| walk_at "cl") => `(tactic| ((with_reducible apply dworth_eq) <;> first | omega | assumption))
local macro_rules | `(tactic| walk_at "bi") => `(tactic| first | with_reducible exact lenD_gD _ | with_reducible exact lenD_nD _ | with_reducible exact lenD_nL _ | with_reducible exact gX_at (by assumption))
local macro_rules | `(tactic| walk_at "cq") => `(tactic| ((with_reducible apply moves_of_eq); first | omega | assumption))
local macro_rules | `(tactic| walk_at "cq") => `(tactic| ((with_reducible apply choice_eq) <;> assumption))
local macro_rules | `(tactic| walk_at "cq") => `(tactic| ((with_reducible apply worths_eq) <;> assumption))
local macro_rules | `(tactic| walk_at "bi") => `(tactic| first | ((with_reducible apply wors_ix); assumption) | ((with_reducible apply wors_ixL); assumption))
local macro_rules | `(tactic| walk_at "bi") => `(tactic| with_reducible rfl)
local macro_rules | `(tactic| walk_at "cq") => `(tactic| ((with_reducible apply turned_eq); omega))
local macro_rules | `(tactic| walk_at "cq") => `(tactic| ((with_reducible apply forced_eq); assumption))
local macro_rules | `(tactic| walk_at "bi") => `(tactic| first | ((with_reducible apply rks_ix); assumption) | ((with_reducible apply rks_ixL); assumption))
local macro_rules | `(tactic| walk_at "xx") => `(tactic| with_reducible refine wp_iZpT ?_)
local macro_rules | `(tactic| walk_at "v") => `(tactic| with_reducible refine wp_eRevT ?_)
local macro_rules | `(tactic| walk_at "cq") => `(tactic| ((with_reducible apply l_moves_eq); first | omega | assumption))
local macro_rules | `(tactic| walk_at "cq") => `(tactic| ((with_reducible apply l_worth_eq) <;> assumption))
/-! ### how many, the walks of the least paper -/
theorem foldl_prod (xs : List Nat) : ∀ a : Nat, (xs.map fun x => ((x : Nat) : Int)).foldl (· * ·) (a : Int) = ((a * prodN xs : Nat) : Int) := by
  induction xs with
  | nil => intro a; simp [prodN]
  | cons x r ih =>
    intro a
    rw [List.map_cons, List.foldl_cons, show ((a : Int) * (x : Int)) = ((a * x : Nat) : Int) by push_cast; rfl, ih]
    have : prodN (x :: r) = x * prodN r := rfl
    rw [this, Nat.mul_assoc]
theorem sum_cast (xs : List Nat) : (xs.map fun x => ((x : Nat) : Int)).sum = ((xs.sum : Nat) : Int) := by
  induction xs with
  | nil => rfl
  | cons x r ih => rw [List.map_cons, List.sum_cons, List.sum_cons, ih]; push_cast; rfl
section
variable {goal : Int} {g : List Pl} {rk : Nat → Nat}
theorem cnt_len (hg : Good g) (h : Rk g rk) : ∀ (n p : Nat), rk p < n → p < g.length → cntP goal g p = (((ppL g goal 0 n p).length : Nat) : Int)
  | 0, p, h0, _ => absurd h0 (Nat.not_lt_zero _)
  | n + 1, p, h0, hp => by
    have hx : g[p]? = some g[p] := List.getElem?_eq_getElem hp
    generalize g[p] = x at hx
    cases x with
    | fin w =>
      rw [ppL_fin hx, cn_fin h hx]
      by_cases hw : goal ≤ w
      · rw [if_pos hw, if_pos (show gdB 0 goal w = true from decide_eq_true hw)]; rfl
      · rw [if_neg hw, if_neg (show ¬ gdB 0 goal w = true from fun z => hw (of_decide_eq_true z))]; rfl
    | mv s ms =>
      obtain ⟨q1, q2, q3, q4, q5⟩ := hg.ok p _ hx
      have ih : ms.map (cntP goal g) = (ms.map fun m => (ppL g goal 0 n m).length).map fun x => ((x : Nat) : Int) := by
        rw [List.map_map]
        refine List.map_congr_left fun m hm => ?_
        have := h.dn p _ m hx hm
        exact cnt_len hg h n m (by omega) (q4 m hm)
      rw [cn_mv h hx, ih]
      rcases q1 with rfl | rfl
      · rw [if_pos rfl, ppL_own hx, sum_cast, List.length_flatMap]
        refine congrArg (fun x : Nat => (x : Int)) (congrArg List.sum (List.map_congr_left fun m _ => ?_))
        rw [List.length_map]
      · rw [if_neg (by decide), ppL_oth (by decide) hx, List.length_map, rowsL_len]
        have := foldl_prod (ms.map fun m => (ppL g goal 0 n m).length) 1
        rw [Nat.one_mul] at this
        exact this
end
theorem keysAt_of {i : Nat} {b : M PyData} {l : Lo} {g : Sg} {k : PyData → Int} : ∀ {ds : List PyData}, (∀ d ∈ ds, b (l.set i (.dat d)) g = some (.int (k d), l.set i (.dat d), g)) → keysAt i b l g ds = some (ds.map k)
  | [], _ => rfl
  | d :: ds, h => by
    unfold keysAt keyAt
    rw [h d List.mem_cons_self]
    simp only [and_self, if_true]
    rw [keysAt_of fun d hd => h d (List.mem_cons_of_mem _ hd)]
    rfl
theorem eMinBy_ev {i : Nat} {a : M (List PyData)} {b : M PyData} {l : Lo} {g : Sg} {ds : List PyData} {k : PyData → Int} {d : PyData} (ha : a l g = some ([.list ds], l, g)) (hb : ∀ d ∈ ds, b (l.set i (.dat d)) g = some (.int (k d), l.set i (.dat d), g)) (hi : i < l.length) (hd : ds[bestZ (ds.map k)]? = some d) : eMinBy i a b l g = some (d, l.set i .no, g) := by
  have hk := keysAt_of hb
  unfold eMinBy mb
  rw [ha]
  show (match keysAt i b l g ds, ds[bestZ ((keysAt i b l g ds).getD [])]? with
    | some _, some d => if i < l.length then some (d, l.set i .no, g) else none
    | _, _ => none) = _
  rw [hk, Option.getD_some, hd]
  exact if_pos hi
noncomputable def y_least_paper_1 (F_all_papers F_ends_in : FS) : List PyData → Option PyData := lamF 2 1 (eMinBy 1 (aCons (eVar 0) aNil) (eCall F_ends_in (vCons (vE (eOp ixD (eVar 1) (eC (.int 1)))) vNil)))
noncomputable def m_least_paper (F_all_papers F_ends_in : FS) : X :=
  (xRet (eCallDg F_all_papers (vCons (vE (eVar 0)) (vCons (vE (eVar 2)) (vCons (vLam (y_least_paper_1 F_all_papers F_ends_in)) vNil))) 1))
noncomputable def f_least_paper : FS := fnS 3 (m_least_paper f_all_papers f_ends_in)

noncomputable def m_fewest_ends (F_least_paper F_ends_in : FS) : X :=
  (xSeq (xAsg 3 (eCall F_least_paper (vCons (vE (eVar 0)) (vCons (vE (eVar 1)) (vCons (vE (eVar 2)) vNil)))))
  (xRet (eIf (bTest (eIsN (eVar 3))) (eC .none) (eCall F_ends_in (vCons (vE (eVar 3)) vNil)))))
noncomputable def f_fewest_ends : FS := fnS 4 (m_fewest_ends f_least_paper f_ends_in)

section
variable {goal : Int} {g : List Pl}
theorem chL_so : ∀ so : List (Nat × PyData), so ≠ [] → ∃ z ∈ so, chL so = mqD z := fun so h => by obtain ⟨z, hz, e, _⟩ := chL_ok h; exact ⟨z, hz, e⟩
theorem least_paper_eq (hg : Good g) (hst : Straight g) {p : Nat} (hp : p < g.length) (st : Sg) : f_least_paper [.dat (gD g), .dat (.int (p : Int)), .dat (.int goal)] st = some (.dat (opD (apH chL 0 goal g p)), st) := by
  obtain ⟨rk, hr⟩ := hst.rk
  have hl := hg.len
  obtain ⟨o, e1, e2⟩ := all_ok hg hst (ch := chL) (fun z so => by obtain ⟨y, _, e⟩ := chL_so (z :: so) (by simp); exact ⟨_, e⟩) (goal := goal) (F := y_least_paper_1 f_all_papers f_ends_in) (fun p ms hx hne => by
    obtain ⟨q1, q2, q3, q4, q5⟩ := hg.ok p _ hx
    have hpd : ∀ z ∈ someP (apH chL 0 goal g) ms, pdN 30 z.2 = true := fun z hz => by
      obtain ⟨z1, z2⟩ := someP_mem hz
      have := hr.lt z.1 (q4 _ z1)
      exact ppL_pd hg 30 z.1 (q4 _ z1) _ (apH_mem hg hr chL_so 30 z.1 z.2 (by omega) (q4 _ z1) z2)
    generalize someP (apH chL 0 goal g) ms = so at hne hpd
    unfold y_least_paper_1 lamF
    rw [if_pos (show [PyData.list (so.map mqD)].length = 1 from rfl)]
    have hb := bestZ_ok (zs := so.map fun z => eV z.2) (by rw [List.length_map]; exact List.length_pos_iff.mpr hne)
    have hso : (so.map mqD).map (fun d => match d with | .tuple [_, q] => eV q | _ => 0) = so.map fun z => eV z.2 := by rw [List.map_map]; rfl
    have hev := eMinBy_ev (i := 1) (a := aCons (eVar 0) aNil) (b := eCall f_ends_in (vCons (vE (eOp ixD (eVar 1) (eC (.int 1)))) vNil)) (l := [.dat (.list (so.map mqD)), .no]) (g := []) (ds := so.map mqD) (k := fun d => match d with | .tuple [_, q] => eV q | _ => 0) (d := chL so) rfl (fun d hd => by
      obtain ⟨z, hz, rfl⟩ := List.mem_map.mp hd
      have hp1 := hpd z hz
      obtain ⟨j, ds, _, hds⟩ := pd_is hp1
      have htm := pd_tm hp1
      rw [hds] at htm
      have he := ends_in_any ([] : Sg) (by omega) htm
      have hix : ixD (mqD z) (.int 1) = some (.tuple ds) := by rw [← hds]; exact ixD_tN (k := 1) rfl
      have hev2 : eV z.2 = endsV 30 (.tuple ds) := by rw [← hds]; exact endsV_up 30 35 _ (pd_tm hp1) (by omega)
      refine wp_is ?_
      show Wp _ [.dat (.list (so.map mqD)), .dat (mqD z)] [] _
      walk_at "vc"
      exact ⟨by show PyData.int _ = PyData.int (eV z.2); rw [hev2], rfl, rfl⟩) (by simp) (by
      rw [hso]
      have h1 := hb.1
      rw [List.length_map] at h1
      have hb2 : so[bestZ (so.map fun z => eV z.2)]? = some so[bestZ (so.map fun z => eV z.2)] := List.getElem?_eq_getElem h1
      unfold chL
      rw [List.getElem?_map, List.getD_eq_getElem?_getD, hb2]
      rfl)
    show Option.map _ (eMinBy 1 (aCons (eVar 0) aNil) (eCall f_ends_in (vCons (vE (eOp ixD (eVar 1) (eC (.int 1)))) vNil)) [.dat (.list (so.map mqD)), .no] []) = _
    rw [hev]
    rfl) st
  have e2 := e2 p hp
  unfold f_least_paper m_least_paper
  refine fok_is ?_
  walk_at "vfn"
  walk_at "vc"
  refine ⟨_, _, _, _, rfl, rfl, rfl, rfl, e2, ?_⟩
  walk_at "vc"
def fewD : Option PyData → PyData
  | none => .none
  | some q => .int (eV q)
theorem fewest_ends_eq (hg : Good g) (hst : Straight g) {p : Nat} (hp : p < g.length) (st : Sg) : f_fewest_ends [.dat (gD g), .dat (.int (p : Int)), .dat (.int goal)] st = some (.dat (fewD (apH chL 0 goal g p)), st) := by
  obtain ⟨rk, hr⟩ := hst.rk
  have hl := hg.len
  have hlp := least_paper_eq hg hst (goal := goal) hp st
  have hpd : ∀ q, apH chL 0 goal g p = some q → pdN 30 q = true := fun q e => ppL_pd hg 30 p hp _ (apH_mem hg hr chL_so 30 p q (by have := hr.lt p hp; omega) hp e)
  generalize apH chL 0 goal g p = a at hlp hpd
  unfold f_fewest_ends m_fewest_ends
  refine fok_is ?_
  cases a with
  | none =>
    have hlp : f_least_paper [.dat (gD g), .dat (.int (p : Int)), .dat (.int goal)] st = some (.dat .none, st) := hlp
    walk_at "vfn"
    walk_at "vc"
  | some q =>
    have hp1 := hpd q rfl
    obtain ⟨j, ds, _, hds⟩ := pd_is hp1
    have htm := pd_tm hp1
    subst hds
    have he := ends_in_any st (by omega) htm
    have hev2 : eV (.tuple ds) = endsV 30 (.tuple ds) := endsV_up 30 35 _ (pd_tm hp1) (by omega)
    rw [← hev2] at he
    have hlp : f_least_paper [.dat (gD g), .dat (.int (p : Int)), .dat (.int goal)] st = some (.dat (.tuple ds), st) := hlp
    walk_at "vfn"
    walk_at "vc"
end

end
section
local macro_rules | `(tactic| walk_at "op") => `(tactic| ((with_reducible apply ixD_g); assumption))
local macro_rules | `(tactic| walk_at "bi") => `(tactic| with_reducible exact lenD_g)
local macro_rules | `(tactic| walk_at "bi") => `(tactic| with_reducible exact lenD_n)
local macro_rules | `(tactic| walk_at "cl") => `(tactic| ((with_reducible apply draw_eq) <;> first | omega | assumption))
local macro_rules | `(tactic| walk_at "cl") => `(tactic| ((with_reducible apply dworth_eq) <;> first | omega | assumption))
local macro_rules | `(tactic| walk_at "bi") => `(tactic| first | with_reducible exact lenD_gD _ | with_reducible exact lenD_nD _ | with_reducible exact lenD_nL _ | with_reducible exact gX_at (by assumption))
local macro_rules | `(tactic| walk_at "cq") => `(tactic| ((with_reducible apply moves_of_eq); first | omega | assumption))
local macro_rules | `(tactic| walk_at "cq") => `(tactic| ((with_reducible apply choice_eq) <;> assumption))
local macro_rules | `(tactic| walk_at "cq") => `(tactic| ((with_reducible apply worths_eq) <;> assumption))
local macro_rules | `(tactic| walk_at "bi") => `(tactic| first | ((with_reducible apply wors_ix); assumption) | ((with_reducible apply wors_ixL); assumption))
/-! ### gathered: for each place what is put together of those to which it moves -/
noncomputable def b_gathered_1 (F_order_of F_moves_of : FS) : X :=
  (xSeq (xAsg 5 (eCall F_moves_of (vCons (vE (eVar 0)) (vCons (vE (eVar 4)) vNil))))
    (xDput 3 (eVar 4) (eIf (bTru (eVar 5)) (eCallF 2 (aCons (eL (lLc [6] (iSq (eVar 5)) (gNm 6) bYes (eDget 3 (eVar 6)))) aNil)) (eVar 1))))
noncomputable def m_gathered (F_order_of F_moves_of : FS) : X :=
  (xSeq (xAsgC 3 lDnew)
  (xSeq (xFor (iWipe [4, 5, 6] (iSq (eCall F_order_of (vCons (vE (eVar 0)) vNil)))) (gNm 4)
    (xKeep [4, 5, 6] (b_gathered_1 F_order_of F_moves_of)))
  (xRetD 3)))
noncomputable def f_gathered : FS := fnS 7 (m_gathered f_order_of f_moves_of)

noncomputable def y_lines_1 (F_gathered : FS) : List PyData → Option PyData := lamF 1 1 (eCB sumD (aCons (eVar 0) aNil))
noncomputable def m_lines (F_gathered : FS) : X :=
  (xRet (eCallDg F_gathered (vCons (vE (eVar 0)) (vCons (vE (eC (.int 1))) (vCons (vLam (y_lines_1 F_gathered)) vNil))) 1))
noncomputable def f_lines : FS := fnS 2 (m_lines f_gathered)

theorem gathered_eq {g : List Pl} (hg : Good g) (hst : Straight g) {o : List Nat} (ho : ordOf g = some o) (ht : Topo g o) {ends : PyData} {F : List PyData → Option PyData} (val : Nat → PyData) (h0 : ∀ p, p < g.length → mvs g p = [] → val p = ends) (h1 : ∀ p, p < g.length → mvs g p ≠ [] → F [.list ((mvs g p).map val)] = some (val p)) (st : Sg) :
    f_gathered [.dat (gD g), .dat ends, .fn F] st = some (.ref st.length, st ++ [.dct (dOf val o)]) := by
  have hl := hg.len
  have hoe := order_of_eq hg st
  rw [ho] at hoe
  have hol : o.length = g.length := by rw [ht.perm.length_eq, List.length_range]
  unfold f_gathered m_gathered
  refine fok_is ?_
  walk_at "vfn"
  walk_at "vc"
  refine wp_forS o (fun p => .int (p : Nat)) (fun pre => [.dat (gD g), .dat ends, .fn F, .dct (dOf val pre), .no, .no, .no]) (fun _ => st) (fun pre s => s = pre) [] rfl ?_ ?_
  · rintro pre p post s e rfl
    have hi : o[s.length]? = some p := by rw [e]; simp
    have htk : o.take s.length = s := by rw [e]; simp
    have hmv := ht.dn _ _ hi
    rw [htk] at hmv
    have hp : p < g.length := List.mem_range.mp (ht.perm.mem_iff.mp (List.mem_of_getElem? hi))
    have hnd : o.Nodup := ht.perm.nodup_iff.mpr List.nodup_range
    have hpn : p ∉ s := fun z => by
      rw [e, List.nodup_append] at hnd
      exact hnd.2.2 p z p List.mem_cons_self rfl
    have hsl : s.length < 4000000 := by
      have := (List.getElem?_eq_some_iff.mp hi).1
      omega
    have hdl : (dOf val s).length < 4000000 := by rw [dOf_len]; exact hsl
    have hml : (mvs g p).length ≤ 3 := by
      cases hx : g[p]? with
      | none => unfold mvs; rw [hx]; simp
      | some x =>
        rw [mvs_eq hx]
        cases x with
        | fin w => simp [Pl.moves]
        | mv sd ms => exact (hg.ok p _ hx).2.2.2.2
    have hh0 := h0 p hp
    have hh1 := h1 p hp
    unfold b_gathered_1
    walk_at "vc"
    generalize mvs g p = ms at hmv hml hh0 hh1 ⊢
    cases ms with
    | nil =>
      have hv := hh0 rfl
      walk_at "vc"
      refine ⟨_, ?_, rfl, rfl⟩
      rw [← dOf_put hpn (v := ends) hv.symm]
      rfl
    | cons a r =>
      have hv := hh1 (by simp)
      walk_at "vc"
      refine lcw_map (xs := a :: r) (fun m => .int (m : Nat)) val (by rfl) (by rfl) (by omega) (by walk_at "wi") (fun m hm => ?_) ?_
      · have hg := dOf_get (f := val) (hmv m hm)
        walk_at "vc"
      · walk_at "vc"
        refine ⟨_, ?_, rfl, rfl⟩
        rw [← dOf_put hpn (v := val p) rfl]
        rfl
  · rintro s rfl
    walk_at "vc"
/-! how many lines, the longest, the shortest -/
def lnF (f : Nat → Int) : Pl → Int
  | .fin _ => 1
  | .mv _ ms => (ms.map f).sum
def linP (g : List Pl) (p : Nat) : Int := valS 0 lnF g p
theorem lnF_loc : Loc1 lnF := fun f f' x h => by
  cases x with
  | fin w => rfl
  | mv s ms => exact congrArg List.sum (List.map_congr_left h)
theorem mvs_pl {g : List Pl} (hg : Good g) {p : Nat} (hp : p < g.length) : ∃ x, g[p]? = some x ∧ mvs g p = x.moves := ⟨g[p], List.getElem?_eq_getElem hp, mvs_eq (List.getElem?_eq_getElem hp)⟩
theorem gath_ok {g : List Pl} (hg : Good g) (hst : Straight g) {FF : (Nat → Int) → Pl → Int} (hF : Loc1 FF) {ends : Int} (h0 : ∀ f w, FF f (.fin w) = ends) {F : List PyData → Option PyData} (h1 : ∀ (f : Nat → Int) s ms, ms ≠ [] → F [.list ((ms.map f).map .int)] = some (.int (FF f (.mv s ms)))) {p : Nat} (hp : p < g.length) (st : Sg) :
    ∃ o, f_gathered [.dat (gD g), .dat (.int ends), .fn F] st = some (.ref st.length, st ++ [.dct (dOf (fun p => .int (valS 0 FF g p)) o)]) ∧ valG (dOf (fun p => .int (valS 0 FF g p)) o) (.inl (p : Int)) = some (.int (valS 0 FF g p)) := by
  obtain ⟨rk, hrk⟩ := hst.rk
  obtain ⟨o, ho, ht⟩ := ord_topo hg hst
  refine ⟨o, gathered_eq hg hst ho ht _ (fun p hp hm => ?_) (fun p hp hm => ?_) st, dOf_get (ht.perm.mem_iff.mpr (List.mem_range.mpr hp))⟩
  · obtain ⟨x, hx, e⟩ := mvs_pl hg hp
    rw [e] at hm
    show PyData.int (valS 0 FF g p) = _
    rw [val_eq hF hrk hx]
    cases x with
    | fin w => rw [h0]
    | mv s ms => exact absurd hm (hg.ok p _ hx).2.1
  · obtain ⟨x, hx, e⟩ := mvs_pl hg hp
    rw [e] at hm ⊢
    show _ = some (PyData.int (valS 0 FF g p))
    rw [val_eq hF hrk hx]
    cases x with
    | fin w => exact absurd rfl hm
    | mv s ms =>
      rw [← h1 _ s ms hm, List.map_map]
      rfl
theorem lines_eq {g : List Pl} (hg : Good g) (hst : Straight g) {p : Nat} (hp : p < g.length) (st : Sg) : f_lines [.dat (gD g), .dat (.int (p : Int))] st = some (.dat (.int (linP g p)), st) := by
  obtain ⟨o, e1, e2⟩ := gath_ok hg hst lnF_loc (ends := 1) (fun _ _ => rfl) (F := y_lines_1 f_gathered) (fun f s ms h => lamF_wp rfl rfl (by
    have hs := sumD_i (ns := ms.map f)
    walk_at "vc"
    rfl)) hp st
  unfold f_lines m_lines
  refine fok_is ?_
  walk_at "vfn"
  walk_at "vc"
  refine ⟨_, _, _, _, rfl, rfl, rfl, rfl, e2, ?_⟩
  walk_at "vc"
local macro_rules | `(tactic| walk_at "cq") => `(tactic| ((with_reducible apply lines_eq) <;> assumption))
local macro_rules | `(tactic| walk_at "cq") => `(tactic| ((with_reducible apply longest_eq) <;> assumption))
local macro_rules | `(tactic| walk_at "cq") => `(tactic| ((with_reducible apply shortest_eq) <;> assumption))
theorem lin_fin {g : List Pl} {rk : Nat → Nat} (h : Rk g rk) {p : Nat} {w : Int} (e : g[p]? = some (.fin w)) : linP g p = 1 := val_eq lnF_loc h e
theorem lin_mv {g : List Pl} {rk : Nat → Nat} (h : Rk g rk) {p : Nat} {s : Int} {ms : List Nat} (e : g[p]? = some (.mv s ms)) : linP g p = (ms.map (linP g)).sum := val_eq lnF_loc h e
end
end
section
local macro_rules | `(tactic| walk_at "op") => `(tactic| ((with_reducible apply ixD_g); assumption))
local macro_rules | `(tactic| walk_at "bi") => `(tactic| with_reducible exact lenD_g)
local macro_rules | `(tactic| walk_at "bi") => `(tactic| with_reducible exact lenD_n)
local macro_rules | `(tactic| walk_at "cl") => `(tactic| ((with_reducible apply draw_eq) <;> first | omega | assumption))
local macro_rules | `(tactic| walk_at "cl") => `(tactic| ((with_reducible apply dworth_eq) <;> first | omega | assumption))
local macro_rules | `(tactic| walk_at "bi") => `(tactic| first | with_reducible exact lenD_gD _ | with_reducible exact lenD_nD _ | with_reducible exact lenD_nL _ | with_reducible exact gX_at (by assumption))
local macro_rules | `(tactic| walk_at "cq") => `(tactic| ((with_reducible apply moves_of_eq); first | omega | assumption))
local macro_rules | `(tactic| walk_at "cq") => `(tactic| ((with_reducible apply choice_eq) <;> assumption))
local macro_rules | `(tactic| walk_at "cq") => `(tactic| ((with_reducible apply worths_eq) <;> assumption))
local macro_rules | `(tactic| walk_at "bi") => `(tactic| first | ((with_reducible apply wors_ix); assumption) | ((with_reducible apply wors_ixL); assumption))
local macro_rules | `(tactic| walk_at "bi") => `(tactic| with_reducible rfl)
local macro_rules | `(tactic| walk_at "cq") => `(tactic| ((with_reducible apply turned_eq); omega))
local macro_rules | `(tactic| walk_at "cq") => `(tactic| ((with_reducible apply forced_eq); assumption))
local macro_rules | `(tactic| walk_at "bi") => `(tactic| first | ((with_reducible apply rks_ix); assumption) | ((with_reducible apply rks_ixL); assumption))
local macro_rules | `(tactic| walk_at "xx") => `(tactic| with_reducible refine wp_iZpT ?_)
local macro_rules | `(tactic| walk_at "v") => `(tactic| with_reducible refine wp_eRevT ?_)
local macro_rules | `(tactic| walk_at "cq") => `(tactic| ((with_reducible apply l_moves_eq); first | omega | assumption))
local macro_rules | `(tactic| walk_at "cq") => `(tactic| ((with_reducible apply l_worth_eq) <;> assumption))
local macro_rules | `(tactic| walk_at "cq") => `(tactic| ((with_reducible apply lines_eq) <;> assumption))
local macro_rules | `(tactic| walk_at "cq") => `(tactic| ((with_reducible apply longest_eq) <;> assumption))
local macro_rules | `(tactic| walk_at "cq") => `(tactic| ((with_reducible apply shortest_eq) <;> assumption))
/-! ### papers: what is one by hand is one; they are exclusive; how many ends, how many papers -/
section
variable {goal hand : Int} {g : List Pl} {rk : Nat → Nat}
theorem ppL_isPp (hg : Good g) : ∀ (k p : Nat) (q : PyData), p < g.length → q ∈ ppL g goal hand k p → isPp g goal hand k p q = true
  | 0, _, _, _, h => nomatch h
  | k + 1, p, q, hp, h => by
    have hx : g[p]? = some g[p] := List.getElem?_eq_getElem hp
    generalize g[p] = x at hx
    cases x with
    | fin w =>
      rw [ppL_fin hx] at h
      split at h
      · rename_i e
        rw [List.mem_singleton.mp h, isPp_t, hx]
        show (true && gdB hand goal w) = true
        rw [e]; rfl
      · cases h
    | mv s ms =>
      obtain ⟨q1, q2, q3, q4, q5⟩ := hg.ok p _ hx
      have ih := fun m (hm : m ∈ ms) q => ppL_isPp hg k m q (q4 m hm)
      by_cases hs : s = hand
      · subst hs
        rw [ppL_own hx] at h
        obtain ⟨m, hm, h⟩ := List.mem_flatMap.mp h
        obtain ⟨q', hq, rfl⟩ := List.mem_map.mp h
        rw [isPp_t, hx]
        show (if s = s then inB ms (.int (m : Nat)) && isPp g goal s k ((m : Nat) : Int).toNat q' else _) = true
        rw [if_pos rfl, Int.toNat_natCast, ih m hm q' hq, show inB ms (.int (m : Nat)) = true from List.any_eq_true.mpr ⟨m, hm, decide_eq_true rfl⟩]
        rfl
      · rw [ppL_oth hs hx] at h
        obtain ⟨r, hr, rfl⟩ := List.mem_map.mp h
        obtain ⟨h1, h2⟩ := rowsL_at hr
        rw [isPp_t, hx]
        show (if s = hand then _ else decide (r.length = ms.length) && (ms.zip r).all fun q => isPp g goal hand k q.1 q.2) = true
        rw [if_neg hs, h1, decide_eq_true rfl, Bool.true_and, List.all_eq_true]
        intro z hz
        exact ih z.1 (List.of_mem_zip hz).1 z.2 (h2 z hz)
theorem zip_has {α β : Type} : ∀ {xs : List α} {ys : List β}, ys.length = xs.length → ∀ x ∈ xs, ∃ y, (x, y) ∈ xs.zip ys
  | [], _, _, x, h => nomatch h
  | a :: r, [], e, _, _ => by simp at e
  | a :: r, b :: t, e, x, h => by
    rcases List.mem_cons.mp h with rfl | h
    · exact ⟨b, List.mem_cons_self⟩
    · obtain ⟨y, hy⟩ := zip_has (xs := r) (ys := t) (by simpa using e) x h
      exact ⟨y, List.mem_cons_of_mem _ hy⟩
theorem isPp_wor (hg : Good g) (h : Rk g rk) (hh : hand = 0 ∨ hand = 1) : ∀ (k p : Nat) (d : PyData), p < g.length → isPp g goal hand k p d = true → gdB hand goal (wor g p) = true
  | 0, p, d, _, e => by cases d <;> simp [isPp] at e
  | k + 1, p, d, hp, e => by
    have hx : g[p]? = some g[p] := List.getElem?_eq_getElem hp
    generalize g[p] = x at hx
    cases d with
    | tuple ds =>
      rw [isPp_t, hx] at e
      cases x with
      | fin w =>
        rw [wor_fin h hx]
        have e : (ds.isEmpty && gdB hand goal w) = true := e
        rw [Bool.and_eq_true] at e
        exact e.2
      | mv s ms =>
        obtain ⟨q1, q2, q3, q4, q5⟩ := hg.ok p _ hx
        have hne : ms.map (wor g) ≠ [] := by simpa using q2
        rw [wor_mv h hx]
        have ih := fun m (hm : m ∈ ms) d => isPp_wor hg h hh k m d (q4 m hm)
        by_cases hs : s = hand
        · subst hs
          dsimp only at e
          rw [if_pos rfl] at e
          split at e
          · rename_i a t
            rw [Bool.and_eq_true] at e
            obtain ⟨e1, e2⟩ := e
            cases a with
            | int i =>
              obtain ⟨x, hx2, rfl⟩ := inB_some e1
              have := ih x hx2 t e2
              exact (gd_own q1 hne).mpr ⟨_, List.mem_map_of_mem hx2, this⟩
            | _ => cases e1
          · cases e
        · have e : (if s = hand then _ else decide (ds.length = ms.length) && (ms.zip ds).all fun q => isPp g goal hand k q.1 q.2) = true := e
          rw [if_neg hs, Bool.and_eq_true, decide_eq_true_eq, List.all_eq_true] at e
          refine (gd_oth q1 hh hs hne).mpr fun w hw => ?_
          obtain ⟨m, hm, rfl⟩ := List.mem_map.mp hw
          obtain ⟨y, hy⟩ := zip_has e.1 m hm
          exact ih m hm y (e.2 _ hy)
    | _ => rw [isPp_no (k + 1) p (by intro ds; simp)] at e; cases e
theorem gd_flip (goal w : Int) : gdB 1 goal w = !gdB 0 goal w := by
  show decide (w < goal) = !decide (goal ≤ w)
  rw [← decide_not]
  exact decide_eq_decide.mpr (by omega)
theorem linP_0 (hg : Good g) (h : Rk g rk) : ∀ (n p : Nat), rk p < n → p < g.length → 1 ≤ linP g p
  | 0, p, h0, _ => absurd h0 (Nat.not_lt_zero _)
  | n + 1, p, h0, hp => by
    have hx : g[p]? = some g[p] := List.getElem?_eq_getElem hp
    generalize g[p] = x at hx
    cases x with
    | fin w => rw [lin_fin h hx]; omega
    | mv s ms =>
      obtain ⟨q1, q2, q3, q4, q5⟩ := hg.ok p _ hx
      rw [lin_mv h hx]
      have ih : ∀ m ∈ ms, 1 ≤ linP g m := fun m hm => by
        have := h.dn p _ m hx hm
        exact linP_0 hg h n m (by omega) (q4 m hm)
      clear q3 q4 q5 hx
      cases ms with
      | nil => exact absurd rfl q2
      | cons a r =>
        rw [List.map_cons, List.sum_cons]
        have h1 := ih a List.mem_cons_self
        have h2 : 0 ≤ (r.map (linP g)).sum := by
          have ih2 := fun m hm => ih m (List.mem_cons_of_mem a hm)
          clear ih h1 q2
          induction r with
          | nil => exact Int.le_refl _
          | cons b t ihh =>
            rw [List.map_cons, List.sum_cons]
            have := ih2 b List.mem_cons_self
            have := ihh fun m hm => ih2 m (List.mem_cons_of_mem b hm)
            omega
        omega
theorem sum_one {f : Nat → Int} : ∀ {ms : List Nat}, (∀ m ∈ ms, 0 ≤ f m) → ∀ x ∈ ms, f x ≤ (ms.map f).sum
  | [], _, x, h => nomatch h
  | a :: r, h0, x, h => by
    rw [List.map_cons, List.sum_cons]
    have h1 := h0 a List.mem_cons_self
    have h2 : 0 ≤ (r.map f).sum := by
      have h3 := fun m hm => h0 m (List.mem_cons_of_mem a hm)
      clear h h0 h1
      induction r with
      | nil => exact Int.le_refl _
      | cons b t ih =>
        rw [List.map_cons, List.sum_cons]
        have := h3 b List.mem_cons_self
        have := ih fun m hm => h3 m (List.mem_cons_of_mem b hm)
        omega
    rcases List.mem_cons.mp h with rfl | h
    · omega
    · have := sum_one (fun m hm => h0 m (List.mem_cons_of_mem a hm)) x h
      omega
theorem zip_sum {f : PyData → Int} {w : Nat → Int} : ∀ {ms : List Nat} {ds : List PyData}, ds.length = ms.length → (∀ z ∈ ms.zip ds, f z.2 ≤ w z.1) → (ds.map f).sum ≤ (ms.map w).sum
  | [], [], _, _ => Int.le_refl _
  | a :: r, [], e, _ => by simp at e
  | [], b :: t, e, _ => by simp at e
  | a :: r, b :: t, e, h => by
    rw [List.map_cons, List.map_cons, List.sum_cons, List.sum_cons]
    have h1 := h (a, b) List.mem_cons_self
    have h2 := zip_sum (ms := r) (ds := t) (f := f) (w := w) (by simpa using e) fun z hz => h z (List.mem_cons_of_mem _ hz)
    simp only at h1
    omega
theorem eV_lines (hg : Good g) (h : Rk g rk) : ∀ (k p : Nat) (q : PyData), k ≤ 30 → p < g.length → q ∈ ppL g goal hand k p → eV q ≤ linP g p
  | 0, _, _, _, _, e => nomatch e
  | k + 1, p, q, hk, hp, e => by
    have hx : g[p]? = some g[p] := List.getElem?_eq_getElem hp
    generalize g[p] = x at hx
    cases x with
    | fin w =>
      rw [ppL_fin hx] at e
      split at e
      · rw [List.mem_singleton.mp e, eV_nil, lin_fin h hx]
        exact Int.le_refl _
      · cases e
    | mv s ms =>
      obtain ⟨q1, q2, q3, q4, q5⟩ := hg.ok p _ hx
      rw [lin_mv h hx]
      have hl1 : ∀ m ∈ ms, 0 ≤ linP g m := fun m hm => by have := linP_0 hg h _ m (Nat.lt_succ_self _) (q4 m hm); omega
      have ih := fun m (hm : m ∈ ms) q => eV_lines hg h k m q (by omega) (q4 m hm)
      by_cases hs : s = hand
      · subst hs
        rw [ppL_own hx] at e
        obtain ⟨m, hm, e⟩ := List.mem_flatMap.mp e
        obtain ⟨q', hq, rfl⟩ := List.mem_map.mp e
        have h1 := ih m hm q' hq
        have h2 := sum_one hl1 m hm
        have h3 : eV (mqD (m, q')) = eV q' := eV_own (k := k) (by omega) (ppL_pd hg k m (q4 m hm) _ hq)
        show eV (mqD (m, q')) ≤ _
        rw [h3]
        omega
      · rw [ppL_oth hs hx] at e
        obtain ⟨r, hr, rfl⟩ := List.mem_map.mp e
        obtain ⟨h1, h2⟩ := rowsL_at hr
        have hne : r ≠ [] := fun z => by rw [z] at h1; exact q2 (List.length_eq_zero_iff.mp h1.symm)
        obtain ⟨_, hpd⟩ := rowsL_mem (P := fun d => pdN k d = true) (fun m hm => ppL_pd hg k m (q4 m hm)) r hr
        rw [eV_row (k := k) (by omega) hne hpd]
        exact zip_sum h1 fun z hz => ih z.1 (List.of_mem_zip hz).1 z.2 (h2 z hz)
/-! how many, in games of up to 11 places -/
def bQ (r : Nat) : Nat := [1, 1, 2, 4, 8, 64, 2048, 1048576, 2 ^ 37, 2 ^ 68, 2 ^ 125].getD r 1
theorem bQ_3 : ∀ r ∈ List.range 11, ∀ a ∈ List.range r, ∀ b ∈ List.range r, ∀ c ∈ List.range r, a ≠ b → a ≠ c → b ≠ c → bQ a * bQ b * bQ c ≤ bQ r ∧ bQ a + bQ b + bQ c ≤ bQ r := by decide +kernel
theorem bQ_2 : ∀ r ∈ List.range 11, ∀ a ∈ List.range r, ∀ b ∈ List.range r, a ≠ b → bQ a * bQ b ≤ bQ r ∧ bQ a + bQ b ≤ bQ r := by decide +kernel
theorem bQ_1 : ∀ r ∈ List.range 11, ∀ a ∈ List.range r, bQ a ≤ bQ r := by decide +kernel
theorem bQ_0 : ∀ r ∈ List.range 11, 1 ≤ bQ r := by decide +kernel
theorem bQ_big3 : ∀ a ∈ List.range 10, ∀ b ∈ List.range 10, ∀ c ∈ List.range 10, a ≠ b → a ≠ c → b ≠ c → bQ a * bQ b < 2 ^ 64 ∨ bQ c < 2 ^ 64 := by decide +kernel
theorem bQ_big2 : ∀ a ∈ List.range 10, ∀ b ∈ List.range 10, a ≠ b → bQ a < 2 ^ 64 ∨ bQ b < 2 ^ 64 := by decide +kernel
theorem bQ_all {r : Nat} (h : r < 11) {xs : List Nat} (hn : xs.Nodup) (hl : xs.length ≤ 3) (hx : ∀ x ∈ xs, x < r) : prodN (xs.map bQ) ≤ bQ r ∧ (xs.map bQ).sum ≤ bQ r := by
  have hr := List.mem_range.mpr h
  have h0 := bQ_0 r hr
  match xs, hn, hl, hx with
  | [], _, _, _ => exact ⟨h0, Nat.zero_le _⟩
  | [a], _, _, hx =>
    have h1 := bQ_1 r hr a (List.mem_range.mpr (hx a (by simp)))
    simp [prodN]; exact h1
  | [a, b], hn, _, hx =>
    have h1 := bQ_2 r hr a (List.mem_range.mpr (hx a (by simp))) b (List.mem_range.mpr (hx b (by simp))) (by simp at hn; exact hn)
    simp [prodN]; exact h1
  | [a, b, c], hn, _, hx =>
    simp at hn
    have h1 := bQ_3 r hr a (List.mem_range.mpr (hx a (by simp))) b (List.mem_range.mpr (hx b (by simp))) c (List.mem_range.mpr (hx c (by simp))) hn.1.1 hn.1.2 hn.2
    simp [prodN]
    rw [← Nat.mul_assoc, ← Nat.add_assoc]; exact h1
  | _ :: _ :: _ :: _ :: _, _, hl, _ => simp at hl
theorem ranks_nd (hr : RkI g rk) (hg : Good g) {p : Nat} {s : Int} {ms : List Nat} (hx : g[p]? = some (.mv s ms)) : (ms.map rk).Nodup := by
  obtain ⟨q1, q2, q3, q4, q5⟩ := hg.ok p _ hx
  show (ms.map rk).Pairwise (· ≠ ·)
  rw [List.pairwise_map]
  refine List.Pairwise.imp_of_mem ?_ q3
  intro a b ha hb hab z
  exact hab (hr.inj a b (q4 a ha) (q4 b hb) z)
theorem ppL_len11 (hr : RkI g rk) (hg : Good g) (h11 : g.length ≤ 11) : ∀ (k p : Nat), p < g.length → (ppL g goal hand k p).length ≤ bQ (rk p)
  | 0, p, _ => Nat.zero_le _
  | k + 1, p, hp => by
    have hx : g[p]? = some g[p] := List.getElem?_eq_getElem hp
    generalize g[p] = x at hx
    have hlt := hr.lt p hp
    have hb := bQ_0 (rk p) (List.mem_range.mpr (by omega))
    cases x with
    | fin w =>
      rw [ppL_fin hx]
      split
      · simpa using hb
      · exact Nat.zero_le _
    | mv s ms =>
      obtain ⟨q1, q2, q3, q4, q5⟩ := hg.ok p _ hx
      obtain ⟨r1, r2⟩ := bQ_all (r := rk p) (by omega) (ranks_nd hr hg hx) (by rw [List.length_map]; omega) (fun x hx' => by
        obtain ⟨m, hm, rfl⟩ := List.mem_map.mp hx'
        exact hr.dn p m hp (by rw [mvs_eq hx]; exact hm))
      rw [List.map_map] at r1 r2
      have ih : ∀ m ∈ ms, (ppL g goal hand k m).length ≤ (bQ ∘ rk) m := fun m hm => ppL_len11 hr hg h11 k m (q4 m hm)
      by_cases hs : s = hand
      · subst hs
        rw [ppL_own hx, List.length_flatMap]
        simp only [List.length_map]
        exact Nat.le_trans (sumN_le ih) r2
      · rw [ppL_oth hs hx, List.length_map, rowsL_len]
        exact Nat.le_trans (prodN_le ih) r1
theorem rk_of (hr : RkI g rk) : Rk g rk := ⟨fun p x m hx hm => hr.dn p m (List.getElem?_eq_some_iff.mp hx).1 (by rw [mvs_eq hx]; exact hm), hr.lt⟩
theorem notBig11 (hg : Good g) (hst : Straight g) (h11 : g.length ≤ 11) : NotBig g (cntP goal g) := fun p ms hx pre m post e => by
  obtain ⟨rk, hr⟩ := rkI_of hg hst
  obtain ⟨q1, q2, q3, q4, q5⟩ := hg.ok p _ hx
  have hp := (List.getElem?_eq_some_iff.mp hx).1
  have hlp := hr.lt p hp
  have hdn : ∀ x ∈ ms, rk x < 10 := fun x hm => by have := hr.dn p x hp (by rw [mvs_eq hx]; exact hm); omega
  have hnd := ranks_nd hr hg hx
  have hc : ∀ x ∈ ms, ∃ n : Nat, cntP goal g x = (n : Int) ∧ n ≤ bQ (rk x) := fun x hm => ⟨_, cnt_len hg (rk_of hr) 11 x (by have := hr.lt x (q4 x hm); omega) (q4 x hm), ppL_len11 hr hg h11 11 x (q4 x hm)⟩
  have hmm : m ∈ ms := by rw [e]; simp
  obtain ⟨nm, em, hm⟩ := hc m hmm
  have hl : pre.length ≤ 2 := by rw [e] at q5; simp at q5; omega
  have low : ∀ n : Nat, n < 2 ^ 64 → (decide (-(2 ^ 64) < (n : Int)) && decide ((n : Int) < 2 ^ 64)) = true := fun n hn => by
    rw [decide_eq_true (show -(2 ^ 64) < (n : Int) by omega), decide_eq_true (show (n : Int) < 2 ^ 64 by omega)]
    rfl
  match pre, e, hl with
  | [], e, _ =>
    rw [show ([].map (cntP goal g)).foldl (· * ·) 1 = (1 : Int) from rfl]
    rfl
  | [a], e, _ =>
    have ha : a ∈ ms := by rw [e]; simp
    obtain ⟨na, ea, hna⟩ := hc a ha
    have hne : rk a ≠ rk m := by rw [e] at hnd; simp at hnd; exact hnd.1.1
    rw [show ([a].map (cntP goal g)).foldl (· * ·) 1 = 1 * cntP goal g a from rfl, ea, em, Int.one_mul]
    rcases bQ_big2 (rk a) (List.mem_range.mpr (hdn a ha)) (rk m) (List.mem_range.mpr (hdn m hmm)) hne with h | h
    · rw [low na (by omega)]; rfl
    · rw [low nm (by omega), Bool.or_true]
  | [a, b], e, _ =>
    have ha : a ∈ ms := by rw [e]; simp
    have hb : b ∈ ms := by rw [e]; simp
    obtain ⟨na, ea, hna⟩ := hc a ha
    obtain ⟨nb, eb, hnb⟩ := hc b hb
    have hne : rk a ≠ rk b ∧ rk a ≠ rk m ∧ rk b ≠ rk m := by rw [e] at hnd; simp at hnd; exact ⟨hnd.1.1, hnd.1.2.1, hnd.2.1.1⟩
    rw [show ([a, b].map (cntP goal g)).foldl (· * ·) 1 = 1 * cntP goal g a * cntP goal g b from rfl, ea, eb, em, Int.one_mul, show ((na : Int) * (nb : Int)) = ((na * nb : Nat) : Int) by push_cast; rfl]
    rcases bQ_big3 (rk a) (List.mem_range.mpr (hdn a ha)) (rk b) (List.mem_range.mpr (hdn b hb)) (rk m) (List.mem_range.mpr (hdn m hmm)) hne.1 hne.2.1 hne.2.2 with h | h
    · rw [low (na * nb) (Nat.lt_of_le_of_lt (Nat.mul_le_mul hna hnb) h)]; rfl
    · rw [low nm (by omega), Bool.or_true]
  | _ :: _ :: _ :: _, _, h => simp at h
theorem ppL_goal : ∀ (k p : Nat), (ppL g (goal + 1) 0 k p).length ≤ (ppL g goal 0 k p).length
  | 0, p => Nat.le_refl _
  | k + 1, p => by
    cases hx : g[p]? with
    | none => rw [ppL, ppL, hx]; exact Nat.le_refl _
    | some x =>
      cases x with
      | fin w =>
        rw [ppL_fin hx, ppL_fin hx]
        show (if decide (goal + 1 ≤ w) = true then _ else _ : List PyData).length ≤ (if decide (goal ≤ w) = true then _ else _ : List PyData).length
        by_cases h1 : goal + 1 ≤ w
        · rw [if_pos (decide_eq_true h1), if_pos (decide_eq_true (by omega))]; exact Nat.le_refl _
        · rw [if_neg (by simpa using h1)]; exact Nat.zero_le _
      | mv s ms =>
        by_cases hs : s = 0
        · subst hs
          rw [ppL_own hx, ppL_own hx, List.length_flatMap, List.length_flatMap]
          simp only [List.length_map]
          exact sumN_le fun m _ => ppL_goal k m
        · rw [ppL_oth hs hx, ppL_oth hs hx, List.length_map, List.length_map, rowsL_len, rowsL_len]
          exact prodN_le fun m _ => ppL_goal k m
theorem cnt_goal (hg : Good g) (hst : Straight g) {p : Nat} (hp : p < g.length) : cntP (goal + 1) g p ≤ cntP goal g p := by
  obtain ⟨rk, h⟩ := hst.rk
  rw [cnt_len hg h (rk p + 1) p (Nat.lt_succ_self _) hp, cnt_len hg h (rk p + 1) p (Nat.lt_succ_self _) hp]
  have := ppL_goal (g := g) (goal := goal) (rk p + 1) p
  omega
theorem cnt_pos (hg : Good g) (hst : Straight g) {p : Nat} (hp : p < g.length) : decide (cntP goal g p > 0) = gdB 0 goal (wor g p) := by
  obtain ⟨rk, h⟩ := hst.rk
  rw [cnt_len hg h (rk p + 1) p (Nat.lt_succ_self _) hp]
  have h1 := apH_wor (ch := chL) (goal := goal) (hand := 0) hg h (.inl rfl) (rk p + 1) p (Nat.lt_succ_self _) hp
  have h2 := fun q => apH_mem (goal := goal) (hand := 0) hg h chL_so (rk p + 1) p q (Nat.lt_succ_self _) hp
  cases hgd : gdB 0 goal (wor g p) with
  | true =>
    cases e : apH chL 0 goal g p with
    | none => exact absurd e (h1.mpr hgd)
    | some q =>
      have := List.length_pos_iff_exists_mem.mpr ⟨q, h2 q e⟩
      exact decide_eq_true (by omega)
  | false =>
    refine decide_eq_false fun z => ?_
    obtain ⟨q, hq⟩ := List.length_pos_iff_exists_mem.mp (show 0 < (ppL g goal 0 (rk p + 1) p).length by omega)
    have := isPp_wor hg h (.inl rfl) (rk p + 1) p q hp (ppL_isPp hg (rk p + 1) p q hp hq)
    rw [hgd] at this
    cases this
end

end
section
local macro_rules | `(tactic| walk_at "cq") => `(tactic| with_reducible assumption)
local macro_rules | `(tactic| walk_at "le") => `(tactic| first | omega | (simp only [List.length_cons, List.length_nil, List.length_append, List.length_map, List.length_set, List.length_range, nD_len]; omega) | decide)
local macro_rules | `(tactic| walk_at "sr") => `(tactic| ((repeat (with_reducible apply SetR.s)); with_reducible exact SetR.z))
local macro_rules | `(tactic| walk_at "ha") => `(tactic| first | walk_at "op" | with_reducible exact truO_b | with_reducible exact truO_l | with_reducible exact truO_t | with_reducible exact truO_n | with_reducible exact truO_i | walk_at "at" | walk_at "bi" | walk_at "dg" | with_reducible rfl | rfl)
local macro_rules | `(tactic| walk_at "v") => `(tactic| first
  | with_reducible refine wp_seq ?_
  | ((with_reducible apply wp_eVar); (rfl))
  | with_reducible refine wp_eC ?_
  | with_reducible refine wp_eOp ?_
  | with_reducible refine has_some ?_
  | ((with_reducible apply hasG_nm); (walk_at "sr"))
  | ((with_reducible apply hasG_tp); (rfl); (rfl))
  | with_reducible refine hasG_cons ?_
  | with_reducible refine hasG_nil ?_
  | ((with_reducible apply has_of); (walk_at "ha"))
  | with_reducible refine wp_eCall ?_
  | with_reducible refine wp_vE ?_
  | ((with_reducible apply wp_vR); (rfl))
  | with_reducible refine wp_vNil ?_
  | ((with_reducible apply fok_eq); (walk_at "cq"))
  | with_reducible refine wp_asg ?_
  | with_reducible refine wp_asgG ?_
  | with_reducible refine wp_asgL ?_
  | with_reducible refine wp_if ?_
  | with_reducible refine wp_ret ?_
  | with_reducible refine seqK_ret ?_
  | with_reducible refine retK_ret ?_
  | with_reducible refine wp_bTest ?_
  | with_reducible refine wp_bTru ?_
  | with_reducible refine wp_bNot ?_
  | with_reducible refine wp_eCB ?_
  | with_reducible refine wp_aCons ?_
  | with_reducible refine wp_aNil ?_
  | with_reducible refine wp_eUn ?_
  | with_reducible refine wp_eTup ?_
  | with_reducible refine wp_eL ?_
  | with_reducible refine wp_lLst ?_
  | with_reducible refine wp_eIf ?_
  | with_reducible refine wp_for ?_
  | with_reducible refine wp_iWipe ?_
  | with_reducible refine wp_iSq ?_
  | with_reducible refine wp_iRg1 ?_
  | with_reducible refine wp_iRg2 ?_
  | with_reducible refine wp_keep ?_
  | with_reducible refine wp_pre ?_
  | with_reducible refine wp_next ?_
  | with_reducible refine wp_break ?_
  | with_reducible refine wp_cont ?_
  | with_reducible refine bodyK_nx ?_
  | with_reducible refine bodyK_ct ?_
  | with_reducible refine bodyK_bk ?_
  | with_reducible refine bodyK_ret ?_
  | with_reducible refine seqK_bk ?_
  | with_reducible refine seqK_ct ?_
  | with_reducible refine retK_nx ?_
  | with_reducible refine wp_forNil ?_
  | with_reducible refine wp_eIsN ?_
  | with_reducible refine wp_eNotN ?_
  | with_reducible refine wp_eNot ?_
  | ((with_reducible apply wp_eIxV); (rfl))
  | ((with_reducible apply wp_eLenV); (rfl))
  | ((with_reducible apply wp_eTupleV); (rfl))
  | ((with_reducible apply wp_eSlV); (rfl))
  | with_reducible refine wp_eSl ?_
  | with_reducible refine wp_oNone ?_
  | with_reducible refine wp_oSome ?_
  | with_reducible refine wp_eInV ?_
  | ((with_reducible apply wp_ePopO); (rfl); (walk_at "gt"); (walk_at "sr"))
  | ((with_reducible apply wp_eDget); (exact ⟨_, rfl⟩))
  | ((with_reducible apply wp_eDget2); (exact ⟨_, rfl⟩))
  | with_reducible refine wp_eDin ?_
  | with_reducible refine wp_eDnot ?_
  | ((with_reducible apply wp_eLenD); (rfl))
  | with_reducible refine wp_eIsi ?_
  | with_reducible refine wp_eCallK ?_
  | with_reducible refine wp_eCallD ?_
  | with_reducible refine wp_lList ?_
  | with_reducible refine wp_lListRg ?_
  | with_reducible refine wp_lListRg2 ?_
  | with_reducible refine wp_iEn ?_
  | with_reducible refine wp_iEnA ?_
  | with_reducible refine wp_kSet ?_
  | with_reducible refine wp_kSc ?_
  | with_reducible refine wp_sortS ?_
  | with_reducible refine wp_lenS ?_
  | with_reducible refine wp_lRev ?_
  | with_reducible refine wp_lRep ?_
  | ((with_reducible apply wp_lListV); (rfl))
  | ((with_reducible apply wp_lKeys); (rfl))
  | ((with_reducible apply wp_lVals); (rfl))
  | with_reducible refine wp_vNewD ?_
  | with_reducible refine wp_eMinDef ?_
  | with_reducible refine wp_lLc ?_
  | with_reducible refine wp_bYes ?_
  | ((with_reducible apply wp_bTruV); (rfl))
  | ((with_reducible apply wp_bTruD); (rfl))
  | with_reducible refine wp_bIf ?_
  | with_reducible refine wp_lDnew ?_
  | with_reducible refine wp_lDc ?_
  | with_reducible refine wp_asgC ?_
  | with_reducible refine wp_newL ?_
  | with_reducible refine wp_retN ?_
  | with_reducible refine wp_drop ?_
  | ((with_reducible apply wp_app); (exact ⟨_, rfl⟩))
  | with_reducible refine wp_setI ?_
  | ((with_reducible apply wp_aug); (rfl))
  | ((with_reducible apply wp_frzO); (rfl); (walk_at "sr"))
  | ((with_reducible apply wp_frzD); (rfl))
  | with_reducible refine wp_par ?_
  | with_reducible refine wp_parDL ?_
  | with_reducible refine wp_parLD ?_
  | with_reducible refine wp_parLL ?_
  | with_reducible refine wp_par3 ?_
  | with_reducible refine wp_parCL ?_
  | with_reducible refine wp_lDone ?_
  | ((with_reducible apply wp_lSortK); (rfl))
  | with_reducible refine wp_eIndex ?_
  | ((with_reducible apply wp_eIndexV); (rfl))
  | with_reducible refine wp_eInDV ?_
  | with_reducible refine wp_dput ?_
  | ((with_reducible apply wp_dpop); (exact ⟨_, rfl⟩))
  | with_reducible refine wp_tup2 ?_
  | with_reducible refine wp_tup3 ?_
  | with_reducible refine wp_tup4 ?_
  | with_reducible refine wp_uNil ?_
  | with_reducible refine wp_uD ?_
  | with_reducible refine wp_uL ?_
  | with_reducible refine wp_uC ?_
  | with_reducible refine wp_vLam ?_
  | ((with_reducible apply wp_vFn); (rfl))
  | ((with_reducible apply wp_eCallF); (rfl))
  | ((with_reducible apply wp_retD); (rfl))
  | with_reducible refine wp_callDg ?_
  | with_reducible refine wp_sortBy ?_
  | ((with_reducible apply ex_one); (rfl))
  | with_reducible refine wp_eChain ?_
  | ((with_reducible refine wp_bAnd ?_); (repeat walk_at "v"); walk_at "br")
  | ((with_reducible refine wp_bOr ?_); (repeat walk_at "v"); walk_at "br")
  | ((with_reducible refine wp_eAnd ?_); (repeat walk_at "v"); walk_at "br")
  | ((with_reducible refine wp_eOr ?_); (repeat walk_at "v"); walk_at "br")
  | with_reducible refine wp_bAndB ?_
  | with_reducible refine wp_bOrB ?_
  | with_reducible refine wp_eAndB ?_
  | with_reducible refine wp_eOrB ?_
  | walk_at "xx")
local macro_rules | `(tactic| walk_at "nk") => `(tactic| ((repeat walk_at "v"); first | exact ⟨rfl, rfl, rfl⟩ | exact ⟨rfl, rfl, by walk_at "op"⟩))
local macro_rules | `(tactic| walk_at "lt2") => `(tactic| first | omega | exact ⟨by omega, by omega⟩ | (simp only [List.length_cons, List.length_nil, List.length_append, List.length_map, List.length_set, nD_len]; omega))
local macro_rules | `(tactic| walk_at "ky") => `(tactic| first | with_reducible exact keyO_i | with_reducible exact keyO_s | rfl)
local macro_rules | `(tactic| walk_at "xx") => `(tactic| first
  | ((with_reducible apply ex_set); (walk_at "sr"))
  | with_reducible refine ex_bool ?_
  | with_reducible refine ex_dat ?_
  | ((with_reducible apply ex_rng); omega)
  | ((with_reducible apply ex_rep); omega; (walk_at "le"))
  | ((with_reducible apply ex_rng2); omega; omega)
  | with_reducible refine ex_int ?_
  | with_reducible refine ex_list ?_
  | ((with_reducible apply and_le); (walk_at "le"))
  | ((with_reducible apply and_bk); (rfl))
  | ((with_reducible apply ex_ix); (rfl))
  | ((with_reducible apply ex_key); (rfl); (walk_at "ky"))
  | ((with_reducible apply ex_app); (rfl); (walk_at "le"); (walk_at "sr"))
  | ((with_reducible apply ex_own); (rfl))
  | ((with_reducible apply ex_dct); (rfl))
  | ((with_reducible apply ex_setI); (rfl); (walk_at "lt2"); (walk_at "sr"))
  | ((with_reducible apply ex_dput); (rfl); (walk_at "ky"); (walk_at "lt2"); (walk_at "sr"))
  | ((with_reducible apply ex_dpop); (rfl); (walk_at "ky"); (walk_at "gt"); (walk_at "sr"))
  | ((with_reducible apply ex_par); (walk_at "sr"); (walk_at "sr"))
  | ((with_reducible apply ex_par3); (walk_at "sr"); (walk_at "sr"); (walk_at "sr"))
  | ((with_reducible apply ex_tup2); (walk_at "sr"); (walk_at "sr"))
  | ((with_reducible apply ex_tup3); (walk_at "sr"); (walk_at "sr"); (walk_at "sr"))
  | ((with_reducible apply ex_tup4); (walk_at "sr"); (walk_at "sr"); (walk_at "sr"); (walk_at "sr"))
  | ((with_reducible apply ex_kit); (walk_at "ki"))
  | with_reducible refine ex_zipT ?_
  | with_reducible refine ex_zipL ?_
  | ((with_reducible apply ex_chain); (walk_at "op"); (intro _; walk_at "nk"))
  | ((with_reducible apply ex_and2); (intro _; walk_at "nk"))
  | ((with_reducible apply ex_and1); (intro _; walk_at "nk"))
  | ((with_reducible apply ex_ls); (rfl)))
local macro_rules | `(tactic| walk_at "br") => `(tactic| first | ((with_reducible apply br_T); (walk_at "tr")) | ((with_reducible apply br_F); (walk_at "tr")))
local macro_rules | `(tactic| walk_at "vfn") => `(tactic| refine fok_fn (by (simp only [List.length_cons, List.length_nil, Nat.reduceAdd, Nat.reduceSub, List.replicate_succ, List.replicate_zero, List.cons_append, List.nil_append]; try rfl)) ?_)
local macro_rules | `(tactic| walk_at "vc") => `(tactic| repeat (first | walk_at "v" | with_reducible refine seqK_nx ?_ | walk_at "br" | with_reducible exact ⟨rfl, rfl, rfl⟩ | with_reducible exact ⟨rfl, rfl⟩))
local macro_rules | `(tactic| walk_at "wi") => `(tactic| (simp only [wipeV, List.set_cons_succ, List.set_cons_zero]; try rfl))
local macro_rules | `(tactic| walk_at "vs") => `(tactic| ((try with_reducible refine wp_seq ?_); (repeat (first | walk_at "v" | walk_at "br")); (try with_reducible refine seqK_nx ?_)))

section
local macro_rules | `(tactic| walk_at "op") => `(tactic| ((with_reducible apply ixD_g); assumption))
local macro_rules | `(tactic| walk_at "bi") => `(tactic| with_reducible exact lenD_g)
local macro_rules | `(tactic| walk_at "bi") => `(tactic| with_reducible exact lenD_n)
local macro_rules | `(tactic| walk_at "cl") => `(tactic| ((with_reducible apply draw_eq) <;> first | omega | assumption))
local macro_rules | `(tactic| walk_at "cl") => `(tactic| ((with_reducible apply dworth_eq) <;> first | omega | assumption))
local macro_rules | `(tactic| walk_at "bi") => `(tactic| first | with_reducible exact lenD_gD _ | with_reducible exact lenD_nD _ | with_reducible exact lenD_nL _ | with_reducible exact gX_at (by assumption))
local macro_rules | `(tactic| walk_at "cq") => `(tactic| ((with_reducible apply moves_of_eq); first | omega | assumption))
local macro_rules | `(tactic| walk_at "cq") => `(tactic| ((with_reducible apply choice_eq) <;> assumption))
local macro_rules | `(tactic| walk_at "cq") => `(tactic| ((with_reducible apply worths_eq) <;> assumption))
local macro_rules | `(tactic| walk_at "bi") => `(tactic| first | ((with_reducible apply wors_ix); assumption) | ((with_reducible apply wors_ixL); assumption))
local macro_rules | `(tactic| walk_at "bi") => `(tactic| with_reducible rfl)
local macro_rules | `(tactic| walk_at "cq") => `(tactic| ((with_reducible apply turned_eq); omega))
local macro_rules | `(tactic| walk_at "cq") => `(tactic| ((with_reducible apply forced_eq); assumption))
local macro_rules | `(tactic| walk_at "bi") => `(tactic| first | ((with_reducible apply rks_ix); assumption) | ((with_reducible apply rks_ixL); assumption))
local macro_rules | `(tactic| walk_at "xx") => `(tactic| with_reducible refine wp_iZpT ?_)
local macro_rules | `(tactic| walk_at "v") => `(tactic| with_reducible refine wp_eRevT ?_)
local macro_rules | `(tactic| walk_at "cq") => `(tactic| ((with_reducible apply l_moves_eq); first | omega | assumption))
local macro_rules | `(tactic| walk_at "cq") => `(tactic| ((with_reducible apply l_worth_eq) <;> assumption))
local macro_rules | `(tactic| walk_at "cq") => `(tactic| ((with_reducible apply lines_eq) <;> assumption))
local macro_rules | `(tactic| walk_at "cq") => `(tactic| ((with_reducible apply longest_eq) <;> assumption))
local macro_rules | `(tactic| walk_at "cq") => `(tactic| ((with_reducible apply shortest_eq) <;> assumption))
/-! ### playing by a paper -/
noncomputable def b_l_play_1 (F_l_draw : FS) : X :=
  (xSeq (xAsg 8 (eIf (bTest (eOp eqD (eVar 6) (eVar 5))) (eIndex (eL (lList (eVar 7))) (eOp ixD (eVar 4) (eC (.int 0)))) (eCall F_l_draw (vCons (vE (eVar 0)) (vCons (vR 1) (vCons (vE (eCB lenD (aCons (eVar 7) aNil))) vNil))))))
    (xSeq (xAsg 4 (eIf (bTest (eOp eqD (eVar 6) (eVar 5))) (eOp ixD (eVar 4) (eC (.int 1))) (eOp ixD (eVar 4) (eVar 8))))
    (xAsgG (gTp 2 (gsCons (gNm 6) (gsCons (gNm 7) gsNil))) (eOp ixD (eVar 2) (eOp ixD (eVar 7) (eVar 8))))))
noncomputable def m_l_play (F_l_draw : FS) : X :=
  (xSeq (xAsgG (gTp 2 (gsCons (gNm 6) (gsCons (gNm 7) gsNil))) (eOp ixD (eVar 2) (eVar 3)))
  (xSeq (xPre [3, 8] (xWhile (bTest (eOp neD (eVar 6) (eC (.str "end"))))
    (xKeep [3, 8] (b_l_play_1 F_l_draw))))
  (xRet (eVar 7))))
noncomputable def f_l_play : FS := fnS 9 (m_l_play f_l_draw)

theorem firstIx_nE (b : Nat) : ∀ (W : List Nat) (i : Nat), b ∈ W → firstIx (.int (b : Nat)) i (nD W) = some (i + W.idxOf b)
  | [], _, h => by cases h
  | x :: W, i, h => by
    show (if PyData.eqv (.int (x : Nat)) (.int (b : Nat)) = true then some i else firstIx (.int (b : Nat)) (i + 1) (nD W)) = _
    rw [show PyData.eqv (.int (x : Nat)) (.int (b : Nat)) = decide ((x : Int) = (b : Int)) from rfl]
    by_cases hx : x = b
    · subst hx
      rw [if_pos (decide_eq_true rfl), List.idxOf_cons_self]
      rfl
    · have hx2 : ¬ ((x : Int) = b) := by omega
      rw [if_neg (by simp [hx2])]
      have hm : b ∈ W := by
        rcases List.mem_cons.mp h with z | z
        · exact absurd z.symm hx
        · exact z
      have hxb : (x == b) = false := by simpa using hx
      rw [firstIx_nE b W (i + 1) hm, List.idxOf_cons, hxb]
      show some (i + 1 + W.idxOf b) = some (i + (W.idxOf b + 1))
      congr 1
      omega
theorem index_nE {b : Nat} {W : List Nat} (h : b ∈ W) : indexD (.list (nD W)) (.int (b : Nat)) = some (.int ((W.idxOf b : Nat) : Int)) := by
  unfold indexD
  simp only
  rw [if_pos ⟨sh_shaped (sh_nL (k := 0)) (by omega), sh_shaped (sh_int 0 _) (by omega)⟩, firstIx_nE b W 0 h, Nat.zero_add]
  rfl
def sdD (g : List Pl) (p : Nat) : PyData := match g[p]? with
  | some (.fin _) => .str "end"
  | some (.mv s _) => .int s
  | none => .none
def mrD (g : List Pl) (p : Nat) : PyData := match g[p]? with
  | some (.fin w) => .int w
  | some (.mv _ ms) => .tuple (nD ms)
  | none => .none
theorem gd_row {g : List Pl} {p : Nat} (hp : p < g.length) : ixD (gD g) (.int (p : Nat)) = some (.tuple [sdD g p, mrD g p]) := by
  have hx : g[p]? = some g[p] := List.getElem?_eq_getElem hp
  have := ixD_g hx
  rw [this]
  unfold sdD mrD
  rw [hx]
  cases g[p] <;> rfl
theorem nD_row {ms : List Nat} {k y : Nat} (h : ms[k]? = some y) : ixD (.tuple (nD ms)) (.int (k : Nat)) = some (.int (y : Nat)) := ixD_tN (by unfold nD; rw [List.getElem?_map, h]; rfl)
def plL (ns : List Int) (g : List Pl) (hand : Int) (q : PyData) (p : Nat) : Lo := [scr ns, .ref 0, .dat (gD g), .no, .dat q, .dat (.int hand), .dat (sdD g p), .dat (mrD g p), .no]
set_option maxHeartbeats 4000000 in
theorem play_ok {ns : List Int} (hz : ns.length ≤ 63) {g : List Pl} {rk : Nat → Nat} (hg : Good g) (hk : Rk g rk) {hand goal : Int} (hh : hand = 0 ∨ hand = 1) {k0 p0 : Nat} {q0 : PyData} {n : Nat} {st : Sg} {Q : Vl → Sg → Prop} (hp : p0 < g.length) (hq : isPp g goal hand k0 p0 q0 = true) (hn : n < 70000) (hQ : ∀ w n', gdB hand goal w = true → n ≤ n' → n' ≤ n + 30 → Q (.dat (.int w)) (tw ns n' st)) : FOk f_l_play [scr ns, .ref 0, .dat (gD g), .dat (.int (p0 : Nat)), .dat q0, .dat (.int hand)] (tw ns n st) Q := by
  have hl := hg.len
  have hrp := hk.lt p0 hp
  unfold f_l_play m_l_play
  have hd0 := gd_row hp
  walk_at "vfn"
  walk_at "vc"
  refine wp_while (σ := Nat × PyData × Nat × Nat) (fun s => plL ns g hand s.2.1 s.1) (fun s => tw ns s.2.2.2 st) (fun s => s.1 < g.length ∧ isPp g goal hand s.2.2.1 s.1 s.2.1 = true ∧ n ≤ s.2.2.2 ∧ s.2.2.2 + rk s.1 ≤ n + rk p0) (fun s => rk s.1) (p0, q0, k0, n) ⟨hp, hq, Nat.le_refl _, Nat.le_refl _⟩ (by show rk p0 < _; omega) ?_
  rintro ⟨p, q, k, n1⟩ ⟨h1, h2, h3, h4⟩
  simp only at h1 h2 h3 h4
  have hx : g[p]? = some g[p] := List.getElem?_eq_getElem h1
  generalize g[p] = x at hx
  cases k with
  | zero => cases q <;> simp [isPp] at h2
  | succ k =>
  cases q with
  | tuple ds =>
    rw [isPp_t, hx] at h2
    cases x with
    | fin w =>
      have e1 : sdD g p = .str "end" := by unfold sdD; rw [hx]
      have e2 : mrD g p = .int w := by unfold mrD; rw [hx]
      have h2 : (ds.isEmpty && gdB hand goal w) = true := h2
      rw [Bool.and_eq_true] at h2
      unfold plL
      rw [e1, e2]
      walk_at "vc"
      exact hQ w n1 h2.2 h3 (by omega)
    | mv s ms =>
      obtain ⟨q1, q2, q3, q4, q5⟩ := hg.ok p _ hx
      have e1 : sdD g p = .int s := by unfold sdD; rw [hx]
      have e2 : mrD g p = .tuple (nD ms) := by unfold mrD; rw [hx]
      have hdx : ∀ m : Nat, m ∈ ms → ixD (gD g) (.int (m : Nat)) = some (.tuple [sdD g m, mrD g m]) := fun m hm => gd_row (q4 m hm)
      have hdn : ∀ m ∈ ms, rk m < rk p := fun m hm => hk.dn p _ m hx hm
      unfold plL
      rw [e1, e2]
      dsimp only at h2
      by_cases hs : s = hand
      · subst hs
        rw [if_pos rfl] at h2
        split at h2
        · rename_i a t
          rw [Bool.and_eq_true] at h2
          obtain ⟨g1, g2⟩ := h2
          cases a with
          | int i =>
            obtain ⟨y, hy, rfl⟩ := inB_some g1
            have g2 : isPp g goal s k y t = true := g2
            have hiy := index_nE hy
            have hil := List.idxOf_lt_length_of_mem hy
            have hiv : ms[ms.idxOf y]? = some y := by rw [List.getElem?_eq_getElem hil, List.getElem_idxOf hil]
            have hgy := hdx y hy
            have hro := nD_row hiv
            have hly := hdn y hy
            dsimp only
            walk_at "vc"
            unfold b_l_play_1
            walk_at "vc"
            exact ⟨(y, t, k, n1), rfl, rfl, ⟨q4 y hy, g2, h3, by dsimp only; omega⟩, hly⟩
          | _ => cases g1
        · cases h2
      · rw [if_neg hs, Bool.and_eq_true, decide_eq_true_eq, List.all_eq_true] at h2
        obtain ⟨g1, g2⟩ := h2
        have hds : decide (s = hand) = false := decide_eq_false hs
        have hpos : 0 < ms.length := List.length_pos_iff.mpr q2
        dsimp only
        walk_at "vc"
        unfold b_l_play_1
        walk_at "vc"
        refine draw_ok hz (by omega) (by omega) fun j hj => ?_
        have hj : j < ms.length := by omega
        have hjd : j < ds.length := by omega
        have hr1 := nD_row (List.getElem?_eq_getElem hj)
        have hr2 : ixD (.tuple ds) (.int (j : Nat)) = some ds[j] := ixD_tN (List.getElem?_eq_getElem hjd)
        have hzm : (ms[j], ds[j]) ∈ ms.zip ds := List.mem_iff_getElem?.mpr ⟨j, by rw [List.getElem?_zip_eq_some]; exact ⟨List.getElem?_eq_getElem hj, List.getElem?_eq_getElem hjd⟩⟩
        have g3 := g2 _ hzm
        have hmj : ms[j] ∈ ms := List.getElem_mem hj
        generalize ms[j] = y at hr1 hmj g3
        generalize ds[j] = t at hr2 g3
        have hgy := hdx y hmj
        have hly := hdn y hmj
        walk_at "vc"
        exact ⟨(y, t, k, n1 + 1), rfl, rfl, ⟨q4 y hmj, g3, by dsimp only; omega, by dsimp only; omega⟩, hly⟩
  | _ => rw [isPp_no _ _ (by intro ds; simp)] at h2; cases h2

end
section
local macro_rules | `(tactic| walk_at "op") => `(tactic| ((with_reducible apply ixD_g); assumption))
local macro_rules | `(tactic| walk_at "bi") => `(tactic| with_reducible exact lenD_g)
local macro_rules | `(tactic| walk_at "bi") => `(tactic| with_reducible exact lenD_n)
local macro_rules | `(tactic| walk_at "cl") => `(tactic| ((with_reducible apply draw_eq) <;> first | omega | assumption))
local macro_rules | `(tactic| walk_at "cl") => `(tactic| ((with_reducible apply dworth_eq) <;> first | omega | assumption))
local macro_rules | `(tactic| walk_at "bi") => `(tactic| first | with_reducible exact lenD_gD _ | with_reducible exact lenD_nD _ | with_reducible exact lenD_nL _ | with_reducible exact gX_at (by assumption))
local macro_rules | `(tactic| walk_at "cq") => `(tactic| ((with_reducible apply moves_of_eq); first | omega | assumption))
local macro_rules | `(tactic| walk_at "cq") => `(tactic| ((with_reducible apply choice_eq) <;> assumption))
local macro_rules | `(tactic| walk_at "cq") => `(tactic| ((with_reducible apply worths_eq) <;> assumption))
local macro_rules | `(tactic| walk_at "bi") => `(tactic| first | ((with_reducible apply wors_ix); assumption) | ((with_reducible apply wors_ixL); assumption))
local macro_rules | `(tactic| walk_at "bi") => `(tactic| with_reducible rfl)
local macro_rules | `(tactic| walk_at "cq") => `(tactic| ((with_reducible apply turned_eq); omega))
local macro_rules | `(tactic| walk_at "cq") => `(tactic| ((with_reducible apply forced_eq); assumption))
local macro_rules | `(tactic| walk_at "bi") => `(tactic| first | ((with_reducible apply rks_ix); assumption) | ((with_reducible apply rks_ixL); assumption))
local macro_rules | `(tactic| walk_at "xx") => `(tactic| with_reducible refine wp_iZpT ?_)
local macro_rules | `(tactic| walk_at "v") => `(tactic| with_reducible refine wp_eRevT ?_)
local macro_rules | `(tactic| walk_at "cq") => `(tactic| ((with_reducible apply l_moves_eq); first | omega | assumption))
local macro_rules | `(tactic| walk_at "cq") => `(tactic| ((with_reducible apply l_worth_eq) <;> assumption))
local macro_rules | `(tactic| walk_at "cq") => `(tactic| ((with_reducible apply lines_eq) <;> assumption))
local macro_rules | `(tactic| walk_at "cq") => `(tactic| ((with_reducible apply longest_eq) <;> assumption))
local macro_rules | `(tactic| walk_at "cq") => `(tactic| ((with_reducible apply shortest_eq) <;> assumption))
noncomputable def m_l_drawn_goal_2 (F_l_pick F_l_draw : FS) : X :=
  (xRet (eCall F_l_pick (vCons (vE (eVar 0)) (vCons (vR 1) (vCons (vE (eL (lLst (aCons (eVar 2) (aCons (eOp plusD (eVar 2) (eC (.int 1))) (aCons (eOp subD (eVar 2) (eC (.int 1))) (aCons (eC (.int 0)) (aCons (eUn negD (eC (.int 99))) (aCons (eC (.int 99)) (aCons (eOp subD (eCall F_l_draw (vCons (vE (eVar 0)) (vCons (vR 1) (vCons (vE (eC (.int 199))) vNil)))) (eC (.int 99))) aNil)))))))))) vNil)))))
noncomputable def f_l_drawn_goal_2 : FS := fnS 3 (m_l_drawn_goal_2 f_l_pick f_l_draw)

noncomputable def b_l_goal_holds_1 (F_paper_for F_paper_against F_l_is_paper F_is_paper_against F_is_paper F_l_play F_l_ends F_ends_in F_lines F_least_paper F_fewest_ends F_papers_in_all F_turned : FS) : X :=
  (xSeq (xAsg 11 (eCall F_l_play (vCons (vE (eVar 0)) (vCons (vR 1) (vCons (vE (eVar 2)) (vCons (vE (eVar 3)) (vCons (vE (eVar 8)) (vCons (vE (eVar 9)) vNil))))))))
    (xIf (bTest (eOp neD (eOp geD (eVar 11) (eVar 4)) (eOp eqD (eVar 9) (eC (.int 0)))))
      (xRet (eC (.bool false)))
      xNext))
noncomputable def m_l_goal_holds (F_paper_for F_paper_against F_l_is_paper F_is_paper_against F_is_paper F_l_play F_l_ends F_ends_in F_lines F_least_paper F_fewest_ends F_papers_in_all F_turned : FS) : X :=
  (xSeq (xPar 6 7 (eCall F_paper_for (vCons (vE (eVar 2)) (vCons (vE (eVar 3)) (vCons (vE (eVar 4)) vNil)))) (eCall F_paper_against (vCons (vE (eVar 2)) (vCons (vE (eVar 3)) (vCons (vE (eVar 4)) vNil)))))
  (xSeq (xIf (bOr (bTest (eOp eqD (eIsN (eVar 6)) (eIsN (eVar 7)))) (bTest (eOp neD (eNotN (eVar 6)) (eOp geD (eVar 5) (eVar 4)))))
    (xRet (eC (.bool false)))
    xNext)
  (xSeq (xAsgG (gTp 2 (gsCons (gNm 8) (gsCons (gNm 9) gsNil))) (eIf (bTest (eIsN (eVar 7))) (eTup (aCons (eVar 6) (aCons (eC (.int 0)) aNil))) (eTup (aCons (eVar 7) (aCons (eC (.int 1)) aNil)))))
  (xSeq (xIf (bOr (bNot (bTru (eCall F_l_is_paper (vCons (vE (eVar 2)) (vCons (vE (eVar 3)) (vCons (vE (eVar 4)) (vCons (vE (eVar 8)) (vCons (vE (eVar 9)) vNil)))))))) (bTru (eCall F_l_is_paper (vCons (vE (eVar 2)) (vCons (vE (eVar 3)) (vCons (vE (eVar 4)) (vCons (vE (eVar 8)) (vCons (vE (eOp subD (eC (.int 1)) (eVar 9))) vNil))))))))
    (xRet (eC (.bool false)))
    xNext)
  (xSeq (xIf (bTest (eOp neD (eTup (aCons (eCall F_is_paper (vCons (vE (eVar 2)) (vCons (vE (eVar 3)) (vCons (vE (eVar 4)) (vCons (vE (eVar 8)) vNil))))) (aCons (eCall F_is_paper_against (vCons (vE (eVar 2)) (vCons (vE (eVar 3)) (vCons (vE (eVar 4)) (vCons (vE (eVar 8)) vNil))))) aNil))) (eTup (aCons (eOp eqD (eVar 9) (eC (.int 0))) (aCons (eOp eqD (eVar 9) (eC (.int 1))) aNil)))))
    (xRet (eC (.bool false)))
    xNext)
  (xSeq (xFor (iWipe [5, 6, 10, 11, 12, 13] (iRg1 (eC (.int 3)))) (gNm 10)
    (xKeep [5, 6, 10, 11, 12, 13] (b_l_goal_holds_1 F_paper_for F_paper_against F_l_is_paper F_is_paper_against F_is_paper F_l_play F_l_ends F_ends_in F_lines F_least_paper F_fewest_ends F_papers_in_all F_turned)))
  (xSeq (xIf (bOr (bTest (eOp gtD (eCall F_ends_in (vCons (vE (eVar 8)) vNil)) (eCall F_lines (vCons (vE (eVar 2)) (vCons (vE (eVar 3)) vNil))))) (bTest (eOp neD (eCall F_l_ends (vCons (vE (eVar 8)) vNil)) (eCall F_ends_in (vCons (vE (eVar 8)) vNil)))))
    (xRet (eC (.bool false)))
    xNext)
  (xSeq (xAsg 12 (eCall F_least_paper (vCons (vE (eVar 2)) (vCons (vE (eVar 3)) (vCons (vE (eVar 4)) vNil)))))
  (xSeq (xIf (bAnd (bTest (eOp eqD (eVar 9) (eC (.int 0)))) (bNot (bTest (eChain eqD leD (eCall F_fewest_ends (vCons (vE (eVar 2)) (vCons (vE (eVar 3)) (vCons (vE (eVar 4)) vNil)))) (eCall F_ends_in (vCons (vE (eVar 12)) vNil)) (eCall F_ends_in (vCons (vE (eVar 8)) vNil))))))
    (xRet (eC (.bool false)))
    xNext)
  (xSeq (xIf (bAnd (bTest (eOp eqD (eVar 9) (eC (.int 1)))) (bOr (bTest (eNotN (eVar 12))) (bTest (eNotN (eCall F_fewest_ends (vCons (vE (eVar 2)) (vCons (vE (eVar 3)) (vCons (vE (eVar 4)) vNil))))))))
    (xRet (eC (.bool false)))
    xNext)
  (xSeq (xAsg 13 (eCall F_papers_in_all (vCons (vE (eVar 2)) (vCons (vE (eVar 3)) (vCons (vE (eVar 4)) vNil)))))
  (xSeq (xIf (bOr (bTest (eOp neD (eOp gtD (eVar 13) (eC (.int 0))) (eOp eqD (eVar 9) (eC (.int 0))))) (bTest (eOp gtD (eCall F_papers_in_all (vCons (vE (eVar 2)) (vCons (vE (eVar 3)) (vCons (vE (eOp plusD (eVar 4) (eC (.int 1)))) vNil)))) (eVar 13))))
    (xRet (eC (.bool false)))
    xNext)
  (xRet (eOp eqD (eCall F_paper_for (vCons (vE (eCall F_turned (vCons (vE (eVar 2)) vNil))) (vCons (vE (eVar 3)) (vCons (vE (eOp subD (eC (.int 1)) (eVar 4))) vNil)))) (eVar 7)))))))))))))))
noncomputable def f_l_goal_holds : FS := fnS 14 (m_l_goal_holds f_paper_for f_paper_against f_l_is_paper f_is_paper_against f_is_paper f_l_play f_l_ends f_ends_in f_lines f_least_paper f_fewest_ends f_papers_in_all f_turned)

theorem goal_ok19 {ns : List Int} {n : Nat} {w : Int} {st : Sg} {Q : Vl → Sg → Prop} (hz : ns.length ≤ 63) (hn : n < 80000) (h : ∀ goal : Int, Q (.dat (.int goal)) (tw ns (n + 2) st)) : FOk f_l_drawn_goal_2 [scr ns, .ref 0, .dat (.int w)] (tw ns n st) Q := by
  unfold f_l_drawn_goal_2 m_l_drawn_goal_2
  walk_at "vfn"
  walk_at "vc"
  refine draw_ok hz (by omega) (by omega) fun k hk => ?_
  walk_at "vc"
  refine pick_ok hz (by omega) (by simp) fun d hd => ?_
  obtain ⟨goal, rfl⟩ : ∃ goal : Int, d = .int goal := by
    simp only [List.mem_cons, List.not_mem_nil, or_false] at hd
    rcases hd with rfl | rfl | rfl | rfl | rfl | rfl | rfl <;> exact ⟨_, rfl⟩
  walk_at "vc"
  exact h goal
theorem pd_sh19 : ∀ (k : Nat) (d : PyData), pdN k d = true → shN k d = true
  | 0, d, h => by cases d <;> simp [pdN] at h
  | k + 1, d, h => by
    obtain ⟨j, ds, e, rfl⟩ := pd_is h
    obtain ⟨h1, h2⟩ := pd_tup.mp h
    refine sh_tup fun d hd => ?_
    rcases h2 d hd with ⟨i, rfl, _, _⟩ | q
    · exact sh_int k i
    · exact pd_sh19 k d q
theorem ch1_so19 : ∀ so : List (Nat × PyData), so ≠ [] → ∃ z ∈ so, ch1 so = mqD z
  | [], h => absurd rfl h
  | z :: so, _ => ⟨z, List.mem_cons_self, rfl⟩
set_option maxHeartbeats 8000000 in
theorem holds_ok {ns : List Int} (hz : ns.length ≤ 63) {g : List Pl} (hg : Good g) (hst : Straight g) (h11 : g.length ≤ 11) {goal : Int} {p n : Nat} {st : Sg} {Q : Vl → Sg → Prop} (hp : p < g.length) (hn : n < 60000) (hQ : ∀ n', n ≤ n' → n' ≤ n + 90 → Q (.dat (.bool true)) (tw ns n' st)) : FOk f_l_goal_holds [scr ns, .ref 0, .dat (gD g), .dat (.int (p : Nat)), .dat (.int goal), .dat (.int (wor g p))] (tw ns n st) Q := by
  obtain ⟨rk, hk⟩ := hst.rk
  have hl := hg.len
  have hrp := hk.lt p hp
  have hpf := fun st => paper_for_eq hg hst (goal := goal) hp st
  have hpa := fun st => paper_against_eq hg hst (goal := goal) hp st
  have hlp := fun st => least_paper_eq hg hst (goal := goal) hp st
  have hfe := fun st => fewest_ends_eq hg hst (goal := goal) hp st
  have hli := fun st => lines_eq hg hst hp st
  have hc1 := fun st => papers_in_all_eq hg hst (notBig11 hg hst h11 (goal := goal)) hp st
  have hc2 := fun st => papers_in_all_eq hg hst (notBig11 hg hst h11 (goal := goal + 1)) hp st
  have hcp := cnt_pos (goal := goal) hg hst hp
  have hcg := cnt_goal (goal := goal) hg hst hp
  have htu := fun st => turned_eq (g := g) (by omega) st
  have hst2 : Straight (g.map turnP) := ⟨rk, fun p x m hx hm => (turn_rk hk).dn p x m hx hm, fun p hp => (turn_rk hk).lt p hp⟩
  have hpt := fun st => paper_for_eq (turnP_good hg) hst2 (goal := 1 - goal) (p := p) (by rw [List.length_map]; exact hp) st
  rw [apH_turn hg hk (rk p + 1) p (Nat.lt_succ_self _) hp] at hpt
  have w0 := apH_wor (ch := ch1) (goal := goal) (hand := 0) hg hk (.inl rfl) (rk p + 1) p (Nat.lt_succ_self _) hp
  have w1 := apH_wor (ch := ch1) (goal := goal) (hand := 1) hg hk (.inr rfl) (rk p + 1) p (Nat.lt_succ_self _) hp
  have wl := apH_wor (ch := chL) (goal := goal) (hand := 0) hg hk (.inl rfl) (rk p + 1) p (Nat.lt_succ_self _) hp
  rw [gd_flip] at w1
  unfold f_l_goal_holds m_l_goal_holds
  have hmem : ∀ (hand : Int) q, apH ch1 hand goal g p = some q → q ∈ ppL g goal hand 30 p := fun hand q e => apH_mem hg hk ch1_so19 30 p q (by omega) hp e
  have hgd : gdB 0 goal (wor g p) = decide (wor g p ≥ goal) := rfl
  cases hb : gdB 0 goal (wor g p) with
  | true =>
    rw [hb] at w0 w1 wl hgd hcp
    have e1 : apH ch1 1 goal g p = none := Classical.byContradiction fun z => nomatch w1.mp z
    obtain ⟨q, e0⟩ := Option.ne_none_iff_exists'.mp (w0.mpr rfl)
    obtain ⟨ql, el⟩ := Option.ne_none_iff_exists'.mp (wl.mpr rfl)
    have hq := hmem 0 q e0
    have hql : ql ∈ ppL g goal 0 30 p := apH_mem hg hk chL_so 30 p ql (by omega) hp el
    have hle : eV ql ≤ eV q := by
      obtain ⟨y, ey, hy⟩ := apL_least hg hk (goal := goal) (hand := 0) 30 p q (by omega) (by omega) hp hq
      rw [el] at ey; cases ey; exact hy
    have hpd := ppL_pd hg 30 p hp q hq
    have hpdl := ppL_pd hg 30 p hp ql hql
    have hi0 := ppL_isPp hg 30 p q hp hq
    have hi1 : isPp g goal 1 30 p q = false := by
      cases e : isPp g goal 1 30 p q with
      | false => rfl
      | true =>
        have := isPp_wor hg hk (.inr rfl) 30 p q hp e
        rw [gd_flip, hb] at this
        cases this
    have hln := eV_lines hg hk 30 p q (by omega) hp hq
    have hends : ∀ st, f_ends_in [.dat q] st = some (.dat (.int (eV q)), st) ∧ f_l_ends [.dat q] st = some (.dat (.int (eV q)), st) := fun st => by
      have htm := pd_tm hpd
      obtain ⟨_, ds, _, rfl⟩ := pd_is hpd
      have := ends_in_any st (by omega) htm
      have h2 := l_ends_any st (by omega) htm
      rw [show eV (.tuple ds) = _ from endsV_up _ 35 _ htm (by omega)]
      exact ⟨this, h2⟩
    have hendl : ∀ st, f_ends_in [.dat ql] st = some (.dat (.int (eV ql)), st) := fun st => by
      have htm := pd_tm hpdl
      obtain ⟨_, ds, _, rfl⟩ := pd_is hpdl
      have := ends_in_any st (by omega) htm
      rw [show eV (.tuple ds) = _ from endsV_up _ 35 _ htm (by omega)]
      exact this
    have htm := pd_tm hpd
    simp only [e0, e1, el] at hpf hpa hlp hfe hpt
    have hpf : ∀ st, f_paper_for [.dat (gD g), .dat (.int (p : Nat)), .dat (.int goal)] st = some (.dat q, st) := hpf
    have hpa : ∀ st, f_paper_against [.dat (gD g), .dat (.int (p : Nat)), .dat (.int goal)] st = some (.dat .none, st) := hpa
    have hlp : ∀ st, f_least_paper [.dat (gD g), .dat (.int (p : Nat)), .dat (.int goal)] st = some (.dat ql, st) := hlp
    have hfe : ∀ st, f_fewest_ends [.dat (gD g), .dat (.int (p : Nat)), .dat (.int goal)] st = some (.dat (.int (eV ql)), st) := hfe
    have hpt : ∀ st, f_paper_for [.dat (gD (g.map turnP)), .dat (.int (p : Nat)), .dat (.int (1 - goal))] st = some (.dat .none, st) := hpt
    obtain ⟨_, ds, _, rfl⟩ := pd_is hpd
    obtain ⟨_, dl, _, rfl⟩ := pd_is hpdl
    have f1 := hpf (tw ns n st)
    have f2 := hpa (tw ns n st)
    have f3 := l_is_paper_any hg (goal := goal) (hand := 0) (.inl rfl) (tw ns n st) hp htm
    have f4 := l_is_paper_any hg (goal := goal) (hand := 1) (.inr rfl) (tw ns n st) hp htm
    have f5 := is_paper_any hg (goal := goal) (tw ns n st) hp htm
    have f6 := is_paper_against_any hg (goal := goal) (tw ns n st) hp htm
    rw [hi0] at f3 f5
    rw [hi1] at f4 f6
    have f4 : f_l_is_paper [.dat (gD g), .dat (.int (p : Nat)), .dat (.int goal), .dat (.tuple ds), .dat (.int (1 - 0))] (tw ns n st) = some (.dat (.bool false), tw ns n st) := f4
    have hgle : decide (goal ≤ wor g p) = true := hgd.symm
    have b1 : (!decide ((!isN (PyData.tuple ds)) = decide (goal ≤ wor g p))) = false := by rw [hgle]; rfl
    have b2 : neD (.tuple [.bool true, .bool false]) (.tuple [.bool (decide ((0 : Int) = 0)), .bool (decide ((0 : Int) = 1))]) = some (.bool false) := neD_self (k := 1) (d := .tuple [.bool true, .bool false]) rfl (by omega)
    walk_at "vfn"
    walk_at "vc"
    refine wp_forI (fun i l g' => l = [scr ns, .ref 0, .dat (gD g), .dat (.int (p : Nat)), .dat (.int goal), .no, .no, .dat .none, .dat (.tuple ds), .dat (.int 0), .no, .no, .no, .no] ∧ ∃ n', g' = tw ns n' st ∧ n ≤ n' ∧ n' ≤ n + 30 * i) ⟨rfl, n, rfl, by omega, by omega⟩ ?_ ?_
    · rintro i d l g' hd ⟨rfl, n1, rfl, h1, h2⟩
      obtain ⟨hi, rfl⟩ := rng_get hd
      have hi : i < 3 := hi
      unfold b_l_goal_holds_1
      walk_at "vc"
      refine play_ok hz hg hk (.inl rfl) hp hi0 (by omega) fun w n2 hw h3 h4 => ?_
      have hw : decide (goal ≤ w) = true := hw
      have b3 : (!decide (decide (goal ≤ w) = decide ((0 : Int) = 0))) = false := by rw [hw]; rfl
      walk_at "vc"
      exact ⟨rfl, n2, rfl, by omega, by omega⟩
    · rintro l g' ⟨rfl, n1, rfl, h1, h2⟩
      have h2 : n1 ≤ n + 90 := h2
      have f1 := (hends (tw ns n1 st)).1
      have f2 := (hends (tw ns n1 st)).2
      have f3 := hli (tw ns n1 st)
      have f4 := hlp (tw ns n1 st)
      have f5 := hfe (tw ns n1 st)
      have f6 := hc1 (tw ns n1 st)
      have f7 := hc2 (tw ns n1 st)
      have f8 := htu (tw ns n1 st)
      have f9 := hpt (tw ns n1 st)
      have f10 := hendl (tw ns n1 st)
      have b4 : decide (eV (.tuple ds) > linP g p) = false := decide_eq_false (by omega)
      have b5 : (!(decide (eV (.tuple dl) = eV (.tuple dl)) && decide (eV (.tuple dl) ≤ eV (.tuple ds)))) = false := by rw [decide_eq_true hle, decide_eq_true rfl]; rfl
      have b6 : (!decide (decide (cntP goal g p > 0) = decide ((0 : Int) = 0))) = false := by rw [hcp]; rfl
      have b7 : decide (cntP (goal + 1) g p > cntP goal g p) = false := decide_eq_false (by omega)
      walk_at "vc"
      exact hQ n1 h1 h2
  | false =>
    rw [hb] at w0 w1 wl hgd hcp
    have e0 : apH ch1 0 goal g p = none := Classical.byContradiction fun z => nomatch w0.mp z
    have el : apH chL 0 goal g p = none := Classical.byContradiction fun z => nomatch wl.mp z
    obtain ⟨q, e1⟩ := Option.ne_none_iff_exists'.mp (w1.mpr rfl)
    have hq := hmem 1 q e1
    have hpd := ppL_pd hg 30 p hp q hq
    have hi1 := ppL_isPp hg 30 p q hp hq
    have hi0 : isPp g goal 0 30 p q = false := by
      cases e : isPp g goal 0 30 p q with
      | false => rfl
      | true =>
        have := isPp_wor hg hk (.inl rfl) 30 p q hp e
        rw [hb] at this
        cases this
    have hln := eV_lines hg hk 30 p q (by omega) hp hq
    have hends : ∀ st, f_ends_in [.dat q] st = some (.dat (.int (eV q)), st) ∧ f_l_ends [.dat q] st = some (.dat (.int (eV q)), st) := fun st => by
      have htm := pd_tm hpd
      obtain ⟨_, ds, _, rfl⟩ := pd_is hpd
      have := ends_in_any st (by omega) htm
      have h2 := l_ends_any st (by omega) htm
      rw [show eV (.tuple ds) = _ from endsV_up _ 35 _ htm (by omega)]
      exact ⟨this, h2⟩
    have htm := pd_tm hpd
    simp only [e0, e1, el] at hpf hpa hlp hfe hpt
    have hpf : ∀ st, f_paper_for [.dat (gD g), .dat (.int (p : Nat)), .dat (.int goal)] st = some (.dat .none, st) := hpf
    have hpa : ∀ st, f_paper_against [.dat (gD g), .dat (.int (p : Nat)), .dat (.int goal)] st = some (.dat q, st) := hpa
    have hlp : ∀ st, f_least_paper [.dat (gD g), .dat (.int (p : Nat)), .dat (.int goal)] st = some (.dat .none, st) := hlp
    have hfe : ∀ st, f_fewest_ends [.dat (gD g), .dat (.int (p : Nat)), .dat (.int goal)] st = some (.dat .none, st) := hfe
    have hpt : ∀ st, f_paper_for [.dat (gD (g.map turnP)), .dat (.int (p : Nat)), .dat (.int (1 - goal))] st = some (.dat q, st) := hpt
    have hqq := eqD_self (pd_sh19 30 q hpd) (by omega)
    obtain ⟨_, ds, _, rfl⟩ := pd_is hpd
    have f1 := hpf (tw ns n st)
    have f2 := hpa (tw ns n st)
    have f3 := l_is_paper_any hg (goal := goal) (hand := 1) (.inr rfl) (tw ns n st) hp htm
    have f4 := l_is_paper_any hg (goal := goal) (hand := 0) (.inl rfl) (tw ns n st) hp htm
    have f5 := is_paper_any hg (goal := goal) (tw ns n st) hp htm
    have f6 := is_paper_against_any hg (goal := goal) (tw ns n st) hp htm
    rw [hi1] at f3 f6
    rw [hi0] at f4 f5
    have f4 : f_l_is_paper [.dat (gD g), .dat (.int (p : Nat)), .dat (.int goal), .dat (.tuple ds), .dat (.int (1 - 1))] (tw ns n st) = some (.dat (.bool false), tw ns n st) := f4
    have hgle : decide (goal ≤ wor g p) = false := hgd.symm
    have b1 : (!decide ((!isN PyData.none) = decide (goal ≤ wor g p))) = false := by rw [hgle]; rfl
    have b2 : neD (.tuple [.bool false, .bool true]) (.tuple [.bool (decide ((1 : Int) = 0)), .bool (decide ((1 : Int) = 1))]) = some (.bool false) := neD_self (k := 1) (d := .tuple [.bool false, .bool true]) rfl (by omega)
    walk_at "vfn"
    walk_at "vc"
    refine wp_forI (fun i l g' => l = [scr ns, .ref 0, .dat (gD g), .dat (.int (p : Nat)), .dat (.int goal), .no, .no, .dat (.tuple ds), .dat (.tuple ds), .dat (.int 1), .no, .no, .no, .no] ∧ ∃ n', g' = tw ns n' st ∧ n ≤ n' ∧ n' ≤ n + 30 * i) ⟨rfl, n, rfl, by omega, by omega⟩ ?_ ?_
    · rintro i d l g' hd ⟨rfl, n1, rfl, h1, h2⟩
      obtain ⟨hi, rfl⟩ := rng_get hd
      have hi : i < 3 := hi
      unfold b_l_goal_holds_1
      walk_at "vc"
      refine play_ok hz hg hk (.inr rfl) hp hi1 (by omega) fun w n2 hw h3 h4 => ?_
      have hw2 : w < goal := of_decide_eq_true hw
      have hw : decide (goal ≤ w) = false := decide_eq_false (by omega)
      have b3 : (!decide (decide (goal ≤ w) = decide ((1 : Int) = 0))) = false := by rw [hw]; rfl
      walk_at "vc"
      exact ⟨rfl, n2, rfl, by omega, by omega⟩
    · rintro l g' ⟨rfl, n1, rfl, h1, h2⟩
      have h2 : n1 ≤ n + 90 := h2
      have f1 := (hends (tw ns n1 st)).1
      have f2 := (hends (tw ns n1 st)).2
      have f3 := hli (tw ns n1 st)
      have f4 := hlp (tw ns n1 st)
      have f5 := hfe (tw ns n1 st)
      have f6 := hc1 (tw ns n1 st)
      have f7 := hc2 (tw ns n1 st)
      have f8 := htu (tw ns n1 st)
      have f9 := hpt (tw ns n1 st)
      have b4 : decide (eV (.tuple ds) > linP g p) = false := decide_eq_false (by omega)
      have b6 : (!decide (decide (cntP goal g p > 0) = decide ((1 : Int) = 0))) = false := by rw [hcp]; rfl
      have b7 : decide (cntP (goal + 1) g p > cntP goal g p) = false := decide_eq_false (by omega)
      walk_at "vc"
      exact hQ n1 h1 h2
noncomputable def b_law_k19_1 (F_l_straight F_l_draw F_worths F_l_goal_holds F_l_drawn_goal_2 : FS) : X :=
  (xIf (bNot (bTru (eCall F_l_goal_holds (vCons (vE (eVar 0)) (vCons (vR 1) (vCons (vE (eVar 3)) (vCons (vE (eVar 5)) (vCons (vE (eCall F_l_drawn_goal_2 (vCons (vE (eVar 0)) (vCons (vR 1) (vCons (vE (eOp ixD (eVar 4) (eVar 5))) vNil))))) (vCons (vE (eOp ixD (eVar 4) (eVar 5))) vNil)))))))))
        (xRet (eC (.bool false)))
        xNext)
noncomputable def b_law_k19_2 (F_l_straight F_l_draw F_worths F_l_goal_holds F_l_drawn_goal_2 : FS) : X :=
  (xSeq (xAsg 3 (eCall F_l_straight (vCons (vE (eVar 0)) (vCons (vR 1) (vCons (vE (eOp plusD (eC (.int 1)) (eCall F_l_draw (vCons (vE (eVar 0)) (vCons (vR 1) (vCons (vE (eC (.int 11))) vNil)))))) vNil)))))
    (xSeq (xAsg 4 (eCall F_worths (vCons (vE (eVar 3)) vNil)))
    (xFor (iWipe [2, 5] (iRg1 (eCB lenD (aCons (eVar 3) aNil)))) (gNm 5)
      (xKeep [2, 5] (b_law_k19_1 F_l_straight F_l_draw F_worths F_l_goal_holds F_l_drawn_goal_2)))))
noncomputable def m_law_k19 (F_l_straight F_l_draw F_worths F_l_goal_holds F_l_drawn_goal_2 : FS) : X :=
  (xSeq (xNewL 1 (lLst aNil))
  (xSeq (xFor (iWipe [2, 3, 4, 5] (iRg1 (eC (.int 4)))) (gNm 2)
    (xKeep [2, 3, 4, 5] (b_law_k19_2 F_l_straight F_l_draw F_worths F_l_goal_holds F_l_drawn_goal_2)))
  (xRet (eC (.bool true)))))
noncomputable def f_law_k19 : FS := fnS 6 (m_law_k19 f_l_straight f_l_draw f_worths f_l_goal_holds f_l_drawn_goal_2)

def lo19 (ns : List Int) (g : List Pl) : Lo := [scr ns, .ref 0, .no, .dat (gD g), .dat (.tuple (worsD g)), .no]
set_option maxHeartbeats 8000000 in
theorem law_true (ns : List Int) (hz : ns.length ≤ 63) : ∃ g, f_law_k19 [.dat (.list (ns.map .int))] [] = some (.dat (.bool true), g) := by
  suffices h : FOk f_law_k19 [scr ns] [] fun v _ => v = .dat (.bool true) by
    obtain ⟨v, g, e, rfl⟩ := h
    exact ⟨g, e⟩
  unfold f_law_k19 m_law_k19
  walk_at "vfn"
  walk_at "vc"
  refine wp_forI (fun i l g' => l = [scr ns, .ref 0, .no, .no, .no, .no] ∧ ∃ n st, n ≤ 2000 * i ∧ g' = tw ns n st) ⟨rfl, 0, [], Nat.le_refl _, rfl⟩ ?_ ?_
  · rintro i d l g' hd ⟨rfl, n, st, hn, rfl⟩
    obtain ⟨hi, rfl⟩ := rng_get hd
    have hi : i < 4 := hi
    unfold b_law_k19_2
    walk_at "vc"
    refine draw_ok hz (by omega) (by omega) fun k hk => ?_
    walk_at "vc"
    refine straight_ok hz (by omega) (by omega) (by omega) fun g n1 hgl hg hst hn1 hn2 => ?_
    have hl := hg.len
    have h11 : g.length ≤ 11 := by omega
    have hlg := lenD_gD g
    have hws := worths_eq hg hst (tw ns n1 st)
    walk_at "vc"
    refine wp_forI (fun h l g' => l = lo19 ns g ∧ ∃ n', g' = tw ns n' st ∧ n1 ≤ n' ∧ n' ≤ n1 + 100 * h) ⟨rfl, n1, rfl, by omega, by omega⟩ ?_ ?_
    · rintro p d l g' hd ⟨rfl, n3, rfl, hn3, hn4⟩
      obtain ⟨hp, rfl⟩ := rng_get hd
      have hp : p < g.length := by simpa using hp
      rw [Int.zero_add]
      have hwx : ixD (.tuple (worsD g)) (.int (p : Nat)) = some (.int (wor g p)) := ixD_tN (wors_at hp)
      unfold b_law_k19_1 lo19
      walk_at "vc"
      refine goal_ok19 (n := n3) (st := st) hz (by omega) fun goal => ?_
      walk_at "vc"
      refine holds_ok hz hg hst h11 hp (by omega) fun n5 h5 h6 => ?_
      walk_at "vc"
      exact ⟨rfl, _, rfl, by omega, by omega⟩
    · rintro l g' ⟨rfl, n', rfl, h1, h2⟩
      exact ⟨rfl, n', st, by rw [rng_len] at h2; omega, rfl⟩
  · rintro l g' ⟨rfl, n, st, hn, rfl⟩
    walk_at "vc"
    rfl

end
end
end Sm
namespace W
open PySem PySem.Spec PyProof.Rows L2 RZ SrtO Dz Sm
def top (i : Nat) : Stmt := PySem.Challenge.pw_searchduel_k19_whole_for_or_against.main.body.getD i (.Pass ⟨0, 0, 0, 0⟩)
structure Bn (mg : Str → Option Value) : Prop where
  len : mg "len" = none
  list : mg "list" = none
  tuple : mg "tuple" = none
  range : mg "range" = none
  zip : mg "zip" = none
  enumerate : mg "enumerate" = none
  abs : mg "abs" = none
  max : mg "max" = none
  min : mg "min" = none
  sum : mg "sum" = none
  all : mg "all" = none
  any : mg "any" = none
  sorted : mg "sorted" = none
  isinstance : mg "isinstance" = none
  int : mg "int" = none
  bool : mg "bool" = none
  str : mg "str" = none
  set : mg "set" = none
variable {P : Program} {w : World} {K : PySem.W.Frag} {mg : Str → Option Value} {base : Heap} {lw : Nat} {tb : List (Addr × Str)}
/-- a script -/
def Scr (sc : PyData) : Prop := ∃ ns : List Int, sc = .list (ns.map .int) ∧ ns.length ≤ 63
theorem cxK {CX : CXT} {P : Program} {w : World} {K : PySem.W.Frag} {mg : Str → Option Value} {base : Heap} {N : List Str} {q : Str} {sc : Scope} {f : Addr} {cd : Value} {A : Around} {o : List PySem.Env} {s : Shared} {H : Hp} {E : XK} : (cxOf CX P w K mg base N q sc f cd A o s H E).K = K := rfl

/-! ### what the top has written -/
structure DefAt (K : PySem.W.Frag) (x : Str) (st : Stmt) : Prop where
  at_ : ∃ (f : Addr) (oc : Value) (od : Option Addr) (kV dc pm : Value) (an : Option Addr) (cd ct : Value) (sl : Array (Option Value)), PySem.W.nsIn K mainGlobals x = some (some (.ref f)) ∧
    K.lookup f = some ⟨oc, od, .func (PySem.W.fnOf x x (defArgs st) (defBody st) (defScope st) .none kV dc pm an cd ct), sl⟩ ∧ PySem.W.codeIn K cd x = true ∧ PySem.W.keepIn K (.ref f) = true
theorem def_at {K : PySem.W.Frag} {x : Str} {st : Stmt} {f : Addr} {oc : Value} {od an : Option Addr} {kV dc pm cd ct : Value} {sl : Array (Option Value)} (a : PySem.W.nsIn K mainGlobals x = some (some (.ref f)))
    (l : K.lookup f = some ⟨oc, od, .func (PySem.W.fnOf x x (defArgs st) (defBody st) (defScope st) .none kV dc pm an cd ct), sl⟩) (c : PySem.W.codeIn K cd x = true) (k : PySem.W.keepIn K (.ref f) = true) : DefAt K x st := ⟨f, oc, od, kV, dc, pm, an, cd, ct, sl, a, l, c, k⟩
theorem DefAt.ex {K : PySem.W.Frag} {x : Str} {st : Stmt} {h : Heap} {mg : Str → Option Value} (d : DefAt K x st) (X : K.In h) (G : h.Ns mainGlobals mg) : ∃ (f : Addr) (fd : FuncData), Fun K x x st f fd ∧ mg x = some (.ref f) := by
  obtain ⟨f, oc, od, kV, dc, pm, an, cd, ct, sl, a, l, c, k⟩ := d.at_
  exact ⟨f, _, fun_mk l c k, PySem.W.mg_of X G a⟩

abbrev s_is_whole : Stmt := top 1
theorem sc_is_whole : FnScope ["thing"] ["thing"] (defScope s_is_whole) := ⟨rfl, rfl, rfl, by decide +kernel, rfl, by decide +kernel, by decide +kernel⟩

theorem ok_is_whole {f : Addr} {fd : FuncData} {k : Nat} (F : Fun K "is_whole" "is_whole" s_is_whole f fd) (B : Bn mg)
     :
    FnOk P w K mg base CX0 (k + 1) f fd ["thing"] (spG (kX P w K mg base (lw + 1) tb) 1 (fnS 1 (m_is_whole ))) := by
  refine F.ok sc_is_whole (fun vs H Q E h => spG_len h) (fun cdv A outer s H vs Q E hr h => ⟨_,
  (pss_one (ps_ret (k_andT K (pe_callB (k_isi K) (by rfl) B.isinstance (by decide +kernel) (pa_cons (pv 0) (pa_cons (pe_bltn (v := .ty "int") (by rfl) B.int (by decide +kernel) rfl) pa_nil))) (pe_one (k_notT K (pe_callB (k_isi K) (by rfl) B.isinstance (by decide +kernel) (pa_cons (pv 0) (pa_cons (pe_bltn (v := .ty "bool") (by rfl) B.bool (by decide +kernel) rfl) pa_nil)))))))), ?_⟩)
  try simp only [cxK]
  exact run_fn (x := m_is_whole )
    ((x_ret (s_and (s_isi s_var) (s_not (s_isi s_var)))))
    rfl h

abbrev s_moves_of : Stmt := top 2
theorem sc_moves_of : FnScope ["game", "place", "side", "moves"] ["game", "place"] (defScope s_moves_of) := ⟨rfl, rfl, rfl, by decide +kernel, rfl, by decide +kernel, by decide +kernel⟩

theorem ok_moves_of {f : Addr} {fd : FuncData} {k : Nat} (F : Fun K "moves_of" "moves_of" s_moves_of f fd) (B : Bn mg)
     :
    FnOk P w K mg base CX0 (k + 1) f fd ["game", "place"] (spG (kX P w K mg base (lw + 1) tb) 2 (fnS 4 (m_moves_of ))) := by
  refine F.ok sc_moves_of (fun vs H Q E h => spG_len h) (fun cdv A outer s H vs Q E hr h => ⟨_,
  (pss_cons (ps_asg (pe_ix (k_ix K) (pv 0) (pv 1) (fun _ _ => rfl)) (k_tup (n := 2) K rfl (pgs_cons (pg_name (i := 2) sc_moves_of.nd rfl (by first | exact Or.inl rfl | exact Or.inr rfl)) (pgs_cons (pg_name (i := 3) sc_moves_of.nd rfl (by first | exact Or.inl rfl | exact Or.inr rfl)) pgs_nil))))
  (pss_one (ps_ret (pe_ifExp (pt_cmpR (k_eq K hr.units) (pv 2) pe_str (nomark _)) (pe_tup pa_nil) (pv 3))))), ?_⟩)
  try simp only [cxK]
  exact run_fn (x := m_moves_of )
    ((x_seq (x_asgG (s_op ro_ix s_var s_var) (b_tup (bs_cons b_name (bs_cons b_name bs_nil))))
  (x_ret (s_if (s_test (s_op ro_eq s_var s_str)) (s_tup s_nil) s_var))))
    rfl h

abbrev s_order_of : Stmt := top 3
theorem sc_order_of : FnScope ["game", "left", "place", "order", "ready", "many", "first", "rest"] ["game"] (defScope s_order_of) := ⟨rfl, rfl, rfl, by decide +kernel, rfl, by decide +kernel, by decide +kernel⟩

theorem ok_order_of {f : Addr} {fd : FuncData} {k : Nat} {F_moves_of : FS} (F : Fun K "order_of" "order_of" s_order_of f fd) (B : Bn mg)
    (c_moves_of : Cal P w K mg base k "moves_of" ["game", "place"] (spG (kX P w K mg base (lw + 1) tb) 2 F_moves_of)) :
    FnOk P w K mg base CX0 (k + 1) f fd ["game"] (spG (kX P w K mg base (lw + 1) tb) 1 (fnS 8 (m_order_of F_moves_of))) := by
  refine F.ok sc_order_of (fun vs H Q E h => spG_len h) (fun cdv A outer s H vs Q E hr h => ⟨_,
  (pss_cons (ps_setDc (i := 1) (own := [("place", 2)]) (by rfl) sc_order_of.nd rfl rfl (sw_trueD rfl rfl rfl (by decide +kernel)) (pi_range1 (by rfl) B.range (pa_cons (pe_callB (k_len K) (by rfl) B.len (by decide +kernel) (pa_cons (pv 0) pa_nil)) pa_nil)) (blkOk_by (own := [("place", 2)]) (N := ["game", "left", "place", "order", "ready", "many", "first", "rest"]) (sc := defScope s_order_of) (by decide +kernel)) (fun _ _ _ _ _ => (pg_name (i := 2) sc_order_of.nd rfl (by first | exact Or.inl rfl | exact Or.inr rfl))) (fun _ _ _ _ _ => pts_nil) (fun _ _ _ _ _ => (pv 2)) (fun _ _ _ _ _ => (pe_callB (k_len K) (by rfl) B.len (by decide +kernel) (pa_cons (pe_cal c_moves_of hr (pa_cons (pv 0) (pa_cons (pv 2) pa_nil))) pa_nil))))
  (pss_cons (ps_set (i := 3) sc_order_of.nd rfl (by first | exact Or.inl rfl | exact Or.inr rfl) (pe_lst pa_nil))
  (pss_cons (ps_while PassesOwn.never (k_tru K (pv 1) (by intro _; rfl))
    (pss_cons (ps_lock (ps_setLc (i := 4) (own := [("place", 2), ("many", 5)]) (by rfl) sc_order_of.nd rfl rfl (sw_true rfl rfl rfl (by decide +kernel)) (pi_items (pv 1)) (blkOk_by (own := [("place", 2), ("many", 5)]) (N := ["game", "left", "place", "order", "ready", "many", "first", "rest"]) (sc := defScope s_order_of) (by decide +kernel)) (fun _ _ _ _ _ => (k_tup (n := 2) K rfl (pgs_cons (pg_name (i := 2) sc_order_of.nd rfl (by first | exact Or.inl rfl | exact Or.inr rfl)) (pgs_cons (pg_name (i := 5) sc_order_of.nd rfl (by first | exact Or.inl rfl | exact Or.inr rfl)) pgs_nil)))) (fun _ _ _ _ _ => pts_one (pt_cmpR (k_eq K hr.units) (pv 5) pe_int (nomark _))) (fun _ _ _ _ _ => (pv 2))))
    (pss_cons (ps_if (pt_not (k_tru K (pv 4) (by intro _; rfl)))
      (pss_one (ps_ret pe_non))
      pss_nil)
    (pss_cons (ps_asg (pe_callB (k_sorted K) (by rfl) B.sorted (by decide +kernel) (pa_cons (pv 4) pa_nil)) (pg_star (n := 2) (i := 1) K rfl (pgs_cons (pg_name (i := 6) sc_order_of.nd rfl (by first | exact Or.inl rfl | exact Or.inr rfl)) (pgs_star (pg_name (i := 7) sc_order_of.nd rfl (by first | exact Or.inl rfl | exact Or.inr rfl)) pgs_nil)) (by decide)))
    (pss_cons (ps_expr (pe_bm PySem.F.plainAttrs_list PySem.F.slot_list_append PySem.F.type_list_append mt_append (pv 3) (pa_cons (pv 6) pa_nil)))
    (pss_cons (ps_expr (pe_dpop1 (pv 1) (pv 6) ⟨rfl, rfl, rfl, rfl⟩))
    (pss_one (ps_for PassesOwn.never rfl (k_seq K (pe_callTy (call_list_dK rfl) (by rfl) B.list (by decide +kernel) (pa_cons (pv 1) pa_nil))) (pg_name (i := 2) sc_order_of.nd rfl (by first | exact Or.inl rfl | exact Or.inr rfl))
      (pss_one (ps_if (pt_cmpR (k_in K) (pv 6) (pe_cal c_moves_of hr (pa_cons (pv 0) (pa_cons (pv 2) pa_nil))) (by rfl))
        (pss_one (ps_dput (un1 hr) (pv 1) (pv 2) (pe_op op_sub (pe_dget (un1 hr) (pv 1) (pv 2) (fun _ _ => rfl)) pe_int) rfl))
        pss_nil))))))))))
  (pss_one (ps_ret (pe_callTy (k_tuple K) (by rfl) B.tuple (by decide +kernel) (pa_cons (pv 3) pa_nil))))))), ?_⟩)
  try simp only [cxK]
  exact run_fn (x := m_order_of F_moves_of)
    ((x_seq (x_asgC (s_dc (vs := [2]) (s_irg1 (s_cb rc_len (s_cons s_var s_nil))) (gin_name (by decide)) gmono_name b_name s_yes s_var (s_cb rc_len (s_cons (s_call (s_vcons (s_vE s_var) (s_vcons (s_vE s_var) s_vnil)) (vn_cons (vn_cons vn_nil))) s_nil))))
  (x_seq (x_asgL (s_lst s_nil))
  (x_seq (x_pre (x_while s_truD
    (x_keep (x_seq (x_items (vs := [2, 5]) (by decide) (gin_tup (gins_cons (gin_name (by decide)) (gins_cons (gin_name (by decide)) gins_nil gmono_name) gmono_name)) (gmono_tup (gmonos_cons gmono_name (gmonos_cons gmono_name gmonos_nil))) (b_tup (bs_cons b_name (bs_cons b_name bs_nil))) (s_test (s_op ro_eq s_var s_int)) s_var)
    (x_seq (x_if (s_bnot (s_tru s_var))
      (x_ret s_non)
      x_next)
    (x_seq (x_asgG (s_cb rc_sortedD (s_cons s_var s_nil)) (b_star (bs_cons b_name (bs_cons b_name bs_nil))))
    (x_seq (x_app s_var)
    (x_seq (x_dpop s_var)
    (x_for (s_iwipe (s_iseq (s_ofL s_keys))) b_name
      (x_keep (x_if (s_test (s_op ro_in s_var (s_call (s_vcons (s_vE s_var) (s_vcons (s_vE s_var) s_vnil)) (vn_cons (vn_cons vn_nil)))))
        (x_dput s_var (s_op ro_sub (s_dget s_var) s_int))
        x_next)))))))))))
  (x_ret s_tupleV)))))
    rfl h

abbrev s_gathered : Stmt := top 4
theorem sc_gathered : FnScope ["game", "ends", "put", "found", "place", "moves", "move"] ["game", "ends", "put"] (defScope s_gathered) := ⟨rfl, rfl, rfl, by decide +kernel, rfl, by decide +kernel, by decide +kernel⟩

theorem ok_gathered {f : Addr} {fd : FuncData} {k : Nat} {F_order_of F_moves_of : FS} (F : Fun K "gathered" "gathered" s_gathered f fd) (B : Bn mg)
    (c_order_of : Cal P w K mg base k "order_of" ["game"] (spG (kX P w K mg base (lw + 1) tb) 1 F_order_of))
    (c_moves_of : Cal P w K mg base k "moves_of" ["game", "place"] (spG (kX P w K mg base (lw + 1) tb) 2 F_moves_of))
    (lvk : lw + 1 ≤ k) :
    FnOk P w K mg base CX0 (k + 1) f fd ["game", "ends", "put"] (spG (kX P w K mg base (lw + 1) tb) 3 (fnS 7 (m_gathered F_order_of F_moves_of))) := by
  refine F.ok sc_gathered (fun vs H Q E h => spG_len h) (fun cdv A outer s H vs Q E hr h => ⟨_,
  (pss_cons (ps_set (i := 3) sc_gathered.nd rfl (by first | exact Or.inl rfl | exact Or.inr rfl) pe_dnewK)
  (pss_cons (ps_for PassesOwn.never rfl (k_seq K (pe_cal c_order_of hr (pa_cons (pv 0) pa_nil))) (pg_name (i := 4) sc_gathered.nd rfl (by first | exact Or.inl rfl | exact Or.inr rfl))
    (pss_cons (ps_set (i := 5) sc_gathered.nd rfl (by first | exact Or.inl rfl | exact Or.inr rfl) (pe_cal c_moves_of hr (pa_cons (pv 0) (pa_cons (pv 4) pa_nil))))
    (pss_one (ps_dput (un1 hr) (pv 3) (pv 4) (pe_ifExp (k_tru K (pv 5) (by intro _; rfl)) (pe_callF (K := (kX P w K mg base (lw + 1) tb)) (i := 2) ⟨rfl, rfl, rfl, rfl, rfl⟩ (hr.mono lvk) rfl (by first | exact .inl rfl | exact .inr (.inl rfl) | exact .inr (.inr rfl)) (pa_cons (pe_lc (own := [("move", 6)]) (by rfl) sc_gathered.nd (k_seq K (pv 5)) (blkOk_by (own := [("move", 6)]) (N := ["game", "ends", "put", "found", "place", "moves", "move"]) (sc := defScope s_gathered) (by decide +kernel)) (fun _ _ _ _ _ => (pg_name (i := 6) sc_gathered.nd rfl (by first | exact Or.inl rfl | exact Or.inr rfl))) (fun _ _ _ _ _ => pts_nil) (fun _ _ _ _ _ => (pe_dget (un1 hr) (pv 3) (pv 6) (fun _ _ => rfl)))) pa_nil)) (pv 1)) rfl))))
  (pss_one (ps_ret (pv 3))))), ?_⟩)
  try simp only [cxK]
  exact run_fn (x := m_gathered F_order_of F_moves_of)
    ((x_seq (x_asgC s_dnew)
  (x_seq (x_for (s_iwipe (s_iseq (s_call (s_vcons (s_vE s_var) s_vnil) (vn_cons vn_nil)))) b_name
    (x_keep (x_seq (x_asg (s_call (s_vcons (s_vE s_var) (s_vcons (s_vE s_var) s_vnil)) (vn_cons (vn_cons vn_nil))))
    (x_dput s_var (s_if (s_tru s_var) (s_callF (s_cons (s_ofL (s_lc (vs := [6]) (s_iseq s_var) (gin_name (by decide)) gmono_name b_name s_yes (s_dget s_var))) s_nil)) s_var)))))
  x_retD)))
    rfl h

abbrev s_lines : Stmt := top 5
theorem sc_lines : FnScope ["game", "place"] ["game", "place"] (defScope s_lines) := ⟨rfl, rfl, rfl, by decide +kernel, rfl, by decide +kernel, by decide +kernel⟩

theorem ok_lines {f : Addr} {fd : FuncData} {k : Nat} {F_gathered : FS} (F : Fun K "lines" "lines" s_lines f fd) (B : Bn mg) {cd : Value} (hcd : fd.code = cd) (ta : TabAt (kX P w K mg base (lw + 1) tb) cd (qLam "lines"))
    (c_gathered : Cal P w K mg base k "gathered" ["game", "ends", "put"] (spG (kX P w K mg base (lw + 1) tb) 3 F_gathered)) :
    FnOk P w K mg base CX0 (k + 1) f fd ["game", "place"] (spG (kX P w K mg base (lw + 1) tb) 2 (fnS 2 (m_lines F_gathered))) := by
  refine okC F hcd sc_lines (fun vs H Q E h => spG_len h) (fun A outer s H vs Q E hr h => ⟨_,
  (pss_one (ps_ret (pe_dget (un1 hr) (pe_cal c_gathered hr (pa_cons (pv 0) (pa_cons pe_int (pa_cons (pe_lamV (K := (kX P w K mg base (lw + 1) tb)) (F := y_lines_1 F_gathered) (N := ["row"]) (names := ["row"]) ⟨rfl, rfl, rfl, rfl, rfl⟩ (by exact ta) (by rfl) (by exact ⟨rfl, rfl, rfl, by decide +kernel, rfl, by decide +kernel, by decide +kernel⟩) rfl (by exact lamF_len) (by intro _ _ _ _ us hl; exact match us, hl with | [_], _ => rfl) (fun f c' A outer s H vs Q hr h => ⟨_, (pe_callB (k_sum K rfl) (by rfl) B.sum (by decide +kernel) (pa_cons (pv 0) pa_nil)), by (try simp only [cxK]); exact lam_body (s_cb rc_sumD (s_cons s_var s_nil)) rfl h⟩)) pa_nil)))) (pv 1) (fun _ _ => rfl)))), ?_⟩)
  try simp only [cxK]
  exact run_fn (x := m_lines F_gathered)
    ((x_ret (s_callDg (s_vcons (s_vE s_var) (s_vcons (s_vE s_int) (s_vcons s_lam s_vnil))) (vn_cons (vn_cons (vn_cons vn_nil))))))
    rfl h

abbrev s_turned : Stmt := top 6
theorem sc_turned : FnScope ["game", "side", "more"] ["game"] (defScope s_turned) := ⟨rfl, rfl, rfl, by decide +kernel, rfl, by decide +kernel, by decide +kernel⟩

theorem ok_turned {f : Addr} {fd : FuncData} {k : Nat} (F : Fun K "turned" "turned" s_turned f fd) (B : Bn mg)
     :
    FnOk P w K mg base CX0 (k + 1) f fd ["game"] (spG (kX P w K mg base (lw + 1) tb) 1 (fnS 3 (m_turned ))) := by
  refine F.ok sc_turned (fun vs H Q E h => spG_len h) (fun cdv A outer s H vs Q E hr h => ⟨_,
  (pss_one (ps_ret (pe_callTy (k_tuple K) (by rfl) B.tuple (by decide +kernel) (pa_cons (pe_lc (own := [("side", 1), ("more", 2)]) (by rfl) sc_turned.nd (k_seq K (pv 0)) (blkOk_by (own := [("side", 1), ("more", 2)]) (N := ["game", "side", "more"]) (sc := defScope s_turned) (by decide +kernel)) (fun _ _ _ _ _ => (k_tup (n := 2) K rfl (pgs_cons (pg_name (i := 1) sc_turned.nd rfl (by first | exact Or.inl rfl | exact Or.inr rfl)) (pgs_cons (pg_name (i := 2) sc_turned.nd rfl (by first | exact Or.inl rfl | exact Or.inr rfl)) pgs_nil)))) (fun _ _ _ _ _ => pts_nil) (fun _ _ _ _ _ => (pe_ifExp (pt_cmpR (k_eq K hr.units) (pv 1) pe_str (nomark _)) (pe_tup (pa_cons pe_str (pa_cons (pe_un un_neg (pv 2)) pa_nil))) (pe_tup (pa_cons (pe_op op_sub pe_int (pv 1)) (pa_cons (pv 2) pa_nil)))))) pa_nil)))), ?_⟩)
  try simp only [cxK]
  exact run_fn (x := m_turned )
    ((x_ret (s_cb rc_tuple (s_cons (s_ofL (s_lc (vs := [1, 2]) (s_iseq s_var) (gin_tup (gins_cons (gin_name (by decide)) (gins_cons (gin_name (by decide)) gins_nil gmono_name) gmono_name)) (gmono_tup (gmonos_cons gmono_name (gmonos_cons gmono_name gmonos_nil))) (b_tup (bs_cons b_name (bs_cons b_name bs_nil))) s_yes (s_if (s_test (s_op ro_eq s_var s_str)) (s_tup (s_cons s_str (s_cons (s_un ro_neg s_var) s_nil))) (s_tup (s_cons (s_op ro_sub s_int s_var) (s_cons s_var s_nil)))))) s_nil))))
    rfl h

abbrev s_is_paper : Stmt := top 8
theorem sc_is_paper : FnScope ["game", "place", "goal", "thing", "side", "more", "move", "part"] ["game", "place", "goal", "thing"] (defScope s_is_paper) := ⟨rfl, rfl, rfl, by decide +kernel, rfl, by decide +kernel, by decide +kernel⟩

theorem ok_is_paper {f : Addr} {fd : FuncData} {k : Nat} {F_is_whole F_is_paper : FS} (F : Fun K "is_paper" "is_paper" s_is_paper f fd) (B : Bn mg)
    (c_is_whole : Cal P w K mg base k "is_whole" ["thing"] (spG (kX P w K mg base (lw + 1) tb) 1 F_is_whole))
    (c_is_paper : Cal P w K mg base k "is_paper" ["game", "place", "goal", "thing"] (spG (kX P w K mg base (lw + 1) tb) 4 F_is_paper)) :
    FnOk P w K mg base CX0 (k + 1) f fd ["game", "place", "goal", "thing"] (spG (kX P w K mg base (lw + 1) tb) 4 (fnS 8 (m_is_paper F_is_whole F_is_paper))) := by
  refine F.ok sc_is_paper (fun vs H Q E h => spG_len h) (fun cdv A outer s H vs Q E hr h => ⟨_,
  (pss_cons (ps_asg (pe_ix (k_ix K) (pv 0) (pv 1) (fun _ _ => rfl)) (k_tup (n := 2) K rfl (pgs_cons (pg_name (i := 4) sc_is_paper.nd rfl (by first | exact Or.inl rfl | exact Or.inr rfl)) (pgs_cons (pg_name (i := 5) sc_is_paper.nd rfl (by first | exact Or.inl rfl | exact Or.inr rfl)) pgs_nil))))
  (pss_cons (ps_if (pt_not (k_tru K (pe_callB (k_isi K) (by rfl) B.isinstance (by decide +kernel) (pa_cons (pv 3) (pa_cons (pe_bltn (v := .ty "tuple") (by rfl) B.tuple (by decide +kernel) rfl) pa_nil))) (by intro _; rfl)))
    (pss_one (ps_ret pe_bl))
    pss_nil)
  (pss_cons (ps_if (pt_cmpR (k_eq K hr.units) (pv 4) pe_str (nomark _))
    (pss_one (ps_ret (k_andT K (pe_cmpR (k_eq K hr.units) (pv 3) (pe_tup pa_nil) (nomark _)) (pe_one (pe_cmpR op_ge (pv 5) (pv 2) (nomark _))))))
    pss_nil)
  (pss_cons (ps_if (pt_cmpR (k_eq K hr.units) (pv 4) pe_int (nomark _))
    (pss_cons (ps_if (PW.pt (pw_or (pt_cmpR (k_ne K hr.units) (pe_callB (k_len K) (by rfl) B.len (by decide +kernel) (pa_cons (pv 3) pa_nil)) pe_int (nomark _)) (pw_or (pt_not (k_tru K (pe_cal c_is_whole hr (pa_cons (pe_ix (k_ix K) (pv 3) pe_int (fun _ _ => rfl)) pa_nil)) (by intro _; rfl))) (pw_or1 (pt_cmpR (k_notin K) (pe_ix (k_ix K) (pv 3) pe_int (fun _ _ => rfl)) (pv 5) (by rfl))))))
      (pss_one (ps_ret pe_bl))
      pss_nil)
    (pss_one (ps_ret (pe_cal c_is_paper hr (pa_cons (pv 0) (pa_cons (pe_ix (k_ix K) (pv 3) pe_int (fun _ _ => rfl)) (pa_cons (pv 2) (pa_cons (pe_ix (k_ix K) (pv 3) pe_int (fun _ _ => rfl)) pa_nil))))))))
    pss_nil)
  (pss_one (ps_ret (k_andT K (pe_cmpR (k_eq K hr.units) (pe_callB (k_len K) (by rfl) B.len (by decide +kernel) (pa_cons (pv 3) pa_nil)) (pe_callB (k_len K) (by rfl) B.len (by decide +kernel) (pa_cons (pv 5) pa_nil)) (nomark _)) (pe_one (pe_callB (k_all K rfl) (by rfl) B.all (by decide +kernel) (pa_cons (pe_lc (own := [("move", 6), ("part", 7)]) (by rfl) sc_is_paper.nd (pi_zipA (by rfl) B.zip (pa_cons (pv 5) (pa_cons (pv 3) pa_nil))) (blkOk_by (own := [("move", 6), ("part", 7)]) (N := ["game", "place", "goal", "thing", "side", "more", "move", "part"]) (sc := defScope s_is_paper) (by decide +kernel)) (fun _ _ _ _ _ => (k_tup (n := 2) K rfl (pgs_cons (pg_name (i := 6) sc_is_paper.nd rfl (by first | exact Or.inl rfl | exact Or.inr rfl)) (pgs_cons (pg_name (i := 7) sc_is_paper.nd rfl (by first | exact Or.inl rfl | exact Or.inr rfl)) pgs_nil)))) (fun _ _ _ _ _ => pts_nil) (fun _ _ _ _ _ => (pe_cal c_is_paper hr (pa_cons (pv 0) (pa_cons (pv 6) (pa_cons (pv 2) (pa_cons (pv 7) pa_nil))))))) pa_nil)))))))))), ?_⟩)
  try simp only [cxK]
  exact run_fn (x := m_is_paper F_is_whole F_is_paper)
    ((x_seq (x_asgG (s_op ro_ix s_var s_var) (b_tup (bs_cons b_name (bs_cons b_name bs_nil))))
  (x_seq (x_if (s_bnot (s_tru (s_isi s_var)))
    (x_ret s_bl)
    x_next)
  (x_seq (x_if (s_test (s_op ro_eq s_var s_str))
    (x_ret (s_and (s_op ro_eq s_var (s_tup s_nil)) (s_op ro_ge s_var s_var)))
    x_next)
  (x_seq (x_if (s_test (s_op ro_eq s_var s_int))
    (x_seq (x_if (s_bor (s_test (s_op ro_ne (s_cb rc_len (s_cons s_var s_nil)) s_int)) (s_bor (s_bnot (s_tru (s_call (s_vcons (s_vE (s_op ro_ix s_var s_int)) s_vnil) (vn_cons vn_nil)))) (s_test (s_op ro_in (s_op ro_ix s_var s_int) s_var))))
      (x_ret s_bl)
      x_next)
    (x_ret (s_call (s_vcons (s_vE s_var) (s_vcons (s_vE (s_op ro_ix s_var s_int)) (s_vcons (s_vE s_var) (s_vcons (s_vE (s_op ro_ix s_var s_int)) s_vnil)))) (vn_cons (vn_cons (vn_cons (vn_cons vn_nil)))))))
    x_next)
  (x_ret (s_and (s_op ro_eq (s_cb rc_len (s_cons s_var s_nil)) (s_cb rc_len (s_cons s_var s_nil))) (s_cb rc_allD (s_cons (s_ofL (s_lc (vs := [6, 7]) (s_izip s_var s_var) (gin_tup (gins_cons (gin_name (by decide)) (gins_cons (gin_name (by decide)) gins_nil gmono_name) gmono_name)) (gmono_tup (gmonos_cons gmono_name (gmonos_cons gmono_name gmonos_nil))) (b_tup (bs_cons b_name (bs_cons b_name bs_nil))) s_yes (s_call (s_vcons (s_vE s_var) (s_vcons (s_vE s_var) (s_vcons (s_vE s_var) (s_vcons (s_vE s_var) s_vnil)))) (vn_cons (vn_cons (vn_cons (vn_cons vn_nil))))))) s_nil)))))))))
    rfl h

abbrev s_is_paper_against : Stmt := top 9
theorem sc_is_paper_against : FnScope ["game", "place", "goal", "thing"] ["game", "place", "goal", "thing"] (defScope s_is_paper_against) := ⟨rfl, rfl, rfl, by decide +kernel, rfl, by decide +kernel, by decide +kernel⟩

theorem ok_is_paper_against {f : Addr} {fd : FuncData} {k : Nat} {F_is_paper F_turned : FS} (F : Fun K "is_paper_against" "is_paper_against" s_is_paper_against f fd) (B : Bn mg)
    (c_is_paper : Cal P w K mg base k "is_paper" ["game", "place", "goal", "thing"] (spG (kX P w K mg base (lw + 1) tb) 4 F_is_paper))
    (c_turned : Cal P w K mg base k "turned" ["game"] (spG (kX P w K mg base (lw + 1) tb) 1 F_turned)) :
    FnOk P w K mg base CX0 (k + 1) f fd ["game", "place", "goal", "thing"] (spG (kX P w K mg base (lw + 1) tb) 4 (fnS 4 (m_is_paper_against F_is_paper F_turned))) := by
  refine F.ok sc_is_paper_against (fun vs H Q E h => spG_len h) (fun cdv A outer s H vs Q E hr h => ⟨_,
  (pss_one (ps_ret (pe_cal c_is_paper hr (pa_cons (pe_cal c_turned hr (pa_cons (pv 0) pa_nil)) (pa_cons (pv 1) (pa_cons (pe_op op_sub pe_int (pv 2)) (pa_cons (pv 3) pa_nil))))))), ?_⟩)
  try simp only [cxK]
  exact run_fn (x := m_is_paper_against F_is_paper F_turned)
    ((x_ret (s_call (s_vcons (s_vE (s_call (s_vcons (s_vE s_var) s_vnil) (vn_cons vn_nil))) (s_vcons (s_vE s_var) (s_vcons (s_vE (s_op ro_sub s_int s_var)) (s_vcons (s_vE s_var) s_vnil)))) (vn_cons (vn_cons (vn_cons (vn_cons vn_nil)))))))
    rfl h

abbrev s_ends_in : Stmt := top 10
theorem sc_ends_in : FnScope ["paper", "part"] ["paper"] (defScope s_ends_in) := ⟨rfl, rfl, rfl, by decide +kernel, rfl, by decide +kernel, by decide +kernel⟩

theorem ok_ends_in {f : Addr} {fd : FuncData} {k : Nat} {F_ends_in : FS} (F : Fun K "ends_in" "ends_in" s_ends_in f fd) (B : Bn mg)
    (c_ends_in : Cal P w K mg base k "ends_in" ["paper"] (spG (kX P w K mg base (lw + 1) tb) 1 F_ends_in)) :
    FnOk P w K mg base CX0 (k + 1) f fd ["paper"] (spG (kX P w K mg base (lw + 1) tb) 1 (fnS 2 (m_ends_in F_ends_in))) := by
  refine F.ok sc_ends_in (fun vs H Q E h => spG_len h) (fun cdv A outer s H vs Q E hr h => ⟨_,
  (pss_cons (ps_if (pt_cmpR (k_eq K hr.units) (pv 0) (pe_tup pa_nil) (nomark _))
    (pss_one (ps_ret pe_int))
    pss_nil)
  (pss_one (ps_ret (pe_callB (k_sum K rfl) (by rfl) B.sum (by decide +kernel) (pa_cons (pe_lc (own := [("part", 1)]) (by rfl) sc_ends_in.nd (k_seq K (pv 0)) (blkOk_by (own := [("part", 1)]) (N := ["paper", "part"]) (sc := defScope s_ends_in) (by decide +kernel)) (fun _ _ _ _ _ => (pg_name (i := 1) sc_ends_in.nd rfl (by first | exact Or.inl rfl | exact Or.inr rfl))) (fun _ _ _ _ _ => pts_one (k_tru K (pe_callB (k_isi K) (by rfl) B.isinstance (by decide +kernel) (pa_cons (pv 1) (pa_cons (pe_bltn (v := .ty "tuple") (by rfl) B.tuple (by decide +kernel) rfl) pa_nil))) (by intro _; rfl))) (fun _ _ _ _ _ => (pe_cal c_ends_in hr (pa_cons (pv 1) pa_nil)))) pa_nil))))), ?_⟩)
  try simp only [cxK]
  exact run_fn (x := m_ends_in F_ends_in)
    ((x_seq (x_if (s_test (s_op ro_eq s_var (s_tup s_nil)))
    (x_ret s_int)
    x_next)
  (x_ret (s_cb rc_sumD (s_cons (s_ofL (s_lc (vs := [1]) (s_iseq s_var) (gin_name (by decide)) gmono_name b_name (s_tru (s_isi s_var)) (s_call (s_vcons (s_vE s_var) s_vnil) (vn_cons vn_nil)))) s_nil)))))
    rfl h

abbrev s_all_papers : Stmt := top 11
theorem sc_all_papers : FnScope ["game", "goal", "choose", "found", "place", "side", "more", "some", "move", "part"] ["game", "goal", "choose"] (defScope s_all_papers) := ⟨rfl, rfl, rfl, by decide +kernel, rfl, by decide +kernel, by decide +kernel⟩

theorem ok_all_papers {f : Addr} {fd : FuncData} {k : Nat} {F_order_of F_moves_of : FS} (F : Fun K "all_papers" "all_papers" s_all_papers f fd) (B : Bn mg)
    (c_order_of : Cal P w K mg base k "order_of" ["game"] (spG (kX P w K mg base (lw + 1) tb) 1 F_order_of))
    (c_moves_of : Cal P w K mg base k "moves_of" ["game", "place"] (spG (kX P w K mg base (lw + 1) tb) 2 F_moves_of))
    (lvk : lw + 1 ≤ k) :
    FnOk P w K mg base CX0 (k + 1) f fd ["game", "goal", "choose"] (spG (kX P w K mg base (lw + 1) tb) 3 (fnS 10 (m_all_papers F_order_of F_moves_of))) := by
  refine F.ok sc_all_papers (fun vs H Q E h => spG_len h) (fun cdv A outer s H vs Q E hr h => ⟨_,
  (pss_cons (ps_set (i := 3) sc_all_papers.nd rfl (by first | exact Or.inl rfl | exact Or.inr rfl) pe_dnewK)
  (pss_cons (ps_for PassesOwn.never rfl (k_seq K (pe_cal c_order_of hr (pa_cons (pv 0) pa_nil))) (pg_name (i := 4) sc_all_papers.nd rfl (by first | exact Or.inl rfl | exact Or.inr rfl))
    (pss_cons (ps_asg (pe_ix (k_ix K) (pv 0) (pv 4) (fun _ _ => rfl)) (k_tup (n := 2) K rfl (pgs_cons (pg_name (i := 5) sc_all_papers.nd rfl (by first | exact Or.inl rfl | exact Or.inr rfl)) (pgs_cons (pg_name (i := 6) sc_all_papers.nd rfl (by first | exact Or.inl rfl | exact Or.inr rfl)) pgs_nil))))
    (pss_cons (ps_setLc (i := 7) (own := [("move", 8)]) (by rfl) sc_all_papers.nd rfl rfl (sw_true rfl rfl rfl (by decide +kernel)) (k_seq K (pe_cal c_moves_of hr (pa_cons (pv 0) (pa_cons (pv 4) pa_nil)))) (blkOk_by (own := [("move", 8)]) (N := ["game", "goal", "choose", "found", "place", "side", "more", "some", "move", "part"]) (sc := defScope s_all_papers) (by decide +kernel)) (fun _ _ _ _ _ => (pg_name (i := 8) sc_all_papers.nd rfl (by first | exact Or.inl rfl | exact Or.inr rfl))) (fun _ _ _ _ _ => pts_one (pt_cmp (pc_notN (pe_dget (un1 hr) (pv 3) (pv 8) (fun _ _ => rfl))))) (fun _ _ _ _ _ => (pe_tup (pa_cons (pv 8) (pa_cons (pe_dget (un1 hr) (pv 3) (pv 8) (fun _ _ => rfl)) pa_nil)))))
    (pss_one (ps_if (pt_cmpR (k_eq K hr.units) (pv 5) pe_str (nomark _))
      (pss_one (ps_dput (un1 hr) (pv 3) (pv 4) (pe_ifExp (pt_cmpR op_ge (pv 6) (pv 1) (nomark _)) (pe_tup pa_nil) pe_non) rfl))
      (pss_one (ps_if (pt_cmpR (k_eq K hr.units) (pv 5) pe_int (nomark _))
        (pss_one (ps_dput (un1 hr) (pv 3) (pv 4) (pe_ifExp (k_tru K (pv 7) (by intro _; rfl)) (pe_callF (K := (kX P w K mg base (lw + 1) tb)) (i := 2) ⟨rfl, rfl, rfl, rfl, rfl⟩ (hr.mono lvk) rfl (by first | exact .inl rfl | exact .inr (.inl rfl) | exact .inr (.inr rfl)) (pa_cons (pv 7) pa_nil)) pe_non) rfl))
        (pss_one (ps_dput (un1 hr) (pv 3) (pv 4) (pe_ifExp (pt_cmpR (k_eq K hr.units) (pe_callB (k_len K) (by rfl) B.len (by decide +kernel) (pa_cons (pv 7) pa_nil)) (pe_callB (k_len K) (by rfl) B.len (by decide +kernel) (pa_cons (pv 6) pa_nil)) (nomark _)) (pe_callTy (k_tuple K) (by rfl) B.tuple (by decide +kernel) (pa_cons (pe_lc (own := [("move", 8), ("part", 9)]) (by rfl) sc_all_papers.nd (k_seq K (pv 7)) (blkOk_by (own := [("move", 8), ("part", 9)]) (N := ["game", "goal", "choose", "found", "place", "side", "more", "some", "move", "part"]) (sc := defScope s_all_papers) (by decide +kernel)) (fun _ _ _ _ _ => (k_tup (n := 2) K rfl (pgs_cons (pg_name (i := 8) sc_all_papers.nd rfl (by first | exact Or.inl rfl | exact Or.inr rfl)) (pgs_cons (pg_name (i := 9) sc_all_papers.nd rfl (by first | exact Or.inl rfl | exact Or.inr rfl)) pgs_nil)))) (fun _ _ _ _ _ => pts_nil) (fun _ _ _ _ _ => (pv 9))) pa_nil)) pe_non) rfl)))))))))
  (pss_one (ps_ret (pv 3))))), ?_⟩)
  try simp only [cxK]
  exact run_fn (x := m_all_papers F_order_of F_moves_of)
    ((x_seq (x_asgC s_dnew)
  (x_seq (x_for (s_iwipe (s_iseq (s_call (s_vcons (s_vE s_var) s_vnil) (vn_cons vn_nil)))) b_name
    (x_keep (x_seq (x_asgG (s_op ro_ix s_var s_var) (b_tup (bs_cons b_name (bs_cons b_name bs_nil))))
    (x_seq (x_asg (s_ofL (s_lc (vs := [8]) (s_iseq (s_call (s_vcons (s_vE s_var) (s_vcons (s_vE s_var) s_vnil)) (vn_cons (vn_cons vn_nil)))) (gin_name (by decide)) gmono_name b_name (s_B (s_notN (s_dget s_var))) (s_tup (s_cons s_var (s_cons (s_dget s_var) s_nil))))))
    (x_if (s_test (s_op ro_eq s_var s_str))
      (x_dput s_var (s_if (s_test (s_op ro_ge s_var s_var)) (s_tup s_nil) s_non))
      (x_if (s_test (s_op ro_eq s_var s_int))
        (x_dput s_var (s_if (s_tru s_var) (s_callF (s_cons s_var s_nil)) s_non))
        (x_dput s_var (s_if (s_test (s_op ro_eq (s_cb rc_len (s_cons s_var s_nil)) (s_cb rc_len (s_cons s_var s_nil)))) (s_cb rc_tuple (s_cons (s_ofL (s_lc (vs := [8, 9]) (s_iseq s_var) (gin_tup (gins_cons (gin_name (by decide)) (gins_cons (gin_name (by decide)) gins_nil gmono_name) gmono_name)) (gmono_tup (gmonos_cons gmono_name (gmonos_cons gmono_name gmonos_nil))) (b_tup (bs_cons b_name (bs_cons b_name bs_nil))) s_yes s_var)) s_nil)) s_non))))))))
  x_retD)))
    rfl h

abbrev s_paper_for : Stmt := top 12
theorem sc_paper_for : FnScope ["game", "place", "goal"] ["game", "place", "goal"] (defScope s_paper_for) := ⟨rfl, rfl, rfl, by decide +kernel, rfl, by decide +kernel, by decide +kernel⟩

theorem ok_paper_for {f : Addr} {fd : FuncData} {k : Nat} {F_all_papers : FS} (F : Fun K "paper_for" "paper_for" s_paper_for f fd) (B : Bn mg) {cd : Value} (hcd : fd.code = cd) (ta : TabAt (kX P w K mg base (lw + 1) tb) cd (qLam "paper_for"))
    (c_all_papers : Cal P w K mg base k "all_papers" ["game", "goal", "choose"] (spG (kX P w K mg base (lw + 1) tb) 3 F_all_papers)) :
    FnOk P w K mg base CX0 (k + 1) f fd ["game", "place", "goal"] (spG (kX P w K mg base (lw + 1) tb) 3 (fnS 3 (m_paper_for F_all_papers))) := by
  refine okC F hcd sc_paper_for (fun vs H Q E h => spG_len h) (fun A outer s H vs Q E hr h => ⟨_,
  (pss_one (ps_ret (pe_dget (un1 hr) (pe_cal c_all_papers hr (pa_cons (pv 0) (pa_cons (pv 2) (pa_cons (pe_lamV (K := (kX P w K mg base (lw + 1) tb)) (F := y_paper_for_1 F_all_papers) (N := ["some"]) (names := ["some"]) ⟨rfl, rfl, rfl, rfl, rfl⟩ (by exact ta) (by rfl) (by exact ⟨rfl, rfl, rfl, by decide +kernel, rfl, by decide +kernel, by decide +kernel⟩) rfl (by exact lamF_len) (by intro _ _ _ _ us hl; exact match us, hl with | [_], _ => rfl) (fun f c' A outer s H vs Q hr h => ⟨_, (pe_ix (k_ix K) (pv 0) pe_int (fun _ _ => rfl)), by (try simp only [cxK]); exact lam_body (s_op ro_ix s_var s_int) rfl h⟩)) pa_nil)))) (pv 1) (fun _ _ => rfl)))), ?_⟩)
  try simp only [cxK]
  exact run_fn (x := m_paper_for F_all_papers)
    ((x_ret (s_callDg (s_vcons (s_vE s_var) (s_vcons (s_vE s_var) (s_vcons s_lam s_vnil))) (vn_cons (vn_cons (vn_cons vn_nil))))))
    rfl h

abbrev s_paper_against : Stmt := top 13
theorem sc_paper_against : FnScope ["game", "place", "goal"] ["game", "place", "goal"] (defScope s_paper_against) := ⟨rfl, rfl, rfl, by decide +kernel, rfl, by decide +kernel, by decide +kernel⟩

theorem ok_paper_against {f : Addr} {fd : FuncData} {k : Nat} {F_paper_for F_turned : FS} (F : Fun K "paper_against" "paper_against" s_paper_against f fd) (B : Bn mg)
    (c_paper_for : Cal P w K mg base k "paper_for" ["game", "place", "goal"] (spG (kX P w K mg base (lw + 1) tb) 3 F_paper_for))
    (c_turned : Cal P w K mg base k "turned" ["game"] (spG (kX P w K mg base (lw + 1) tb) 1 F_turned)) :
    FnOk P w K mg base CX0 (k + 1) f fd ["game", "place", "goal"] (spG (kX P w K mg base (lw + 1) tb) 3 (fnS 3 (m_paper_against F_paper_for F_turned))) := by
  refine F.ok sc_paper_against (fun vs H Q E h => spG_len h) (fun cdv A outer s H vs Q E hr h => ⟨_,
  (pss_one (ps_ret (pe_cal c_paper_for hr (pa_cons (pe_cal c_turned hr (pa_cons (pv 0) pa_nil)) (pa_cons (pv 1) (pa_cons (pe_op op_sub pe_int (pv 2)) pa_nil)))))), ?_⟩)
  try simp only [cxK]
  exact run_fn (x := m_paper_against F_paper_for F_turned)
    ((x_ret (s_call (s_vcons (s_vE (s_call (s_vcons (s_vE s_var) s_vnil) (vn_cons vn_nil))) (s_vcons (s_vE s_var) (s_vcons (s_vE (s_op ro_sub s_int s_var)) s_vnil))) (vn_cons (vn_cons (vn_cons vn_nil))))))
    rfl h

abbrev s_papers_in_all : Stmt := top 14
theorem sc_papers_in_all : FnScope ["game", "place", "goal", "found", "at", "side", "more", "move"] ["game", "place", "goal"] (defScope s_papers_in_all) := ⟨rfl, rfl, rfl, by decide +kernel, rfl, by decide +kernel, by decide +kernel⟩

theorem ok_papers_in_all {f : Addr} {fd : FuncData} {k : Nat} {F_order_of : FS} (F : Fun K "papers_in_all" "papers_in_all" s_papers_in_all f fd) (B : Bn mg)
    (c_order_of : Cal P w K mg base k "order_of" ["game"] (spG (kX P w K mg base (lw + 1) tb) 1 F_order_of)) :
    FnOk P w K mg base CX0 (k + 1) f fd ["game", "place", "goal"] (spG (kX P w K mg base (lw + 1) tb) 3 (fnS 8 (m_papers_in_all F_order_of))) := by
  refine F.ok sc_papers_in_all (fun vs H Q E h => spG_len h) (fun cdv A outer s H vs Q E hr h => ⟨_,
  (pss_cons (ps_set (i := 3) sc_papers_in_all.nd rfl (by first | exact Or.inl rfl | exact Or.inr rfl) pe_dnewK)
  (pss_cons (ps_for PassesOwn.never rfl (k_seq K (pe_cal c_order_of hr (pa_cons (pv 0) pa_nil))) (pg_name (i := 4) sc_papers_in_all.nd rfl (by first | exact Or.inl rfl | exact Or.inr rfl))
    (pss_cons (ps_asg (pe_ix (k_ix K) (pv 0) (pv 4) (fun _ _ => rfl)) (k_tup (n := 2) K rfl (pgs_cons (pg_name (i := 5) sc_papers_in_all.nd rfl (by first | exact Or.inl rfl | exact Or.inr rfl)) (pgs_cons (pg_name (i := 6) sc_papers_in_all.nd rfl (by first | exact Or.inl rfl | exact Or.inr rfl)) pgs_nil))))
    (pss_one (ps_if (pt_cmpR (k_eq K hr.units) (pv 5) pe_str (nomark _))
      (pss_one (ps_dput (un1 hr) (pv 3) (pv 4) (pe_callTy call_int1 (by rfl) B.int (by decide +kernel) (pa_cons (pe_cmpR op_ge (pv 6) (pv 2) (nomark _)) pa_nil)) rfl))
      (pss_one (ps_if (pt_cmpR (k_eq K hr.units) (pv 5) pe_int (nomark _))
        (pss_one (ps_dput (un1 hr) (pv 3) (pv 4) (pe_callB (k_sum K rfl) (by rfl) B.sum (by decide +kernel) (pa_cons (pe_lc (own := [("move", 7)]) (by rfl) sc_papers_in_all.nd (k_seq K (pv 6)) (blkOk_by (own := [("move", 7)]) (N := ["game", "place", "goal", "found", "at", "side", "more", "move"]) (sc := defScope s_papers_in_all) (by decide +kernel)) (fun _ _ _ _ _ => (pg_name (i := 7) sc_papers_in_all.nd rfl (by first | exact Or.inl rfl | exact Or.inr rfl))) (fun _ _ _ _ _ => pts_nil) (fun _ _ _ _ _ => (pe_dget (un1 hr) (pv 3) (pv 7) (fun _ _ => rfl)))) pa_nil)) rfl))
        (pss_cons (ps_dput (un1 hr) (pv 3) (pv 4) pe_int rfl)
        (pss_one (ps_for PassesOwn.never rfl (k_seq K (pv 6)) (pg_name (i := 7) sc_papers_in_all.nd rfl (by first | exact Or.inl rfl | exact Or.inr rfl))
          (pss_one (ps_dput (un1 hr) (pv 3) (pv 4) (pe_op op_times (pe_dget (un1 hr) (pv 3) (pv 4) (fun _ _ => rfl)) (pe_dget (un1 hr) (pv 3) (pv 7) (fun _ _ => rfl))) rfl)))))))))))
  (pss_one (ps_ret (pe_dget (un1 hr) (pv 3) (pv 1) (fun _ _ => rfl)))))), ?_⟩)
  try simp only [cxK]
  exact run_fn (x := m_papers_in_all F_order_of)
    ((x_seq (x_asgC s_dnew)
  (x_seq (x_for (s_iwipe (s_iseq (s_call (s_vcons (s_vE s_var) s_vnil) (vn_cons vn_nil)))) b_name
    (x_keep (x_seq (x_asgG (s_op ro_ix s_var s_var) (b_tup (bs_cons b_name (bs_cons b_name bs_nil))))
    (x_if (s_test (s_op ro_eq s_var s_str))
      (x_dput s_var (s_cb rc_intD (s_cons (s_op ro_ge s_var s_var) s_nil)))
      (x_if (s_test (s_op ro_eq s_var s_int))
        (x_dput s_var (s_cb rc_sumD (s_cons (s_ofL (s_lc (vs := [7]) (s_iseq s_var) (gin_name (by decide)) gmono_name b_name s_yes (s_dget s_var))) s_nil)))
        (x_seq (x_dput s_var s_int)
        (x_for (s_iwipe (s_iseq s_var)) b_name
          (x_keep (x_dput s_var (s_op ro_times (s_dget s_var) (s_dget s_var)))))))))))
  (x_ret (s_dget s_var)))))
    rfl h

abbrev s_least_paper : Stmt := top 15
theorem sc_least_paper : FnScope ["game", "place", "goal"] ["game", "place", "goal"] (defScope s_least_paper) := ⟨rfl, rfl, rfl, by decide +kernel, rfl, by decide +kernel, by decide +kernel⟩

theorem ok_least_paper {f : Addr} {fd : FuncData} {k : Nat} {kn : Nat} {F_all_papers F_ends_in : FS} (F : Fun K "least_paper" "least_paper" s_least_paper f fd) (B : Bn mg) {cd : Value} (hcd : fd.code = cd) (ta : TabAt (kX P w K mg base (lw + 1) tb) cd (qLam "least_paper"))
    (c_all_papers : Cal P w K mg base k "all_papers" ["game", "goal", "choose"] (spG (kX P w K mg base (lw + 1) tb) 3 F_all_papers))
    (c_ends_in : Cal P w K mg base k "ends_in" ["paper"] (spG (kX P w K mg base (lw + 1) tb) 1 F_ends_in))
    (cn_ends_in : Cal P w K mg base kn "ends_in" ["paper"] (spG (kX P w K mg base (lw + 1) tb) 1 F_ends_in))
    (lvn : kn + 3 ≤ lw) :
    FnOk P w K mg base CX0 (k + 1) f fd ["game", "place", "goal"] (spG (kX P w K mg base (lw + 1) tb) 3 (fnS 3 (m_least_paper F_all_papers F_ends_in))) := by
  refine okC F hcd sc_least_paper (fun vs H Q E h => spG_len h) (fun A outer s H vs Q E hr h => ⟨_,
  (pss_one (ps_ret (pe_dget (un1 hr) (pe_cal c_all_papers hr (pa_cons (pv 0) (pa_cons (pv 2) (pa_cons (pe_lamVc (K := (kX P w K mg base (lw + 1) tb)) (F := y_least_paper_1 F_all_papers F_ends_in) (N := ["some", "one"]) (names := ["some"]) ⟨rfl, rfl, rfl, rfl, rfl⟩ (by exact ta) (by rfl) (by exact ⟨rfl, rfl, rfl, by decide +kernel, rfl, by decide +kernel, by decide +kernel⟩) rfl (by exact lamF_len) (by intro _ _ _ _ us hl; exact match us, hl with | [_], _ => rfl) (fun f c' P' A outer s H vs Q hr h => ⟨_, (pe_minK2 (K := (kX P w K mg base (lw + 1) tb)) (i := 1) (k := kn) (p := "one") ⟨rfl, rfl, rfl, rfl, rfl⟩ (by exact hqN) (hr.mono lvn) rfl (by rfl) B.min (pa_cons (pv 0) pa_nil) (by rfl) (by exact keyS_by (by rfl)) rfl (by exact (by decide +kernel : (["some", "one"] : List Str).Nodup)) (by intro _ _ _ _ _ _; rfl) (fun f c' A s H hr => (pe_cal cn_ends_in hr (pa_cons (pe_ix (k_ix K) (pv 1) pe_int (fun _ _ => rfl)) pa_nil)))), by (try simp only [cxK]); exact lam_bodyC (s_minBy (s_cons s_var s_nil) (s_call (s_vcons (s_vE (s_op ro_ix s_var s_int)) s_vnil) (vn_cons vn_nil))) rfl h⟩)) pa_nil)))) (pv 1) (fun _ _ => rfl)))), ?_⟩)
  try simp only [cxK]
  exact run_fn (x := m_least_paper F_all_papers F_ends_in)
    ((x_ret (s_callDg (s_vcons (s_vE s_var) (s_vcons (s_vE s_var) (s_vcons s_lam s_vnil))) (vn_cons (vn_cons (vn_cons vn_nil))))))
    rfl h

abbrev s_fewest_ends : Stmt := top 16
theorem sc_fewest_ends : FnScope ["game", "place", "goal", "paper"] ["game", "place", "goal"] (defScope s_fewest_ends) := ⟨rfl, rfl, rfl, by decide +kernel, rfl, by decide +kernel, by decide +kernel⟩

theorem ok_fewest_ends {f : Addr} {fd : FuncData} {k : Nat} {F_least_paper F_ends_in : FS} (F : Fun K "fewest_ends" "fewest_ends" s_fewest_ends f fd) (B : Bn mg)
    (c_least_paper : Cal P w K mg base k "least_paper" ["game", "place", "goal"] (spG (kX P w K mg base (lw + 1) tb) 3 F_least_paper))
    (c_ends_in : Cal P w K mg base k "ends_in" ["paper"] (spG (kX P w K mg base (lw + 1) tb) 1 F_ends_in)) :
    FnOk P w K mg base CX0 (k + 1) f fd ["game", "place", "goal"] (spG (kX P w K mg base (lw + 1) tb) 3 (fnS 4 (m_fewest_ends F_least_paper F_ends_in))) := by
  refine F.ok sc_fewest_ends (fun vs H Q E h => spG_len h) (fun cdv A outer s H vs Q E hr h => ⟨_,
  (pss_cons (ps_set (i := 3) sc_fewest_ends.nd rfl (by first | exact Or.inl rfl | exact Or.inr rfl) (pe_cal c_least_paper hr (pa_cons (pv 0) (pa_cons (pv 1) (pa_cons (pv 2) pa_nil)))))
  (pss_one (ps_ret (pe_ifExp (pt_cmp (pc_isN (pv 3))) pe_non (pe_cal c_ends_in hr (pa_cons (pv 3) pa_nil)))))), ?_⟩)
  try simp only [cxK]
  exact run_fn (x := m_fewest_ends F_least_paper F_ends_in)
    ((x_seq (x_asg (s_call (s_vcons (s_vE s_var) (s_vcons (s_vE s_var) (s_vcons (s_vE s_var) s_vnil))) (vn_cons (vn_cons (vn_cons vn_nil)))))
  (x_ret (s_if (s_B (s_isN s_var)) s_non (s_call (s_vcons (s_vE s_var) s_vnil) (vn_cons vn_nil))))))
    rfl h

abbrev s_choice : Stmt := top 18
theorem sc_choice : FnScope ["side", "row"] ["side", "row"] (defScope s_choice) := ⟨rfl, rfl, rfl, by decide +kernel, rfl, by decide +kernel, by decide +kernel⟩

theorem ok_choice {f : Addr} {fd : FuncData} {k : Nat} (F : Fun K "choice" "choice" s_choice f fd) (B : Bn mg)
     :
    FnOk P w K mg base CX0 (k + 1) f fd ["side", "row"] (spG (kX P w K mg base (lw + 1) tb) 2 (fnS 2 (m_choice ))) := by
  refine F.ok sc_choice (fun vs H Q E h => spG_len h) (fun cdv A outer s H vs Q E hr h => ⟨_,
  (pss_one (ps_ret (pe_ifExp (pt_cmpR (k_eq K hr.units) (pv 0) pe_int (nomark _)) (pe_callB (k_max K rfl) (by rfl) B.max (by decide +kernel) (pa_cons (pv 1) pa_nil)) (pe_callB (k_min K rfl) (by rfl) B.min (by decide +kernel) (pa_cons (pv 1) pa_nil))))), ?_⟩)
  try simp only [cxK]
  exact run_fn (x := m_choice )
    ((x_ret (s_if (s_test (s_op ro_eq s_var s_int)) (s_cb rc_maxD (s_cons s_var s_nil)) (s_cb rc_minD (s_cons s_var s_nil)))))
    rfl h

abbrev s_worths : Stmt := top 19
theorem sc_worths : FnScope ["game", "found", "place", "side", "more", "move"] ["game"] (defScope s_worths) := ⟨rfl, rfl, rfl, by decide +kernel, rfl, by decide +kernel, by decide +kernel⟩

theorem ok_worths {f : Addr} {fd : FuncData} {k : Nat} {F_order_of F_choice : FS} (F : Fun K "worths" "worths" s_worths f fd) (B : Bn mg)
    (c_order_of : Cal P w K mg base k "order_of" ["game"] (spG (kX P w K mg base (lw + 1) tb) 1 F_order_of))
    (c_choice : Cal P w K mg base k "choice" ["side", "row"] (spG (kX P w K mg base (lw + 1) tb) 2 F_choice)) :
    FnOk P w K mg base CX0 (k + 1) f fd ["game"] (spG (kX P w K mg base (lw + 1) tb) 1 (fnS 6 (m_worths F_order_of F_choice))) := by
  refine F.ok sc_worths (fun vs H Q E h => spG_len h) (fun cdv A outer s H vs Q E hr h => ⟨_,
  (pss_cons (ps_set (i := 1) sc_worths.nd rfl (by first | exact Or.inl rfl | exact Or.inr rfl) pe_dnewK)
  (pss_cons (ps_for PassesOwn.never rfl (k_seq K (pe_cal c_order_of hr (pa_cons (pv 0) pa_nil))) (pg_name (i := 2) sc_worths.nd rfl (by first | exact Or.inl rfl | exact Or.inr rfl))
    (pss_cons (ps_asg (pe_ix (k_ix K) (pv 0) (pv 2) (fun _ _ => rfl)) (k_tup (n := 2) K rfl (pgs_cons (pg_name (i := 3) sc_worths.nd rfl (by first | exact Or.inl rfl | exact Or.inr rfl)) (pgs_cons (pg_name (i := 4) sc_worths.nd rfl (by first | exact Or.inl rfl | exact Or.inr rfl)) pgs_nil))))
    (pss_one (ps_dput (un1 hr) (pv 1) (pv 2) (pe_ifExp (pt_cmpR (k_eq K hr.units) (pv 3) pe_str (nomark _)) (pv 4) (pe_cal c_choice hr (pa_cons (pv 3) (pa_cons (pe_lc (own := [("move", 5)]) (by rfl) sc_worths.nd (k_seq K (pv 4)) (blkOk_by (own := [("move", 5)]) (N := ["game", "found", "place", "side", "more", "move"]) (sc := defScope s_worths) (by decide +kernel)) (fun _ _ _ _ _ => (pg_name (i := 5) sc_worths.nd rfl (by first | exact Or.inl rfl | exact Or.inr rfl))) (fun _ _ _ _ _ => pts_nil) (fun _ _ _ _ _ => (pe_dget (un1 hr) (pv 1) (pv 5) (fun _ _ => rfl)))) pa_nil)))) rfl))))
  (pss_one (ps_ret (pe_callTy (k_tuple K) (by rfl) B.tuple (by decide +kernel) (pa_cons (pe_lc (own := [("place", 2)]) (by rfl) sc_worths.nd (pi_range1 (by rfl) B.range (pa_cons (pe_callB (k_len K) (by rfl) B.len (by decide +kernel) (pa_cons (pv 0) pa_nil)) pa_nil)) (blkOk_by (own := [("place", 2)]) (N := ["game", "found", "place", "side", "more", "move"]) (sc := defScope s_worths) (by decide +kernel)) (fun _ _ _ _ _ => (pg_name (i := 2) sc_worths.nd rfl (by first | exact Or.inl rfl | exact Or.inr rfl))) (fun _ _ _ _ _ => pts_nil) (fun _ _ _ _ _ => (pe_dget (un1 hr) (pv 1) (pv 2) (fun _ _ => rfl)))) pa_nil)))))), ?_⟩)
  try simp only [cxK]
  exact run_fn (x := m_worths F_order_of F_choice)
    ((x_seq (x_asgC s_dnew)
  (x_seq (x_for (s_iwipe (s_iseq (s_call (s_vcons (s_vE s_var) s_vnil) (vn_cons vn_nil)))) b_name
    (x_keep (x_seq (x_asgG (s_op ro_ix s_var s_var) (b_tup (bs_cons b_name (bs_cons b_name bs_nil))))
    (x_dput s_var (s_if (s_test (s_op ro_eq s_var s_str)) s_var (s_call (s_vcons (s_vE s_var) (s_vcons (s_vE (s_ofL (s_lc (vs := [5]) (s_iseq s_var) (gin_name (by decide)) gmono_name b_name s_yes (s_dget s_var)))) s_vnil)) (vn_cons (vn_cons vn_nil))))))))
  (x_ret (s_cb rc_tuple (s_cons (s_ofL (s_lc (vs := [2]) (s_irg1 (s_cb rc_len (s_cons s_var s_nil))) (gin_name (by decide)) gmono_name b_name s_yes (s_dget s_var))) s_nil))))))
    rfl h

abbrev s_l_draw : Stmt := top 22
theorem sc_l_draw : FnScope ["_law_script", "_law_town", "_law_many", "_law_cell", "_law_k", "_law_digits", "_law_number", "_law_more"] ["_law_script", "_law_town", "_law_many"] (defScope s_l_draw) := ⟨rfl, rfl, rfl, by decide +kernel, rfl, by decide +kernel, by decide +kernel⟩

theorem ok_l_draw {f : Addr} {fd : FuncData} {k : Nat} (F : Fun K "_law_draw" "_law_draw" s_l_draw f fd) (B : Bn mg)
     :
    FnOk P w K mg base CX0 (k + 1) f fd ["_law_script", "_law_town", "_law_many"] (spG (kX P w K mg base (lw + 1) tb) 3 (fnS 8 (m_l_draw ))) := by
  refine F.ok sc_l_draw (fun vs H Q E h => spG_len h) (fun cdv A outer s H vs Q E hr h => ⟨_,
  (pss_cons (ps_if (pt_not (k_tru K (pv 1) (by intro _; rfl)))
    (pss_one (ps_expr (pe_bm PySem.F.plainAttrs_list PySem.F.slot_list_append PySem.F.type_list_append mt_append (pv 1) (pa_cons (pe_callB (k_max K rfl) (by rfl) B.max (by decide +kernel) (pa_cons (pe_op (k_plus K) (pe_lc (own := [("_law_cell", 3)]) (by rfl) sc_l_draw.nd (k_seq K (pv 0)) (blkOk_by (own := [("_law_cell", 3)]) (N := ["_law_script", "_law_town", "_law_many", "_law_cell", "_law_k", "_law_digits", "_law_number", "_law_more"]) (sc := defScope s_l_draw) (by decide +kernel)) (fun _ _ _ _ _ => (pg_name (i := 3) sc_l_draw.nd rfl (by first | exact Or.inl rfl | exact Or.inr rfl))) (fun _ _ _ _ _ => pts_nil) (fun _ _ _ _ _ => (pe_callB call_abs (by rfl) B.abs (by decide +kernel) (pa_cons (pv 3) pa_nil)))) (pe_lst (pa_cons pe_int pa_nil))) pa_nil)) pa_nil))))
    pss_nil)
  (pss_cons (ps_expr (pe_bm PySem.F.plainAttrs_list PySem.F.slot_list_append PySem.F.type_list_append mt_append (pv 1) (pa_cons pe_int pa_nil)))
  (pss_cons (ps_set (i := 4) sc_l_draw.nd rfl (by first | exact Or.inl rfl | exact Or.inr rfl) (pe_callB (k_len K) (by rfl) B.len (by decide +kernel) (pa_cons (pv 1) pa_nil)))
  (pss_cons (ps_set (i := 3) sc_l_draw.nd rfl (by first | exact Or.inl rfl | exact Or.inr rfl) (pe_ifExp (k_tru K (pv 0) (by intro _; rfl)) (pe_ix (k_ix K) (pv 0) (pe_op op_mod (pv 4) (pe_callB (k_len K) (by rfl) B.len (by decide +kernel) (pa_cons (pv 0) pa_nil))) (fun _ _ => rfl)) pe_int))
  (pss_cons (ps_set (i := 5) sc_l_draw.nd rfl (by first | exact Or.inl rfl | exact Or.inr rfl) (pe_op op_mod (pe_ix (k_ix K) (pv 1) pe_int (fun _ _ => rfl)) pe_int))
  (pss_cons (ps_asg (pe_op op_fdiv (pe_ix (k_ix K) (pv 1) pe_int (fun _ _ => rfl)) pe_int) (pg_sub (pv 1) pe_int set_list))
  (pss_cons (ps_set (i := 6) sc_l_draw.nd rfl (by first | exact Or.inl rfl | exact Or.inr rfl) (pe_op op_mod (pe_op (k_plus K) (pe_op (k_plus K) (pv 3) (pe_op op_times pe_int (pv 5))) (pe_op op_times pe_int (pv 4))) pe_int))
  (pss_cons (ps_set (i := 6) sc_l_draw.nd rfl (by first | exact Or.inl rfl | exact Or.inr rfl) (pe_op op_mod (pe_op op_times (pe_op op_mod (pe_op op_times (pv 6) (pv 6)) pe_int) pe_int) pe_int))
  (pss_cons (ps_set (i := 7) sc_l_draw.nd rfl (by first | exact Or.inl rfl | exact Or.inr rfl) (pe_op op_mod (pe_op op_times (pe_op op_mod (pe_op op_times (pv 6) (pv 6)) pe_int) pe_int) pe_int))
  (pss_one (ps_ret (pe_op op_mod (pe_op (k_plus K) (pe_op op_times (pe_op op_fdiv (pv 6) pe_int) pe_int) (pe_op op_fdiv (pv 7) pe_int)) (pv 2))))))))))))), ?_⟩)
  try simp only [cxK]
  exact run_fn (x := m_l_draw )
    ((x_seq (x_if (s_bnot s_truV)
    (x_app (s_cb rc_maxD (s_cons (s_op ro_plus (s_ofL (s_lc (vs := [3]) (s_iseq s_var) (gin_name (by decide)) gmono_name b_name s_yes (s_cb rc_absD (s_cons s_var s_nil)))) (s_ofL (s_lst (s_cons s_int s_nil)))) s_nil)))
    x_next)
  (x_seq (x_app s_int)
  (x_seq (x_asg s_lenV)
  (x_seq (x_asg (s_if (s_tru s_var) (s_op ro_ix s_var (s_op ro_mod s_var (s_cb rc_len (s_cons s_var s_nil)))) s_int))
  (x_seq (x_asg (s_op ro_mod (s_ixV s_int) s_int))
  (x_seq (x_setI s_int (s_op ro_fdiv (s_ixV s_int) s_int))
  (x_seq (x_asg (s_op ro_mod (s_op ro_plus (s_op ro_plus s_var (s_op ro_times s_int s_var)) (s_op ro_times s_int s_var)) s_int))
  (x_seq (x_asg (s_op ro_mod (s_op ro_times (s_op ro_mod (s_op ro_times s_var s_var) s_int) s_int) s_int))
  (x_seq (x_asg (s_op ro_mod (s_op ro_times (s_op ro_mod (s_op ro_times s_var s_var) s_int) s_int) s_int))
  (x_ret (s_op ro_mod (s_op ro_plus (s_op ro_times (s_op ro_fdiv s_var s_int) s_int) (s_op ro_fdiv s_var s_int)) s_var))))))))))))
    rfl h

abbrev s_l_pick : Stmt := top 23
theorem sc_l_pick : FnScope ["_law_script", "_law_town", "_law_some"] ["_law_script", "_law_town", "_law_some"] (defScope s_l_pick) := ⟨rfl, rfl, rfl, by decide +kernel, rfl, by decide +kernel, by decide +kernel⟩

theorem ok_l_pick {f : Addr} {fd : FuncData} {k : Nat} {F_l_draw : FS} (F : Fun K "_law_pick" "_law_pick" s_l_pick f fd) (B : Bn mg)
    (c_l_draw : Cal P w K mg base k "_law_draw" ["_law_script", "_law_town", "_law_many"] (spG (kX P w K mg base (lw + 1) tb) 3 F_l_draw)) :
    FnOk P w K mg base CX0 (k + 1) f fd ["_law_script", "_law_town", "_law_some"] (spG (kX P w K mg base (lw + 1) tb) 3 (fnS 3 (m_l_pick F_l_draw))) := by
  refine F.ok sc_l_pick (fun vs H Q E h => spG_len h) (fun cdv A outer s H vs Q E hr h => ⟨_,
  (pss_one (ps_ret (pe_ix (k_ix K) (pv 2) (pe_cal c_l_draw hr (pa_cons (pv 0) (pa_cons (pv 1) (pa_cons (pe_callB (k_len K) (by rfl) B.len (by decide +kernel) (pa_cons (pv 2) pa_nil)) pa_nil)))) (fun _ _ => rfl)))), ?_⟩)
  try simp only [cxK]
  exact run_fn (x := m_l_pick F_l_draw)
    ((x_ret (s_op ro_ix s_var (s_call (s_vcons (s_vE s_var) (s_vcons s_vR (s_vcons (s_vE (s_cb rc_len (s_cons s_var s_nil))) s_vnil))) (vn_cons (vn_cons (vn_cons vn_nil)))))))
    rfl h

abbrev s_l_mixed : Stmt := top 24
theorem sc_l_mixed : FnScope ["_law_script", "_law_town", "_law_things", "_law_rest", "_law_found"] ["_law_script", "_law_town", "_law_things"] (defScope s_l_mixed) := ⟨rfl, rfl, rfl, by decide +kernel, rfl, by decide +kernel, by decide +kernel⟩

theorem ok_l_mixed {f : Addr} {fd : FuncData} {k : Nat} {F_l_draw : FS} (F : Fun K "_law_mixed" "_law_mixed" s_l_mixed f fd) (B : Bn mg)
    (c_l_draw : Cal P w K mg base k "_law_draw" ["_law_script", "_law_town", "_law_many"] (spG (kX P w K mg base (lw + 1) tb) 3 F_l_draw)) :
    FnOk P w K mg base CX0 (k + 1) f fd ["_law_script", "_law_town", "_law_things"] (spG (kX P w K mg base (lw + 1) tb) 3 (fnS 5 (m_l_mixed F_l_draw))) := by
  refine F.ok sc_l_mixed (fun vs H Q E h => spG_len h) (fun cdv A outer s H vs Q E hr h => ⟨_,
  (pss_cons (ps_par (i := 3) (j := 4) (by rfl) sc_l_mixed.nd rfl rfl (by decide) rfl rfl (pa_cons (pe_callTy (k_list K) (by rfl) B.list (by decide +kernel) (pa_cons (pv 2) pa_nil)) (pa_cons (pe_lst pa_nil) pa_nil)) (by rfl))
  (pss_cons (ps_while PassesOwn.never (k_tru K (pv 3) (by intro _; rfl))
    (pss_one (ps_expr (pe_bm PySem.F.plainAttrs_list PySem.F.slot_list_append PySem.F.type_list_append mt_append (pv 4) (pa_cons (pe_bm PySem.F.plainAttrs_list PySem.F.slot_list_pop PySem.F.type_list_pop mt_popAt (pv 3) (pa_cons (pe_cal c_l_draw hr (pa_cons (pv 0) (pa_cons (pv 1) (pa_cons (pe_callB (k_len K) (by rfl) B.len (by decide +kernel) (pa_cons (pv 3) pa_nil)) pa_nil)))) pa_nil)) pa_nil)))))
  (pss_one (ps_ret (pv 4))))), ?_⟩)
  try simp only [cxK]
  exact run_fn (x := m_l_mixed F_l_draw)
    ((x_seq (x_parLL (by decide) (s_list s_var) (s_lst s_nil))
  (x_seq (x_while s_truV
    (x_app (s_popAt (s_call (s_vcons (s_vE s_var) (s_vcons s_vR (s_vcons (s_vE s_lenV) s_vnil))) (vn_cons (vn_cons (vn_cons vn_nil)))))))
  (x_frz (x_ret s_var)))))
    rfl h

abbrev s_l_drawn_worth : Stmt := top 25
theorem sc_l_drawn_worth : FnScope ["_law_script", "_law_town", "_law_few"] ["_law_script", "_law_town"] (defScope s_l_drawn_worth) := ⟨rfl, rfl, rfl, by decide +kernel, rfl, by decide +kernel, by decide +kernel⟩

theorem ok_l_drawn_worth {f : Addr} {fd : FuncData} {k : Nat} {F_l_draw F_l_pick : FS} (F : Fun K "_law_drawn_worth" "_law_drawn_worth" s_l_drawn_worth f fd) (B : Bn mg)
    (c_l_draw : Cal P w K mg base k "_law_draw" ["_law_script", "_law_town", "_law_many"] (spG (kX P w K mg base (lw + 1) tb) 3 F_l_draw))
    (c_l_pick : Cal P w K mg base k "_law_pick" ["_law_script", "_law_town", "_law_some"] (spG (kX P w K mg base (lw + 1) tb) 3 F_l_pick)) :
    FnOk P w K mg base CX0 (k + 1) f fd ["_law_script", "_law_town"] (spG (kX P w K mg base (lw + 1) tb) 2 (fnS 3 (m_l_drawn_worth F_l_draw F_l_pick))) := by
  refine F.ok sc_l_drawn_worth (fun vs H Q E h => spG_len h) (fun cdv A outer s H vs Q E hr h => ⟨_,
  (pss_cons (ps_set (i := 2) sc_l_drawn_worth.nd rfl (by first | exact Or.inl rfl | exact Or.inr rfl) (pe_op op_sub (pe_cal c_l_draw hr (pa_cons (pv 0) (pa_cons (pv 1) (pa_cons pe_int pa_nil)))) pe_int))
  (pss_one (ps_ret (pe_cal c_l_pick hr (pa_cons (pv 0) (pa_cons (pv 1) (pa_cons (pe_lst (pa_cons (pv 2) (pa_cons (pv 2) (pa_cons (pv 2) (pa_cons (pv 2) (pa_cons pe_int (pa_cons (pe_un un_neg pe_int) (pa_cons (pe_op op_sub (pe_cal c_l_draw hr (pa_cons (pv 0) (pa_cons (pv 1) (pa_cons pe_int pa_nil)))) pe_int) pa_nil)))))))) pa_nil))))))), ?_⟩)
  try simp only [cxK]
  exact run_fn (x := m_l_drawn_worth F_l_draw F_l_pick)
    ((x_seq (x_asg (s_op ro_sub (s_call (s_vcons (s_vE s_var) (s_vcons s_vR (s_vcons (s_vE s_int) s_vnil))) (vn_cons (vn_cons (vn_cons vn_nil)))) s_int))
  (x_ret (s_call (s_vcons (s_vE s_var) (s_vcons s_vR (s_vcons (s_vE (s_ofL (s_lst (s_cons s_var (s_cons s_var (s_cons s_var (s_cons s_var (s_cons s_int (s_cons (s_un ro_neg s_int) (s_cons (s_op ro_sub (s_call (s_vcons (s_vE s_var) (s_vcons s_vR (s_vcons (s_vE s_int) s_vnil))) (vn_cons (vn_cons (vn_cons vn_nil)))) s_int) s_nil)))))))))) s_vnil))) (vn_cons (vn_cons (vn_cons vn_nil)))))))
    rfl h

abbrev s_l_straight : Stmt := top 26
theorem sc_l_straight : FnScope ["_law_script", "_law_town", "_law_many", "_law_rows", "_law_place", "_law_some", "_law_names", "_law_found", "_law_side", "_law_more", "_law_move"] ["_law_script", "_law_town", "_law_many"] (defScope s_l_straight) := ⟨rfl, rfl, rfl, by decide +kernel, rfl, by decide +kernel, by decide +kernel⟩

theorem ok_l_straight {f : Addr} {fd : FuncData} {k : Nat} {F_l_draw F_l_mixed F_l_drawn_worth : FS} (F : Fun K "_law_straight" "_law_straight" s_l_straight f fd) (B : Bn mg)
    (c_l_draw : Cal P w K mg base k "_law_draw" ["_law_script", "_law_town", "_law_many"] (spG (kX P w K mg base (lw + 1) tb) 3 F_l_draw))
    (c_l_mixed : Cal P w K mg base k "_law_mixed" ["_law_script", "_law_town", "_law_things"] (spG (kX P w K mg base (lw + 1) tb) 3 F_l_mixed))
    (c_l_drawn_worth : Cal P w K mg base k "_law_drawn_worth" ["_law_script", "_law_town"] (spG (kX P w K mg base (lw + 1) tb) 2 F_l_drawn_worth)) :
    FnOk P w K mg base CX0 (k + 1) f fd ["_law_script", "_law_town", "_law_many"] (spG (kX P w K mg base (lw + 1) tb) 3 (fnS 11 (m_l_straight F_l_draw F_l_mixed F_l_drawn_worth))) := by
  refine F.ok sc_l_straight (fun vs H Q E h => spG_len h) (fun cdv A outer s H vs Q E hr h => ⟨_,
  (pss_cons (ps_set (i := 3) sc_l_straight.nd rfl (by first | exact Or.inl rfl | exact Or.inr rfl) (pe_lst pa_nil))
  (pss_cons (ps_for PassesOwn.never rfl (pi_range1 (by rfl) B.range (pa_cons (pv 2) pa_nil)) (pg_name (i := 4) sc_l_straight.nd rfl (by first | exact Or.inl rfl | exact Or.inr rfl))
    (pss_cons (ps_set (i := 5) sc_l_straight.nd rfl (by first | exact Or.inl rfl | exact Or.inr rfl) (pe_slice (k_sl K) (pe_cal c_l_mixed hr (pa_cons (pv 0) (pa_cons (pv 1) (pa_cons (pe_listRg rfl (by rfl) B.list (prg_1 (by rfl) B.range (pv 4))) pa_nil)))) po_none (po_some (pe_op (k_plus K) pe_int (pe_cal c_l_draw hr (pa_cons (pv 0) (pa_cons (pv 1) (pa_cons pe_int pa_nil))))))))
    (pss_one (ps_if (PW.pt (pw_or (pt_cmpR op_lt (pv 4) pe_int (nomark _)) (pw_or1 (pt_cmpR (k_eq K hr.units) (pe_cal c_l_draw hr (pa_cons (pv 0) (pa_cons (pv 1) (pa_cons pe_int pa_nil)))) pe_int (nomark _)))))
      (pss_one (ps_expr (pe_bm PySem.F.plainAttrs_list PySem.F.slot_list_append PySem.F.type_list_append mt_append (pv 3) (pa_cons (pe_tup (pa_cons pe_str (pa_cons (pe_cal c_l_drawn_worth hr (pa_cons (pv 0) (pa_cons (pv 1) pa_nil))) pa_nil))) pa_nil))))
      (pss_one (ps_expr (pe_bm PySem.F.plainAttrs_list PySem.F.slot_list_append PySem.F.type_list_append mt_append (pv 3) (pa_cons (pe_tup (pa_cons (pe_cal c_l_draw hr (pa_cons (pv 0) (pa_cons (pv 1) (pa_cons pe_int pa_nil)))) (pa_cons (pe_callTy (k_tuple K) (by rfl) B.tuple (by decide +kernel) (pa_cons (pv 5) pa_nil)) pa_nil))) pa_nil))))))))
  (pss_cons (ps_set (i := 6) sc_l_straight.nd rfl (by first | exact Or.inl rfl | exact Or.inr rfl) (pe_cal c_l_mixed hr (pa_cons (pv 0) (pa_cons (pv 1) (pa_cons (pe_listRg rfl (by rfl) B.list (prg_1 (by rfl) B.range (pv 2))) pa_nil)))))
  (pss_cons (ps_set (i := 7) sc_l_straight.nd rfl (by first | exact Or.inl rfl | exact Or.inr rfl) (pe_op op_times (pe_lst (pa_cons pe_non pa_nil)) (pv 2)))
  (pss_cons (ps_for PassesOwn.never rfl (pi_enum (by rfl) B.enumerate (pa_cons (pv 3) pa_nil)) (k_tup (n := 2) K rfl (pgs_cons (pg_name (i := 4) sc_l_straight.nd rfl (by first | exact Or.inl rfl | exact Or.inr rfl)) (pgs_cons (k_tup (n := 2) K rfl (pgs_cons (pg_name (i := 8) sc_l_straight.nd rfl (by first | exact Or.inl rfl | exact Or.inr rfl)) (pgs_cons (pg_name (i := 9) sc_l_straight.nd rfl (by first | exact Or.inl rfl | exact Or.inr rfl)) pgs_nil))) pgs_nil)))
    (pss_one (ps_asg (pe_ifExp (pt_cmpR (k_eq K hr.units) (pv 8) pe_str (nomark _)) (pe_tup (pa_cons (pv 8) (pa_cons (pv 9) pa_nil))) (pe_tup (pa_cons (pv 8) (pa_cons (pe_callTy (k_tuple K) (by rfl) B.tuple (by decide +kernel) (pa_cons (pe_lc (own := [("_law_move", 10)]) (by rfl) sc_l_straight.nd (k_seq K (pv 9)) (blkOk_by (own := [("_law_move", 10)]) (N := ["_law_script", "_law_town", "_law_many", "_law_rows", "_law_place", "_law_some", "_law_names", "_law_found", "_law_side", "_law_more", "_law_move"]) (sc := defScope s_l_straight) (by decide +kernel)) (fun _ _ _ _ _ => (pg_name (i := 10) sc_l_straight.nd rfl (by first | exact Or.inl rfl | exact Or.inr rfl))) (fun _ _ _ _ _ => pts_nil) (fun _ _ _ _ _ => (pe_ix (k_ix K) (pv 6) (pv 10) (fun _ _ => rfl)))) pa_nil)) pa_nil)))) (pg_sub (pv 7) (pe_ix (k_ix K) (pv 6) (pv 4) (fun _ _ => rfl)) set_list))))
  (pss_one (ps_ret (pe_callTy (k_tuple K) (by rfl) B.tuple (by decide +kernel) (pa_cons (pv 7) pa_nil))))))))), ?_⟩)
  try simp only [cxK]
  exact run_fn (x := m_l_straight F_l_draw F_l_mixed F_l_drawn_worth)
    ((x_seq (x_asgL (s_lst s_nil))
  (x_seq (x_for (s_irg1 s_var) b_name
    (x_seq (x_asg (s_sl (s_call (s_vcons (s_vE s_var) (s_vcons s_vR (s_vcons (s_vE (s_ofL (s_listRg s_var))) s_vnil))) (vn_cons (vn_cons (vn_cons vn_nil)))) s_onone (s_osome (s_op ro_plus s_int (s_call (s_vcons (s_vE s_var) (s_vcons s_vR (s_vcons (s_vE s_int) s_vnil))) (vn_cons (vn_cons (vn_cons vn_nil))))))))
    (x_if (s_bor (s_test (s_op ro_lt s_var s_int)) (s_test (s_op ro_eq (s_call (s_vcons (s_vE s_var) (s_vcons s_vR (s_vcons (s_vE s_int) s_vnil))) (vn_cons (vn_cons (vn_cons vn_nil)))) s_int)))
      (x_app (s_tup (s_cons s_str (s_cons (s_call (s_vcons (s_vE s_var) (s_vcons s_vR s_vnil)) (vn_cons (vn_cons vn_nil))) s_nil))))
      (x_app (s_tup (s_cons (s_call (s_vcons (s_vE s_var) (s_vcons s_vR (s_vcons (s_vE s_int) s_vnil))) (vn_cons (vn_cons (vn_cons vn_nil)))) (s_cons (s_cb rc_tuple (s_cons s_var s_nil)) s_nil)))))))
  (x_seq (x_asg (s_call (s_vcons (s_vE s_var) (s_vcons s_vR (s_vcons (s_vE (s_ofL (s_listRg s_var))) s_vnil))) (vn_cons (vn_cons (vn_cons vn_nil)))))
  (x_seq (x_asgL (s_rep (s_cons s_non s_nil) s_var))
  (x_seq (x_frz (x_for (s_ienum s_var) (b_tup (bs_cons b_name (bs_cons (b_tup (bs_cons b_name (bs_cons b_name bs_nil))) bs_nil)))
    (x_setI (s_op ro_ix s_var s_var) (s_if (s_test (s_op ro_eq s_var s_str)) (s_tup (s_cons s_var (s_cons s_var s_nil))) (s_tup (s_cons s_var (s_cons (s_cb rc_tuple (s_cons (s_ofL (s_lc (vs := [10]) (s_iseq s_var) (gin_name (by decide)) gmono_name b_name s_yes (s_op ro_ix s_var s_var))) s_nil)) s_nil)))))))
  (x_ret s_tupleV)))))))
    rfl h

abbrev s_l_is_paper : Stmt := top 27
theorem sc_l_is_paper : FnScope ["_law_game", "_law_place", "_law_goal", "_law_thing", "_law_hand", "_law_side", "_law_more", "_law_move", "_law_part"] ["_law_game", "_law_place", "_law_goal", "_law_thing", "_law_hand"] (defScope s_l_is_paper) := ⟨rfl, rfl, rfl, by decide +kernel, rfl, by decide +kernel, by decide +kernel⟩

theorem ok_l_is_paper {f : Addr} {fd : FuncData} {k : Nat} {F_l_is_paper : FS} (F : Fun K "_law_is_paper" "_law_is_paper" s_l_is_paper f fd) (B : Bn mg)
    (c_l_is_paper : Cal P w K mg base k "_law_is_paper" ["_law_game", "_law_place", "_law_goal", "_law_thing", "_law_hand"] (spG (kX P w K mg base (lw + 1) tb) 5 F_l_is_paper)) :
    FnOk P w K mg base CX0 (k + 1) f fd ["_law_game", "_law_place", "_law_goal", "_law_thing", "_law_hand"] (spG (kX P w K mg base (lw + 1) tb) 5 (fnS 9 (m_l_is_paper F_l_is_paper))) := by
  refine F.ok sc_l_is_paper (fun vs H Q E h => spG_len h) (fun cdv A outer s H vs Q E hr h => ⟨_,
  (pss_cons (ps_asg (pe_ix (k_ix K) (pv 0) (pv 1) (fun _ _ => rfl)) (k_tup (n := 2) K rfl (pgs_cons (pg_name (i := 5) sc_l_is_paper.nd rfl (by first | exact Or.inl rfl | exact Or.inr rfl)) (pgs_cons (pg_name (i := 6) sc_l_is_paper.nd rfl (by first | exact Or.inl rfl | exact Or.inr rfl)) pgs_nil))))
  (pss_cons (ps_if (pt_not (k_tru K (pe_callB (k_isi K) (by rfl) B.isinstance (by decide +kernel) (pa_cons (pv 3) (pa_cons (pe_bltn (v := .ty "tuple") (by rfl) B.tuple (by decide +kernel) rfl) pa_nil))) (by intro _; rfl)))
    (pss_one (ps_ret pe_bl))
    pss_nil)
  (pss_cons (ps_if (pt_cmpR (k_eq K hr.units) (pv 5) pe_str (nomark _))
    (pss_one (ps_ret (k_andT K (pe_cmpR (k_eq K hr.units) (pv 3) (pe_tup pa_nil) (nomark _)) (pe_one (pe_ifExp (pt_cmpR (k_eq K hr.units) (pv 4) pe_int (nomark _)) (pe_cmpR op_ge (pv 6) (pv 2) (nomark _)) (pe_cmpR op_lt (pv 6) (pv 2) (nomark _)))))))
    pss_nil)
  (pss_cons (ps_if (pt_cmpR (k_eq K hr.units) (pv 5) (pv 4) (nomark _))
    (pss_cons (ps_if (PW.pt (pw_or (pt_cmpR (k_ne K hr.units) (pe_callB (k_len K) (by rfl) B.len (by decide +kernel) (pa_cons (pv 3) pa_nil)) pe_int (nomark _)) (pw_or (pt_not (k_tru K (pe_callB (k_isi K) (by rfl) B.isinstance (by decide +kernel) (pa_cons (pe_ix (k_ix K) (pv 3) pe_int (fun _ _ => rfl)) (pa_cons (pe_bltn (v := .ty "int") (by rfl) B.int (by decide +kernel) rfl) pa_nil))) (by intro _; rfl))) (pw_or (k_tru K (pe_callB (k_isi K) (by rfl) B.isinstance (by decide +kernel) (pa_cons (pe_ix (k_ix K) (pv 3) pe_int (fun _ _ => rfl)) (pa_cons (pe_bltn (v := .ty "bool") (by rfl) B.bool (by decide +kernel) rfl) pa_nil))) (by intro _; rfl)) (pw_or1 (pt_cmpR (k_notin K) (pe_ix (k_ix K) (pv 3) pe_int (fun _ _ => rfl)) (pe_callTy (k_list K) (by rfl) B.list (by decide +kernel) (pa_cons (pv 6) pa_nil)) (by rfl)))))))
      (pss_one (ps_ret pe_bl))
      pss_nil)
    (pss_one (ps_ret (pe_cal c_l_is_paper hr (pa_cons (pv 0) (pa_cons (pe_ix (k_ix K) (pv 3) pe_int (fun _ _ => rfl)) (pa_cons (pv 2) (pa_cons (pe_ix (k_ix K) (pv 3) pe_int (fun _ _ => rfl)) (pa_cons (pv 4) pa_nil)))))))))
    pss_nil)
  (pss_cons (ps_if (pt_cmpR (k_ne K hr.units) (pe_callB (k_len K) (by rfl) B.len (by decide +kernel) (pa_cons (pv 3) pa_nil)) (pe_callB (k_len K) (by rfl) B.len (by decide +kernel) (pa_cons (pv 6) pa_nil)) (nomark _))
    (pss_one (ps_ret pe_bl))
    pss_nil)
  (pss_one (ps_ret (pe_cmpR (k_eq K hr.units) (pe_lc (own := [("_law_move", 7), ("_law_part", 8)]) (by rfl) sc_l_is_paper.nd (pi_zipA (by rfl) B.zip (pa_cons (pv 6) (pa_cons (pv 3) pa_nil))) (blkOk_by (own := [("_law_move", 7), ("_law_part", 8)]) (N := ["_law_game", "_law_place", "_law_goal", "_law_thing", "_law_hand", "_law_side", "_law_more", "_law_move", "_law_part"]) (sc := defScope s_l_is_paper) (by decide +kernel)) (fun _ _ _ _ _ => (k_tup (n := 2) K rfl (pgs_cons (pg_name (i := 7) sc_l_is_paper.nd rfl (by first | exact Or.inl rfl | exact Or.inr rfl)) (pgs_cons (pg_name (i := 8) sc_l_is_paper.nd rfl (by first | exact Or.inl rfl | exact Or.inr rfl)) pgs_nil)))) (fun _ _ _ _ _ => pts_one (pt_not (k_tru K (pe_cal c_l_is_paper hr (pa_cons (pv 0) (pa_cons (pv 7) (pa_cons (pv 2) (pa_cons (pv 8) (pa_cons (pv 4) pa_nil)))))) (by intro _; rfl)))) (fun _ _ _ _ _ => pe_int)) (pe_lst pa_nil) (nomark _))))))))), ?_⟩)
  try simp only [cxK]
  exact run_fn (x := m_l_is_paper F_l_is_paper)
    ((x_seq (x_asgG (s_op ro_ix s_var s_var) (b_tup (bs_cons b_name (bs_cons b_name bs_nil))))
  (x_seq (x_if (s_bnot (s_tru (s_isi s_var)))
    (x_ret s_bl)
    x_next)
  (x_seq (x_if (s_test (s_op ro_eq s_var s_str))
    (x_ret (s_and (s_op ro_eq s_var (s_tup s_nil)) (s_if (s_test (s_op ro_eq s_var s_int)) (s_op ro_ge s_var s_var) (s_op ro_lt s_var s_var))))
    x_next)
  (x_seq (x_if (s_test (s_op ro_eq s_var s_var))
    (x_seq (x_if (s_bor (s_test (s_op ro_ne (s_cb rc_len (s_cons s_var s_nil)) s_int)) (s_bor (s_bnot (s_tru (s_isi (s_op ro_ix s_var s_int)))) (s_bor (s_tru (s_isi (s_op ro_ix s_var s_int))) (s_test (s_op ro_in (s_op ro_ix s_var s_int) (s_ofL (s_list s_var)))))))
      (x_ret s_bl)
      x_next)
    (x_ret (s_call (s_vcons (s_vE s_var) (s_vcons (s_vE (s_op ro_ix s_var s_int)) (s_vcons (s_vE s_var) (s_vcons (s_vE (s_op ro_ix s_var s_int)) (s_vcons (s_vE s_var) s_vnil))))) (vn_cons (vn_cons (vn_cons (vn_cons (vn_cons vn_nil))))))))
    x_next)
  (x_seq (x_if (s_test (s_op ro_ne (s_cb rc_len (s_cons s_var s_nil)) (s_cb rc_len (s_cons s_var s_nil))))
    (x_ret s_bl)
    x_next)
  (x_ret (s_op ro_eq (s_ofL (s_lc (vs := [7, 8]) (s_izip s_var s_var) (gin_tup (gins_cons (gin_name (by decide)) (gins_cons (gin_name (by decide)) gins_nil gmono_name) gmono_name)) (gmono_tup (gmonos_cons gmono_name (gmonos_cons gmono_name gmonos_nil))) (b_tup (bs_cons b_name (bs_cons b_name bs_nil))) (s_bnot (s_tru (s_call (s_vcons (s_vE s_var) (s_vcons (s_vE s_var) (s_vcons (s_vE s_var) (s_vcons (s_vE s_var) (s_vcons (s_vE s_var) s_vnil))))) (vn_cons (vn_cons (vn_cons (vn_cons (vn_cons vn_nil)))))))) s_int)) (s_ofL (s_lst s_nil))))))))))
    rfl h

abbrev s_l_ends : Stmt := top 28
theorem sc_l_ends : FnScope ["_law_paper", "_law_part"] ["_law_paper"] (defScope s_l_ends) := ⟨rfl, rfl, rfl, by decide +kernel, rfl, by decide +kernel, by decide +kernel⟩

theorem ok_l_ends {f : Addr} {fd : FuncData} {k : Nat} {F_l_ends : FS} (F : Fun K "_law_ends" "_law_ends" s_l_ends f fd) (B : Bn mg)
    (c_l_ends : Cal P w K mg base k "_law_ends" ["_law_paper"] (spG (kX P w K mg base (lw + 1) tb) 1 F_l_ends)) :
    FnOk P w K mg base CX0 (k + 1) f fd ["_law_paper"] (spG (kX P w K mg base (lw + 1) tb) 1 (fnS 2 (m_l_ends F_l_ends))) := by
  refine F.ok sc_l_ends (fun vs H Q E h => spG_len h) (fun cdv A outer s H vs Q E hr h => ⟨_,
  (pss_cons (ps_if (pt_cmpR (k_eq K hr.units) (pv 0) (pe_tup pa_nil) (nomark _))
    (pss_one (ps_ret pe_int))
    pss_nil)
  (pss_one (ps_ret (pe_callB (k_sum K rfl) (by rfl) B.sum (by decide +kernel) (pa_cons (pe_lc (own := [("_law_part", 1)]) (by rfl) sc_l_ends.nd (k_seq K (pv 0)) (blkOk_by (own := [("_law_part", 1)]) (N := ["_law_paper", "_law_part"]) (sc := defScope s_l_ends) (by decide +kernel)) (fun _ _ _ _ _ => (pg_name (i := 1) sc_l_ends.nd rfl (by first | exact Or.inl rfl | exact Or.inr rfl))) (fun _ _ _ _ _ => pts_one (k_tru K (pe_callB (k_isi K) (by rfl) B.isinstance (by decide +kernel) (pa_cons (pv 1) (pa_cons (pe_bltn (v := .ty "tuple") (by rfl) B.tuple (by decide +kernel) rfl) pa_nil))) (by intro _; rfl))) (fun _ _ _ _ _ => (pe_cal c_l_ends hr (pa_cons (pv 1) pa_nil)))) pa_nil))))), ?_⟩)
  try simp only [cxK]
  exact run_fn (x := m_l_ends F_l_ends)
    ((x_seq (x_if (s_test (s_op ro_eq s_var (s_tup s_nil)))
    (x_ret s_int)
    x_next)
  (x_ret (s_cb rc_sumD (s_cons (s_ofL (s_lc (vs := [1]) (s_iseq s_var) (gin_name (by decide)) gmono_name b_name (s_tru (s_isi s_var)) (s_call (s_vcons (s_vE s_var) s_vnil) (vn_cons vn_nil)))) s_nil)))))
    rfl h

abbrev s_l_drawn_goal : Stmt := top 29
theorem sc_l_drawn_goal : FnScope ["_law_script", "_law_town", "_law_worth"] ["_law_script", "_law_town", "_law_worth"] (defScope s_l_drawn_goal) := ⟨rfl, rfl, rfl, by decide +kernel, rfl, by decide +kernel, by decide +kernel⟩

theorem ok_l_drawn_goal {f : Addr} {fd : FuncData} {k : Nat} {F_l_pick F_l_draw : FS} (F : Fun K "_law_drawn_goal" "_law_drawn_goal" s_l_drawn_goal f fd) (B : Bn mg)
    (c_l_pick : Cal P w K mg base k "_law_pick" ["_law_script", "_law_town", "_law_some"] (spG (kX P w K mg base (lw + 1) tb) 3 F_l_pick))
    (c_l_draw : Cal P w K mg base k "_law_draw" ["_law_script", "_law_town", "_law_many"] (spG (kX P w K mg base (lw + 1) tb) 3 F_l_draw)) :
    FnOk P w K mg base CX0 (k + 1) f fd ["_law_script", "_law_town", "_law_worth"] (spG (kX P w K mg base (lw + 1) tb) 3 (fnS 3 (m_l_drawn_goal_2 F_l_pick F_l_draw))) := by
  refine F.ok sc_l_drawn_goal (fun vs H Q E h => spG_len h) (fun cdv A outer s H vs Q E hr h => ⟨_,
  (pss_one (ps_ret (pe_cal c_l_pick hr (pa_cons (pv 0) (pa_cons (pv 1) (pa_cons (pe_lst (pa_cons (pv 2) (pa_cons (pe_op (k_plus K) (pv 2) pe_int) (pa_cons (pe_op op_sub (pv 2) pe_int) (pa_cons pe_int (pa_cons (pe_un un_neg pe_int) (pa_cons pe_int (pa_cons (pe_op op_sub (pe_cal c_l_draw hr (pa_cons (pv 0) (pa_cons (pv 1) (pa_cons pe_int pa_nil)))) pe_int) pa_nil)))))))) pa_nil)))))), ?_⟩)
  try simp only [cxK]
  exact run_fn (x := m_l_drawn_goal_2 F_l_pick F_l_draw)
    ((x_ret (s_call (s_vcons (s_vE s_var) (s_vcons s_vR (s_vcons (s_vE (s_ofL (s_lst (s_cons s_var (s_cons (s_op ro_plus s_var s_int) (s_cons (s_op ro_sub s_var s_int) (s_cons s_int (s_cons (s_un ro_neg s_int) (s_cons s_int (s_cons (s_op ro_sub (s_call (s_vcons (s_vE s_var) (s_vcons s_vR (s_vcons (s_vE s_int) s_vnil))) (vn_cons (vn_cons (vn_cons vn_nil)))) s_int) s_nil)))))))))) s_vnil))) (vn_cons (vn_cons (vn_cons vn_nil))))))
    rfl h

abbrev s_l_play : Stmt := top 30
theorem sc_l_play : FnScope ["_law_script", "_law_town", "_law_game", "_law_place", "_law_paper", "_law_hand", "_law_side", "_law_more", "_law_at"] ["_law_script", "_law_town", "_law_game", "_law_place", "_law_paper", "_law_hand"] (defScope s_l_play) := ⟨rfl, rfl, rfl, by decide +kernel, rfl, by decide +kernel, by decide +kernel⟩

theorem ok_l_play {f : Addr} {fd : FuncData} {k : Nat} {F_l_draw : FS} (F : Fun K "_law_play" "_law_play" s_l_play f fd) (B : Bn mg)
    (c_l_draw : Cal P w K mg base k "_law_draw" ["_law_script", "_law_town", "_law_many"] (spG (kX P w K mg base (lw + 1) tb) 3 F_l_draw)) :
    FnOk P w K mg base CX0 (k + 1) f fd ["_law_script", "_law_town", "_law_game", "_law_place", "_law_paper", "_law_hand"] (spG (kX P w K mg base (lw + 1) tb) 6 (fnS 9 (m_l_play F_l_draw))) := by
  refine F.ok sc_l_play (fun vs H Q E h => spG_len h) (fun cdv A outer s H vs Q E hr h => ⟨_,
  (pss_cons (ps_asg (pe_ix (k_ix K) (pv 2) (pv 3) (fun _ _ => rfl)) (k_tup (n := 2) K rfl (pgs_cons (pg_name (i := 6) sc_l_play.nd rfl (by first | exact Or.inl rfl | exact Or.inr rfl)) (pgs_cons (pg_name (i := 7) sc_l_play.nd rfl (by first | exact Or.inl rfl | exact Or.inr rfl)) pgs_nil))))
  (pss_cons (ps_while PassesOwn.never (pt_cmpR (k_ne K hr.units) (pv 6) pe_str (nomark _))
    (pss_cons (ps_set (i := 8) sc_l_play.nd rfl (by first | exact Or.inl rfl | exact Or.inr rfl) (pe_ifExp (pt_cmpR (k_eq K hr.units) (pv 6) (pv 5) (nomark _)) (pe_bm PySem.F.plainAttrs_list PySem.F.slot_list_index PySem.F.type_list_index (k_indexD (kX P w K mg base (lw + 1) tb) (in65 hr)) (pe_callTy (k_list K) (by rfl) B.list (by decide +kernel) (pa_cons (pv 7) pa_nil)) (pa_cons (pe_ix (k_ix K) (pv 4) pe_int (fun _ _ => rfl)) pa_nil)) (pe_cal c_l_draw hr (pa_cons (pv 0) (pa_cons (pv 1) (pa_cons (pe_callB (k_len K) (by rfl) B.len (by decide +kernel) (pa_cons (pv 7) pa_nil)) pa_nil))))))
    (pss_cons (ps_set (i := 4) sc_l_play.nd rfl (by first | exact Or.inl rfl | exact Or.inr rfl) (pe_ifExp (pt_cmpR (k_eq K hr.units) (pv 6) (pv 5) (nomark _)) (pe_ix (k_ix K) (pv 4) pe_int (fun _ _ => rfl)) (pe_ix (k_ix K) (pv 4) (pv 8) (fun _ _ => rfl))))
    (pss_one (ps_asg (pe_ix (k_ix K) (pv 2) (pe_ix (k_ix K) (pv 7) (pv 8) (fun _ _ => rfl)) (fun _ _ => rfl)) (k_tup (n := 2) K rfl (pgs_cons (pg_name (i := 6) sc_l_play.nd rfl (by first | exact Or.inl rfl | exact Or.inr rfl)) (pgs_cons (pg_name (i := 7) sc_l_play.nd rfl (by first | exact Or.inl rfl | exact Or.inr rfl)) pgs_nil))))))))
  (pss_one (ps_ret (pv 7))))), ?_⟩)
  try simp only [cxK]
  exact run_fn (x := m_l_play F_l_draw)
    ((x_seq (x_asgG (s_op ro_ix s_var s_var) (b_tup (bs_cons b_name (bs_cons b_name bs_nil))))
  (x_seq (x_pre (x_while (s_test (s_op ro_ne s_var s_str))
    (x_keep (x_seq (x_asg (s_if (s_test (s_op ro_eq s_var s_var)) (s_index (s_ofL (s_list s_var)) (s_op ro_ix s_var s_int)) (s_call (s_vcons (s_vE s_var) (s_vcons s_vR (s_vcons (s_vE (s_cb rc_len (s_cons s_var s_nil))) s_vnil))) (vn_cons (vn_cons (vn_cons vn_nil))))))
    (x_seq (x_asg (s_if (s_test (s_op ro_eq s_var s_var)) (s_op ro_ix s_var s_int) (s_op ro_ix s_var s_var)))
    (x_asgG (s_op ro_ix s_var (s_op ro_ix s_var s_var)) (b_tup (bs_cons b_name (bs_cons b_name bs_nil)))))))))
  (x_ret s_var))))
    rfl h

abbrev s_l_goal_holds : Stmt := top 31
theorem sc_l_goal_holds : FnScope ["_law_script", "_law_town", "_law_game", "_law_place", "_law_goal", "_law_worth", "_law_pro", "_law_con", "_law_paper", "_law_hand", "_law_j", "_law_end", "_law_least_one", "_law_many"] ["_law_script", "_law_town", "_law_game", "_law_place", "_law_goal", "_law_worth"] (defScope s_l_goal_holds) := ⟨rfl, rfl, rfl, by decide +kernel, rfl, by decide +kernel, by decide +kernel⟩

theorem ok_l_goal_holds {f : Addr} {fd : FuncData} {k : Nat} {F_paper_for F_paper_against F_l_is_paper F_is_paper_against F_is_paper F_l_play F_l_ends F_ends_in F_lines F_least_paper F_fewest_ends F_papers_in_all F_turned : FS} (F : Fun K "_law_goal_holds" "_law_goal_holds" s_l_goal_holds f fd) (B : Bn mg)
    (c_paper_for : Cal P w K mg base k "paper_for" ["game", "place", "goal"] (spG (kX P w K mg base (lw + 1) tb) 3 F_paper_for))
    (c_paper_against : Cal P w K mg base k "paper_against" ["game", "place", "goal"] (spG (kX P w K mg base (lw + 1) tb) 3 F_paper_against))
    (c_l_is_paper : Cal P w K mg base k "_law_is_paper" ["_law_game", "_law_place", "_law_goal", "_law_thing", "_law_hand"] (spG (kX P w K mg base (lw + 1) tb) 5 F_l_is_paper))
    (c_is_paper_against : Cal P w K mg base k "is_paper_against" ["game", "place", "goal", "thing"] (spG (kX P w K mg base (lw + 1) tb) 4 F_is_paper_against))
    (c_is_paper : Cal P w K mg base k "is_paper" ["game", "place", "goal", "thing"] (spG (kX P w K mg base (lw + 1) tb) 4 F_is_paper))
    (c_l_play : Cal P w K mg base k "_law_play" ["_law_script", "_law_town", "_law_game", "_law_place", "_law_paper", "_law_hand"] (spG (kX P w K mg base (lw + 1) tb) 6 F_l_play))
    (c_l_ends : Cal P w K mg base k "_law_ends" ["_law_paper"] (spG (kX P w K mg base (lw + 1) tb) 1 F_l_ends))
    (c_ends_in : Cal P w K mg base k "ends_in" ["paper"] (spG (kX P w K mg base (lw + 1) tb) 1 F_ends_in))
    (c_lines : Cal P w K mg base k "lines" ["game", "place"] (spG (kX P w K mg base (lw + 1) tb) 2 F_lines))
    (c_least_paper : Cal P w K mg base k "least_paper" ["game", "place", "goal"] (spG (kX P w K mg base (lw + 1) tb) 3 F_least_paper))
    (c_fewest_ends : Cal P w K mg base k "fewest_ends" ["game", "place", "goal"] (spG (kX P w K mg base (lw + 1) tb) 3 F_fewest_ends))
    (c_papers_in_all : Cal P w K mg base k "papers_in_all" ["game", "place", "goal"] (spG (kX P w K mg base (lw + 1) tb) 3 F_papers_in_all))
    (c_turned : Cal P w K mg base k "turned" ["game"] (spG (kX P w K mg base (lw + 1) tb) 1 F_turned)) :
    FnOk P w K mg base CX0 (k + 1) f fd ["_law_script", "_law_town", "_law_game", "_law_place", "_law_goal", "_law_worth"] (spG (kX P w K mg base (lw + 1) tb) 6 (fnS 14 (m_l_goal_holds F_paper_for F_paper_against F_l_is_paper F_is_paper_against F_is_paper F_l_play F_l_ends F_ends_in F_lines F_least_paper F_fewest_ends F_papers_in_all F_turned))) := by
  refine F.ok sc_l_goal_holds (fun vs H Q E h => spG_len h) (fun cdv A outer s H vs Q E hr h => ⟨_,
  (pss_cons (ps_par (i := 6) (j := 7) (by rfl) sc_l_goal_holds.nd rfl rfl (by decide) rfl rfl (pa_cons (pe_cal c_paper_for hr (pa_cons (pv 2) (pa_cons (pv 3) (pa_cons (pv 4) pa_nil)))) (pa_cons (pe_cal c_paper_against hr (pa_cons (pv 2) (pa_cons (pv 3) (pa_cons (pv 4) pa_nil)))) pa_nil)) (by rfl))
  (pss_cons (ps_if (PW.pt (pw_or (pt_cmpR (k_eq K hr.units) (pe_cmp (pc_isN (pv 6)) rfl) (pe_cmp (pc_isN (pv 7)) rfl) (nomark _)) (pw_or1 (pt_cmpR (k_ne K hr.units) (pe_cmp (pc_notN (pv 6)) rfl) (pe_cmpR op_ge (pv 5) (pv 4) (nomark _)) (nomark _)))))
    (pss_one (ps_ret pe_bl))
    pss_nil)
  (pss_cons (ps_asg (pe_ifExp (pt_cmp (pc_isN (pv 7))) (pe_tup (pa_cons (pv 6) (pa_cons pe_int pa_nil))) (pe_tup (pa_cons (pv 7) (pa_cons pe_int pa_nil)))) (k_tup (n := 2) K rfl (pgs_cons (pg_name (i := 8) sc_l_goal_holds.nd rfl (by first | exact Or.inl rfl | exact Or.inr rfl)) (pgs_cons (pg_name (i := 9) sc_l_goal_holds.nd rfl (by first | exact Or.inl rfl | exact Or.inr rfl)) pgs_nil))))
  (pss_cons (ps_if (PW.pt (pw_or (pt_not (k_tru K (pe_cal c_l_is_paper hr (pa_cons (pv 2) (pa_cons (pv 3) (pa_cons (pv 4) (pa_cons (pv 8) (pa_cons (pv 9) pa_nil)))))) (by intro _; rfl))) (pw_or1 (k_tru K (pe_cal c_l_is_paper hr (pa_cons (pv 2) (pa_cons (pv 3) (pa_cons (pv 4) (pa_cons (pv 8) (pa_cons (pe_op op_sub pe_int (pv 9)) pa_nil)))))) (by intro _; rfl)))))
    (pss_one (ps_ret pe_bl))
    pss_nil)
  (pss_cons (ps_if (pt_cmpR (k_ne K hr.units) (pe_tup (pa_cons (pe_cal c_is_paper hr (pa_cons (pv 2) (pa_cons (pv 3) (pa_cons (pv 4) (pa_cons (pv 8) pa_nil))))) (pa_cons (pe_cal c_is_paper_against hr (pa_cons (pv 2) (pa_cons (pv 3) (pa_cons (pv 4) (pa_cons (pv 8) pa_nil))))) pa_nil))) (pe_tup (pa_cons (pe_cmpR (k_eq K hr.units) (pv 9) pe_int (nomark _)) (pa_cons (pe_cmpR (k_eq K hr.units) (pv 9) pe_int (nomark _)) pa_nil))) (nomark _))
    (pss_one (ps_ret pe_bl))
    pss_nil)
  (pss_cons (ps_for PassesOwn.never rfl (pi_range1 (by rfl) B.range (pa_cons pe_int pa_nil)) (pg_name (i := 10) sc_l_goal_holds.nd rfl (by first | exact Or.inl rfl | exact Or.inr rfl))
    (pss_cons (ps_set (i := 11) sc_l_goal_holds.nd rfl (by first | exact Or.inl rfl | exact Or.inr rfl) (pe_cal c_l_play hr (pa_cons (pv 0) (pa_cons (pv 1) (pa_cons (pv 2) (pa_cons (pv 3) (pa_cons (pv 8) (pa_cons (pv 9) pa_nil))))))))
    (pss_one (ps_if (pt_cmpR (k_ne K hr.units) (pe_cmpR op_ge (pv 11) (pv 4) (nomark _)) (pe_cmpR (k_eq K hr.units) (pv 9) pe_int (nomark _)) (nomark _))
      (pss_one (ps_ret pe_bl))
      pss_nil))))
  (pss_cons (ps_if (PW.pt (pw_or (pt_cmpR op_gt (pe_cal c_ends_in hr (pa_cons (pv 8) pa_nil)) (pe_cal c_lines hr (pa_cons (pv 2) (pa_cons (pv 3) pa_nil))) (nomark _)) (pw_or1 (pt_cmpR (k_ne K hr.units) (pe_cal c_l_ends hr (pa_cons (pv 8) pa_nil)) (pe_cal c_ends_in hr (pa_cons (pv 8) pa_nil)) (nomark _)))))
    (pss_one (ps_ret pe_bl))
    pss_nil)
  (pss_cons (ps_set (i := 12) sc_l_goal_holds.nd rfl (by first | exact Or.inl rfl | exact Or.inr rfl) (pe_cal c_least_paper hr (pa_cons (pv 2) (pa_cons (pv 3) (pa_cons (pv 4) pa_nil)))))
  (pss_cons (ps_if (PW.pt (pw_and (pt_cmpR (k_eq K hr.units) (pv 9) pe_int (nomark _)) (pw_and1 (pt_not (pt_chain (k_eq K hr.units) op_le (pe_cal c_fewest_ends hr (pa_cons (pv 2) (pa_cons (pv 3) (pa_cons (pv 4) pa_nil)))) (pe_cal c_ends_in hr (pa_cons (pv 12) pa_nil)) (pe_cal c_ends_in hr (pa_cons (pv 8) pa_nil)))))))
    (pss_one (ps_ret pe_bl))
    pss_nil)
  (pss_cons (ps_if (PW.pt (pw_and (pt_cmpR (k_eq K hr.units) (pv 9) pe_int (nomark _)) (pw_and1 (PW.pt (pw_or (pt_cmp (pc_notN (pv 12))) (pw_or1 (pt_cmp (pc_notN (pe_cal c_fewest_ends hr (pa_cons (pv 2) (pa_cons (pv 3) (pa_cons (pv 4) pa_nil))))))))))))
    (pss_one (ps_ret pe_bl))
    pss_nil)
  (pss_cons (ps_set (i := 13) sc_l_goal_holds.nd rfl (by first | exact Or.inl rfl | exact Or.inr rfl) (pe_cal c_papers_in_all hr (pa_cons (pv 2) (pa_cons (pv 3) (pa_cons (pv 4) pa_nil)))))
  (pss_cons (ps_if (PW.pt (pw_or (pt_cmpR (k_ne K hr.units) (pe_cmpR op_gt (pv 13) pe_int (nomark _)) (pe_cmpR (k_eq K hr.units) (pv 9) pe_int (nomark _)) (nomark _)) (pw_or1 (pt_cmpR op_gt (pe_cal c_papers_in_all hr (pa_cons (pv 2) (pa_cons (pv 3) (pa_cons (pe_op (k_plus K) (pv 4) pe_int) pa_nil)))) (pv 13) (nomark _)))))
    (pss_one (ps_ret pe_bl))
    pss_nil)
  (pss_one (ps_ret (pe_cmpR (k_eq K hr.units) (pe_cal c_paper_for hr (pa_cons (pe_cal c_turned hr (pa_cons (pv 2) pa_nil)) (pa_cons (pv 3) (pa_cons (pe_op op_sub pe_int (pv 4)) pa_nil)))) (pv 7) (nomark _)))))))))))))))), ?_⟩)
  try simp only [cxK]
  exact run_fn (x := m_l_goal_holds F_paper_for F_paper_against F_l_is_paper F_is_paper_against F_is_paper F_l_play F_l_ends F_ends_in F_lines F_least_paper F_fewest_ends F_papers_in_all F_turned)
    ((x_seq (x_par (s_call (s_vcons (s_vE s_var) (s_vcons (s_vE s_var) (s_vcons (s_vE s_var) s_vnil))) (vn_cons (vn_cons (vn_cons vn_nil)))) (s_call (s_vcons (s_vE s_var) (s_vcons (s_vE s_var) (s_vcons (s_vE s_var) s_vnil))) (vn_cons (vn_cons (vn_cons vn_nil)))))
  (x_seq (x_if (s_bor (s_test (s_op ro_eq (s_isN s_var) (s_isN s_var))) (s_test (s_op ro_ne (s_notN s_var) (s_op ro_ge s_var s_var))))
    (x_ret s_bl)
    x_next)
  (x_seq (x_asgG (s_if (s_B (s_isN s_var)) (s_tup (s_cons s_var (s_cons s_int s_nil))) (s_tup (s_cons s_var (s_cons s_int s_nil)))) (b_tup (bs_cons b_name (bs_cons b_name bs_nil))))
  (x_seq (x_if (s_bor (s_bnot (s_tru (s_call (s_vcons (s_vE s_var) (s_vcons (s_vE s_var) (s_vcons (s_vE s_var) (s_vcons (s_vE s_var) (s_vcons (s_vE s_var) s_vnil))))) (vn_cons (vn_cons (vn_cons (vn_cons (vn_cons vn_nil)))))))) (s_tru (s_call (s_vcons (s_vE s_var) (s_vcons (s_vE s_var) (s_vcons (s_vE s_var) (s_vcons (s_vE s_var) (s_vcons (s_vE (s_op ro_sub s_int s_var)) s_vnil))))) (vn_cons (vn_cons (vn_cons (vn_cons (vn_cons vn_nil))))))))
    (x_ret s_bl)
    x_next)
  (x_seq (x_if (s_test (s_op ro_ne (s_tup (s_cons (s_call (s_vcons (s_vE s_var) (s_vcons (s_vE s_var) (s_vcons (s_vE s_var) (s_vcons (s_vE s_var) s_vnil)))) (vn_cons (vn_cons (vn_cons (vn_cons vn_nil))))) (s_cons (s_call (s_vcons (s_vE s_var) (s_vcons (s_vE s_var) (s_vcons (s_vE s_var) (s_vcons (s_vE s_var) s_vnil)))) (vn_cons (vn_cons (vn_cons (vn_cons vn_nil))))) s_nil))) (s_tup (s_cons (s_op ro_eq s_var s_int) (s_cons (s_op ro_eq s_var s_int) s_nil)))))
    (x_ret s_bl)
    x_next)
  (x_seq (x_for (s_iwipe (s_irg1 s_int)) b_name
    (x_keep (x_seq (x_asg (s_call (s_vcons (s_vE s_var) (s_vcons s_vR (s_vcons (s_vE s_var) (s_vcons (s_vE s_var) (s_vcons (s_vE s_var) (s_vcons (s_vE s_var) s_vnil)))))) (vn_cons (vn_cons (vn_cons (vn_cons (vn_cons (vn_cons vn_nil))))))))
    (x_if (s_test (s_op ro_ne (s_op ro_ge s_var s_var) (s_op ro_eq s_var s_int)))
      (x_ret s_bl)
      x_next))))
  (x_seq (x_if (s_bor (s_test (s_op ro_gt (s_call (s_vcons (s_vE s_var) s_vnil) (vn_cons vn_nil)) (s_call (s_vcons (s_vE s_var) (s_vcons (s_vE s_var) s_vnil)) (vn_cons (vn_cons vn_nil))))) (s_test (s_op ro_ne (s_call (s_vcons (s_vE s_var) s_vnil) (vn_cons vn_nil)) (s_call (s_vcons (s_vE s_var) s_vnil) (vn_cons vn_nil)))))
    (x_ret s_bl)
    x_next)
  (x_seq (x_asg (s_call (s_vcons (s_vE s_var) (s_vcons (s_vE s_var) (s_vcons (s_vE s_var) s_vnil))) (vn_cons (vn_cons (vn_cons vn_nil)))))
  (x_seq (x_if (s_band (s_test (s_op ro_eq s_var s_int)) (s_bnot (s_test (s_chain ro_eq ro_le (s_call (s_vcons (s_vE s_var) (s_vcons (s_vE s_var) (s_vcons (s_vE s_var) s_vnil))) (vn_cons (vn_cons (vn_cons vn_nil)))) (s_call (s_vcons (s_vE s_var) s_vnil) (vn_cons vn_nil)) (s_call (s_vcons (s_vE s_var) s_vnil) (vn_cons vn_nil))))))
    (x_ret s_bl)
    x_next)
  (x_seq (x_if (s_band (s_test (s_op ro_eq s_var s_int)) (s_bor (s_B (s_notN s_var)) (s_B (s_notN (s_call (s_vcons (s_vE s_var) (s_vcons (s_vE s_var) (s_vcons (s_vE s_var) s_vnil))) (vn_cons (vn_cons (vn_cons vn_nil))))))))
    (x_ret s_bl)
    x_next)
  (x_seq (x_asg (s_call (s_vcons (s_vE s_var) (s_vcons (s_vE s_var) (s_vcons (s_vE s_var) s_vnil))) (vn_cons (vn_cons (vn_cons vn_nil)))))
  (x_seq (x_if (s_bor (s_test (s_op ro_ne (s_op ro_gt s_var s_int) (s_op ro_eq s_var s_int))) (s_test (s_op ro_gt (s_call (s_vcons (s_vE s_var) (s_vcons (s_vE s_var) (s_vcons (s_vE (s_op ro_plus s_var s_int)) s_vnil))) (vn_cons (vn_cons (vn_cons vn_nil)))) s_var)))
    (x_ret s_bl)
    x_next)
  (x_ret (s_op ro_eq (s_call (s_vcons (s_vE (s_call (s_vcons (s_vE s_var) s_vnil) (vn_cons vn_nil))) (s_vcons (s_vE s_var) (s_vcons (s_vE (s_op ro_sub s_int s_var)) s_vnil))) (vn_cons (vn_cons (vn_cons vn_nil)))) s_var)))))))))))))))
    rfl h

abbrev s_law : Stmt := top 32
theorem sc_law : FnScope ["_law_script", "_law_town", "_law_k", "_law_game", "_law_due", "_law_place"] ["_law_script"] (defScope s_law) := ⟨rfl, rfl, rfl, by decide +kernel, rfl, by decide +kernel, by decide +kernel⟩

theorem ok_law {f : Addr} {fd : FuncData} {k : Nat} {F_l_straight F_l_draw F_worths F_l_goal_holds F_l_drawn_goal_2 : FS} (F : Fun K "law" "law" s_law f fd) (B : Bn mg)
    (c_l_straight : Cal P w K mg base k "_law_straight" ["_law_script", "_law_town", "_law_many"] (spG (kX P w K mg base (lw + 1) tb) 3 F_l_straight))
    (c_l_draw : Cal P w K mg base k "_law_draw" ["_law_script", "_law_town", "_law_many"] (spG (kX P w K mg base (lw + 1) tb) 3 F_l_draw))
    (c_worths : Cal P w K mg base k "worths" ["game"] (spG (kX P w K mg base (lw + 1) tb) 1 F_worths))
    (c_l_goal_holds : Cal P w K mg base k "_law_goal_holds" ["_law_script", "_law_town", "_law_game", "_law_place", "_law_goal", "_law_worth"] (spG (kX P w K mg base (lw + 1) tb) 6 F_l_goal_holds))
    (c_l_drawn_goal : Cal P w K mg base k "_law_drawn_goal" ["_law_script", "_law_town", "_law_worth"] (spG (kX P w K mg base (lw + 1) tb) 3 F_l_drawn_goal_2)) :
    FnOk P w K mg base CX0 (k + 1) f fd ["_law_script"] (spG (kX P w K mg base (lw + 1) tb) 1 (fnS 6 (m_law_k19 F_l_straight F_l_draw F_worths F_l_goal_holds F_l_drawn_goal_2))) := by
  refine F.ok sc_law (fun vs H Q E h => spG_len h) (fun cdv A outer s H vs Q E hr h => ⟨_,
  (pss_cons (ps_set (i := 1) sc_law.nd rfl (by first | exact Or.inl rfl | exact Or.inr rfl) (pe_lst pa_nil))
  (pss_cons (ps_for PassesOwn.never rfl (pi_range1 (by rfl) B.range (pa_cons pe_int pa_nil)) (pg_name (i := 2) sc_law.nd rfl (by first | exact Or.inl rfl | exact Or.inr rfl))
    (pss_cons (ps_set (i := 3) sc_law.nd rfl (by first | exact Or.inl rfl | exact Or.inr rfl) (pe_cal c_l_straight hr (pa_cons (pv 0) (pa_cons (pv 1) (pa_cons (pe_op (k_plus K) pe_int (pe_cal c_l_draw hr (pa_cons (pv 0) (pa_cons (pv 1) (pa_cons pe_int pa_nil))))) pa_nil)))))
    (pss_cons (ps_set (i := 4) sc_law.nd rfl (by first | exact Or.inl rfl | exact Or.inr rfl) (pe_cal c_worths hr (pa_cons (pv 3) pa_nil)))
    (pss_one (ps_for PassesOwn.never rfl (pi_range1 (by rfl) B.range (pa_cons (pe_callB (k_len K) (by rfl) B.len (by decide +kernel) (pa_cons (pv 3) pa_nil)) pa_nil)) (pg_name (i := 5) sc_law.nd rfl (by first | exact Or.inl rfl | exact Or.inr rfl))
      (pss_one (ps_if (pt_not (k_tru K (pe_cal c_l_goal_holds hr (pa_cons (pv 0) (pa_cons (pv 1) (pa_cons (pv 3) (pa_cons (pv 5) (pa_cons (pe_cal c_l_drawn_goal hr (pa_cons (pv 0) (pa_cons (pv 1) (pa_cons (pe_ix (k_ix K) (pv 4) (pv 5) (fun _ _ => rfl)) pa_nil)))) (pa_cons (pe_ix (k_ix K) (pv 4) (pv 5) (fun _ _ => rfl)) pa_nil))))))) (by intro _; rfl)))
        (pss_one (ps_ret pe_bl))
        pss_nil)))))))
  (pss_one (ps_ret pe_bl)))), ?_⟩)
  try simp only [cxK]
  exact run_fn (x := m_law_k19 F_l_straight F_l_draw F_worths F_l_goal_holds F_l_drawn_goal_2)
    ((x_seq (x_newL (s_lst s_nil))
  (x_seq (x_for (s_iwipe (s_irg1 s_int)) b_name
    (x_keep (x_seq (x_asg (s_call (s_vcons (s_vE s_var) (s_vcons s_vR (s_vcons (s_vE (s_op ro_plus s_int (s_call (s_vcons (s_vE s_var) (s_vcons s_vR (s_vcons (s_vE s_int) s_vnil))) (vn_cons (vn_cons (vn_cons vn_nil)))))) s_vnil))) (vn_cons (vn_cons (vn_cons vn_nil)))))
    (x_seq (x_asg (s_call (s_vcons (s_vE s_var) s_vnil) (vn_cons vn_nil)))
    (x_for (s_iwipe (s_irg1 (s_cb rc_len (s_cons s_var s_nil)))) b_name
      (x_keep (x_if (s_bnot (s_tru (s_call (s_vcons (s_vE s_var) (s_vcons s_vR (s_vcons (s_vE s_var) (s_vcons (s_vE s_var) (s_vcons (s_vE (s_call (s_vcons (s_vE s_var) (s_vcons s_vR (s_vcons (s_vE (s_op ro_ix s_var s_var)) s_vnil))) (vn_cons (vn_cons (vn_cons vn_nil))))) (s_vcons (s_vE (s_op ro_ix s_var s_var)) s_vnil)))))) (vn_cons (vn_cons (vn_cons (vn_cons (vn_cons (vn_cons vn_nil)))))))))
        (x_ret s_bl)
        x_next)))))))
  (x_ret s_bl))))
    rfl h

set_option maxHeartbeats 8000000 in
theorem law_all {h : Heap} (X : K.In h) (G : h.Ns mainGlobals mg) {fa : Addr} (hfa : mg "law" = some (.ref fa))
    (d_is_whole : DefAt K "is_whole" s_is_whole)
    (d_moves_of : DefAt K "moves_of" s_moves_of)
    (d_order_of : DefAt K "order_of" s_order_of)
    (d_gathered : DefAt K "gathered" s_gathered)
    (d_lines : DefAt K "lines" s_lines)
    (d_turned : DefAt K "turned" s_turned)
    (d_is_paper : DefAt K "is_paper" s_is_paper)
    (d_is_paper_against : DefAt K "is_paper_against" s_is_paper_against)
    (d_ends_in : DefAt K "ends_in" s_ends_in)
    (d_all_papers : DefAt K "all_papers" s_all_papers)
    (d_paper_for : DefAt K "paper_for" s_paper_for)
    (d_paper_against : DefAt K "paper_against" s_paper_against)
    (d_papers_in_all : DefAt K "papers_in_all" s_papers_in_all)
    (d_least_paper : DefAt K "least_paper" s_least_paper)
    (d_fewest_ends : DefAt K "fewest_ends" s_fewest_ends)
    (d_choice : DefAt K "choice" s_choice)
    (d_worths : DefAt K "worths" s_worths)
    (d_l_draw : DefAt K "_law_draw" s_l_draw)
    (d_l_pick : DefAt K "_law_pick" s_l_pick)
    (d_l_mixed : DefAt K "_law_mixed" s_l_mixed)
    (d_l_drawn_worth : DefAt K "_law_drawn_worth" s_l_drawn_worth)
    (d_l_straight : DefAt K "_law_straight" s_l_straight)
    (d_l_is_paper : DefAt K "_law_is_paper" s_l_is_paper)
    (d_l_ends : DefAt K "_law_ends" s_l_ends)
    (d_l_drawn_goal : DefAt K "_law_drawn_goal" s_l_drawn_goal)
    (d_l_play : DefAt K "_law_play" s_l_play)
    (d_l_goal_holds : DefAt K "_law_goal_holds" s_l_goal_holds)
    (d_law : DefAt K "law" s_law)
    
    (z_len : PySem.W.nsIn K mainGlobals "len" = some none) (z_list : PySem.W.nsIn K mainGlobals "list" = some none) (z_tuple : PySem.W.nsIn K mainGlobals "tuple" = some none) (z_range : PySem.W.nsIn K mainGlobals "range" = some none) (z_zip : PySem.W.nsIn K mainGlobals "zip" = some none) (z_enumerate : PySem.W.nsIn K mainGlobals "enumerate" = some none) (z_abs : PySem.W.nsIn K mainGlobals "abs" = some none) (z_max : PySem.W.nsIn K mainGlobals "max" = some none) (z_min : PySem.W.nsIn K mainGlobals "min" = some none) (z_sum : PySem.W.nsIn K mainGlobals "sum" = some none) (z_all : PySem.W.nsIn K mainGlobals "all" = some none) (z_any : PySem.W.nsIn K mainGlobals "any" = some none) (z_sorted : PySem.W.nsIn K mainGlobals "sorted" = some none) (z_isinstance : PySem.W.nsIn K mainGlobals "isinstance" = some none) (z_int : PySem.W.nsIn K mainGlobals "int" = some none) (z_bool : PySem.W.nsIn K mainGlobals "bool" = some none) (z_str : PySem.W.nsIn K mainGlobals "str" = some none) (z_set : PySem.W.nsIn K mainGlobals "set" = some none) {qq : Program} {cc_lines tt_lines : Addr} {dr_lines : DefRec} (t_lines : PySem.W.tabIn K "lines" = some (cc_lines, tt_lines)) (r_lines : (recsOf qq).find? (fun e => e.name == ("lines" : Str)) = some dr_lines) {cc_paper_for tt_paper_for : Addr} {dr_paper_for : DefRec} (t_paper_for : PySem.W.tabIn K "paper_for" = some (cc_paper_for, tt_paper_for)) (r_paper_for : (recsOf qq).find? (fun e => e.name == ("paper_for" : Str)) = some dr_paper_for) {cc_least_paper tt_least_paper : Addr} {dr_least_paper : DefRec} (t_least_paper : PySem.W.tabIn K "least_paper" = some (cc_least_paper, tt_least_paper)) (r_least_paper : (recsOf qq).find? (fun e => e.name == ("least_paper" : Str)) = some dr_least_paper) (NTB : PySem.W.noTabs K = true) (NDS : ([("lines", cc_lines, tt_lines), ("paper_for", cc_paper_for, tt_paper_for), ("least_paper", cc_least_paper, tt_least_paper)].map (·.2.2)).Nodup) :
    ∃ (fd : FuncData) (cs : List (Str × Addr × Addr)), PySem.W.noTabs K = true ∧ (∀ p ∈ cs, PySem.W.tabIn K p.1 = some p.2 ∧ ∃ dr, (recsOf qq).find? (fun e => e.name == p.1) = some dr) ∧ (∀ (s : Shared) (v : Value), BindsTo s fd ⟨[v], []⟩ [("_law_script", v)]) ∧ ∀ base : Heap, K.In base → base.Ns mainGlobals mg → (∀ p ∈ cs, LamX.TabB base mg p.2.1 p.2.2) → FnOk P w K mg base CX0 49 fa fd ["_law_script"] (spLawT K (cs.map (·.2.2))) := by
  have B : Bn mg := ⟨PySem.W.mg_none_of X G z_len, PySem.W.mg_none_of X G z_list, PySem.W.mg_none_of X G z_tuple, PySem.W.mg_none_of X G z_range, PySem.W.mg_none_of X G z_zip, PySem.W.mg_none_of X G z_enumerate, PySem.W.mg_none_of X G z_abs, PySem.W.mg_none_of X G z_max, PySem.W.mg_none_of X G z_min, PySem.W.mg_none_of X G z_sum, PySem.W.mg_none_of X G z_all, PySem.W.mg_none_of X G z_any, PySem.W.mg_none_of X G z_sorted, PySem.W.mg_none_of X G z_isinstance, PySem.W.mg_none_of X G z_int, PySem.W.mg_none_of X G z_bool, PySem.W.mg_none_of X G z_str, PySem.W.mg_none_of X G z_set⟩
  obtain ⟨ad_is_whole, fd_is_whole, F_is_whole, g_is_whole⟩ := d_is_whole.ex X G
  have B_is_whole := F_is_whole.binds (ps := ["thing"]) fun _ _ _ _ _ _ us hl => match us, hl with | [_], _ => rfl
  obtain ⟨ad_moves_of, fd_moves_of, F_moves_of, g_moves_of⟩ := d_moves_of.ex X G
  have B_moves_of := F_moves_of.binds (ps := ["game", "place"]) fun _ _ _ _ _ _ us hl => match us, hl with | [_, _], _ => rfl
  obtain ⟨ad_order_of, fd_order_of, F_order_of, g_order_of⟩ := d_order_of.ex X G
  have B_order_of := F_order_of.binds (ps := ["game"]) fun _ _ _ _ _ _ us hl => match us, hl with | [_], _ => rfl
  obtain ⟨ad_gathered, fd_gathered, F_gathered, g_gathered⟩ := d_gathered.ex X G
  have B_gathered := F_gathered.binds (ps := ["game", "ends", "put"]) fun _ _ _ _ _ _ us hl => match us, hl with | [_, _, _], _ => rfl
  obtain ⟨ad_lines, fd_lines, F_lines, g_lines⟩ := d_lines.ex X G
  have B_lines := F_lines.binds (ps := ["game", "place"]) fun _ _ _ _ _ _ us hl => match us, hl with | [_, _], _ => rfl
  obtain ⟨ad_turned, fd_turned, F_turned, g_turned⟩ := d_turned.ex X G
  have B_turned := F_turned.binds (ps := ["game"]) fun _ _ _ _ _ _ us hl => match us, hl with | [_], _ => rfl
  obtain ⟨ad_is_paper, fd_is_paper, F_is_paper, g_is_paper⟩ := d_is_paper.ex X G
  have B_is_paper := F_is_paper.binds (ps := ["game", "place", "goal", "thing"]) fun _ _ _ _ _ _ us hl => match us, hl with | [_, _, _, _], _ => rfl
  obtain ⟨ad_is_paper_against, fd_is_paper_against, F_is_paper_against, g_is_paper_against⟩ := d_is_paper_against.ex X G
  have B_is_paper_against := F_is_paper_against.binds (ps := ["game", "place", "goal", "thing"]) fun _ _ _ _ _ _ us hl => match us, hl with | [_, _, _, _], _ => rfl
  obtain ⟨ad_ends_in, fd_ends_in, F_ends_in, g_ends_in⟩ := d_ends_in.ex X G
  have B_ends_in := F_ends_in.binds (ps := ["paper"]) fun _ _ _ _ _ _ us hl => match us, hl with | [_], _ => rfl
  obtain ⟨ad_all_papers, fd_all_papers, F_all_papers, g_all_papers⟩ := d_all_papers.ex X G
  have B_all_papers := F_all_papers.binds (ps := ["game", "goal", "choose"]) fun _ _ _ _ _ _ us hl => match us, hl with | [_, _, _], _ => rfl
  obtain ⟨ad_paper_for, fd_paper_for, F_paper_for, g_paper_for⟩ := d_paper_for.ex X G
  have B_paper_for := F_paper_for.binds (ps := ["game", "place", "goal"]) fun _ _ _ _ _ _ us hl => match us, hl with | [_, _, _], _ => rfl
  obtain ⟨ad_paper_against, fd_paper_against, F_paper_against, g_paper_against⟩ := d_paper_against.ex X G
  have B_paper_against := F_paper_against.binds (ps := ["game", "place", "goal"]) fun _ _ _ _ _ _ us hl => match us, hl with | [_, _, _], _ => rfl
  obtain ⟨ad_papers_in_all, fd_papers_in_all, F_papers_in_all, g_papers_in_all⟩ := d_papers_in_all.ex X G
  have B_papers_in_all := F_papers_in_all.binds (ps := ["game", "place", "goal"]) fun _ _ _ _ _ _ us hl => match us, hl with | [_, _, _], _ => rfl
  obtain ⟨ad_least_paper, fd_least_paper, F_least_paper, g_least_paper⟩ := d_least_paper.ex X G
  have B_least_paper := F_least_paper.binds (ps := ["game", "place", "goal"]) fun _ _ _ _ _ _ us hl => match us, hl with | [_, _, _], _ => rfl
  obtain ⟨ad_fewest_ends, fd_fewest_ends, F_fewest_ends, g_fewest_ends⟩ := d_fewest_ends.ex X G
  have B_fewest_ends := F_fewest_ends.binds (ps := ["game", "place", "goal"]) fun _ _ _ _ _ _ us hl => match us, hl with | [_, _, _], _ => rfl
  obtain ⟨ad_choice, fd_choice, F_choice, g_choice⟩ := d_choice.ex X G
  have B_choice := F_choice.binds (ps := ["side", "row"]) fun _ _ _ _ _ _ us hl => match us, hl with | [_, _], _ => rfl
  obtain ⟨ad_worths, fd_worths, F_worths, g_worths⟩ := d_worths.ex X G
  have B_worths := F_worths.binds (ps := ["game"]) fun _ _ _ _ _ _ us hl => match us, hl with | [_], _ => rfl
  obtain ⟨ad_l_draw, fd_l_draw, F_l_draw, g_l_draw⟩ := d_l_draw.ex X G
  have B_l_draw := F_l_draw.binds (ps := ["_law_script", "_law_town", "_law_many"]) fun _ _ _ _ _ _ us hl => match us, hl with | [_, _, _], _ => rfl
  obtain ⟨ad_l_pick, fd_l_pick, F_l_pick, g_l_pick⟩ := d_l_pick.ex X G
  have B_l_pick := F_l_pick.binds (ps := ["_law_script", "_law_town", "_law_some"]) fun _ _ _ _ _ _ us hl => match us, hl with | [_, _, _], _ => rfl
  obtain ⟨ad_l_mixed, fd_l_mixed, F_l_mixed, g_l_mixed⟩ := d_l_mixed.ex X G
  have B_l_mixed := F_l_mixed.binds (ps := ["_law_script", "_law_town", "_law_things"]) fun _ _ _ _ _ _ us hl => match us, hl with | [_, _, _], _ => rfl
  obtain ⟨ad_l_drawn_worth, fd_l_drawn_worth, F_l_drawn_worth, g_l_drawn_worth⟩ := d_l_drawn_worth.ex X G
  have B_l_drawn_worth := F_l_drawn_worth.binds (ps := ["_law_script", "_law_town"]) fun _ _ _ _ _ _ us hl => match us, hl with | [_, _], _ => rfl
  obtain ⟨ad_l_straight, fd_l_straight, F_l_straight, g_l_straight⟩ := d_l_straight.ex X G
  have B_l_straight := F_l_straight.binds (ps := ["_law_script", "_law_town", "_law_many"]) fun _ _ _ _ _ _ us hl => match us, hl with | [_, _, _], _ => rfl
  obtain ⟨ad_l_is_paper, fd_l_is_paper, F_l_is_paper, g_l_is_paper⟩ := d_l_is_paper.ex X G
  have B_l_is_paper := F_l_is_paper.binds (ps := ["_law_game", "_law_place", "_law_goal", "_law_thing", "_law_hand"]) fun _ _ _ _ _ _ us hl => match us, hl with | [_, _, _, _, _], _ => rfl
  obtain ⟨ad_l_ends, fd_l_ends, F_l_ends, g_l_ends⟩ := d_l_ends.ex X G
  have B_l_ends := F_l_ends.binds (ps := ["_law_paper"]) fun _ _ _ _ _ _ us hl => match us, hl with | [_], _ => rfl
  obtain ⟨ad_l_drawn_goal, fd_l_drawn_goal, F_l_drawn_goal, g_l_drawn_goal⟩ := d_l_drawn_goal.ex X G
  have B_l_drawn_goal := F_l_drawn_goal.binds (ps := ["_law_script", "_law_town", "_law_worth"]) fun _ _ _ _ _ _ us hl => match us, hl with | [_, _, _], _ => rfl
  obtain ⟨ad_l_play, fd_l_play, F_l_play, g_l_play⟩ := d_l_play.ex X G
  have B_l_play := F_l_play.binds (ps := ["_law_script", "_law_town", "_law_game", "_law_place", "_law_paper", "_law_hand"]) fun _ _ _ _ _ _ us hl => match us, hl with | [_, _, _, _, _, _], _ => rfl
  obtain ⟨ad_l_goal_holds, fd_l_goal_holds, F_l_goal_holds, g_l_goal_holds⟩ := d_l_goal_holds.ex X G
  have B_l_goal_holds := F_l_goal_holds.binds (ps := ["_law_script", "_law_town", "_law_game", "_law_place", "_law_goal", "_law_worth"]) fun _ _ _ _ _ _ us hl => match us, hl with | [_, _, _, _, _, _], _ => rfl
  obtain ⟨f, oc, od, kV, dc, pm, an, cd, ct, sl, a, l, c, kk⟩ := d_law.at_
  have e := hfa.symm.trans (PySem.W.mg_of X G a)
  cases e
  have hc_lines : fd_lines.code = .ref cc_lines := code_of X G F_lines g_lines t_lines
  have hc_paper_for : fd_paper_for.code = .ref cc_paper_for := code_of X G F_paper_for g_paper_for t_paper_for
  have hc_least_paper : fd_least_paper.code = .ref cc_least_paper := code_of X G F_least_paper g_least_paper t_least_paper
  refine ⟨PySem.W.fnOf "law" "law" (defArgs s_law) (defBody s_law) (defScope s_law) .none kV dc pm an cd ct, [("lines", cc_lines, tt_lines), ("paper_for", cc_paper_for, tt_paper_for), ("least_paper", cc_least_paper, tt_least_paper)], NTB, (by
    intro p hp
    simp only [List.mem_cons, List.not_mem_nil, or_false] at hp
    rcases hp with rfl | rfl | rfl
    · exact ⟨t_lines, _, r_lines⟩
    · exact ⟨t_paper_for, _, r_paper_for⟩
    · exact ⟨t_least_paper, _, r_least_paper⟩), fun s v => .of_eq rfl, fun base _ _ TBS => ?_⟩
  have a_ends_in : ∀ n, Cal P w K mg base (0 + n) "ends_in" ["paper"] (spG (kX P w K mg base (43 + 1) (tabsOf [("lines", cc_lines, tt_lines), ("paper_for", cc_paper_for, tt_paper_for), ("least_paper", cc_least_paper, tt_least_paper)])) 1 (Sm.r_ends_in n)) := fun n => by
    induction n with
    | zero => exact cal_zero g_ends_in F_ends_in.kp B_ends_in _
    | succ n ih => exact ⟨ad_ends_in, fd_ends_in, ok_ends_in (k := 0 + n) F_ends_in B ih, g_ends_in, F_ends_in.kp, B_ends_in⟩
  have e_ends_in : Cal P w K mg base 40 "ends_in" ["paper"] (spG (kX P w K mg base (43 + 1) (tabsOf [("lines", cc_lines, tt_lines), ("paper_for", cc_paper_for, tt_paper_for), ("least_paper", cc_least_paper, tt_least_paper)])) 1 f_ends_in) := a_ends_in 40
  have e_is_whole : Cal P w K mg base 1 "is_whole" ["thing"] (spG (kX P w K mg base (43 + 1) (tabsOf [("lines", cc_lines, tt_lines), ("paper_for", cc_paper_for, tt_paper_for), ("least_paper", cc_least_paper, tt_least_paper)])) 1 f_is_whole) := ⟨ad_is_whole, fd_is_whole, ok_is_whole (k := 0) F_is_whole B , g_is_whole, F_is_whole.kp, B_is_whole⟩
  have e_moves_of : Cal P w K mg base 1 "moves_of" ["game", "place"] (spG (kX P w K mg base (43 + 1) (tabsOf [("lines", cc_lines, tt_lines), ("paper_for", cc_paper_for, tt_paper_for), ("least_paper", cc_least_paper, tt_least_paper)])) 2 f_moves_of) := ⟨ad_moves_of, fd_moves_of, ok_moves_of (k := 0) F_moves_of B , g_moves_of, F_moves_of.kp, B_moves_of⟩
  have e_order_of : Cal P w K mg base 2 "order_of" ["game"] (spG (kX P w K mg base (43 + 1) (tabsOf [("lines", cc_lines, tt_lines), ("paper_for", cc_paper_for, tt_paper_for), ("least_paper", cc_least_paper, tt_least_paper)])) 1 f_order_of) := ⟨ad_order_of, fd_order_of, ok_order_of (k := 1) F_order_of B (e_moves_of.mono (by decide)), g_order_of, F_order_of.kp, B_order_of⟩
  have e_gathered : Cal P w K mg base 45 "gathered" ["game", "ends", "put"] (spG (kX P w K mg base (43 + 1) (tabsOf [("lines", cc_lines, tt_lines), ("paper_for", cc_paper_for, tt_paper_for), ("least_paper", cc_least_paper, tt_least_paper)])) 3 f_gathered) := ⟨ad_gathered, fd_gathered, ok_gathered (k := 44) F_gathered B (e_order_of.mono (by decide)) (e_moves_of.mono (by decide)) (by decide), g_gathered, F_gathered.kp, B_gathered⟩
  have e_lines : Cal P w K mg base 46 "lines" ["game", "place"] (spG (kX P w K mg base (43 + 1) (tabsOf [("lines", cc_lines, tt_lines), ("paper_for", cc_paper_for, tt_paper_for), ("least_paper", cc_least_paper, tt_least_paper)])) 2 f_lines) := ⟨ad_lines, fd_lines, ok_lines (k := 45) F_lines B hc_lines (tabAt_of TBS NDS (p := ("lines", cc_lines, tt_lines)) (by simp)) (e_gathered.mono (by decide)), g_lines, F_lines.kp, B_lines⟩
  have e_turned : Cal P w K mg base 1 "turned" ["game"] (spG (kX P w K mg base (43 + 1) (tabsOf [("lines", cc_lines, tt_lines), ("paper_for", cc_paper_for, tt_paper_for), ("least_paper", cc_least_paper, tt_least_paper)])) 1 f_turned) := ⟨ad_turned, fd_turned, ok_turned (k := 0) F_turned B , g_turned, F_turned.kp, B_turned⟩
  have a_is_paper : ∀ n, Cal P w K mg base (1 + n) "is_paper" ["game", "place", "goal", "thing"] (spG (kX P w K mg base (43 + 1) (tabsOf [("lines", cc_lines, tt_lines), ("paper_for", cc_paper_for, tt_paper_for), ("least_paper", cc_least_paper, tt_least_paper)])) 4 (Sm.r_is_paper n)) := fun n => by
    induction n with
    | zero => exact cal_zero g_is_paper F_is_paper.kp B_is_paper _
    | succ n ih => exact ⟨ad_is_paper, fd_is_paper, ok_is_paper (k := 1 + n) F_is_paper B (e_is_whole.mono (Nat.le_trans (by decide) (Nat.le_add_right _ _))) ih, g_is_paper, F_is_paper.kp, B_is_paper⟩
  have e_is_paper : Cal P w K mg base 41 "is_paper" ["game", "place", "goal", "thing"] (spG (kX P w K mg base (43 + 1) (tabsOf [("lines", cc_lines, tt_lines), ("paper_for", cc_paper_for, tt_paper_for), ("least_paper", cc_least_paper, tt_least_paper)])) 4 f_is_paper) := a_is_paper 40
  have e_is_paper_against : Cal P w K mg base 42 "is_paper_against" ["game", "place", "goal", "thing"] (spG (kX P w K mg base (43 + 1) (tabsOf [("lines", cc_lines, tt_lines), ("paper_for", cc_paper_for, tt_paper_for), ("least_paper", cc_least_paper, tt_least_paper)])) 4 f_is_paper_against) := ⟨ad_is_paper_against, fd_is_paper_against, ok_is_paper_against (k := 41) F_is_paper_against B (e_is_paper.mono (by decide)) (e_turned.mono (by decide)), g_is_paper_against, F_is_paper_against.kp, B_is_paper_against⟩
  have e_all_papers : Cal P w K mg base 45 "all_papers" ["game", "goal", "choose"] (spG (kX P w K mg base (43 + 1) (tabsOf [("lines", cc_lines, tt_lines), ("paper_for", cc_paper_for, tt_paper_for), ("least_paper", cc_least_paper, tt_least_paper)])) 3 f_all_papers) := ⟨ad_all_papers, fd_all_papers, ok_all_papers (k := 44) F_all_papers B (e_order_of.mono (by decide)) (e_moves_of.mono (by decide)) (by decide), g_all_papers, F_all_papers.kp, B_all_papers⟩
  have e_paper_for : Cal P w K mg base 46 "paper_for" ["game", "place", "goal"] (spG (kX P w K mg base (43 + 1) (tabsOf [("lines", cc_lines, tt_lines), ("paper_for", cc_paper_for, tt_paper_for), ("least_paper", cc_least_paper, tt_least_paper)])) 3 f_paper_for) := ⟨ad_paper_for, fd_paper_for, ok_paper_for (k := 45) F_paper_for B hc_paper_for (tabAt_of TBS NDS (p := ("paper_for", cc_paper_for, tt_paper_for)) (by simp)) (e_all_papers.mono (by decide)), g_paper_for, F_paper_for.kp, B_paper_for⟩
  have e_paper_against : Cal P w K mg base 47 "paper_against" ["game", "place", "goal"] (spG (kX P w K mg base (43 + 1) (tabsOf [("lines", cc_lines, tt_lines), ("paper_for", cc_paper_for, tt_paper_for), ("least_paper", cc_least_paper, tt_least_paper)])) 3 f_paper_against) := ⟨ad_paper_against, fd_paper_against, ok_paper_against (k := 46) F_paper_against B (e_paper_for.mono (by decide)) (e_turned.mono (by decide)), g_paper_against, F_paper_against.kp, B_paper_against⟩
  have e_papers_in_all : Cal P w K mg base 3 "papers_in_all" ["game", "place", "goal"] (spG (kX P w K mg base (43 + 1) (tabsOf [("lines", cc_lines, tt_lines), ("paper_for", cc_paper_for, tt_paper_for), ("least_paper", cc_least_paper, tt_least_paper)])) 3 f_papers_in_all) := ⟨ad_papers_in_all, fd_papers_in_all, ok_papers_in_all (k := 2) F_papers_in_all B (e_order_of.mono (by decide)), g_papers_in_all, F_papers_in_all.kp, B_papers_in_all⟩
  have e_least_paper : Cal P w K mg base 46 "least_paper" ["game", "place", "goal"] (spG (kX P w K mg base (43 + 1) (tabsOf [("lines", cc_lines, tt_lines), ("paper_for", cc_paper_for, tt_paper_for), ("least_paper", cc_least_paper, tt_least_paper)])) 3 f_least_paper) := ⟨ad_least_paper, fd_least_paper, ok_least_paper (k := 45) F_least_paper B hc_least_paper (tabAt_of TBS NDS (p := ("least_paper", cc_least_paper, tt_least_paper)) (by simp)) (e_all_papers.mono (by decide)) (e_ends_in.mono (by decide)) e_ends_in (by decide), g_least_paper, F_least_paper.kp, B_least_paper⟩
  have e_fewest_ends : Cal P w K mg base 47 "fewest_ends" ["game", "place", "goal"] (spG (kX P w K mg base (43 + 1) (tabsOf [("lines", cc_lines, tt_lines), ("paper_for", cc_paper_for, tt_paper_for), ("least_paper", cc_least_paper, tt_least_paper)])) 3 f_fewest_ends) := ⟨ad_fewest_ends, fd_fewest_ends, ok_fewest_ends (k := 46) F_fewest_ends B (e_least_paper.mono (by decide)) (e_ends_in.mono (by decide)), g_fewest_ends, F_fewest_ends.kp, B_fewest_ends⟩
  have e_choice : Cal P w K mg base 1 "choice" ["side", "row"] (spG (kX P w K mg base (43 + 1) (tabsOf [("lines", cc_lines, tt_lines), ("paper_for", cc_paper_for, tt_paper_for), ("least_paper", cc_least_paper, tt_least_paper)])) 2 f_choice) := ⟨ad_choice, fd_choice, ok_choice (k := 0) F_choice B , g_choice, F_choice.kp, B_choice⟩
  have e_worths : Cal P w K mg base 3 "worths" ["game"] (spG (kX P w K mg base (43 + 1) (tabsOf [("lines", cc_lines, tt_lines), ("paper_for", cc_paper_for, tt_paper_for), ("least_paper", cc_least_paper, tt_least_paper)])) 1 f_worths) := ⟨ad_worths, fd_worths, ok_worths (k := 2) F_worths B (e_order_of.mono (by decide)) (e_choice.mono (by decide)), g_worths, F_worths.kp, B_worths⟩
  have e_l_draw : Cal P w K mg base 1 "_law_draw" ["_law_script", "_law_town", "_law_many"] (spG (kX P w K mg base (43 + 1) (tabsOf [("lines", cc_lines, tt_lines), ("paper_for", cc_paper_for, tt_paper_for), ("least_paper", cc_least_paper, tt_least_paper)])) 3 f_l_draw) := ⟨ad_l_draw, fd_l_draw, ok_l_draw (k := 0) F_l_draw B , g_l_draw, F_l_draw.kp, B_l_draw⟩
  have e_l_pick : Cal P w K mg base 2 "_law_pick" ["_law_script", "_law_town", "_law_some"] (spG (kX P w K mg base (43 + 1) (tabsOf [("lines", cc_lines, tt_lines), ("paper_for", cc_paper_for, tt_paper_for), ("least_paper", cc_least_paper, tt_least_paper)])) 3 f_l_pick) := ⟨ad_l_pick, fd_l_pick, ok_l_pick (k := 1) F_l_pick B (e_l_draw.mono (by decide)), g_l_pick, F_l_pick.kp, B_l_pick⟩
  have e_l_mixed : Cal P w K mg base 2 "_law_mixed" ["_law_script", "_law_town", "_law_things"] (spG (kX P w K mg base (43 + 1) (tabsOf [("lines", cc_lines, tt_lines), ("paper_for", cc_paper_for, tt_paper_for), ("least_paper", cc_least_paper, tt_least_paper)])) 3 f_l_mixed) := ⟨ad_l_mixed, fd_l_mixed, ok_l_mixed (k := 1) F_l_mixed B (e_l_draw.mono (by decide)), g_l_mixed, F_l_mixed.kp, B_l_mixed⟩
  have e_l_drawn_worth : Cal P w K mg base 3 "_law_drawn_worth" ["_law_script", "_law_town"] (spG (kX P w K mg base (43 + 1) (tabsOf [("lines", cc_lines, tt_lines), ("paper_for", cc_paper_for, tt_paper_for), ("least_paper", cc_least_paper, tt_least_paper)])) 2 f_l_drawn_worth) := ⟨ad_l_drawn_worth, fd_l_drawn_worth, ok_l_drawn_worth (k := 2) F_l_drawn_worth B (e_l_draw.mono (by decide)) (e_l_pick.mono (by decide)), g_l_drawn_worth, F_l_drawn_worth.kp, B_l_drawn_worth⟩
  have e_l_straight : Cal P w K mg base 4 "_law_straight" ["_law_script", "_law_town", "_law_many"] (spG (kX P w K mg base (43 + 1) (tabsOf [("lines", cc_lines, tt_lines), ("paper_for", cc_paper_for, tt_paper_for), ("least_paper", cc_least_paper, tt_least_paper)])) 3 f_l_straight) := ⟨ad_l_straight, fd_l_straight, ok_l_straight (k := 3) F_l_straight B (e_l_draw.mono (by decide)) (e_l_mixed.mono (by decide)) (e_l_drawn_worth.mono (by decide)), g_l_straight, F_l_straight.kp, B_l_straight⟩
  have a_l_is_paper : ∀ n, Cal P w K mg base (0 + n) "_law_is_paper" ["_law_game", "_law_place", "_law_goal", "_law_thing", "_law_hand"] (spG (kX P w K mg base (43 + 1) (tabsOf [("lines", cc_lines, tt_lines), ("paper_for", cc_paper_for, tt_paper_for), ("least_paper", cc_least_paper, tt_least_paper)])) 5 (Sm.r_l_is_paper n)) := fun n => by
    induction n with
    | zero => exact cal_zero g_l_is_paper F_l_is_paper.kp B_l_is_paper _
    | succ n ih => exact ⟨ad_l_is_paper, fd_l_is_paper, ok_l_is_paper (k := 0 + n) F_l_is_paper B ih, g_l_is_paper, F_l_is_paper.kp, B_l_is_paper⟩
  have e_l_is_paper : Cal P w K mg base 40 "_law_is_paper" ["_law_game", "_law_place", "_law_goal", "_law_thing", "_law_hand"] (spG (kX P w K mg base (43 + 1) (tabsOf [("lines", cc_lines, tt_lines), ("paper_for", cc_paper_for, tt_paper_for), ("least_paper", cc_least_paper, tt_least_paper)])) 5 f_l_is_paper) := a_l_is_paper 40
  have a_l_ends : ∀ n, Cal P w K mg base (0 + n) "_law_ends" ["_law_paper"] (spG (kX P w K mg base (43 + 1) (tabsOf [("lines", cc_lines, tt_lines), ("paper_for", cc_paper_for, tt_paper_for), ("least_paper", cc_least_paper, tt_least_paper)])) 1 (Sm.r_l_ends n)) := fun n => by
    induction n with
    | zero => exact cal_zero g_l_ends F_l_ends.kp B_l_ends _
    | succ n ih => exact ⟨ad_l_ends, fd_l_ends, ok_l_ends (k := 0 + n) F_l_ends B ih, g_l_ends, F_l_ends.kp, B_l_ends⟩
  have e_l_ends : Cal P w K mg base 40 "_law_ends" ["_law_paper"] (spG (kX P w K mg base (43 + 1) (tabsOf [("lines", cc_lines, tt_lines), ("paper_for", cc_paper_for, tt_paper_for), ("least_paper", cc_least_paper, tt_least_paper)])) 1 f_l_ends) := a_l_ends 40
  have e_l_drawn_goal : Cal P w K mg base 3 "_law_drawn_goal" ["_law_script", "_law_town", "_law_worth"] (spG (kX P w K mg base (43 + 1) (tabsOf [("lines", cc_lines, tt_lines), ("paper_for", cc_paper_for, tt_paper_for), ("least_paper", cc_least_paper, tt_least_paper)])) 3 f_l_drawn_goal_2) := ⟨ad_l_drawn_goal, fd_l_drawn_goal, ok_l_drawn_goal (k := 2) F_l_drawn_goal B (e_l_pick.mono (by decide)) (e_l_draw.mono (by decide)), g_l_drawn_goal, F_l_drawn_goal.kp, B_l_drawn_goal⟩
  have e_l_play : Cal P w K mg base 2 "_law_play" ["_law_script", "_law_town", "_law_game", "_law_place", "_law_paper", "_law_hand"] (spG (kX P w K mg base (43 + 1) (tabsOf [("lines", cc_lines, tt_lines), ("paper_for", cc_paper_for, tt_paper_for), ("least_paper", cc_least_paper, tt_least_paper)])) 6 f_l_play) := ⟨ad_l_play, fd_l_play, ok_l_play (k := 1) F_l_play B (e_l_draw.mono (by decide)), g_l_play, F_l_play.kp, B_l_play⟩
  have e_l_goal_holds : Cal P w K mg base 48 "_law_goal_holds" ["_law_script", "_law_town", "_law_game", "_law_place", "_law_goal", "_law_worth"] (spG (kX P w K mg base (43 + 1) (tabsOf [("lines", cc_lines, tt_lines), ("paper_for", cc_paper_for, tt_paper_for), ("least_paper", cc_least_paper, tt_least_paper)])) 6 f_l_goal_holds) := ⟨ad_l_goal_holds, fd_l_goal_holds, ok_l_goal_holds (k := 47) F_l_goal_holds B (e_paper_for.mono (by decide)) (e_paper_against.mono (by decide)) (e_l_is_paper.mono (by decide)) (e_is_paper_against.mono (by decide)) (e_is_paper.mono (by decide)) (e_l_play.mono (by decide)) (e_l_ends.mono (by decide)) (e_ends_in.mono (by decide)) (e_lines.mono (by decide)) (e_least_paper.mono (by decide)) (e_fewest_ends.mono (by decide)) (e_papers_in_all.mono (by decide)) (e_turned.mono (by decide)), g_l_goal_holds, F_l_goal_holds.kp, B_l_goal_holds⟩
  exact law_ofT (F := f_law_k19) (ok_law (k := 48) (fun_mk l c kk) B (e_l_straight.mono (by decide)) (e_l_draw.mono (by decide)) (e_worths.mono (by decide)) (e_l_goal_holds.mono (by decide)) (e_l_drawn_goal.mono (by decide))) law_true
end W
open PySem PySem.W PyProof.Rows
set_option maxRecDepth 100000 in
set_option maxHeartbeats 0 in
theorem PySem.Challenge.cw_searchduel_k19_whole_for_or_against_holds : PySem.Challenge.rw_searchduel_k19_whole_for_or_against.Holds := by
  w_on; o_law; k_head; (case hw => w_witness2)
  k_fill
  refine Sm.walkT (l := PySem.Challenge.rw_searchduel_k19_whole_for_or_against) (k := 49) (x := "_law_script") rfl rfl ⟨rfl, by decide, by decide⟩ (fun w h Y => PySem.W.km_in_of Y) ?F
  case F =>
    intro w mg fa h KX G hmg
    refine' W.law_all KX G hmg (W.def_at ?a_is_whole ?l_is_whole ?c_is_whole ?k_is_whole) (W.def_at ?a_moves_of ?l_moves_of ?c_moves_of ?k_moves_of) (W.def_at ?a_order_of ?l_order_of ?c_order_of ?k_order_of) (W.def_at ?a_gathered ?l_gathered ?c_gathered ?k_gathered) (W.def_at ?a_lines ?l_lines ?c_lines ?k_lines) (W.def_at ?a_turned ?l_turned ?c_turned ?k_turned) (W.def_at ?a_is_paper ?l_is_paper ?c_is_paper ?k_is_paper) (W.def_at ?a_is_paper_against ?l_is_paper_against ?c_is_paper_against ?k_is_paper_against) (W.def_at ?a_ends_in ?l_ends_in ?c_ends_in ?k_ends_in) (W.def_at ?a_all_papers ?l_all_papers ?c_all_papers ?k_all_papers) (W.def_at ?a_paper_for ?l_paper_for ?c_paper_for ?k_paper_for) (W.def_at ?a_paper_against ?l_paper_against ?c_paper_against ?k_paper_against) (W.def_at ?a_papers_in_all ?l_papers_in_all ?c_papers_in_all ?k_papers_in_all) (W.def_at ?a_least_paper ?l_least_paper ?c_least_paper ?k_least_paper) (W.def_at ?a_fewest_ends ?l_fewest_ends ?c_fewest_ends ?k_fewest_ends) (W.def_at ?a_choice ?l_choice ?c_choice ?k_choice) (W.def_at ?a_worths ?l_worths ?c_worths ?k_worths) (W.def_at ?a_l_draw ?l_l_draw ?c_l_draw ?k_l_draw) (W.def_at ?a_l_pick ?l_l_pick ?c_l_pick ?k_l_pick) (W.def_at ?a_l_mixed ?l_l_mixed ?c_l_mixed ?k_l_mixed) (W.def_at ?a_l_drawn_worth ?l_l_drawn_worth ?c_l_drawn_worth ?k_l_drawn_worth) (W.def_at ?a_l_straight ?l_l_straight ?c_l_straight ?k_l_straight) (W.def_at ?a_l_is_paper ?l_l_is_paper ?c_l_is_paper ?k_l_is_paper) (W.def_at ?a_l_ends ?l_l_ends ?c_l_ends ?k_l_ends) (W.def_at ?a_l_drawn_goal ?l_l_drawn_goal ?c_l_drawn_goal ?k_l_drawn_goal) (W.def_at ?a_l_play ?l_l_play ?c_l_play ?k_l_play) (W.def_at ?a_l_goal_holds ?l_l_goal_holds ?c_l_goal_holds ?k_l_goal_holds) (W.def_at ?a_law ?l_law ?c_law ?k_law)  ?z_len ?z_list ?z_tuple ?z_range ?z_zip ?z_enumerate ?z_abs ?z_max ?z_min ?z_sum ?z_all ?z_any ?z_sorted ?z_isinstance ?z_int ?z_bool ?z_str ?z_set (Sm.tab_in ?ta_lines ?tl_lines ?th_lines ?tc_lines ?tv_lines) ?r_lines (Sm.tab_in ?ta_paper_for ?tl_paper_for ?th_paper_for ?tc_paper_for ?tv_paper_for) ?r_paper_for (Sm.tab_in ?ta_least_paper ?tl_least_paper ?th_least_paper ?tc_least_paper ?tv_least_paper) ?r_least_paper ?no ?nd
    (case a_is_whole => k_is); (case l_is_whole => k_is); (case c_is_whole => k_is); (case k_is_whole => k_is)
    (case a_moves_of => k_is); (case l_moves_of => k_is); (case c_moves_of => k_is); (case k_moves_of => k_is)
    (case a_order_of => k_is); (case l_order_of => k_is); (case c_order_of => k_is); (case k_order_of => k_is)
    (case a_gathered => k_is); (case l_gathered => k_is); (case c_gathered => k_is); (case k_gathered => k_is)
    (case a_lines => k_is); (case l_lines => k_is); (case c_lines => k_is); (case k_lines => k_is)
    (case a_turned => k_is); (case l_turned => k_is); (case c_turned => k_is); (case k_turned => k_is)
    (case a_is_paper => k_is); (case l_is_paper => k_is); (case c_is_paper => k_is); (case k_is_paper => k_is)
    (case a_is_paper_against => k_is); (case l_is_paper_against => k_is); (case c_is_paper_against => k_is); (case k_is_paper_against => k_is)
    (case a_ends_in => k_is); (case l_ends_in => k_is); (case c_ends_in => k_is); (case k_ends_in => k_is)
    (case a_all_papers => k_is); (case l_all_papers => k_is); (case c_all_papers => k_is); (case k_all_papers => k_is)
    (case a_paper_for => k_is); (case l_paper_for => k_is); (case c_paper_for => k_is); (case k_paper_for => k_is)
    (case a_paper_against => k_is); (case l_paper_against => k_is); (case c_paper_against => k_is); (case k_paper_against => k_is)
    (case a_papers_in_all => k_is); (case l_papers_in_all => k_is); (case c_papers_in_all => k_is); (case k_papers_in_all => k_is)
    (case a_least_paper => k_is); (case l_least_paper => k_is); (case c_least_paper => k_is); (case k_least_paper => k_is)
    (case a_fewest_ends => k_is); (case l_fewest_ends => k_is); (case c_fewest_ends => k_is); (case k_fewest_ends => k_is)
    (case a_choice => k_is); (case l_choice => k_is); (case c_choice => k_is); (case k_choice => k_is)
    (case a_worths => k_is); (case l_worths => k_is); (case c_worths => k_is); (case k_worths => k_is)
    (case a_l_draw => k_is); (case l_l_draw => k_is); (case c_l_draw => k_is); (case k_l_draw => k_is)
    (case a_l_pick => k_is); (case l_l_pick => k_is); (case c_l_pick => k_is); (case k_l_pick => k_is)
    (case a_l_mixed => k_is); (case l_l_mixed => k_is); (case c_l_mixed => k_is); (case k_l_mixed => k_is)
    (case a_l_drawn_worth => k_is); (case l_l_drawn_worth => k_is); (case c_l_drawn_worth => k_is); (case k_l_drawn_worth => k_is)
    (case a_l_straight => k_is); (case l_l_straight => k_is); (case c_l_straight => k_is); (case k_l_straight => k_is)
    (case a_l_is_paper => k_is); (case l_l_is_paper => k_is); (case c_l_is_paper => k_is); (case k_l_is_paper => k_is)
    (case a_l_ends => k_is); (case l_l_ends => k_is); (case c_l_ends => k_is); (case k_l_ends => k_is)
    (case a_l_drawn_goal => k_is); (case l_l_drawn_goal => k_is); (case c_l_drawn_goal => k_is); (case k_l_drawn_goal => k_is)
    (case a_l_play => k_is); (case l_l_play => k_is); (case c_l_play => k_is); (case k_l_play => k_is)
    (case a_l_goal_holds => k_is); (case l_l_goal_holds => k_is); (case c_l_goal_holds => k_is); (case k_l_goal_holds => k_is)
    (case a_law => k_is); (case l_law => k_is); (case c_law => k_is); (case k_law => k_is)
    (case z_len => k_is); (case z_list => k_is); (case z_tuple => k_is); (case z_range => k_is); (case z_zip => k_is); (case z_enumerate => k_is); (case z_abs => k_is); (case z_max => k_is); (case z_min => k_is); (case z_sum => k_is); (case z_all => k_is); (case z_any => k_is); (case z_sorted => k_is); (case z_isinstance => k_is); (case z_int => k_is); (case z_bool => k_is); (case z_str => k_is); (case z_set => k_is)
    (case ta_lines => k_is); (case tl_lines => k_is); (case th_lines => exact rfl); (case tc_lines => k_is); (case tv_lines => exact rfl)
    (case ta_paper_for => k_is); (case tl_paper_for => k_is); (case th_paper_for => exact rfl); (case tc_paper_for => k_is); (case tv_paper_for => exact rfl)
    (case ta_least_paper => k_is); (case tl_least_paper => k_is); (case th_least_paper => exact rfl); (case tc_least_paper => k_is); (case tv_least_paper => exact rfl)
    (case r_lines => exact rfl); (case r_paper_for => exact rfl); (case r_least_paper => exact rfl)
    (case no => kernel_rfl); (case nd => decide)

