import PyProof.Rows.All
import Wide.All
import OpenK.AllK
import Wide.FinOn
import HandS.ExcInit
import HandS.ExcField
import HandS.HeadHook1
import HandS.HeadHook4
import OpenK.KCls
import KE.KIsAll
import HandS.ForMost
import HandS.Walk
import HandS.Zip
import HandS.Conv
import HandS.Deep
import HandS.IsInst
import HandS.TupAny
import HandS.TupMul
import HandS.SortInts
import HandS.Flow
import HandS.DictComp
import HandS.Style
import HandS.Defaults
import KE.KUnpackStar
import HandS.Slots
import HandS.Lambda
import HandS.CallLocal
import HandS.Nested
import KE.SortKeyHeap
import HandS.ExcValue
import HandS.SortKw
import PyProof.TupleOfSeq
import KE.GoesEnum
import KE.GoesMore
import HandS.Set
import HandS.SetBool
import HandS.SetFor
import HandS.TupSets
import KE.KDictKeyed
import KE.KeyNested
import KE.KDictList
import PyProof.Rows.TupDisplay
import KE.SortData
import KE.DataMinMax
import HandS.Strs
import KE.KDictCopyH
import KE.DataMinKey
import HandS.WordsDict
import HandS.SortRule
import HandS.EndTab
import HandS.MakeKwOnly
import HandS.Head0
import HandS.Head1
import HandS.Head2
import HandS.HeadHook2
import HandS.HeadHook3
import HandS.HeadWalk
import KE.KNestM
import HandS.Exc
import HandS.ExcOwn
import HandS.TryOnly
import HandS.WordsExc
import HandS.Finally
import HandS.FStr
import KE.KCallOwn
import HandS.Text
import KE.KIntText
import KE.KListMore
import HandS.OwnEq
import HandS.ListItems
import PySem.Challenge.RW_searchduel_k14_whole_equal_tables
set_option Elab.async false
set_option linter.all false
set_option maxRecDepth 100000
set_option maxHeartbeats 2000000
namespace Sm
open PySem PySem.Spec PyProof.Rows L2
def tupE (K : PySem.W.Frag) (a : Addr) : Bool := match K.lookup a with
  | some ⟨.type c, _, .seq its _, _⟩ => decide (c = "tuple") && decide (its.size = 0)
  | _ => false
def oexB (K : PySem.W.Frag) (C : Addr) : Bool := (match K.lookup C with
  | some ⟨.type "type", _, .cls cd, sl⟩ => (match cd.mro, sl.toList with
    | .ref C' :: bm, [_, _, _, _, some (.builtin n), _] => C' == C && (n == "ValueError.__new__" && (!cd.hasDel && (cd.hasDict && PySem.HandSPX.refsVE bm)))
    | _, _ => false)
  | _ => false) && (decide (PySem.W.findIn K (.ref C) "__setattr__" = some (some (.builtin "object.__setattr__"))) && (decide (PySem.W.subIn K (.ref C) (.type "BaseException") = some true) && (decide (PySem.W.typeIn K (.ref C) = some (.type "type")) && PySem.W.keepIn K (.ref C))))
theorem oexB_ok {K : PySem.W.Frag} {C : Addr} (h : oexB K C = true) : OexC K C := by
  unfold oexB at h
  rw [Bool.and_eq_true, Bool.and_eq_true, Bool.and_eq_true, Bool.and_eq_true, decide_eq_true_eq, decide_eq_true_eq, decide_eq_true_eq] at h
  obtain ⟨h1, h2, h3, h4, h5⟩ := h
  refine ⟨?_, h2, h3, h4, h5⟩
  split at h1
  · rename_i dd cd sl ho
    split at h1
    · rename_i C' bm k0 k1 k2 k3 n k5 hm hs
      simp only [Bool.and_eq_true, beq_iff_eq, Bool.not_eq_true'] at h1
      obtain ⟨rfl, rfl, hdel, hdi, hr⟩ := h1
      obtain ⟨nm, bs, mro, ns, qn, hd, sn, sub, ab, col, del⟩ := cd
      dsimp only at hm hdel hdi
      subst hm hdel hdi
      have hsl : sl = #[k0, k1, k2, k3, some (.builtin "ValueError.__new__"), k5] := by
        obtain ⟨l⟩ := sl
        simp only at hs
        rw [hs]
      subst hsl
      exact ⟨nm, qn, ns, bs, bm, sn, sub, ab, col, dd, k0, k1, k2, k3, k5, ho, hr⟩
    · cases h1
  · cases h1
def excFB (K : PySem.W.Frag) (C : Addr) (f : Str) : Bool := oexB K C && (xfB K C && (decide (PySem.W.findIn K (.ref C) "__init__" = some (some (.ref (He.ma K C "__init__")))) && (decide (PySem.W.typeIn K (.ref (He.ma K C "__init__")) = some (.type "function")) && decide (PySem.W.findIn K (.ref C) f = some none))))
def seB (K : PySem.W.Frag) (C : Addr) : Bool := PySem.W.readsIn K C (.type "type") && (decide (PySem.W.specialIn K (.ref C) "__getattribute__" = some (some (.builtin "type.__getattribute__"))) && (match PySem.W.findCls K (.ref C) (.type "type") "__init__" with
  | some (.val v) => decide (v = .builtin "ValueError.__init__")
  | _ => false))
theorem seB_ok {K : PySem.W.Frag} {C : Addr} (h : seB K C = true) : PySem.W.readsIn K C (.type "type") = true ∧ PySem.W.specialIn K (.ref C) "__getattribute__" = some (some (.builtin "type.__getattribute__")) ∧ PySem.W.findCls K (.ref C) (.type "type") "__init__" = some (.val (.builtin "ValueError.__init__")) := by
  unfold seB at h
  rw [Bool.and_eq_true, Bool.and_eq_true, decide_eq_true_eq] at h
  refine ⟨h.1, h.2.1, ?_⟩
  have h3 := h.2.2
  split at h3
  · rename_i v e
    rw [e, of_decide_eq_true h3]
  · cases h3
end Sm
namespace Dz
open PySem PySem.Spec PyProof.Rows L2
def frS (n : Nat) (g : Addr → Option Obj) : PySem.W.Frag := He.frT g (He.asD g n ++ [cStatics])
def obsS (n : Nat) (fa : List He.Fa) (fn : List He.DefD) (ts : List He.Tab) (tf : List He.Defn) (ex : PySem.W.Frag → Bool) (g : Addr → Option Obj) : He.AlX := (He.obsT fa fn ts (frS n g), ex (frS n g) && He.tabsB g tf (frS n g))
theorem saysS_of {n : Nat} {fa : List He.Fa} {fn : List He.DefD} {ts : List He.Tab} {tf : List He.Defn} {ex : PySem.W.Frag → Bool} {w : World} {h : Heap} (e : obsS n fa fn ts tf ex h.get? = He.valX fn ts w) : He.SaysX fa fn ts tf ex w h (frS n h.get?) := by
  have e2 : (ex (frS n h.get?) && He.tabsB h.get? tf (frS n h.get?)) = true := congrArg Prod.snd e
  rw [Bool.and_eq_true] at e2
  have q : ∀ p ∈ tf, PySem.W.codeHdIn (frS n h.get?) (He.cT (frS n h.get?) p).1 (He.cT (frS n h.get?) p).2 = true ∧ ∃ o, h.get? (He.cT (frS n h.get?) p).2 = some o ∧ He.emptyTab o = true := fun p hp => by
    have h1 := List.all_eq_true.mp e2.2 p hp
    rw [Bool.and_eq_true] at h1
    refine ⟨h1.1, ?_⟩
    have h2 := h1.2
    split at h2
    · rename_i o ho
      exact ⟨o, ho, h2⟩
    · cases h2
  refine ⟨congrArg Prod.fst e, e2.1, fun p hp => (q p hp).1, fun p hp => ?_, fun p hp => ?_⟩
  · obtain ⟨_, o, h1, h2⟩ := q p hp
    exact He.frT_none h1 h2
  · obtain ⟨_, o, h1, h2⟩ := q p hp
    rw [h1, He.emptyTab_eq h2]
def hookS (n : Nat) (fa : List He.Fa) (fn : List He.DefD) (ts : List He.Tab) (tf : List He.Defn) (ex : PySem.W.Frag → Bool) : PySem.W.Hook where
  α := He.AlX
  obs := fun s => obsS n fa fn ts tf ex s.heap.get?
  val := fun w => He.valX fn ts w
  says := fun w h => ∃ K : PySem.W.Frag, K.In h ∧ He.SaysX fa fn ts tf ex w h K
  of := fun _ _ e => ⟨_, He.frT_in, saysS_of e⟩
  keeps := (He.hookX n fa fn ts tf ex).keeps
theorem obsS_eq {n : Nat} {fa : List He.Fa} {fn : List He.DefD} {ts : List He.Tab} {tf : List He.Defn} {ex : PySem.W.Frag → Bool} {g : Addr → Option Obj} {s : Shared} (h : ∀ a, g a = s.heap.get? a) : obsS n fa fn ts tf ex g = (hookS n fa fn ts tf ex).obs s := by
  rw [show g = s.heap.get? from funext h]
  rfl
end Dz

namespace Sm
open PySem PySem.Spec PyProof.Rows L2
def eqFB (K : PySem.W.Frag) (C : Addr) : Bool :=
  PySem.W.notFirst K C (.ref C) && (PySem.W.notFirst K C (.type "tuple") && (PySem.W.notFirst K C (.type "int") && (PySem.W.notFirst K C (.type "str") &&
    (decide (PySem.W.findIn K (.ref C) "__ne__" = some (some (.builtin "object.__ne__"))) && (decide (PySem.W.subIn K (.ref C) (.type "object") = some true) &&
    (decide (PySem.W.findIn K (.ref C) "__class__" = some (some (.builtin "object.__class__"))) && (decide (PySem.W.specialIn K (.builtin "object.__class__") "__get__" = some (some (.builtin "getset_descriptor.__get__"))) &&
    (decide (PySem.W.takesIn K (.builtin "object.__class__") = some true) && (decide (PySem.W.mroIn K C (.type "object") = some true) &&
    (decide (PySem.W.kitOne K (.ref C) (.ref C) = some true) && (decide (PySem.W.kitOne K (.type "tuple") (.ref C) = some false) && (decide (PySem.W.kitOne K (.type "int") (.ref C) = some false) && decide (PySem.W.kitOne K (.type "str") (.ref C) = some false)))))))))))))
end Sm

namespace W
open PySem PySem.Spec PyProof.Rows L2 Sm
def top (i : Nat) : Stmt := PySem.Challenge.pw_searchduel_k14_whole_equal_tables.main.body.getD i (.Pass ⟨0, 0, 0, 0⟩)
abbrev s_Table_init_ : Stmt := inClass (top 2) 0
theorem sc_Table_init_ : FnScope ["self", "slots", "keeps"] ["self", "slots", "keeps"] (defScope s_Table_init_) := ⟨rfl, rfl, rfl, by decide +kernel, rfl, by decide +kernel, by decide +kernel⟩

abbrev s_Table_len_ : Stmt := inClass (top 2) 1
theorem sc_Table_len_ : FnScope ["self"] ["self"] (defScope s_Table_len_) := ⟨rfl, rfl, rfl, by decide +kernel, rfl, by decide +kernel, by decide +kernel⟩

abbrev s_Table_eq_ : Stmt := inClass (top 2) 2
theorem sc_Table_eq_ : FnScope ["self", "other"] ["self", "other"] (defScope s_Table_eq_) := ⟨rfl, rfl, rfl, by decide +kernel, rfl, by decide +kernel, by decide +kernel⟩

abbrev s_Table_str_ : Stmt := inClass (top 2) 3
theorem sc_Table_str_ : FnScope ["self"] ["self"] (defScope s_Table_str_) := ⟨rfl, rfl, rfl, by decide +kernel, rfl, by decide +kernel, by decide +kernel⟩

abbrev s_Table_put : Stmt := inClass (top 2) 4
theorem sc_Table_put : FnScope ["self", "place", "low", "high", "move", "depth", "slot"] ["self", "place", "low", "high", "move", "depth"] (defScope s_Table_put) := ⟨rfl, rfl, rfl, by decide +kernel, rfl, by decide +kernel, by decide +kernel⟩

abbrev s_Table_get : Stmt := inClass (top 2) 5
theorem sc_Table_get : FnScope ["self", "place", "row"] ["self", "place"] (defScope s_Table_get) := ⟨rfl, rfl, rfl, by decide +kernel, rfl, by decide +kernel, by decide +kernel⟩

abbrev s_Table_entries : Stmt := inClass (top 2) 7
theorem sc_Table_entries : FnScope ["self", "row"] ["self"] (defScope s_Table_entries) := ⟨rfl, rfl, rfl, by decide +kernel, rfl, by decide +kernel, by decide +kernel⟩

abbrev s_l_draw : Stmt := top 5
theorem sc_l_draw : FnScope ["_law_script", "_law_town", "_law_many", "_law_cell", "_law_k", "_law_digits", "_law_number", "_law_more"] ["_law_script", "_law_town", "_law_many"] (defScope s_l_draw) := ⟨rfl, rfl, rfl, by decide +kernel, rfl, by decide +kernel, by decide +kernel⟩

abbrev s_l_pick : Stmt := top 6
theorem sc_l_pick : FnScope ["_law_script", "_law_town", "_law_some"] ["_law_script", "_law_town", "_law_some"] (defScope s_l_pick) := ⟨rfl, rfl, rfl, by decide +kernel, rfl, by decide +kernel, by decide +kernel⟩

abbrev s_l_put : Stmt := top 7
theorem sc_l_put : FnScope ["_law_rows", "_law_many", "_law_keeping", "_law_row", "_law_place", "_law_deep", "_law_slot", "_law_old"] ["_law_rows", "_law_many", "_law_keeping", "_law_row"] (defScope s_l_put) := ⟨rfl, rfl, rfl, by decide +kernel, rfl, by decide +kernel, by decide +kernel⟩

abbrev s_law : Stmt := top 8
theorem sc_law : FnScope ["_law_script", "_law_town", "_law_k", "_law_many", "_law_keeping", "_law_other", "_law_sorts", "_law_tables", "_law_one", "_law_word", "_law_stored", "_law_j", "_law_under", "_law_deep", "_law_row", "_law_least_at", "_law_at", "_law_told", "_law_keys", "_law_key", "_law_found", "_law_slot", "_law_alike", "_law_two"] ["_law_script"] (defScope s_law) := ⟨rfl, rfl, rfl, by decide +kernel, rfl, by decide +kernel, by decide +kernel⟩

def dd_Table_init_ : He.DefD := ⟨("Table", some "__init__"), "__init__", "Table.__init__", defArgs s_Table_init_, defBody s_Table_init_, defScope s_Table_init_, [], [("keeps", .str "new")]⟩
def dd_Table_len_ : He.DefD := ⟨("Table", some "__len__"), "__len__", "Table.__len__", defArgs s_Table_len_, defBody s_Table_len_, defScope s_Table_len_, [], []⟩
def dd_Table_entries : He.DefD := ⟨("Table", some "entries"), "entries", "Table.entries", defArgs s_Table_entries, defBody s_Table_entries, defScope s_Table_entries, [], []⟩
def dd_Table_eq_ : He.DefD := ⟨("Table", some "__eq__"), "__eq__", "Table.__eq__", defArgs s_Table_eq_, defBody s_Table_eq_, defScope s_Table_eq_, [], []⟩
def dd_Table_str_ : He.DefD := ⟨("Table", some "__str__"), "__str__", "Table.__str__", defArgs s_Table_str_, defBody s_Table_str_, defScope s_Table_str_, [], []⟩
def dd_Table_put : He.DefD := ⟨("Table", some "put"), "put", "Table.put", defArgs s_Table_put, defBody s_Table_put, defScope s_Table_put, [], [("depth", .int 0)]⟩
def dd_Table_get : He.DefD := ⟨("Table", some "get"), "get", "Table.get", defArgs s_Table_get, defBody s_Table_get, defScope s_Table_get, [], []⟩
def dd_l_draw : He.DefD := ⟨("_law_draw", none), "_law_draw", "_law_draw", defArgs s_l_draw, defBody s_l_draw, defScope s_l_draw, [], []⟩
def dd_l_pick : He.DefD := ⟨("_law_pick", none), "_law_pick", "_law_pick", defArgs s_l_pick, defBody s_l_pick, defScope s_l_pick, [], []⟩
def dd_l_put : He.DefD := ⟨("_law_put", none), "_law_put", "_law_put", defArgs s_l_put, defBody s_l_put, defScope s_l_put, [], []⟩
def dd_law : He.DefD := ⟨("law", none), "law", "law", defArgs s_law, defBody s_law, defScope s_law, [], []⟩
def fas0 : List He.Fa := [.glo "_law_draw", .glo "_law_pick", .glo "_law_put", .glo "law", .glo "Table", .cls "Table", .mkr "Table", .noat "Table" "slots", .noat "Table" "keeps", .noat "Table" "rows", .noat "Table" "asked", .noat "Table" "found", .meth "Table" "__len__", .meth "Table" "entries", .meth "Table" "__eq__", .meth "Table" "__str__", .meth "Table" "put", .meth "Table" "get", .free "len", .free "list", .free "tuple", .free "range", .free "zip", .free "enumerate", .free "abs", .free "max", .free "min", .free "sum", .free "all", .free "any"]
def fas1 : List He.Fa := [.free "sorted", .free "isinstance", .free "int", .free "bool", .free "str", .free "set"]
def fas : List He.Fa := fas0 ++ fas1
def fns0 : List He.DefD := [dd_Table_init_, dd_Table_len_, dd_Table_entries, dd_Table_eq_, dd_Table_str_, dd_Table_put, dd_Table_get, dd_l_draw, dd_l_pick, dd_l_put, dd_law]
def fns : List He.DefD := fns0
def tfs : List He.Defn := [("Table", some "entries")]
def exs (K : PySem.W.Frag) : Bool := decide ((tfs.map fun p => (He.cT K p).2).Nodup) && eqFB K (He.ga K "Table")
def lnames0 : List Str := ["_wall", "Table", "_law_same", "_law_draw", "_law_pick", "_law_put"]
def lnames : List Str := lnames0
abbrev RR : PySem.W.OpenRow := PySem.W.OpenLaw.row PySem.Challenge.rw_searchduel_k14_whole_equal_tables
abbrev hk : PySem.W.Hook := He.hookX 8 fas fns [] tfs exs
def obs (s : PySem.W.SharedT) : He.AlX := He.obsX 8 fas fns [] tfs exs (HandSHeadRun.getT s)
theorem obs_eq (s : PySem.W.SharedT) : obs s = hk.obs s.abs := He.obsX_eq (HandSHeadRun.getT_eq s)
theorem headrun (w : World) : HandSHeadRun.RunEq RR (PySem.W.view RR.prog [8]) hk obs 9000 lnames w := by
  intro os
  kernel_rfl
end W

namespace Dz
open PySem L2

theorem same_seqT {K : PySem.W.Frag} {H H' : Hp} {a : Addr} {xs : List V} (e : Same H H') (h : SqT K H a xs) : SqT K H' a xs := by
  rcases h with (h | ⟨o, h⟩) | h
  · exact .inl (.inl (e _ _ h))
  · exact .inl (.inr ⟨o, e _ _ h⟩)
  · exact .inr h
mutual
theorem dp_mono {K : PySem.W.Frag} {H H' : Hp} (e : Same H H') : ∀ (d : PyData) (v : V), Dp K H v d → Dp K H' v d
  | .none, _, h => by cases h; exact .non
  | .bool b, _, h => by cases h; exact .bl b
  | .int i, _, h => by cases h; exact .int i
  | .str x, _, h => by cases h; exact .str x
  | .list ds, _, h => by
    cases h with
    | lst hs ha => exact .lst (e.seq hs) (dpAll_mono e ds _ ha)
  | .tuple ds, _, h => by
    cases h with
    | tup hs ha => exact .tup (same_seqT e hs) (dpAll_mono e ds _ ha)
  | .dict _, _, h => by cases h
theorem dpAll_mono {K : PySem.W.Frag} {H H' : Hp} (e : Same H H') : ∀ (ds : List PyData) (vs : List V), DpAll K H vs ds → DpAll K H' vs ds
  | [], _, h => by cases h; exact .nil
  | d :: ds, _, h => by
    cases h with
    | cons h1 h2 => exact .cons (dp_mono e d _ h1) (dpAll_mono e ds _ h2)
end
theorem Dp_mono {K : PySem.W.Frag} {H H' : Hp} {v : V} {d : PyData} (h : Dp K H v d) (e : Same H H') : Dp K H' v d := dp_mono e d v h
theorem DpAll_mono {K : PySem.W.Frag} {H H' : Hp} {v : List V} {d : List PyData} (h : DpAll K H v d) (e : Same H H') : DpAll K H' v d := dpAll_mono e d v h
theorem DpAll_len {K : PySem.W.Frag} {H : Hp} : ∀ {vs : List V} {ds : List PyData}, DpAll K H vs ds → vs.length = ds.length
  | _, [], h => by cases h; rfl
  | _, d :: ds, h => by
    cases h with
    | cons h1 h2 => simp [DpAll_len h2]
theorem DpAll_get {K : PySem.W.Frag} {H : Hp} : ∀ {vs : List V} {ds : List PyData} {i : Nat} {d : PyData}, DpAll K H vs ds → ds[i]? = some d → ∃ v, vs[i]? = some v ∧ Dp K H v d
  | _, [], _, _, h, e => by simp at e
  | _, d :: ds, 0, _, h, e => by
    cases h with
    | cons h1 h2 => simp at e; subst e; exact ⟨_, rfl, h1⟩
  | _, d :: ds, i + 1, _, h, e => by
    cases h with
    | cons h1 h2 =>
      obtain ⟨v, a, b⟩ := DpAll_get (i := i) h2 (by simpa using e)
      exact ⟨v, by simpa using a, b⟩
theorem DpAll_app {K : PySem.W.Frag} {H : Hp} : ∀ {vs ws : List V} {ds es : List PyData}, DpAll K H vs ds → DpAll K H ws es → DpAll K H (vs ++ ws) (ds ++ es)
  | _, _, [], _, h, k => by cases h; exact k
  | _, _, d :: ds, _, h, k => by
    cases h with
    | cons h1 h2 => exact .cons h1 (DpAll_app h2 k)
theorem DpAll_take {K : PySem.W.Frag} {H : Hp} : ∀ {vs : List V} {ds : List PyData} (n : Nat), DpAll K H vs ds → DpAll K H (vs.take n) (ds.take n)
  | _, _, 0, _ => by simp; exact .nil
  | _, [], n + 1, h => by cases h; exact .nil
  | _, d :: ds, n + 1, h => by
    cases h with
    | cons h1 h2 => exact .cons h1 (DpAll_take n h2)
theorem DpAll_drop {K : PySem.W.Frag} {H : Hp} : ∀ {vs : List V} {ds : List PyData} (n : Nat), DpAll K H vs ds → DpAll K H (vs.drop n) (ds.drop n)
  | _, _, 0, h => by simpa using h
  | _, [], n + 1, h => by cases h; exact .nil
  | _, d :: ds, n + 1, h => by
    cases h with
    | cons h1 h2 => exact DpAll_drop n h2
theorem DpAll_set {K : PySem.W.Frag} {H : Hp} {v : V} {d : PyData} (hd : Dp K H v d) : ∀ {vs : List V} {ds : List PyData} (n : Nat), DpAll K H vs ds → DpAll K H (vs.set n v) (ds.set n d)
  | _, [], _, h => by cases h; exact .nil
  | _, _ :: ds, 0, h => by
    cases h with
    | cons h1 h2 => exact .cons hd h2
  | _, _ :: ds, n + 1, h => by
    cases h with
    | cons h1 h2 => exact .cons h1 (DpAll_set hd n h2)
theorem DpAll_ints {K : PySem.W.Frag} {H : Hp} : ∀ ns : List Int, DpAll K H (ns.map V.int) (ns.map PyData.int)
  | [] => .nil
  | n :: ns => .cons (.int n) (DpAll_ints ns)
theorem ints_of {K : PySem.W.Frag} {H : Hp} : ∀ {vs : List V} {ns : List Int}, DpAll K H vs (ns.map PyData.int) → vs = ns.map V.int
  | _, [], h => by cases h; rfl
  | _, n :: ns, h => by
    cases h with
    | cons h1 h2 =>
      cases h1
      rw [ints_of (ns := ns) h2]
      rfl
structure Grow (m : Addr → Prop) (S H S' H' : Hp) : Prop where
  s : Same S S'
  f : Same S' H'
  n : ∀ a, S a = none → H a ≠ none → S' a = none
  k : ∀ a o, ¬ m a → H a = some o → H' a = some o
  d : ∀ a, H a ≠ none → H' a ≠ none
  x : ∀ a φ, S' a = some (.ext φ) → S a = some (.ext φ)
structure GrowT (m : Addr → Prop) (S H S' H' : Hp) : Prop where
  s : Same S S'
  f : Same S' H'
  n : ∀ a, S a = none → H a ≠ none → S' a = none
  k : ∀ a o, ¬ m a → H a = some o → H' a = some o
  d : ∀ a, H a ≠ none → H' a ≠ none
  t : ∀ a ps, H a = some (.tbl ps) → ∃ ps', H' a = some (.tbl ps')
theorem GrowT.mono {m m' : Addr → Prop} {S H S1 H1 : Hp} (a : GrowT m S H S1 H1) (h : ∀ x, m x → m' x) : GrowT m' S H S1 H1 := ⟨a.s, a.f, a.n, fun x u hm e => a.k x u (fun z => hm (h x z)) e, a.d, a.t⟩
def m0 : Addr → Prop := fun _ => False
theorem some_ne {α : Type} {x : Option α} {o : α} (h : x = some o) : x ≠ none := by rw [h]; exact fun z => nomatch z
theorem ne_some {α : Type} {x : Option α} (h : x ≠ none) : ∃ o, x = some o := by
  cases x with
  | none => exact absurd rfl h
  | some o => exact ⟨o, rfl⟩
section
variable {m m' : Addr → Prop} {S H S1 H1 S2 H2 : Hp} {p : Addr} {o : HO}
theorem Grow.refl (h : Same S H) : Grow m S H S H := ⟨Same.refl S, h, fun _ e _ => e, fun _ _ _ e => e, fun _ e => e, fun _ _ e => e⟩
theorem Grow.trans (a : Grow m S H S1 H1) (b : Grow m S1 H1 S2 H2) : Grow m S H S2 H2 :=
  ⟨a.s.trans b.s, b.f, fun x e q => b.n x (a.n x e q) (a.d x q), fun x u hm e => b.k x u hm (a.k x u hm e), fun x e => b.d x (a.d x e), fun x φ e => a.x x φ (b.x x φ e)⟩
theorem Grow.mono (a : Grow m S H S1 H1) (h : ∀ x, m x → m' x) : Grow m' S H S1 H1 := ⟨a.s, a.f, a.n, fun x u hm e => a.k x u (fun z => hm (h x z)) e, a.d, a.x⟩
theorem Grow.any (a : Grow m0 S H S1 H1) : Grow m S H S1 H1 := a.mono fun _ h => h.elim
theorem Grow.all (a : Grow m0 S H S1 H1) : Same H H1 := fun x u e => a.k x u (fun z => z) e
theorem same_up (h : S p = none) : Same S (upd S p o) := fun b x e => by rw [upd_ne (ne_of_none e h)]; exact e
theorem same_upup (h : Same S H) : Same (upd S p o) (upd H p o) := fun b x e => by
  by_cases hb : b = p
  · subst hb; rw [upd_same] at e ⊢; exact e
  · rw [upd_ne hb] at e ⊢; exact h b x e
theorem no_ext (ho : ∀ φ, o ≠ .ext φ) (a : Addr) (φ : Heap → Prop) (e : upd S p o a = some (.ext φ)) : S a = some (.ext φ) := by
  by_cases h : a = p
  · subst h; rw [upd_same] at e; exact absurd (Option.some.inj e) (ho φ)
  · rw [upd_ne h] at e; exact e
theorem Grow.new (h : Same S H) (hp : H p = none) (ho : ∀ φ, o ≠ .ext φ := by intro φ z; cases z) : Grow m S H (upd S p o) (upd H p o) := by
  have sp : S p = none := h.free hp
  refine ⟨same_up sp, same_upup h, fun a e q => ?_, fun a u _ e => ?_, fun a e => ?_, no_ext ho⟩
  · have : a ≠ p := fun z => by subst z; exact q hp
    rw [upd_ne this]; exact e
  · rw [upd_ne (ne_of_none e hp)]; exact e
  · obtain ⟨u, hu⟩ := ne_some e
    rw [upd_ne (ne_of_none hu hp)]; exact e
theorem Grow.out (h : Same S H) (hp : H p = none) : Grow m S H S (upd H p o) :=
  ⟨Same.refl S, fun b x e => by rw [upd_ne (ne_of_none (h b x e) hp)]; exact h b x e, fun _ e _ => e, fun a u _ e => by rw [upd_ne (ne_of_none e hp)]; exact e, fun a e => by
    obtain ⟨u, hu⟩ := ne_some e
    rw [upd_ne (ne_of_none hu hp)]; exact e, fun _ _ e => e⟩
theorem Grow.put (h : Same S H) (hp : S p = none) (hm : m p) (hx : H p ≠ none) : Grow m S H S (upd H p o) :=
  ⟨Same.refl S, fun b x e => by rw [upd_ne (ne_of_none e hp)]; exact h b x e, fun _ e _ => e, fun a u hn e => by
    have : a ≠ p := fun z => by subst z; exact hn hm
    rw [upd_ne this]; exact e, fun a e => by
    by_cases z : a = p
    · subst z; rw [upd_same]; exact fun q => nomatch q
    · rw [upd_ne z]; exact e, fun _ _ e => e⟩
end

inductive Sl where
  | no
  | dat (d : PyData)
  | own (o : Addr) (ds : List PyData)
  | val (v : V)
  | town (t : Addr) (n : Nat)
  | dct (o : Addr) (kvs : List (Key × PyData))
def Sl.adr : Sl → Option Addr
  | .own o _ => some o
  | .town t _ => some t
  | .dct o _ => some o
  | _ => none
def muts (l : List Sl) : List Addr := l.filterMap Sl.adr
def KvD (K : PySem.W.Frag) (S : Hp) : List (Key × V) → List (Key × PyData) → Prop := Paired fun w k => w.1 = k.1 ∧ Dp K S w.2 k.2
def TownAt (H : Hp) (t : Addr) (n : Nat) : Prop := ∃ ns : List Int, H t = some (.lst (ns.map V.int)) ∧ ns.length ≤ n ∧ (0 < n → ns ≠ [])
def SlOk (K : PySem.W.Frag) (H0 S H : Hp) : Sl → Option V → Prop
  | .no, _ => True
  | .dat d, x => ∃ v, x = some v ∧ Dp K S v d
  | .own o ds, x => x = some (.ref o) ∧ H0 o = none ∧ S o = none ∧ ∃ xs, H o = some (.lst xs) ∧ DpAll K S xs ds
  | .val v, x => x = some v
  | .town t n, x => x = some (.ref t) ∧ S t = none ∧ TownAt H t n
  | .dct o kvs, x => x = some (.ref o) ∧ H0 o = none ∧ S o = none ∧ ∃ ws, H o = some (.dK ws) ∧ KvD K S ws kvs
structure Env (K : PySem.W.Frag) (H0 S H : Hp) (s : L2.St) (l : List Sl) : Prop where
  len : s.length = l.length
  ok : ∀ (i : Nat) (x : Sl), l[i]? = some x → ∃ v, s[i]? = some v ∧ SlOk K H0 S H x v
  nd : (muts l).Nodup
section
variable {K : PySem.W.Frag} {m : Addr → Prop} {H0 S H S1 H1 S2 H2 : Hp} {p : Addr} {o : HO} {s : L2.St} {l l' : List Sl} {i : Nat} {x y : Sl} {v : Option V}
theorem KvD.mono {ws : List (Key × V)} {kvs : List (Key × PyData)} (h : KvD K S ws kvs) (e : Same S S1) : KvD K S1 ws kvs := Paired.mapP h fun _ _ q => ⟨q.1, Dp_mono q.2 e⟩
theorem SlOk.go (h : SlOk K H0 S H x v) (hs : Same S S1) (hn : ∀ a, S a = none → H a ≠ none → S1 a = none) (hk : ∀ a u, x.adr = some a → H a = some u → H1 a = some u) : SlOk K H0 S1 H1 x v := by
  cases x with
  | no => trivial
  | dat d => obtain ⟨w, e, q⟩ := h; exact ⟨w, e, Dp_mono q hs⟩
  | own o ds =>
    obtain ⟨e, f, g, xs, a, b⟩ := h
    exact ⟨e, f, hn o g (some_ne a), xs, hk o _ rfl a, DpAll_mono b hs⟩
  | val w => exact h
  | town t n => obtain ⟨e, g, ns, a, b⟩ := h; exact ⟨e, hn t g (some_ne a), ns, hk t _ rfl a, b⟩
  | dct o kvs =>
    obtain ⟨e, f, g, ws, a, b⟩ := h
    exact ⟨e, f, hn o g (some_ne a), ws, hk o _ rfl a, b.mono hs⟩
theorem SlOk.there (h : SlOk K H0 S H x v) {a : Addr} (e : x.adr = some a) : H a ≠ none ∧ S a = none := by
  cases x with
  | no => cases e
  | dat d => cases e
  | own o ds => cases e; obtain ⟨_, _, g, xs, q, _⟩ := h; exact ⟨some_ne q, g⟩
  | val w => cases e
  | town t n => cases e; obtain ⟨_, g, xs, q, _⟩ := h; exact ⟨some_ne q, g⟩
  | dct o kvs => cases e; obtain ⟨_, _, g, xs, q, _⟩ := h; exact ⟨some_ne q, g⟩
theorem mem_muts {a : Addr} : a ∈ muts l ↔ ∃ (j : Nat) (z : Sl), l[j]? = some z ∧ z.adr = some a := by
  unfold muts
  rw [List.mem_filterMap]
  constructor
  · rintro ⟨z, hz, e⟩
    obtain ⟨j, hj⟩ := List.mem_iff_getElem?.mp hz
    exact ⟨j, z, hj, e⟩
  · rintro ⟨j, z, hj, e⟩
    exact ⟨z, List.mem_iff_getElem?.mpr ⟨j, hj⟩, e⟩
theorem Env.there (h : Env K H0 S H s l) {a : Addr} (e : a ∈ muts l) : H a ≠ none ∧ S a = none := by
  obtain ⟨j, z, hj, q⟩ := mem_muts.mp e
  obtain ⟨w, _, k⟩ := h.ok j z hj
  exact k.there q
theorem Env.go (h : Env K H0 S H s l) (hs : Same S S1) (hn : ∀ a, S a = none → H a ≠ none → S1 a = none) (hk : ∀ a u, a ∈ muts l → H a = some u → H1 a = some u) : Env K H0 S1 H1 s l :=
  ⟨h.len, fun i x e => by
    obtain ⟨w, a, b⟩ := h.ok i x e
    exact ⟨w, a, b.go hs hn fun c u q => hk c u (mem_muts.mpr ⟨i, x, e, q⟩)⟩, h.nd⟩
theorem Env.grow (h : Env K H0 S H s l) (g : Grow m0 S H S1 H1) : Env K H0 S1 H1 s l := h.go g.s g.n fun a u _ => g.k a u (fun z => z)
theorem nodup_eq {α : Type} {ys : List Addr} {f : α → Option Addr} : ∀ {zs : List α}, (zs.filterMap f).Nodup → ∀ {i j : Nat} {x y : α} {a : Addr}, zs[i]? = some x → zs[j]? = some y → f x = some a → f y = some a → i = j
  | [], _, i, j, x, y, a, h, _, _, _ => by simp at h
  | z :: zs, hn, i, j, x, y, a, h1, h2, e1, e2 => by
    cases i with
    | zero =>
      cases j with
      | zero => rfl
      | succ j =>
        simp at h1 h2
        subst h1
        rw [List.filterMap_cons, e1] at hn
        have : a ∈ zs.filterMap f := List.mem_filterMap.mpr ⟨y, List.mem_of_getElem? h2, e2⟩
        exact absurd this (List.nodup_cons.mp hn).1
    | succ i =>
      cases j with
      | zero =>
        simp at h1 h2
        subst h2
        rw [List.filterMap_cons, e2] at hn
        have : a ∈ zs.filterMap f := List.mem_filterMap.mpr ⟨x, List.mem_of_getElem? h1, e1⟩
        exact absurd this (List.nodup_cons.mp hn).1
      | succ j =>
        simp at h1 h2
        have hn' : (zs.filterMap f).Nodup := by
          rw [List.filterMap_cons] at hn
          split at hn
          · exact hn
          · exact (List.nodup_cons.mp hn).2
        rw [nodup_eq (ys := ys) hn' h1 h2 e1 e2]
theorem muts_set_sub : ∀ (l : List Sl) (i : Nat) (y : Sl), y.adr = none → (muts (l.set i y)).Sublist (muts l)
  | [], _, _, _ => List.Sublist.refl _
  | z :: l, 0, y, h => by
    show (List.filterMap Sl.adr (y :: l)).Sublist (List.filterMap Sl.adr (z :: l))
    rw [List.filterMap_cons, h, List.filterMap_cons]
    show (List.filterMap Sl.adr l).Sublist _
    cases z.adr with
    | none => exact List.Sublist.refl _
    | some b => exact List.sublist_cons_self _ _
  | z :: l, i + 1, y, h => by
    show (List.filterMap Sl.adr (z :: l.set i y)).Sublist (List.filterMap Sl.adr (z :: l))
    rw [List.filterMap_cons, List.filterMap_cons]
    have ih := muts_set_sub l i y h
    split
    · exact ih
    · exact ih.cons₂ _
theorem muts_set_same : ∀ (l : List Sl) (i : Nat) (x y : Sl), l[i]? = some x → y.adr = x.adr → muts (l.set i y) = muts l
  | [], _, _, _, h, _ => by simp at h
  | z :: l, 0, x, y, h, e => by
    simp at h
    subst h
    show List.filterMap Sl.adr (y :: l) = List.filterMap Sl.adr (z :: l)
    rw [List.filterMap_cons, List.filterMap_cons, e]
  | z :: l, i + 1, x, y, h, e => by
    simp at h
    show List.filterMap Sl.adr (z :: l.set i y) = List.filterMap Sl.adr (z :: l)
    rw [List.filterMap_cons, List.filterMap_cons]
    have ih : List.filterMap Sl.adr (l.set i y) = List.filterMap Sl.adr l := muts_set_same l i x y h e
    rw [ih]
theorem muts_set_new : ∀ (l : List Sl) (i : Nat) (y : Sl) (a : Addr), y.adr = some a → a ∉ muts l → (muts l).Nodup → (muts (l.set i y)).Nodup
  | [], _, _, _, _, _, h => h
  | z :: l, 0, y, a, e, hn, h => by
    show (List.filterMap Sl.adr (y :: l)).Nodup
    rw [List.filterMap_cons, e]
    have h' : (List.filterMap Sl.adr (z :: l)).Nodup := h
    have hn' : a ∉ List.filterMap Sl.adr (z :: l) := hn
    rw [List.filterMap_cons] at h' hn'
    split at h'
    · rename_i hz
      rw [hz] at hn'
      exact List.nodup_cons.mpr ⟨hn', h'⟩
    · rename_i b hz
      rw [hz] at hn'
      exact List.nodup_cons.mpr ⟨fun q => hn' (List.mem_cons_of_mem _ q), (List.nodup_cons.mp h').2⟩
  | z :: l, i + 1, y, a, e, hn, h => by
    show (List.filterMap Sl.adr (z :: l.set i y)).Nodup
    have h' : (List.filterMap Sl.adr (z :: l)).Nodup := h
    have hn' : a ∉ List.filterMap Sl.adr (z :: l) := hn
    rw [List.filterMap_cons] at h' hn' ⊢
    split at h'
    · rename_i hz
      rw [hz] at hn'
      exact muts_set_new l i y a e hn' h'
    · rename_i b hz
      rw [hz] at hn'
      have ih : (muts (l.set i y)).Nodup := muts_set_new l i y a e (fun q => hn' (List.mem_cons_of_mem _ q)) (List.nodup_cons.mp h').2
      refine List.nodup_cons.mpr ⟨fun q => ?_, ih⟩
      obtain ⟨j, w, hj, hw⟩ := mem_muts.mp (show b ∈ muts (l.set i y) from q)
      rw [List.getElem?_set] at hj
      split at hj
      · split at hj
        · cases hj
          rw [e] at hw
          cases hw
          exact hn' List.mem_cons_self
        · cases hj
      · exact (List.nodup_cons.mp h').1 (mem_muts.mpr ⟨j, w, hj, hw⟩)
theorem Env.set (h : Env K H0 S H s l) {w : Option V} (hy : y.adr = none) (ok : SlOk K H0 S H y w) : Env K H0 S H (s.set i w) (l.set i y) :=
  ⟨by rw [List.length_set, List.length_set]; exact h.len, fun j z e => by
    by_cases hij : i = j
    · subst hij
      have hl : i < l.length := by
        have := (List.getElem?_eq_some_iff.mp e).1
        rwa [List.length_set] at this
      rw [List.getElem?_set_self hl] at e
      cases e
      exact ⟨w, List.getElem?_set_self (by rw [h.len]; exact hl), ok⟩
    · rw [List.getElem?_set_ne hij] at e ⊢
      exact h.ok j z e, (muts_set_sub l i y hy).nodup h.nd⟩
theorem Env.dat (h : Env K H0 S H s l) {w : V} {d : PyData} (q : Dp K S w d) : Env K H0 S H (s.set i (some w)) (l.set i (.dat d)) := h.set rfl ⟨w, rfl, q⟩
theorem Env.val (h : Env K H0 S H s l) {w : V} : Env K H0 S H (s.set i (some w)) (l.set i (.val w)) := h.set rfl rfl
theorem Env.forget (h : Env K H0 S H s l) {w : Option V} : Env K H0 S H (s.set i w) (l.set i .no) := h.set rfl trivial
theorem Env.fresh (h : Env K H0 S H s l) {w : V} {a : Addr} (hy : y.adr = some a) (ha : a ∉ muts l) (ok : SlOk K H0 S H y (some w)) : Env K H0 S H (s.set i (some w)) (l.set i y) :=
  ⟨by rw [List.length_set, List.length_set]; exact h.len, fun j z e => by
    by_cases hij : i = j
    · subst hij
      have hl : i < l.length := by
        have := (List.getElem?_eq_some_iff.mp e).1
        rwa [List.length_set] at this
      rw [List.getElem?_set_self hl] at e
      cases e
      exact ⟨some w, List.getElem?_set_self (by rw [h.len]; exact hl), ok⟩
    · rw [List.getElem?_set_ne hij] at e ⊢
      exact h.ok j z e, muts_set_new l i y a hy ha h.nd⟩
theorem Env.put (h : Env K H0 S H s l) {a : Addr} (hi : l[i]? = some x) (hx : x.adr = some a) (hy : y.adr = some a) (hs : Same S S1) (hn : ∀ b, S b = none → H b ≠ none → S1 b = none) (hk : ∀ b u, b ≠ a → H b = some u → H1 b = some u)
    (ok : ∀ v, SlOk K H0 S H x v → SlOk K H0 S1 H1 y v) : Env K H0 S1 H1 s (l.set i y) :=
  ⟨by rw [List.length_set]; exact h.len, fun j z e => by
    by_cases hij : i = j
    · subst hij
      have hl : i < l.length := (List.getElem?_eq_some_iff.mp hi).1
      rw [List.getElem?_set_self hl] at e
      cases e
      obtain ⟨v, q, r⟩ := h.ok i x hi
      exact ⟨v, q, ok v r⟩
    · rw [List.getElem?_set_ne hij] at e
      obtain ⟨v, q, r⟩ := h.ok j z e
      refine ⟨v, q, r.go hs hn fun b u hb => hk b u fun hba => ?_⟩
      subst hba
      exact hij (nodup_eq (ys := []) h.nd hi e hx hb), by rw [muts_set_same l i x y hi (hy.trans hx.symm)]; exact h.nd⟩
end
end Dz

namespace Dz
open PySem L2

def rLenK (K : PySem.W.Frag) : List V → Hp → VK → Prop := fun xs H Q => ∃ p ys, xs = [.ref p] ∧ (SqL K H p ys ∨ SqT K H p ys) ∧ Q (.int ys.length) H
def rTupleK (K : PySem.W.Frag) : List V → Hp → VK → Prop := fun xs H Q => ∃ p ys, xs = [.ref p] ∧ ((SqL K H p ys ∧ ∀ l, H l = none → Q (.ref l) (upd H l (.tup ys))) ∨ (SqT K H p ys ∧ Q (.ref p) H))
def Ev (K : PySem.W.Frag) (te : TE) (l : List Sl) (d : PyData) : Prop := ∀ H0 S H s, Env K H0 S H s l → Same S H → ∀ Q : VK, (∀ v S' H', Grow m0 S H S' H' → Dp K S' v d → Q v H') → te s H Q
def EvT (K : PySem.W.Frag) (tt : TT) (l : List Sl) (b : Bool) : Prop := ∀ H0 S H s, Env K H0 S H s l → Same S H → ∀ Q : Bool → Hp → Prop, (∀ S' H', Grow m0 S H S' H' → Q b H') → tt s H Q
def EvA (K : PySem.W.Frag) (ta : TA) (l : List Sl) (ds : List PyData) : Prop := ∀ H0 S H s, Env K H0 S H s l → Same S H → ∀ Q : List V → Hp → Prop, (∀ vs S' H', Grow m0 S H S' H' → DpAll K S' vs ds → Q vs H') → ta s H Q
def EvO (K : PySem.W.Frag) (to : TO) (l : List Sl) (o : Option Int) : Prop := ∀ H0 S H s, Env K H0 S H s l → Same S H → ∀ Q : Option Int → Hp → Prop, (∀ S' H', Grow m0 S H S' H' → Q o H') → to s H Q
def RD (K : PySem.W.Frag) (r : R2) (a b c : PyData) : Prop := ∀ x y S H (Q : VK), Same S H → Dp K S x a → Dp K S y b → (∀ v S' H', Grow m0 S H S' H' → Dp K S' v c → Q v H') → r x y H Q
def RCD (K : PySem.W.Frag) (r : List V → Hp → VK → Prop) (as : List PyData) (c : PyData) : Prop := ∀ vs S H (Q : VK), Same S H → DpAll K S vs as → (∀ v S' H', Grow m0 S H S' H' → Dp K S' v c → Q v H') → r vs H Q
section
variable {K : PySem.W.Frag} {l : List Sl} {ta tb te : TE} {t u : TT} {a b c d : PyData} {r : R2}
theorem szl {n : Nat} (h : n ≤ 4000000) : n ≤ sizeLine := Nat.le_trans h (by decide)
theorem szt {n : Nat} (h : n < 4000000) : n < sizeLine := Nat.lt_of_lt_of_le h (by decide)
def truD : PyData → Bool
  | .none => false
  | .bool b => b
  | .int i => i != 0
  | .str y => (y.length : Int) != 0
  | .list ds => !ds.isEmpty
  | .tuple ds => !ds.isEmpty
  | .dict _ => false
theorem isEmpty_dp {S : Hp} {vs : List V} {ds : List PyData} (h : DpAll K S vs ds) : ds.isEmpty = vs.isEmpty := by
  cases h <;> rfl
theorem truV_of {S H : Hp} {v : V} (hs : Same S H) (h : Dp K S v d) (hz : ∀ y, d = .str y → y.length ≤ 4000000) : TruV K v H (truD d) := by
  cases h with
  | non => rfl
  | bl b => rfl
  | int i => rfl
  | str x => exact ⟨szl (hz x rfl), rfl⟩
  | lst a b => exact .inl ⟨_, hs.seq a, by show (!_) = !_; rw [isEmpty_dp b]⟩
  | tup a b => exact .inr (.inl ⟨_, same_seqT hs a, by show (!_) = !_; rw [isEmpty_dp b]⟩)
def isN : PyData → Bool
  | .none => true
  | _ => false
theorem dp_isN {S : Hp} {v : V} (h : Dp K S v d) : decide (v = .non) = isN d := by
  cases h <;> simp [isN]
theorem rd_I0 {g : Int → Int → V} {i j : Int} (h : ∀ S, Dp K S (g i j) c) : RD K (rI0 g) (.int i) (.int j) c := fun x y S H Q hs hx hy q => by
  cases hx; cases hy
  exact ⟨i, j, rfl, rfl, q _ S H (Grow.refl hs) (h S)⟩
theorem rd_I {C : Int → Int → Prop} {g : Int → Int → V} {i j : Int} (hc : C i j) (h : ∀ S, Dp K S (g i j) c) : RD K (rI C g) (.int i) (.int j) c := fun x y S H Q hs hx hy q => by
  cases hx; cases hy
  exact ⟨i, j, rfl, rfl, hc, q _ S H (Grow.refl hs) (h S)⟩
def scV : PyData → Option V
  | .none => some .non
  | .bool b => some (.bl b)
  | .int i => some (.int i)
  | .str x => some (.str x)
  | _ => none
theorem scV_dp {S : Hp} {v w : V} (h : scV d = some w) (q : Dp K S v d) : v = w := by
  cases q <;> first | (cases h; rfl) | cases h
theorem rd_eq {x y : V} (h1 : scV a = some x) (h2 : scV b = some y) (h : scal x y = true) : RD K rEq a b (.bool (decide (x = y))) := fun x' y' S H Q hs hx hy q => by
  rw [scV_dp h1 hx, scV_dp h2 hy]
  exact ⟨h, q _ S H (Grow.refl hs) (.bl _)⟩
theorem rd_ne {x y : V} (h1 : scV a = some x) (h2 : scV b = some y) (h : scal x y = true) : RD K rNe a b (.bool (!decide (x = y))) := fun x' y' S H Q hs hx hy q => by
  rw [scV_dp h1 hx, scV_dp h2 hy]
  exact ⟨h, q _ S H (Grow.refl hs) (.bl _)⟩
theorem rd_eqS {i j : Str} : RD K rEq (.str i) (.str j) (.bool (decide (i = j))) := by
  have := rd_eq (K := K) (a := .str i) (b := .str j) rfl rfl rfl
  simpa using this
theorem rd_neS {i j : Str} : RD K rNe (.str i) (.str j) (.bool (!decide (i = j))) := by
  have := rd_ne (K := K) (a := .str i) (b := .str j) rfl rfl rfl
  simpa using this
theorem rd_eqIS {i : Int} {j : Str} : RD K rEq (.int i) (.str j) (.bool false) := by
  have := rd_eq (K := K) (a := .int i) (b := .str j) rfl rfl rfl
  simpa using this
theorem rd_neIS {i : Int} {j : Str} : RD K rNe (.int i) (.str j) (.bool true) := by
  have := rd_ne (K := K) (a := .int i) (b := .str j) rfl rfl rfl
  simpa using this
theorem rd_eqSI {i : Int} {j : Str} : RD K rEq (.str j) (.int i) (.bool false) := by
  have := rd_eq (K := K) (a := .str j) (b := .int i) rfl rfl rfl
  simpa using this
theorem rd_neSI {i : Int} {j : Str} : RD K rNe (.str j) (.int i) (.bool true) := by
  have := rd_ne (K := K) (a := .str j) (b := .int i) rfl rfl rfl
  simpa using this
theorem atI_map {S : Hp} {xs : List V} {ds : List PyData} {i : Int} (h : DpAll K S xs ds) (e : atI ds i = some d) : ∃ v, atI xs i = some v ∧ Dp K S v d := by
  unfold atI at e ⊢
  rw [DpAll_len h]
  cases hj : ixN ds.length i with
  | none => rw [hj] at e; cases e
  | some j =>
    rw [hj] at e
    exact DpAll_get h e
theorem rd_ixT {ds : List PyData} {i : Int} (e : atI ds i = some d) : RD K (rIx K) (.tuple ds) (.int i) d := fun x y S H Q hs hx hy q => by
  cases hy
  cases hx with
  | tup h1 h2 =>
    obtain ⟨v, hv, hd⟩ := atI_map h2 e
    exact .inr (.inl ⟨_, _, i, v, rfl, rfl, same_seqT hs h1, hv, q v S H (Grow.refl hs) hd⟩)
theorem rd_ixL {ds : List PyData} {i : Int} (e : atI ds i = some d) : RD K (rIx K) (.list ds) (.int i) d := fun x y S H Q hs hx hy q => by
  cases hy
  cases hx with
  | lst h1 h2 =>
    obtain ⟨v, hv, hd⟩ := atI_map h2 e
    exact .inl ⟨_, _, i, v, rfl, rfl, hs.seq h1, hv, q v S H (Grow.refl hs) hd⟩
def eqF : PyData → PyData → Bool
  | .none, .none => true
  | .bool a, .bool b => a == b
  | .bool a, .int b => (if a then 1 else 0) == b
  | .int a, .bool b => a == (if b then 1 else 0)
  | .int a, .int b => a == b
  | .str a, .str b => a == b
  | _, _ => false
def inF (x : PyData) (xs : List PyData) : Bool := xs.any fun y => eqF y x
theorem rc_lenL {ds : List PyData} : RCD K (rLenK K) [.list ds] (.int ds.length) := fun vs S H Q hs hx q => by
  cases hx with
  | cons h1 h2 =>
    cases h2
    cases h1 with
    | lst h3 h4 => exact ⟨_, _, rfl, .inl (hs.seq h3), q _ S H (Grow.refl hs) (by rw [DpAll_len h4]; exact .int _)⟩
theorem rc_lenT {ds : List PyData} : RCD K (rLenK K) [.tuple ds] (.int ds.length) := fun vs S H Q hs hx q => by
  cases hx with
  | cons h1 h2 =>
    cases h2
    cases h1 with
    | tup h3 h4 => exact ⟨_, _, rfl, .inr (same_seqT hs h3), q _ S H (Grow.refl hs) (by rw [DpAll_len h4]; exact .int _)⟩
theorem new_lst {S H : Hp} {xs : List V} {ds : List PyData} {Q : VK} (hs : Same S H) (h : DpAll K S xs ds) (q : ∀ v S' H', Grow m0 S H S' H' → Dp K S' v (.list ds) → Q v H') : ∀ p, H p = none → Q (.ref p) (upd H p (.lst xs)) := fun p hp =>
  have g2 : Grow m0 S H (upd S p (.lst xs)) (upd H p (.lst xs)) := Grow.new hs hp
  q _ _ _ g2 (.lst (.inl (.inl upd_same)) (DpAll_mono h g2.s))
theorem new_tup {S H : Hp} {xs : List V} {ds : List PyData} {Q : VK} (hs : Same S H) (h : DpAll K S xs ds) (q : ∀ v S' H', Grow m0 S H S' H' → Dp K S' v (.tuple ds) → Q v H') : ∀ p, H p = none → Q (.ref p) (upd H p (.tup xs)) := fun p hp =>
  have g2 : Grow m0 S H (upd S p (.tup xs)) (upd H p (.tup xs)) := Grow.new hs hp
  q _ _ _ g2 (.tup (.inl (.inl upd_same)) (DpAll_mono h g2.s))
theorem rc_tupleL {ds : List PyData} : RCD K (rTupleK K) [.list ds] (.tuple ds) := fun vs S H Q hs hx q => by
  cases hx with
  | cons h1 h2 =>
    cases h2
    cases h1 with
    | lst h3 h4 => exact ⟨_, _, rfl, .inl ⟨hs.seq h3, new_tup hs h4 q⟩⟩
theorem rc_tupleT {ds : List PyData} : RCD K (rTupleK K) [.tuple ds] (.tuple ds) := fun vs S H Q hs hx q => by
  cases hx with
  | cons h1 h2 =>
    cases h2
    cases h1 with
    | tup h3 h4 => exact ⟨_, _, rfl, .inr ⟨same_seqT hs h3, q _ S H (Grow.refl hs) (.tup h3 h4)⟩⟩
theorem rc_abs {i : Int} : RCD K (fun xs H Q => ∃ i, xs = [.int i] ∧ Q (.int (if i < 0 then -i else i)) H) [.int i] (.int (if i < 0 then -i else i)) := fun vs S H Q hs hx q => by
  cases hx with
  | cons h1 h2 => cases h2; cases h1; exact ⟨i, rfl, q _ S H (Grow.refl hs) (.int _)⟩
def maxI : List Int → Int
  | [] => 0
  | [x] => x
  | x :: y :: r => max x (maxI (y :: r))
def minI : List Int → Int
  | [] => 0
  | [x] => x
  | x :: y :: r => min x (minI (y :: r))
theorem maxI_mem : ∀ {ns : List Int}, ns ≠ [] → maxI ns ∈ ns
  | [], h => absurd rfl h
  | [x], _ => by simp [maxI]
  | x :: y :: r, _ => by
    have ih : maxI (y :: r) ∈ y :: r := maxI_mem (by simp)
    unfold maxI
    rcases Int.le_total x (maxI (y :: r)) with h | h
    · rw [Int.max_eq_right h]; exact List.mem_cons_of_mem _ ih
    · rw [Int.max_eq_left h]; exact List.mem_cons_self
theorem maxI_ge : ∀ {ns : List Int} {x : Int}, x ∈ ns → x ≤ maxI ns
  | [], _, h => by simp at h
  | [y], x, h => by simp at h; subst h; simp [maxI]
  | y :: z :: r, x, h => by
    unfold maxI
    rcases List.mem_cons.mp h with h | h
    · subst h; exact Int.le_max_left _ _
    · exact Int.le_trans (maxI_ge h) (Int.le_max_right _ _)
theorem maxI_is {ns : List Int} {m : Int} (h : m ∈ ns) (k : ∀ y ∈ ns, y ≤ m) : maxI ns = m :=
  Int.le_antisymm (k _ (maxI_mem (List.ne_nil_of_mem h))) (maxI_ge h)
theorem rc_max {ns : List Int} (h0 : ns ≠ []) : RCD K (rMax K) [.list (ns.map .int)] (.int (maxI ns)) := fun vs S H Q hs hx q => by
  cases hx with
  | cons h1 h2 =>
    cases h2
    cases h1 with
    | lst h3 h4 =>
      rw [ints_of h4] at h3
      exact ⟨_, ns, rfl, hs.seq h3, List.length_pos_iff.mpr h0, fun m hm hk => q _ S H (Grow.refl hs) (by rw [maxI_is hm hk]; exact .int _)⟩
def cutD (xs : List PyData) (lo hi : Option Int) : List PyData := (xs.drop (HT.sIx xs.length 0 lo)).take (HT.sIx xs.length xs.length hi - HT.sIx xs.length 0 lo)
theorem cut_dp {S : Hp} {vs : List V} {ds : List PyData} (h : DpAll K S vs ds) (lo hi : Option Int) : DpAll K S (cutV vs lo hi) (cutD ds lo hi) := by
  unfold cutV cutD
  rw [DpAll_len h]
  exact DpAll_take _ (DpAll_drop _ h)
def rSlAny (K : PySem.W.Frag) : V → Option Int → Option Int → Hp → VK → Prop := fun x lo hi H Q => rSlL K x lo hi H Q ∨ rSlA K x lo hi H Q
end
end Dz

namespace Dz
open PySem L2 RZ

structure WalkD (K : PySem.W.Frag) (J : It) (S : Hp) (ds : List PyData) : Prop where
  go : ∀ i H, i < ds.length → Same S H → J.go i H
  stop : ∀ H, Same S H → J.stop ds.length H
  yld : ∀ i H x H' d S2, ds[i]? = some d → Same S S2 → Same S2 H → J.yld i H x H' → ∃ S', Grow m0 S2 H S' H' ∧ Dp K S' x d
def EvI (K : PySem.W.Frag) (wi : TI) (l : List Sl) (ds : List PyData) : Prop := ∀ H0 S H s, Env K H0 S H s l → Same S H → ∀ R : It → Hp → Prop, (∀ J S' H', Grow m0 S H S' H' → WalkD K J S' ds → R J H') → wi s H R
theorem PI_or {X : Cx} {tg e : Expr} {w1 w2 : TI} (h1 : PI X tg e w1) (h2 : PI X tg e w2) : PI X tg e (fun s H R => w1 s H R ∨ w2 s H R) :=
  ⟨fun pins s σ H R I h => h.elim (fun q => h1.run pins s σ H R I q) fun q => h2.run pins s σ H R I q⟩
def iSeq (K : PySem.W.Frag) (tl : TE) : TI := fun s H R => iList K tl s H R ∨ iTup K tl s H R
theorem pi_seq {X : Cx} {tg e : Expr} {tl : TE} (h : PE X e tl) : PI X tg e (iSeq X.K tl) := PI_or (pi_list h) (pi_tup h)
section
variable {K : PySem.W.Frag} {l l' : List Sl} {ta tb te : TE} {t u : TT} {a b c d : PyData} {r : R2} {ds : List PyData}
theorem walkL {S : Hp} {p : Addr} {xs : List V} (h : SqL K S p xs) (hd : DpAll K S xs ds) : WalkD K (Itl K p) S ds := by
  have w := walk_list (K := K) (a := p) (xs := xs)
  rw [DpAll_len hd] at w
  refine ⟨fun i H hi hs => w.goes i H hi (hs.seq h), fun H hs => w.stops H (hs.seq h), fun i H x H' d S2 e s1 s2 y => ?_⟩
  have hi : i < ds.length := (List.getElem?_eq_some_iff.mp e).1
  obtain ⟨rfl, q⟩ := w.yields i H x H' hi ((s1.trans s2).seq h) y
  obtain ⟨v, hv, hdv⟩ := DpAll_get hd e
  rw [hv] at q
  cases q
  exact ⟨S2, Grow.refl s2, Dp_mono hdv s1⟩
theorem walkT {S : Hp} {p : Addr} {xs : List V} (h : SqT K S p xs) (hd : DpAll K S xs ds) : WalkD K (Itt K p) S ds := by
  have w := walk_tup (K := K) (a := p) (xs := xs)
  rw [DpAll_len hd] at w
  refine ⟨fun i H hi hs => w.goes i H hi (same_seqT hs h), fun H hs => w.stops H (same_seqT hs h), fun i H x H' d S2 e s1 s2 y => ?_⟩
  have hi : i < ds.length := (List.getElem?_eq_some_iff.mp e).1
  obtain ⟨rfl, q⟩ := w.yields i H x H' hi (same_seqT (s1.trans s2) h) y
  obtain ⟨v, hv, hdv⟩ := DpAll_get hd e
  rw [hv] at q
  cases q
  exact ⟨S2, Grow.refl s2, Dp_mono hdv s1⟩
def rng (lo : Int) (n : Nat) : List PyData := (List.range n).map fun (i : Nat) => PyData.int (lo + (i : Int))
theorem rng_len (lo : Int) (n : Nat) : (rng lo n).length = n := by simp [rng]
theorem rng_get {lo : Int} {n i : Nat} {d : PyData} (h : (rng lo n)[i]? = some d) : i < n ∧ d = .int (lo + i) := by
  unfold rng at h
  rw [List.getElem?_map] at h
  by_cases hi : i < n
  · rw [List.getElem?_range hi] at h
    exact ⟨hi, (Option.some.inj h).symm⟩
  · rw [List.getElem?_eq_none (by simpa using hi)] at h
    cases h
theorem walkR {S : Hp} {lo : Int} {n : Nat} : WalkD K (Itr lo n) S (rng lo n) := by
  have w := walk_range (lo := lo) (n := n)
  refine ⟨fun i H hi _ => w.goes i H (by rwa [rng_len] at hi) trivial, fun H _ => by rw [rng_len]; exact w.stops H trivial, fun i H x H' d S2 e s1 s2 y => ?_⟩
  obtain ⟨hi, rfl⟩ := rng_get e
  obtain ⟨rfl, rfl⟩ := w.yields i H x H' hi trivial y
  exact ⟨S2, Grow.refl s2, .int _⟩
def prs (f g : Nat → PyData) (n : Nat) : List PyData := (List.range n).map fun i => PyData.tuple [f i, g i]
def GIn (g : TG) (vs : List Nat) : Prop := ∀ v s H (Q : L2.St → Hp → Prop), g v s H Q → g v s H fun s' H' => wipe s' vs = wipe s vs ∧ Q s' H'
def GIns (g : TGs) (vs : List Nat) : Prop := ∀ v s H (Q : L2.St → Hp → Prop), g v s H Q → g v s H fun s' H' => wipe s' vs = wipe s vs ∧ Q s' H'
theorem wipe_get {s : L2.St} {j : Nat} : ∀ {vs : List Nat}, (wipe s vs)[j]? = if j ∈ vs then (if j < s.length then some none else none) else s[j]?
  | [] => by simp [wipe]
  | v :: vs => by
    unfold wipe
    rw [List.getElem?_set]
    by_cases h : v = j
    · subst h
      rw [if_pos rfl, wipe_length, if_pos List.mem_cons_self]
    · rw [if_neg h, wipe_get]
      have : (j ∈ v :: vs) ↔ j ∈ vs := by
        rw [List.mem_cons]
        exact ⟨fun z => z.elim (fun q => absurd q.symm h) id, .inr⟩
      by_cases hj : j ∈ vs
      · rw [if_pos hj, if_pos (this.mpr hj)]
      · rw [if_neg hj, if_neg fun z => hj (this.mp z)]
theorem wipe_set {s : L2.St} {i : Nat} {x : Option V} {vs : List Nat} (h : i ∈ vs) : wipe (s.set i x) vs = wipe s vs := by
  apply List.ext_getElem?
  intro j
  rw [wipe_get, wipe_get, List.length_set]
  by_cases hj : j ∈ vs
  · rw [if_pos hj, if_pos hj]
  · rw [if_neg hj, if_neg hj, List.getElem?_set_ne fun (e : i = j) => hj (e ▸ h)]
theorem gin_name {i : Nat} {vs : List Nat} (h : i ∈ vs) : GIn (gName i) vs := fun v s H Q q => ⟨wipe_set h, q⟩
theorem gins_nil {vs : List Nat} : GIns gNil vs := fun v s H Q q => ⟨q.1, rfl, q.2⟩
theorem gins_cons {g : TG} {gs : TGs} {vs : List Nat} (h1 : GIn g vs) (h2 : GIns gs vs) (mono : ∀ v s H (Q Q' : L2.St → Hp → Prop), (∀ s' H', Q s' H' → Q' s' H') → g v s H Q → g v s H Q') : GIns (gCons g gs) vs := fun v s H Q ⟨x, r, e, q⟩ =>
  ⟨x, r, e, mono _ _ _ _ _ (fun s' H' ⟨w, k⟩ => by
    have := h2 r s' H' Q k
    rw [w] at this
    exact this) (h1 x s H _ q)⟩
theorem gin_tup {gs : TGs} {n : Nat} {vs : List Nat} (h : GIns gs vs) : GIn (gTup K n gs) vs := fun v s H Q ⟨a, xs, e, h1, h2, q⟩ => ⟨a, xs, e, h1, h2, h xs s H Q q⟩
theorem gmono_name {i : Nat} : ∀ v s H (Q Q' : L2.St → Hp → Prop), (∀ s' H', Q s' H' → Q' s' H') → gName i v s H Q → gName i v s H Q' := fun v s H Q Q' f q => f _ _ q
theorem gmonos_nil : ∀ v s H (Q Q' : L2.St → Hp → Prop), (∀ s' H', Q s' H' → Q' s' H') → gNil v s H Q → gNil v s H Q' := fun v s H Q Q' f q => ⟨q.1, f _ _ q.2⟩
theorem gmonos_cons {g : TG} {gs : TGs} (h1 : ∀ v s H (Q Q' : L2.St → Hp → Prop), (∀ s' H', Q s' H' → Q' s' H') → g v s H Q → g v s H Q') (h2 : ∀ v s H (Q Q' : L2.St → Hp → Prop), (∀ s' H', Q s' H' → Q' s' H') → gs v s H Q → gs v s H Q') :
    ∀ v s H (Q Q' : L2.St → Hp → Prop), (∀ s' H', Q s' H' → Q' s' H') → gCons g gs v s H Q → gCons g gs v s H Q' := fun v s H Q Q' f ⟨x, r, e, q⟩ => ⟨x, r, e, h1 _ _ _ _ _ (fun s' H' k => h2 _ _ _ _ _ f k) q⟩
theorem gmono_tup {gs : TGs} {n : Nat} (h2 : ∀ v s H (Q Q' : L2.St → Hp → Prop), (∀ s' H', Q s' H' → Q' s' H') → gs v s H Q → gs v s H Q') :
    ∀ v s H (Q Q' : L2.St → Hp → Prop), (∀ s' H', Q s' H' → Q' s' H') → gTup K n gs v s H Q → gTup K n gs v s H Q' := fun v s H Q Q' f ⟨a, xs, e, e1, e2, q⟩ => ⟨a, xs, e, e1, e2, h2 _ _ _ _ _ f q⟩
def wipeL (l : List Sl) : List Nat → List Sl
  | [] => l
  | v :: vs => (wipeL l vs).set v .no
theorem Env.wipe {H0 S H : Hp} {s : L2.St} (h : Env K H0 S H s l) : ∀ vs : List Nat, Env K H0 S H (L2.wipe s vs) (wipeL l vs)
  | [] => h
  | v :: vs => (Env.wipe h vs).forget
section
variable {m : Addr → Prop} {S H S1 H1 S2 H2 : Hp} {p : Addr} {o : HO}
theorem Grow.putNew (g : Grow m S H S1 H1) (hp : H p = none) (hs : S1 p = none) (hx : H1 p ≠ none) : Grow m S H S1 (upd H1 p o) :=
  ⟨g.s, fun b x e => by rw [upd_ne (ne_of_none e hs)]; exact g.f b x e, g.n, fun a u hm e => by rw [upd_ne (ne_of_none e hp)]; exact g.k a u hm e, fun a e => by
    by_cases z : a = p
    · subst z; rw [upd_same]; exact fun q => nomatch q
    · rw [upd_ne z]; exact g.d a e, g.x⟩
theorem Grow.take (g : Grow m S H S1 H1) (hp : H p = none) (hx : H1 p = some o) (hs : S1 p = none) (ho : ∀ φ, o ≠ .ext φ := by intro φ z; cases z) : Grow m S H (upd S1 p o) H1 :=
  ⟨g.s.trans (same_up hs), fun b x e => by
    by_cases z : b = p
    · subst z; rw [upd_same] at e; rw [hx]; exact e
    · rw [upd_ne z] at e; exact g.f b x e, fun a e q => by
    have : a ≠ p := fun z => by subst z; exact q hp
    rw [upd_ne this]; exact g.n a e q, g.k, g.d, fun a φ e => g.x a φ (no_ext ho a φ e)⟩
end
def EvL (K : PySem.W.Frag) (te : TE) (l : List Sl) (ds : List PyData) : Prop := ∀ H0 S H s, Env K H0 S H s l → Same S H → ∀ Q : VK, (∀ p S' H' xs, Grow m0 S H S' H' → H p = none → S' p = none → H' p = some (.lst xs) → DpAll K S' xs ds → Q (.ref p) H') → te s H Q
end
end Dz

namespace Dz
open PySem L2 RZ

section
variable {K : PySem.W.Frag} {l l' : List Sl} {ta tb te : TE} {t u : TT} {a b c d : PyData} {r : R2} {ds : List PyData} {i : Nat} {o : Addr}
structure Cn where
  K : PySem.W.Frag
  m : Addr → Prop
  S0 : Hp
  H0 : Hp
  Sb : Hp
structure At (C : Cn) (l : List Sl) (s : L2.St) (H : Hp) : Prop where
  ex : ∃ S, Grow C.m C.S0 C.H0 S H ∧ Env C.K C.H0 S H s l ∧ Same C.Sb S
  tw : ∀ t n, Sl.town t n ∈ l → C.m t
inductive Weak : List Sl → List Sl → Prop
  | nil : Weak [] []
  | same {x : Sl} {l l' : List Sl} : Weak l l' → Weak (x :: l) (x :: l')
  | no {x : Sl} {l l' : List Sl} : Weak l l' → Weak (x :: l) (.no :: l')
theorem Weak.len (h : Weak l l') : l.length = l'.length := by
  induction h with
  | nil => rfl
  | same _ ih => simp [ih]
  | no _ ih => simp [ih]
theorem Weak.get (h : Weak l l') : ∀ {j : Nat} {x : Sl}, l'[j]? = some x → x = .no ∨ l[j]? = some x := by
  induction h with
  | nil => intro j x e; simp at e
  | same _ ih =>
    intro j x e
    cases j with
    | zero => simp at e; exact .inr (by simpa using e)
    | succ j => simpa using ih (by simpa using e)
  | no _ ih =>
    intro j x e
    cases j with
    | zero => simp at e; exact .inl e.symm
    | succ j => simpa using ih (by simpa using e)
theorem Weak.muts (h : Weak l l') : (muts l').Sublist (muts l) := by
  induction h with
  | nil => exact List.Sublist.refl _
  | @same x l l' _ ih =>
    show (List.filterMap Sl.adr (x :: l')).Sublist (List.filterMap Sl.adr (x :: l))
    rw [List.filterMap_cons, List.filterMap_cons]
    cases x.adr with
    | none => exact ih
    | some y => exact ih.cons₂ _
  | @no x l l' _ ih =>
    show (List.filterMap Sl.adr (.no :: l')).Sublist (List.filterMap Sl.adr (x :: l))
    rw [List.filterMap_cons, List.filterMap_cons]
    show (List.filterMap Sl.adr l').Sublist _
    cases x.adr with
    | none => exact ih
    | some y => exact ih.cons _
end
section
variable {C : Cn} {l l' : List Sl} {ta tb te : TE} {t u : TT} {a b c d : PyData} {ds : List PyData} {i : Nat} {o : Addr} {s : L2.St} {H : Hp} {D : Ends} {tu tv : TS} {x y : Sl}
theorem tw_set {m : Addr → Prop} (h : ∀ t n, Sl.town t n ∈ l → m t) (hx : ∀ t n, y ≠ .town t n) : ∀ t n, Sl.town t n ∈ l.set i y → m t := fun t n hm => by
  rcases List.mem_or_eq_of_mem_set hm with q | q
  · exact h t n q
  · exact absurd q.symm (hx t n)
theorem At.step {v : V} (h : At C l s H) (he : Ev C.K te l d) {Q : VK} (q : ∀ v S' H', Grow C.m C.S0 C.H0 S' H' → Env C.K C.H0 S' H' s l → Same C.Sb S' → Dp C.K S' v d → Q v H') : te s H Q := by
  obtain ⟨S, g, e, b⟩ := h.ex
  exact he C.H0 S H s e g.f Q fun v S' H' g1 d1 => q v S' H' (g.trans g1.any) (e.grow g1) (b.trans g1.s) d1
theorem At.put {es : List PyData} {S H' : Hp} {ys : List V} (tw : ∀ t n, Sl.town t n ∈ l → C.m t) (g : Grow C.m C.S0 C.H0 S H) (e : Env C.K C.H0 S H s l) (b : Same C.Sb S) (hi : l[i]? = some (.own o ds)) (hd : DpAll C.K S ys es) :
    At C (l.set i (.own o es)) s (upd H o (.lst ys)) := by
  obtain ⟨v, hv, rfl, h0, hS, xs, hx, _⟩ := e.ok i _ hi
  have hk : ∀ c w, c ≠ o → H c = some w → upd H o (.lst ys) c = some w := fun c w hc hw => by rw [upd_ne hc]; exact hw
  refine ⟨⟨S, g.putNew h0 hS (some_ne hx), e.put hi rfl rfl (Same.refl S) (fun _ z _ => z) hk fun v ok => ?_, b⟩, tw_set tw fun _ _ z => nomatch z⟩
  obtain ⟨e1, e2, e3, _⟩ := ok
  exact ⟨e1, e2, e3, ys, upd_same, hd⟩
abbrev Cn.at_ (C : Cn) (S : Hp) : Cn := { C with Sb := S }
end
end Dz

namespace Dz
open PySem PySem.SeqAt PyProof.Rows L2 RZ

theorem OpR_or {X : Cx} {f : Value → Value → Sem Value} {r r' : R2} (h : OpR X f r) (h' : OpR X f r') : OpR X f (fun x y H Q => r x y H Q ∨ r' x y H Q) := fun pins s σ H x y v u Q I rx ry q =>
  q.elim (fun q => h pins s σ H x y v u Q I rx ry q) fun q => h' pins s σ H x y v u Q I rx ry q
theorem SlR_or {X : Cx} {r r' : V → Option Int → Option Int → Hp → VK → Prop} (h : SlR X r) (h' : SlR X r') : SlR X (fun x lo hi H Q => r x lo hi H Q ∨ r' x lo hi H Q) := fun pins s σ H x v vl vu lo hi sl Q I rx hs pl pu q =>
  q.elim (fun q => h pins s σ H x v vl vu lo hi sl Q I rx hs pl pu q) fun q => h' pins s σ H x v vl vu lo hi sl Q I rx hs pl pu q
theorem sl_any {X : Cx} : SlR X (rSlAny X.K) := SlR_or sl_list sl_tupA
def rCatL (K : PySem.W.Frag) : R2 := fun x y H Q => ∃ l b xs zs, x = .ref l ∧ y = .ref b ∧ SqL K H l xs ∧ SqL K H b zs ∧ xs.length + zs.length ≤ sizeLine ∧ ∀ p, H p = none → Q (.ref p) (upd H p (.lst (xs ++ zs)))
theorem op_catL {X : Cx} : OpR X (binaryOp .Add) (rCatL X.K) := by
  intro pins s σ H x y v u Q I rx ry h
  obtain ⟨l, b, xs, zs, rfl, rfl, hH, hB, hz, q⟩ := h
  cases rx
  cases ry
  obtain ⟨its, r, pl, z⟩ := I.list hH
  obtain ⟨its2, r2, pl2, z2⟩ := I.list hB
  obtain ⟨⟨cls, dd, data, sl⟩, ho, hc, n, hd⟩ := id pl.isList
  obtain ⟨⟨cls2, dd2, data2, sl2⟩, ho2, hc2, n2, hd2⟩ := id pl2.isList
  simp only at hc hd hc2 hd2
  subst hc hd hc2 hd2
  have e1 := r.length
  have e2 := r2.length
  have e : its.toArray ++ its2.toArray = (its ++ its2).toArray := by simp
  refine concat_meets ⟨_, ho, rfl⟩ ⟨_, ho2, rfl⟩ noFill_list_add seq_list_add PySem.F.slot_list_add PySem.F.entry_list_add (PySem.F.args_list_add_2 _ _) (PyProof.Rows.list_addW l b its.toArray its2.toArray n n2 dd dd2 sl sl2 (by simp only [List.size_toArray]; omega)) ⟨ho, ho2, ?_⟩
  rw [e]
  exact ⟨.ref _, _, I.lnew (t' := s.toks) (r.append r2) (by rw [List.length_append]; omega), rfl, q _ I.fresh⟩
def rAddS : R2 := fun x y H Q => ∃ i j, x = .str i ∧ y = .str j ∧ i.length + j.length ≤ sizeLine ∧ Q (.str (i ++ j)) H
def rPlus (K : PySem.W.Frag) : R2 := fun x y H Q => rI0 (fun i j => .int (i + j)) x y H Q ∨ (rCatL K x y H Q ∨ (rCatA K x y H Q ∨ rAddS x y H Q))
theorem op_plus {X : Cx} : OpR X (binaryOp .Add) (rPlus X.K) := OpR_or op_add (OpR_or op_catL (OpR_or op_catA op_add_str))
def rTimes : R2 := fun x y H Q => rI CMul (fun i j => .int (i * j)) x y H Q ∨ rRep x y H Q
theorem op_times {X : Cx} : OpR X (binaryOp .Mult) rTimes := OpR_or op_mul op_rep
def rEqA (K : PySem.W.Frag) : R2 := fun x y H Q => rEq x y H Q ∨ rEqD K x y H Q
def rNeA (K : PySem.W.Frag) : R2 := fun x y H Q => rNe x y H Q ∨ rNeD K x y H Q
theorem op_eqA {X : Cx} (hu : X.A.units + 64 < cLine) : OpR X (compareOp .Eq) (rEqA X.K) := OpR_or op_eq (op_eqD hu)
theorem op_neA {X : Cx} (hu : X.A.units + 64 < cLine) : OpR X (compareOp .NotEq) (rNeA X.K) := OpR_or op_ne (op_neD hu)
section
variable {K : PySem.W.Frag} {a b c : PyData} {r r' : R2} {l : List Sl} {ta tb te : TE}
theorem rd_l (h : RD K r a b c) : RD K (fun x y H Q => r x y H Q ∨ r' x y H Q) a b c := fun x y S H Q hs hx hy q => .inl (h x y S H Q hs hx hy q)
theorem rd_r (h : RD K r' a b c) : RD K (fun x y H Q => r x y H Q ∨ r' x y H Q) a b c := fun x y S H Q hs hx hy q => .inr (h x y S H Q hs hx hy q)
theorem rd_plusI {i j : Int} : RD K (rPlus K) (.int i) (.int j) (.int (i + j)) := rd_l (rd_I0 fun _ => .int _)
theorem rd_plusL {xs ys : List PyData} (hz : xs.length + ys.length ≤ 4000000) : RD K (rPlus K) (.list xs) (.list ys) (.list (xs ++ ys)) := rd_r (rd_l fun x y S H Q hs hx hy q => by
  cases hx with
  | lst h1 h2 =>
    cases hy with
    | lst h3 h4 => exact ⟨_, _, _, _, rfl, rfl, hs.seq h1, hs.seq h3, szl (by rw [DpAll_len h2, DpAll_len h4]; exact hz), new_lst hs (DpAll_app h2 h4) q⟩)
theorem rd_plusT {xs ys : List PyData} (hz : xs.length + ys.length ≤ 4000000) : RD K (rPlus K) (.tuple xs) (.tuple ys) (.tuple (xs ++ ys)) := rd_r (rd_r (rd_l fun x y S H Q hs hx hy q => by
  cases hx with
  | tup h1 h2 =>
    cases hy with
    | tup h3 h4 =>
      refine ⟨_, _, _, _, rfl, rfl, same_seqT hs h1, same_seqT hs h3, szl (by rw [DpAll_len h2, DpAll_len h4]; exact hz), fun e => ?_, fun _ e => ?_, fun _ _ => new_tup hs (DpAll_app h2 h4) q⟩
      · subst e
        cases h2
        exact q _ S H (Grow.refl hs) (.tup h3 h4)
      · subst e
        cases h4
        rw [List.append_nil] at q
        exact q _ S H (Grow.refl hs) (.tup h1 h2)))
theorem rd_plusS {i j : Str} (hz : i.length + j.length ≤ 4000000) : RD K (rPlus K) (.str i) (.str j) (.str (i ++ j)) := rd_r (rd_r (rd_r fun x y S H Q hs hx hy q => by
  cases hx
  cases hy
  exact ⟨i, j, rfl, rfl, szl hz, q _ S H (Grow.refl hs) (.str _)⟩))
theorem rd_eqA (h : RD K rEq a b c) : RD K (rEqA K) a b c := rd_l h
theorem rd_neA (h : RD K rNe a b c) : RD K (rNeA K) a b c := rd_l h
theorem rd_eqD (h1 : SeqAt.shaped a = true) (h2 : SeqAt.shaped b = true) : RD K (rEqA K) a b (.bool (PyData.eqv a b)) := rd_r fun x y S H Q hs hx hy q => ⟨a, b, Dp_mono hx hs, Dp_mono hy hs, h1, h2, q _ S H (Grow.refl hs) (.bl _)⟩
theorem rd_neD (h1 : SeqAt.shaped a = true) (h2 : SeqAt.shaped b = true) : RD K (rNeA K) a b (.bool (!PyData.eqv a b)) := rd_r fun x y S H Q hs hx hy q => ⟨a, b, Dp_mono hx hs, Dp_mono hy hs, h1, h2, q _ S H (Grow.refl hs) (.bl _)⟩
end
structure Cal (P : Program) (w : World) (K : PySem.W.Frag) (mg : Str → Option Value) (base : Heap) (k : Nat) (x : Str) (ps : List Str) (sp : Sp) : Prop where
  ex : ∃ f fd, FnOk P w K mg base CX0 k f fd ps sp ∧ mg x = some (.ref f) ∧ PySem.W.keepIn K (.ref f) = true ∧ Binds K fd ps []
theorem Cal.mono {P : Program} {w : World} {K : PySem.W.Frag} {mg : Str → Option Value} {base : Heap} {j k : Nat} {x : Str} {ps : List Str} {sp : Sp} (c : Cal P w K mg base j x ps sp) (h : j ≤ k) : Cal P w K mg base k x ps sp := by
  obtain ⟨f, fd, a, b⟩ := c.ex
  exact ⟨f, fd, a.mono h, b⟩
theorem Cal.imp {P : Program} {w : World} {K : PySem.W.Frag} {mg : Str → Option Value} {base : Heap} {k : Nat} {x : Str} {ps : List Str} {sp sp' : Sp} (c : Cal P w K mg base k x ps sp) (h : ∀ vs H Q E, sp' vs H Q E → sp vs H Q E) : Cal P w K mg base k x ps sp' := by
  obtain ⟨f, fd, a, b⟩ := c.ex
  exact ⟨f, fd, a.imp h, b⟩
theorem pe_cal {X : Cx} {k : Nat} {x : Str} {ps : List Str} {sp : Sp} {p pos : Pos} {e : Expr} {es : List Expr} {t : TA} (c : Cal X.prog X.w X.K X.mg X.base k x ps sp) (hr : Room k X.A) (ha : PA X (e :: es) t) (hg : Gl X x := by rfl)
    (hdb : (x == ("__debug__" : Str)) = false := by decide) (he : starEach (e :: es) X.env = (false, eval e X.env) :: starEach es X.env := by rfl) (hpl : (backTo pos (starEach es X.env)).any (·.1) = false := by rfl) :
    PE X (.Call (.Name x p) (e :: es) [] pos) (tCall sp [] E0 t) := by
  obtain ⟨f, fd, F, hm, hk, hb⟩ := c.ex
  exact pe_call F hr hg hm hk hb .nil pass0 ha hdb he hpl
def mt (t : Addr) : Addr → Prop := fun a => a = t
section
variable {K : PySem.W.Frag} {l l' : List Sl} {ta tb te : TE} {tt tu : TT} {a b c d : PyData} {r : R2} {ds : List PyData} {i it n n' : Nat} {t o : Addr} {H0 S H S' H' : Hp} {s : L2.St}
theorem Env.townAt (e : Env K H0 S H s l) (h : l[it]? = some (.town t n)) : TownAt H t n := by
  obtain ⟨v, _, _, _, q⟩ := e.ok it _ h
  exact q
theorem TownAt.grow (h : TownAt H t n) (g : Grow m0 S H S' H') : TownAt H' t n := by
  obtain ⟨ns, a, b⟩ := h
  exact ⟨ns, g.all _ _ a, b⟩
theorem Env.town (e : Env K H0 S H s l) (h : l[it]? = some (.town t n)) (g : Grow (mt t) S H S' H') (ht : TownAt H' t n') : Env K H0 S' H' s (l.set it (.town t n')) := by
  refine e.put h rfl rfl g.s g.n (fun b u hb hu => g.k b u hb hu) fun v ok => ?_
  obtain ⟨e1, e2, ns, e3, e4⟩ := ok
  exact ⟨e1, g.n t e2 (some_ne e3), ht⟩
end
section
variable {C : Cn} {l l' : List Sl} {ta tb te : TE} {tt : TT} {a b c d : PyData} {ds : List PyData} {i it n : Nat} {o t : Addr} {s : L2.St} {H : Hp} {D : Ends} {tu tv : TS}
theorem tw_town {m : Addr → Prop} {n' : Nat} (h : ∀ t n, Sl.town t n ∈ l → m t) (hi : l[it]? = some (.town t n)) : ∀ t' k, Sl.town t' k ∈ l.set it (.town t n') → m t' := fun t' k hm => by
  rcases List.mem_or_eq_of_mem_set hm with q | q
  · exact h t' k q
  · cases q
    exact h t n (List.mem_of_getElem? hi)
end
end Dz
namespace Dz
open PySem PySem.SeqAt PyProof.Rows L2 RZ
section
variable {K : PySem.W.Frag} {l : List Sl} {te : TE} {d : PyData} {it n : Nat} {t : Addr}
end
section
variable {C : Cn} {l : List Sl} {te tb : TE} {d : PyData} {it n : Nat} {t : Addr} {s : L2.St} {H : Hp} {D : Ends} {tu tv : TS}
end
end Dz
namespace Dz
open PySem L2
end Dz
namespace Dz
open PySem L2
section
variable {K : PySem.W.Frag} {l : List Sl} {tr : TA} {E : XK} {it n i0 : Nat} {t : Addr} {sc : PyData} {ds : List PyData}
end
end Dz

namespace Dz
open PySem PySem.SeqAt PyProof.Rows L2 RZ
section
variable {C : Cn} {l : List Sl} {ta tb te : TE} {a b d : PyData} {ds es : List PyData} {i j : Nat} {s : L2.St} {H : Hp} {D : Ends}
theorem At.own {S S' H' : Hp} {p : Addr} {xs : List V} (h : At C l s H) (g : Grow C.m C.S0 C.H0 S H) (e : Env C.K C.H0 S H s l) (b : Same C.Sb S) (g1 : Grow m0 S H S' H') (hp : H p = none) (sp : S' p = none) (hx : H' p = some (.lst xs)) (hd : DpAll C.K S' xs ds) :
    At C (l.set i (.own p ds)) (s.set i (some (.ref p))) H' := by
  have e' := e.grow g1
  have h0 : C.H0 p = none := by
    cases hq : C.H0 p with
    | none => rfl
    | some u => exact absurd hp (g.d p (some_ne hq))
  have hm : p ∉ muts l := fun z => (e.there z).1 hp
  exact ⟨⟨S', g.trans g1.any, e'.fresh rfl hm ⟨rfl, h0, sp, xs, hx, hd⟩, b.trans g1.s⟩, tw_set h.tw fun _ _ z => nomatch z⟩
end
end Dz
namespace Dz
open PySem PySem.SeqAt PyProof.Rows L2 RZ
section
variable {K : PySem.W.Frag} {l : List Sl} {ta tb te : TE} {a b d : PyData} {ds es : List PyData} {i j it n : Nat} {t : Addr}
theorem TownAt.le {H : Hp} {n' : Nat} (h : TownAt H t n) (h1 : n ≤ n') (h0 : 0 < n) : TownAt H t n' := by
  obtain ⟨ns, a, b, c⟩ := h
  exact ⟨ns, a, by omega, fun _ => c h0⟩
end
section
variable {C : Cn} {l : List Sl} {s : L2.St} {H : Hp} {it n n' : Nat} {t : Addr}
theorem At.room (h : At C l s H) (hi : l[it]? = some (.town t n)) (h1 : n ≤ n') (h0 : 0 < n) : At C (l.set it (.town t n')) s H := by
  obtain ⟨S, g, e, b⟩ := h.ex
  exact ⟨⟨S, g, e.town hi (Grow.refl g.f) ((e.townAt hi).le h1 h0), b⟩, tw_town h.tw hi⟩
end
end Dz

namespace Dz
open PySem PySem.SeqAt PyProof.Rows L2 RZ SrtO
section
variable {X : Cx} (K : PySem.W.Frag)
theorem k_ix (h : X.K = K := by rfl) : IxR X (rIx K) := h ▸ ix_seq
theorem k_sl (h : X.K = K := by rfl) : SlR X (rSlAny K) := h ▸ sl_any
theorem k_plus (h : X.K = K := by rfl) : OpR X (binaryOp .Add) (rPlus K) := h ▸ op_plus
theorem k_eq (hu : X.A.units + 64 < cLine) (h : X.K = K := by rfl) : OpR X (compareOp .Eq) (rEqA K) := h ▸ op_eqA hu
theorem k_ne (hu : X.A.units + 64 < cLine) (h : X.K = K := by rfl) : OpR X (compareOp .NotEq) (rNeA K) := h ▸ op_neA hu
theorem k_len (h : X.K = K := by rfl) : CallR X (.builtin "len") (rLenK K) := h ▸ call_len_seq
theorem k_tuple (h : X.K = K := by rfl) : CallR X (.type "tuple") (rTupleK K) := h ▸ call_tuple_of
theorem k_max (hc : X.calm = true) (h : X.K = K := by rfl) : CallR X (.builtin "max") (rMax K) := h ▸ cr_max hc
theorem k_isi (h : X.K = K := by rfl) : CallR X (.builtin "isinstance") (rIsi K) := h ▸ call_isi
theorem k_seq {tg e : Expr} {tl : TE} (p : PE X e tl) (h : X.K = K := by rfl) : PI X tg e (iSeq K tl) := h ▸ pi_seq p
theorem k_tru {a : Expr} {ta : TE} (ha : PE X a ta) (he : ∀ whole, isTrue a X.env whole = (do let v ← whole; standAt a.pos; holding [v] (truthy v))) (h : X.K = K := by rfl) : PT X a (fun σ H Q => ta σ H fun x H' => ∃ k, TruV K x H' k ∧ Q k H') := h ▸ pt_truth ha he
theorem k_notT {a : Expr} {ta : TE} {pos : Pos} (ha : PE X a ta) (h : X.K = K := by rfl) : PE X (.UnaryOp .Not a pos) (tNotT K ta) := h ▸ pe_notT ha
theorem k_tup {es : List Expr} {k : Nat} {t : TGs} {n : Nat} {pos : Pos} (hc : X.calm = true) (p : PGs X es t) (h : X.K = K := by rfl)
    (hn : (assignEach es X.env).length = n := by rfl) (hst : (assignEach es X.env).findIdx? (·.1) = none := by rfl) : PG X (.Tuple es k pos) (gTup K n t) := by
  subst h
  exact pg_tup hc p hn hst
end
end Dz

namespace Dz
open PySem PySem.SeqAt PyProof.Rows L2 RZ
section
variable {K : PySem.W.Frag} {l : List Sl} {ta tb te : TE} {tr : TA} {E : XK} {a b c d : PyData} {ds : List PyData} {it n : Nat} {t : Addr}
def tyN : PyData → String
  | .none => "NoneType"
  | .bool _ => "bool"
  | .int _ => "int"
  | .str _ => "str"
  | .list _ => "list"
  | .tuple _ => "tuple"
  | .dict _ => "dict"
theorem tyX_of {S H : Hp} {v : V} (hs : Same S H) (h : Dp K S v a) : TyX K H v (.type (tyN a)) := by
  cases h with
  | non => exact .base .non
  | bl b => exact .base (.bl b)
  | int i => exact .base (.int i)
  | str x => exact .base (.str x)
  | lst h1 h2 =>
    rcases h1 with (h1 | ⟨o, h1⟩) | ⟨o, its, n, h1, h2, _⟩
    · exact .base (.lst (hs _ _ h1))
    · exact .base (.frz (hs _ _ h1))
    · exact .kList h1 h2
  | tup h1 h2 =>
    rcases h1 with (h1 | ⟨o, h1⟩) | ⟨o, its, n, h1, h2, _⟩
    · exact .base (.tup (hs _ _ h1))
    · exact .fTuple (hs _ _ h1)
    · exact .kTuple h1 h2
end
theorem Cal.zero {P : Program} {w : World} {K : PySem.W.Frag} {mg : Str → Option Value} {base : Heap} {x : Str} {ps : List Str} {sp : Sp} {f : Addr} {fd : FuncData} (hsp : ∀ vs H Q E, ¬ sp vs H Q E) (hm : mg x = some (.ref f)) (hk : PySem.W.keepIn K (.ref f) = true) (hb : Binds K fd ps []) : Cal P w K mg base 0 x ps sp :=
  ⟨f, fd, ⟨fun vs H Q E h => absurd h (hsp vs H Q E), fun A outer s H args us vs Q E hr he hb' hv h => absurd h (hsp vs H Q E)⟩, hm, hk, hb⟩
theorem in65 {k : Nat} {A : Around} (r : Room k A) : A.units + 65 < cLine := by have := r.un; omega
end Dz
namespace Dz
open PySem L2
end Dz
namespace Dz
open PySem L2
end Dz

namespace Dz
open PySem PySem.SeqAt PyProof.Rows L2 RZ SrtO
theorem kbn0 {K : PySem.W.Frag} {x qual : Str} {params : Arguments} {body : List Stmt} {scope : Scope} {kws : List (Str × V)} {f : Addr} {fd : FuncData} {ps : List Str} (F : FunD K x qual params body scope [] kws f fd) (hk : kws ≠ []) (n : Nat) (ks : List Str) (ms : List (Str × V)) (hms : ∀ q, q ∈ ms → q ∈ kws)
    (g : {α : Type} → List α → List α → List α → List α) (hg : ∀ {vs mz zs : List V} {us mv ws : List Value}, Vals vs us → Vals mz mv → Vals zs ws → Vals (g vs mz zs) (g us mv ws))
    (h : ∀ (D : Addr) (doc pm : Value) (an : Option Addr) (cdv ct : Value) (us mv ws : List Value), us.length = n → mv.length = ms.length → ws.length = ks.length →
      KwChain D ((ms.map (·.1)).zip mv) (bindArgs (PySem.W.fnOf x qual params body scope .none (.ref D) doc pm an cdv ct) { pos := us, kw := ks.zip ws }) (ps.zip (g us mv ws))) :
    ∃ mv, KBn K fd ps n ks (fun us ws => g us mv ws) (fun vs zs => g vs (ms.map (·.2)) zs) := by
  obtain ⟨oc, od, dV, kV, doc, pm, an, cdv, ct, osl, rfl, _, _, hd, hw⟩ := F.ex
  rcases hd with ⟨_, rfl⟩ | ⟨z, _⟩
  · rcases hw with rfl | ⟨D, rfl, hw⟩
    · exact absurd rfl hk
    · obtain ⟨mv, l1, r1, q1⟩ := kwd_vals (K := K) (D := D) (ms := ms) fun q hq => hw q (hms q hq)
      refine ⟨mv, ⟨fun s us ws hK h1 h2 => ?_, fun r r2 => hg r r1 r2⟩⟩
      exact BindsTo.of_looks fun M => KwChain.looks hK q1 (h D doc pm an cdv ct us mv ws h1 l1 h2)
  · exact absurd rfl z
structure CalK (P : Program) (w : World) (K : PySem.W.Frag) (mg : Str → Option Value) (base : Heap) (k : Nat) (x : Str) (ps : List Str) (n : Nat) (ks : List Str) (gV : List V → List V → List V) (sp : Sp) : Prop where
  ex : ∃ f fd g, FnOk P w K mg base CX0 k f fd ps sp ∧ mg x = some (.ref f) ∧ PySem.W.keepIn K (.ref f) = true ∧ KBn K fd ps n ks g gV
theorem CalK.mono {P : Program} {w : World} {K : PySem.W.Frag} {mg : Str → Option Value} {base : Heap} {j k n : Nat} {x : Str} {ps ks : List Str} {gV : List V → List V → List V} {sp : Sp} (c : CalK P w K mg base j x ps n ks gV sp) (h : j ≤ k) : CalK P w K mg base k x ps n ks gV sp := by
  obtain ⟨f, fd, g, a, b⟩ := c.ex
  exact ⟨f, fd, g, a.mono h, b⟩
structure CalD (P : Program) (w : World) (K : PySem.W.Frag) (mg : Str → Option Value) (base : Heap) (k : Nat) (x : Str) (ps : List Str) (dv : List V) (sp : Sp) : Prop where
  ex : ∃ f fd ds, FnOk P w K mg base CX0 k f fd ps sp ∧ mg x = some (.ref f) ∧ PySem.W.keepIn K (.ref f) = true ∧ Vals dv ds ∧ Binds K fd ps ds
theorem CalD.mono {P : Program} {w : World} {K : PySem.W.Frag} {mg : Str → Option Value} {base : Heap} {j k : Nat} {x : Str} {ps : List Str} {dv : List V} {sp : Sp} (c : CalD P w K mg base j x ps dv sp) (h : j ≤ k) : CalD P w K mg base k x ps dv sp := by
  obtain ⟨f, fd, g, a, b⟩ := c.ex
  exact ⟨f, fd, g, a.mono h, b⟩
variable {K : PySem.W.Frag} {l : List Sl}
def KwI (K : PySem.W.Frag) (D : Addr) (kws : List (Str × Int)) : Prop := ∀ q, q ∈ kws → ∃ t, PySem.W.nsIn K D q.1 = some (some (.int q.2 t))
structure DefAtK (K : PySem.W.Frag) (x : Str) (st : Stmt) (kws : List (Str × Int)) : Prop where
  at_ : ∃ (f : Addr) (oc : Value) (od : Option Addr) (D : Addr) (dc pm : Value) (an : Option Addr) (cd ct : Value) (sl : Array (Option Value)), PySem.W.nsIn K mainGlobals x = some (some (.ref f)) ∧
    K.lookup f = some ⟨oc, od, .func (PySem.W.fnOf x x (defArgs st) (defBody st) (defScope st) .none (.ref D) dc pm an cd ct), sl⟩ ∧ PySem.W.codeIn K cd x = true ∧ PySem.W.keepIn K (.ref f) = true ∧ KwI K D kws
abbrev FunK (K : PySem.W.Frag) (x : Str) (st : Stmt) (kws : List (Str × Int)) (f : Addr) (fd : FuncData) : Prop := FunD K x x (defArgs st) (defBody st) (defScope st) [] (kws.map fun q => (q.1, V.int q.2)) f fd
theorem DefAtK.ex {K : PySem.W.Frag} {x : Str} {st : Stmt} {kws : List (Str × Int)} {h : Heap} {mg : Str → Option Value} (d : DefAtK K x st kws) (X : K.In h) (G : h.Ns mainGlobals mg) : ∃ (f : Addr) (fd : FuncData), FunK K x st kws f fd ∧ mg x = some (.ref f) := by
  obtain ⟨f, oc, od, D, dc, pm, an, cd, ct, sl, a, l, c, k, q⟩ := d.at_
  refine ⟨f, _, ⟨⟨oc, od, .none, .ref D, dc, pm, an, cd, ct, sl, rfl, l, c, .inl ⟨rfl, rfl⟩, .inr ⟨D, rfl, fun p hp => ?_⟩⟩, k⟩, PySem.W.mg_of X G a⟩
  obtain ⟨u, hu, rfl⟩ := List.mem_map.mp hp
  obtain ⟨tk, ht⟩ := q u hu
  exact ⟨_, ht, ⟨_, rfl⟩⟩
section
variable {it n : Nat} {t : Addr} {ta tb te : TE} {tt : TT} {tr : TA} {r : V → V → Hp → VK → Prop} {R : PyData → Nat → Prop} {RA : List PyData → Nat → Prop} {RB : Bool → Nat → Prop}
end
section
variable {C : Cn} {l' : List Sl} {te : TE} {i it n : Nat} {t : Addr} {s : L2.St} {H : Hp} {D : Ends} {g : TG}
end
section
variable {C : Cn} {ta tb : TE} {a : PyData} {ds : List PyData} {i j : Nat} {s : L2.St} {H : Hp} {D : Ends}
end
section
variable {C : Cn} {ta : TA} {ds : List PyData} {i j m it n : Nat} {t : Addr} {s : L2.St} {H : Hp} {D : Ends}
end
end Dz

namespace Dz
open PySem PySem.SeqAt PyProof.Rows L2 RZ
def BdG (K : PySem.W.Frag) (g : TG) (l : List Sl) (d : PyData) (l' : List Sl) : Prop := ∀ H0 S H s v (Q : L2.St → Hp → Prop), Env K H0 S H s l → Same S H → Dp K S v d → (∀ s' S' H', Grow m0 S H S' H' → Env K H0 S' H' s' l' → Q s' H') → g v s H Q
section
variable {K : PySem.W.Frag} {l l' : List Sl} {ds : List PyData} {n i : Nat} {t : TGs}
end
def keyD : Key → PyData
  | .inl i => .int i
  | .inr x => .str x
def putG {κ β : Type} [DecidableEq κ] (kvs : List (κ × β)) (k : κ) (v : β) : List (κ × β) := if (kvs.any fun kv => decide (kv.1 = k)) = true then kvs.map (fun kv => if kv.1 = k then (kv.1, v) else kv) else kvs ++ [(k, v)]
def valG {κ β : Type} [DecidableEq κ] (kvs : List (κ × β)) (k : κ) : Option β := (kvs.find? fun kv => decide (kv.1 = k)).map (·.2)
def dropG {κ β : Type} [DecidableEq κ] (kvs : List (κ × β)) (k : κ) : List (κ × β) := kvs.filter fun kv => decide (kv.1 ≠ k)
section
variable {K : PySem.W.Frag} {S S1 H H1 : Hp} {ws : List (Key × V)} {kvs : List (Key × PyData)} {k : Key} {v : V} {d : PyData}
theorem KvD.len (h : KvD K S ws kvs) : ws.length = kvs.length := by
  induction h with
  | nil => rfl
  | cons _ _ ih => simp [ih]
theorem KvD.val (h : KvD K S ws kvs) : (∀ d, valG kvs k = some d → ∃ v, valV ws k = some v ∧ Dp K S v d) ∧ (valG kvs k = none → valV ws k = none) := by
  induction h with
  | nil => exact ⟨fun d z => (by cases z), fun _ => rfl⟩
  | @cons w x ws kvs hq _ ih =>
    obtain ⟨e, hd⟩ := hq
    unfold valG valV at *
    rw [List.find?_cons, List.find?_cons]
    by_cases hk : x.1 = k
    · have hk' : w.1 = k := by rw [e]; exact hk
      rw [decide_eq_true hk, decide_eq_true hk']
      refine ⟨fun d z => ⟨w.2, rfl, ?_⟩, fun z => by cases z⟩
      cases z
      exact hd
    · have hk' : ¬ w.1 = k := by rw [e]; exact hk
      rw [decide_eq_false hk, decide_eq_false hk']
      exact ih
theorem KvD.anyK (h : KvD K S ws kvs) : (ws.any fun kv => decide (kv.1 = k)) = kvs.any fun kv => decide (kv.1 = k) := by
  induction h with
  | nil => rfl
  | cons hq _ ih => rw [List.any_cons, List.any_cons, ih, hq.1]
theorem KvD.app {ws' : List (Key × V)} {kvs' : List (Key × PyData)} (h : KvD K S ws kvs) (h' : KvD K S ws' kvs') : KvD K S (ws ++ ws') (kvs ++ kvs') := by
  induction h with
  | nil => exact h'
  | cons hq _ ih => exact .cons hq ih
theorem KvD.over (h : KvD K S ws kvs) (hd : Dp K S v d) : KvD K S (ws.map fun kv => if kv.1 = k then (kv.1, v) else kv) (kvs.map fun kv => if kv.1 = k then (kv.1, d) else kv) := by
  induction h with
  | nil => exact .nil
  | @cons w x ws kvs hq _ ih =>
    refine .cons ?_ ih
    show (if w.1 = k then (w.1, v) else w).1 = (if x.1 = k then (x.1, d) else x).1 ∧ Dp K S (if w.1 = k then (w.1, v) else w).2 (if x.1 = k then (x.1, d) else x).2
    rw [hq.1]
    split
    · exact ⟨rfl, hd⟩
    · exact hq
theorem KvD.put (h : KvD K S ws kvs) (hd : Dp K S v d) : KvD K S (putK ws k v) (putG kvs k d) := by
  unfold putK putG
  rw [h.anyK]
  split
  · exact h.over hd
  · exact h.app (.cons ⟨rfl, hd⟩ .nil)
theorem KvD.drop (h : KvD K S ws kvs) : KvD K S (dropK ws k) (dropG kvs k) := by
  unfold dropK dropG
  induction h with
  | nil => exact .nil
  | @cons w x ws kvs hq _ ih =>
    rw [List.filter_cons, List.filter_cons, hq.1]
    split
    · exact .cons hq ih
    · exact ih
theorem KvD.get {j : Nat} {x : Key × PyData} (h : KvD K S ws kvs) (e : kvs[j]? = some x) : ∃ v, ws[j]? = some (x.1, v) ∧ Dp K S v x.2 := by
  induction h generalizing j with
  | nil => simp at e
  | @cons w y ws kvs hq _ ih =>
    cases j with
    | zero =>
      simp at e
      subst e
      exact ⟨w.2, by rw [← hq.1]; rfl, hq.2⟩
    | succ j => simpa using ih (by simpa using e)
theorem key_dp (h : Dp K S v (keyD k)) : v = kV k := by
  cases k with
  | inl i => cases h; rfl
  | inr x => cases h; rfl
theorem dp_key : Dp K S (kV k) (keyD k) := by
  cases k with
  | inl i => exact .int i
  | inr x => exact .str x
theorem KvD.keys (h : KvD K S ws kvs) : DpAll K S (ws.map fun kv => kV kv.1) (kvs.map fun kv => keyD kv.1) := by
  induction h with
  | nil => exact .nil
  | @cons w x ws kvs hq _ ih =>
    refine .cons ?_ ih
    show Dp K S (kV w.1) (keyD x.1)
    rw [hq.1]
    exact dp_key
end
section
variable {K : PySem.W.Frag} {l : List Sl} {i : Nat} {o : Addr} {kvs : List (Key × PyData)} {k : Key} {ty tx : TE} {d : PyData}
theorem val_some {ws : List (Key × V)} {S : Hp} (h : KvD K S ws kvs) : (valV ws k).isSome = (valG kvs k).isSome := by
  cases hq : valG kvs k with
  | none => rw [h.val.2 hq]; rfl
  | some x => obtain ⟨v, hv, _⟩ := h.val.1 x hq; rw [hv]; rfl
def EvC (K : PySem.W.Frag) (te : TE) (l : List Sl) (kvs : List (Key × PyData)) : Prop := ∀ H0 S H s, Env K H0 S H s l → Same S H → ∀ Q : VK, (∀ p S' H' ws, Grow m0 S H S' H' → H p = none → S' p = none → H' p = some (.dK ws) → KvD K S' ws kvs → Q (.ref p) H') → te s H Q
end
section
variable {C : Cn} {l : List Sl} {i : Nat} {o : Addr} {kvs : List (Key × PyData)} {k : Key} {te ty : TE} {d : PyData} {s : L2.St} {H : Hp} {D : Ends}
theorem At.dct {S S' H' : Hp} {p : Addr} {ws : List (Key × V)} (h : At C l s H) (g : Grow C.m C.S0 C.H0 S H) (e : Env C.K C.H0 S H s l) (b : Same C.Sb S) (g1 : Grow m0 S H S' H') (hp : H p = none) (sp : S' p = none) (hx : H' p = some (.dK ws)) (hd : KvD C.K S' ws kvs) :
    At C (l.set i (.dct p kvs)) (s.set i (some (.ref p))) H' := by
  have e' := e.grow g1
  have h0 : C.H0 p = none := by
    cases hq : C.H0 p with
    | none => rfl
    | some u => exact absurd hp (g.d p (some_ne hq))
  have hm : p ∉ muts l := fun z => (e.there z).1 hp
  exact ⟨⟨S', g.trans g1.any, e'.fresh rfl hm ⟨rfl, h0, sp, ws, hx, hd⟩, b.trans g1.s⟩, tw_set h.tw fun _ _ z => nomatch z⟩
end
section
variable {K : PySem.W.Frag} {l : List Sl} {te tk : TE}
end
def zdel (S : Hp) (o : Addr) : Hp := fun a => if a = o then none else S a
theorem zdel_same {S : Hp} {o : Addr} : zdel S o o = none := by unfold zdel; rw [if_pos rfl]
theorem zdel_ne {S : Hp} {o a : Addr} (h : a ≠ o) : zdel S o a = S a := by unfold zdel; rw [if_neg h]
section
variable {K : PySem.W.Frag} {S : Hp} {o : Addr} {od : Obj} {ws : List (Key × V)}
theorem sql_del (h : S o = some (.frz od (.dK ws))) {a : Addr} {xs : List V} (q : SqL K S a xs) : SqL K (zdel S o) a xs := by
  rcases q with (q | ⟨o', q⟩) | q
  · refine .inl (.inl ?_)
    rw [zdel_ne (fun z => by rw [z, h] at q; cases q)]
    exact q
  · refine .inl (.inr ⟨o', ?_⟩)
    rw [zdel_ne (fun z => by rw [z, h] at q; cases q)]
    exact q
  · exact .inr q
theorem sqt_del (h : S o = some (.frz od (.dK ws))) {a : Addr} {xs : List V} (q : SqT K S a xs) : SqT K (zdel S o) a xs := by
  rcases q with (q | ⟨o', q⟩) | q
  · refine .inl (.inl ?_)
    rw [zdel_ne (fun z => by rw [z, h] at q; cases q)]
    exact q
  · refine .inl (.inr ⟨o', ?_⟩)
    rw [zdel_ne (fun z => by rw [z, h] at q; cases q)]
    exact q
  · exact .inr q
mutual
theorem dp_del (h : S o = some (.frz od (.dK ws))) : ∀ (d : PyData) (v : V), Dp K S v d → Dp K (zdel S o) v d
  | .none, _, q => by cases q; exact .non
  | .bool b, _, q => by cases q; exact .bl b
  | .int i, _, q => by cases q; exact .int i
  | .str x, _, q => by cases q; exact .str x
  | .list ds, _, q => by
    cases q with
    | lst hs ha => exact .lst (sql_del h hs) (dpAll_del h ds _ ha)
  | .tuple ds, _, q => by
    cases q with
    | tup hs ha => exact .tup (sqt_del h hs) (dpAll_del h ds _ ha)
  | .dict _, _, q => by cases q
theorem dpAll_del (h : S o = some (.frz od (.dK ws))) : ∀ (ds : List PyData) (vs : List V), DpAll K S vs ds → DpAll K (zdel S o) vs ds
  | [], _, q => by cases q; exact .nil
  | d :: ds, _, q => by
    cases q with
    | cons h1 h2 => exact .cons (dp_del h d _ h1) (dpAll_del h ds _ h2)
end
theorem kv_del (h : S o = some (.frz od (.dK ws))) {us : List (Key × V)} {kvs : List (Key × PyData)} (q : KvD K S us kvs) : KvD K (zdel S o) us kvs := Paired.mapP q fun _ _ z => ⟨z.1, dp_del h _ _ z.2⟩
end
section
variable {C : Cn} {l : List Sl} {i j : Nat} {o : Addr} {kvs : List (Key × PyData)} {te : TE} {s : L2.St} {H : Hp} {D : Ends}
end
theorem un1 {k : Nat} {A : Around} (r : Room k A) : A.units + 1 < cLine := by have := r.un; omega
end Dz

namespace Dz
open PySem PySem.Spec PySem.SeqAt PyProof.Rows L2 RZ LamX
structure Tag where
  a : Str
  ln : Nat
  b : Str
def Tag.one (q : Str) : Tag := ⟨q, 0, q⟩
def Tag.at_ (t : Tag) (l : Nat) : Str := if l ≤ t.ln then t.a else t.b
theorem Tag.one_at {q : Str} {l : Nat} : (Tag.one q).at_ l = q := ite_self q
structure Kx where
  P : Program
  w : World
  K : PySem.W.Frag
  mg : Str → Option Value
  base : Heap
  lev : Nat
  T : List (Addr × Tag)
instance : Coe Kx PySem.W.Frag := ⟨Kx.K⟩
def isTab (S H : Hp) (a : Addr) : Prop := S a = none ∧ ∃ ps, H a = some (.tbl ps)
def nqS : Str := "least_paper.<locals>.<lambda>" ++ ".<locals>." ++ "<lambda>"
def CodeP (c : Addr) (q : Str) (P : Addr) (h : Heap) : Prop := (∃ (oc : Obj) (vs : Array Value) (t : Tok), h.get? c = some oc ∧ oc.data = .fields vs ∧ vs[1]? = some (.str q t)) ∧ PySem.W.CodeHd h c P
def CodeN (c : Addr) (q : Str) (P : Addr) : HO := .ext (CodeP c q P)
theorem CodeP.stay {c : Addr} {q : Str} {P : Addr} {h h' : Heap} (x : CodeP c q P h) (k : ∀ o, h.get? c = some o → h'.get? c = some o) : CodeP c q P h' := by
  obtain ⟨⟨oc, vs, t, e1, e2, e3⟩, o, us, file, tf, flags, tg, inF, text, tt, f1, f2⟩ := x
  exact ⟨⟨oc, vs, t, k _ e1, e2, e3⟩, o, us, file, tf, flags, tg, inF, text, tt, k _ f1, f2⟩
theorem CodeP.rec {c : Addr} {q : Str} {P : Addr} {h : Heap} (x : CodeP c q P h) : h.CodeRec (.ref c) q := by
  obtain ⟨⟨oc, vs, t, e1, e2, e3⟩, _⟩ := x
  exact ⟨c, oc, vs, t, rfl, e1, e2, e3⟩
theorem CodeP.tab {c : Addr} {q q' : Str} {P P' : Addr} {h : Heap} (x : CodeP c q P h) (y : CodeP c q' P' h) : P = P' := by
  obtain ⟨_, o, us, file, tf, flags, tg, inF, text, tt, f1, f2, f3, f4, _⟩ := x
  obtain ⟨_, o', us', file', tf', flags', tg', inF', text', tt', g1, g2, g3, g4, _⟩ := y
  rw [f1] at g1
  cases g1
  rw [f3] at g3
  cases g3
  rw [f4] at g4
  cases g4
  rfl
structure TabsOk (K : Kx) (S H : Hp) : Prop where
  st : ∀ p ∈ K.T, S p.1 = none ∧ ∃ ps : Array Value, H p.1 = some (.tbl ps) ∧ TriplesOk ps.toList ∧
    ∀ (pos : Pos) (cv : Value), codeAmong pos ps.toList = some cv → ∃ c P, cv = .ref c ∧ S c = some (CodeN c (p.2.at_ pos.line) P)
  ne : ∀ c q P, S c = some (CodeN c q P) → (∀ p ∈ K.T, p.1 ≠ P) ∧ K.base.BuiltinsAt K.mg P ∧ mainGlobals ≠ P ∧ S P = none ∧ ∃ ps : Array Value, H P = some (.tbl ps) ∧ TriplesOk ps.toList ∧
    ∀ (pos : Pos) (cv : Value), codeAmong pos ps.toList = some cv → ∃ c2, cv = .ref c2 ∧ ∃ oc, S c2 = some (.frz oc (.own c2)) ∧ ∃ (vs : Array Value) (t : Tok), oc.data = .fields vs ∧ vs[1]? = some (.str nqS t)
def spL (K : Kx) (F : List PyData → Option PyData) : Sp := fun vs H Q _ => ∃ S ds d, Same S H ∧ TabsOk K S H ∧ DpAll K S vs ds ∧ F ds = some d ∧
  ∀ w S' H', GrowT (isTab S H) S H S' H' → TabsOk K S' H' → Dp K S' w d → Q w H'
def spLc (K : Kx) (F : List PyData → Option PyData) (c : Addr) (q : Str) (P : Addr) (vs : List V) (H : Hp) (Q : VK) : Prop := ∃ S ds d, S c = some (CodeN c q P) ∧ Same S H ∧ TabsOk K S H ∧ DpAll K S vs ds ∧ F ds = some d ∧
  ∀ w S' H', GrowT (isTab S H) S H S' H' → TabsOk K S' H' → Dp K S' w d → Q w H'
theorem spLc.plain {K : Kx} {F : List PyData → Option PyData} {c : Addr} {q : Str} {P : Addr} {vs : List V} {H : Hp} {Q : VK} (E : XK) (h : spLc K F c q P vs H Q) : spL K F vs H Q E := by
  obtain ⟨S, ds, d, _, r⟩ := h
  exact ⟨S, ds, d, r⟩
def spLP (K : Kx) (F : List PyData → Option PyData) (P : Hp → Prop) (vs : List V) (H : Hp) (Q : VK) : Prop := ∃ S ds d, P S ∧ Same S H ∧ TabsOk K S H ∧ DpAll K S vs ds ∧ F ds = some d ∧
  ∀ w S' H', GrowT (isTab S H) S H S' H' → TabsOk K S' H' → Dp K S' w d → Q w H'
def KeepAt (f : Addr) (h : Heap) : Prop := ∀ M : Model, ∃ k, (k = PySem.Keeper.frame ∨ k = PySem.Keeper.machine ∨ k = PySem.Keeper.boundFrame) ∧ PySem.W.Looks M h (PySem.keeperOf (.ref f)) k
theorem KeepAt.fn {f : Addr} {h : Heap} (x : PySem.W.FnAt f h) : KeepAt f h := fun _ => PySem.W.keeps_F h x
structure FnP (K : Kx) (F : List PyData → Option PyData) (f : Addr) (P : Hp → Prop) : Prop where
  mono : ∀ S S1, Same S S1 → P S → P S1
  thaw : ∀ (S S1 : Hp) (o : Addr) (od : Obj) (ws : List (Key × V)), S o = some (.frz od (.dK ws)) → (∀ a, a ≠ o → S1 a = S a) → S1 o = none → P S → P S1
  at_ : ∀ (A : Around) (outer : List PySem.Env) (s : Shared) (H S : Hp), Env0 K.P K.w K.K K.mg K.base A outer s H → Same S H → P S → KeepAt f s.heap
  run : ∀ (A : Around) (outer : List PySem.Env) (s : Shared) (H : Hp) (us : List Value) (vs : List V) (Q : VK), Room K.lev A → Env0 K.P K.w K.K K.mg K.base A outer s H → Vals vs us → spLP K F P vs H Q →
    codeAny (model K.P K.w) A (.call (.ref f) ⟨us, []⟩) (CR C8.CX0 outer K.P K.w H s Q C8.E0) s
def FnV (K : Kx) (S : Hp) (v : V) (F : List PyData → Option PyData) : Prop := ∃ (f : Addr) (P : Hp → Prop), v = .ref f ∧ P S ∧ FnP K F f P
section
variable {K : Kx} {S S1 H H1 S2 H2 : Hp}
theorem FnV.mono {v : V} {F : List PyData → Option PyData} (h : FnV K S v F) (q : Same S S1) : FnV K S1 v F := by
  obtain ⟨f, P, e1, e2, e3⟩ := h
  exact ⟨f, P, e1, e3.mono _ _ q e2, e3⟩
theorem isTab.there {a : Addr} (q : isTab S H a) : H a ≠ none ∧ S a = none := ⟨by obtain ⟨_, ps, e⟩ := q; exact some_ne e, q.1⟩
theorem isTab.back {a : Addr} (q : isTab S1 H1 a) (s : Same S S1) (k : ∀ o, H a = some o → (∃ ps, o = .tbl ps) ∨ H1 a = some o) : isTab S H a ∨ H a = none := by
  cases e : H a with
  | none => exact .inr rfl
  | some o =>
    obtain ⟨q1, ps, q2⟩ := q
    have sa : S a = none := by
      cases es : S a with
      | none => rfl
      | some u => rw [s _ _ es] at q1; cases q1
    rcases k o e with ⟨ps', rfl⟩ | z
    · exact .inl ⟨sa, ps', e⟩
    · rw [z] at q2; cases q2; exact .inl ⟨sa, ps, e⟩
theorem TabsOk.there (_ : TabsOk K S H) {a : Addr} (q : isTab S H a) : H a ≠ none ∧ S a = none := q.there
theorem TabsOk.go (h : TabsOk K S H) (q : Same S S1) (n : ∀ a, isTab S H a → S1 a = none) (k : ∀ a o, isTab S H a → H a = some o → H1 a = some o) (x : ∀ a φ, S1 a = some (.ext φ) → S a = some (.ext φ) := by first | exact fun _ _ e => e | exact no_ext (by intro φ z; cases z)) : TabsOk K S1 H1 := by
  refine ⟨fun p hp => ?_, fun c q' P hc => ?_⟩
  · obtain ⟨h1, ps, h2, h3, h4⟩ := h.st p hp
    refine ⟨n _ ⟨h1, ps, h2⟩, ps, k _ _ ⟨h1, ps, h2⟩ h2, h3, fun pos cv hc => ?_⟩
    obtain ⟨c, P, e1, e2⟩ := h4 pos cv hc
    exact ⟨c, P, e1, q _ _ e2⟩
  · obtain ⟨h0, hb, hm, h1, ps, h2, h3, h4⟩ := h.ne c q' P (x _ _ hc)
    refine ⟨h0, hb, hm, n _ ⟨h1, ps, h2⟩, ps, k _ _ ⟨h1, ps, h2⟩ h2, h3, fun pos cv hc => ?_⟩
    obtain ⟨c2, e1, oc, e2, e3⟩ := h4 pos cv hc
    exact ⟨c2, e1, oc, q _ _ e2, e3⟩
theorem TabsOk.grow {m : Addr → Prop} (h : TabsOk K S H) (g : Grow m S H S1 H1) (hm : ∀ a, isTab S H a → ¬ m a) : TabsOk K S1 H1 :=
  h.go g.s (fun a ha => g.n a ha.there.2 ha.there.1) (fun a o ha e => g.k a o (hm a ha) e) g.x
theorem GrowT.refl (h : Same S H) : GrowT (isTab S H) S H S H := ⟨Same.refl S, h, fun _ e _ => e, fun _ _ _ e => e, fun _ e => e, fun _ ps e => ⟨ps, e⟩⟩
theorem GrowT.trans (a : GrowT (isTab S H) S H S1 H1) (b : GrowT (isTab S1 H1) S1 H1 S2 H2) : GrowT (isTab S H) S H S2 H2 :=
  ⟨a.s.trans b.s, b.f, fun x e q => b.n x (a.n x e q) (a.d x q), fun x u hm e => b.k x u (fun z => by
    rcases z.back a.s (fun o eo => by
      by_cases ht : ∃ ps, o = .tbl ps
      · exact .inl ht
      · exact .inr (a.k x o (fun z => by obtain ⟨_, ps, e2⟩ := z; rw [eo] at e2; exact ht ⟨ps, Option.some.inj e2⟩) eo)) with q | q
    · exact hm q
    · rw [q] at e; cases e) (a.k x u hm e), fun x e => b.d x (a.d x e), fun x ps e => by
    obtain ⟨p1, e1⟩ := a.t x ps e
    exact b.t x p1 e1⟩
end
end Dz

namespace Dz
open PySem PySem.Spec PySem.SeqAt PyProof.Rows L2 RZ LamX
def LamO (f : Addr) (q : Str) (ps : Arguments) (b : Expr) (sc : Scope) (cl : List (Str × Addr)) (pm : Value) (c : Addr) (ct : Value) : Heap → Prop := fun h => h.get? f = some (PySem.W.kla_obj "<lambda>" q ps b sc cl pm c ct)
section
variable {X : Cx} {K : Kx} {pins : List (Addr × Obj)} {σ : L2.St} {H S : Hp} {s : Shared}
theorem same_none (h : Same S H) {a : Addr} (e : H a = none) : S a = none := by
  cases q : S a with
  | none => rfl
  | some o => rw [h a o q] at e; cases e
theorem mk_new {M : Model} {A : Around} {E : Value → Shared → Prop} {Q : Value → Shared → Prop} {s : Shared} {nm q : Str} {ps : Arguments} {b : Expr} {sc : Scope} {env : PySem.Env} {c P : Addr} {tab : Array Value} {pos : Pos} {ln : Nat} {mg : Str → Option Value} {clos : List (Str × Addr)} (hcl : closureFor sc env = pure clos) (hg0 : env.globals = mainGlobals) (hg : s.heap.Ns mainGlobals mg) (hc : env.code = .ref c) (C : PySem.W.CodeHd s.heap c P) (hP : s.heap.get? P = some (PySem.W.tabObj tab)) (ht : TriplesOk tab.toList)
    (hn : codeAmong pos tab.toList = none) (hgP : mainGlobals ≠ P) (hb : s.heap.BuiltinsAt mg P)
    (h : ∀ c' P' ctv h' tk, Heap.ExtBut P s.heap h' → s.heap.objs.size ≤ c' → s.heap.objs.size ≤ P' → c' ≠ P' → c' < h'.objs.size → CodeP c' q P' h' → h'.get? P' = some (PySem.W.tabObj #[]) → h'.get? P = some (PySem.W.tabObj (tab ++ #[rawInt pos.line, rawInt pos.col, .ref c'])) →
      Q (.ref h'.objs.size) { s with heap := h'.push (PySem.W.kla_obj nm q ps b sc clos ((mg "__name__").getD .none) c' ctv), toks := tk }) : wpAny M A (makeFunction nm q ps (.expr b) sc env [] [] [] pos ln) Q E s := by
  obtain ⟨bm, ob, b1, b2, b3, b4, b5, b6, b7, b8⟩ := hb
  have mk : ∀ {h0 : Heap} {ctv : Value} (k0 : ∀ a o, s.heap.get? a = some o → h0.get? a = some o) (l0 : s.heap.objs.size ≤ h0.objs.size) (g0 : h0.Ns mainGlobals mg) (T : Heap → Tok → Shared) (eT : ∀ h' tk, T h' tk = { s with heap := h', toks := tk }) (c' : Addr) (h' : Heap) (tk : Tok), Heap.ExtBut P h0 h' → h0.objs.size ≤ c' → c' < h'.objs.size → h'.CodeRec (.ref c') q → h'.get? P = some (PySem.W.tabObj (tab ++ #[rawInt pos.line, rawInt pos.col, .ref c'])) → (∃ P', h0.objs.size ≤ P' ∧ h'.IsCode c' P' #[] ∧ h'.TableAt c' P' #[]) →
      Q (.ref h'.objs.size) { s with heap := h'.push (PySem.W.kla_obj nm q ps b sc clos ((mg "__name__").getD .none) c' ctv), toks := tk } := fun {h0 ctv} k0 l0 g0 T eT c' h' tk hx hge hlt hrec htb ⟨P', hP', i1, i2⟩ => by
    obtain ⟨c2, oc, us, t, e2, hoc, hd, hv⟩ := hrec
    cases e2
    have hd2 : PySem.W.CodeHd h' c' P' := PySem.W.CodeHd.of i1 i2
    have hne : c' ≠ P' := by obtain ⟨o, vs, f, tf, fl, tg, iF, tx, tt, z1, z2, z3, z4, z5, z6, z7, z8, z9, z10⟩ := hd2; exact z10
    exact h c' P' ctv h' tk (fun a o ha e => hx a o ha (k0 a o e)) (Nat.le_trans l0 hge) (Nat.le_trans l0 hP') hne hlt ⟨⟨oc, us, t, hoc, hd, hv⟩, hd2⟩ i2.2 htb
  rw [makeFunction_eq]
  simp only [List.zip_nil_right, List.filterMap_nil, List.isEmpty_nil, if_true, pure_bind]
  unfold makeTail
  rw [hcl, hg0]
  refine wpAny_bind (wpAny_pure (?_ : _))
  by_cases hcn : clos = []
  · subst hcn
    rw [show ([] : List (Str × Addr)).isEmpty = true from rfl, if_pos rfl]
    refine wpAny_bind (wpAny_pure (?_ : _))
    refine wpAny_bind (PySem.wpAny_functionCodeX hc (C.code hP ht) (C.tab hP) hn fun c' h' tk hx hge hlt _ hrec htb hnew => (?_ : _))
    refine wpAny_bind (wpAny_builtinsFor (hg.extBut hx hgP) b1 b2 (hx _ _ b4 b5) b6 b7 b8 (wpAny_bind (wpAny_nsGet (hg.extBut hx hgP) (wpAny_bind (wpAny_pure (wpAny_newObj_type (?_ : _) (by size_fits)))))))
    exact mk (fun _ _ e => e) (Nat.le_refl _) hg (fun h' tk => { s with heap := h', toks := tk }) (fun _ _ => rfl) c' h' tk hx hge hlt hrec htb.2 hnew
  · rw [if_neg (by simp [List.isEmpty_iff, hcn])]
    have kp : ∀ {o1 : Obj} (a : Addr) (o : Obj), s.heap.get? a = some o → (s.heap.push o1).get? a = some o := fun a o e => Heap.get?_push_of_some _ e
    refine wpAny_bind (wpAny_newTextTuple (?_ : _))
    refine wpAny_bind (PySem.wpAny_functionCodeX hc ((C.keeps kp).code (kp _ _ hP) ht) ((C.keeps kp).tab (kp _ _ hP)) hn fun c' h' tk hx hge hlt _ hrec htb hnew => (?_ : _))
    refine wpAny_bind (wpAny_builtinsFor ((hg.push _).extBut hx hgP) b1 b2 (hx _ _ b4 (kp _ _ b5)) b6 b7 b8 (wpAny_bind (wpAny_nsGet ((hg.push _).extBut hx hgP) (wpAny_bind (wpAny_pure (wpAny_newObj_type (?_ : _) (by size_fits)))))))
    exact mk kp (by rw [Heap.size_push]; exact Nat.le_succ _) (hg.push _) (fun h' tk => { s with heap := h', toks := tk }) (fun _ _ => rfl) c' h' tk hx hge hlt hrec htb.2 hnew
theorem inv_tabs {P : Addr} {ps more : Array Value} {h' : Heap} {t' : Nat} {H' : Hp} (I : Inv X pins σ H s) (hP : H P = some (.tbl ps)) (k : ∀ b o, b ≠ P → s.heap.get? b = some o → h'.get? b = some o) (hm : h'.get? P = some { cls := .none, data := .fields (ps ++ more) }) (hP' : H' P = some (.tbl (ps ++ more)))
    (old : ∀ b u, b ≠ P → H b = some u → H' b = some u) (new : ∀ b u, H' b = some u → b = P ∨ H b = some u ∨ (@LE.le Nat _ s.heap.objs.size b ∧ ObjOk X.prog X.w H' h' b u)) : Inv X pins σ H' { s with heap := h', toks := t' } := by
  have nP : ∀ b, H b = none → b ≠ P := fun b e z => by rw [z, hP] at e; cases e
  have oldT : ∀ b u, H b = some u → (∀ q, u ≠ .tbl q) → H' b = some u := fun b u e hu => old b u (fun z => by rw [z, hP] at e; exact hu ps (Option.some.inj e).symm) e
  refine I.step (g' := s.gens) (d' := s.drawn) (ch := []) (fun b hb => nomatch hb) (fun b o _ _ _ e n => k b o (nP b n) e) (fun b o _ _ _ e n => ⟨o.slots, k b o (nP b n) e⟩) (fun b o _ e n => ?_) (fun b o _ e => ?_)
    (fun b xs e => oldT b _ e fun q z => nomatch z) (fun b o u e => oldT b _ e fun q z => nomatch z) (fun b qs e => ?_) (fun m hn => ?_) (fun b u e => ?_) I.bare
  · cases q : H' b with
    | none => rfl
    | some u =>
      rcases new b u q with z | z | ⟨z, _⟩
      · exact absurd z (nP b n)
      · rw [n] at z; cases z
      · exact absurd (Nat.lt_of_lt_of_le (Heap.lt_size e) z) (Nat.lt_irrefl _)
  · by_cases hb : b = P
    · rw [hb]; exact ⟨_, hm⟩
    · exact ⟨o, k b o hb e⟩
  · by_cases hb : b = P
    · rw [hb] at e ⊢
      rw [hP] at e
      cases e
      exact ⟨more, hP'⟩
    · exact ⟨#[], by rw [old b _ hb e]; simp⟩
  · obtain ⟨ob, es, ep, ho, r⟩ := hn
    exact ⟨ob, es, ep, k _ ob (nP _ I.free) ho, r⟩
  · by_cases hb : b = P
    · rw [hb] at e ⊢
      rw [hP'] at e
      cases e
      exact hm
    · rcases new b u e with z | z | ⟨_, z⟩
      · exact absurd z hb
      · refine (I.hok b u z).stay (fun d v hd q => k d v ?_ q) (fun d q => oldT d _ q fun q z => nomatch z) fun d xs q => oldT d _ q fun q z => nomatch z
        rcases hd with hd | hd
        · rw [hd]; exact hb
        · exact fun z => by rw [z, hP] at hd; cases hd
      · exact z
theorem tabs_new {T0 c' P' : Addr} {q : Str} {tg : Tag} {tab : Array Value} {pos : Pos} (tb : TabsOk K S H) (hs : Same S H) (hm : (T0, tg) ∈ K.T) (hu : ∀ p ∈ K.T, p.1 = T0 → p.2 = tg) (hq : tg.at_ pos.line = q) (hP : H T0 = some (.tbl tab)) (nC : H c' = none) (nP : H P' = none) (hne : c' ≠ P') (hb : K.base.BuiltinsAt K.mg P') (hg : mainGlobals ≠ P')
    (one : ∀ q2 P2, CodeN c' q2 P2 = CodeN c' q P' → P2 = P') : GrowT (isTab S H) S H (upd S c' (CodeN c' q P')) (upd (upd (upd H T0 (.tbl (tab ++ #[rawInt pos.line, rawInt pos.col, .ref c']))) P' (.tbl #[])) c' (CodeN c' q P')) ∧
      TabsOk K (upd S c' (CodeN c' q P')) (upd (upd (upd H T0 (.tbl (tab ++ #[rawInt pos.line, rawInt pos.col, .ref c']))) P' (.tbl #[])) c' (CodeN c' q P')) := by
  have sC : S c' = none := same_none hs nC
  have sP : S P' = none := same_none hs nP
  obtain ⟨sT, tab2, hP2, ht, ha⟩ := tb.st _ hm
  have sT : S T0 = none := sT
  have hP2 : H T0 = some (.tbl tab2) := hP2
  rw [hP] at hP2
  cases hP2
  have nTc : T0 ≠ c' := ne_of_none hP nC
  have nTP : T0 ≠ P' := ne_of_none hP nP
  have at_ : ∀ a, a ≠ T0 → a ≠ P' → a ≠ c' → upd (upd (upd H T0 (.tbl (tab ++ #[rawInt pos.line, rawInt pos.col, .ref c']))) P' (.tbl #[])) c' (CodeN c' q P') a = H a := fun a h1 h2 h3 => by rw [upd_ne h3, upd_ne h2, upd_ne h1]
  have atT : upd (upd (upd H T0 (.tbl (tab ++ #[rawInt pos.line, rawInt pos.col, .ref c']))) P' (.tbl #[])) c' (CodeN c' q P') T0 = some (.tbl (tab ++ #[rawInt pos.line, rawInt pos.col, .ref c'])) := by rw [upd_ne nTc, upd_ne nTP, upd_same]
  have atP : upd (upd (upd H T0 (.tbl (tab ++ #[rawInt pos.line, rawInt pos.col, .ref c']))) P' (.tbl #[])) c' (CodeN c' q P') P' = some (.tbl #[]) := by rw [upd_ne hne.symm, upd_same]
  have atC : upd (upd (upd H T0 (.tbl (tab ++ #[rawInt pos.line, rawInt pos.col, .ref c']))) P' (.tbl #[])) c' (CodeN c' q P') c' = some (CodeN c' q P') := upd_same
  have nil : ∀ (pos : Pos) (cv : Value), codeAmong pos (#[] : Array Value).toList = some cv → False := fun pos cv z => by
    have z : codeAmong pos [] = some cv := z
    simp [codeAmong] at z
  generalize upd (upd (upd H T0 (.tbl (tab ++ #[rawInt pos.line, rawInt pos.col, .ref c']))) P' (.tbl #[])) c' (CodeN c' q P') = H1 at at_ atT atP atC ⊢
  refine ⟨⟨same_up sC, fun a o e => ?_, fun a e1 e2 => ?_, fun a o hn e => ?_, fun a e => ?_, fun a ps e => ?_⟩, fun p hp => ?_, fun c q2 P2 hc => ?_⟩
  · by_cases hac : a = c'
    · rw [hac, upd_same] at e; rw [hac, atC]; exact e
    · rw [upd_ne hac] at e
      rw [at_ a (fun z => by rw [z, sT] at e; cases e) (fun z => by rw [z, sP] at e; cases e) hac]
      exact hs a o e
  · rw [upd_ne fun z => e2 (by rw [z]; exact nC)]; exact e1
  · rw [at_ a (fun z => hn (by rw [z]; exact ⟨sT, _, hP⟩)) (ne_of_none e nP) (ne_of_none e nC)]; exact e
  · by_cases hac : a = c'
    · rw [hac, atC]; exact fun z => nomatch z
    · by_cases hap : a = T0
      · rw [hap, atT]; exact fun z => nomatch z
      · rw [at_ a hap (fun z => e (by rw [z]; exact nP)) hac]; exact e
  · by_cases hap : a = T0
    · rw [hap, atT]; exact ⟨_, rfl⟩
    · rw [at_ a hap (ne_of_none e nP) (ne_of_none e nC)]; exact ⟨_, e⟩
  · obtain ⟨p1, p2, p3, p4, p5⟩ := tb.st p hp
    have hpc : p.1 ≠ c' := ne_of_none p3 nC
    have hpP : p.1 ≠ P' := ne_of_none p3 nP
    refine ⟨by rw [upd_ne hpc]; exact p1, ?_⟩
    by_cases hpp : p.1 = T0
    · have eL : (tab ++ #[rawInt pos.line, rawInt pos.col, .ref c']).toList = tab.toList ++ [rawInt pos.line, rawInt pos.col, .ref c'] := by simp
      refine ⟨_, by rw [hpp]; exact atT, by rw [eL]; exact PySem.TriplesOk_snoc _ _ _ _ ht, fun pos' cv hcv => ?_⟩
      rw [eL] at hcv
      rw [hu p hp hpp]
      rcases NdefX.among_app2 _ ht hcv with z | ⟨z, zl, _⟩
      · obtain ⟨c0, P0, q1, q2⟩ := ha pos' cv z
        exact ⟨c0, P0, q1, same_up sC _ _ q2⟩
      · exact ⟨c', P', z, by rw [← zl, hq]; exact upd_same⟩
    · refine ⟨p2, by rw [at_ p.1 hpp hpP hpc]; exact p3, p4, fun pos' cv hcv => ?_⟩
      obtain ⟨c0, P0, q1, q2⟩ := p5 pos' cv hcv
      exact ⟨c0, P0, q1, same_up sC _ _ q2⟩
  · by_cases hcc : c = c'
    · subst hcc
      rw [upd_same] at hc
      obtain rfl := one q2 P2 (Option.some.inj hc).symm
      exact ⟨fun p hp z => (ne_of_none (tb.st p hp).2.choose_spec.1 nP) z, hb, hg, by rw [upd_ne hne.symm]; exact sP, #[], atP, True.intro, fun pos cv z => (nil pos cv z).elim⟩
    · rw [upd_ne hcc] at hc
      obtain ⟨n1, n2, n3, n4, ps, n5, n6, n7⟩ := tb.ne c q2 P2 hc
      have hPc : P2 ≠ c' := ne_of_none n5 nC
      refine ⟨n1, n2, n3, by rw [upd_ne hPc]; exact n4, ps, by rw [at_ P2 (fun z => n1 _ hm z.symm) (ne_of_none n5 nP) hPc]; exact n5, n6, fun pos cv hcv => ?_⟩
      obtain ⟨c2, q1, oc, q2, q3⟩ := n7 pos cv hcv
      exact ⟨c2, q1, oc, same_up sC _ _ q2, q3⟩
theorem lam_new {c T0 : Addr} {ps : Arguments} {b : Expr} {sc : Scope} {pos : Pos} {E : Value → Shared → Prop} {Q : Value → Shared → Prop} (I : Inv X pins σ H s) (hs : Same S H) (tb : TabsOk K S H) (hbs : X.base = K.base) (hmg : X.mg = K.mg) (TB : TabB X.base X.mg c T0) (hcode : X.env.code = .ref c)
    {tg : Tag} (hm : (T0, tg) ∈ K.T) (hu : ∀ p ∈ K.T, p.1 = T0 → p.2 = tg) (hq : tg.at_ pos.line = X.env.qual ++ "<lambda>") (hdef : defaultsOf ps X.env = ([], [])) (hfree : ∀ y ∈ sc.names, y.2 = .free → ∃ c, X.env.cells.lookup y.1 = some c)
    (h : ∀ (f c' P' : Addr) (pm ct : Value) (S1 H1 : Hp) (s' : Shared), Inv X pins σ H1 s' → GrowT (isTab S H) S H S1 H1 → TabsOk K S1 H1 → H f = none →
      S1 f = some (.ext (LamO f (X.env.qual ++ "<lambda>") ps b sc (cloFrom X.env.cells sc.names []) pm c' ct)) → S1 c' = some (CodeN c' (X.env.qual ++ "<lambda>") P') → Q (.ref f) s') :
    wpAny (model X.prog X.w) X.A (eval (.Lambda ps b sc pos) X.env) Q E s := by
  obtain ⟨nP, tab, hP, ht, ha⟩ := tb.st _ hm
  have nP : S T0 = none := nP
  have hP : H T0 = some (.tbl tab) := hP
  have bP : s.heap.BuiltinsAt X.mg T0 := TB.bm.keeps I.bk
  have hP' : s.heap.get? T0 = some { cls := .none, data := .fields tab } := I.hok T0 _ hP
  refine PySem.W.kla_eval hdef ?_
  -- the function object, behind the code object
  have fin : ∀ {S1 H1 : Hp} {h1 : Heap} {tk : Nat} {c' P' : Addr} {ct : Value}, Inv X pins σ H1 { s with heap := h1, toks := tk } → GrowT (isTab S H) S H S1 H1 → TabsOk K S1 H1 → S1 c' = some (CodeN c' (X.env.qual ++ "<lambda>") P') →
      Q (.ref h1.objs.size) { s with heap := h1.push (PySem.W.kla_obj "<lambda>" (X.env.qual ++ "<lambda>") ps b sc (cloFrom X.env.cells sc.names []) ((X.mg "__name__").getD .none) c' ct), toks := tk } := fun {S1 H1 h1 tk c' P' ct} I1 g1 tb1 sc' => by
    have hf : H1 h1.objs.size = none := I1.hok.fresh (Nat.le_refl _)
    have hf0 : H h1.objs.size = none := by
      cases z : H h1.objs.size with
      | none => rfl
      | some o => exact absurd hf (g1.d _ (some_ne z))
    have I2 := I1.laid (h' := h1.push (PySem.W.kla_obj "<lambda>" (X.env.qual ++ "<lambda>") ps b sc (cloFrom X.env.cells sc.names []) ((X.mg "__name__").getD .none) c' ct)) (t' := tk) (a := h1.objs.size) (o := .ext (LamO h1.objs.size (X.env.qual ++ "<lambda>") ps b sc (cloFrom X.env.cells sc.names []) ((X.mg "__name__").getD .none) c' ct))
      (fun z o e => Heap.get?_push_of_some _ e) (Nat.le_refl _) ⟨Heap.get?_push_size _ rfl, ⟨_, Heap.get?_push_size _ rfl⟩, fun h1 h2 q st => st _ q⟩
    have hg : (h1.push (PySem.W.kla_obj "<lambda>" (X.env.qual ++ "<lambda>") ps b sc (cloFrom X.env.cells sc.names []) ((X.mg "__name__").getD .none) c' ct)).get? h1.objs.size = some (PySem.W.kla_obj "<lambda>" (X.env.qual ++ "<lambda>") ps b sc (cloFrom X.env.cells sc.names []) ((X.mg "__name__").getD .none) c' ct) := Heap.get?_push_size _ rfl
    have ncd : ∀ q P, (HO.ext (LamO h1.objs.size (X.env.qual ++ "<lambda>") ps b sc (cloFrom X.env.cells sc.names []) ((X.mg "__name__").getD .none) c' ct)) = CodeN h1.objs.size q P → False := fun q P z => by
      have zz := congrFun (HO.ext.inj z) _ ▸ (show LamO h1.objs.size (X.env.qual ++ "<lambda>") ps b sc (cloFrom X.env.cells sc.names []) ((X.mg "__name__").getD .none) c' ct _ from hg)
      obtain ⟨_, o, us, file, tf, flags, tg, inF, text, tt, f1, f2, _⟩ := zz
      rw [hg] at f1
      cases f1
      exact absurd (show ("function" : String) = "code" from by injection f2) (by decide)
    have sf : S1 h1.objs.size = none := same_none g1.f hf
    refine h _ c' P' _ ct _ _ _ I2 (g1.trans ⟨same_up sf, same_upup g1.f, fun a e q => ?_, fun a u _ e => by rw [upd_ne (ne_of_none e hf)]; exact e, fun a e => ?_, fun a ps e => ⟨ps, by rw [upd_ne (ne_of_none e hf)]; exact e⟩⟩) ⟨fun p hp => ?_, fun c q P hc => ?_⟩ hf0 upd_same (by rw [upd_ne (ne_of_none sc' sf)]; exact sc')
    · rw [upd_ne fun z => q (by rw [z]; exact hf)]; exact e
    · by_cases z : a = h1.objs.size
      · rw [z, upd_same]; exact fun z => nomatch z
      · rw [upd_ne z]; exact e
    · obtain ⟨p1, p2, p3, p4, p5⟩ := tb1.st p hp
      have hpf := ne_of_none p3 hf
      refine ⟨by rw [upd_ne hpf]; exact p1, p2, by rw [upd_ne hpf]; exact p3, p4, fun pos cv hcv => ?_⟩
      obtain ⟨c0, P0, q1, q2⟩ := p5 pos cv hcv
      exact ⟨c0, P0, q1, same_up sf _ _ q2⟩
    · by_cases hcf : c = h1.objs.size
      · rw [hcf, upd_same] at hc
        exact (ncd q P (Option.some.inj hc)).elim
      · rw [upd_ne hcf] at hc
        obtain ⟨n1, n2, n3, n4, ps, n5, n6, n7⟩ := tb1.ne c q P hc
        have hPf := ne_of_none n5 hf
        refine ⟨n1, n2, n3, by rw [upd_ne hPf]; exact n4, ps, by rw [upd_ne hPf]; exact n5, n6, fun pos cv hcv => ?_⟩
        obtain ⟨c2, q1, oc, q2, q3⟩ := n7 pos cv hcv
        exact ⟨c2, q1, oc, same_up sf _ _ q2, q3⟩
  cases hc : codeAmong pos tab.toList with
  | some cv =>
    obtain ⟨c', P', rfl, hco⟩ := ha pos cv hc
    have hco : S c' = some (CodeN c' (tg.at_ pos.line) P') := hco
    rw [hq] at hco
    exact PySem.W.kla_makeFunctionHit (mg := X.mg) (c := c) (P := T0) (ps := tab) (closure_ok hfree) I.ok.glob (I.mod.glob.keeps I.bk) hcode (TB.code.keeps I.bk) hP' ht hc bP fun ct h' tk hx hsz => fin (I.kept hx) (GrowT.refl hs) tb hco
  | none =>
    refine mk_new (mg := X.mg) (c := c) (P := T0) (tab := tab) (closure_ok hfree) I.ok.glob (I.mod.glob.keeps I.bk) hcode (TB.code.keeps I.bk) hP' ht hc TB.gP bP fun c' P' ct h' tk hx hge hgp hne hlt hcp hnt htb => ?_
    have nC : H c' = none := I.hok.fresh hge
    have nN : H P' = none := I.hok.fresh hgp
    have hb : K.base.BuiltinsAt K.mg P' := by
      obtain ⟨bm, ob, b1, b2, b3, b4, b5, b6⟩ := TB.bm
      rw [← hbs, ← hmg]
      exact ⟨bm, ob, b1, b2, b3, Nat.ne_of_lt (Nat.lt_of_lt_of_le (Heap.lt_size (I.bk _ _ b5)) hgp), b5, b6⟩
    have hg : mainGlobals ≠ P' := by
      obtain ⟨o, es, ep, e, _⟩ := I.mod.glob.keeps I.bk
      exact Nat.ne_of_lt (Nat.lt_of_lt_of_le (Heap.lt_size e) hgp)
    obtain ⟨g1, tb1⟩ := tabs_new (pos := pos) tb hs hm hu hq hP nC nN hne hb hg fun q2 P2 z => CodeP.tab (congrFun (HO.ext.inj z) h' ▸ hcp) hcp
    refine fin (inv_tabs (more := #[rawInt pos.line, rawInt pos.col, .ref c']) (t' := tk) I hP hx htb ?_ (fun z u hz e => ?_) fun z u e => ?_) g1 tb1 upd_same
    · rw [upd_ne (ne_of_none hP nC), upd_ne (ne_of_none hP nN), upd_same]
    · rw [upd_ne (ne_of_none e nC), upd_ne (ne_of_none e nN), upd_ne hz]; exact e
    · by_cases z1 : z = c'
      · rw [z1, upd_same] at e
        cases e
        rw [z1]
        exact .inr (.inr ⟨hge, hcp, by obtain ⟨⟨o, _, _, e, _⟩, _⟩ := hcp; exact ⟨o, e⟩, fun h1 h2 x st => x.stay st⟩)
      · rw [upd_ne z1] at e
        by_cases z2 : z = P'
        · rw [z2, upd_same] at e
          cases e
          rw [z2]
          exact .inr (.inr ⟨hgp, hnt⟩)
        · rw [upd_ne z2] at e
          by_cases z3 : z = T0
          · exact .inl z3
          · rw [upd_ne z3] at e
            exact .inr (.inl e)
structure CxK (K : Kx) (X : Cx) : Prop where
  p : X.prog = K.P
  w : X.w = K.w
  k : X.K = K.K
  m : X.mg = K.mg
  b : X.base = K.base
structure TabAtT (K : Kx) (code : Value) (tg : Tag) : Prop where
  ex : ∃ c T0 : Addr, code = .ref c ∧ TabB K.base K.mg c T0 ∧ (T0, tg) ∈ K.T ∧ ∀ p ∈ K.T, p.1 = T0 → p.2 = tg
abbrev TabAt (K : Kx) (code : Value) (q : Str) : Prop := TabAtT K code (.one q)
structure KeyS (sc scope : Scope) (p : Str) : Prop where
  kind : scope.kind = .function
  co : scope.isCoroutine = false
  gen : scope.isGenerator = false
  par : scope.names.lookup p = some .local
  own : ∀ y ∈ scope.names, y.2 ≠ .cell
  free : ∀ y ∈ scope.names, y.2 = .free → sc.names.lookup y.1 = some .cell ∨ sc.names.lookup y.1 = some .free
  one : ∀ x, scope.names.lookup x = some .local → x = p
def keySB (sc scope : Scope) (p : Str) : Bool :=
  decide (scope.kind = .function) && (!scope.isCoroutine && (!scope.isGenerator && (decide (scope.names.lookup p = some .local) && scope.names.all fun y => !decide (y.2 = .cell) && ((!decide (y.2 = .free) || decide (sc.names.lookup y.1 = some .cell) || decide (sc.names.lookup y.1 = some .free)) && (!decide (y.2 = .local) || decide (y.1 = p))))))
theorem keyS_by {sc scope : Scope} {p : Str} (h : keySB sc scope p = true) : KeyS sc scope p := by
  unfold keySB at h
  simp only [Bool.and_eq_true, Bool.or_eq_true, Bool.not_eq_true', decide_eq_true_eq, decide_eq_false_iff_not, List.all_eq_true] at h
  obtain ⟨h1, h2, h3, h4, h5⟩ := h
  refine ⟨h1, h2, h3, h4, fun y hy => (h5 y hy).1, fun y hy e => ?_, fun x e => ?_⟩
  · rcases (h5 y hy).2.1 with (z | z) | z
    · exact absurd e z
    · exact .inl z
    · exact .inr z
  · rcases (h5 _ (PySem.mem_of_lookup e)).2.2 with z | z
    · exact absurd rfl z
    · exact z
theorem clo_of {cells : List (Str × Addr)} {ns : List (Str × NameKind)} (hf : ∀ y ∈ ns, y.2 = .free → ∃ c, cells.lookup y.1 = some c) {y : Str} {c : Addr} (e : (cloFrom cells ns []).lookup y = some c) : cells.lookup y = some c := by
  rcases cloFrom_mem (PySem.mem_of_lookup e) with z | ⟨z, e2⟩
  · cases z
  · obtain ⟨d, hd⟩ := hf _ z rfl
    have hd : cells.lookup y = some d := hd
    rw [hd] at e2 ⊢
    rw [e2] <;> rfl
theorem clo_at {cells : List (Str × Addr)} {ns : List (Str × NameKind)} {y : Str} (h : ns.lookup y = some .free) : ∃ c, (cloFrom cells ns []).lookup y = some c := mem_lookup (cloFrom_has (cells := cells) (acc := []) (PySem.mem_of_lookup h))
def keyCx (X : Cx) (A : Around) (s : Shared) (H : Hp) (scope : Scope) (f c' : Addr) : Cx :=
  { prog := X.prog, w := X.w, K := X.K, mg := X.mg, base := X.base, N := X.N, s_0 := s, H_0 := H, outer := X.stack, ex := [], fn := fun _ => false, calm := true, pn := []
    A := A.deeper (lamEnv X scope s.heap.objs.size f c'), env := lamEnv X scope s.heap.objs.size f c', stack := lamEnv X scope s.heap.objs.size f c' :: X.stack
    xe := fun e s' => wpAny (model X.prog X.w) (A.deeper (lamEnv X scope s.heap.objs.size f c')) (leaving (lamEnv X scope s.heap.objs.size f c') e) (fun _ s'' => C8.CX0 X.stack H s C8.E0 e s'') (fun e' s'' => C8.CX0 X.stack H s C8.E0 e' s'') s' }
theorem key_start {A : Around} {scope : Scope} {p : Str} {i : Nat} {f c' : Addr} {h₁ : Heap} {tk : Nat} {u : Value} {v : V} (I : Inv X pins σ H s) (L : KeyS X.env.scope scope p) (hN : X.N[i]? = some p) (nd : X.N.Nodup) (e0 : Env0 X.prog X.w X.K X.mg X.base A X.stack s H) (hd : A.handled = none)
    (hns : h₁.Ns s.heap.objs.size fun y => ([(p, u)] : List (Str × Value)).reverse.lookup y) (kp : ∀ b o, s.heap.get? b = some o → h₁.get? b = some o) (rv : RelV v u) :
    Inv (keyCx X A s H scope f c') [] (σ.set i (some v)) H { s with heap := h₁, toks := tk } := by
  have hfr : ∀ y ∈ scope.names, y.2 = .free → ∃ c, X.env.cells.lookup y.1 = some c := fun y hy e => I.ok.has _ (L.free y hy e)
  have cellK : ∀ {c : Addr} {w : Option Value}, s.heap.IsCell c w → h₁.IsCell c w := fun {c w} ⟨o, ho, hd⟩ => ⟨o, kp _ _ ho, hd⟩
  have noA : ∀ b : Addr, b ∉ (keyCx X A s H scope f c').ex := fun b z => absurd (show b ∈ ([] : List Addr) from z) (by simp)
  refine { ok := ?_, os := rfl, bare := e0.bare, base := Un.kept kp, loc := ⟨_, hns, fun j y w e1 e2 e3 => ?_⟩, cell := fun y c e => ?_, free := e0.hok.fresh (Nat.le_refl _), freeC := fun y c e => I.freeC y c (clo_of hfr e), pin := fun q hq => absurd (show q ∈ ([] : List (Addr × Obj)) ++ [] from hq) (by simp), hok := e0.hok.kept kp, len := ?_ }
  · refine { mod := e0.mod, kind := L.kind, glob := rfl, blt := rfl, above := Nat.le_refl _, inj := fun y z c k1 k2 => I.ok.inj y z c (clo_of hfr k1) (clo_of hfr k2), has := fun y hy => ?_, cab := fun y c z _ => ?_, hd := fun _ => hd, frames := Around.frames_deeper e0.frames, stk := .inr ⟨rfl, rfl⟩, exf := fun b z => absurd z (noA b), bs := e0.bs, bsz := e0.bsz, noex := fun b _ _ => noA b, exfs := fun b z => absurd z (noA b), funs := e0.funs, frf := e0.frf }
    · have hy : scope.names.lookup y = some .cell ∨ scope.names.lookup y = some .free := hy
      rcases hy with z | z
      · exact absurd rfl (L.own _ (PySem.mem_of_lookup z))
      · exact clo_at z
    · have z : false = true := z
      cases z
  · have e1 : X.N[j]? = some y := e1
    have e3 : Vis scope y := e3
    by_cases hij : i = j
    · subst hij
      rw [hN] at e1
      cases e1
      have hl : i < σ.length := by
        have := (List.getElem?_eq_some_iff.mp e2).1
        rwa [List.length_set] at this
      rw [List.getElem?_set_self hl] at e2
      cases e2
      refine ⟨u, rv, .inl ⟨L.par, ?_⟩⟩
      simp
    · rw [List.getElem?_set_ne hij] at e2
      have hyp : y ≠ p := fun z => by
        subst z
        obtain ⟨l1, k1⟩ := List.getElem?_eq_some_iff.mp hN
        obtain ⟨l2, k2⟩ := List.getElem?_eq_some_iff.mp e1
        rcases Nat.lt_trichotomy i j with q | q | q
        · exact absurd (k1.trans k2.symm) (List.pairwise_iff_getElem.mp nd i j l1 l2 q)
        · exact hij q
        · exact absurd (k2.trans k1.symm) (List.pairwise_iff_getElem.mp nd j i l2 l1 q)
      rcases e3 with k | k | k
      · exact absurd (L.one y k) hyp
      · exact absurd rfl (L.own _ (PySem.mem_of_lookup k))
      · obtain ⟨m, hn, hl⟩ := I.loc
        have kk := L.free _ (PySem.mem_of_lookup k) rfl
        have kk : X.env.scope.names.lookup y = some .cell ∨ X.env.scope.names.lookup y = some .free := kk
        obtain ⟨w', r', q⟩ := hl j y w e1 e2 (.inr kk)
        obtain ⟨c2, k2⟩ := clo_at (cells := X.env.cells) k
        refine ⟨w', r', .inr ⟨.inr k, c2, k2, ?_⟩⟩
        rcases q with ⟨k3, _⟩ | ⟨_, c3, k4, z⟩
        · have k3 : X.env.scope.names.lookup y = some .local := k3
          rcases kk with k5 | k5 <;> rw [k5] at k3 <;> cases k3
        · rw [clo_of hfr k2] at k4
          cases k4
          exact cellK z
  · obtain ⟨w, z⟩ := I.cell y c (clo_of hfr e)
    exact ⟨w, cellK z⟩
  · rw [List.length_set]
    exact I.len
theorem key_call {A : Around} {q : Str} {ps : Arguments} {b : Expr} {sc : Scope} {pm ct : Value} {p : Str} {i k : Nat} {f c' : Addr} {u : Value} {v : V} {tb : TE} {Q : VK} (I : Inv X pins σ H s) (L : KeyS X.env.scope sc p) (hN : X.N[i]? = some p) (nd : X.N.Nodup) (hr : Room (k + 1) A) (e0 : Env0 X.prog X.w X.K X.mg X.base A X.stack s H)
    (hq : q = X.env.qual ++ "<lambda>") (hf : H f = some (.ext (LamO f q ps b sc (cloFrom X.env.cells sc.names []) pm c' ct))) (hc : ∀ h : Heap, HOk X.prog X.w H h → h.CodeRec (.ref c') q) (hbind : bindArgs (PySem.W.kla_fn "<lambda>" q ps b sc (cloFrom X.env.cells sc.names []) pm (.ref c') ct) ⟨[u], []⟩ = pure [(p, u)])
    (hbody : Room k (A.deeper (lamEnv X sc s.heap.objs.size f c')) → PE (keyCx X A s H sc f c') b tb) (rv : RelV v u) (ht : tb (σ.set i (some v)) H Q) :
    codeAny (model X.prog X.w) A (.call (.ref f) ⟨[u], []⟩) (CR C8.CX0 X.stack X.prog X.w H s Q C8.E0) s := by
  subst hq
  obtain ⟨hl, _, _⟩ := e0.hok f _ hf
  obtain ⟨c2, oc, us', t, e2, hoc, hd, hv⟩ := hc _ e0.hok
  cases e2
  have lim : s.heap.NoLimit := e0.mod.nolimit.keeps fun b o e => (e0.bs b o e).1
  refine PySem.W.kla_callFunE hr.depth hl rfl L.co L.gen rfl ⟨c', oc, us', t, rfl, hoc, hd, hv⟩ ?_
  rw [hbind]
  refine wpAny_pure (wpAny_newFunctionEnv L.own (fun y hy => ?_) (fun h₁ hns hsb => ⟨lim.fresh _ hsb, ?_⟩) L.kind)
  · rw [List.mem_singleton.mp hy]
    exact L.par
  have kp : ∀ b o, s.heap.get? b = some o → h₁.get? b = some o := fun b o e => hsb.extBut b o (Nat.ne_of_lt (Heap.lt_size e)) (Heap.get?_push_of_some _ e)
  have J := key_start (A := A) (f := f) (c' := c') (tk := s.toks + ([(p, u)] : List (Str × Value)).length) I L hN nd e0 hr.hd hns kp rv
  show codeAny _ _ (.expr b (lamEnv X sc s.heap.objs.size f c')) _ _
  refine PySem.W.kla_codeExpr (wpAny_mono ((hbody (hr.deeper _)).run [] _ _ H Q J ht) (fun w s' hw => ?_) fun e s' hw => hw)
  obtain ⟨w', H', J', rw', q'⟩ := hw
  exact ⟨w', H', J'.os, J'.bare, J'.base, J'.hok, rw', q'⟩
end
end Dz

namespace Dz
open PySem PySem.Spec PySem.SeqAt PySem.W PyProof.Rows L2 RZ LamX
section
variable {prog : Program} {w : World} {A : Around} {E : Value → Shared → Prop} {s : Shared}
theorem collect_at {Q : List Value → Shared → Prop} (it : Addr) {T : String} {o : Obj} {items : Array Value} {n : Nat} (hT : T = "list" ∨ T = "tuple") (ho : s.heap.get? it = some o) (hc : o.cls = .type T) (hd : o.data = .seq items n) (hz : items.size ≤ sizeLine)
    (hQ : Q items.toList { s with heap := (s.heap.push { cls := .type "list", data := .seq #[] }).update s.heap.objs.size (Obj.mapSeq (· ++ items)) }) : wpAny (model prog w) A (collect (.ref it)) Q E s := by
  unfold collect
  refine wpAny_bind (wpAny_runValue (codeAny_builtin F.entry_proto_collect (?_ : _)))
  rw [Around.under_plainId F.plain_proto_collect (_ : Args)]
  show wpAny _ A.in1 ((newList []) >>= fun l => again (.builtin "list.__iadd__" ⟨[l, .ref it], []⟩)) _ _ s
  refine wpAny_bind (wpAny_newObj_type (?_ : _))
  refine wpAny_pure ⟨plainId_quiet F.plain_list_iadd (_ : Args), codeAny_builtin F.entry_list_iadd (?_ : _)⟩
  rw [Around.under_plainId F.plain_list_iadd (_ : Args)]
  have hS : (s.heap.push { cls := .type "list", data := .seq #[] }).get? s.heap.objs.size = some { cls := .type "list", data := .seq #[] 0 } := Heap.get?_push_size _ rfl
  have hU := Heap.get?_update_self (Obj.mapSeq (· ++ items)) hS rfl
  have fin : wpAny (model prog w) A (match Value.ref s.heap.objs.size with
      | Value.ref a => do
        match (← load a).data with
          | Data.seq xs _ => pure xs.toList
          | _ => unsupported "internal:collect"
      | _ => unsupported "internal:collect") Q E { s with heap := (s.heap.push { cls := .type "list", data := .seq #[] }).update s.heap.objs.size (Obj.mapSeq (· ++ items)) } := by
    show wpAny _ A ((load s.heap.objs.size) >>= _) _ _ _
    refine wpAny_bind (wpAny_load hU (wpAny_pure (?_ : _)))
    show Q (((#[] : Array Value) ++ items).toList) _
    rw [show ((#[] : Array Value) ++ items).toList = items.toList by simp]
    exact hQ
  refine wpAny_mono (wpAny_extend_seq (hsz := hz) (A := A) (R := fun r s' => r = .ok (.ret (.ref s.heap.objs.size)) ∧ s' = { s with heap := (s.heap.push { cls := .type "list", data := .seq #[] }).update s.heap.objs.size (Obj.mapSeq (· ++ items)) })
    (s := { s with heap := s.heap.push { cls := .type "list", data := .seq #[] } }) _ it _ 0 hT hS (Heap.get?_push_of_some _ ho) hc hd ⟨rfl, rfl⟩) (fun r s' h => ?_) fun e s' h => ?_
  · cases r with
    | done f =>
      obtain ⟨e, rfl⟩ := h
      cases e
      exact fin
    | again c' =>
      refine ⟨h.1, codeAny_mono h.2 fun r s'' hr => ?_⟩
      obtain ⟨rfl, rfl⟩ := hr
      exact fin
  · exact absurd h.1 (by simp)
theorem sorted_seq {l : Addr} {o : Obj} {n : Nat} {us : List Value} {T : String} {kw : List (Str × Value)} {Q : Value → Shared → Prop} (hT : T = "list" ∨ T = "tuple") (ho : s.heap.get? l = some o) (hc : o.cls = .type T) (hd : o.data = .seq us.toArray n) (hL : us.length ≤ sizeLine)
    (ha1 : argsOk "sorted" ⟨[.ref l], kw⟩) (ha2 : ∀ x, argsOk "list.sort" ⟨[.ref x], kw⟩)
    (body : ∀ (h1 : Heap) (D : Addr) (E' : Value → Shared → Prop), (∀ b o, s.heap.get? b = some o → h1.get? b = some o) → s.heap.objs.size ≤ D → D < h1.objs.size → h1.get? D = some (seqObj "list" us.toArray 0) →
      wpAny (model prog w) A.in1.in1 (Builtin.«list.sort» ⟨[.ref D], kw⟩) (fun f s' => f = .done (.ret .none) ∧ Q (.ref D) s') E' { s with heap := h1 }) : wpAny (model prog w) A (call (.builtin "sorted") [.ref l] kw) Q E s := by
  refine call_function_entry_kw kind_sorted plain_sorted entry_sorted ha1 ?_
  unfold Builtin.«sorted»
  refine wpAny_bind (m := checkCount "sorted" 1 1 _) (wpAny_pure ?_)
  refine wpAny_bind (collect_at l hT ho hc hd (by rw [List.size_toArray]; exact hL) ?_)
  generalize hh : (s.heap.push { cls := .type "list", data := .seq #[] }).update s.heap.objs.size (Obj.mapSeq (· ++ us.toArray)) = h'
  have hk : ∀ b o, s.heap.get? b = some o → h'.get? b = some o := fun b o e => by
    rw [← hh]
    exact (Heap.get?_update_other _ _ (Nat.ne_of_gt (Heap.lt_size e))).trans (Heap.get?_push_of_some _ e)
  have hlt : s.heap.objs.size ≤ h'.objs.size := by
    rw [← hh, Heap.size_update, size_push']
    exact Nat.le_succ _
  refine wpAny_bind (wpAny_newList ?_ hL)
  have hat : (h'.push (seqObj "list" us.toArray 0)).get? h'.objs.size = some (seqObj "list" us.toArray 0) := Heap.get?_push_size _ rfl
  refine wpAny_bind (wpAny_holding (wpAny_call_entry_kw slot_list_sort ⟨_, hat, rfl⟩ entry_list_sort ?_ (ha2 _)))
  refine wpAny_mono (body _ h'.objs.size _ (fun b o e => Heap.get?_push_of_some _ (hk b o e)) hlt (by rw [size_push']; exact Nat.lt_succ_self _) hat) (fun f s' hf => ?_) fun _ _ e => e
  obtain ⟨rfl, hq⟩ := hf
  exact ⟨_, rfl, wpAny_pure ⟨_, rfl, hq⟩⟩
end
end Dz
namespace Dz
open PySem PySem.Spec PySem.SeqAt PySem.W PyProof.Rows L2 RZ LamX
section
variable {X : Cx} {pins : List (Addr × Obj)} {σ : L2.St} {H : Hp} {s : Shared}
theorem inv_sub (I : Inv X pins σ H s) {G : Heap} {bad : Addr → Prop} (gk : ∀ b o, ¬ bad b → s.heap.get? b = some o → G.get? b = some o) (h0 : ∀ b o, X.s_0.heap.get? b = some o → ¬ bad b) (hH : ∀ b o, H b = some o → ¬ bad b) (hl : ¬ bad X.env.locals) (hc : ∀ x c, X.env.cells.lookup x = some c → ¬ bad c)
    (hp : ∀ p ∈ X.pn ++ pins, ¬ bad p.1) : Inv X pins σ H { s with heap := G } := by
  refine { ok := I.ok, os := I.os, bare := I.bare, base := ?_, loc := ?_, cell := fun x c e => ?_, free := I.free, freeC := I.freeC, pin := fun p h => ?_, hok := fun a o e => ?_, len := I.len }
  · refine ⟨fun b o e n h1 h2 => gk b o (h0 b o e) (I.base.keep b o e n h1 h2), fun b o e n h1 h2 => ?_, I.base.free, fun b o e h1 => ?_, I.base.tups, I.base.frzs, I.base.tbls⟩
    · obtain ⟨sl, q⟩ := I.base.slot b o e n h1 h2
      exact ⟨sl, gk _ _ (h0 b o e) q⟩
    · obtain ⟨o', q⟩ := I.base.there b o e h1
      exact ⟨o', gk _ _ (h0 b o e) q⟩
  · obtain ⟨m, ⟨o, es, ep, e, r⟩, q⟩ := I.loc
    refine ⟨m, ⟨o, es, ep, gk _ _ hl e, r⟩, fun i x v e1 e2 e3 => ?_⟩
    obtain ⟨u, ru, z⟩ := q i x v e1 e2 e3
    refine ⟨u, ru, ?_⟩
    rcases z with z | ⟨z1, c, z2, o, z3, z4⟩
    · exact .inl z
    · exact .inr ⟨z1, c, z2, o, gk _ _ (hc _ _ z2) z3, z4⟩
  · obtain ⟨v, o, z3, z4⟩ := I.cell x c e
    exact ⟨v, o, gk _ _ (hc _ _ e) z3, z4⟩
  · obtain ⟨q1, q2⟩ := I.pin p h
    exact ⟨gk _ _ (hp p h) q1, q2⟩
  · exact (I.hok a o e).stay (fun b u hb q => gk b u (hb.elim (fun z => by rw [z]; exact hH _ _ e) fun z => hH _ _ z) q) (fun b q => q) fun b xs q => q
inductive KeyV : V → PyData → Prop
  | int (n : Int) : KeyV (.int n) (.int n)
  | bl (b : Bool) : KeyV (.bl b) (.bool b)
theorem KeyV.reads {v : V} {u : Value} {d : PyData} (h : KeyV v d) (r : RelV v u) (hp : Heap) : Reads hp u d [] := by
  cases h with
  | int n => obtain ⟨t, rfl⟩ := r; exact .int n t
  | bl b => obtain rfl := r; exact .bool b
noncomputable def byKeys (xs : List V) (ks : List PyData) : List V := ((xs.zip ks).mergeSort (dataLe false fun p => p.2)).map (·.1)
theorem each_vals {xs : List V} {us : List Value} (h : Vals xs us) : ∀ {ks : List PyData}, ks.length = xs.length → EachIs (fun (u : Value) (p : V × PyData) => RelV p.1 u) us (xs.zip ks) := by
  induction h with
  | nil => intro ks _; exact .nil
  | cons r _ ih =>
    intro ks hl
    cases ks with
    | nil => cases hl
    | cons k ks => exact .cons r (ih (by simpa using hl))
theorem vals_each {us : List Value} {ps : List (V × PyData)} (h : EachIs (fun (u : Value) (p : V × PyData) => RelV p.1 u) us ps) : Vals (ps.map (·.1)) us := by
  induction h with
  | nil => exact .nil
  | cons r _ ih => exact .cons r ih
theorem zip_snd {α β : Type} : ∀ {xs : List α} {ks : List β}, ks.length = xs.length → (xs.zip ks).map (·.2) = ks
  | [], [], _ => rfl
  | [], _ :: _, h => by cases h
  | _ :: _, [], h => by cases h
  | x :: xs, k :: ks, h => by
    rw [List.zip_cons_cons, List.map_cons, zip_snd (by simpa using h)]
theorem each_app {α β : Type} {R : α → β → Prop} {x : α} {y : β} : ∀ {as : List α} {bs : List β}, EachIs R as bs → R x y → EachIs R (as ++ [x]) (bs ++ [y])
  | _, _, .nil, h => .cons h .nil
  | _, _, .cons h1 h2, h => .cons h1 (each_app h2 h)
theorem each_len {α β : Type} {R : α → β → Prop} : ∀ {as : List α} {bs : List β}, EachIs R as bs → as.length = bs.length
  | _, _, .nil => rfl
  | _, _, .cons _ h => congrArg Nat.succ (each_len h)
theorem off {a b d : Addr} {n : Nat} (h : @LT.lt Nat _ a n) (h1 : @LE.le Nat _ n b) (h2 : @LE.le Nat _ n d) : ¬ (a = b ∨ a = d) := fun z => by
  rcases z with rfl | rfl
  · exact Nat.lt_irrefl _ (Nat.lt_of_lt_of_le h h1)
  · exact Nat.lt_irrefl _ (Nat.lt_of_lt_of_le h h2)
theorem sort_keys {q : Str} {ps : Arguments} {b : Expr} {sc : Scope} {pm ct : Value} {p : Str} {i k : Nat} {f c' P' l : Addr} {xs : List V} {tb : TE} {Q : VK} (I : Inv X pins σ H s) (hr : Room (k + 3) X.A) (hx : X.ex = []) (L : KeyS X.env.scope sc p) (hN : X.N[i]? = some p) (nd : X.N.Nodup) (hq : q = X.env.qual ++ "<lambda>")
    (hl : SqL X.K H l xs ∨ SqT X.K H l xs) (hbind : ∀ u : Value, bindArgs (PySem.W.kla_fn "<lambda>" q ps b sc (cloFrom X.env.cells sc.names []) pm (.ref c') ct) ⟨[u], []⟩ = pure [(p, u)])
    (hbody : ∀ (A : Around) (s : Shared) (H : Hp), Room k (A.deeper (lamEnv X sc s.heap.objs.size f c')) → PE (keyCx X A s H sc f c') b tb)
    (W : Nat → List PyData → Hp → Prop) (w0 : W 0 [] H) (wf : ∀ j ks H, W j ks H → H f = some (.ext (LamO f q ps b sc (cloFrom X.env.cells sc.names []) pm c' ct)) ∧ H c' = some (CodeN c' q P'))
    (turn : ∀ j ks H x, W j ks H → xs[j]? = some x → tb (σ.set i (some x)) H fun kv H' => ∃ d, KeyV kv d ∧ W (j + 1) (ks ++ [d]) H')
    (fin : ∀ ks H, W xs.length ks H → ks.length = xs.length → AllAlike ks ∧ Sortable ks ∧ (∀ d ∈ ks, d.depth = 0) ∧ ∀ D, H D = none → Q (.ref D) (upd H D (.lst (byKeys xs ks)))) :
    wpAny (model X.prog X.w) X.A (call (.builtin "sorted") [.ref l] [(Str.ofString "key", .ref f)]) (EP X pins σ Q) X.xe s := by
  obtain ⟨its, T, o, n, rv, hT, ho, hc, hd, hz⟩ : ∃ (its : List Value) (T : String) (o : Obj) (n : Nat), Vals xs its ∧ (T = "list" ∨ T = "tuple") ∧ s.heap.get? l = some o ∧ o.cls = .type T ∧ o.data = .seq its.toArray n ∧ xs.length ≤ sizeLine := by
    rcases hl with hl | hl
    · obtain ⟨its, rv, ⟨o, n, e1, e2, _, e3⟩, hz⟩ := I.list hl
      exact ⟨its, "list", o, n, rv, .inl rfl, e1, e2, e3, hz⟩
    · obtain ⟨its, rv, ⟨o, e1, e2, n, e3⟩, hz⟩ := I.tuple hl
      exact ⟨its, "tuple", o, n, rv, .inr rfl, e1, e2, e3, hz⟩
  have hlen : its.length = xs.length := rv.length.symm
  refine sorted_seq hT ho hc hd (by rw [hlen]; exact hz) (ksk_s1 _ _) (fun _ => ksk_l1 _ _) fun h1 D E' hk hD1 hD2 hD => ?_
  rw [ksk_t1]
  have hD2 : @LT.lt Nat _ D h1.objs.size := hD2
  obtain ⟨e1, ho1⟩ : ∃ e1, (h1.update D (Obj.mapSeq fun _ => (#[] : Array Value))).get? D = some (seqObj "list" #[] e1) := ⟨_, get?_update_seq hD fun _ => #[]⟩
  unfold ksk_tree
  refine wpAny_bind (listItems_at hD rfl (?_ : _))
  refine wpAny_bind (listUpdate_at hD rfl (?_ : _) (by rw [List.size_toArray, hlen]; exact hz) (Nat.zero_le _))
  refine wpAny_bind (seqEpoch_at ho1 rfl (?_ : _))
  refine wpAny_bind (wpAny_newTuple (?_ : _) (by show its.length ≤ _; rw [hlen]; exact hz))
  refine wpAny_bind (wpAny_newList (?_ : _) (Nat.zero_le _))
  refine wpAny_holding (?_ : _)
  generalize hkS : ((h1.update D (Obj.mapSeq fun _ => (#[] : Array Value))).push (seqObj "tuple" its.toArray 0)).objs.size = kS
  generalize hh5 : ((h1.update D (Obj.mapSeq fun _ => (#[] : Array Value))).push (seqObj "tuple" its.toArray 0)).push (seqObj "list" #[] 0) = h5
  have hkS' : kS = h1.objs.size + 1 := by rw [← hkS, size_push', Heap.size_update]
  have nk5 : h5.get? kS = some (seqObj "list" #[] 0) := by rw [← hh5, ← hkS]; exact Heap.get?_push_size _ rfl
  have na5 : h5.get? D = some (seqObj "list" #[] e1) := by rw [← hh5]; exact Heap.get?_push_of_some _ (Heap.get?_push_of_some _ ho1)
  have hkD : kS ≠ D := by omega
  have sk : s.heap.objs.size ≤ kS := by omega
  have kp5 : ∀ b o, s.heap.get? b = some o → h5.get? b = some o := fun b o e => by
    have hb : @LT.lt Nat _ b s.heap.objs.size := Heap.lt_size e
    rw [← hh5]
    refine Heap.get?_push_of_some _ (Heap.get?_push_of_some _ ?_)
    rw [Heap.get?_update_ne _ _ _ _ fun z => off hb sk hD1 (.inr z)]
    exact hk b o e
  -- what is ours alone
  have nL : ¬ (X.env.locals = kS ∨ X.env.locals = D) := off I.lt sk hD1
  have nC : ∀ x c, X.env.cells.lookup x = some c → ¬ (c = kS ∨ c = D) := fun x c e => by
    obtain ⟨v, o, z, _⟩ := I.cell x c e
    exact off (Heap.lt_size z) sk hD1
  have nP : ∀ p ∈ X.pn ++ pins, ¬ (p.1 = kS ∨ p.1 = D) := fun p hp => by
    exact off (Heap.lt_size (I.pin p hp).1) sk hD1
  have n0 : ∀ b o, X.s_0.heap.get? b = some o → ¬ (b = kS ∨ b = D) := fun b o e => by
    exact off (Nat.lt_of_lt_of_le (Heap.lt_size e) I.sz) sk hD1
  have nF : ∀ b, b = kS ∨ b = D → b ∉ frs X.stack := fun b hb z => by
    rcases List.mem_cons.mp (I.stkSub _ z) with e | e
    · exact nL (e ▸ hb)
    · exact I.nofs (hb.elim (fun z => z ▸ sk) fun z => z ▸ hD1) e
  have I5 : Inv X pins σ H { s with heap := h5 } := I.kept (t' := s.toks) kp5
  have nH : ∀ b, b = kS ∨ b = D → H b = none := fun b hb => I.hok.fresh (hb.elim (fun z => z ▸ sk) fun z => z ▸ hD1)
  have other : ∀ {Hj : Hp} {z : Shared} {h' : Heap} {tk : Nat}, Inv X pins σ Hj z → Hj kS = none → Hj D = none → (∀ b o, ¬ (b = kS ∨ b = D) → z.heap.get? b = some o → h'.get? b = some o) → Inv X pins σ Hj { z with heap := h', toks := tk } := fun {Hj z h' tk} J j1 j2 gk =>
    (inv_sub J gk n0 (fun b o e hb => by
      rcases hb with rfl | rfl
      · rw [j1] at e; cases e
      · rw [j2] at e; cases e) nL nC nP).tok tk
  unfold ksk_rest
  refine wpAny_bind (wpAny_rule (?_ : _))
  rw [List.forIn_toArray]
  have hr1 : Room (k + 1) X.A.in1.in1 := hr.in1.in1
  refine wpAny_bind (ksk_fold (fun j z => ∃ Hj ks kA e, Inv X pins σ Hj z ∧ Hj kS = none ∧ Hj D = none ∧ z.heap.get? kS = some (seqObj "list" kA e) ∧ z.heap.get? D = some (seqObj "list" #[] e1) ∧ W j ks Hj ∧ ks.length = j ∧ EachIs (fun (u : Value) (d : PyData) => ∀ hp, Reads hp u d []) kA.toList ks) its 0 _
    ⟨H, [], #[], 0, I5, nH _ (.inl rfl), nH _ (.inr rfl), nk5, na5, w0, rfl, .nil⟩ ?step ?done)
  case step =>
    rintro j u z hu ⟨Hj, ks, kA, e, J, j1, j2, nk, na, wj, kl, ek⟩
    rw [Nat.zero_add] at wj kl ⊢
    have hj : j < its.length := (List.getElem?_eq_some_iff.mp hu).1
    obtain ⟨u2, hu2, rx⟩ := rv.get (i := j) (x := xs[j]'(by omega)) (List.getElem?_eq_getElem (by omega))
    rw [hu] at hu2
    cases hu2
    obtain ⟨f1, f2⟩ := wf _ _ _ wj
    have call := key_call (A := X.A.in1.in1) (Q := fun kv H' => ∃ d, KeyV kv d ∧ W (j + 1) (ks ++ [d]) H') J L hN nd hr1 J.env0.in1.in1 hq f1 (fun h hok => (hok c' _ f2).1.rec) (hbind u) (fun hr2 => hbody _ _ _ hr2) rx (turn j ks Hj _ wj (List.getElem?_eq_getElem (by omega)))
    have ksz : kA.size = j := by
      have := each_len ek
      rw [Array.length_toList] at this
      omega
    refine wpAny_bind (wpAny_attempt (wpAny_call (codeAny_mono call fun r z2 hq2 => ?_)))
    cases r with
    | error e => exact hq2.elim
    | ok fl =>
      cases fl with
      | next => exact hq2.elim
      | brk => exact hq2.elim
      | cont => exact hq2.elim
      | ret kv =>
        obtain ⟨v2, H2, os, bare, un, hok, r2, d, hkv, w2⟩ := hq2
        have J2 : EP X pins σ (fun v H' => v = v2 ∧ H' = H2) kv z2 := J.after ⟨v2, H2, os, bare, un, hok, r2, rfl, rfl⟩
        obtain ⟨v3, H3, J3, _, rfl, rfl⟩ := J2
        have nk2 : z2.heap.get? kS = some (seqObj "list" kA e) := un.keep _ _ nk j1 (nF _ (.inl rfl)) (by simp)
        have na2 : z2.heap.get? D = some (seqObj "list" #[] e1) := un.keep _ _ na j2 (nF _ (.inr rfl)) (by simp)
        have j3 : H3 kS = none := un.free _ _ nk j1 (by simp)
        have j4 : H3 D = none := un.free _ _ na j2 (by simp)
        have s1 := Heap.SameBut.update z2.heap kS (Obj.mapSeq (·.push kv))
        obtain ⟨c2, hc2⟩ : ∃ c2, (z2.heap.update kS (Obj.mapSeq (·.push kv))).get? kS = some (seqObj "list" (kA.push kv) c2) := ⟨_, get?_update_seq nk2 (·.push kv)⟩
        try dsimp only
        refine wpAny_bind (listUpdate_at nk2 rfl (?_ : _) (by rw [ksz]; omega) (by rw [Array.size_push, ksz]; omega))
        refine wpAny_pure ⟨rfl, H3, ks ++ [d], kA.push kv, c2, other J3 j3 j4 (fun b o hb e => (s1.2 b fun z => hb (.inl z)).trans e), j3, j4, hc2, (s1.2 D hkD.symm).trans na2, w2, by rw [List.length_append, kl]; rfl, ?_⟩
        rw [Array.toList_push]
        exact each_app ek (hkv.reads r2)
  case done =>
    rintro z ⟨Hj, ks, kA, e, J, j1, j2, nk, na, wj, kl, ek⟩
    rw [Nat.zero_add, hlen] at wj kl
    obtain ⟨hal, hso, hdp, hQ⟩ := fin ks Hj wj kl
    have ksz : kA.size = its.length := by
      have := each_len ek
      rw [Array.length_toList] at this
      omega
    refine wpAny_bind (listItems_at nk rfl (?_ : _))
    obtain ⟨G, g1, g2⟩ := restrict z.heap fun b => decide (b ≠ kS)
    have gG : ∀ b o, G.get? b = some o → z.heap.get? b = some o := fun b o e => by
      by_cases hb : b = kS
      · rw [hb, g2 kS (by simp)] at e; cases e
      · rw [← g1 b (by simpa using hb)]; exact e
    have hkk : EachIs (fun v d => ∃ as, Reads z.heap v d as) kA.toList ks := ek.mono fun v d q => ⟨[], q _⟩
    refine keyH_end (κ := dataKind z.heap ks) (h₁ := G) (fun b o _ e => gG b o e) (g2 kS (by simp)) nk na hkD (SortsAt.data hkk hal hso fun d hd => ?_) ksz (by rw [hlen]; exact hz) fun h3 tk c k3 n3 => ⟨rfl, ?_⟩
    · rw [hdp d hd]
      have := hr1.un
      omega
    obtain ⟨G2, g3, g4⟩ := restrict z.heap fun b => decide (¬ (b = kS ∨ b = D))
    have gk : ∀ b o, ¬ (b = kS ∨ b = D) → z.heap.get? b = some o → G2.get? b = some o := fun b o hb e => by rw [g3 b (decide_eq_true hb)]; exact e
    have hk3 : ∀ b o, G2.get? b = some o → h3.get? b = some o := fun b o e => by
      by_cases hb : b = kS ∨ b = D
      · rw [g4 b (decide_eq_false fun z => z hb)] at e; cases e
      · rw [g3 b (decide_eq_true hb)] at e
        exact k3 b o (fun z => hb (.inr z)) (by rw [g1 b (by simpa using fun z => hb (.inl z))]; exact e)
    have J2 := other (tk := z.toks) J j1 j2 gk
    have hout : KeyedOut false ((xs.zip ks).map fun p => p.2) its (sortVals (dataKind z.heap ks) false kA.toList its) := by
      rw [zip_snd kl]
      exact ⟨z.heap, kA.toList, hal, rfl, hkk⟩
    have hv := vals_each (keyedOut_each (fun p : V × PyData => p.2) hout (each_vals rv kl))
    have hyl : (byKeys xs ks).length ≤ sizeLine := by
      unfold byKeys
      rw [List.length_map, List.length_mergeSort, List.length_zip, kl, Nat.min_self]
      exact hz
    refine ⟨.ref D, upd Hj D (.lst (byKeys xs ks)), J2.laidN (t' := tk) hk3 (g4 D (decide_eq_false fun z => z (.inr rfl))) j2 ⟨hyl, _, c, hv, n3⟩, rfl, hQ D j2⟩
def tLamK (K : Kx) (X : Cx) (ps : Arguments) (b : Expr) (sc : Scope) : TE := fun _ H Q => ∃ S, Same S H ∧ TabsOk K S H ∧ ∀ (f c' P' : Addr) (pm ct : Value) (S1 H1 : Hp), GrowT (isTab S H) S H S1 H1 → TabsOk K S1 H1 →
  S1 f = some (.ext (LamO f (X.env.qual ++ "<lambda>") ps b sc (cloFrom X.env.cells sc.names []) pm c' ct)) → S1 c' = some (CodeN c' (X.env.qual ++ "<lambda>") P') → Q (.ref f) H1
theorem pe_lamK {K : Kx} {ps : Arguments} {b : Expr} {sc : Scope} {pos : Pos} {p : Str} (hX : CxK K X) (TA : TabAt K X.env.code (X.env.qual ++ "<lambda>")) (hdef : defaultsOf ps X.env = ([], [])) (L : KeyS X.env.scope sc p) : PE X (.Lambda ps b sc pos) (tLamK K X ps b sc) := by
  refine ⟨fun pins s σ H Q I h => ?_⟩
  obtain ⟨S, hs, tb, q⟩ := h
  obtain ⟨c, T0, e1, e2, e3, e4⟩ := TA.ex
  rw [← hX.b, ← hX.m] at e2
  exact lam_new I hs tb hX.b hX.m e2 e1 e3 e4 Tag.one_at hdef (fun y hy z => I.ok.has _ (L.free y hy z)) fun f c' P' pm ct S1 H1 s' I1 g tb1 hf0 hf hc => ⟨.ref f, H1, I1, rfl, q f c' P' pm ct S1 H1 g tb1 hf hc⟩
def tSortK (K : Kx) (i : Nat) (ta : TA) (tb : TE) : TE := fun σ H Q => ta σ H fun vs H1 => ∃ l xs S, vs = [V.ref l] ∧ (SqL K S l xs ∨ SqT K S l xs) ∧ Same S H1 ∧ TabsOk K S H1 ∧ ∀ S2 H2, GrowT (isTab S H1) S H1 S2 H2 → TabsOk K S2 H2 →
  ∃ W : Nat → List PyData → Hp → Prop, W 0 [] H2 ∧ (∀ j ks H, W j ks H → Same S2 H) ∧ (∀ j ks H x, W j ks H → xs[j]? = some x → tb (σ.set i (some x)) H fun kv H' => ∃ d, KeyV kv d ∧ W (j + 1) (ks ++ [d]) H') ∧
    ∀ ks H, W xs.length ks H → ks.length = xs.length → AllAlike ks ∧ Sortable ks ∧ (∀ d ∈ ks, d.depth = 0) ∧ ∀ D, H D = none → Q (.ref D) (upd H D (.lst (byKeys xs ks)))
theorem pe_sortK {K : Kx} {ps : Arguments} {b e : Expr} {sc : Scope} {p : Str} {i k : Nat} {p0 lpos kpos pos : Pos} {ta : TA} {tb : TE} (hX : CxK K X) (TA : TabAt K X.env.code (X.env.qual ++ "<lambda>")) (hr : Room (k + 3) X.A) (hx : X.ex = []) (hg : Gl X "sorted") (hm : X.mg "sorted" = none) (ha : PA X [e] ta)
    (hdef : defaultsOf ps X.env = ([], [])) (L : KeyS X.env.scope sc p) (hN : X.N[i]? = some p) (nd : X.N.Nodup) (hbind : ∀ (q : Str) (cl : List (Str × Addr)) (pm cv ct u : Value), bindArgs (PySem.W.kla_fn "<lambda>" q ps b sc cl pm cv ct) ⟨[u], []⟩ = pure [(p, u)])
    (hbody : ∀ (f c' : Addr) (A : Around) (s : Shared) (H : Hp), Room k (A.deeper (lamEnv X sc s.heap.objs.size f c')) → PE (keyCx X A s H sc f c') b tb)
    (h1 : backTo pos (starEach [e] X.env) = (false, eval e X.env) :: backTo pos (starEach [] X.env) := by rfl) (h2 : (backTo pos (starEach [e] X.env)).any (·.1) = false := by rfl)
    (h3 : (backToKw pos (keywordEach [⟨some "key", .Lambda ps b sc lpos, kpos⟩] X.env)).all (·.1.isSome) = true := by rfl) (h4 : (backToKw pos (keywordEach [⟨some "key", .Lambda ps b sc lpos, kpos⟩] X.env)).any (·.1.isNone) = false := by rfl)
    (h5 : (backToKw pos (keywordEach [⟨some "key", .Lambda ps b sc lpos, kpos⟩] X.env)).filterMap (·.1) = [Str.ofString "key"] := by rfl) :
    PE X (.Call (.Name "sorted" p0) [e] [⟨some "key", .Lambda ps b sc lpos, kpos⟩] pos) (tSortK K i ta tb) := by
  refine ⟨fun pins s σ H Q I h => ?_⟩
  have bs : bootBuiltins "sorted" = some (.builtin "sorted") := by decide +kernel
  refine wpAny_Call_Name_kw (ld_blt I hg hm bs (?_ : _))
  refine PyProof.Rows.callWith_kw (thn (ha.run pos pins s σ H _ I h) fun us s1 ⟨vs, H1, I1, r1, q1⟩ => ?_) h1 h2 h3 h4
  obtain ⟨l, xs, S, rfl, hl, hs, tb1, q⟩ := q1
  have hk : PK X [⟨some "key", .Lambda ps b sc lpos, kpos⟩] (tCons (tLamK K X ps b sc) tNil) := pk_cons (pe_lamK hX TA hdef L) pk_nil
  have hrun := hk.run pos pins s1 σ H1 (fun zs H2 => ∃ f c' P' pm ct S2, zs = [V.ref f] ∧ GrowT (isTab S H1) S H1 S2 H2 ∧ TabsOk K S2 H2 ∧ S2 f = some (.ext (LamO f (X.env.qual ++ "<lambda>") ps b sc (cloFrom X.env.cells sc.names []) pm c' ct)) ∧ S2 c' = some (CodeN c' (X.env.qual ++ "<lambda>") P')) I1
    ⟨S, hs, tb1, fun f c' P' pm ct S2 H2 g t2 e1 e2 => ⟨f, c', P', pm, ct, S2, rfl, g, t2, e1, e2⟩⟩
  refine thn hrun fun ws s2 ⟨zs, H2, I2, r2, f, c', P', pm, ct, S2, ez, g, t2, e1, e2⟩ => ?_
  subst ez
  rw [h5]
  obtain rfl := Vals.ref1 r1
  obtain rfl := Vals.ref1 r2
  obtain ⟨W, w0, ws, turn, fin⟩ := q S2 H2 g t2
  have hl2 : SqL X.K H2 l xs ∨ SqT X.K H2 l xs := by
    rw [hX.k]
    exact hl.imp (fun z => (g.s.trans g.f).seq z) fun z => same_seqT (g.s.trans g.f) z
  exact sort_keys I2 hr hx L hN nd rfl hl2 (fun u => hbind _ _ _ _ _ u) (fun A s H hr2 => hbody f c' A s H hr2) W w0 (fun j ks H wj => ⟨ws _ _ _ wj _ _ e1, ws _ _ _ wj _ _ e2⟩) turn fin
end
end Dz

namespace Dz
open PySem PySem.SeqAt PyProof.Rows L2 RZ
open AutoSeq1 (wpAny_loadPart')
theorem enum_made (t : Addr) (its : Array Value) (n : Nat) (dct : Option Addr) (sl : Array (Option Value)) :
    Meets (Builtin.«enumerate.__new__» ⟨[.type "enumerate", .ref t], []⟩) (fun _ R s => s.heap.get? t = some { cls := .type "tuple", dict := dct, data := .seq its n, slots := sl } ∧
      R (.ok (.ret (.ref (s.heap.push { cls := .type "tuple_iterator", data := .fields #[.ref t, .int 0 0] }).objs.size)))
        { s with heap := (s.heap.push { cls := .type "tuple_iterator", data := .fields #[.ref t, .int 0 0] }).push { cls := .type "enumerate", data := .fields #[.none, .bool false, .ref s.heap.objs.size, rawInt 0, .none, .none] } }) :=
  .of_wp fun prog w A R s q => by
    obtain ⟨hp, gg, dd, tk, os⟩ := s; obtain ⟨hl, q⟩ := q
    have hsb := sub_enumerate
    have hT : Heap.IsTuple (Shared.heap ⟨hp, gg, dd, tk, os⟩) t its := ⟨_, hl, rfl, n, rfl⟩
    wp_walk using wpAny_loadPart' hl
    refine wpAny_stack_any fun st => wpAny_pure ?_
    split
    · rename_i c _ _ _ _ _
      cases (c == Value.type "enumerate") <;> (wp_walk using wpAny_loadPart' hl, wpAny_pyIter_tuple hT) <;> exact ⟨_, rfl, q⟩
    · (wp_walk using wpAny_loadPart' hl, wpAny_pyIter_tuple hT) <;> exact ⟨_, rfl, q⟩
theorem enum_call {prog : Program} {w : World} {A : Around} {E : Value → Shared → Prop} {s : Shared} {t : Addr} {its : Array Value} {Q : Value → Shared → Prop} (hT : s.heap.IsTuple t its)
    (q : ∀ h', IsEnum h' (s.heap.objs.size + 1) s.heap.objs.size 0 .none → h'.IsTupleIter s.heap.objs.size t 0 → h'.objs.size = s.heap.objs.size + 2 → (∀ b o, s.heap.get? b = some o → h'.get? b = some o) → Q (.ref (s.heap.objs.size + 1)) { s with heap := h' }) :
    wpAny (model prog w) A (call (.type "enumerate") [.ref t]) Q E s := by
  obtain ⟨⟨cc, dct, dt, sl⟩, hl, hc, n, hd⟩ := hT
  replace hc : cc = .type "tuple" := hc
  replace hd : dt = .seq its n := hd
  subst hc hd
  refine callType_new F.called_enumerate (by decide) (F.typeCall_enumerate_1 _) (F.newCall_enumerate_1 _) (fun ob => F.args_object_init_2 ob _) F.entry_enumerate_new (enum_made t its n dct sl) ⟨hl, ?_⟩
  have hz : (s.heap.push { cls := .type "tuple_iterator", data := .fields #[.ref t, .int 0 0] }).objs.size = s.heap.objs.size + 1 := Heap.size_push ..
  show _ ∧ _
  rw [hz]
  have he : IsEnum ((s.heap.push { cls := .type "tuple_iterator", data := .fields #[.ref t, .int 0 0] }).push { cls := .type "enumerate", data := .fields #[.none, .bool false, .ref s.heap.objs.size, rawInt 0, .none, .none] }) (s.heap.objs.size + 1) s.heap.objs.size 0 .none := by
    have z := Heap.get?_push_size (s.heap.push { cls := .type "tuple_iterator", data := .fields #[.ref t, .int 0 0] }) (o := { cls := .type "enumerate", data := .fields #[.none, .bool false, .ref s.heap.objs.size, rawInt 0, .none, .none] }) rfl
    rw [hz] at z; exact z
  exact ⟨⟨_, he, rfl⟩, q _ he ⟨_, Heap.get?_push_of_some _ (Heap.get?_push_size _ rfl), rfl, rfl⟩ (by rw [Heap.size_push, hz]) fun b o z => Heap.get?_push_of_some _ (Heap.get?_push_of_some _ z)⟩
theorem wpAny_pyNext_enum_endT {prog : Program} {w : World} {A : Around} {E : Value → Shared → Prop} {s : Shared} {e it t : Addr} {i : Nat} {its : Array Value} {old : Value} {Q : Option Value → Shared → Prop} (hh : A.handled = none)
    (he : IsEnum s.heap e it i old) (hit : s.heap.IsTupleIter it t i) (hl : s.heap.IsTuple t its) (hx : its[i]? = none) (q : ∀ h', Heap.ExtBut it s.heap h' → Q none { s with heap := h' }) : wpAny (model prog w) A (pyNext (.ref e)) Q E s := by
  have hTy : s.TypeIs (.ref e) "enumerate" := ⟨_, he, rfl⟩
  unfold pyNext
  refine wpAny_bind (wpAny_attempt (wpAny_callSpecial?_slot (name := Str.ofString "__next__") hTy F.slot_enumerate_next (wpAny_call_entry F.slot_enumerate_next hTy F.entry_enumerate_next ?_ (F.args_enumerate_next_1 _))))
  show wpAny _ _ (field (.ref e) 2 >>= _) _ _ _
  refine wpAny_bind (wpAny_field he rfl (x := .ref it) rfl (wpAny_bind (wpAny_nextOf_tuple_end (by simpa using hh) hit hl hx fun h' x he' hx' => ?_)))
  obtain ⟨o, ho, hc⟩ := hx'
  exact wpAny_bind (wpAny_isInstance (T := "StopIteration") (b := true) ⟨o, ho, hc⟩ isSubtype_stop (wpAny_pure (q _ he')))
def IteT (K : PySem.W.Frag) (a : Addr) : It :=
  ⟨fun i H => ∃ (xs : List V) (x : V), SqT K H a xs ∧ xs[i]? = some x, fun i H v H' => ∃ T x, v = .ref T ∧ H T = none ∧ H' = upd H T (.tup [.int (i : Nat), x]) ∧ ∀ xs, SqT K H a xs → xs[i]? = some x, fun i H => ∃ xs : List V, SqT K H a xs ∧ xs.length ≤ i⟩
theorem turn_enumT {P : Program} {w : World} {K : PySem.W.Frag} {elts : List Expr} {kk : Nat} {tpos : Pos} (a e it : Addr) (hai : a ≠ it) (hae : a ≠ e) (hne : e ≠ it) :
    Turn P w K (.Tuple elts kk tpos) (IteT K a) [e, it] e (fun i h => (∃ old, IsEnum h e it ((i : Nat) : Int) old) ∧ h.IsTupleIter it a i) where
  mem := by simp
  obj := fun i h st b hb => by
    obtain ⟨⟨old, he⟩, ⟨o, ho, hc, hd⟩⟩ := st
    rcases (show b = e ∨ b = it by simpa using hb) with rfl | rfl
    · exact ⟨_, he, fun v q => nomatch q⟩
    · exact ⟨o, ho, fun v q => by rw [hd] at q; cases q⟩
  keep := fun i h h' st k => let ⟨⟨old, he⟩, hi⟩ := st; ⟨⟨old, k e (by simp) _ he⟩, hi.at fun o q => k it (by simp) o q⟩
  item := by
    intro X hP hw hK hc i pins s σ H E I hf st hg
    subst hP hw hK
    obtain ⟨⟨old, he⟩, hit⟩ := st
    obtain ⟨xs, x, hq, hx⟩ := hg
    obtain ⟨its, rv, p, hz⟩ := I.tuple hq
    obtain ⟨u, hu, ru⟩ := rv.get hx
    have hel : e < s.heap.objs.size := Heap.lt_size he
    have hil : it < s.heap.objs.size := by obtain ⟨_, q, _⟩ := hit; exact Heap.lt_size q
    have hlt : i < its.toArray.size := (Array.getElem?_eq_some_iff.mp (show its.toArray[i]? = some u by simpa using hu)).1
    refine wpAny_pyNext_enum_itemC (Draws.tuple (A := X.A.in1) (by have := I.ok.hd hc; simpa using this) it a hai its.toArray) he ⟨hit, p⟩ hlt hne (by simp [hne, Ne.symm hae]) fun y h' tk hy ho hst' hT hsz hk => ?_
    obtain ⟨hit', _⟩ := hst'
    have hyu : y = u := by
      have e1 : its.toArray[i]? = some u := by simpa using hu
      rw [e1] at hy
      exact (Option.some.inj hy).symm
    subst hyu
    refine ⟨_, rfl, wpAny_letOwnedTupleGo_enum (s := { s with heap := h', toks := tk + 1 }) ho fun h'' he' sb => ?_⟩
    have hT2 : h''.get? s.heap.objs.size = some { cls := .type "tuple", data := .seq #[.int i tk, y] } := (sb.2 _ (Nat.ne_of_gt hel)).trans hT
    have nw : ObjOk X.prog X.w (upd H s.heap.objs.size (.tup [.int (i : Nat), x])) h'' s.heap.objs.size (.tup [.int (i : Nat), x]) :=
      ⟨by show 2 ≤ sizeLine; decide, [.int i tk, y], .cons ⟨_, rfl⟩ (.cons ru .nil), ⟨_, hT2, rfl, _, rfl⟩⟩
    have I1 : Inv X pins σ (upd H s.heap.objs.size (.tup [.int (i : Nat), x])) { s with heap := h'', toks := tk + 1 } :=
      I.turnedNew (ch := [e, it]) (fun b ob hb q => (sb.2 b (fun z => hb (by simp [z]))).trans (hk b ob (fun z => hb (by simp [z])) (fun z => hb (by simp [z])) q)) hf (Nat.le_refl _) nw
    refine ⟨.ref s.heap.objs.size, _, I1, rfl, ⟨_, x, rfl, I.hok.fresh (Nat.le_refl _), rfl, fun ys hy => by rw [I.tuple_inj hy hq]; exact hx⟩, ⟨⟨y, ?_⟩, hit'.at fun o q => (sb.2 it (Ne.symm hne)).trans q⟩, fun b hb => ?_⟩
    · rw [show ((i + 1 : Nat) : Int) = (i : Int) + 1 by omega]; exact he'
    · have hbl : b < s.heap.objs.size := by
        rcases (show b = e ∨ b = it by simpa using hb) with rfl | rfl
        · exact hel
        · exact hil
      rw [upd_ne (Nat.ne_of_lt hbl)]
      exact (hf b hb).1
  done := by
    intro X hP hw hK hc i pins s σ H E I hf st hg
    subst hP hw hK
    obtain ⟨⟨old, he⟩, hit⟩ := st
    obtain ⟨xs, hq, hx⟩ := hg
    obtain ⟨its, rv, p, hz⟩ := I.tuple hq
    obtain ⟨f0, f1, f2, f3, f4, f5⟩ := hf it (by simp)
    have hl := rv.length
    have hit' := hit
    exact wpAny_pyNext_enum_endT (I.ok.hd hc) he hit p (by simp; omega) fun h' eb => ⟨rfl, I.turned (t' := s.toks) (fun b o hb q => eb b o hb q) f0 f1 f3 f4 f5⟩
  self := fun A i s Q E st h => let ⟨⟨_, he⟩, _⟩ := st; wpAny_pyIter_enum he h
def iEnumA (K : PySem.W.Frag) (ta : TA) : TI := fun σ H R => ta σ H fun vs H1 => ∃ a xs, vs = [.ref a] ∧ ((SqL K H1 a xs ∧ R (Ite K a) H1) ∨ (SqT K H1 a xs ∧ R (IteT K a) H1))
theorem pi_enumA {X : Cx} {e : Expr} {ta : TA} {p pos tpos : Pos} {elts : List Expr} {kk : Nat} (hg : Gl X "enumerate") (hm : X.mg "enumerate" = none) (ha : PA X [e] ta) (hs : starEach [e] X.env = [(false, eval e X.env)] := by rfl) :
    PI X (.Tuple elts kk tpos) (.Call (.Name "enumerate" p) [e] [] pos) (iEnumA X.K ta) := by
  refine ⟨fun pins s σ H R I h => Call_ (ld_blt I hg hm boot_enumerate (PyProof.Rows.callWith_type1 (thn (ha.run pos pins s σ H _ I h) fun us s1 ⟨vs, H1, I1, r1, q1⟩ => ?_) hs rfl))⟩
  obtain ⟨a, xs, rfl, q1⟩ := q1
  have key : ∀ b, b ∈ [s1.heap.objs.size + 1, s1.heap.objs.size] → FpOk X pins H1 b := fun b hb => by
    have hle : s1.heap.objs.size ≤ b := by
      rcases (show b = s1.heap.objs.size + 1 ∨ b = s1.heap.objs.size by simpa using hb) with z | z
      · rw [z]; exact Nat.le_succ _
      · rw [z]; exact Nat.le_refl _
    exact I1.fpOk hle (I1.hok.fresh hle)
  cases r1 with
  | cons r rr =>
    cases rr
    cases r
    rcases q1 with ⟨hq, q⟩ | ⟨hq, q⟩
    · obtain ⟨its, rv, p', hz⟩ := I1.list hq
      exact call_enumerate_list p'.isList fun h' he hit hsz hk => wpAny_pyIter_enum he ⟨s1.heap.objs.size + 1, [s1.heap.objs.size + 1, s1.heap.objs.size], _, _, H1, rfl, I1.kept (t' := s1.toks) hk, turn_enum a (s1.heap.objs.size + 1) s1.heap.objs.size, ⟨⟨.none, he⟩, hit, Nat.succ_ne_self _⟩, key, q⟩
    · obtain ⟨its, rv, p', hz⟩ := I1.tuple hq
      have hal : a < s1.heap.objs.size := by obtain ⟨_, z, _⟩ := p'; exact Heap.lt_size z
      exact enum_call p' fun h' he hit hsz hk => wpAny_pyIter_enum he ⟨s1.heap.objs.size + 1, [s1.heap.objs.size + 1, s1.heap.objs.size], _, _, H1, rfl, I1.kept (t' := s1.toks) hk, turn_enumT a (s1.heap.objs.size + 1) s1.heap.objs.size (Nat.ne_of_lt hal) (Nat.ne_of_lt (Nat.lt_succ_of_lt hal)) (Nat.succ_ne_self _), ⟨⟨.none, he⟩, hit⟩, key, q⟩
end Dz

namespace Dz
open PySem PySem.SeqAt PyProof.Rows L2 RZ PpSet
def uniqI : List Int → List Int
  | [] => []
  | x :: r => if x ∈ uniqI r then uniqI r else x :: uniqI r
def SetIO (w : World) (a : Addr) (S : Int → Bool) (n : Nat) : HO := .ext fun h => L2.SetR w h a S n
section
variable {X : Cx} {pins : List (Addr × Obj)} {σ : L2.St} {H : Hp} {s : Shared} {a D : Addr} {S : Int → Bool} {n : Nat}
end
section
variable {X : Cx} {elt tg iter : Expr} {ifs : List Expr} {scope : Scope} {own : List (PySem.Str × Nat)} {wi : TI} {g : TG} {tt : TT} {te : TE}
end
section
variable {P : Program} {w : World} {A : Around} {E : Value → Shared → Prop} {s : Shared}
theorem set_list {l : Addr} {its : Array Value} (ns : List Int) {Q : Value → Shared → Prop} (hh : A.handled = none) (hl : s.heap.IsList l its) (hit : IntsAre its.toList ns) (hb : ns.length + 1 < scanBound)
    (q : ∀ (h' : Heap) (tk c : Nat), L2.SetR w h' s.heap.objs.size (fun j => decide (j ∈ ns)) c → c ≤ ns.length → (∀ b o, s.heap.get? b = some o → h'.get? b = some o) → Q (.ref s.heap.objs.size) { s with heap := h', toks := tk }) :
    wpAny (model P w) A (call (.type "set") [.ref l]) Q E s := by
  have hsz : its.size = ns.length := by rw [← Array.length_toList]; exact IntsAre.length hit
  obtain ⟨mc, mt, hmro⟩ := F.called_set.mro
  have hmade := F.called_set.made
  have hsb := F.called_set.sub
  have nT := F.called_set.notType
  have cCr := F.called_set.canCreate
  have hct := F.typeCall_set_1 (.ref l)
  refine wpAny_call (codeAny_of_tree ?_)
  show wpAny _ _ (callAny (.type "set") _) _ _ _
  refine wpAny_pure ⟨Code.quiet_builtin _ (by decide +kernel), codeAny_builtin F.entry_type_call ?_⟩
  rw [Around.under_plain (weight_type_call_type "set" [.ref l] []) rfl]
  repeat (any_goals (first | assumption | wp_step))
  refine codeAny_mono (code_set_led1 (.ref l) (E := E) (Q₁ := fun ob z => ob = .ref s.heap.objs.size ∧ z = { s with heap := s.heap.push { cls := .type "set", dict := none, data := .set #[] 0 (.fresh 0 0 (!w.params.followText "set-order")) } }) ⟨rfl, rfl⟩) fun r s₁ hr => ?_
  cases r with
  | error e => exact hr
  | ok fl =>
    cases fl with
    | ret ob =>
      obtain ⟨rfl, rfl⟩ := hr
      have hS : (s.heap.push { cls := .type "set", dict := none, data := .set #[] 0 (.fresh 0 0 (!w.params.followText "set-order")) }).get? s.heap.objs.size = some { cls := .type "set", dict := none, data := .set #[] 0 (.fresh 0 0 (!w.params.followText "set-order")) } := Heap.get?_push_size _ rfl
      have hT : Shared.TypeIs { s with heap := s.heap.push { cls := .type "set", dict := none, data := .set #[] 0 (.fresh 0 0 (!w.params.followText "set-order")) } } (.ref s.heap.objs.size) "set" := ⟨_, hS, rfl⟩
      have lk := F.called_set.init.lookup
      have bd := F.called_set.init.bind (.ref s.heap.objs.size)
      repeat (any_goals (first | assumption | wp_step))
      refine codeAny_mono (codeAny_call_builtin (R := wants (fun r z => r = .none ∧ ∃ h' tk c, z = { s with heap := h', toks := tk } ∧ L2.SetR w h' s.heap.objs.size (fun j => decide (j ∈ ns)) c ∧ c ≤ ns.length ∧ (∀ b o, s.heap.get? b = some o → h'.get? b = some o)) E) F.called_set.init.plain F.entry_set_init (check_set_init_1 hT ?_)) fun r₂ s₂ hr₂ => ?_
      · obtain ⟨⟨oc, od, odt, osl⟩, hol, hcl, nl, hdl⟩ := hl
        simp only at hcl hdl
        subst hcl; subst hdl
        have hol' : (s.heap.push { cls := .type "set", dict := none, data := .set #[] 0 (.fresh 0 0 (!w.params.followText "set-order")) }).get? l = some { cls := .type "list", dict := od, data := .seq its nl, slots := osl } := Heap.get?_push_of_some _ hol
        have s1 := F.sub_list_set
        have s2 := F.sub_list_frozenset
        have ne : (Value.type "list" == Value.type "dict") = false := by decide
        have hl1 : (s.heap.push { cls := .type "set", dict := none, data := .set #[] 0 (.fresh 0 0 (!w.params.followText "set-order")) }).IsList l its := ⟨_, hol', rfl, nl, rfl⟩
        unfold Builtin.«set.__init__» noKeywords Builtin.Frozenset.updateFrom
        generalize hPI : pyIter = PI
        wp_walk
        subst hPI
        refine wpAny_pyIter_list hl1 (wpAny_bind (wpAny_runValue ?_))
        have hlS : l < s.heap.objs.size := Heap.lt_size hol
        have h3 : A.in1.in1.in1.handled = none := by simp [hh]
        have nI : l ≠ (s.heap.push { cls := .type "set", dict := none, data := .set #[] 0 (.fresh 0 0 (!w.params.followText "set-order")) }).objs.size := by rw [Heap.size_push]; exact Nat.ne_of_lt (Nat.lt_succ_of_lt hlS)
        have nS : s.heap.objs.size ∉ [(s.heap.push { cls := .type "set", dict := none, data := .set #[] 0 (.fresh 0 0 (!w.params.followText "set-order")) }).objs.size, l] := by
          rw [Heap.size_push]; simp only [List.mem_cons, List.mem_singleton, List.not_mem_nil, or_false, not_or]; exact ⟨Nat.ne_of_lt (Nat.lt_succ_self _), Nat.ne_of_gt hlS⟩
        have hv : ∀ (i : Nat) (v : Value), its[i]? = some v → ∃ k t, ns[i]? = some k ∧ v = .int k t := fun i v hv => by
          have hi : i < ns.length := by rw [← hsz]; exact (Array.getElem?_eq_some_iff.mp hv).1
          obtain ⟨t, e⟩ := PyProof.Rows.IntsAre.int_at hit i v (by rw [Array.getElem?_toList]; exact hv)
          exact ⟨ns[i], t, List.getElem?_eq_getElem hi, by rw [e, List.getD_eq_getElem?_getD, List.getElem?_eq_getElem hi] <;> rfl⟩
        refine set_update_ints ((Walks.list h3 _ l nI its).toS) s.heap.objs.size nS ns hsz hb hv (its.size - 0) 0 _ (by omega) (Nat.zero_le _) ⟨⟨_, Heap.get?_push_size _ rfl, rfl, rfl⟩, (hl1.push _)⟩ ?h0 ?hR
        case h0 => exact ⟨0, Nat.le_refl 0, setR_new_at (Heap.get?_push_of_some _ hS)⟩
        case hR =>
          intro z c' hm hc' hS'
          obtain ⟨h', g2, d', tk', os'⟩ := z
          have eg : g2 = s.gens := hm.gens
          have ed : d' = s.drawn := hm.drawn
          have eo : os' = s.os := hm.os
          subst eg; subst ed; subst eo
          show wpAny _ _ _ _ _ _
          refine wpAny_pure ?_
          show wpAny _ _ (ret Value.none) _ _ _
          rw [hsz] at hc'
          refine wpAny_pure ⟨rfl, h', tk', c', rfl, hS', hc', fun b o e => ?_⟩
          have hb0 : b < s.heap.objs.size := Heap.lt_size e
          exact hm.heap b o (by rw [Heap.size_push]; simp only [List.mem_cons, List.mem_singleton, List.not_mem_nil, or_false, not_or]; exact ⟨Nat.ne_of_lt hb0, Nat.ne_of_lt (Nat.lt_succ_of_lt hb0)⟩) (Heap.get?_push_of_some _ (Heap.get?_push_of_some _ e))
      · cases r₂ with
        | error e => exact hr₂
        | ok fl₂ =>
          cases fl₂ with
          | ret r =>
            obtain ⟨rfl, h', tk, c', rfl, hS', hc', hk'⟩ := hr₂
            repeat (any_goals (first | assumption | wp_step))
            exact q _ _ _ hS' hc' hk'
          | _ => exact hr₂.elim
    | _ => exact hr.elim
end
def rSetL (K : PySem.W.Frag) (w : World) : List V → Hp → VK → Prop := fun xs H Q => ∃ (a : Addr) (ns : List Int), xs = [.ref a] ∧ (SqL K H a (ns.map V.int) ∨ SqT K H a (ns.map V.int)) ∧ ns.length ≤ 4000 ∧ ∀ (p : Addr), H p = none → Q (.ref p) (upd H p (SetIO w p (fun j => decide (j ∈ ns)) (uniqI ns).length))
section
variable {X : Cx} {K : PySem.W.Frag} {w : World}
end
section
variable {X : Cx} {elt tg iter : Expr} {ifs : List Expr} {scope : Scope} {own : List (PySem.Str × Nat)} {wi : TI} {g : TG} {tt : TT} {te : TE}
theorem k_enumA (K : PySem.W.Frag) {e : Expr} {ta : TA} {p pos tpos : Pos} {elts : List Expr} {kk : Nat} (hg : Gl X "enumerate") (hm : X.mg "enumerate" = none) (ha : PA X [e] ta) (hs : starEach [e] X.env = [(false, eval e X.env)] := by rfl) (h : X.K = K := by rfl) :
    PI X (.Tuple elts kk tpos) (.Call (.Name "enumerate" p) [e] [] pos) (iEnumA K ta) := h ▸ pi_enumA hg hm ha hs
end
section
open PySem PySem.Spec PyProof.Rows L2
end
end Dz

namespace Dz
open PySem PySem.Spec PySem.SeqAt PyProof.Rows L2 RZ LamX
def DnO (P : Program) (w : World) (a : Addr) (xs : List (NestedKey × Addr × Value)) : HO :=
  .ext fun h => (a == sysModules) = false ∧ xs.length ≤ sizeLine ∧ ∃ o es ep, h.get? a = some o ∧ o.ExactDict ∧ o.data = .dict es ep ∧ es.toList = xs.map (entryOfKey (nestedKind P w)) ∧ (xs.map (·.1)).Nodup
def Nk (K : Kx) (S : Hp) (b : Addr) (k : NestedKey) : Prop := k.depth ≤ 8 ∧ Dp K S (.ref b) k.data
def KnD (K : Kx) (S : Hp) : List (NestedKey × Addr × Value) → List (NestedKey × PyData) → Prop := Paired fun q p => q.1 = p.1 ∧ Nk K S q.2.1 q.1 ∧ ∃ v, RelV v q.2.2 ∧ Dp K S v p.2
section
variable {K : Kx} {S S1 H : Hp} {xs : List (NestedKey × Addr × Value)} {kvs : List (NestedKey × PyData)} {k : NestedKey} {a b : Addr}
theorem Nk.mono (h : Nk K S b k) (e : Same S S1) : Nk K S1 b k := ⟨h.1, Dp_mono h.2 e⟩
theorem KnD.mono (h : KnD K S xs kvs) (e : Same S S1) : KnD K S1 xs kvs := Paired.mapP h fun _ _ q => ⟨q.1, q.2.1.mono e, let ⟨v, r, d⟩ := q.2.2; ⟨v, r, Dp_mono d e⟩⟩
theorem KnD.len (h : KnD K S xs kvs) : xs.length = kvs.length := by
  induction h with
  | nil => rfl
  | cons _ _ ih => simp [ih]
theorem KnD.val (h : KnD K S xs kvs) : (∀ d, valG kvs k = some d → ∃ b u v, atKey xs k = some (b, u) ∧ RelV v u ∧ Dp K S v d) ∧ (valG kvs k = none → atKey xs k = none) := by
  induction h with
  | nil => exact ⟨fun d z => (by cases z), fun _ => rfl⟩
  | @cons q p xs kvs hq _ ih =>
    obtain ⟨e, _, v, r, hd⟩ := hq
    unfold valG atKey at *
    rw [List.find?_cons, List.find?_cons, e]
    by_cases hk : p.1 = k
    · rw [decide_eq_true hk]
      refine ⟨fun d z => ?_, fun z => ?_⟩
      · cases z
        exact ⟨q.2.1, q.2.2, v, rfl, r, hd⟩
      · cases z
    · rw [decide_eq_false hk]
      exact ih
theorem KnD.put {d : PyData} {v : V} {u : Value} (h : KnD K S xs kvs) (hk : Nk K S b k) (r : RelV v u) (hd : Dp K S v d) : KnD K S (storedH xs k b u) (putG kvs k d) := by
  have ha : (atKey xs k).isSome = kvs.any fun kv => decide (kv.1 = k) := by
    clear hk r hd
    induction h with
    | nil => rfl
    | @cons q p xs kvs hq _ ih =>
      unfold atKey at *
      rw [List.find?_cons, List.any_cons, hq.1]
      by_cases hk : p.1 = k
      · rw [decide_eq_true hk]; rfl
      · rw [decide_eq_false hk, Bool.false_or]; exact ih
  unfold storedH putG
  rw [ha]
  split
  · clear ha
    rename_i z
    clear z
    induction h with
    | nil => exact .nil
    | @cons q p xs kvs hq _ ih =>
      refine .cons ?_ ih
      show (putAt k u q).1 = (if p.1 = k then (p.1, d) else p).1 ∧ Nk K S (putAt k u q).2.1 (putAt k u q).1 ∧ ∃ v, RelV v (putAt k u q).2.2 ∧ Dp K S v (if p.1 = k then (p.1, d) else p).2
      have e1 : putAt k u q = if p.1 = k then (q.1, q.2.1, u) else q := by unfold putAt; rw [hq.1]
      by_cases e : p.1 = k
      · rw [e1, if_pos e, if_pos e]
        exact ⟨hq.1, hq.2.1, v, r, hd⟩
      · rw [e1, if_neg e, if_neg e]; exact hq
  · clear ha
    induction h with
    | nil => exact .cons ⟨rfl, hk, v, r, hd⟩ .nil
    | cons hq _ ih =>
      refine .cons hq (ih ?_)
      rename_i z
      intro z2
      refine z ?_
      rw [List.any_cons, z2, Bool.or_true]
end
section
variable {X : Cx} {K : Kx} {pins : List (Addr × Obj)} {σ : L2.St} {H S : Hp} {s : Shared}
mutual
theorem nest_of {h : Heap} : ∀ (k : NestedKey) (u : Value) (as : List Addr), Reads h u k.data as → NestedIs h k u
  | .none, u, as, r => by
    unfold NestedKey.data at r
    cases r
    exact .none
  | .num i, u, as, r => by
    unfold NestedKey.data at r
    cases r
    exact .int _ _
  | .text x, u, as, r => by
    unfold NestedKey.data at r
    cases r
    exact .text _ _
  | .tup ks, u, as, r => by
    unfold NestedKey.data at r
    cases r with
    | tuple h1 h2 h3 h4 => exact .tup h1 h2 h3 (nest_all ks _ _ h4)
theorem nest_all {h : Heap} : ∀ (ks : List NestedKey) (us : List Value) (as : List Addr), ReadsAll h us (NestedKey.datas ks) as → NestedAll h ks us
  | [], us, as, r => by
    unfold NestedKey.datas at r
    cases r
    exact .nil
  | k :: ks, us, as, r => by
    unfold NestedKey.datas at r
    cases r with
    | cons r1 r2 => exact .cons (nest_of k _ _ r1) (nest_all ks _ _ r2)
end
theorem Nk.is {k : NestedKey} {b : Addr} (hX : CxK K X) (I : Inv X pins σ H s) (hs : Same S H) (h : Nk K S b k) : (nestedKind X.prog X.w).is s.heap k b := by
  have hd : Dp X.K H (.ref b) k.data := by rw [hX.k]; exact Dp_mono h.2 hs
  obtain ⟨as, r⟩ := Dp.reads I _ _ (.ref b) hd rfl
  exact ⟨nest_of k _ as r, h.1⟩
variable {o i e value : Expr} {pos pos' tpos : Pos} {td ty tv : TE}
end
end Dz

namespace Dz
open PySem PySem.Spec PySem.SeqAt PyProof.Rows L2 RZ LamX
section
variable {X : Cx} {o e : Expr} {f : Str} {pos p apos cpos : Pos} {to te : TE}
def gFld (K : PySem.W.Frag) (to : TE) (f : Str) : TG := fun v σ H Q => to σ H fun x H1 => ∃ a C dx fs, x = .ref a ∧ H1 a = some (.ins C dx fs) ∧ Cls K C ∧ NoAttr K C f ∧ fs.length < 1000 ∧ Q σ (upd H1 a (.ins C dx (putF f v fs)))
theorem pg_fld (ho : PE X o to) : PG X (.Attribute o f pos) (gFld X.K to f) := by
  refine ⟨fun pins s σ H v u Q I r h => ?_⟩
  rw [assign_Attribute]
  refine wpAny_bind (wpAny_holding (thn (ho.run pins s σ H _ I h) fun ov s1 ⟨x, H1, I1, r1, a, C, dx, fs, ex, ea, c, n, l, q⟩ => ?_))
  subst ex
  obtain rfl : ov = Value.ref a := r1
  refine wpAny_bind (wpAny_standAt (wpAny_bind (wpAny_holding (setattr_ok I1 ea c n l r fun s2 I2 => ?_))))
  exact wpAny_release ⟨σ, _, I2, q⟩
def rValsL : V → Hp → VK → Prop := fun x H Q => ∃ (d : Addr) (kvs : List (Key × V)), x = .ref d ∧ H d = some (.dK kvs) ∧ ∀ p, H p = none → Q (.ref p) (upd H p (.lst (kvs.map (·.2))))
def tListVals (te : TE) : TE := fun σ H Q => te σ H fun x H1 => rValsL x H1 Q
theorem paired_vals {kvs : List (Key × V)} {vs : List (Key × Value)} (h : KV kvs vs) : Vals (kvs.map (·.2)) (vs.map (·.2)) := by
  unfold KV at h
  induction h with
  | nil => exact .nil
  | cons hq _ ih => exact .cons hq.2 ih
theorem pe_listVals (hc : X.calm = true) (he : PE X e te) (hg : Gl X "list") (hm : X.mg "list" = none) (hv : bootBuiltins "list" = some (.type "list")) (hbase : attributeBase e "values" X.env (eval e X.env) = eval e X.env := by rfl) (hline : (apos.endLine == cpos.line) = true := by rfl)
    (hs : starEach [.Call (.Attribute e "values" apos) [] [] cpos] X.env = (false, eval (.Call (.Attribute e "values" apos) [] [] cpos) X.env) :: starEach [] X.env := by rfl) :
    PE X (.Call (.Name "list" p) [.Call (.Attribute e "values" apos) [] [] cpos] [] pos) (tListVals te) := by
  refine ⟨fun pins s σ H Q I hq => ?_⟩
  refine wpAny_Call_Name_kw (ld_blt I hg hm hv ?_)
  refine PyProof.Rows.callWith_type1 ?_ hs rfl
  rw [hs]
  show wpAny _ _ (spliced ((false, eval (.Call (.Attribute e "values" apos) [] [] cpos) X.env) :: backTo pos (starEach [] X.env))) _ _ s
  refine Calls.spliced_cons ?_
  refine wpAny_Call_method (T := "dict") (id := "dict.values") hbase rfl hline F.plainAttrs_dict F.slot_dict_values F.type_dict_values (thn (he.run pins s σ H _ I hq) fun u s1 ⟨x, H1, I1, rx, d, kvs, ex, hd, q⟩ => ?_)
  subst ex
  obtain rfl : u = Value.ref d := rx
  obtain ⟨hz, hs0, vs, kv, hdo⟩ := I1.hok d _ hd
  obtain ⟨ep, hat⟩ := hdo.dictAt
  have lk : kvs.length = vs.length := Paired.length kv
  have I2 : Inv X pins σ H1 { s1 with heap := s1.heap.push { cls := .type "dict_values", data := .fields #[.ref d] } } := I1.kept (t' := s1.toks) fun b ob q => Heap.get?_push_of_some _ q
  refine ⟨hdo.typeIs, hdo.mapOf.noDict, ?_⟩
  show wpAny _ _ (callWith cpos (.builtin "dict.values") [.ref d] [] []) _ X.xe s1
  refine method_meetsIn F.slot_dict_values F.entry_dict_values rfl (PySem.evalArgs_none ⟨rfl, hdo.typeIs, F.args_dict_values_1 _, _, meets_dict_values (mixKind X.prog X.w) d hs0, ⟨vs, hdo⟩, ?_⟩)
  refine Calls.spliced_nil ?_
  refine PySem.W.kdl_call (PySem.W.kdl_values (knd := mixKind X.prog X.w) (kvs := vs) (ep := ep)) (I1.ok.hd hc) ⟨⟨_, Heap.get?_push_size _ rfl, rfl, rfl⟩, hat.push _⟩ (by rw [← lk]; exact hz) fun h' tk acc' c' hkeep hS hacc => ?_
  refine ⟨.ref (s1.heap.push { cls := .type "dict_values", data := .fields #[.ref d] }).objs.size, upd H1 (s1.heap.push { cls := .type "dict_values", data := .fields #[.ref d] }).objs.size (.lst (kvs.map (·.2))), I2.laid hkeep (Nat.le_refl _) (show ObjOk X.prog X.w _ _ _ (.lst (kvs.map (·.2))) from ⟨?_, acc'.toList, c', ?_, ?_⟩), rfl, q _ (I2.hok.fresh (Nat.le_refl _))⟩
  · rw [List.length_map]; exact hz
  · rw [PySem.W.kdl_vals_eq (kvs := vs) acc'.toList (by simpa using hacc.1) fun j v hj => hacc.2 j v (by rw [← Array.getElem?_toList]; exact hj)]
    exact paired_vals kv
  · rw [Array.toArray_toList]; exact hS
end
end Dz

namespace Dz
open PySem PySem.Spec PySem.SeqAt PyProof.Rows L2 RZ LamX
end Dz

namespace L2
open PySem PySem.Spec PyProof.Rows
end L2

namespace Dz
open PySem PySem.Spec PySem.SeqAt PySem.W PyProof.Rows L2 RZ
section
variable {X : Cx}
end
end Dz

namespace Dz
open PySem PySem.Spec PySem.SeqAt PySem.W PyProof.Rows L2 RZ
section
variable {X : Cx}
end
end Dz

namespace L2
open PySem PySem.Spec PyProof.Rows
section
variable {X : Cx}
def rTupX (K : PySem.W.Frag) : List V → Hp → VK → Prop := fun xs H Q => ∃ p ys, xs = [.ref p] ∧ SqL K H p ys ∧ ∀ (l : Addr) (o : Obj), o.cls = .type "tuple" → o.dict = none → H l = none → Q (.ref l) (upd H l (.frz o (.tup ys)))
theorem cr_tupX : CallR X (.type "tuple") (rTupX X.K) := by
  intro pins s σ H xs us Q I r h
  obtain ⟨p, ys, rfl, hq, q⟩ := h
  obtain ⟨u, rfl, rx⟩ := vals1 r
  cases rx
  obtain ⟨its, r', pl, hz⟩ := I.list hq
  have hlen := r'.length
  refine call_tuple_list pl.isList (fun h' kp => ?_) (by simp only [List.size_toArray] <;> omega)
  have I1 : Inv X pins σ H { s with heap := h' } := I.kept (t' := s.toks) kp
  have I2 : Inv X pins σ (upd H h'.objs.size (.frz { cls := .type "tuple", data := .seq its.toArray } (.tup ys))) { s with heap := h'.push { cls := .type "tuple", data := .seq its.toArray } } :=
    I1.laid (t' := s.toks) (fun b o e => Heap.get?_push_of_some _ e) (Nat.le_refl _) ⟨Heap.get?_push_size _ rfl, hz, its, r', IsTup.new _ _⟩
  exact ⟨.ref h'.objs.size, _, I2, rfl, q _ _ rfl rfl (I1.hok.fresh (Nat.le_refl _))⟩
def KnT (x : V) (H : Hp) : Prop := ∃ (p : Addr) (o : Obj) (xs : List V), x = .ref p ∧ H p = some (.frz o (.tup xs)) ∧ o.cls = .type "tuple" ∧ o.dict = none
def tBMX (r : V → List V → Hp → VK → Prop) (to : TE) (t : TA) : TE := fun σ H Q => to σ H fun x H1 => KnT x H1 ∧ t σ H1 fun xs H2 => r x xs H2 Q
theorem knT_is {pins : List (Addr × Obj)} {σ : St} {H : Hp} {s : Shared} {x : V} {v : Value} (I : Inv X pins σ H s) (r : RelV x v) (h : KnT x H) : s.TypeIs v "tuple" ∧ ∀ a, v = .ref a → ∃ ob, s.heap.get? a = some ob ∧ ob.dict = none := by
  obtain ⟨p, o, xs, rfl, hp, hc, hd⟩ := h
  cases r
  have ho := (I.hok p _ hp).1
  refine ⟨⟨o, ho, hc⟩, fun a e => ?_⟩
  cases e
  exact ⟨o, ho, hd⟩
variable {o e : Expr} {es : List Expr} {to : TE} {t : TA} {name : Str} {apos cpos : Pos} {id : String} {r : V → List V → Hp → VK → Prop}
theorem pe_bmX (pa : PlainAttrs "tuple") (slot : Slot "tuple" name id) (hty : typeOf (.builtin id) = pure (.type "method_descriptor")) (hm : MtR X id r) (ho : PE X o to) (ha : PA X (e :: es) t)
    (hbase : attributeBase o name X.env (eval o X.env) = eval o X.env := by rfl)
    (hfew : ((backTo cpos (starEach (e :: es) X.env)).all (fun x => !x.1) && (backToKw cpos (keywordEach [] X.env)).all (fun x => x.1.isSome)
      && decide ((e :: es).length + ([] : List Keyword).length + (if ([] : List Keyword).isEmpty then 0 else 1) < 30)) = true := by rfl)
    (hline : (apos.endLine == cpos.line) = true := by rfl) (hs : starEach (e :: es) X.env = (false, eval e X.env) :: starEach es X.env := by rfl) (hplain : (backTo cpos (starEach es X.env)).any (·.1) = false := by rfl) :
    PE X (.Call (.Attribute o name apos) (e :: es) [] cpos) (tBMX r to t) := by
  refine ⟨fun pins s σ H Q I h => ?_⟩
  refine wpAny_Call_method_late hbase hfew hline rfl (thn (ho.run pins s σ H _ I h) fun v s1 ⟨x, H1, I1, r1, ty, q1⟩ => ?_)
  obtain ⟨h1, h2⟩ := knT_is I1 r1 ty
  refine ⟨"tuple", id, pa, slot, hty, h1, h2, ?_⟩
  have hA := ha.run cpos pins s1 σ H1 _ I1 q1
  rw [hs] at hA ⊢
  refine Calls.callWith_builtin (by show (false || (backTo cpos (starEach es X.env)).any (·.1)) = false; rw [hplain] <;> rfl) (Calls.evalArgs_plain ?_)
  exact thn hA fun us s2 ⟨vs, H2, I2, r2, q2⟩ => hm pins s2 σ H2 x vs v us Q I2 r1 r2 q2
end
end L2

namespace Dz
open PySem PySem.Spec PySem.SeqAt PySem.W PyProof.Rows L2 RZ
section
variable {X : Cx}
end
end Dz

namespace Dz
open PySem PySem.Spec PySem.SeqAt PySem.W PyProof.Rows L2 RZ LamX
section
variable {X : Cx} {T : String} {name : Str} {id : String} {r : V → List V → Hp → VK → Prop} {o e : Expr} {es : List Expr} {apos cpos : Pos} {to : TE} {t : TA}
end
end Dz

namespace Dz
open PySem PySem.Spec PySem.SeqAt PySem.W PyProof.Rows L2 RZ LamX
def tGl (mg : Str → Option Value) (n : Str) : TE := fun _ H Q => ∀ f, mg n = some (.ref f) → Q (.ref f) H
section
variable {X : Cx} {k : Nat} {x n1 n2 : Str} {ps ps1 ps2 : List Str} {sp sp1 sp2 : Sp}
end
end Dz

namespace Dz
open PySem PySem.Spec PySem.SeqAt PyProof.Rows L2 RZ HT
section
variable {prog : Program} {w : World} {A : Around} {E : Value → Shared → Prop} {s : Shared}
end
end Dz

namespace Dz
open PySem PySem.Spec PySem.SeqAt PySem.W PyProof.Rows L2 RZ
section
variable {X : Cx}
end
section
variable {X : Cx} {e : Expr} {f : Str} {ta : TE} {pos : Pos}
theorem pe_fldC (K : PySem.W.Frag) (he : PE X e ta) (hb : attributeBase e f X.env (eval e X.env) = eval e X.env := by rfl) (hK : X.K = K := by rfl) : PE X (.Attribute e f pos) (tFld K ta f) := hK ▸ pe_fld he hb
end
end Dz

namespace Dz
open PySem PySem.Spec PySem.SeqAt PySem.W PyProof.Rows L2 RZ LamX
section
variable {X : Cx} {K : Kx} {pins : List (Addr × Obj)} {σ : L2.St} {H S : Hp} {s : Shared}
end
end Dz

namespace Dz
open PySem PySem.Spec PySem.SeqAt PySem.W PyProof.Rows L2 RZ
section
variable {X : Cx}
end
end Dz

namespace Dz
open PySem PySem.Spec PySem.SeqAt PySem.W PyProof.Rows L2 RZ
section
variable {X : Cx}
end
end Dz

namespace Dz
open PySem PySem.Spec PySem.SeqAt PyProof.Rows L2 RZ LamX NdefX
theorem cellsFrom_app : ∀ (ns : List (Str × NameKind)) (n : Nat) (acc : List (Str × Addr)), cellsFrom n ns acc = cellsFrom n ns [] ++ acc
  | [], _, _ => rfl
  | (x, k) :: r, n, acc => by
    unfold cellsFrom
    split
    · rw [cellsFrom_app r (n + 1) ((x, n) :: acc), cellsFrom_app r (n + 1) [(x, n)], List.append_assoc]
      rfl
    · exact cellsFrom_app r n acc
section
variable {M : Model} {A : Around} {E : Value → Shared → Prop} {s₀ s : Shared} {m cm : Str → Option Value} {env : PySem.Env} {own : List (Str × Addr)}
theorem stLM {n : Str} {v : Value} {Q : Unit → Shared → Prop} (x : InCallC s₀ env.locals m own cm s) (hk : env.scope.kind = .function) (hl : env.kindOf n = some .local)
    (h : ∀ s', InCallC s₀ env.locals (fun y => if y = n then some v else m y) own cm s' → Q () s') : wpAny M A (storeName env n v) Q E s := by
  refine wpAny_storeName_local hl x.toInCall.ns (fun h' hn' hs' => h _ ⟨⟨?_, hn', fun b o e => ?_, x.toInCall.fresh⟩, fun k c hc => ?_, x.apart, x.above⟩) (by rw [hk]; rfl)
  · obtain ⟨h₁, tk, rfl⟩ := x.toInCall.same
    exact ⟨h', _, rfl⟩
  · exact hs'.extBut b o (Nat.ne_of_lt (Nat.lt_of_lt_of_le (Heap.lt_size e) x.toInCall.fresh)) (x.toInCall.keep b o e)
  · exact (x.cell k c hc).sameBut hs' (Nat.ne_of_gt (x.above k c (PySem.mem_of_lookup hc)))
theorem stCM {n : Str} {c : Addr} {v : Value} {Q : Unit → Shared → Prop} (x : InCallC s₀ env.locals m own cm s) (hk : env.scope.kind = .function) (hl : env.kindOf n = some .cell)
    (hc : own.lookup n = some c) (he : env.cells.lookup n = some c)
    (h : ∀ s', InCallC s₀ env.locals m own (fun y => if y = n then some v else cm y) s' → Q () s') : wpAny M A (storeName env n v) Q E s := by
  have hLc := x.above n c (PySem.mem_of_lookup hc)
  refine wpAny_storeName_cell hk hl he (x.cell n c hc) fun h' hc' hs' => h _ ⟨⟨?_, x.toInCall.ns.sameBut hs' (Nat.ne_of_lt hLc), fun b o e => ?_, x.toInCall.fresh⟩, fun k c' hk' => ?_, x.apart, x.above⟩
  · obtain ⟨h₁, tk, rfl⟩ := x.toInCall.same
    exact ⟨h', _, rfl⟩
  · exact hs'.extBut b o (Nat.ne_of_lt (Nat.lt_trans (Nat.lt_of_lt_of_le (Heap.lt_size e) x.toInCall.fresh) hLc)) (x.toInCall.keep b o e)
  · by_cases hkn : k = n
    · subst hkn
      rw [hc] at hk'; cases hk'
      simpa using hc'
    · rw [if_neg hkn]
      exact (x.cell k c' hk').sameBut hs' fun e => hkn (PySem.name_of_addr x.apart (PySem.mem_of_lookup hk') (e ▸ PySem.mem_of_lookup hc))
theorem bindM (f : Str × Value → PUnit → Sem (ForInStep PUnit)) (hf : ∀ n v u, f (n, v) u = (do storeName env n v; pure (.yield ⟨⟩))) (hk : env.scope.kind = .function) (hoe : ∀ n c, own.lookup n = some c → env.cells.lookup n = some c) :
    ∀ (binds : List (Str × Value)) (m cm : Str → Option Value) (s : Shared) (Q : PUnit → Shared → Prop), InCallC s₀ env.locals m own cm s →
      (∀ x ∈ binds, env.kindOf x.1 = some .local ∨ (env.kindOf x.1 = some .cell ∧ (own.lookup x.1).isSome = true)) →
      (∀ s', InCallC s₀ env.locals (bindL env.kindOf binds m) own (bindC env.kindOf binds cm) s' → Q ⟨⟩ s') → wpAny M A (forIn binds ⟨⟩ f) Q E s
  | [], m, cm, s, Q, x, _, h => by rw [List.forIn_nil]; exact wpAny_pure (h s x)
  | (n, v) :: r, m, cm, s, Q, x, hkind, h => by
    rw [List.forIn_cons, hf]
    have hr : ∀ y ∈ r, env.kindOf y.1 = some .local ∨ (env.kindOf y.1 = some .cell ∧ (own.lookup y.1).isSome = true) := fun y hy => hkind y (List.mem_cons_of_mem _ hy)
    rcases hkind (n, v) List.mem_cons_self with hl | ⟨hl, hc⟩
    · refine wpAny_bind (wpAny_bind (stLM x hk hl fun s' x' => wpAny_pure (bindM f hf hk hoe r _ _ s' Q x' hr fun s'' x'' => h s'' ?_)))
      unfold bindL bindC; rw [if_pos hl, if_pos hl]; exact x''
    · obtain ⟨c, hc⟩ := Option.isSome_iff_exists.mp hc
      have hnl : ¬ env.kindOf n = some .local := by rw [hl]; decide
      refine wpAny_bind (wpAny_bind (stCM x hk hl hc (hoe _ _ hc) fun s' x' => wpAny_pure (bindM f hf hk hoe r _ _ s' Q x' hr fun s'' x'' => h s'' ?_)))
      unfold bindL bindC; rw [if_neg hnl, if_neg hnl]; exact x''
theorem newEnv_mix {scope : Scope} {globals : Addr} {cl : List (Str × Addr)} {binds : List (Str × Value)} {qual : Str} {func : Option Addr} {code : Value} {builtins : Addr} {Q : PySem.Env → Shared → Prop}
    (hk : scope.kind = .function)
    (hkind : ∀ x ∈ binds, scope.names.lookup x.1 = some .local ∨ (scope.names.lookup x.1 = some .cell ∧ ((cellsFrom (s.heap.objs.size + 1) scope.names []).lookup x.1).isSome = true))
    (hQ : ∀ env, env = newEnv scope s.heap.objs.size globals (cellsFrom (s.heap.objs.size + 1) scope.names cl) qual func code none builtins →
      ∀ s', InCallC s env.locals (bindL env.kindOf binds fun _ => none) (cellsFrom (s.heap.objs.size + 1) scope.names []) (bindC env.kindOf binds fun _ => none) s' → Q env s') :
    wpAny M A (newFunctionEnv scope globals cl binds qual func code none builtins) Q E s := by
  simp only [newFunctionEnv, Option.isSome_none, Bool.false_eq_true, if_false]
  refine wpAny_bind (wpAny_alloc ?_)
  refine wpAny_bind (wpAny_layCells _ (fun name kind cells => by cases hkc : kind == NameKind.cell <;> simp [hkc]) _ _ _ _ ?_)
  have ok := cellsFrom_ok scope.names (s.heap.push { cls := .type "frame", data := .dict #[] }) (s.heap.objs.size + 1) [] ⟨fun _ _ hm => (nomatch hm), List.Pairwise.nil⟩ (by rw [Heap.size_push]; exact Nat.le_refl _)
  rw [Heap.size_push] at ok
  rw [show ({ s with heap := s.heap.push { cls := .type "frame", data := .dict #[] } } : Shared).heap.objs.size = s.heap.objs.size + 1 from Heap.size_push ..]
  refine wpAny_bind (bindM (s₀ := s) (own := cellsFrom (s.heap.objs.size + 1) scope.names []) (env := newEnv scope s.heap.objs.size globals (cellsFrom (s.heap.objs.size + 1) scope.names cl) qual func code none builtins)
    _ (fun _ _ _ => rfl) hk (fun n c e => ?_) binds (fun _ => none) (fun _ => none) _ _
    ⟨⟨⟨_, _, rfl⟩, (Heap.Ns.new s.heap (.type "frame")).keeps (pushCells_keeps _ _), fun b o e => pushCells_keeps _ _ b o (Heap.get?_push_of_some _ e), Nat.le_refl _⟩,
      fun n c hc => (ok.empty n c (PySem.mem_of_lookup hc)).1, ok.apart, fun n c hm => (ok.empty n c hm).2⟩
    hkind fun s' x => wpAny_pure (hQ _ rfl s' x))
  show (cellsFrom (s.heap.objs.size + 1) scope.names cl).lookup n = some c
  rw [cellsFrom_app, List.lookup_append, e]
  rfl
end
def envM (qual : Str) (sc : Scope) (L f : Addr) (cd : Value) (cl : List (Str × Addr)) : PySem.Env :=
  { scope := sc, locals := L, globals := mainGlobals, cells := cellsFrom (L + 1) sc.names cl, qual := qual ++ ".<locals>.", func := some f, code := cd, frame := some L, builtins := builtinsNs }
def cxM (P : Program) (w : World) (K : PySem.W.Frag) (mg : Str → Option Value) (base : Heap) (N : List Str) (qual : Str) (scope : Scope) (f : Addr) (cd : Value) (cl : List (Str × Addr)) (A : Around) (outer : List PySem.Env) (s : Shared) (H : Hp) : Cx where
  prog := P
  w := w
  K := K
  mg := mg
  base := base
  A := A.deeper (envM qual scope s.heap.objs.size f cd cl)
  N := N
  s_0 := s
  H_0 := H
  env := envM qual scope s.heap.objs.size f cd cl
  outer := outer
  stack := envM qual scope s.heap.objs.size f cd cl :: outer
  ex := []
  calm := true
  fn := fun x => !decide (scope.names.lookup x = some .free)
  pn := []
  xe := fun e s' => wpAny (model P w) (A.deeper (envM qual scope s.heap.objs.size f cd cl)) (leaving (envM qual scope s.heap.objs.size f cd cl) e) (fun _ s'' => C8.CX0 outer H s C8.E0 e s'') (fun e' s'' => C8.CX0 outer H s C8.E0 e' s'') s'
structure MScope (N ps fr : List Str) (sc : Scope) : Prop where
  kind : sc.kind = .function
  co : sc.isCoroutine = false
  gen : sc.isGenerator = false
  nd : N.Nodup
  pre : N.take (ps.length + fr.length) = ps ++ fr
  par : ∀ x ∈ ps, sc.names.lookup x = some .local ∨ sc.names.lookup x = some .cell
  free : ∀ y ∈ sc.names, y.2 = .free → y.1 ∈ fr
  frk : ∀ x ∈ fr, sc.names.lookup x = some .free
  ndn : (sc.names.map (·.1)).Nodup
theorem nd_lookup {α : Type} : ∀ {l : List (Str × α)} {x : Str} {a : α}, (l.map (·.1)).Nodup → (x, a) ∈ l → l.lookup x = some a
  | (y, b) :: r, x, a, nd, h => by
    rw [List.lookup_cons]
    rcases List.mem_cons.mp h with e | h
    · cases e
      rw [beq_self_eq_true]
    · rw [List.map_cons, List.nodup_cons] at nd
      have : (x == y) = false := beq_eq_false_iff_ne.mpr fun z => nd.1 (by rw [← z]; exact List.mem_map.mpr ⟨_, h, rfl⟩)
      rw [this]
      exact nd_lookup nd.2 h
theorem cellsFrom_names : ∀ {ns : List (Str × NameKind)} {n : Nat} {x : Str} {c : Addr}, (x, c) ∈ cellsFrom n ns [] → (x, NameKind.cell) ∈ ns
  | [], _, _, _, h => by cases h
  | (y, k) :: r, n, x, c, h => by
    unfold cellsFrom at h
    split at h
    · rename_i hk
      rw [cellsFrom_app] at h
      rcases List.mem_append.mp h with h | h
      · exact List.mem_cons_of_mem _ (cellsFrom_names h)
      · cases List.mem_singleton.mp h
        rw [beq_iff_eq.mp hk]
        exact List.mem_cons_self
    · exact List.mem_cons_of_mem _ (cellsFrom_names h)
structure CapAt (cl : List (Str × Addr)) (fr : List Str) (ws : List V) (h : Heap) : Prop where
  len : ws.length = fr.length
  all : ∀ y c, cl.lookup y = some c → ∃ v, h.IsCell c v
  inj : ∀ x y c, cl.lookup x = some c → cl.lookup y = some c → x = y
  sub : ∀ y c, cl.lookup y = some c → y ∈ fr
  has : ∀ (i : Nat) (y : Str), fr[i]? = some y → ∃ c, cl.lookup y = some c ∧ ∀ v, ws[i]? = some v → ∃ u, L2.RelV v u ∧ h.IsCell c (some u)
theorem inv_startM {P : Program} {w : World} {K : PySem.W.Frag} {mg : Str → Option Value} {base : Heap} {N ps fr : List Str} {qual : Str} {scope : Scope} {f : Addr} {cd : Value} {cl : List (Str × Addr)} {A : Around} {outer : List PySem.Env} {s s1 : Shared} {H : Hp} {us : List Value} {vs ws : List V}
    (S : MScope N ps fr scope) (hd : A.handled = none) (e0 : Env0 P w K mg base A outer s H) (hl : vs.length = ps.length) (r : Vals vs us) (C : CapAt cl fr ws base)
    (x : InCallC s s.heap.objs.size (bindL (envM qual scope s.heap.objs.size f cd cl).kindOf (ps.zip us) fun _ => none) (cellsFrom (s.heap.objs.size + 1) scope.names []) (bindC (envM qual scope s.heap.objs.size f cd cl).kindOf (ps.zip us) fun _ => none) s1) :
    Inv (cxM P w K mg base N qual scope f cd cl A outer s H) [] (L2.start N (vs ++ ws)) H s1 := by
  have hpl : ps.length + fr.length ≤ N.length := by
    have q := congrArg List.length S.pre
    rw [List.length_take, List.length_append] at q
    omega
  obtain ⟨h1, tk, rfl, hk⟩ := x.done
  have noA : ∀ b : Addr, b ∉ (cxM P w K mg base N qual scope f cd cl A outer s H).ex := fun b z => absurd (show b ∈ ([] : List Addr) from z) (by simp)
  have celle : (envM qual scope s.heap.objs.size f cd cl).cells = cellsFrom (s.heap.objs.size + 1) scope.names [] ++ cl := cellsFrom_app _ _ _
  have ownS : ∀ y c, (cellsFrom (s.heap.objs.size + 1) scope.names []).lookup y = some c → s.heap.objs.size < c ∧ scope.names.lookup y = some .cell := fun y c e => ⟨x.above y c (PySem.mem_of_lookup e), nd_lookup S.ndn (cellsFrom_names (PySem.mem_of_lookup e))⟩
  have capS : ∀ {c : Addr} {v : Option Value}, base.IsCell c v → s.heap.IsCell c v ∧ H c = none := fun {c v} ⟨o, ho, hd⟩ => ⟨⟨o, (e0.bs c o ho).1, hd⟩, (e0.bs c o ho).2⟩
  have cut : ∀ {y : Str} {c : Addr}, (envM qual scope s.heap.objs.size f cd cl).cells.lookup y = some c → ((cellsFrom (s.heap.objs.size + 1) scope.names []).lookup y = some c) ∨ cl.lookup y = some c := fun {y c} e => by
    rw [celle, List.lookup_append] at e
    cases e2 : (cellsFrom (s.heap.objs.size + 1) scope.names []).lookup y with
    | some c2 =>
      rw [e2] at e
      have e : some c2 = some c := e
      exact .inl e
    | none =>
      rw [e2] at e
      have e : cl.lookup y = some c := e
      exact .inr e
  have capOf : ∀ y c, cl.lookup y = some c → scope.names.lookup y = some .free ∧ c < s.heap.objs.size ∧ H c = none ∧ ∃ v, h1.IsCell c v := fun y c e => by
    obtain ⟨v, hv⟩ := C.all y c e
    obtain ⟨q1, q2⟩ := capS hv
    refine ⟨S.frk y (C.sub y c e), ?_, q2, v, q1.keeps hk⟩
    obtain ⟨o, ho, _⟩ := q1
    exact Heap.lt_size ho
  refine ⟨⟨e0.mod, S.kind, rfl, rfl, Nat.le_refl _, fun y z c k1 k2 => ?_, fun y hy => ?_, fun y c hf h => ?_, fun _ => hd, Around.frames_deeper e0.frames, .inr ⟨rfl, rfl⟩, fun b z => absurd z (noA b), e0.bs, e0.bsz, fun b _ _ => noA b, fun b z => absurd z (noA b), e0.funs, e0.frf⟩,
    rfl, e0.bare, Un.kept hk, ⟨_, x.toInCall.ns, fun i y v k1 k2 k3 => ?_⟩, fun y c h => ?_, e0.hok.fresh (Nat.le_refl _), fun y c h => ?_, fun p hp => absurd (show p ∈ ([] : List (Addr × Obj)) from hp) (by simp), e0.hok.kept hk, ?_⟩
  · rcases cut k1 with k1 | k1 <;> rcases cut k2 with k2 | k2
    · exact PySem.name_of_addr x.apart (PySem.mem_of_lookup k1) (PySem.mem_of_lookup k2)
    · exact absurd (Nat.lt_trans (ownS y c k1).1 (capOf z c k2).2.1) (Nat.lt_irrefl _)
    · exact absurd (Nat.lt_trans (ownS z c k2).1 (capOf y c k1).2.1) (Nat.lt_irrefl _)
    · exact C.inj y z c k1 k2
  · have hy : scope.names.lookup y = some .cell ∨ scope.names.lookup y = some .free := hy
    show ∃ c, (envM qual scope s.heap.objs.size f cd cl).cells.lookup y = some c
    rw [celle, List.lookup_append]
    rcases hy with hy | hy
    · obtain ⟨c, e⟩ := cell_has (n := s.heap.objs.size + 1) hy
      exact ⟨c, by rw [e]; rfl⟩
    · obtain ⟨i, hi⟩ := List.mem_iff_getElem?.mp (S.free _ (PySem.mem_of_lookup hy) rfl)
      obtain ⟨c, hc, _⟩ := C.has i y hi
      cases e2 : (cellsFrom (s.heap.objs.size + 1) scope.names []).lookup y with
      | some c2 => exact ⟨c2, rfl⟩
      | none => exact ⟨c, hc⟩
  · rcases cut h with h | h
    · exact Nat.le_of_lt (ownS y c h).1
    · have hf : (!decide (scope.names.lookup y = some .free)) = true := hf
      rw [(capOf y c h).1] at hf
      simp at hf
  · have k1 : N[i]? = some y := k1
    have hi : i < (vs ++ ws).length := by
      unfold L2.start at k2
      by_cases hi : i < (vs ++ ws).length
      · exact hi
      · rw [List.getElem?_append_right (by simpa using hi)] at k2
        rw [List.getElem?_replicate] at k2
        split at k2 <;> cases k2
    have ha : (vs ++ ws)[i]? = some v := by
      unfold L2.start at k2
      rw [List.getElem?_append_left (by simpa using hi), List.getElem?_map] at k2
      cases e : (vs ++ ws)[i]? with
      | none => rw [e] at k2; cases k2
      | some a => rw [e] at k2; cases k2; rfl
    have hwl := C.len
    rw [List.length_append] at hi
    have hq : (ps ++ fr)[i]? = some y := by
      rw [← S.pre, List.getElem?_take_of_lt (by omega)]
      exact k1
    by_cases hlt : i < ps.length
    · rw [List.getElem?_append_left (by omega)] at ha
      rw [List.getElem?_append_left hlt] at hq
      obtain ⟨u, hu, rv⟩ := r.get ha
      have ndP : ps.Nodup := by
        have q := S.nd.sublist (List.take_sublist (ps.length + fr.length) N)
        rw [S.pre] at q
        exact (List.nodup_append.mp q).1
      refine ⟨u, rv, ?_⟩
      rcases S.par y (List.mem_of_getElem? hq) with k | k
      · exact .inl ⟨k, bindL_get ndP hq hu k⟩
      · obtain ⟨c, e⟩ := cell_has (n := s.heap.objs.size + 1) k
        refine .inr ⟨.inl k, c, ?_, ?_⟩
        · show (envM qual scope s.heap.objs.size f cd cl).cells.lookup y = some c
          rw [celle, List.lookup_append, e]
          rfl
        · have q := x.cell y c e
          rw [bindC_get ndP hq hu (by show scope.names.lookup y ≠ _; rw [k]; decide)] at q
          exact q
    · rw [List.getElem?_append_right (by omega)] at ha
      rw [List.getElem?_append_right (by omega)] at hq
      obtain ⟨c, hc, hv⟩ := C.has (i - ps.length) y hq
      obtain ⟨u, ru, hu⟩ := hv v (by rw [← hl]; exact ha)
      have kf := S.frk y (List.mem_of_getElem? hq)
      refine ⟨u, ru, .inr ⟨.inr kf, c, ?_, (capS hu).1.keeps hk⟩⟩
      show (envM qual scope s.heap.objs.size f cd cl).cells.lookup y = some c
      rw [celle, List.lookup_append]
      cases e2 : (cellsFrom (s.heap.objs.size + 1) scope.names []).lookup y with
      | some c2 => rw [(ownS y c2 e2).2] at kf; cases kf
      | none => exact hc
  · rcases cut h with h | h
    · exact ⟨_, x.cell y c h⟩
    · obtain ⟨_, _, _, v, q⟩ := capOf y c h
      exact ⟨v, q⟩
  · rcases cut h with h | h
    · exact e0.hok.fresh (Nat.le_of_lt (ownS y c h).1)
    · exact (capOf y c h).2.2.1
  · have hwl := C.len
    unfold L2.start
    show _ = N.length
    rw [List.length_append, List.length_map, List.length_replicate, List.length_append]
    omega
theorem dpAll_delS {K : Kx} {S S1 : Hp} {o : Addr} {od : Obj} {ws : List (Key × V)} (hS : S o = some (.frz od (.dK ws))) (hne : ∀ a, a ≠ o → S1 a = S a) (h0 : S1 o = none) {vs : List V} {ds : List PyData} (h : DpAll K S vs ds) : DpAll K S1 vs ds := by
  have e : S1 = zdel S o := by
    funext a
    by_cases ha : a = o
    · rw [ha, h0, zdel_same]
    · rw [hne a ha, zdel_ne ha]
  rw [e]
  exact dpAll_del hS _ _ h
structure Gnd (K : Kx) (X : Cx) (σ : L2.St) (B : Heap) : Prop where
  kp : ∀ b o, K.base.get? b = some o → B.get? b = some o
  cells : ∀ x c, X.env.cells.lookup x = some c → ∃ v, B.IsCell c v
  inj : ∀ x y c, X.env.cells.lookup x = some c → X.env.cells.lookup y = some c → x = y
  has : ∀ x, X.env.scope.names.lookup x = some .cell ∨ X.env.scope.names.lookup x = some .free → ∃ c, X.env.cells.lookup x = some c
  val : ∀ (i : Nat) (x : Str) (v : V), X.N[i]? = some x → σ[i]? = some (some v) → X.env.scope.names.lookup x = some .cell ∨ X.env.scope.names.lookup x = some .free → ∃ c u, X.env.cells.lookup x = some c ∧ L2.RelV v u ∧ B.IsCell c (some u)
theorem restrict2 (h : Heap) (p : Addr → Bool) : ∃ G : Heap, (∀ b, p b = true → G.get? b = h.get? b) ∧ (∀ b, p b = false → G.get? b = none) ∧ G.objs.size = h.objs.size := by
  obtain ⟨l, hl⟩ : ∃ l : List Addr, l = (List.range h.objs.size).filter fun b => !p b := ⟨_, rfl⟩
  have m1 : ∀ b, b ∈ l → p b = false := fun b hb => by
    rw [hl] at hb
    have z := (List.mem_filter.mp hb).2
    simpa using z
  have m2 : ∀ b, b < h.objs.size → p b = false → b ∈ l := fun b h1 h2 => by
    rw [hl]
    exact List.mem_filter.mpr ⟨List.mem_range.mpr h1, by simp [h2]⟩
  refine ⟨PySem.W.hideAll h l, fun b hb => ?_, fun b hb => ?_, PySem.W.hideAll_size _ _⟩
  · cases e : h.get? b with
    | some o => exact PySem.W.hideAll_get l e fun hm => by rw [m1 b hm] at hb; cases hb
    | none =>
      cases q : (PySem.W.hideAll h l).get? b with
      | none => rfl
      | some o =>
        have z := PySem.W.of_hideAll l q
        rw [e] at z; cases z
  · cases q : (PySem.W.hideAll h l).get? b with
    | none => rfl
    | some o =>
      have z := PySem.W.of_hideAll l q
      rw [PySem.W.hideAll_none l (m2 b (Heap.lt_size z) hb)] at q; cases q
section
variable {X : Cx} {K : Kx} {pins : List (Addr × Obj)} {σ : L2.St} {H : Hp} {s : Shared}
open Classical in
theorem gnd_of (hX : CxK K X) (hfn : ∀ x, X.fn x = true) (I : Inv X pins σ H s) : ∃ B, Gnd K X σ B ∧ Env0 K.P K.w K.K K.mg B X.A X.stack s H := by
  obtain ⟨B, b1, b2, b3⟩ := restrict2 s.heap fun b => decide ((∃ o, X.base.get? b = some o) ∨ ∃ x, X.env.cells.lookup x = some b)
  have kp : ∀ b o, X.base.get? b = some o → B.get? b = some o := fun b o e => (b1 b (decide_eq_true (.inl ⟨o, e⟩))).trans (I.bk b o e)
  have cellB : ∀ {x : Str} {c : Addr} {v : Option Value}, X.env.cells.lookup x = some c → s.heap.IsCell c v → B.IsCell c v := fun {x c v} e ⟨o, ho, hd⟩ => ⟨o, (b1 c (decide_eq_true (.inr ⟨x, e⟩))).trans ho, hd⟩
  have inB : ∀ b o, B.get? b = some o → s.heap.get? b = some o ∧ ((∃ o, X.base.get? b = some o) ∨ ∃ x, X.env.cells.lookup x = some b) := fun b o e => by
    by_cases hp : (∃ o, X.base.get? b = some o) ∨ ∃ x, X.env.cells.lookup x = some b
    · exact ⟨(b1 b (decide_eq_true hp)).symm.trans e, hp⟩
    · rw [b2 b (decide_eq_false hp)] at e; cases e
  refine ⟨B, ⟨fun b o e => kp b o (by rw [hX.b]; exact e), fun x c e => ?_, I.ok.inj, fun x h => I.ok.has x h, fun i x v e1 e2 k => ?_⟩, ?_⟩
  · obtain ⟨v, z⟩ := I.cell x c e
    exact ⟨v, cellB e z⟩
  · obtain ⟨m, hn, hl⟩ := I.loc
    obtain ⟨u, r, l⟩ := hl i x v e1 e2 (k.elim (fun z => .inr (.inl z)) fun z => .inr (.inr z))
    rcases l with ⟨z, _⟩ | ⟨_, c, hc, hcell⟩
    · have z' : X.env.scope.names.lookup x = some .local := z
      rcases k with k | k <;> rw [k] at z' <;> cases z'
    · exact ⟨c, u, hc, r, cellB hc hcell⟩
  · have M := I.ok.mod
    obtain ⟨mb, m1, m2⟩ := M.blt
    have e0 := I.env0
    rw [← hX.p, ← hX.w, ← hX.k, ← hX.m]
    refine ⟨e0.frames, ⟨M.kin.keeps kp, M.glob.keeps kp, ⟨mb, m1.keeps kp, m2⟩, M.nolimit.keeps kp⟩, fun b o e => ?_, Nat.le_of_eq b3, funFrames_none e0.funs fun L hL => ?_, e0.frf, e0.hok, e0.bare⟩
    · obtain ⟨q1, q2⟩ := inB b o e
      refine ⟨q1, ?_⟩
      rcases q2 with ⟨o', q⟩ | ⟨x, q⟩
      · exact (I.bs b o' q).2
      · exact I.freeC x b q
    · cases hb : B.get? L with
      | none => rfl
      | some o =>
        obtain ⟨q1, q2⟩ := inB L o hb
        rcases q2 with ⟨o', q⟩ | ⟨x, q⟩
        · have := (e0.funs.mem hL).1
          rw [q] at this; cases this
        · rcases List.mem_cons.mp (I.stkSub L hL) with z | z
          · exact absurd z (I.cne x L q)
          · obtain ⟨_, o2, ho2, _⟩ := I.ok.funs.mem z
            exact absurd (Nat.lt_of_lt_of_le (Heap.lt_size ho2) (I.ok.cab x L (hfn x) q)) (Nat.lt_irrefl _)
theorem capAt_of {sc : Scope} {N ps fr : List Str} {js : List Nat} {ws : List V} {B : Heap} (g : Gnd K X σ B) (hfree : ∀ y ∈ sc.names, y.2 = .free → X.env.scope.names.lookup y.1 = some .cell ∨ X.env.scope.names.lookup y.1 = some .free) (SC : MScope N ps fr sc)
    (hjs : js.map (fun j => X.N[j]?) = fr.map some) (hws : js.map (fun j => σ[j]?) = ws.map fun v => some (some v)) : CapAt (cloFrom X.env.cells sc.names []) fr ws B := by
  have hf : ∀ y ∈ sc.names, y.2 = .free → ∃ c, X.env.cells.lookup y.1 = some c := fun y hy e => g.has _ (hfree y hy e)
  have hl1 : js.length = fr.length := by have q := congrArg List.length hjs; rw [List.length_map, List.length_map] at q; exact q
  have hl2 : js.length = ws.length := by have q := congrArg List.length hws; rw [List.length_map, List.length_map] at q; exact q
  refine ⟨by omega, fun y c e => g.cells y c (clo_cm hf e), fun x y c e1 e2 => g.inj x y c (clo_cm hf e1) (clo_cm hf e2), fun y c e => ?_, fun i y e => ?_⟩
  · rcases cloFrom_mem (PySem.mem_of_lookup e) with z | ⟨z, _⟩
    · cases z
    · exact SC.free _ z rfl
  · have hi : i < fr.length := (List.getElem?_eq_some_iff.mp e).1
    have hj : js[i]? = some js[i] := List.getElem?_eq_getElem (by omega)
    generalize js[i] = j at hj
    have q1 : (js.map (fun j => X.N[j]?))[i]? = some (some y) := by rw [hjs, List.getElem?_map, e]; rfl
    rw [List.getElem?_map, hj] at q1
    have q1 : X.N[j]? = some y := Option.some.inj q1
    have hw : ws[i]? = some ws[i] := List.getElem?_eq_getElem (by omega)
    generalize ws[i] = w at hw
    have q2 : (js.map (fun j => σ[j]?))[i]? = some (some (some w)) := by rw [hws, List.getElem?_map, hw]; rfl
    rw [List.getElem?_map, hj] at q2
    have q2 : σ[j]? = some (some w) := Option.some.inj q2
    have hy := PySem.mem_of_lookup (SC.frk y (List.mem_of_getElem? e))
    obtain ⟨c, u, k1, k2, k3⟩ := g.val j y w q1 q2 (hfree _ hy rfl)
    refine ⟨c, clo_has hf hy k1, fun v ev => ?_⟩
    rw [hw] at ev
    cases ev
    exact ⟨u, k2, k3⟩
def tCallB (K : Kx) (X : Cx) (sp : Heap → Sp) (t : TA) : TE := fun σ H Q => t σ H fun vs H1 => ∀ B, Gnd K X σ B → sp B vs H1 Q C8.E0
theorem pe_callB {k : Nat} {x : Str} {ps : List Str} {sp : Heap → Sp} {p pos : Pos} {e : Expr} {es : List Expr} {t : TA} (hX : CxK K X) (hfn : ∀ x, X.fn x = true) (c : ∀ B, (∀ b o, K.base.get? b = some o → B.get? b = some o) → Cal K.P K.w K.K K.mg B k x ps (sp B)) (hr : Room k X.A) (ha : PA X (e :: es) t) (hg : Gl X x := by rfl)
    (hdb : (x == ("__debug__" : Str)) = false := by decide) (he : starEach (e :: es) X.env = (false, eval e X.env) :: starEach es X.env := by rfl) (hpl : (backTo pos (starEach es X.env)).any (·.1) = false := by rfl) :
    PE X (.Call (.Name x p) (e :: es) [] pos) (tCallB K X sp t) := by
  obtain ⟨f, fd, F, hm, hk, hb⟩ := (c K.base fun _ _ e => e).ex
  refine ⟨fun pins s σ H Q I h => ?_⟩
  refine wpAny_Call_Name_kw (ld_glob I hg (by rw [hX.m]; exact hm) ?_ hdb)
  refine PySem.W.callWith_K (h₀ := X.base) (K := X.K) I.ok.mod.kin (by rw [hX.k]; exact hk) (thn (ha.run pos pins s σ H _ I h) fun us s1 ⟨vs, H1, I1, r, q⟩ => ⟨I1.kIn, ?_⟩) he hpl
  obtain ⟨B, g, e0⟩ := gnd_of hX hfn I1
  obtain ⟨f', fd', F', hm', hk', hb'⟩ := (c B g.kp).ex
  rw [hm] at hm'
  cases hm'
  have hsp := q B g
  have hl : us.length = ps.length := by rw [← r.length]; exact F'.len _ _ _ _ hsp
  have run := F'.run X.A X.stack s1 H1 ⟨us, []⟩ us vs Q C8.E0 hr e0 (by
    have := hb' s1 us (by rw [← hX.k]; exact I1.kIn) (by simpa using hl)
    simpa using this) r hsp
  rw [← hX.p, ← hX.w] at run
  refine wpAny_call (codeAny_mono run fun z s' hq => ?_)
  cases z with
  | error e => exact hq.elim
  | ok fl =>
    cases fl with
    | ret u => exact I1.after hq
    | next => exact hq.elim
    | brk => exact hq.elim
    | cont => exact hq.elim
end
def Kx.on (K : Kx) (B : Heap) : Kx := ⟨K.P, K.w, K.K, K.mg, B, K.lev, K.T⟩
theorem TabsOk.on {K : Kx} {B : Heap} {S H : Hp} (tb : TabsOk K S H) (k : ∀ b o, K.base.get? b = some o → B.get? b = some o) : TabsOk (K.on B) S H :=
  ⟨tb.st, fun c q P h => let ⟨n1, n2, r⟩ := tb.ne c q P h; ⟨n1, n2.keeps k, r⟩⟩
theorem TabsOk.off {K : Kx} {B : Heap} {S H : Hp} {T0 : Addr} (tb : TabsOk (K.on B) S H) (bm : K.base.BuiltinsAt K.mg T0) : TabsOk K S H :=
  ⟨tb.st, fun c q P h => by
    obtain ⟨n1, ⟨a, o, m1, m2, m3, m4, _⟩, r⟩ := tb.ne c q P h
    obtain ⟨a', o', k1, k2, k3, k4, k5, k6⟩ := bm
    have m1 : K.mg "__builtins__" = some (.ref a) := m1
    rw [m1] at k1
    cases k1
    exact ⟨n1, ⟨a, o', m1, k2, k3, m4, k5, k6⟩, r⟩⟩
end Dz

namespace Dz
open PySem PySem.Spec PySem.SeqAt PyProof.Rows L2 RZ LamX NdefX
section
variable {X : Cx} {K : Kx} {pins : List (Addr × Obj)} {σ : L2.St} {S H : Hp} {s : Shared}
end
def MPromD (f c' P' : Addr) (F : NF) (K : Kx) (ws : List V) (cds : List PyData) (S : Hp) : Prop :=
  S f = some (FnO f F) ∧ S c' = some (CodeN c' F.qual P') ∧ DpAll K S ws cds
theorem clo_fnPD {K : Kx} {F : List PyData → Option PyData} {f c' P' : Addr} {nm q : Str} {ps : Arguments} {b : List Stmt} {sc : Scope} {cl : List (Str × Addr)} {N names fr : List Str} {ws : List V} {cds : List PyData} {k : Nat} (SC : MScope N names fr sc) (C : CapAt cl fr ws K.base) (hlev : K.lev = k + 1)
    (hlen : ∀ ds d, F (ds ++ cds) = some d → ds.length = names.length)
    (hbind : ∀ (doc pm ctv : Value) (us : List Value), us.length = names.length → bindArgs ((⟨nm, q, ps, b, sc, cl, c'⟩ : NF).fd doc pm ctv) ⟨us, []⟩ = pure (names.zip us))
    (hbody : ∀ (A : Around) (outer : List PySem.Env) (s : Shared) (H : Hp) (vs : List V) (Q : VK), Room k (A.deeper (envM q sc s.heap.objs.size f (.ref c') cl)) → spL K F (vs ++ ws) H Q C8.E0 →
      ∃ t, PSs (cxM K.P K.w K.K K.mg K.base N q sc f (.ref c') cl A outer s H) b t ∧ t { nx := fun _ H' => Q .non H', rt := Q } (L2.start N (vs ++ ws)) H) : FnP K (fun ds => F (ds ++ cds)) f (MPromD f c' P' ⟨nm, q, ps, b, sc, cl, c'⟩ K ws cds) := by
  refine ⟨fun S S1 hs z => ⟨hs _ _ z.1, hs _ _ z.2.1, DpAll_mono z.2.2 hs⟩, fun S S1 o od wz hS hne h0 z => ⟨(hne _ fun e => by rw [← e, z.1] at hS; cases hS).trans z.1, (hne _ fun e => by rw [← e, z.2.1] at hS; cases hS).trans z.2.1, dpAll_delS hS hne h0 z.2.2⟩,
    fun A outer s H S e0 hs z => by
      obtain ⟨⟨od, sl, doc, pm, ctv, e⟩, _, _⟩ := e0.hok f _ (hs _ _ z.1)
      exact .fn ⟨_, _, _, _, e⟩, fun A outer s H us vs Q hr e0 rv hspP => ?_⟩
  obtain ⟨S2, ds2, d2, ⟨hf2, hc2, hw2⟩, hs2, tb2, hd2, he2, hQ2⟩ := hspP
  have h1 := hs2 _ _ hf2
  have h2 := hs2 _ _ hc2
  rw [hlev] at hr
  obtain ⟨⟨od, sl, doc, pm, ctv, hl⟩, _, _⟩ := e0.hok f _ h1
  obtain ⟨⟨⟨oc, us', t, hoc, hd, hv⟩, _⟩, _⟩ := e0.hok c' _ h2
  have hvl : vs.length = names.length := by
    rw [DpAll_len hd2, hlen ds2 d2 he2]
  have hul : us.length = names.length := by rw [← rv.length]; exact hvl
  have lim : s.heap.NoLimit := e0.mod.nolimit.keeps fun b o e => (e0.bs b o e).1
  have hkind : ∀ y ∈ names.zip us, sc.names.lookup y.1 = some .local ∨ (sc.names.lookup y.1 = some .cell ∧ ((cellsFrom (s.heap.objs.size + 1) sc.names []).lookup y.1).isSome = true) := fun ⟨n, v⟩ hy => by
    rcases SC.par n (List.of_mem_zip hy).1 with z | z
    · exact .inl z
    · exact .inr ⟨z, PySem.W.cellsFrom_some _ _ _ (.inl z)⟩
  refine codeAny_call_function hr.depth hl rfl SC.co SC.gen rfl ⟨c', oc, us', t, rfl, hoc, hd, hv⟩ ?_
  rw [hbind _ _ _ us hul]
  refine wpAny_pure (newEnv_mix SC.kind hkind fun env he s1 x => ?_)
  subst he
  refine ⟨lim.keeps x.toInCall.keep, codeAny_func ?_⟩
  obtain ⟨t, ht, hq⟩ := hbody A outer s H vs Q (hr.deeper _) ⟨S2, ds2 ++ cds, d2, hs2, tb2, DpAll_app hd2 hw2, he2, hQ2⟩
  have I : Inv (cxM K.P K.w K.K K.mg K.base N q sc f (.ref c') cl A outer s H) [] (L2.start N (vs ++ ws)) H s1 := inv_startM SC hr.hd e0 hvl rv C x
  refine wpAny_mono (ht.run [] s1 (L2.start N (vs ++ ws)) H _ I hq) (fun fl s' hs => ?_) fun e s' hs => hs
  have fin : ∀ {σ' : L2.St} {H' : Hp} {v : V} {u : Value}, Inv (cxM K.P K.w K.K K.mg K.base N q sc f (.ref c') cl A outer s H) [] σ' H' s' → RelV v u → Q v H' → CE outer K.P K.w H s Q u s' :=
    fun {σ' H' v u} J rv q => ⟨v, H', J.os, J.bare, J.base, J.hok, rv, q⟩
  cases fl with
  | ret u =>
    obtain ⟨v, σ', H', J, rv, q⟩ := hs
    exact fin J rv q
  | next =>
    obtain ⟨σ', H', J, q⟩ := hs
    exact fin (v := V.non) (u := Value.none) J rfl q
  | brk =>
    obtain ⟨_, _, _, q⟩ := hs
    exact False.elim q
  | cont =>
    obtain ⟨_, _, _, q⟩ := hs
    exact False.elim q
end Dz

namespace Dz
open PySem PySem.Spec PyProof.Rows L2

section
variable {elt t0 i0 t1 i1 t2 i2 : Expr} {f0 f1 f2 : List Expr} {scope : Scope} {pos : Pos} {it acc : Value} {env : PySem.Env}
end
section
variable {prog : Program} {w : World} {A : Around} {R : Result → Shared → Prop} {s : Shared} {elt tg iter : Expr} {gens : List Comprehension} {scope : Scope} {pos : Pos} {ifs : List Expr} {B : Sem Fin} {k : Nat} {it acc : Value} {env : PySem.Env}
end
section
variable {prog : Program} {w : World} {A : Around} {R : Result → Shared → Prop} {s : Shared} {elt t0 i0 t1 i1 t2 i2 : Expr} {f0 f1 f2 : List Expr} {scope : Scope} {pos : Pos} {it acc : Value} {env : PySem.Env}
end

abbrev TBd := Addr → L2.St → Hp → (Hp → Prop) → Prop
section
variable {X : Cx} {elt : Expr} {te : TE} {e : Expr} {k : Nat}
end

section
variable {X : Cx}
end
section
variable {X : Cx} {elt t0 i0 t1 i1 t2 i2 : Expr} {f0 f1 f2 : List Expr} {scope : Scope} {pos : Pos} {own : List (Str × Nat)} {v1 v2 : List Nat} {wi0 wi1 wi2 : TI} {g0 g1 g2 : TG} {tt0 tt1 tt2 : TT} {te : TE}
end
end Dz

namespace Sm
open PySem L2 RZ Dz

inductive Ov where
  | ref (j : Nat)
  | pr (d : PyData) (j : Nat)
inductive Vl where
  | no
  | dat (d : PyData)
  | own (ds : List PyData)
  | dct (kvs : List (Key × PyData))
  | dnk (kvs : List (NestedKey × PyData))
  | ref (j : Nat)
  | fn (F : List PyData → Option PyData)
  | xt (ds : List PyData)
  | os (tup : Bool) (xs : List Ov)
inductive Fv where
  | dat (d : PyData)
  | ref (j : Nat)
inductive Ob where
  | lst (ds : List PyData)
  | dct (kvs : List (Key × PyData))
  | dnk (kvs : List (NestedKey × PyData))
  | ins (C : Str) (fs : List (Str × Fv))
abbrev Lo := List Vl
abbrev Sg := List Ob
abbrev M (α : Type) := Lo → Sg → Option (α × Lo × Sg)
def mb {α β : Type} (m : M α) (f : α → M β) : M β := fun l g => match m l g with
  | none => none
  | some (a, l', g') => f a l' g'
def mp {α : Type} (a : α) : M α := fun l g => some (a, l, g)
def mo {α : Type} (o : Option α) : M α := fun l g => match o with
  | none => none
  | some a => some (a, l, g)
theorem mb_some {α β : Type} {m : M α} {f : α → M β} {l l' : Lo} {g g' : Sg} {b : β} (h : mb m f l g = some (b, l', g')) : ∃ a l1 g1, m l g = some (a, l1, g1) ∧ f a l1 g1 = some (b, l', g') := by
  unfold mb at h
  split at h
  · cases h
  · rename_i a l1 g1 e
    exact ⟨a, l1, g1, e, h⟩
theorem mo_some {α : Type} {o : Option α} {l l' : Lo} {g g' : Sg} {b : α} (h : mo o l g = some (b, l', g')) : o = some b ∧ l' = l ∧ g' = g := by
  unfold mo at h
  split at h
  · cases h
  · cases h
    exact ⟨rfl, rfl, rfl⟩
theorem mp_some {α : Type} {a : α} {l l' : Lo} {g g' : Sg} {b : α} (h : mp a l g = some (b, l', g')) : b = a ∧ l' = l ∧ g' = g := by
  unfold mp at h
  cases h
  exact ⟨rfl, rfl, rfl⟩

def FvOk (K : Kx) (S : Hp) (r : List Addr) : Fv → V → Prop
  | .dat d, v => Dp K S v d
  | .ref j, v => ∃ a, r[j]? = some a ∧ v = .ref a
def FsOk (K : Kx) (S : Hp) (r : List Addr) : List (Str × V) → List (Str × Fv) → Prop := Paired fun x y => x.1 = y.1 ∧ FvOk K S r y.2 x.2
def ObOk (K : Kx) (S H : Hp) (r : List Addr) (a : Addr) : Ob → Prop
  | .lst ds => ∃ xs, H a = some (.lst xs) ∧ DpAll K S xs ds
  | .dct kvs => ∃ ws, H a = some (.dK ws) ∧ KvD K S ws kvs
  | .dnk kvs => ∃ xs, H a = some (DnO K.P K.w a xs) ∧ KnD K S xs kvs
  | .ins C fs => ∃ (cls dx : Addr) (vs : List (Str × V)), K.mg C = some (.ref cls) ∧ H a = some (.ins cls dx vs) ∧ H dx = some (.own a) ∧ FsOk K S r vs fs
def XtV (K : Kx) (S : Hp) (v : V) (ds : List PyData) : Prop := ∃ (a : Addr) (o : Obj) (xs : List V), v = .ref a ∧ S a = some (.frz o (.tup xs)) ∧ o.cls = .type "tuple" ∧ o.dict = none ∧ DpAll K S xs ds
theorem XtV.mono {K : Kx} {S S1 : Hp} {v : V} {ds : List PyData} (h : XtV K S v ds) (e : Same S S1) : XtV K S1 v ds := by
  obtain ⟨a, o, xs, h1, h2, h3, h4, h5⟩ := h
  exact ⟨a, o, xs, h1, e _ _ h2, h3, h4, DpAll_mono h5 e⟩
theorem XtV.dp {K : Kx} {S : Hp} {v : V} {ds : List PyData} (h : XtV K S v ds) : Dp K S v (.tuple ds) := by
  obtain ⟨a, o, xs, rfl, h2, h3, h4, h5⟩ := h
  exact .tup (.inl (.inr ⟨o, h2⟩)) h5
def OvOk (K : Kx) (S : Hp) (r : List Addr) : Ov → V → Prop
  | .ref j, v => ∃ a, r[j]? = some a ∧ v = .ref a
  | .pr d j, v => ∃ (t : Addr) (w : V) (a : Addr), v = .ref t ∧ S t = some (.tup [w, .ref a]) ∧ Dp K S w d ∧ r[j]? = some a
def OsV (K : Kx) (S : Hp) (r : List Addr) (tup : Bool) (xs : List Ov) (v : V) : Prop := ∃ (a : Addr) (ys : List V), v = .ref a ∧ S a = some (if tup = true then .tup ys else .lst ys) ∧ Paired (fun y x => OvOk K S r x y) ys xs
theorem OvOk.go {K : Kx} {S S1 : Hp} {r r1 : List Addr} {x : Ov} {v : V} (h : OvOk K S r x v) (hs : Same S S1) (hr : ∃ q, r1 = r ++ q) : OvOk K S1 r1 x v := by
  obtain ⟨q, rfl⟩ := hr
  cases x with
  | ref j =>
    obtain ⟨a, e2, e3⟩ := h
    exact ⟨a, by rw [List.getElem?_append_left (List.getElem?_eq_some_iff.mp e2).1]; exact e2, e3⟩
  | pr d j =>
    obtain ⟨t, w, a, e0, e1, e2, e3⟩ := h
    exact ⟨t, w, a, e0, hs _ _ e1, Dp_mono e2 hs, by rw [List.getElem?_append_left (List.getElem?_eq_some_iff.mp e3).1]; exact e3⟩
theorem OsV.go {K : Kx} {S S1 : Hp} {r r1 : List Addr} {b : Bool} {xs : List Ov} {v : V} (h : OsV K S r b xs v) (hs : Same S S1) (hr : ∃ q, r1 = r ++ q) : OsV K S1 r1 b xs v :=
  let ⟨a, ys, e1, e2, e3⟩ := h
  ⟨a, ys, e1, hs _ _ e2, Paired.mapP e3 fun _ _ q => q.go hs hr⟩
def SOk (K : Kx) (S H : Hp) (r : List Addr) : Vl → Option Addr → Option V → Prop
  | .no, o, _ => o = none
  | .dat d, o, x => o = none ∧ ∃ v, x = some v ∧ Dp K S v d
  | .own ds, o, x => ∃ a, o = some a ∧ x = some (.ref a) ∧ S a = none ∧ ∃ xs, H a = some (.lst xs) ∧ DpAll K S xs ds
  | .dct kvs, o, x => ∃ a, o = some a ∧ x = some (.ref a) ∧ S a = none ∧ ∃ ws, H a = some (.dK ws) ∧ KvD K S ws kvs
  | .dnk kvs, o, x => ∃ a, o = some a ∧ x = some (.ref a) ∧ S a = none ∧ ∃ xs, H a = some (DnO K.P K.w a xs) ∧ KnD K S xs kvs
  | .ref j, o, x => o = none ∧ ∃ a, r[j]? = some a ∧ x = some (.ref a)
  | .fn F, o, x => o = none ∧ ∃ v, x = some v ∧ FnV K S v F
  | .xt ds, o, x => o = none ∧ ∃ v, x = some v ∧ XtV K S v ds
  | .os b xs, o, x => o = none ∧ ∃ v, x = some v ∧ OsV K S r b xs v
structure StOk (K : Kx) (l : Lo) (g : Sg) (s : L2.St) (H S : Hp) (r : List Addr) (A : List (Option Addr)) : Prop where
  hs : Same S H
  la : A.length = l.length
  ls : s.length = l.length
  ok : ∀ (i : Nat) (x : Vl), l[i]? = some x → ∃ o v, A[i]? = some o ∧ s[i]? = some v ∧ SOk K S H r x o v
  ij : ∀ (i j : Nat) (a : Addr), A[i]? = some (some a) → A[j]? = some (some a) → i = j
  dr : ∀ a, some a ∈ A → a ∉ r
  rn : r.Nodup
  lg : r.length = g.length
  st : ∀ (j : Nat) (a : Addr) (o : Ob), r[j]? = some a → g[j]? = some o → S a = none ∧ ObOk K S H r a o
  tb : TabsOk K S H
def inR (S H : Hp) (r : List Addr) (a : Addr) : Prop := a ∈ r ∨ isTab S H a
def tr (S H : Hp) (A : List (Option Addr)) (r : List Addr) : Addr → Prop := fun a => some a ∈ A ∨ inR S H r a
structure Mv (K : Kx) (S H : Hp) (r : List Addr) (A : List (Option Addr)) (S' H' : Hp) (r' : List Addr) (A' : List (Option Addr)) : Prop where
  s : Same S S'
  h : Same S' H'
  n : ∀ a, S a = none → H a ≠ none → ¬ tr S H A r a → S' a = none
  k : ∀ a o, ¬ tr S H A r a → H a = some o → H' a = some o
  d : ∀ a, H a ≠ none → H' a ≠ none
  p : ∃ q, r' = r ++ q
  f : ∀ a, tr S' H' A' r' a → tr S H A r a ∨ H a = none
  t : ∀ a, isTab S H a → isTab S' H' a
theorem tKeep {S H : Hp} : ∀ a, isTab S H a → isTab S H a := fun _ e => e
theorem tUpd {S H : Hp} {b : Addr} {o : HO} (hb : ∀ ps, H b ≠ some (.tbl ps)) : ∀ a, isTab S H a → isTab S (upd H b o) a := fun a ⟨e1, ps, e⟩ => ⟨e1, ps, by rw [upd_ne fun z => hb ps (by rw [← z]; exact e)]; exact e⟩
theorem tUpS {S H : Hp} {b : Addr} {o : HO} (hb : ∀ ps, H b ≠ some (.tbl ps)) : ∀ a, isTab S H a → isTab (upd S b o) H a := fun a ⟨e1, ps, e⟩ => ⟨by rw [upd_ne fun z => hb ps (by rw [← z]; exact e)]; exact e1, ps, e⟩
theorem tGrow {m : Addr → Prop} {S H S1 H1 : Hp} (q : GrowT m S H S1 H1) : ∀ a, isTab S H a → isTab S1 H1 a := fun a ⟨e1, ps, e⟩ => ⟨q.n a e1 (some_ne e), q.t a ps e⟩
theorem nodup_inj {α : Type} {xs : List α} (h : xs.Nodup) {i j : Nat} {a : α} (h1 : xs[i]? = some a) (h2 : xs[j]? = some a) : i = j := by
  obtain ⟨l1, e1⟩ := List.getElem?_eq_some_iff.mp h1
  obtain ⟨l2, e2⟩ := List.getElem?_eq_some_iff.mp h2
  rcases Nat.lt_trichotomy i j with q | q | q
  · exact absurd (e1.trans e2.symm) (List.pairwise_iff_getElem.mp h i j l1 l2 q)
  · exact q
  · exact absurd (e2.trans e1.symm) (List.pairwise_iff_getElem.mp h j i l2 l1 q)
section
variable {K : Kx} {l l' : Lo} {g g' : Sg} {s : L2.St} {H S H1 S1 H2 S2 : Hp} {r r1 r2 : List Addr} {A A1 A2 : List (Option Addr)} {x : Vl} {o : Option Addr} {v : Option V}
theorem Mv.refl (h : Same S H) : Mv K S H r A S H r A := ⟨Same.refl S, h, fun _ e _ _ => e, fun _ _ _ e => e, fun _ e => e, ⟨[], by simp⟩, fun _ h => .inl h, tKeep⟩
theorem Mv.trans (a : Mv K S H r A S1 H1 r1 A1) (b : Mv K S1 H1 r1 A1 S2 H2 r2 A2) : Mv K S H r A S2 H2 r2 A2 := by
  obtain ⟨q1, e1⟩ := a.p
  obtain ⟨q2, e2⟩ := b.p
  have nn : ∀ x, H1 x = none → H x = none := fun x h => by
    cases q : H x with
    | none => rfl
    | some u => exact absurd h (a.d x (some_ne q))
  refine ⟨a.s.trans b.s, b.h, fun x e q hm => b.n x (a.n x e q hm) (a.d x q) (fun z => (a.f x z).elim hm q), fun x u hm e => ?_, fun x e => b.d x (a.d x e), ⟨q1 ++ q2, by rw [e2, e1, List.append_assoc]⟩, fun x h => ?_, fun x e => b.t x (a.t x e)⟩
  · refine b.k x u (fun z => ?_) (a.k x u hm e)
    rcases a.f x z with q | q
    · exact hm q
    · rw [q] at e; cases e
  · rcases b.f x h with q | q
    · exact a.f x q
    · exact .inr (nn x q)
theorem tr_back {a : Addr} (h : tr S1 H1 A r a) (s : Same S S1) (k : ∀ o, H a = some o → (∃ ps, o = .tbl ps) ∨ H1 a = some o) : tr S H A r a ∨ H a = none := by
  rcases h with h | h | h
  · exact .inl (.inl h)
  · exact .inl (.inr (.inl h))
  · exact (h.back s k).imp (fun z => .inr (.inr z)) id
theorem isTab_upd {S H : Hp} {a b : Addr} {o : HO} (ho : ∀ ps, o ≠ .tbl ps) (h : isTab S (upd H b o) a) : isTab S H a := by
  obtain ⟨h1, ps, h2⟩ := h
  by_cases z : a = b
  · subst z; rw [upd_same] at h2; exact absurd (Option.some.inj h2) (ho ps)
  · rw [upd_ne z] at h2; exact ⟨h1, ps, h2⟩
theorem tr_upd {S H : Hp} {A : List (Option Addr)} {r : List Addr} {a b : Addr} {o : HO} (h : tr S (upd H b o) A r a) (ho : ∀ ps, o ≠ .tbl ps := by intro ps z; cases z) : tr S H A r a := h.imp id fun z => z.imp id (isTab_upd ho)
theorem Mv.grow (q : Grow m0 S H S1 H1) : Mv K S H r A S1 H1 r A := ⟨q.s, q.f, fun a e1 e2 _ => q.n a e1 e2, fun a o _ e => q.all a o e, q.d, ⟨[], by simp⟩, fun _ h => tr_back h q.s fun o e => .inr (q.all _ o e), fun a ⟨e1, ps, e⟩ => ⟨q.n a e1 (some_ne e), ps, q.all a _ e⟩⟩
theorem SOk.go (h : SOk K S H r x o v) (hs : Same S S1) (hk : ∀ a, o = some a → S1 a = none ∧ ∀ u, H a = some u → H1 a = some u) (hr : ∃ q, r1 = r ++ q) : SOk K S1 H1 r1 x o v := by
  cases x with
  | no => exact h
  | dat d => obtain ⟨e, w, e2, q⟩ := h; exact ⟨e, w, e2, Dp_mono q hs⟩
  | own ds => obtain ⟨a, e1, e2, e3, xs, e4, e5⟩ := h; exact ⟨a, e1, e2, (hk a e1).1, xs, (hk a e1).2 _ e4, DpAll_mono e5 hs⟩
  | dct ds => obtain ⟨a, e1, e2, e3, xs, e4, e5⟩ := h; exact ⟨a, e1, e2, (hk a e1).1, xs, (hk a e1).2 _ e4, e5.mono hs⟩
  | dnk ds => obtain ⟨a, e1, e2, e3, xs, e4, e5⟩ := h; exact ⟨a, e1, e2, (hk a e1).1, xs, (hk a e1).2 _ e4, e5.mono hs⟩
  | ref j =>
    obtain ⟨e, a, e2, e3⟩ := h
    obtain ⟨q, rfl⟩ := hr
    exact ⟨e, a, by rw [List.getElem?_append_left (List.getElem?_eq_some_iff.mp e2).1]; exact e2, e3⟩
  | fn F => obtain ⟨e, w, e2, q⟩ := h; exact ⟨e, w, e2, q.mono hs⟩
  | xt ds => obtain ⟨e, w, e2, q⟩ := h; exact ⟨e, w, e2, q.mono hs⟩
  | os b ds => obtain ⟨e, w, e2, q⟩ := h; exact ⟨e, w, e2, q.go hs hr⟩
theorem FvOk.go {x : Fv} {v : V} (h : FvOk K S r x v) (hs : Same S S1) (hr : ∃ q, r1 = r ++ q) : FvOk K S1 r1 x v := by
  cases x with
  | dat d => exact Dp_mono h hs
  | ref j =>
    obtain ⟨a, e2, e3⟩ := h
    obtain ⟨q, rfl⟩ := hr
    exact ⟨a, by rw [List.getElem?_append_left (List.getElem?_eq_some_iff.mp e2).1]; exact e2, e3⟩
theorem FsOk.go {vs : List (Str × V)} {fs : List (Str × Fv)} (h : FsOk K S r vs fs) (hs : Same S S1) (hr : ∃ q, r1 = r ++ q) : FsOk K S1 r1 vs fs := Paired.mapP h fun _ _ q => ⟨q.1, q.2.go hs hr⟩
def ItsO (H H1 : Hp) (a : Addr) : Prop := ∀ b z, (b = a ∨ z = .own a) → H b = some z → H1 b = some z
theorem ItsO.of {a : Addr} (h : ∀ b z, H b = some z → H1 b = some z) : ItsO H H1 a := fun b z _ e => h b z e
theorem ItsO.upd {a b : Addr} {o u : HO} (hb : b ≠ a) (ho : H a = some o) (hn : ∀ c, o ≠ .own c) : ItsO H (upd H a u) b := fun c z hc e => by
  have : c ≠ a := by
    rcases hc with rfl | rfl
    · exact hb
    · exact fun q => by rw [q, ho] at e; exact hn b (Option.some.inj e)
  rw [upd_ne this]
  exact e
theorem ObOk.go {a : Addr} {u : Ob} (h : ObOk K S H r a u) (hs : Same S S1) (hk : ItsO H H1 a) (hr : ∃ q, r1 = r ++ q) : ObOk K S1 H1 r1 a u := by
  cases u with
  | lst ds => obtain ⟨xs, e1, e2⟩ := h; exact ⟨xs, hk _ _ (.inl rfl) e1, DpAll_mono e2 hs⟩
  | dct ds => obtain ⟨xs, e1, e2⟩ := h; exact ⟨xs, hk _ _ (.inl rfl) e1, e2.mono hs⟩
  | dnk ds => obtain ⟨xs, e1, e2⟩ := h; exact ⟨xs, hk _ _ (.inl rfl) e1, e2.mono hs⟩
  | ins C fs => obtain ⟨cls, dx, vs, e0, e1, e2, e3⟩ := h; exact ⟨cls, dx, vs, e0, hk _ _ (.inl rfl) e1, hk _ _ (.inr rfl) e2, e3.go hs hr⟩
theorem ObOk.there {a : Addr} {u : Ob} (h : ObOk K S H r a u) : H a ≠ none := by
  cases u with
  | lst ds => obtain ⟨xs, e1, e2⟩ := h; exact some_ne e1
  | dct ds => obtain ⟨xs, e1, e2⟩ := h; exact some_ne e1
  | dnk ds => obtain ⟨xs, e1, e2⟩ := h; exact some_ne e1
  | ins C fs => obtain ⟨cls, dx, vs, e0, e1, e2, e3⟩ := h; exact some_ne e1
theorem ObOk.noOwn {a : Addr} {u : Ob} (h : ObOk K S H r a u) : ∃ o, H a = some o ∧ ∀ c, o ≠ .own c := by
  cases u with
  | lst ds => obtain ⟨xs, e1, e2⟩ := h; exact ⟨_, e1, fun _ z => nomatch z⟩
  | dct ds => obtain ⟨xs, e1, e2⟩ := h; exact ⟨_, e1, fun _ z => nomatch z⟩
  | dnk ds => obtain ⟨xs, e1, e2⟩ := h; exact ⟨_, e1, fun _ z => nomatch z⟩
  | ins C fs => obtain ⟨cls, dx, vs, e0, e1, e2, e3⟩ := h; exact ⟨_, e1, fun _ z => nomatch z⟩
theorem SOk.noOwn {a : Addr} (h : SOk K S H r x (some a) v) : ∃ o, H a = some o ∧ ∀ c, o ≠ .own c := by
  cases x with
  | no => cases h
  | dat d => cases h.1
  | own ds => obtain ⟨a, e1, e2, e3, xs, e4, e5⟩ := h; cases e1; exact ⟨_, e4, fun _ z => nomatch z⟩
  | dct ds => obtain ⟨a, e1, e2, e3, xs, e4, e5⟩ := h; cases e1; exact ⟨_, e4, fun _ z => nomatch z⟩
  | dnk ds => obtain ⟨a, e1, e2, e3, xs, e4, e5⟩ := h; cases e1; exact ⟨_, e4, fun _ z => nomatch z⟩
  | ref j => cases h.1
  | fn F => cases h.1
  | xt ds => cases h.1
  | os b ds => cases h.1
theorem SOk.there {a : Addr} (h : SOk K S H r x (some a) v) : H a ≠ none ∧ S a = none := by
  cases x with
  | no => cases h
  | dat d => cases h.1
  | own ds => obtain ⟨a, e1, e2, e3, xs, e4, e5⟩ := h; cases e1; exact ⟨some_ne e4, e3⟩
  | dct ds => obtain ⟨a, e1, e2, e3, xs, e4, e5⟩ := h; cases e1; exact ⟨some_ne e4, e3⟩
  | dnk ds => obtain ⟨a, e1, e2, e3, xs, e4, e5⟩ := h; cases e1; exact ⟨some_ne e4, e3⟩
  | ref j => cases h.1
  | fn F => cases h.1
  | xt ds => cases h.1
  | os b ds => cases h.1
theorem StOk.thereA (h : StOk K l g s H S r A) {a : Addr} (e : some a ∈ A) : H a ≠ none ∧ S a = none := by
  obtain ⟨i, hi⟩ := List.mem_iff_getElem?.mp e
  have hl : i < l.length := by rw [← h.la]; exact (List.getElem?_eq_some_iff.mp hi).1
  obtain ⟨o, v, e1, e2, e3⟩ := h.ok i _ (List.getElem?_eq_getElem hl)
  rw [hi] at e1
  cases e1
  exact e3.there
theorem StOk.thereR (h : StOk K l g s H S r A) {a : Addr} (e : a ∈ r) : H a ≠ none ∧ S a = none := by
  obtain ⟨j, hj⟩ := List.mem_iff_getElem?.mp e
  have hl : j < g.length := by rw [← h.lg]; exact (List.getElem?_eq_some_iff.mp hj).1
  obtain ⟨q1, q2⟩ := h.st j a _ hj (List.getElem?_eq_getElem hl)
  exact ⟨q2.there, q1⟩
theorem StOk.there (h : StOk K l g s H S r A) {a : Addr} (e : tr S H A r a) : H a ≠ none ∧ S a = none := e.elim h.thereA fun e => e.elim h.thereR isTab.there
theorem SOk.noT {a : Addr} (h : SOk K S H r x (some a) v) (ps : Array Value) : H a ≠ some (.tbl ps) := by
  cases x with
  | no => cases h
  | dat d => cases h.1
  | own ds => obtain ⟨a, e1, e2, e3, xs, e4, e5⟩ := h; cases e1; rw [e4]; exact fun z => nomatch z
  | dct ds => obtain ⟨a, e1, e2, e3, xs, e4, e5⟩ := h; cases e1; rw [e4]; exact fun z => nomatch z
  | dnk ds => obtain ⟨a, e1, e2, e3, xs, e4, e5⟩ := h; cases e1; rw [e4]; exact fun z => nomatch z
  | ref j => cases h.1
  | fn F => cases h.1
  | xt ds => cases h.1
  | os b ds => cases h.1
theorem ObOk.noT {a : Addr} {u : Ob} (h : ObOk K S H r a u) (ps : Array Value) : H a ≠ some (.tbl ps) := by
  cases u with
  | lst ds => obtain ⟨xs, e1, e2⟩ := h; rw [e1]; exact fun z => nomatch z
  | dct ds => obtain ⟨xs, e1, e2⟩ := h; rw [e1]; exact fun z => nomatch z
  | dnk ds => obtain ⟨xs, e1, e2⟩ := h; rw [e1]; exact fun z => nomatch z
  | ins C fs => obtain ⟨cls, dx, vs, e0, e1, e2, e3⟩ := h; rw [e1]; exact fun z => nomatch z
theorem StOk.apartA (h : StOk K l g s H S r A) {a : Addr} (e : some a ∈ A) : ¬ isTab S H a := fun z => by
  obtain ⟨i, hi⟩ := List.mem_iff_getElem?.mp e
  have hl : i < l.length := by rw [← h.la]; exact (List.getElem?_eq_some_iff.mp hi).1
  obtain ⟨o, v, e1, e2, e3⟩ := h.ok i _ (List.getElem?_eq_getElem hl)
  rw [hi] at e1
  cases e1
  obtain ⟨_, ps, q⟩ := z
  exact e3.noT ps q
theorem StOk.apartR (h : StOk K l g s H S r A) {a : Addr} (e : a ∈ r) : ¬ isTab S H a := fun z => by
  obtain ⟨j, hj⟩ := List.mem_iff_getElem?.mp e
  have hl : j < g.length := by rw [← h.lg]; exact (List.getElem?_eq_some_iff.mp hj).1
  obtain ⟨q1, q2⟩ := h.st j a _ hj (List.getElem?_eq_getElem hl)
  obtain ⟨_, ps, q⟩ := z
  exact q2.noT ps q
theorem StOk.noOwnA (h : StOk K l g s H S r A) {a : Addr} (e : some a ∈ A) : ∃ o, H a = some o ∧ ∀ c, o ≠ .own c := by
  obtain ⟨i, hi⟩ := List.mem_iff_getElem?.mp e
  have hl : i < l.length := by rw [← h.la]; exact (List.getElem?_eq_some_iff.mp hi).1
  obtain ⟨o, v, e1, e2, e3⟩ := h.ok i _ (List.getElem?_eq_getElem hl)
  rw [hi] at e1
  cases e1
  exact e3.noOwn
theorem StOk.noOwnR (h : StOk K l g s H S r A) {a : Addr} (e : a ∈ r) : ∃ o, H a = some o ∧ ∀ c, o ≠ .own c := by
  obtain ⟨j, hj⟩ := List.mem_iff_getElem?.mp e
  have hl : j < g.length := by rw [← h.lg]; exact (List.getElem?_eq_some_iff.mp hj).1
  obtain ⟨q1, q2⟩ := h.st j a _ hj (List.getElem?_eq_getElem hl)
  exact q2.noOwn
theorem StOk.move (h : StOk K l g s H S r A) (hs : Same S S1) (hf : Same S1 H1) (hk : ∀ a, some a ∈ A → S1 a = none ∧ ∀ u, H a = some u → H1 a = some u) (hr : ∃ q, r1 = r ++ q) (rn : r1.Nodup) (dr : ∀ a, some a ∈ A → a ∉ r1) (lg : r1.length = g'.length)
    (st : ∀ (j : Nat) (a : Addr) (o : Ob), r1[j]? = some a → g'[j]? = some o → S1 a = none ∧ ObOk K S1 H1 r1 a o) (tb : TabsOk K S1 H1) : StOk K l g' s H1 S1 r1 A :=
  ⟨hf, h.la, h.ls, fun i x e => by
    obtain ⟨o, v, e1, e2, e3⟩ := h.ok i x e
    exact ⟨o, v, e1, e2, e3.go hs (fun a ea => hk a (by rw [← ea]; exact List.mem_of_getElem? e1)) hr⟩, h.ij, dr, rn, lg, st, tb⟩
theorem StOk.grow (h : StOk K l g s H S r A) (q : Grow m0 S H S1 H1) : StOk K l g s H1 S1 r A :=
  h.move q.s q.f (fun a ha => ⟨q.n a (h.thereA ha).2 (h.thereA ha).1, fun u e => q.all a u e⟩) ⟨[], by simp⟩ h.rn h.dr h.lg (fun j a o e1 e2 => by
    obtain ⟨q1, q2⟩ := h.st j a o e1 e2
    exact ⟨q.n a q1 q2.there, q2.go q.s (.of fun b z e => q.all b z e) ⟨[], by simp⟩⟩) (h.tb.grow q fun _ _ z => z)
theorem StOk.call (h : StOk K l g s H S r A) (q : GrowT (inR S H r) S H S1 H1) (hr : ∃ q, r1 = r ++ q) (rn : r1.Nodup) (hn : ∀ a, a ∈ r1 → a ∈ r ∨ H a = none) (lg : r1.length = g'.length)
    (st : ∀ (j : Nat) (a : Addr) (o : Ob), r1[j]? = some a → g'[j]? = some o → S1 a = none ∧ ObOk K S1 H1 r1 a o) (tb : TabsOk K S1 H1) : StOk K l g' s H1 S1 r1 A ∧ Mv K S H r A S1 H1 r1 A :=
  ⟨h.move q.s q.f (fun a ha => ⟨q.n a (h.thereA ha).2 (h.thereA ha).1, fun u e => q.k a u (fun z => z.elim (h.dr a ha) (h.apartA ha)) e⟩) hr rn (fun a ha z => (hn a z).elim (h.dr a ha) fun e => (h.thereA ha).1 e) lg st tb,
    ⟨q.s, q.f, fun a e1 e2 _ => q.n a e1 e2, fun a o hm e => q.k a o (fun z => hm (.inr z)) e, q.d, hr, fun a z => z.elim (fun z => .inl (.inl z)) fun z => z.elim (fun z => (hn a z).elim (fun z => .inl (.inr (.inl z))) .inr) fun z => by
      by_cases hm : inR S H r a
      · exact .inl (.inr hm)
      · exact (z.back q.s fun o e => .inr (q.k a o hm e)).imp (fun z => .inr (.inr z)) id, tGrow q⟩⟩
theorem StOk.set {i : Nat} {y : Vl} {w : V} (h : StOk K l g s H S r A) (ok : SOk K S H r y none (some w)) : StOk K (l.set i y) g (s.set i (some w)) H S r (A.set i none) :=
  ⟨h.hs, by rw [List.length_set, List.length_set]; exact h.la, by rw [List.length_set, List.length_set]; exact h.ls, fun j z e => by
    by_cases hij : i = j
    · subst hij
      have hl : i < l.length := by
        have := (List.getElem?_eq_some_iff.mp e).1
        rwa [List.length_set] at this
      rw [List.getElem?_set_self hl] at e
      cases e
      exact ⟨none, some w, List.getElem?_set_self (by rw [h.la]; exact hl), List.getElem?_set_self (by rw [h.ls]; exact hl), ok⟩
    · rw [List.getElem?_set_ne hij] at e ⊢
      rw [List.getElem?_set_ne hij]
      exact h.ok j z e, fun j k a e1 e2 => by
    by_cases hij : i = j
    · subst hij
      have hl : i < A.length := by
        have := (List.getElem?_eq_some_iff.mp e1).1
        rwa [List.length_set] at this
      rw [List.getElem?_set_self hl] at e1
      cases e1
    · by_cases hik : i = k
      · subst hik
        have hl : i < A.length := by
          have := (List.getElem?_eq_some_iff.mp e2).1
          rwa [List.length_set] at this
        rw [List.getElem?_set_self hl] at e2
        cases e2
      · rw [List.getElem?_set_ne hij] at e1
        rw [List.getElem?_set_ne hik] at e2
        exact h.ij j k a e1 e2, fun a ha => by
    rcases List.mem_or_eq_of_mem_set ha with q | q
    · exact h.dr a q
    · exact absurd q (by simp), h.rn, h.lg, h.st, h.tb⟩
theorem trset {i : Nat} {a : Addr} (h : tr S H (A.set i none) r a) : tr S H A r a := by
  rcases h with q | q
  · rcases List.mem_or_eq_of_mem_set q with q | q
    · exact .inl q
    · cases q
  · exact .inr q
theorem Mv.set {i : Nat} (h : Mv K S H r A S1 H1 r1 A1) : Mv K S H r A S1 H1 r1 (A1.set i none) := ⟨h.s, h.h, h.n, h.k, h.d, h.p, fun a z => h.f a (trset z), h.t⟩
theorem StOk.fresh {i : Nat} {y : Vl} {p : Addr} (h : StOk K l g s H S r A) (hA : some p ∉ A) (hr : p ∉ r) (ok : SOk K S H r y (some p) (some (.ref p))) : StOk K (l.set i y) g (s.set i (some (.ref p))) H S r (A.set i (some p)) :=
  ⟨h.hs, by rw [List.length_set, List.length_set]; exact h.la, by rw [List.length_set, List.length_set]; exact h.ls, fun j z e => by
    by_cases hij : i = j
    · subst hij
      have hl : i < l.length := by
        have := (List.getElem?_eq_some_iff.mp e).1
        rwa [List.length_set] at this
      rw [List.getElem?_set_self hl] at e
      cases e
      exact ⟨some p, some (.ref p), List.getElem?_set_self (by rw [h.la]; exact hl), List.getElem?_set_self (by rw [h.ls]; exact hl), ok⟩
    · rw [List.getElem?_set_ne hij] at e ⊢
      rw [List.getElem?_set_ne hij]
      exact h.ok j z e, fun j k a e1 e2 => by
    have key : ∀ m : Nat, (A.set i (some p))[m]? = some (some a) → (m = i ∧ a = p) ∨ (m ≠ i ∧ A[m]? = some (some a)) := fun m e => by
      by_cases him : i = m
      · subst him
        have hl : i < A.length := by
          have := (List.getElem?_eq_some_iff.mp e).1
          rwa [List.length_set] at this
        rw [List.getElem?_set_self hl] at e
        cases e
        exact .inl ⟨rfl, rfl⟩
      · rw [List.getElem?_set_ne him] at e
        exact .inr ⟨fun z => him z.symm, e⟩
    rcases key j e1 with ⟨q1, q2⟩ | ⟨q1, q2⟩
    · rcases key k e2 with ⟨q3, q4⟩ | ⟨q3, q4⟩
      · rw [q1, q3]
      · rw [q2] at q4; exact absurd (List.mem_of_getElem? q4) hA
    · rcases key k e2 with ⟨q3, q4⟩ | ⟨q3, q4⟩
      · rw [q4] at q2; exact absurd (List.mem_of_getElem? q2) hA
      · exact h.ij j k a q2 q4, fun a ha => by
    rcases List.mem_or_eq_of_mem_set ha with q | q
    · exact h.dr a q
    · exact (Option.some.inj q) ▸ hr, h.rn, h.lg, h.st, h.tb⟩
theorem Mv.fresh {i : Nat} {p : Addr} (h : Mv K S H r A S1 H1 r1 A1) (hp : H p = none) : Mv K S H r A S1 H1 r1 (A1.set i (some p)) := ⟨h.s, h.h, h.n, h.k, h.d, h.p, fun a z => by
  rcases z with q | q
  · rcases List.mem_or_eq_of_mem_set q with q | q
    · exact h.f a (.inl q)
    · cases q; exact .inr hp
  · exact h.f a (.inr q), h.t⟩
theorem StOk.putO {i : Nat} {y : Vl} {a : Addr} {u : HO} {w : Option V} (h : StOk K l g s H S r A) (hx : l[i]? = some x) (ha : A[i]? = some (some a)) (hw : s[i]? = some w) (ok : SOk K S (upd H a u) r y (some a) w) : StOk K (l.set i y) g s (upd H a u) S r A ∧ Mv K S H r A S (upd H a u) r A := by
  have ht := h.thereA (List.mem_of_getElem? ha)
  have hne : ∀ b, some b ∈ A → ∀ j, A[j]? = some (some b) → j ≠ i → b ≠ a := fun b _ j e z q => z (h.ij j i a (by rw [← q]; exact e) ha)
  have hs : Same S (upd H a u) := fun b z e => by rw [upd_ne (ne_of_none e ht.2)]; exact h.hs b z e
  have hu : ∀ ps, u ≠ .tbl ps := fun ps z => ok.noT ps (by rw [upd_same, z])
  refine ⟨⟨hs, by rw [List.length_set]; exact h.la, by rw [List.length_set]; exact h.ls, fun j z e => ?_, h.ij, h.dr, h.rn, h.lg, fun j b o e1 e2 => ?_, h.tb.go (Same.refl S) (fun b hb => (h.tb.there hb).2) fun b o hb e => ?_⟩, ⟨Same.refl S, hs, fun _ e _ _ => e, fun b z hm e => ?_, fun b e => ?_, ⟨[], by simp⟩, fun _ z => .inl (tr_upd z hu), tUpd fun ps z => h.apartA (List.mem_of_getElem? ha) ⟨ht.2, ps, z⟩⟩⟩
  · by_cases hij : i = j
    · subst hij
      have hl : i < l.length := (List.getElem?_eq_some_iff.mp hx).1
      rw [List.getElem?_set_self hl] at e
      cases e
      exact ⟨some a, w, ha, hw, ok⟩
    · rw [List.getElem?_set_ne hij] at e
      obtain ⟨o, v, e1, e2, e3⟩ := h.ok j z e
      refine ⟨o, v, e1, e2, e3.go (Same.refl S) (fun b eb => ?_) ⟨[], by simp⟩⟩
      subst eb
      refine ⟨e3.there.2, fun z e => ?_⟩
      rw [upd_ne (hne b (List.mem_of_getElem? e1) j e1 fun q => hij q.symm)]
      exact e
  · obtain ⟨q1, q2⟩ := h.st j b o e1 e2
    have hb : b ≠ a := fun z => h.dr a (List.mem_of_getElem? ha) (by rw [← z]; exact List.mem_of_getElem? e1)
    obtain ⟨oo, ho, hn⟩ := h.noOwnA (List.mem_of_getElem? ha)
    exact ⟨q1, q2.go (Same.refl S) (.upd hb ho hn) ⟨[], by simp⟩⟩
  · have hba : b ≠ a := fun q => h.apartA (List.mem_of_getElem? ha) (by rw [← q]; exact hb)
    rw [upd_ne hba]; exact e
  · have hb : b ≠ a := fun q => hm (.inl (by rw [q]; exact List.mem_of_getElem? ha))
    rw [upd_ne hb]; exact e
  · by_cases hb : b = a
    · subst hb; rw [upd_same]; exact fun q => nomatch q
    · rw [upd_ne hb]; exact e
theorem StOk.putR {j : Nat} {a : Addr} {u : HO} {o' : Ob} (h : StOk K l g s H S r A) (ha : r[j]? = some a) (ok : ObOk K S (upd H a u) r a o') : StOk K l (g.set j o') s (upd H a u) S r A ∧ Mv K S H r A S (upd H a u) r A := by
  have ht := h.thereR (List.mem_of_getElem? ha)
  have hs : Same S (upd H a u) := fun b z e => by rw [upd_ne (ne_of_none e ht.2)]; exact h.hs b z e
  have hu : ∀ ps, u ≠ .tbl ps := fun ps z => ok.noT ps (by rw [upd_same, z])
  refine ⟨h.move (Same.refl S) hs (fun b hb => ⟨(h.thereA hb).2, fun z e => ?_⟩) ⟨[], by simp⟩ h.rn h.dr (by rw [List.length_set]; exact h.lg) (fun k b o e1 e2 => ?_) (h.tb.go (Same.refl S) (fun b hb => (h.tb.there hb).2) fun b o hb e => ?_), ⟨Same.refl S, hs, fun _ e _ _ => e, fun b z hm e => ?_, fun b e => ?_, ⟨[], by simp⟩, fun _ z => .inl (tr_upd z hu), tUpd fun ps z => h.apartR (List.mem_of_getElem? ha) ⟨ht.2, ps, z⟩⟩⟩
  · rw [upd_ne fun q => h.dr b hb (by rw [q]; exact List.mem_of_getElem? ha)]; exact e
  · by_cases hjk : j = k
    · subst hjk
      have hl : j < g.length := by rw [← h.lg]; exact (List.getElem?_eq_some_iff.mp ha).1
      rw [List.getElem?_set_self hl] at e2
      rw [ha] at e1
      cases e1
      cases e2
      exact ⟨ht.2, ok⟩
    · rw [List.getElem?_set_ne hjk] at e2
      obtain ⟨q1, q2⟩ := h.st k b o e1 e2
      have hb : b ≠ a := fun q => by
        subst q
        exact hjk (nodup_inj h.rn ha e1)
      obtain ⟨oo, ho, hn⟩ := h.noOwnR (List.mem_of_getElem? ha)
      exact ⟨q1, q2.go (Same.refl S) (.upd hb ho hn) ⟨[], by simp⟩⟩
  · have hba : b ≠ a := fun q => h.apartR (List.mem_of_getElem? ha) (by rw [← q]; exact hb)
    rw [upd_ne hba]; exact e
  · have hb : b ≠ a := fun q => hm (.inr (.inl (by rw [q]; exact List.mem_of_getElem? ha)))
    rw [upd_ne hb]; exact e
  · by_cases hb : b = a
    · subst hb; rw [upd_same]; exact fun q => nomatch q
    · rw [upd_ne hb]; exact e
end
end Sm

namespace Sm
open PySem L2 RZ Dz

def EvS (K : Kx) (te : TE) (e : M PyData) : Prop := ∀ l g d l' g' s H S r A, e l g = some (d, l', g') → StOk K l g s H S r A → ∀ Q : VK, (∀ v H' S' r' A', Mv K S H r A S' H' r' A' → StOk K l' g' s H' S' r' A' → Dp K S' v d → Q v H') → te s H Q
def EvT (K : Kx) (tt : TT) (e : M Bool) : Prop := ∀ l g b l' g' s H S r A, e l g = some (b, l', g') → StOk K l g s H S r A → ∀ Q : Bool → Hp → Prop, (∀ H' S' r' A', Mv K S H r A S' H' r' A' → StOk K l' g' s H' S' r' A' → Q b H') → tt s H Q
def EvA (K : Kx) (ta : TA) (e : M (List PyData)) : Prop := ∀ l g ds l' g' s H S r A, e l g = some (ds, l', g') → StOk K l g s H S r A → ∀ Q : List V → Hp → Prop, (∀ vs H' S' r' A', Mv K S H r A S' H' r' A' → StOk K l' g' s H' S' r' A' → DpAll K S' vs ds → Q vs H') → ta s H Q
def EvO (K : Kx) (to : TO) (e : M (Option Int)) : Prop := ∀ l g o l' g' s H S r A, e l g = some (o, l', g') → StOk K l g s H S r A → ∀ Q : Option Int → Hp → Prop, (∀ H' S' r' A', Mv K S H r A S' H' r' A' → StOk K l' g' s H' S' r' A' → Q o H') → to s H Q
def EvL (K : Kx) (te : TE) (e : M (List PyData)) : Prop := ∀ l g ds l' g' s H S r A, e l g = some (ds, l', g') → StOk K l g s H S r A → ∀ Q : VK, (∀ p xs H' S' r' A', Mv K S H r A S' H' r' A' → StOk K l' g' s H' S' r' A' → H p = none → ¬ tr S' H' A' r' p → S' p = none → H' p = some (.lst xs) → DpAll K S' xs ds → Q (.ref p) H') → te s H Q
def EvC (K : Kx) (te : TE) (e : M (List (Key × PyData))) : Prop := ∀ l g ds l' g' s H S r A, e l g = some (ds, l', g') → StOk K l g s H S r A → ∀ Q : VK, (∀ p xs H' S' r' A', Mv K S H r A S' H' r' A' → StOk K l' g' s H' S' r' A' → H p = none → ¬ tr S' H' A' r' p → S' p = none → H' p = some (.dK xs) → KvD K S' xs ds → Q (.ref p) H') → te s H Q
def EvI (K : Kx) (wi : TI) (e : M (List PyData)) : Prop := ∀ l g ds l' g' s H S r A, e l g = some (ds, l', g') → StOk K l g s H S r A → ∀ R : It → Hp → Prop, (∀ J H' S' r' A', Mv K S H r A S' H' r' A' → StOk K l' g' s H' S' r' A' → WalkD K J S' ds → R J H') → wi s H R
def VOk (K : Kx) (S : Hp) (r : List Addr) (v : V) : Vl → Prop
  | .dat d => Dp K S v d
  | .ref j => ∃ a, r[j]? = some a ∧ v = .ref a
  | .fn F => FnV K S v F
  | .xt ds => XtV K S v ds
  | .os b xs => OsV K S r b xs v
  | _ => False
def VsOk (K : Kx) (S : Hp) (r : List Addr) : List V → List Vl → Prop := Paired (VOk K S r)
def EvV (K : Kx) (te : TE) (e : M Vl) : Prop := ∀ l g d l' g' s H S r A, e l g = some (d, l', g') → StOk K l g s H S r A → ∀ Q : VK, (∀ v H' S' r' A', Mv K S H r A S' H' r' A' → StOk K l' g' s H' S' r' A' → VOk K S' r' v d → Q v H') → te s H Q
def EvVA (K : Kx) (ta : TA) (e : M (List Vl)) : Prop := ∀ l g ds l' g' s H S r A, e l g = some (ds, l', g') → StOk K l g s H S r A → ∀ Q : List V → Hp → Prop, (∀ vs H' S' r' A', Mv K S H r A S' H' r' A' → StOk K l' g' s H' S' r' A' → VsOk K S' r' vs ds → Q vs H') → ta s H Q
theorem VOk.go {K : Kx} {S S1 : Hp} {r r1 : List Addr} {v : V} {x : Vl} (h : VOk K S r v x) (hs : Same S S1) (hr : ∃ q, r1 = r ++ q) : VOk K S1 r1 v x := by
  cases x with
  | dat d => exact Dp_mono h hs
  | ref j =>
    obtain ⟨a, e2, e3⟩ := h
    obtain ⟨q, rfl⟩ := hr
    exact ⟨a, by rw [List.getElem?_append_left (List.getElem?_eq_some_iff.mp e2).1]; exact e2, e3⟩
  | no => exact h
  | own ds => exact h
  | dct ds => exact h
  | dnk ds => exact h
  | fn F => exact FnV.mono h hs
  | xt ds => exact XtV.mono h hs
  | os b ds => exact OsV.go h hs hr
theorem VsOk.go {K : Kx} {S S1 : Hp} {r r1 : List Addr} {v : List V} {x : List Vl} (h : VsOk K S r v x) (hs : Same S S1) (hr : ∃ q, r1 = r ++ q) : VsOk K S1 r1 v x := Paired.mapP h fun _ _ q => q.go hs hr

def fail {α : Type} : M α := fun _ _ => none
def eVar (i : Nat) : M PyData := fun l g => match l[i]? with
  | some (.dat d) => some (d, l, g)
  | some (.xt ds) => some (.tuple ds, l, g)
  | _ => none
def eC (d : PyData) : M PyData := mp d
def eOp (f : PyData → PyData → Option PyData) (a b : M PyData) : M PyData := mb a fun x => mb b fun y => mo (f x y)
def aNil : M (List PyData) := mp []
def aCons (a : M PyData) (r : M (List PyData)) : M (List PyData) := mb a fun x => mb r fun xs => mp (x :: xs)
def eCB (f : List PyData → Option PyData) (a : M (List PyData)) : M PyData := mb a fun xs => mo (f xs)
def smallO {α : Type} (n : Nat) (a : α) : Option α := if n ≤ 4000000 then some a else none
def eTup (a : M (List PyData)) : M PyData := mb a fun xs => mo (smallO xs.length (.tuple xs))
def eL (m : M (List PyData)) : M PyData := mb m fun xs => mp (.list xs)
def lLst (a : M (List PyData)) : M (List PyData) := mb a fun xs => mo (smallO xs.length xs)
def eIf (t : M Bool) (a b : M PyData) : M PyData := mb t fun c => if c = true then a else b
def truO : PyData → Option Bool
  | .str y => if y.length ≤ 4000000 then some ((y.length : Int) != 0) else none
  | d => some (truD d)
def eNot (a : M PyData) : M PyData := mb a fun x => mo ((truO x).map fun c => .bool (!c))
def eIsN (a : M PyData) : M PyData := mb a fun x => mp (.bool (isN x))
def eNotN (a : M PyData) : M PyData := mb a fun x => mp (.bool (!isN x))
def asB : PyData → Option Bool
  | .bool b => some b
  | _ => none
def asI : PyData → Option Int
  | .int b => some b
  | _ => none
def bTest (a : M PyData) : M Bool := mb a fun x => mo (asB x)
def bTru (a : M PyData) : M Bool := mb a fun x => mo (truO x)
def bNot (t : M Bool) : M Bool := mb t fun b => mp (!b)
def bAnd (t u : M Bool) : M Bool := mb t fun b => if b = true then u else mp false
def bOr (t u : M Bool) : M Bool := mb t fun b => if b = true then mp true else u
def bYes : M Bool := mp true
def oNone : M (Option Int) := mp none
def oSome (a : M PyData) : M (Option Int) := mb a fun x => mb (mo (asI x)) fun i => mp (some i)
def slD (d : PyData) (lo hi : Option Int) : Option PyData := match d with
  | .list ds => some (.list (cutD ds lo hi))
  | .tuple ds => some (.tuple (cutD ds lo hi))
  | _ => none
def eSl (a : M PyData) (lo hi : M (Option Int)) : M PyData := mb a fun x => mb lo fun i => mb hi fun j => mo (slD x i j)

def RDO (K : Kx) (r : R2) (f : PyData → PyData → Option PyData) : Prop := ∀ a b c, f a b = some c → RD K r a b c
def RCO (K : Kx) (r : List V → Hp → VK → Prop) (f : List PyData → Option PyData) : Prop := ∀ a c, f a = some c → RCD K r a c
def iOp (h : Int → Int → PyData) : PyData → PyData → Option PyData
  | .int i, .int j => some (h i j)
  | _, _ => none
def iOpC (C : Int → Int → Bool) (h : Int → Int → PyData) : PyData → PyData → Option PyData
  | .int i, .int j => if C i j = true then some (h i j) else none
  | _, _ => none
def subD := iOp fun i j => .int (i - j)
def ltD := iOp fun i j => .bool (decide (i < j))
def gtD := iOp fun i j => .bool (decide (j < i))
def modD := iOpC (fun _ j => decide (0 < j)) fun i j => .int (i % j)
def fdivD := iOpC (fun _ j => decide (0 < j) && decide (j < 1073741824)) fun i j => .int (i / j)
def mulD := iOpC (fun i j => (decide (-(2 ^ 64) < i) && decide (i < 2 ^ 64)) || (decide (-(2 ^ 64) < j) && decide (j < 2 ^ 64))) fun i j => .int (i * j)
def plusD : PyData → PyData → Option PyData
  | .int i, .int j => some (.int (i + j))
  | .list xs, .list ys => if xs.length + ys.length ≤ 4000000 then some (.list (xs ++ ys)) else none
  | .tuple xs, .tuple ys => if xs.length + ys.length ≤ 4000000 then some (.tuple (xs ++ ys)) else none
  | .str i, .str j => if i.length + j.length ≤ 4000000 then some (.str (i ++ j)) else none
  | _, _ => none
def eqD (a b : PyData) : Option PyData := if SeqAt.shaped a = true ∧ SeqAt.shaped b = true then some (.bool (PyData.eqv a b)) else match a, b with
  | .str x, .str y => some (.bool (decide (x = y)))
  | .str _, .int _ => some (.bool false)
  | .int _, .str _ => some (.bool false)
  | _, _ => none
def neD (a b : PyData) : Option PyData := (eqD a b).map fun x => match x with
  | .bool c => .bool (!c)
  | x => x
def ixD (a b : PyData) : Option PyData := match a, b with
  | .tuple ds, .int i => atI ds i
  | .list ds, .int i => atI ds i
  | _, _ => none
section
variable {K : Kx}
theorem ro_I0 {g : Int → Int → V} {h : Int → Int → PyData} (q : ∀ S i j, Dp K S (g i j) (h i j)) : RDO K (rI0 g) (iOp h) := fun a b c e => by
  unfold iOp at e
  split at e
  · cases e; exact rd_I0 fun S => q S _ _
  · cases e
theorem ro_IC {C : Int → Int → Prop} {C' : Int → Int → Bool} {g : Int → Int → V} {h : Int → Int → PyData} (q : ∀ S i j, Dp K S (g i j) (h i j)) (hc : ∀ i j, C' i j = true → C i j) : RDO K (rI C g) (iOpC C' h) := fun a b c e => by
  unfold iOpC at e
  split at e
  · split at e
    · rename_i hq
      cases e; exact rd_I (hc _ _ hq) fun S => q S _ _
    · cases e
  · cases e
theorem ro_sub : RDO K (rI0 fun i j => .int (i - j)) subD := ro_I0 fun _ _ _ => .int _
theorem ro_lt : RDO K (rI0 fun i j => .bl (decide (i < j))) ltD := ro_I0 fun _ _ _ => .bl _
theorem ro_gt : RDO K (rI0 fun i j => .bl (decide (j < i))) gtD := ro_I0 fun _ _ _ => .bl _
theorem ro_mod : RDO K (rI (fun _ j => 0 < j) fun i j => .int (i % j)) modD := ro_IC (fun _ _ _ => .int _) fun i j h => by simpa using h
theorem ro_fdiv : RDO K (rI CDiv fun i j => .int (i / j)) fdivD := ro_IC (fun _ _ _ => .int _) fun i j h => by
  simp at h
  exact ⟨h.1, h.2⟩
theorem ro_times : RDO K rTimes mulD := fun a b c e => rd_l (ro_IC (C := CMul) (g := fun i j => .int (i * j)) (fun _ _ _ => .int _) (fun i j h => by
  simp only [Bool.or_eq_true, Bool.and_eq_true, decide_eq_true_eq] at h
  exact h) a b c e)
theorem ro_plus : RDO K (rPlus K) plusD := fun a b c e => by
  unfold plusD at e
  split at e
  · cases e; exact rd_plusI
  · split at e
    · cases e; exact rd_plusL (by assumption)
    · cases e
  · split at e
    · cases e; exact rd_plusT (by assumption)
    · cases e
  · split at e
    · cases e; exact rd_plusS (by assumption)
    · cases e
  · cases e
theorem ro_eq : RDO K (rEqA K) eqD := fun a b c e => by
  unfold eqD at e
  split at e
  · rename_i h
    cases e; exact rd_eqD h.1 h.2
  · split at e
    · cases e; exact rd_eqA rd_eqS
    · cases e; exact rd_eqA rd_eqSI
    · cases e; exact rd_eqA rd_eqIS
    · cases e
theorem ro_ne : RDO K (rNeA K) neD := fun a b c e => by
  unfold neD eqD at e
  split at e
  · rename_i h
    cases e; exact rd_neD h.1 h.2
  · split at e
    · cases e; exact rd_neA rd_neS
    · cases e; exact rd_neA rd_neSI
    · cases e; exact rd_neA rd_neIS
    · cases e
theorem ro_ix : RDO K (rIx K) ixD := fun a b c e => by
  unfold ixD at e
  split at e
  · exact rd_ixT e
  · exact rd_ixL e
  · cases e
end
section
variable {K : Kx} {ta tb te tc : TE} {tt tu : TT} {a b c : M PyData} {t u : M Bool} {r0 : R2}
theorem s_var {i : Nat} : EvS K (tVar i) (eVar i) := fun l g d l' g' s H S r A e h Q q => by
  unfold eVar at e
  split at e
  · rename_i d' hl
    cases e
    obtain ⟨o, v, e1, e2, e3, w, rfl, e4⟩ := h.ok i _ hl
    exact ⟨w, e2, q w H S r A (Mv.refl h.hs) h e4⟩
  · rename_i d' hl
    cases e
    obtain ⟨o, v, e1, e2, e3, w, rfl, e4⟩ := h.ok i _ hl
    exact ⟨w, e2, q w H S r A (Mv.refl h.hs) h e4.dp⟩
  · cases e
theorem s_int {i : Int} : EvS K (tC (.int i)) (eC (.int i)) := fun l g d l' g' s H S r A e h Q q => by
  obtain ⟨rfl, rfl, rfl⟩ := mp_some e
  exact q _ H S r A (Mv.refl h.hs) h (.int i)
theorem s_bl {i : Bool} : EvS K (tC (.bl i)) (eC (.bool i)) := fun l g d l' g' s H S r A e h Q q => by
  obtain ⟨rfl, rfl, rfl⟩ := mp_some e
  exact q _ H S r A (Mv.refl h.hs) h (.bl i)
theorem s_str {i : Str} : EvS K (tC (.str i)) (eC (.str i)) := fun l g d l' g' s H S r A e h Q q => by
  obtain ⟨rfl, rfl, rfl⟩ := mp_some e
  exact q _ H S r A (Mv.refl h.hs) h (.str i)
theorem s_non : EvS K (tC .non) (eC .none) := fun l g d l' g' s H S r A e h Q q => by
  obtain ⟨rfl, rfl, rfl⟩ := mp_some e
  exact q _ H S r A (Mv.refl h.hs) h .non
theorem s_op {f : PyData → PyData → Option PyData} (hr : RDO K r0 f) (ha : EvS K ta a) (hb : EvS K tb b) : EvS K (tOp r0 ta tb) (eOp f a b) := fun l g d l' g' s H S r A e h Q q => by
  replace e := mb_some e; obtain ⟨x, l1, g1, e1, e⟩ := e
  replace e := mb_some e; obtain ⟨y, l2, g2, e2, e⟩ := e
  replace e := mo_some e; obtain ⟨e, rfl, rfl⟩ := e
  refine ha _ _ _ _ _ s H S r A e1 h _ fun v1 H1 S1 r1 A1 m1 h1 d1 => hb _ _ _ _ _ s H1 S1 r1 A1 e2 h1 _ fun v2 H2 S2 r2 A2 m2 h2 d2 => ?_
  exact hr x y d e v1 v2 S2 H2 Q h2.hs (Dp_mono d1 m2.s) d2 fun v S3 H3 g3 d3 => q v H3 S3 r2 A2 ((m1.trans m2).trans (Mv.grow g3)) (h2.grow g3) d3
theorem s_nil : EvA K tNil aNil := fun l g d l' g' s H S r A e h Q q => by
  obtain ⟨rfl, rfl, rfl⟩ := mp_some e
  exact q _ H S r A (Mv.refl h.hs) h .nil
theorem s_cons {tr : TA} {m : M (List PyData)} (ha : EvS K ta a) (hb : EvA K tr m) : EvA K (tCons ta tr) (aCons a m) := fun l g d l' g' s H S r A e h Q q => by
  replace e := mb_some e; obtain ⟨x, l1, g1, e1, e⟩ := e
  replace e := mb_some e; obtain ⟨y, l2, g2, e2, e⟩ := e
  obtain ⟨rfl, rfl, rfl⟩ := mp_some e
  exact ha _ _ _ _ _ s H S r A e1 h _ fun v1 H1 S1 r1 A1 m1 h1 d1 => hb _ _ _ _ _ s H1 S1 r1 A1 e2 h1 _ fun v2 H2 S2 r2 A2 m2 h2 d2 => q _ H2 S2 r2 A2 (m1.trans m2) h2 (.cons (Dp_mono d1 m2.s) d2)
theorem s_cb {rr : List V → Hp → VK → Prop} {tr : TA} {m : M (List PyData)} {f : List PyData → Option PyData} (hr : RCO K rr f) (ha : EvA K tr m) : EvS K (tCB rr tr) (eCB f m) := fun l g d l' g' s H S r A e h Q q => by
  replace e := mb_some e; obtain ⟨x, l1, g1, e1, e⟩ := e
  replace e := mo_some e; obtain ⟨e, rfl, rfl⟩ := e
  refine ha _ _ _ _ _ s H S r A e1 h _ fun v1 H1 S1 r1 A1 m1 h1 d1 => ?_
  exact hr x d e v1 S1 H1 Q h1.hs d1 fun v S3 H3 g3 d3 => q v H3 S3 r1 A1 (m1.trans (Mv.grow g3)) (h1.grow g3) d3
theorem smallO_some {α : Type} {n : Nat} {a b : α} (h : smallO n a = some b) : n ≤ 4000000 ∧ b = a := by
  unfold smallO at h
  split at h
  · cases h; exact ⟨by assumption, rfl⟩
  · cases h
theorem s_tup {tr : TA} {m : M (List PyData)} (ha : EvA K tr m) : EvS K (tTup tr) (eTup m) := fun l g d l' g' s H S r A e h Q q => by
  replace e := mb_some e; obtain ⟨x, l1, g1, e1, e⟩ := e
  replace e := mo_some e; obtain ⟨e, rfl, rfl⟩ := e
  obtain ⟨hz, rfl⟩ := smallO_some e
  exact ha _ _ _ _ _ s H S r A e1 h _ fun v1 H1 S1 r1 A1 m1 h1 d1 => ⟨szl (by rw [DpAll_len d1]; exact hz), new_tup h1.hs d1 fun v S3 H3 g3 d3 => q v H3 S3 r1 A1 (m1.trans (Mv.grow g3)) (h1.grow g3) d3⟩
theorem StOk.take {l : Lo} {g : Sg} {s : L2.St} {H S : Hp} {r : List Addr} {A : List (Option Addr)} {D : Addr} {o : HO} (h : StOk K l g s H S r A) (ht : ¬ tr S H A r D) (hS : S D = none) (hx : H D = some o) (ho : ∀ φ, o ≠ .ext φ := by intro φ z; cases z) : StOk K l g s H (upd S D o) r A := by
  have hm : Same S (upd S D o) := same_up hS
  refine h.move hm (fun b z e => ?_) (fun b hb => ⟨?_, fun u e => e⟩) ⟨[], by simp⟩ h.rn h.dr h.lg (fun j b u e1 e2 => ?_) (h.tb.go hm (fun b hb => ?_) (fun _ _ _ e => e) (no_ext ho))
  · by_cases hb : b = D
    · subst hb; rw [upd_same] at e; cases e; exact hx
    · rw [upd_ne hb] at e; exact h.hs b z e
  · have : b ≠ D := fun z => ht (.inl (by rw [← z]; exact hb))
    rw [upd_ne this]; exact (h.thereA hb).2
  · obtain ⟨q1, q2⟩ := h.st j b u e1 e2
    have : b ≠ D := fun z => ht (.inr (.inl (by rw [← z]; exact List.mem_of_getElem? e1)))
    exact ⟨by rw [upd_ne this]; exact q1, q2.go hm (.of fun _ z e => e) ⟨[], by simp⟩⟩
  · have : b ≠ D := fun z => ht (.inr (.inr (by rw [← z]; exact hb)))
    rw [upd_ne this]; exact (h.tb.there hb).2
theorem Mv.take {S H S1 H1 : Hp} {r r1 : List Addr} {A A1 : List (Option Addr)} {D : Addr} {o : HO} (h : Mv K S H r A S1 H1 r1 A1) (h0 : H D = none) (hS : S1 D = none) (hx : H1 D = some o) (ho : ∀ ps, o ≠ .tbl ps := by intro ps z; cases z) : Mv K S H r A (upd S1 D o) H1 r1 A1 :=
  ⟨h.s.trans (same_up hS), fun b z e => by
    by_cases hb : b = D
    · subst hb; rw [upd_same] at e; cases e; exact hx
    · rw [upd_ne hb] at e; exact h.h b z e, fun b q1 q2 q3 => by
    have : b ≠ D := fun z => q2 (by rw [z]; exact h0)
    rw [upd_ne this]; exact h.n b q1 q2 q3, h.k, h.d, h.p, fun a z => (tr_back z (same_up hS) fun o e => .inr e).elim (h.f a) fun e => .inr (by
      cases q : H a with
      | none => rfl
      | some u => exact absurd e (h.d a (some_ne q))), fun a e => tUpS (fun ps z => ho ps (Option.some.inj (hx.symm.trans z))) a (h.t a e)⟩
theorem s_ofL {m : M (List PyData)} (h : EvL K te m) : EvS K te (eL m) := fun l g d l' g' s H S r A e hA Q q => by
  replace e := mb_some e; obtain ⟨x, l1, g1, e1, e⟩ := e
  obtain ⟨rfl, rfl, rfl⟩ := mp_some e
  exact h _ _ _ _ _ s H S r A e1 hA _ fun p xs H1 S1 r1 A1 m1 h1 hp ht sp hx hd => q _ H1 _ r1 A1 (m1.take hp sp hx) (h1.take ht sp hx) (.lst (.inl (.inl upd_same)) (DpAll_mono hd (same_up sp)))
theorem new_l {l : Lo} {g : Sg} {s : L2.St} {H S H1 S1 : Hp} {r r1 : List Addr} {A A1 : List (Option Addr)} {xs : List V} {ds : List PyData} {Q : VK} (m1 : Mv K S H r A S1 H1 r1 A1) (h1 : StOk K l g s H1 S1 r1 A1) (hd : DpAll K S1 xs ds)
    (q : ∀ p xs H' S' r' A', Mv K S H r A S' H' r' A' → StOk K l g s H' S' r' A' → H p = none → ¬ tr S' H' A' r' p → S' p = none → H' p = some (.lst xs) → DpAll K S' xs ds → Q (.ref p) H') : ∀ p, H1 p = none → Q (.ref p) (upd H1 p (.lst xs)) := fun p hp => by
  have g2 : Grow m0 S1 H1 S1 (upd H1 p (.lst xs)) := Grow.out h1.hs hp
  refine q p xs _ S1 r1 A1 (m1.trans (Mv.grow g2)) (h1.grow g2) ?_ (fun z => (h1.there (tr_upd z)).1 hp) (h1.hs.free hp) upd_same hd
  cases hq : H p with
  | none => rfl
  | some u => exact absurd hp (m1.d p (some_ne hq))
theorem s_lst {tr : TA} {m : M (List PyData)} (ha : EvA K tr m) : EvL K (tLst tr) (lLst m) := fun l g d l' g' s H S r A e h Q q => by
  replace e := mb_some e; obtain ⟨x, l1, g1, e1, e⟩ := e
  replace e := mo_some e; obtain ⟨e, rfl, rfl⟩ := e
  obtain ⟨hz, rfl⟩ := smallO_some e
  exact ha _ _ _ _ _ s H S r A e1 h _ fun v1 H1 S1 r1 A1 m1 h1 d1 => ⟨szl (by rw [DpAll_len d1]; exact hz), new_l m1 h1 d1 q⟩
theorem s_if (ht : EvT K tt t) (ha : EvS K ta a) (hb : EvS K tb b) : EvS K (tIf tt ta tb) (eIf t a b) := fun l g d l' g' s H S r A e h Q q => by
  replace e := mb_some e; obtain ⟨x, l1, g1, e1, e⟩ := e
  refine ht _ _ _ _ _ s H S r A e1 h _ fun H1 S1 r1 A1 m1 h1 => ?_
  cases x with
  | true => exact ha _ _ _ _ _ s H1 S1 r1 A1 e h1 _ fun v2 H2 S2 r2 A2 m2 h2 d2 => q v2 H2 S2 r2 A2 (m1.trans m2) h2 d2
  | false => exact hb _ _ _ _ _ s H1 S1 r1 A1 e h1 _ fun v2 H2 S2 r2 A2 m2 h2 d2 => q v2 H2 S2 r2 A2 (m1.trans m2) h2 d2
theorem truO_ok {S H : Hp} {v : V} {d : PyData} {c : Bool} (e : truO d = some c) (hs : Same S H) (h : Dp K S v d) : TruV K v H c := by
  cases d with
  | str y =>
    by_cases hy : y.length ≤ 4000000
    · have : truO (.str y) = some ((y.length : Int) != 0) := by show (if _ then _ else _) = _; rw [if_pos hy]
      rw [this] at e
      cases e
      exact truV_of hs h fun y' e => by cases e; exact hy
    · have : truO (.str y) = none := by show (if _ then _ else _) = _; rw [if_neg hy]
      rw [this] at e
      cases e
  | none => cases e; exact truV_of hs h fun y e => by cases e
  | bool b => cases e; exact truV_of hs h fun y e => by cases e
  | int b => cases e; exact truV_of hs h fun y e => by cases e
  | list b => cases e; exact truV_of hs h fun y e => by cases e
  | tuple b => cases e; exact truV_of hs h fun y e => by cases e
  | dict b => cases h
theorem s_not (ha : EvS K ta a) : EvS K (tNotT K ta) (eNot a) := fun l g d l' g' s H S r A e h Q q => by
  replace e := mb_some e; obtain ⟨x, l1, g1, e1, e⟩ := e
  replace e := mo_some e; obtain ⟨e, rfl, rfl⟩ := e
  obtain ⟨k, ek, rfl⟩ := Option.map_eq_some_iff.mp e
  exact ha _ _ _ _ _ s H S r A e1 h _ fun v1 H1 S1 r1 A1 m1 h1 d1 => ⟨k, truO_ok ek h1.hs d1, q _ H1 S1 r1 A1 m1 h1 (.bl _)⟩
theorem s_isN (ha : EvS K ta a) : EvS K (tIsN ta) (eIsN a) := fun l g d l' g' s H S r A e h Q q => by
  replace e := mb_some e; obtain ⟨x, l1, g1, e1, e⟩ := e
  obtain ⟨rfl, rfl, rfl⟩ := mp_some e
  exact ha _ _ _ _ _ s H S r A e1 h _ fun v1 H1 S1 r1 A1 m1 h1 d1 => q _ H1 S1 r1 A1 m1 h1 (by rw [dp_isN d1]; exact .bl _)
theorem s_notN (ha : EvS K ta a) : EvS K (tNotN ta) (eNotN a) := fun l g d l' g' s H S r A e h Q q => by
  replace e := mb_some e; obtain ⟨x, l1, g1, e1, e⟩ := e
  obtain ⟨rfl, rfl, rfl⟩ := mp_some e
  exact ha _ _ _ _ _ s H S r A e1 h _ fun v1 H1 S1 r1 A1 m1 h1 d1 => q _ H1 S1 r1 A1 m1 h1 (by rw [dp_isN d1]; exact .bl _)
theorem asB_some {d : PyData} {b : Bool} (h : asB d = some b) : d = .bool b := by
  cases d <;> first | cases h | skip
  rfl
theorem asI_some {d : PyData} {b : Int} (h : asI d = some b) : d = .int b := by
  cases d <;> first | cases h | skip
  rfl
theorem s_test (ha : EvS K ta a) : EvT K (tTest ta) (bTest a) := fun l g d l' g' s H S r A e h Q q => by
  replace e := mb_some e; obtain ⟨x, l1, g1, e1, e⟩ := e
  replace e := mo_some e; obtain ⟨e, rfl, rfl⟩ := e
  cases asB_some e
  exact ha _ _ _ _ _ s H S r A e1 h _ fun v1 H1 S1 r1 A1 m1 h1 d1 => by cases d1; exact ⟨_, rfl, q H1 S1 r1 A1 m1 h1⟩
theorem s_B (ha : EvS K ta a) : EvT K (tB ta) (bTest a) := fun l g d l' g' s H S r A e h Q q => by
  replace e := mb_some e; obtain ⟨x, l1, g1, e1, e⟩ := e
  replace e := mo_some e; obtain ⟨e, rfl, rfl⟩ := e
  cases asB_some e
  exact ha _ _ _ _ _ s H S r A e1 h _ fun v1 H1 S1 r1 A1 m1 h1 d1 => by cases d1; exact ⟨_, rfl, q H1 S1 r1 A1 m1 h1⟩
theorem s_tru (ha : EvS K ta a) : EvT K (fun σ H Q => ta σ H fun x H' => ∃ k, TruV K x H' k ∧ Q k H') (bTru a) := fun l g d l' g' s H S r A e h Q q => by
  replace e := mb_some e; obtain ⟨x, l1, g1, e1, e⟩ := e
  replace e := mo_some e; obtain ⟨e, rfl, rfl⟩ := e
  exact ha _ _ _ _ _ s H S r A e1 h _ fun v1 H1 S1 r1 A1 m1 h1 d1 => ⟨_, truO_ok e h1.hs d1, q H1 S1 r1 A1 m1 h1⟩
theorem s_bnot (ht : EvT K tt t) : EvT K (tNot tt) (bNot t) := fun l g d l' g' s H S r A e h Q q => by
  replace e := mb_some e; obtain ⟨x, l1, g1, e1, e⟩ := e
  obtain ⟨rfl, rfl, rfl⟩ := mp_some e
  exact ht _ _ _ _ _ s H S r A e1 h _ fun H1 S1 r1 A1 m1 h1 => q H1 S1 r1 A1 m1 h1
theorem s_band (ht : EvT K tt t) (hu : EvT K tu u) : EvT K (tAnd tt tu) (bAnd t u) := fun l g d l' g' s H S r A e h Q q => by
  replace e := mb_some e; obtain ⟨x, l1, g1, e1, e⟩ := e
  refine ht _ _ _ _ _ s H S r A e1 h _ fun H1 S1 r1 A1 m1 h1 => ?_
  cases x with
  | true => exact hu _ _ _ _ _ s H1 S1 r1 A1 e h1 _ fun H2 S2 r2 A2 m2 h2 => q H2 S2 r2 A2 (m1.trans m2) h2
  | false =>
    obtain ⟨rfl, rfl, rfl⟩ := mp_some e
    exact q H1 S1 r1 A1 m1 h1
theorem s_bor (ht : EvT K tt t) (hu : EvT K tu u) : EvT K (tOr tt tu) (bOr t u) := fun l g d l' g' s H S r A e h Q q => by
  replace e := mb_some e; obtain ⟨x, l1, g1, e1, e⟩ := e
  refine ht _ _ _ _ _ s H S r A e1 h _ fun H1 S1 r1 A1 m1 h1 => ?_
  cases x with
  | false => exact hu _ _ _ _ _ s H1 S1 r1 A1 e h1 _ fun H2 S2 r2 A2 m2 h2 => q H2 S2 r2 A2 (m1.trans m2) h2
  | true =>
    obtain ⟨rfl, rfl, rfl⟩ := mp_some e
    exact q H1 S1 r1 A1 m1 h1
theorem s_yes : EvT K tYes bYes := fun l g d l' g' s H S r A e h Q q => by
  obtain ⟨rfl, rfl, rfl⟩ := mp_some e
  exact q H S r A (Mv.refl h.hs) h
theorem s_onone : EvO K tNoPart oNone := fun l g d l' g' s H S r A e h Q q => by
  obtain ⟨rfl, rfl, rfl⟩ := mp_some e
  exact q H S r A (Mv.refl h.hs) h
theorem s_osome (ha : EvS K ta a) : EvO K (tPart ta) (oSome a) := fun l g d l' g' s H S r A e h Q q => by
  replace e := mb_some e; obtain ⟨x, l1, g1, e1, e⟩ := e
  replace e := mb_some e; obtain ⟨y, l2, g2, e2, e⟩ := e
  replace e2 := mo_some e2; obtain ⟨e2, rfl, rfl⟩ := e2
  obtain ⟨rfl, rfl, rfl⟩ := mp_some e
  cases asI_some e2
  exact ha _ _ _ _ _ s H S r A e1 h _ fun v1 H1 S1 r1 A1 m1 h1 d1 => by cases d1; exact ⟨_, rfl, q H1 S1 r1 A1 m1 h1⟩
theorem s_sl {tl th : TO} {lo hi : M (Option Int)} (ha : EvS K ta a) (hl : EvO K tl lo) (hh : EvO K th hi) : EvS K (tSl (rSlAny K) ta tl th) (eSl a lo hi) := fun l g d l' g' s H S r A e h Q q => by
  replace e := mb_some e; obtain ⟨x, l1, g1, e1, e⟩ := e
  replace e := mb_some e; obtain ⟨y, l2, g2, e2, e⟩ := e
  replace e := mb_some e; obtain ⟨z, l3, g3, e3, e⟩ := e
  replace e := mo_some e; obtain ⟨e, rfl, rfl⟩ := e
  refine ha _ _ _ _ _ s H S r A e1 h _ fun v1 H1 S1 r1 A1 m1 h1 d1 => hl _ _ _ _ _ s H1 S1 r1 A1 e2 h1 _ fun H2 S2 r2 A2 m2 h2 => hh _ _ _ _ _ s H2 S2 r2 A2 e3 h2 _ fun H3 S3 r3 A3 m3 h3 => ?_
  have d3 := Dp_mono d1 (m2.s.trans m3.s)
  have m4 := (m1.trans m2).trans m3
  have fin : ∀ v S4 H4, Grow m0 S3 H3 S4 H4 → Dp K S4 v d → Q v H4 := fun v S4 H4 g4 d4 => q v H4 S4 r3 A3 (m4.trans (Mv.grow g4)) (h3.grow g4) d4
  unfold slD at e
  split at e
  · cases e
    cases d3 with
    | lst q1 q2 => exact .inl ⟨_, _, rfl, h3.hs.seq q1, new_lst h3.hs (cut_dp q2 y z) fin⟩
  · cases e
    rename_i ds
    cases d3 with
    | @tup a xs _ q1 q2 =>
      refine .inr ⟨_, _, rfl, same_seqT h3.hs q1, fun hw => fin _ S3 H3 (Grow.refl h3.hs) ?_, fun _ => new_tup h3.hs (cut_dp q2 y z) fin⟩
      have hl := DpAll_len q2
      rw [hl] at hw
      have ec : cutD ds y z = ds := by
        unfold cutD
        rw [hw.1, hw.2]
        simp
      rw [ec]
      exact .tup q1 q2
  · cases e
end
end Sm

namespace Sm
open PySem L2 RZ Dz

def lsV (l : Lo) (g : Sg) (i : Nat) : Option (List PyData) := match l[i]? with
  | some (.own ds) => some ds
  | some (.ref j) => (match g[j]? with
    | some (.lst ds) => some ds
    | _ => none)
  | some (.dat (.list ds)) => some ds
  | _ => none
def lsM (l : Lo) (g : Sg) (i : Nat) : Option (List PyData) := match l[i]? with
  | some (.own ds) => some ds
  | some (.ref j) => (match g[j]? with
    | some (.lst ds) => some ds
    | _ => none)
  | _ => none
def ptV (l : Lo) (g : Sg) (i : Nat) (ds : List PyData) : Lo × Sg := match l[i]? with
  | some (.own _) => (l.set i (.own ds), g)
  | some (.ref j) => (l, g.set j (.lst ds))
  | _ => (l, g)
section
variable {K : Kx} {l : Lo} {g : Sg} {s : L2.St} {H S : Hp} {r : List Addr} {A : List (Option Addr)} {i : Nat} {ds : List PyData}
theorem rd_ls (h : StOk K l g s H S r A) (e : lsV l g i = some ds) : ∃ a xs, s[i]? = some (some (.ref a)) ∧ SqL K H a xs ∧ DpAll K S xs ds := by
  unfold lsV at e
  split at e
  · rename_i ds' hl
    cases e
    obtain ⟨o, v, e1, e2, a, rfl, rfl, e3, xs, e4, e5⟩ := h.ok i _ hl
    exact ⟨a, xs, e2, .inl (.inl e4), e5⟩
  · rename_i j hl
    obtain ⟨o, v, e1, e2, e3, a, e4, rfl⟩ := h.ok i _ hl
    split at e
    · rename_i ds' hj
      cases e
      obtain ⟨_, xs, q1, q2⟩ := h.st j a _ e4 hj
      exact ⟨a, xs, e2, .inl (.inl q1), q2⟩
    · cases e
  · rename_i ds' hl
    cases e
    obtain ⟨o, v, e1, e2, e3, w, rfl, e4⟩ := h.ok i _ hl
    cases e4 with
    | lst q1 q2 => exact ⟨_, _, e2, h.hs.seq q1, q2⟩
  · cases e
theorem wr_ls (h : StOk K l g s H S r A) (e : lsM l g i = some ds) : ∃ a xs, s[i]? = some (some (.ref a)) ∧ H a = some (.lst xs) ∧ DpAll K S xs ds ∧
    ∀ ys es, DpAll K S ys es → StOk K (ptV l g i es).1 (ptV l g i es).2 s (upd H a (.lst ys)) S r A ∧ Mv K S H r A S (upd H a (.lst ys)) r A := by
  unfold lsM at e
  split at e
  · rename_i ds' hl
    cases e
    obtain ⟨o, v, e1, e2, a, rfl, rfl, e3, xs, e4, e5⟩ := h.ok i _ hl
    refine ⟨a, xs, e2, e4, e5, fun ys es hd => ?_⟩
    have : ptV l g i es = (l.set i (.own es), g) := by unfold ptV; rw [hl]
    rw [this]
    exact h.putO hl e1 e2 ⟨a, rfl, rfl, e3, ys, upd_same, hd⟩
  · rename_i j hl
    obtain ⟨o, v, e1, e2, e3, a, e4, rfl⟩ := h.ok i _ hl
    split at e
    · rename_i ds' hj
      cases e
      obtain ⟨_, xs, q1, q2⟩ := h.st j a _ e4 hj
      refine ⟨a, xs, e2, q1, q2, fun ys es hd => ?_⟩
      have : ptV l g i es = (l, g.set j (.lst es)) := by unfold ptV; rw [hl]
      rw [this]
      exact h.putR e4 ⟨ys, upd_same, hd⟩
    · cases e
  · cases e
end
def mg {α : Type} (f : Lo → Sg → Option α) : M α := fun l g => match f l g with
  | none => none
  | some a => some (a, l, g)
theorem mg_some {α : Type} {f : Lo → Sg → Option α} {l l' : Lo} {g g' : Sg} {a : α} (h : mg f l g = some (a, l', g')) : f l g = some a ∧ l' = l ∧ g' = g := by
  unfold mg at h
  split at h
  · cases h
  · rename_i a' e
    cases h
    exact ⟨e, rfl, rfl⟩
def eIxV (i : Nat) (b : M PyData) : M PyData := mb (mg fun l g => lsV l g i) fun _ => mb b fun y => mg fun l g => (lsV l g i).bind fun ds => (asI y).bind fun k => atI ds k
def eLenV (i : Nat) : M PyData := mg fun l g => (lsV l g i).map fun ds => .int ds.length
def bTruV (i : Nat) : M Bool := mg fun l g => (lsV l g i).map fun ds => !ds.isEmpty
def popAtO (i : Nat) (y : PyData) : M PyData := fun l g => match lsM l g i, asI y with
  | some ds, some k => (match seqIndex? k ds.length with
    | some j => if k < 2 ^ 62 ∧ -(2 ^ 62) < k then (match ds[j]? with
      | some d => some (d, (ptV l g i (ds.eraseIdx j)).1, (ptV l g i (ds.eraseIdx j)).2)
      | none => none) else none
    | none => none)
  | _, _ => none
def ePopAt (i : Nat) (b : M PyData) : M PyData := mb (mg fun l g => lsM l g i) fun _ => mb b fun y => popAtO i y
section
variable {K : Kx} {ta tb te : TE} {a b : M PyData} {i : Nat}
theorem s_ixV (hb : EvS K tb b) : EvS K (tOp (rIx K) (tVar i) tb) (eIxV i b) := fun l g d l' g' s H S r A e h Q q => by
  replace e := mb_some e; obtain ⟨y0, l0, g0, e0, e⟩ := e
  replace e0 := mg_some e0; obtain ⟨e0, rfl, rfl⟩ := e0
  replace e := mb_some e; obtain ⟨y, l1, g1, e1, e⟩ := e
  replace e := mg_some e; obtain ⟨e, rfl, rfl⟩ := e
  replace e := Option.bind_eq_some_iff.mp e; obtain ⟨ds, e2, e⟩ := e
  replace e := Option.bind_eq_some_iff.mp e; obtain ⟨k, e3, e⟩ := e
  cases asI_some e3
  obtain ⟨a, xs, q1, _⟩ := rd_ls h e0
  refine ⟨_, q1, hb _ _ _ _ _ s H S r A e1 h _ fun v1 H1 S1 r1 A1 m1 h1 d1 => ?_⟩
  cases d1
  obtain ⟨a', xs, q2, q3, q4⟩ := rd_ls h1 e2
  rw [q1] at q2
  cases q2
  obtain ⟨w, hw, hdw⟩ := atI_map q4 e
  exact .inl ⟨a, xs, k, w, rfl, rfl, q3, hw, q w H1 S1 r1 A1 m1 h1 hdw⟩
theorem s_lenV : EvS K (tCB (rLenK K) (tCons (tVar i) tNil)) (eLenV i) := fun l g d l' g' s H S r A e h Q q => by
  replace e := mg_some e; obtain ⟨e, rfl, rfl⟩ := e
  obtain ⟨ds, e2, rfl⟩ := Option.map_eq_some_iff.mp e
  obtain ⟨a, xs, q1, q2, q3⟩ := rd_ls h e2
  exact ⟨_, q1, a, xs, rfl, .inl q2, q _ H S r A (Mv.refl h.hs) h (by rw [DpAll_len q3]; exact .int _)⟩
theorem s_truV : EvT K (fun σ H Q => tVar i σ H fun x H' => ∃ k, TruV K x H' k ∧ Q k H') (bTruV i) := fun l g d l' g' s H S r A e h Q q => by
  replace e := mg_some e; obtain ⟨e, rfl, rfl⟩ := e
  obtain ⟨ds, e2, rfl⟩ := Option.map_eq_some_iff.mp e
  obtain ⟨a, xs, q1, q2, q3⟩ := rd_ls h e2
  exact ⟨_, q1, _, .inl ⟨xs, q2, by rw [isEmpty_dp q3]⟩, q H S r A (Mv.refl h.hs) h⟩
end

def seqD : PyData → Option (List PyData)
  | .list ds => some ds
  | .tuple ds => some ds
  | _ => none
def rgO (n : Int) : Bool := decide (n ≤ 4000000) && decide (-4000000 ≤ n)
def iSq (a : M PyData) : M (List PyData) := mb a fun x => mo (seqD x)
def iRg1 (a : M PyData) : M (List PyData) := mb a fun x => mo ((asI x).bind fun n => if rgO n = true then some (rng 0 n.toNat) else none)
section
variable {K : Kx} {ta tb te : TE} {a b : M PyData} {i : Nat}
theorem s_iseq (ha : EvS K ta a) : EvI K (iSeq K ta) (iSq a) := fun l g d l' g' s H S r A e h Q q => by
  replace e := mb_some e; obtain ⟨x, l1, g1, e1, e⟩ := e
  replace e := mo_some e; obtain ⟨e, rfl, rfl⟩ := e
  unfold seqD at e
  split at e
  · cases e
    exact .inl (ha _ _ _ _ _ s H S r A e1 h _ fun v1 H1 S1 r1 A1 m1 h1 d1 => by
      cases d1 with
      | lst h3 h4 => exact ⟨_, rfl, ⟨_, h1.hs.seq h3⟩, q _ H1 S1 r1 A1 m1 h1 (walkL h3 h4)⟩)
  · cases e
    exact .inr (ha _ _ _ _ _ s H S r A e1 h _ fun v1 H1 S1 r1 A1 m1 h1 d1 => by
      cases d1 with
      | tup h3 h4 => exact ⟨_, rfl, ⟨_, same_seqT h1.hs h3⟩, q _ H1 S1 r1 A1 m1 h1 (walkT h3 h4)⟩)
  · cases e
theorem rgO_ok {n : Int} (h : rgO n = true) : n ≤ 4000000 ∧ -4000000 ≤ n := by
  unfold rgO at h
  simpa using h
theorem s_irg1 (ha : EvS K ta a) : EvI K (iRng1 (tCons ta tNil)) (iRg1 a) := fun l g d l' g' s H S r A e h Q q => by
  replace e := mb_some e; obtain ⟨x, l1, g1, e1, e⟩ := e
  replace e := mo_some e; obtain ⟨e, rfl, rfl⟩ := e
  replace e := Option.bind_eq_some_iff.mp e; obtain ⟨n, e2, e⟩ := e
  cases asI_some e2
  split at e
  · rename_i hz
    have hz := rgO_ok hz
    cases e
    refine ha _ _ _ _ _ s H S r A e1 h _ fun v1 H1 S1 r1 A1 m1 h1 d1 => ?_
    cases d1
    exact ⟨n, rfl, by omega, by omega, q _ H1 S1 r1 A1 m1 h1 walkR⟩
  · cases e
end
end Sm

namespace Sm
open PySem L2 RZ Dz

abbrev G := PyData → Lo → Option Lo
abbrev Gs := List PyData → Lo → Option Lo
def gNm (i : Nat) : G := fun d l => some (l.set i (.dat d))
def gTp (n : Nat) (gs : Gs) : G := fun d l => match d with
  | .tuple ds => if ds.length = n then gs ds l else none
  | _ => none
def gsNil : Gs := fun ds l => match ds with
  | [] => some l
  | _ => none
def gsCons (g : G) (gs : Gs) : Gs := fun ds l => match ds with
  | [] => none
  | d :: r => (g d l).bind fun l1 => gs r l1
def BdS (K : Kx) (tg : TG) (G : G) : Prop := ∀ l g d l' s H S r A v (Q : L2.St → Hp → Prop), G d l = some l' → StOk K l g s H S r A → Dp K S v d → (∀ s' H' S' A', Mv K S H r A S' H' r A' → StOk K l' g s' H' S' r A' → Q s' H') → tg v s H Q
def BdsS (K : Kx) (tg : TGs) (G : Gs) : Prop := ∀ l g d l' s H S r A v (Q : L2.St → Hp → Prop), G d l = some l' → StOk K l g s H S r A → DpAll K S v d → (∀ s' H' S' A', Mv K S H r A S' H' r A' → StOk K l' g s' H' S' r A' → Q s' H') → tg v s H Q
section
variable {K : Kx}
theorem b_name {i : Nat} : BdS K (gName i) (gNm i) := fun l g d l' s H S r A v Q e h hd q => by
  cases e
  exact q _ H S _ (Mv.refl h.hs).set (h.set ⟨rfl, v, rfl, hd⟩)
theorem bs_nil : BdsS K gNil gsNil := fun l g d l' s H S r A v Q e h hd q => by
  unfold gsNil at e
  split at e
  · cases e
    cases hd
    exact ⟨rfl, q _ H S A (Mv.refl h.hs) h⟩
  · cases e
theorem bs_cons {tg : TG} {tgs : TGs} {g : G} {gs : Gs} (h1 : BdS K tg g) (h2 : BdsS K tgs gs) : BdsS K (gCons tg tgs) (gsCons g gs) := fun l g d l' s H S r A v Q e h hd q => by
  unfold gsCons at e
  split at e
  · cases e
  · obtain ⟨l1, e1, e2⟩ := Option.bind_eq_some_iff.mp e
    cases hd with
    | cons a b => exact ⟨_, _, rfl, h1 _ _ _ _ _ _ _ _ _ _ _ e1 h a fun s1 H1 S1 A1 m1 h1 => h2 _ _ _ _ _ _ _ _ _ _ _ e2 h1 (DpAll_mono b m1.s) fun s2 H2 S2 A2 m2 h2 => q _ _ _ _ (m1.trans m2) h2⟩
theorem b_tup {tgs : TGs} {gs : Gs} {n : Nat} (h1 : BdsS K tgs gs) : BdS K (gTup K n tgs) (gTp n gs) := fun l g d l' s H S r A v Q e h hd q => by
  unfold gTp at e
  split at e
  · split at e
    · cases hd with
      | tup a b => exact ⟨_, _, rfl, same_seqT h.hs a, (DpAll_len b).trans (by assumption), h1 _ _ _ _ _ _ _ _ _ _ _ e h b q⟩
    · cases e
  · cases e
end

def plainV : Vl → Bool
  | .own _ => false
  | .dct _ => false
  | .dnk _ => false
  | _ => true
def wipeV (l : Lo) : List Nat → Lo
  | [] => l
  | v :: vs => (wipeV l vs).set v .no
def backV (l0 l : Lo) : List Nat → Lo
  | [] => l
  | v :: vs => (backV l0 l vs).set v (l0.getD v .no)
def lcL (vs : List Nat) (tg : G) (t : M Bool) (e : M PyData) : List PyData → M (List PyData)
  | [] => mp []
  | d :: ds => fun l g => match tg d (wipeV l vs) with
    | none => none
    | some l1 => match t l1 g with
      | none => none
      | some (true, l2, g2) => (match e l2 g2 with
        | none => none
        | some (y, l3, g3) => mb (lcL vs tg t e ds) (fun ys => mp (y :: ys)) (backV l l3 vs) g3)
      | some (false, l2, g2) => lcL vs tg t e ds (backV l l2 vs) g2
def plainAt (vs : List Nat) (l : Lo) : Bool := vs.all fun v => plainV (l.getD v .no)
def lLc (vs : List Nat) (it : M (List PyData)) (tg : G) (t : M Bool) (e : M PyData) : M (List PyData) := mb it fun ds => fun l g => if (plainAt vs l && decide (ds.length ≤ 4000000)) = true then lcL vs tg t e ds l g else none
theorem wipeV_len (l : Lo) : ∀ vs, (wipeV l vs).length = l.length
  | [] => rfl
  | v :: vs => by show ((wipeV l vs).set v .no).length = _; rw [List.length_set, wipeV_len l vs]
theorem backV_len (l0 l : Lo) : ∀ vs, (backV l0 l vs).length = l.length
  | [] => rfl
  | v :: vs => by show ((backV l0 l vs).set v _).length = _; rw [List.length_set, backV_len l0 l vs]
theorem wipeV_get {l : Lo} {j : Nat} : ∀ {vs : List Nat}, (wipeV l vs)[j]? = if j ∈ vs then (if j < l.length then some .no else none) else l[j]?
  | [] => by simp [wipeV]
  | v :: vs => by
    show ((wipeV l vs).set v .no)[j]? = _
    rw [List.getElem?_set]
    by_cases h : v = j
    · subst h
      rw [if_pos rfl, wipeV_len, if_pos List.mem_cons_self]
    · rw [if_neg h, wipeV_get]
      have : (j ∈ v :: vs) ↔ j ∈ vs := by
        rw [List.mem_cons]
        exact ⟨fun z => z.elim (fun q => absurd q.symm h) id, .inr⟩
      by_cases hj : j ∈ vs
      · rw [if_pos hj, if_pos (this.mpr hj)]
      · rw [if_neg hj, if_neg fun z => hj (this.mp z)]
theorem backV_get {l0 l : Lo} {j : Nat} : ∀ {vs : List Nat}, (backV l0 l vs)[j]? = if j ∈ vs then (if j < l.length then some (l0.getD j .no) else none) else l[j]?
  | [] => by simp [backV]
  | v :: vs => by
    show ((backV l0 l vs).set v (l0.getD v .no))[j]? = _
    rw [List.getElem?_set]
    by_cases h : v = j
    · subst h
      rw [if_pos rfl, backV_len, if_pos List.mem_cons_self]
    · rw [if_neg h, backV_get]
      have : (j ∈ v :: vs) ↔ j ∈ vs := by
        rw [List.mem_cons]
        exact ⟨fun z => z.elim (fun q => absurd q.symm h) id, .inr⟩
      by_cases hj : j ∈ vs
      · rw [if_pos hj, if_pos (this.mpr hj)]
      · rw [if_neg hj, if_neg fun z => hj (this.mp z)]
section
variable {K : Kx} {l l' : Lo} {g g' : Sg} {s s' : L2.St} {H S H1 S1 : Hp} {r r1 : List Addr} {A A1 : List (Option Addr)} {vs : List Nat}
theorem plainAt_of (h : plainAt vs l = true) {v : Nat} (hv : v ∈ vs) {x : Vl} (hx : l[v]? = some x) : plainV x = true := by
  unfold plainAt at h
  have := List.all_eq_true.mp h v hv
  rw [List.getD_eq_getElem?_getD, hx] at this
  exact this
def cutA (A : List (Option Addr)) : List Nat → List (Option Addr)
  | [] => A
  | v :: vs => (cutA A vs).set v none
theorem cutA_len (A : List (Option Addr)) : ∀ vs, (cutA A vs).length = A.length
  | [] => rfl
  | v :: vs => by show ((cutA A vs).set v none).length = _; rw [List.length_set, cutA_len A vs]
theorem cutA_get {A : List (Option Addr)} {j : Nat} : ∀ {vs : List Nat}, (cutA A vs)[j]? = if j ∈ vs then (if j < A.length then some none else none) else A[j]?
  | [] => by simp [cutA]
  | v :: vs => by
    show ((cutA A vs).set v none)[j]? = _
    rw [List.getElem?_set]
    by_cases h : v = j
    · subst h
      rw [if_pos rfl, cutA_len, if_pos List.mem_cons_self]
    · rw [if_neg h, cutA_get]
      have : (j ∈ v :: vs) ↔ j ∈ vs := by
        rw [List.mem_cons]
        exact ⟨fun z => z.elim (fun q => absurd q.symm h) id, .inr⟩
      by_cases hj : j ∈ vs
      · rw [if_pos hj, if_pos (this.mpr hj)]
      · rw [if_neg hj, if_neg fun z => hj (this.mp z)]
theorem cutA_some {A : List (Option Addr)} {j : Nat} {a : Addr} {vs : List Nat} (h : (cutA A vs)[j]? = some (some a)) : A[j]? = some (some a) := by
  rw [cutA_get] at h
  split at h
  · split at h <;> cases h
  · exact h
theorem cutA_mem {A : List (Option Addr)} {a : Addr} {vs : List Nat} (h : some a ∈ cutA A vs) : some a ∈ A := by
  obtain ⟨j, hj⟩ := List.mem_iff_getElem?.mp h
  exact List.mem_of_getElem? (cutA_some hj)
theorem trcut {a : Addr} (h : tr S H (cutA A vs) r a) : tr S H A r a := h.elim (fun q => .inl (cutA_mem q)) .inr
theorem Mv.cut (h : Mv K S H r A S1 H1 r1 A1) : Mv K S H r A S1 H1 r1 (cutA A1 vs) := ⟨h.s, h.h, h.n, h.k, h.d, h.p, fun a z => h.f a (trcut z), h.t⟩
theorem StOk.wipe (h : StOk K l g s H S r A) : StOk K (wipeV l vs) g (L2.wipe s vs) H S r (cutA A vs) :=
  ⟨h.hs, by rw [cutA_len, wipeV_len]; exact h.la, by rw [wipe_length, wipeV_len]; exact h.ls, fun j x e => by
    rw [wipeV_get] at e
    rw [cutA_get, wipe_get]
    by_cases hj : j ∈ vs
    · rw [if_pos hj] at e ⊢
      rw [if_pos hj]
      split at e
      · rename_i hl
        cases e
        exact ⟨none, none, by rw [if_pos (by rw [h.la]; exact hl)], by rw [if_pos (by rw [h.ls]; exact hl)], rfl⟩
      · cases e
    · rw [if_neg hj] at e ⊢
      rw [if_neg hj]
      exact h.ok j x e, fun i j a e1 e2 => h.ij i j a (cutA_some e1) (cutA_some e2), fun a ha => h.dr a (cutA_mem ha), h.rn, h.lg, h.st, h.tb⟩
theorem StOk.back (h : StOk K l g s H S r A) (hp : plainAt vs l = true) (h1 : StOk K l' g' s' H1 S1 r1 A1) (hw : L2.wipe s' vs = L2.wipe s vs) (hll : l'.length = l.length) (hs : Same S S1) (hr : ∃ q, r1 = r ++ q) : StOk K (backV l l' vs) g' s H1 S1 r1 (cutA A1 vs) :=
  ⟨h1.hs, by rw [cutA_len, backV_len]; exact h1.la, by rw [backV_len, hll]; exact h.ls, fun j x e => by
    rw [backV_get] at e
    rw [cutA_get]
    by_cases hj : j ∈ vs
    · rw [if_pos hj] at e ⊢
      split at e
      · rename_i hl
        have hl0 : j < l.length := by rw [← hll]; exact hl
        have hx : l[j]? = some x := by
          rw [List.getD_eq_getElem?_getD, List.getElem?_eq_getElem hl0] at e
          rw [List.getElem?_eq_getElem hl0]
          exact e
        obtain ⟨o, v, q1, q2, q3⟩ := h.ok j x hx
        have po : o = none := by
          have := plainAt_of hp hj hx
          cases x with
          | no => exact q3
          | dat d => exact q3.1
          | own ds => cases this
          | dct ds => cases this
          | dnk ds => cases this
          | ref k => exact q3.1
          | fn F => exact q3.1
          | xt ds => exact q3.1
          | os b ds => exact q3.1
        subst po
        exact ⟨none, v, by rw [if_pos (by rw [h1.la]; exact hl)], q2, q3.go hs (fun a z => by cases z) hr⟩
      · cases e
    · rw [if_neg hj] at e ⊢
      obtain ⟨o, v, q1, q2, q3⟩ := h1.ok j x e
      refine ⟨o, v, q1, ?_, q3⟩
      have hg := congrArg (fun (z : L2.St) => z[j]?) hw
      simp only [wipe_get] at hg
      rw [if_neg hj, if_neg hj] at hg
      rw [← hg]
      exact q2, fun i j a e1 e2 => h1.ij i j a (cutA_some e1) (cutA_some e2), fun a ha => h1.dr a (cutA_mem ha), h1.rn, h1.lg, h1.st, h1.tb⟩
end
theorem lcL_step {vs : List Nat} {tg : G} {t : M Bool} {e : M PyData} {d : PyData} {ds ys : List PyData} {l l' : Lo} {g g' : Sg} (h : lcL vs tg t e (d :: ds) l g = some (ys, l', g')) :
    ∃ l1 b l2 g2, tg d (wipeV l vs) = some l1 ∧ t l1 g = some (b, l2, g2) ∧ ((b = true ∧ ∃ y l3 g3 zs, e l2 g2 = some (y, l3, g3) ∧ lcL vs tg t e ds (backV l l3 vs) g3 = some (zs, l', g') ∧ ys = y :: zs) ∨ (b = false ∧ lcL vs tg t e ds (backV l l2 vs) g2 = some (ys, l', g'))) := by
  unfold lcL at h
  split at h
  · cases h
  · rename_i l1 e1
    split at h
    · cases h
    · rename_i l2 g2 e2
      split at h
      · cases h
      · rename_i y l3 g3 e3
        obtain ⟨zs, l4, g4, e4, e5⟩ := mb_some h
        obtain ⟨rfl, rfl, rfl⟩ := mp_some e5
        exact ⟨l1, true, l2, g2, e1, e2, .inl ⟨rfl, y, l3, g3, zs, e3, e4, rfl⟩⟩
    · rename_i l2 g2 e2
      exact ⟨l1, false, l2, g2, e1, e2, .inr ⟨rfl, h⟩⟩
section
variable {K : Kx} {tt : TT} {te : TE} {t : M Bool} {e0 : M PyData} {wi : TI} {it : M (List PyData)} {tg : TG} {gg : G} {vs : List Nat}
theorem plain_back {l l' : Lo} (h : plainAt vs l = true) (hl : l'.length = l.length) : plainAt vs (backV l l' vs) = true := by
  unfold plainAt
  refine List.all_eq_true.mpr fun v hv => ?_
  rw [List.getD_eq_getElem?_getD, backV_get, if_pos hv]
  split
  · exact List.all_eq_true.mp h v hv
  · rfl
theorem lc_run {l1 l' : Lo} {g1 g' : Sg} {s : L2.St} {H S : Hp} {r : List Addr} {A : List (Option Addr)} {ds d : List PyData} (hi : ∀ R : It → Hp → Prop, (∀ J H' S' r' A', Mv K S H r A S' H' r' A' → StOk K l1 g1 s H' S' r' A' → WalkD K J S' ds → R J H') → wi s H R) (hg : GIn tg vs) (hm : ∀ v s H (Q Q' : L2.St → Hp → Prop), (∀ s' H', Q s' H' → Q' s' H') → tg v s H Q → tg v s H Q') (hb : BdS K tg gg) (ht : EvT K tt t) (he : EvS K te e0)
    (hpl : plainAt vs l1 = true) (hz : ds.length ≤ 4000000) (e : lcL vs gg t e0 ds l1 g1 = some (d, l', g')) (Q : VK) (q : ∀ p xs H' S' r' A', Mv K S H r A S' H' r' A' → StOk K l' g' s H' S' r' A' → H p = none → ¬ tr S' H' A' r' p → S' p = none → H' p = some (.lst xs) → DpAll K S' xs d → Q (.ref p) H') : tLc wi tg tt te vs s H Q := by
  refine hi _ fun J H1 S1 r1 A1 m1 h1 w => ?_
  intro D hD
  have hDH : H D = none := by
    cases hq : H D with
    | none => rfl
    | some u => exact absurd hD (m1.d D (some_ne hq))
  have gD : Grow m0 S1 H1 S1 (upd H1 D (.lst [])) := Grow.out h1.hs hD
  have hDt : ¬ tr S1 H1 A1 r1 D := fun z => (h1.there z).1 hD
  refine ⟨fun i m H2 => m = ds.length - i ∧ i ≤ ds.length ∧ ∃ li gi Si ri Ai acc ac rest, StOk K li gi s H2 Si ri Ai ∧ Mv K S1 H1 r1 A1 Si H2 ri Ai ∧ ¬ tr Si H2 Ai ri D ∧ Si D = none ∧ H2 D = some (.lst acc) ∧ DpAll K Si acc ac ∧ ac.length ≤ i ∧ plainAt vs li = true ∧ lcL vs gg t e0 (ds.drop i) li gi = some (rest, l', g') ∧ d = ac ++ rest,
    ⟨ds.length, by simp, Nat.zero_le _, l1, g1, S1, r1, A1, [], [], d, h1.grow gD, Mv.grow gD, fun z => hDt (tr_upd z), h1.hs.free hD, upd_same, .nil, Nat.le_refl _, hpl, e, rfl⟩, ?_⟩
  rintro i m H2 ⟨rfl, hle, li, gi, Si, ri, Ai, acc, ac, rest, hst, mi, hDi, sDi, hacc, hdacc, hal, hpi, hrun, hd⟩
  by_cases hlt : i < ds.length
  · have mw := m1.trans mi
    refine .inr ⟨w.go i H2 hlt (mi.s.trans hst.hs), fun H3 => i + 1 ≤ ds.length ∧ ∃ li gi Si ri Ai acc ac rest, StOk K li gi s H3 Si ri Ai ∧ Mv K S1 H1 r1 A1 Si H3 ri Ai ∧ ¬ tr Si H3 Ai ri D ∧ Si D = none ∧ H3 D = some (.lst acc) ∧ DpAll K Si acc ac ∧ ac.length ≤ i + 1 ∧ plainAt vs li = true ∧ lcL vs gg t e0 (ds.drop (i + 1)) li gi = some (rest, l', g') ∧ d = ac ++ rest, fun H3 ⟨q1, q2⟩ => ⟨ds.length - (i + 1), by omega, rfl, q1, q2⟩, fun x H3 y => ?_⟩
    have hdi : ds[i]? = some ds[i] := List.getElem?_eq_getElem hlt
    obtain ⟨S3, g3, d3⟩ := w.yld i H2 x H3 ds[i] Si hdi mi.s hst.hs y
    have h3 := hst.grow g3
    have hdrop : ds.drop i = ds[i] :: ds.drop (i + 1) := List.drop_eq_getElem_cons hlt
    rw [hdrop] at hrun
    obtain ⟨lb, b, l2, g2, k1, k2, k3⟩ := lcL_step hrun
    have sD3 : S3 D = none := g3.n D sDi (some_ne hacc)
    have hD3 : H3 D = some (.lst acc) := g3.all D _ hacc
    have bnd := hb _ _ _ _ _ _ _ _ _ x (fun s4 H4 => ∃ S4 A4, Mv K S3 H3 ri (cutA Ai vs) S4 H4 ri A4 ∧ StOk K lb gi s4 H4 S4 ri A4) k1 (h3.wipe (vs := vs)) d3 fun s4 H4 S4 A4 m4 h4 => ⟨S4, A4, m4, h4⟩
    refine hm _ _ _ _ _ ?_ (hg x (wipe s vs) H3 _ bnd)
    rintro s4 H4 ⟨hw, S4, A4, m4, h4⟩
    have hw' : wipe s4 vs = wipe s vs := by
      rw [hw]
      apply List.ext_getElem?
      intro j
      rw [wipe_get, wipe_get, wipe_length]
      by_cases hj : j ∈ vs
      · rw [if_pos hj, if_pos hj]
      · rw [if_neg hj, if_neg hj]
    refine ⟨hw', ?_⟩
    have hDc : ¬ tr S3 H3 (cutA Ai vs) ri D := fun z => (tr_back (trcut z) g3.s fun o e => .inr (g3.all _ o e)).elim hDi (some_ne hacc)
    have sD4 : S4 D = none := m4.n D sD3 (some_ne hD3) hDc
    have hD4 : H4 D = some (.lst acc) := m4.k D _ hDc hD3
    have hD4t : ¬ tr S4 H4 A4 ri D := fun z => (m4.f D z).elim hDc (some_ne hD3)
    have mc : Mv K Si H2 ri Ai S4 H4 ri A4 := by
      have := (Mv.grow (r := ri) (A := Ai) g3).trans (Mv.trans (A1 := cutA Ai vs) (A2 := A4) (r1 := ri) (r2 := ri) ⟨Same.refl S3, h3.hs, fun _ e _ _ => e, fun _ _ _ e => e, fun _ e => e, ⟨[], by simp⟩, fun a z => .inl (trcut z), tKeep⟩ m4)
      exact this
    have hlen4 : lb.length = li.length := by
      have e1 := h4.ls
      have e2 := hst.ls
      have e3 := congrArg List.length hw'
      rw [wipe_length, wipe_length] at e3
      omega
    refine ht _ _ _ _ _ s4 H4 S4 ri A4 k2 h4 _ fun H5 S5 r5 A5 m5 h5 => ?_
    have sD5 : S5 D = none := m5.n D sD4 (some_ne hD4) hD4t
    have hD5 : H5 D = some (.lst acc) := m5.k D _ hD4t hD4
    have hD5t : ¬ tr S5 H5 A5 r5 D := fun z => (m5.f D z).elim hD4t (some_ne hD4)
    have hlen5 : l2.length = li.length := by
      have e1 := h5.ls
      have e2 := h4.ls
      omega
    rcases k3 with ⟨rfl, y2, l3, g3', zs, k4, k5, k6⟩ | ⟨rfl, k4⟩
    · rw [if_pos rfl]
      refine he _ _ _ _ _ s4 H5 S5 r5 A5 k4 h5 _ fun v6 H6 S6 r6 A6 m6 h6 d6 => ?_
      have sD6 : S6 D = none := m6.n D sD5 (some_ne hD5) hD5t
      have hD6 : H6 D = some (.lst acc) := m6.k D _ hD5t hD5
      have hD6t : ¬ tr S6 H6 A6 r6 D := fun z => (m6.f D z).elim hD5t (some_ne hD5)
      have hlen6 : l3.length = li.length := by
        have e1 := h6.ls
        have e2 := h4.ls
        omega
      have mall := (mc.trans m5).trans m6
      have hb6 := hst.back hpi h6 hw' hlen6 mall.s mall.p
      have hl := DpAll_len hdacc
      have hDcut : ¬ tr S6 H6 (cutA A6 vs) r6 D := fun z => hD6t (trcut z)
      -- the new list grows
      have hput : StOk K (backV li l3 vs) g3' s (upd H6 D (.lst (acc ++ [v6]))) S6 r6 (cutA A6 vs) := by
        refine hb6.move (Same.refl S6) (fun b z e => ?_) (fun b hb => ⟨(hb6.thereA hb).2, fun u e => ?_⟩) ⟨[], by simp⟩ hb6.rn hb6.dr hb6.lg (fun j b o e1 e2 => ?_) (hb6.tb.go (Same.refl S6) (fun b hb => (hb6.tb.there hb).2) fun b u hb e => by rw [upd_ne fun z => hDcut (.inr (.inr (by rw [← z]; exact hb)))]; exact e)
        · rw [upd_ne (ne_of_none e sD6)]; exact hb6.hs b z e
        · rw [upd_ne fun z => hDcut (.inl (by rw [← z]; exact hb))]; exact e
        · obtain ⟨p1, p2⟩ := hb6.st j b o e1 e2
          exact ⟨p1, p2.go (Same.refl S6) (.upd (fun z => hDcut (.inr (.inl (by rw [← z]; exact List.mem_of_getElem? e1)))) hD6 (fun _ z => nomatch z)) ⟨[], by simp⟩⟩
      have mnew : Mv K S1 H1 r1 A1 S6 (upd H6 D (.lst (acc ++ [v6]))) r6 (cutA A6 vs) := by
        have mm := mi.trans mall
        refine ⟨mm.s, hput.hs, mm.n, fun b o hb e => ?_, fun b e => ?_, mm.p, fun b z => mm.f b (trcut (tr_upd z)), fun a e => tUpd (fun ps z => by rw [hD6] at z; cases z) a (mm.t a e)⟩
        · have hbD : b ≠ D := fun z => by rw [z, hD] at e; cases e
          rw [upd_ne hbD]; exact mm.k b o hb e
        · by_cases hbD : b = D
          · subst hbD; rw [upd_same]; exact fun z => nomatch z
          · rw [upd_ne hbD]; exact mm.d b e
      refine ⟨acc, hD6, szt (by omega), hlt, backV li l3 vs, g3', S6, r6, cutA A6 vs, acc ++ [v6], ac ++ [y2], zs, hput, mnew, fun z => hDcut (tr_upd z), sD6, upd_same, DpAll_app (DpAll_mono hdacc mall.s) (.cons d6 .nil), by rw [List.length_append]; simp; omega, plain_back hpi hlen6, k5, by rw [hd, k6]; simp⟩
    · rw [if_neg Bool.false_ne_true]
      have mall := mc.trans m5
      have hb5 := hst.back hpi h5 hw' hlen5 mall.s mall.p
      exact ⟨hlt, backV li l2 vs, g2, S5, r5, cutA A5 vs, acc, ac, rest, hb5, (mi.trans mall).cut, fun z => hD5t (trcut z), sD5, hD5, DpAll_mono hdacc mall.s, by omega, plain_back hpi hlen5, k4, hd⟩
  · have ei : i = ds.length := by omega
    subst ei
    rw [List.drop_length] at hrun
    obtain ⟨rfl, rfl, rfl⟩ := mp_some hrun
    rw [List.append_nil] at hd
    subst hd
    have mw := m1.trans mi
    exact .inl ⟨w.stop H2 (mi.s.trans hst.hs), q D acc H2 Si ri Ai mw hst hDH hDi sDi hacc hdacc⟩
theorem s_lc (hi : EvI K wi it) (hg : GIn tg vs) (hm : ∀ v s H (Q Q' : L2.St → Hp → Prop), (∀ s' H', Q s' H' → Q' s' H') → tg v s H Q → tg v s H Q') (hb : BdS K tg gg) (ht : EvT K tt t) (he : EvS K te e0) : EvL K (tLc wi tg tt te vs) (lLc vs it gg t e0) := fun l g d l' g' s H S r A e h Q q => by
  replace e := mb_some e; obtain ⟨ds, l1, g1, e1, e⟩ := e
  split at e
  case isFalse => cases e
  rename_i hz
  rw [Bool.and_eq_true, decide_eq_true_eq] at hz
  exact lc_run (fun R k => hi _ _ _ _ _ s H S r A e1 h R k) hg hm hb ht he hz.1 hz.2 e Q q
end
end Sm

namespace Sm
open PySem L2 RZ Dz

abbrev FS := List Vl → Sg → Option (Vl × Sg)
def StoOk (K : Kx) (S H : Hp) (r : List Addr) (g : Sg) : Prop := r.Nodup ∧ r.length = g.length ∧ (∀ (j : Nat) (a : Addr) (o : Ob), r[j]? = some a → g[j]? = some o → S a = none ∧ ObOk K S H r a o) ∧ TabsOk K S H
def spG (K : Kx) (n : Nat) (F : FS) : Sp := fun vs H Q _ => ∃ S r g as v g', as.length = n ∧ Same S H ∧ StoOk K S H r g ∧ VsOk K S r vs as ∧ F as g = some (v, g') ∧
  ∀ w S' H' r', GrowT (inR S H r) S H S' H' → (∃ q, r' = r ++ q) → (∀ a, a ∈ r' → a ∈ r ∨ H a = none) → StoOk K S' H' r' g' → VOk K S' r' w v → Q w H'
def vE (e : M PyData) : M Vl := mb e fun d => mp (.dat d)
def vR (i : Nat) : M Vl := mg fun l _ => match l[i]? with
  | some (.ref j) => some (.ref j)
  | _ => none
def vNil : M (List Vl) := mp []
def vCons (v : M Vl) (r : M (List Vl)) : M (List Vl) := mb v fun x => mb r fun xs => mp (x :: xs)
def vCall (F : FS) (a : M (List Vl)) : M Vl := mb a fun xs => fun l g => match F xs g with
  | none => none
  | some (v, g') => some (v, l, g')
def asD : Vl → Option PyData
  | .dat d => some d
  | .xt ds => some (.tuple ds)
  | _ => none
def eD (v : M Vl) : M PyData := mb v fun x => mo (asD x)
def eCall (F : FS) (a : M (List Vl)) : M PyData := eD (vCall F a)
section
variable {K : Kx} {ta te : TE} {e0 : M PyData}
theorem s_vE (h : EvS K te e0) : EvV K te (vE e0) := fun l g d l' g' s H S r A e hA Q q => by
  replace e := mb_some e; obtain ⟨x, l1, g1, e1, e⟩ := e
  obtain ⟨rfl, rfl, rfl⟩ := mp_some e
  exact h _ _ _ _ _ s H S r A e1 hA _ fun v H1 S1 r1 A1 m1 h1 d1 => q v H1 S1 r1 A1 m1 h1 d1
theorem s_vR {i : Nat} : EvV K (tVar i) (vR i) := fun l g d l' g' s H S r A e h Q q => by
  replace e := mg_some e; obtain ⟨e, rfl, rfl⟩ := e
  split at e
  · rename_i j hl
    cases e
    obtain ⟨o, v, e1, e2, e3, a, e4, rfl⟩ := h.ok i _ hl
    exact ⟨_, e2, q _ H S r A (Mv.refl h.hs) h ⟨a, e4, rfl⟩⟩
  · cases e
theorem s_vnil : EvVA K tNil vNil := fun l g d l' g' s H S r A e h Q q => by
  obtain ⟨rfl, rfl, rfl⟩ := mp_some e
  exact q _ H S r A (Mv.refl h.hs) h .nil
theorem s_vcons {tr : TA} {v : M Vl} {m : M (List Vl)} (ha : EvV K ta v) (hb : EvVA K tr m) : EvVA K (tCons ta tr) (vCons v m) := fun l g d l' g' s H S r A e h Q q => by
  replace e := mb_some e; obtain ⟨x, l1, g1, e1, e⟩ := e
  replace e := mb_some e; obtain ⟨y, l2, g2, e2, e⟩ := e
  obtain ⟨rfl, rfl, rfl⟩ := mp_some e
  exact ha _ _ _ _ _ s H S r A e1 h _ fun v1 H1 S1 r1 A1 m1 h1 d1 => hb _ _ _ _ _ s H1 S1 r1 A1 e2 h1 _ fun v2 H2 S2 r2 A2 m2 h2 d2 => q _ H2 S2 r2 A2 (m1.trans m2) h2 (.cons (d1.go m2.s m2.p) d2)
theorem call_at {F : FS} {n : Nat} {l : Lo} {g g' : Sg} {s : L2.St} {H S : Hp} {r : List Addr} {A : List (Option Addr)} {vs : List V} {as : List Vl} {v : Vl} {Q : VK} {E : XK} (h : StOk K l g s H S r A) (hv : VsOk K S r vs as) (hn : as.length = n) (e : F as g = some (v, g'))
    (q : ∀ w H1 S1 r1, Mv K S H r A S1 H1 r1 A → StOk K l g' s H1 S1 r1 A → VOk K S1 r1 w v → Q w H1) : spG K n F vs H Q E :=
  ⟨S, r, g, as, v, g', hn, h.hs, ⟨h.rn, h.lg, h.st, h.tb⟩, hv, e, fun w S1 H1 r1 gr hp hf ⟨s1, s2, s3, s4⟩ hw => by
    obtain ⟨h1, m1⟩ := h.call gr hp s1 hf s2 s3 s4
    exact q w H1 S1 r1 m1 h1 hw⟩
theorem paired_len {α β : Type} {R : α → β → Prop} {xs : List α} {ys : List β} (h : Paired R xs ys) : xs.length = ys.length := by
  induction h with
  | nil => rfl
  | cons _ _ ih => simp [ih]
theorem s_vcall {F : FS} {n : Nat} {E : XK} {tr : TA} {m : M (List Vl)} (ha : EvVA K tr m) (hn : ∀ l g xs l' g', m l g = some (xs, l', g') → xs.length = n) : EvV K (tCall (spG K n F) [] E tr) (vCall F m) := fun l g d l' g' s H S r A e h Q q => by
  replace e := mb_some e; obtain ⟨x, l1, g1, e1, e⟩ := e
  split at e
  · cases e
  · rename_i v g2 e2
    cases e
    refine ha _ _ _ _ _ s H S r A e1 h _ fun vs H1 S1 r1 A1 m1 h1 d1 => ?_
    show spG K n F (vs ++ []) H1 Q E
    rw [List.append_nil]
    exact call_at h1 d1 (hn _ _ _ _ _ e1) e2 fun w H2 S2 r2 m2 h2 d2 => q w H2 S2 r2 A1 (m1.trans m2) h2 d2
theorem s_eD {v : M Vl} (h : EvV K te v) : EvS K te (eD v) := fun l g d l' g' s H S r A e hA Q q => by
  replace e := mb_some e; obtain ⟨x, l1, g1, e1, e⟩ := e
  replace e := mo_some e; obtain ⟨e, rfl, rfl⟩ := e
  cases x <;> first | cases e | skip
  · exact h _ _ _ _ _ s H S r A e1 hA _ fun v H1 S1 r1 A1 m1 h1 d1 => q v H1 S1 r1 A1 m1 h1 d1
  · exact h _ _ _ _ _ s H S r A e1 hA _ fun v H1 S1 r1 A1 m1 h1 d1 => q v H1 S1 r1 A1 m1 h1 (XtV.dp d1)
theorem s_call {F : FS} {n : Nat} {E : XK} {tr : TA} {m : M (List Vl)} (ha : EvVA K tr m) (hn : ∀ l g xs l' g', m l g = some (xs, l', g') → xs.length = n) : EvS K (tCall (spG K n F) [] E tr) (eCall F m) := s_eD (s_vcall ha hn)
theorem vn_nil : ∀ l g xs l' g', vNil l g = some (xs, l', g') → xs.length = 0 := fun l g xs l' g' e => by
  obtain ⟨rfl, _⟩ := mp_some e
  rfl
theorem vn_cons {v : M Vl} {m : M (List Vl)} {n : Nat} (h : ∀ l g xs l' g', m l g = some (xs, l', g') → xs.length = n) : ∀ l g xs l' g', vCons v m l g = some (xs, l', g') → xs.length = n + 1 := fun l g xs l' g' e => by
  replace e := mb_some e; obtain ⟨x, l1, g1, e1, e⟩ := e
  replace e := mb_some e; obtain ⟨y, l2, g2, e2, e⟩ := e
  obtain ⟨rfl, _⟩ := mp_some e
  simp [h _ _ _ _ _ e2]
end

theorem StOk.setD {K : Kx} {l : Lo} {g : Sg} {s : L2.St} {H S : Hp} {r : List Addr} {A : List (Option Addr)} {i : Nat} {v : V} {d : PyData} (h : StOk K l g s H S r A) (hd : Dp K S v d) : StOk K (l.set i (.dat d)) g (s.set i (some v)) H S r (A.set i none) := h.set ⟨rfl, v, rfl, hd⟩
inductive Out where
  | nx
  | bk
  | ct
  | ret (v : Vl)
abbrev X := M Out
def OutOk (K : Kx) (D : Ends) (S : Hp) (r : List Addr) (s : L2.St) (H : Hp) : Out → Prop
  | .nx => D.nx s H
  | .bk => D.bk s H
  | .ct => D.ct s H
  | .ret v => ∀ w, VOk K S r w v → D.rt w H
def ExS (K : Kx) (ts : TS) (x : X) : Prop := ∀ l g o l' g' s H S r A, x l g = some (o, l', g') → StOk K l g s H S r A → ∀ D : Ends, (∀ s' H' S' r' A', Mv K S H r A S' H' r' A' → StOk K l' g' s' H' S' r' A' → OutOk K D S' r' s' H' o) → ts D s H
def xNext : X := mp .nx
def xSeq (x y : X) : X := mb x fun o => match o with
  | .nx => y
  | o => mp o
def xAsg (i : Nat) (e : M PyData) : X := mb e fun d => fun l g => some (.nx, l.set i (.dat d), g)
def xAsgG (G : G) (e : M PyData) : X := mb e fun d => fun l g => match G d l with
  | none => none
  | some l' => some (.nx, l', g)
def xAsgV (i : Nat) (v : M Vl) : X := mb v fun x => fun l g => some (.nx, l.set i x, g)
def xIf (t : M Bool) (a b : X) : X := mb t fun c => if c = true then a else b
def xRet (e : M PyData) : X := mb e fun d => mp (.ret (.dat d))
def xDrop (e : M PyData) : X := mb e fun _ => mp .nx
def appO (i : Nat) (d : PyData) : X := fun l g => match lsM l g i with
  | some ds => if ds.length < 4000000 then some (.nx, (ptV l g i (ds ++ [d])).1, (ptV l g i (ds ++ [d])).2) else none
  | none => none
def xApp (i : Nat) (e : M PyData) : X := mb (mg fun l g => lsM l g i) fun _ => mb e fun d => appO i d
def setO (i : Nat) (k d : PyData) : X := fun l g => match lsM l g i, asI k with
  | some ds, some n => (match ixN ds.length n with
    | some j => some (.nx, (ptV l g i (ds.set j d)).1, (ptV l g i (ds.set j d)).2)
    | none => none)
  | _, _ => none
def xSetI (i : Nat) (k e : M PyData) : X := mb e fun d => mb (mg fun l g => lsM l g i) fun _ => mb k fun y => setO i y d
def xForL (G : G) (b : X) : List PyData → X
  | [] => mp .nx
  | d :: ds => fun l g => match G d l with
    | none => none
    | some l1 => match b l1 g with
      | none => none
      | some (.nx, l2, g2) => xForL G b ds l2 g2
      | some (.ct, l2, g2) => xForL G b ds l2 g2
      | some (.bk, l2, g2) => some (.nx, l2, g2)
      | some (.ret v, l2, g2) => some (.ret v, l2, g2)
def xFor (it : M (List PyData)) (G : G) (b : X) : X := mb it fun ds => xForL G b ds
def xPar (i j : Nat) (a b : M PyData) : X := mb a fun x => mb b fun y => fun l g => some (.nx, (l.set i (.dat x)).set j (.dat y), g)
section
variable {K : Kx} {ta tb te : TE} {tt : TT} {tu tv : TS} {a b e0 : M PyData} {t : M Bool} {x y : X} {i j k : Nat}
theorem x_next : ExS K tNext xNext := fun l g o l' g' s H S r A e h D q => by
  obtain ⟨rfl, rfl, rfl⟩ := mp_some e
  exact q s H S r A (Mv.refl h.hs) h
theorem x_seq (h1 : ExS K tu x) (h2 : ExS K tv y) : ExS K (tSeq tu tv) (xSeq x y) := fun l g o l' g' s H S r A e h D q => by
  replace e := mb_some e; obtain ⟨o1, l1, g1, e1, e⟩ := e
  refine h1 _ _ _ _ _ s H S r A e1 h _ fun s1 H1 S1 r1 A1 m1 h1' => ?_
  cases o1 with
  | nx => exact h2 _ _ _ _ _ s1 H1 S1 r1 A1 e h1' D fun s2 H2 S2 r2 A2 m2 h2' => q s2 H2 S2 r2 A2 (m1.trans m2) h2'
  | bk => obtain ⟨rfl, rfl, rfl⟩ := mp_some e; exact q s1 H1 S1 r1 A1 m1 h1'
  | ct => obtain ⟨rfl, rfl, rfl⟩ := mp_some e; exact q s1 H1 S1 r1 A1 m1 h1'
  | ret v => obtain ⟨rfl, rfl, rfl⟩ := mp_some e; exact q s1 H1 S1 r1 A1 m1 h1'
theorem x_asg (he : EvS K te e0) : ExS K (tAsg te (gName i)) (xAsg i e0) := fun l g o l' g' s H S r A e h D q => by
  replace e := mb_some e; obtain ⟨d, l1, g1, e1, e⟩ := e
  cases e
  exact he _ _ _ _ _ s H S r A e1 h _ fun v H1 S1 r1 A1 m1 h1 d1 => q _ H1 S1 r1 _ m1.set (h1.set ⟨rfl, v, rfl, d1⟩)
theorem x_asgV {v : M Vl} (he : EvV K te v) : ExS K (tAsg te (gName i)) (xAsgV i v) := fun l g o l' g' s H S r A e h D q => by
  replace e := mb_some e; obtain ⟨d, l1, g1, e1, e⟩ := e
  cases e
  refine he _ _ _ _ _ s H S r A e1 h _ fun v H1 S1 r1 A1 m1 h1 d1 => ?_
  cases d with
  | dat d => exact q _ H1 S1 r1 _ m1.set (h1.set ⟨rfl, v, rfl, d1⟩)
  | ref j => obtain ⟨a, e2, rfl⟩ := d1; exact q _ H1 S1 r1 _ m1.set (h1.set ⟨rfl, a, e2, rfl⟩)
  | no => cases d1
  | own ds => cases d1
  | dct ds => cases d1
  | dnk ds => cases d1
  | fn F => exact q _ H1 S1 r1 _ m1.set (h1.set ⟨rfl, v, rfl, d1⟩)
  | xt ds => exact q _ H1 S1 r1 _ m1.set (h1.set ⟨rfl, v, rfl, d1⟩)
  | os b ds => exact q _ H1 S1 r1 _ m1.set (h1.set ⟨rfl, v, rfl, d1⟩)
theorem x_if (ht : EvT K tt t) (h1 : ExS K tu x) (h2 : ExS K tv y) : ExS K (tIfS tt tu tv) (xIf t x y) := fun l g o l' g' s H S r A e h D q => by
  replace e := mb_some e; obtain ⟨c, l1, g1, e1, e⟩ := e
  refine ht _ _ _ _ _ s H S r A e1 h _ fun H1 S1 r1 A1 m1 h1' => ?_
  cases c with
  | true => exact h1 _ _ _ _ _ s H1 S1 r1 A1 e h1' D fun s2 H2 S2 r2 A2 m2 h2' => q s2 H2 S2 r2 A2 (m1.trans m2) h2'
  | false => exact h2 _ _ _ _ _ s H1 S1 r1 A1 e h1' D fun s2 H2 S2 r2 A2 m2 h2' => q s2 H2 S2 r2 A2 (m1.trans m2) h2'
theorem x_ret (he : EvS K te e0) : ExS K (tRet te) (xRet e0) := fun l g o l' g' s H S r A e h D q => by
  replace e := mb_some e; obtain ⟨d, l1, g1, e1, e⟩ := e
  obtain ⟨rfl, rfl, rfl⟩ := mp_some e
  exact he _ _ _ _ _ s H S r A e1 h _ fun v H1 S1 r1 A1 m1 h1 d1 => q s H1 S1 r1 A1 m1 h1 v d1
theorem x_drop (he : EvS K te e0) : ExS K (tDrop te) (xDrop e0) := fun l g o l' g' s H S r A e h D q => by
  replace e := mb_some e; obtain ⟨d, l1, g1, e1, e⟩ := e
  obtain ⟨rfl, rfl, rfl⟩ := mp_some e
  exact he _ _ _ _ _ s H S r A e1 h _ fun v H1 S1 r1 A1 m1 h1 d1 => q s H1 S1 r1 A1 m1 h1
theorem x_app (he : EvS K te e0) : ExS K (tDrop (tBM K "list" rAppend (tVar i) (tCons te tNil))) (xApp i e0) := fun l g o l' g' s H S r A e h D q => by
  replace e := mb_some e; obtain ⟨y0, l0, g0, e0, e⟩ := e
  replace e0 := mg_some e0; obtain ⟨e0, rfl, rfl⟩ := e0
  replace e := mb_some e; obtain ⟨d, l1, g1, e1, e⟩ := e
  obtain ⟨a, xs, q1, q2, q3, _⟩ := wr_ls h e0
  refine ⟨_, q1, .inl ⟨rfl, xs, .inl (.inl q2)⟩, he _ _ _ _ _ s H S r A e1 h _ fun v1 H1 S1 r1 A1 m1 h1 d1 => ?_⟩
  unfold appO at e
  split at e
  · rename_i ds hm
    split at e
    · rename_i hz
      cases e
      obtain ⟨a', xs, q4, q5, q6, q7⟩ := wr_ls h1 hm
      rw [q1] at q4
      cases q4
      obtain ⟨z1, z2⟩ := q7 _ _ (DpAll_app q6 (.cons d1 .nil))
      exact ⟨a, xs, v1, rfl, rfl, q5, szt (by rw [DpAll_len q6]; exact hz), q s _ S1 r1 A1 (m1.trans z2) z1⟩
    · cases e
  · cases e
theorem x_setI (hk : EvS K tb b) (he : EvS K te e0) : ExS K (tAsg te (gSub (tVar i) tb rSetL)) (xSetI i b e0) := fun l g o l' g' s H S r A e h D q => by
  replace e := mb_some e; obtain ⟨d, l1, g1, e1, e⟩ := e
  replace e := mb_some e; obtain ⟨y0, l0, g0, e0, e⟩ := e
  replace e0 := mg_some e0; obtain ⟨e0, rfl, rfl⟩ := e0
  replace e := mb_some e; obtain ⟨y, l2, g2, e2, e⟩ := e
  refine he _ _ _ _ _ s H S r A e1 h _ fun v1 H1 S1 r1 A1 m1 h1 d1 => ?_
  obtain ⟨a, xs, q1, q2, q3, _⟩ := wr_ls h1 e0
  refine ⟨_, q1, hk _ _ _ _ _ s H1 S1 r1 A1 e2 h1 _ fun v2 H2 S2 r2 A2 m2 h2 d2 => ?_⟩
  unfold setO at e
  split at e
  · rename_i ds n hm hn
    cases asI_some hn
    cases d2
    split at e
    · rename_i jj hj
      cases e
      obtain ⟨a', xs, q4, q5, q6, q7⟩ := wr_ls h2 hm
      rw [q1] at q4
      cases q4
      obtain ⟨z1, z2⟩ := q7 _ _ (DpAll_set (Dp_mono d1 m2.s) jj q6)
      exact ⟨a, xs, n, jj, rfl, rfl, q5, by rw [DpAll_len q6]; exact hj, q s _ S2 r2 A2 ((m1.trans m2).trans z2) z1⟩
    · cases e
  · cases e
def addI := iOp fun i j => .int (i + j)
theorem x_for {wi : TI} {it : M (List PyData)} {tg : TG} {gg : G} (hi : EvI K wi it) (hb : BdS K tg gg) (hx : ExS K tu x) : ExS K (tFor wi tg tu) (xFor it gg x) := fun l g o l' g' s H S r A e h D q => by
  replace e := mb_some e; obtain ⟨ds, l1, g1, e1, e⟩ := e
  refine hi _ _ _ _ _ s H S r A e1 h _ fun J H1 S1 r1 A1 m1 h1 w => ?_
  refine ⟨fun i m s' H' => m = ds.length - i ∧ i ≤ ds.length ∧ ∃ li gi Si ri Ai, StOk K li gi s' H' Si ri Ai ∧ Mv K S1 H1 r1 A1 Si H' ri Ai ∧ xForL gg x (ds.drop i) li gi = some (o, l', g'), ⟨ds.length, by simp, Nat.zero_le _, l1, g1, S1, r1, A1, h1, Mv.refl h1.hs, e⟩, ?_⟩
  rintro i m s' H' ⟨rfl, hle, li, gi, Si, ri, Ai, hst, mi, hrun⟩
  by_cases hlt : i < ds.length
  · refine .inr ⟨w.go i H' hlt (mi.s.trans hst.hs), fun s' H' => i + 1 ≤ ds.length ∧ ∃ li gi Si ri Ai, StOk K li gi s' H' Si ri Ai ∧ Mv K S1 H1 r1 A1 Si H' ri Ai ∧ xForL gg x (ds.drop (i + 1)) li gi = some (o, l', g'), fun s3 H3 ⟨q1, q2⟩ => ⟨ds.length - (i + 1), by omega, rfl, q1, q2⟩, fun v H3 y => ?_⟩
    have hdi : ds[i]? = some ds[i] := List.getElem?_eq_getElem hlt
    obtain ⟨S3, g3, d3⟩ := w.yld i H' v H3 ds[i] Si hdi mi.s hst.hs y
    have h3 := hst.grow g3
    have hdrop : ds.drop i = ds[i] :: ds.drop (i + 1) := List.drop_eq_getElem_cons hlt
    rw [hdrop] at hrun
    unfold xForL at hrun
    split at hrun
    · cases hrun
    · rename_i lb hlb
      refine hb _ _ _ _ s' H3 S3 ri Ai v _ hlb h3 d3 fun s4 H4 S4 A4 m4 h4 => ?_
      have m34 := (mi.trans (Mv.grow g3)).trans m4
      split at hrun
      · cases hrun
      · rename_i l2 g2 e2
        exact hx _ _ _ _ _ s4 H4 S4 ri A4 e2 h4 _ fun s5 H5 S5 r5 A5 m5 h5 => ⟨hlt, l2, g2, S5, r5, A5, h5, m34.trans m5, hrun⟩
      · rename_i l2 g2 e2
        exact hx _ _ _ _ _ s4 H4 S4 ri A4 e2 h4 _ fun s5 H5 S5 r5 A5 m5 h5 => ⟨hlt, l2, g2, S5, r5, A5, h5, m34.trans m5, hrun⟩
      · rename_i l2 g2 e2
        cases hrun
        exact hx _ _ _ _ _ s4 H4 S4 ri A4 e2 h4 _ fun s5 H5 S5 r5 A5 m5 h5 => q s5 H5 S5 r5 A5 (m1.trans (m34.trans m5)) h5
      · rename_i v l2 g2 e2
        cases hrun
        exact hx _ _ _ _ _ s4 H4 S4 ri A4 e2 h4 _ fun s5 H5 S5 r5 A5 m5 h5 => q s5 H5 S5 r5 A5 (m1.trans (m34.trans m5)) h5
  · have ei : i = ds.length := by omega
    subst ei
    rw [List.drop_length] at hrun
    obtain ⟨rfl, rfl, rfl⟩ := mp_some hrun
    exact .inl ⟨w.stop H' (mi.s.trans hst.hs), q s' H' Si ri Ai (m1.trans mi) hst⟩
theorem x_par (ha : EvS K ta a) (hb : EvS K tb b) : ExS K (tPar i j (tCons ta (tCons tb tNil))) (xPar i j a b) := fun l g o l' g' s H S r A e h D q => by
  replace e := mb_some e; obtain ⟨x, l1, g1, e1, e⟩ := e
  replace e := mb_some e; obtain ⟨y, l2, g2, e2, e⟩ := e
  cases e
  exact ha _ _ _ _ _ s H S r A e1 h _ fun v1 H1 S1 r1 A1 m1 h1 d1 => hb _ _ _ _ _ s H1 S1 r1 A1 e2 h1 _ fun v2 H2 S2 r2 A2 m2 h2 d2 => ⟨_, _, rfl, q _ H2 S2 r2 _ (m1.trans m2).set.set ((h2.setD (Dp_mono d1 m2.s)).setD d2)⟩
end

def fnS (n : Nat) (x : X) : FS := fun as g => match x (as ++ List.replicate (n - as.length) .no) g with
  | some (.ret v, _, g') => some (v, g')
  | some (.nx, _, g') => some (.dat .none, g')
  | _ => none
theorem start_ok {K : Kx} {S H : Hp} {r : List Addr} {g : Sg} {N : List Str} {vs : List V} {as : List Vl} (hs : Same S H) (so : StoOk K S H r g) (hv : VsOk K S r vs as) : StOk K (as ++ List.replicate (N.length - as.length) .no) g (start N vs) H S r (List.replicate (as ++ List.replicate (N.length - as.length) Vl.no).length none) := by
  have hl := paired_len hv
  have key : ∀ {vs : List V} {as : List Vl}, VsOk K S r vs as → ∀ (i : Nat) (x : Vl), as[i]? = some x → ∃ w, (vs.map some)[i]? = some (some w) ∧ SOk K S H r x none (some w) := by
    intro vs as h
    induction h with
    | nil => intro i x e; simp at e
    | @cons v a vs as hva _ ih =>
      intro i x e
      cases i with
      | zero =>
        simp at e
        subst e
        refine ⟨v, rfl, ?_⟩
        cases a with
        | dat d => exact ⟨rfl, v, rfl, hva⟩
        | ref j => obtain ⟨a, e1, rfl⟩ := hva; exact ⟨rfl, a, e1, rfl⟩
        | no => cases hva
        | own ds => cases hva
        | dct ds => cases hva
        | dnk ds => cases hva
        | fn F => exact ⟨rfl, v, rfl, hva⟩
        | xt ds => exact ⟨rfl, v, rfl, hva⟩
        | os b ds => exact ⟨rfl, v, rfl, hva⟩
      | succ i => simpa using ih i x (by simpa using e)
  refine ⟨hs, by simp, ?_, fun i x e => ?_, fun i j a e => ?_, fun a ha => ?_, so.1, so.2.1, so.2.2.1, so.2.2.2⟩
  · unfold L2.start
    simp [hl]
  · have hi : i < (as ++ List.replicate (N.length - as.length) Vl.no).length := (List.getElem?_eq_some_iff.mp e).1
    have hA : (List.replicate (as ++ List.replicate (N.length - as.length) Vl.no).length (none : Option Addr))[i]? = some none := by
      rw [List.getElem?_replicate, if_pos hi]
    by_cases hia : i < as.length
    · rw [List.getElem?_append_left hia] at e
      obtain ⟨w, e1, e2⟩ := key hv i x e
      refine ⟨none, some w, hA, ?_, e2⟩
      unfold L2.start
      rw [List.getElem?_append_left (by simp [hl]; exact hia)]
      exact e1
    · rw [List.getElem?_append_right (by omega), List.getElem?_replicate] at e
      split at e
      · rename_i hj
        cases e
        refine ⟨none, none, hA, ?_, rfl⟩
        unfold L2.start
        rw [List.getElem?_append_right (by simp [hl]; omega), List.getElem?_replicate, if_pos (by simp [hl]; exact hj)]
      · cases e
  · rw [List.getElem?_replicate] at e
    split at e <;> cases e
  · exact absurd (List.eq_of_mem_replicate ha) (by simp)
theorem run_fn {K : Kx} {ts : TS} {x : X} {N : List Str} {n m : Nat} {vs : List V} {H : Hp} {Q : VK} {E : XK} (hx : ExS K ts x) (hN : N.length = n) (h : spG K m (fnS n x) vs H Q E) : ts { nx := fun _ H' => Q .non H', rt := Q } (start N vs) H := by
  obtain ⟨S, r, g, as, v, g', hm, hs, so, hv, e, q⟩ := h
  subst hN
  have st := start_ok (N := N) hs so hv
  have tr0 : ∀ a, tr S H (List.replicate (as ++ List.replicate (N.length - as.length) Vl.no).length (none : Option Addr)) r a → inR S H r a := fun a z => z.elim (fun z => absurd (List.eq_of_mem_replicate z) (by simp)) id
  have gr : ∀ {S' H' : Hp} {r' : List Addr} {A' : List (Option Addr)} {l : Lo} {g : Sg} {s : L2.St}, Mv K S H r (List.replicate (as ++ List.replicate (N.length - as.length) Vl.no).length none) S' H' r' A' → StOk K l g s H' S' r' A' → GrowT (inR S H r) S H S' H' ∧ (∃ q, r' = r ++ q) ∧ (∀ a, a ∈ r' → a ∈ r ∨ H a = none) ∧ StoOk K S' H' r' g := fun m st' => by
    refine ⟨⟨m.s, m.h, fun a e1 e2 => ?_, fun a o hm e => m.k a o (fun z => hm (tr0 a z)) e, m.d, fun a ps e => ?_⟩, m.p, fun a ha => (m.f a (.inr (.inl ha))).elim (fun z => (tr0 a z).elim .inl fun z => absurd (m.t a z) (st'.apartR ha)) .inr, st'.rn, st'.lg, st'.st, st'.tb⟩
    by_cases ha : inR S H r a
    · rcases ha with ha | ha
      · obtain ⟨q, rfl⟩ := m.p
        exact (st'.thereR (List.mem_append_left _ ha)).2
      · exact (m.t a ha).1
    · exact m.n a e1 e2 fun z => ha (tr0 a z)
    · by_cases ht : S a = none
      · exact (m.t a ⟨ht, ps, e⟩).2
      · obtain ⟨u, hu⟩ := ne_some ht
        have e2 := hs a u hu
        rw [e] at e2
        cases e2
        exact ⟨ps, m.h a _ (m.s a _ hu)⟩
  unfold fnS at e
  split at e
  · rename_i v2 l2 g2 e2
    cases e
    refine hx _ _ _ _ _ _ H S r _ e2 st _ fun s' H' S' r' A' m' st' => ?_
    intro w hw
    obtain ⟨p1, p2, p3, p4⟩ := gr m' st'
    exact q w S' H' r' p1 p2 p3 p4 hw
  · rename_i l2 g2 e2
    cases e
    refine hx _ _ _ _ _ _ H S r _ e2 st _ fun s' H' S' r' A' m' st' => ?_
    obtain ⟨p1, p2, p3, p4⟩ := gr m' st'
    exact q .non S' H' r' p1 p2 p3 p4 .non
  · cases e
theorem spG_len {K : Kx} {n : Nat} {F : FS} {vs : List V} {H : Hp} {Q : VK} {E : XK} (h : spG K n F vs H Q E) : vs.length = n := by
  obtain ⟨S, r, g, as, v, g', hm, hs, so, hv, e, q⟩ := h
  rw [paired_len hv, hm]
end Sm

namespace Sm
open PySem PySem.Spec PyProof.Rows L2 RZ SrtO Dz

def intsO : List PyData → Option (List Int)
  | [] => some []
  | .int i :: r => (intsO r).map (i :: ·)
  | _ => none
theorem intsO_some : ∀ {ds : List PyData} {ns : List Int}, intsO ds = some ns → ds = ns.map .int
  | [], ns, h => by cases h; rfl
  | .int i :: r, ns, h => by
    obtain ⟨ms, e, rfl⟩ := Option.map_eq_some_iff.mp (show (intsO r).map (i :: ·) = some ns from h)
    rw [intsO_some e]; rfl
  | .none :: r, ns, h => by cases h
  | .bool _ :: r, ns, h => by cases h
  | .str _ :: r, ns, h => by cases h
  | .list _ :: r, ns, h => by cases h
  | .tuple _ :: r, ns, h => by cases h
  | .dict _ :: r, ns, h => by cases h
theorem intsO_map : ∀ ns : List Int, intsO (ns.map .int) = some ns
  | [] => rfl
  | n :: ns => by show (intsO (ns.map .int)).map (n :: ·) = _; rw [intsO_map ns]; rfl
def lenD : List PyData → Option PyData
  | [.list ds] => some (.int ds.length)
  | [.tuple ds] => some (.int ds.length)
  | _ => none
def tupleD : List PyData → Option PyData
  | [.list ds] => some (.tuple ds)
  | [.tuple ds] => some (.tuple ds)
  | _ => none
def absD : List PyData → Option PyData
  | [.int i] => some (.int (if i < 0 then -i else i))
  | _ => none
def ofInts (f : List Int → Option PyData) : List PyData → Option PyData
  | [.list ds] => (intsO ds).bind f
  | _ => none
def maxD := ofInts fun ns => if ns.isEmpty = true then none else some (.int (maxI ns))
section
variable {K : Kx} {ta te : TE} {a : M PyData}
theorem rc_len : RCO K (rLenK K) lenD := fun as c e => by
  unfold lenD at e
  split at e
  · cases e; exact rc_lenL
  · cases e; exact rc_lenT
  · cases e
theorem rc_tuple : RCO K (rTupleK K) tupleD := fun as c e => by
  unfold tupleD at e
  split at e
  · cases e; exact rc_tupleL
  · cases e; exact rc_tupleT
  · cases e
theorem rc_absD : RCO K (fun xs H Q => ∃ i, xs = [.int i] ∧ Q (.int (if i < 0 then -i else i)) H) absD := fun as c e => by
  unfold absD at e
  split at e
  · cases e; exact rc_abs
  · cases e
theorem ofInts_some {f : List Int → Option PyData} {as : List PyData} {c : PyData} (e : ofInts f as = some c) : ∃ ns, as = [.list (ns.map .int)] ∧ f ns = some c := by
  unfold ofInts at e
  split at e
  · obtain ⟨ns, e1, e2⟩ := Option.bind_eq_some_iff.mp e
    exact ⟨ns, by rw [intsO_some e1], e2⟩
  · cases e
theorem rc_maxD : RCO K (rMax K) maxD := fun as c e => by
  replace e := ofInts_some e; obtain ⟨ns, rfl, e⟩ := e
  split at e
  · cases e
  · rename_i h; cases e; exact rc_max fun z => h (by rw [z]; rfl)
end
def xNewL (i : Nat) (m : M (List PyData)) : X := mb m fun ds => fun l g => some (.nx, l.set i (.ref g.length), g ++ [.lst ds])
section
variable {K : Kx} {te : TE} {l : Lo} {g : Sg} {s : L2.St} {H S H0 S0 : Hp} {r r0 : List Addr} {A A0 : List (Option Addr)} {p : Addr} {o : Ob}
theorem StOk.newR (h : StOk K l g s H S r A) (ht : ¬ tr S H A r p) (sp : S p = none) (ok : ObOk K S H (r ++ [p]) p o) : StOk K l (g ++ [o]) s H S (r ++ [p]) A :=
  h.move (Same.refl S) h.hs (fun a ha => ⟨(h.thereA ha).2, fun u e => e⟩) ⟨[p], rfl⟩ (by
    rw [List.nodup_append]
    refine ⟨h.rn, by simp, fun a ha b hb => ?_⟩
    simp at hb
    subst hb
    intro z
    subst z
    exact ht (.inr (.inl ha))) (fun a ha z => by
    rcases List.mem_append.mp z with z | z
    · exact h.dr a ha z
    · simp at z
      subst z
      exact ht (.inl ha)) (by simp [h.lg]) (fun j a u e1 e2 => by
    by_cases hj : j < r.length
    · rw [List.getElem?_append_left hj] at e1
      rw [List.getElem?_append_left (by rw [← h.lg]; exact hj)] at e2
      obtain ⟨z1, z2⟩ := h.st j a u e1 e2
      exact ⟨z1, z2.go (Same.refl S) (.of fun _ z e => e) ⟨[p], rfl⟩⟩
    · have hj2 : j = r.length := by
        have := (List.getElem?_eq_some_iff.mp e1).1
        simp at this
        omega
      subst hj2
      rw [List.getElem?_append_right (Nat.le_refl _)] at e1
      rw [h.lg, List.getElem?_append_right (Nat.le_refl _)] at e2
      simp at e1 e2
      subst e1 e2
      exact ⟨sp, ok⟩) h.tb
theorem Mv.newR (h : Mv K S0 H0 r0 A0 S H r A) (hp : H0 p = none) : Mv K S0 H0 r0 A0 S H (r ++ [p]) A :=
  ⟨h.s, h.h, h.n, h.k, h.d, by obtain ⟨q, e⟩ := h.p; exact ⟨q ++ [p], by rw [e, List.append_assoc]⟩, fun a z => by
    rcases z with z | z
    · exact h.f a (.inl z)
    · rcases z with z | z
      · rcases List.mem_append.mp z with z | z
        · exact h.f a (.inr (.inl z))
        · simp at z
          subst z
          exact .inr hp
      · exact h.f a (.inr (.inr z)), h.t⟩
theorem x_newL {i : Nat} {m : M (List PyData)} (he : EvL K te m) : ExS K (tAsg te (gName i)) (xNewL i m) := fun l g o l' g' s H S r A e h D q => by
  replace e := mb_some e; obtain ⟨d, l1, g1, e1, e⟩ := e
  cases e
  refine he _ _ _ _ _ s H S r A e1 h _ fun p xs H1 S1 r1 A1 m1 h1 hp ht sp hx hd => ?_
  have h2 := h1.newR (o := .lst d) ht sp ⟨xs, hx, hd⟩
  refine q _ H1 S1 (r1 ++ [p]) _ (m1.newR hp).set (h2.set (y := .ref g1.length) ⟨rfl, p, ?_, rfl⟩)
  rw [← h1.lg, List.getElem?_append_right (Nat.le_refl _)]
  simp
end
def gA {α : Type} (vs zs : List α) : List α := vs ++ zs
def gL {α : Type} (ds vs zs : List α) : List α := vs ++ zs ++ ds
def gH {α : Type} (ds vs zs : List α) : List α := vs ++ ds ++ zs
section
variable {K : Kx}
theorem vs_app {S : Hp} {r : List Addr} {vs ws : List V} {as bs : List Vl} (h : VsOk K S r vs as) (h2 : VsOk K S r ws bs) : VsOk K S r (vs ++ ws) (as ++ bs) := by
  induction h with
  | nil => exact h2
  | cons hva _ ih => exact .cons hva ih
theorem dp_dats {S : Hp} {r : List Addr} {dv : List V} {ds : List PyData} (h : DpAll K S dv ds) : VsOk K S r dv (ds.map .dat) := by
  cases h with
  | nil => exact .nil
  | cons h1 h2 => exact .cons h1 (dp_dats h2)
theorem hg_A : ∀ S r vs zs as ks, VsOk K S r vs as → VsOk K S r zs ks → VsOk K S r (gA vs zs) (gA as ks) := fun _ _ _ _ _ _ h1 h2 => vs_app h1 h2
end
section
variable {K : Kx}
end
def ConAt (K : PySem.W.Frag) (x : Str) (i : Int) : Prop := ∃ t, PySem.W.nsIn K mainGlobals x = some (some (.int i t))
def QCon (mg : Str → Option Value) (x : Str) (i : Int) : Prop := ∃ t, mg x = some (.int i t)
theorem ConAt.q {K : PySem.W.Frag} {x : Str} {i : Int} {h : Heap} {mg : Str → Option Value} (c : ConAt K x i) (X : K.In h) (G : h.Ns mainGlobals mg) : QCon mg x i := by
  obtain ⟨t, q⟩ := c
  exact ⟨t, PySem.W.mg_of X G q⟩
noncomputable def justA (a : Addr) (H : Hp) : Hp := fun b => open Classical in if b = a then H b else none
theorem justA_same {a : Addr} {H : Hp} : Same (justA a H) H := fun b o e => by
  unfold justA at e
  split at e
  · exact e
  · cases e
def kTab (K : Kx) (a : Addr) : Prop := ∃ p ∈ K.T, p.1 = a
def spLaw (K : Kx) : Sp := fun vs H Q _ => ∃ (a : Addr) (ns : List Int), vs = [.ref a] ∧ SqL K H a (ns.map V.int) ∧ ns.length ≤ 63 ∧ (∀ b, kTab K b → H b = some (.tbl #[])) ∧ ∀ H', Q (.bl true) H'
theorem law_of {P : Program} {w : World} {K : Kx} {mg : Str → Option Value} {base : Heap} {k : Nat} {f : Addr} {fd : FuncData} {ps : List Str} {F : FS} (h : FnOk P w K mg base CX0 k f fd ps (spG K 1 F)) (hF : ∀ ns : List Int, ns.length ≤ 63 → ∃ g, F [.dat (.list (ns.map .int))] [] = some (.dat (.bool true), g)) : FnOk P w K mg base CX0 k f fd ps (spLaw K) :=
  h.imp fun vs H Q E ⟨a, ns, e, hS, hl, ht, q⟩ => by
    subst e
    obtain ⟨g, hg⟩ := hF ns hl
    have key : ∀ S : Hp, Same S H → SqL K S a (ns.map V.int) → (∀ c o, S c = some o → (∃ xs, o = .lst xs) ∨ ∃ ob xs, o = .frz ob (.lst xs)) → spG K 1 F [.ref a] H Q E := fun S hS2 hq hk => by
      have no : ∀ c ps, H c = some (.tbl ps) → S c = none := fun c ps e => by
        cases z : S c with
        | none => rfl
        | some o =>
          have e2 := hS2 c o z
          rw [e] at e2
          cases e2
          rcases hk c _ z with ⟨xs, z⟩ | ⟨ob, xs, z⟩ <;> cases z
      refine ⟨S, [], [], [.dat (.list (ns.map .int))], _, g, rfl, hS2, ⟨List.nodup_nil, rfl, fun j a o e => by simp at e, fun p hp => ⟨no _ _ (ht _ ⟨p, hp, rfl⟩), #[], ht _ ⟨p, hp, rfl⟩, True.intro, fun pos cv hc => ?_⟩, fun c q P hc => ?_⟩, .cons (.lst hq (DpAll_ints ns)) .nil, hg, fun w S' H' r' _ _ _ _ hw => ?_⟩
      · have z : codeAmong pos [] = some cv := hc
        simp [codeAmong] at z
      · rcases hk c _ hc with ⟨xs, z⟩ | ⟨ob, xs, z⟩ <;> cases z
      · cases hw
        exact q H'
    rcases hS with z | z
    · have at_ : justA a H a = H a := if_pos rfl
      refine key (justA a H) justA_same (.inl ?_) fun c o e => ?_
      · unfold Rd
        rw [at_]
        exact z
      · unfold justA at e
        split at e
        · rename_i hc
          subst hc
          rcases z with z | ⟨ob, z⟩
          · rw [z] at e; cases e; exact .inl ⟨_, rfl⟩
          · rw [z] at e; cases e; exact .inr ⟨_, _, rfl⟩
        · cases e
    · exact key (fun _ => none) (fun _ _ e => nomatch e) (.inr z) fun _ _ e => nomatch e
abbrev kX (P : Program) (w : World) (K : PySem.W.Frag) (mg : Str → Option Value) (base : Heap) (lv : Nat) (tb : List (Addr × Tag)) : Kx := ⟨P, w, K, mg, base, lv, tb⟩
end Sm

namespace Sm
open PySem PySem.Spec PyProof.Rows L2 RZ SrtO Dz
section
variable {K : Kx}
end
end Sm

namespace Sm
open PySem PySem.Spec PyProof.Rows L2 RZ SrtO Dz
section
variable {α β γ : Type}
def ob (o : Option (α × Lo × Sg)) (f : α → Lo → Sg → Option β) : Option β := match o with
  | none => none
  | some (a, l, g) => f a l g
def oo (o : Option α) (f : α → Option β) : Option β := match o with
  | none => none
  | some a => f a
def os (o : Option (Out × Lo × Sg)) (f : Lo → Sg → Option (Out × Lo × Sg)) : Option (Out × Lo × Sg) := match o with
  | none => none
  | some (.nx, l, g) => f l g
  | some (o, l, g) => some (o, l, g)
def ol (o : Option (Out × Lo × Sg)) (f : Lo → Sg → Option (Out × Lo × Sg)) : Option (Out × Lo × Sg) := match o with
  | none => none
  | some (.nx, l, g) => f l g
  | some (.ct, l, g) => f l g
  | some (.bk, l, g) => some (.nx, l, g)
  | some (.ret v, l, g) => some (.ret v, l, g)
def of (o : Option (Out × Lo × Sg)) : Option (Vl × Sg) := match o with
  | some (.ret v, _, g) => some (v, g)
  | some (.nx, _, g) => some (.dat .none, g)
  | _ => none
def oc (o : Option (Vl × Sg)) (f : Vl → Sg → Option β) : Option β := match o with
  | none => none
  | some (v, g) => f v g
theorem ob_some {a : α} {l : Lo} {g : Sg} {f : α → Lo → Sg → Option β} : ob (some (a, l, g)) f = f a l g := rfl
theorem oo_some {a : α} {f : α → Option β} : oo (some a) f = f a := rfl
theorem os_nx {l : Lo} {g : Sg} {f : Lo → Sg → Option (Out × Lo × Sg)} : os (some (.nx, l, g)) f = f l g := rfl
theorem ol_nx {l : Lo} {g : Sg} {f : Lo → Sg → Option (Out × Lo × Sg)} : ol (some (.nx, l, g)) f = f l g := rfl
theorem ol_ct {l : Lo} {g : Sg} {f : Lo → Sg → Option (Out × Lo × Sg)} : ol (some (.ct, l, g)) f = f l g := rfl
theorem ol_bk {l : Lo} {g : Sg} {f : Lo → Sg → Option (Out × Lo × Sg)} : ol (some (.bk, l, g)) f = some (.nx, l, g) := rfl
theorem ol_ret {v : Vl} {l : Lo} {g : Sg} {f : Lo → Sg → Option (Out × Lo × Sg)} : ol (some (.ret v, l, g)) f = some (.ret v, l, g) := rfl
theorem of_ret {v : Vl} {l : Lo} {g : Sg} : of (some (.ret v, l, g)) = some (v, g) := rfl
variable {l : Lo} {g : Sg} {i j k : Nat} {f f' : PyData → PyData → Option PyData} {a b c e : M PyData} {t u v : M Bool} {m m' : M (List PyData)}
theorem mb_ob {p : M α} {q : α → M β} : mb p q l g = ob (p l g) fun x l1 g1 => q x l1 g1 := by
  unfold mb ob
  rfl
theorem mo_at {o : Option α} : mo o l g = oo o fun x => some (x, l, g) := by unfold mo oo; rfl
theorem mg_at {p : Lo → Sg → Option α} : mg p l g = oo (p l g) fun x => some (x, l, g) := by unfold mg oo; rfl
theorem eVar_at : eVar i l g = oo (l[i]?) fun x => oo (asD x) fun d => some (d, l, g) := by
  unfold eVar oo asD
  cases h : l[i]? with
  | none => rfl
  | some x => cases x <;> rfl
theorem eOp_at : eOp f a b l g = ob (a l g) fun x l1 g1 => ob (b l1 g1) fun y l2 g2 => oo (f x y) fun z => some (z, l2, g2) := rfl
theorem aCons_at : aCons a m l g = ob (a l g) fun x l1 g1 => ob (m l1 g1) fun xs l2 g2 => some (x :: xs, l2, g2) := rfl
theorem eCB_at {f : List PyData → Option PyData} : eCB f m l g = ob (m l g) fun xs l1 g1 => oo (f xs) fun z => some (z, l1, g1) := rfl
theorem eL_at : eL m l g = ob (m l g) fun xs l1 g1 => some (.list xs, l1, g1) := rfl
theorem lLst_at : lLst m l g = ob (m l g) fun xs l1 g1 => if xs.length ≤ 4000000 then some (xs, l1, g1) else none := by
  unfold lLst mb ob
  cases m l g with
  | none => rfl
  | some x =>
    obtain ⟨xs, l1, g1⟩ := x
    show mo (smallO xs.length xs) l1 g1 = if xs.length ≤ 4000000 then some (xs, l1, g1) else none
    unfold smallO mo
    split <;> split <;> simp_all
theorem eIf_at : eIf t a b l g = ob (t l g) fun c l1 g1 => if c = true then a l1 g1 else b l1 g1 := by
  unfold eIf mb ob
  cases t l g with
  | none => rfl
  | some x => obtain ⟨c, l1, g1⟩ := x; cases c <;> rfl
theorem eNot_at : eNot a l g = ob (a l g) fun x l1 g1 => oo (truO x) fun c => some (.bool (!c), l1, g1) := by
  show ob (a l g) (fun x l1 g1 => mo ((truO x).map fun c => PyData.bool (!c)) l1 g1) = _
  refine congrArg (ob (a l g)) (funext fun x => funext fun l1 => funext fun g1 => ?_)
  cases h : truO x with
  | none => simp [mo, oo]
  | some c => simp [mo, oo]
theorem bTest_at : bTest a l g = ob (a l g) fun x l1 g1 => oo (asB x) fun z => some (z, l1, g1) := rfl
theorem bTru_at : bTru a l g = ob (a l g) fun x l1 g1 => oo (truO x) fun z => some (z, l1, g1) := rfl
theorem bNot_at : bNot t l g = ob (t l g) fun x l1 g1 => some (!x, l1, g1) := rfl
theorem bOr_at : bOr t u l g = ob (t l g) fun c l1 g1 => if c = true then some (true, l1, g1) else u l1 g1 := by
  unfold bOr mb ob
  cases t l g with
  | none => rfl
  | some x => obtain ⟨c, l1, g1⟩ := x; cases c <;> rfl
theorem oSome_at : oSome a l g = ob (a l g) fun x l1 g1 => oo (asI x) fun z => some (some z, l1, g1) := by
  show ob (a l g) (fun x l1 g1 => mb (mo (asI x)) (fun i => mp (some i)) l1 g1) = _
  refine congrArg (ob (a l g)) (funext fun x => funext fun l1 => funext fun g1 => ?_)
  cases h : asI x with
  | none => simp [mb, mo, oo]
  | some c => simp [mb, mo, oo, mp]
variable {lo hi : M (Option Int)}
theorem eIxV_at : eIxV i b l g = oo (lsV l g i) fun _ => ob (b l g) fun y l1 g1 => oo (lsV l1 g1 i) fun ds => oo (asI y) fun n => oo (atI ds n) fun d => some (d, l1, g1) := by
  show mb (mg fun l g => lsV l g i) (fun _ => mb b fun y => mg fun l g => (lsV l g i).bind fun ds => (asI y).bind fun k => atI ds k) l g = _
  rw [mb_ob, mg_at]
  cases h : lsV l g i with
  | none => rfl
  | some x =>
    show mb b _ l g = ob (b l g) _
    rw [mb_ob]
    refine congrArg (ob (b l g)) (funext fun y => funext fun l1 => funext fun g1 => ?_)
    rw [mg_at]
    cases h2 : lsV l1 g1 i with
    | none => simp [oo]
    | some ds =>
      cases h3 : asI y with
      | none => simp [oo]
      | some n => simp [oo]
theorem eLenV_at : eLenV i l g = oo (lsV l g i) fun ds => some (.int ds.length, l, g) := by
  cases h : lsV l g i <;> simp [eLenV, mg, oo, h]
theorem bTruV_at : bTruV i l g = oo (lsV l g i) fun ds => some (!ds.isEmpty, l, g) := by
  cases h : lsV l g i <;> simp [bTruV, mg, oo, h]
theorem ePopAt_at : ePopAt i b l g = oo (lsM l g i) fun _ => ob (b l g) fun y l1 g1 => popAtO i y l1 g1 := by
  show mb (mg fun l g => lsM l g i) (fun _ => mb b fun y => popAtO i y) l g = _
  rw [mb_ob, mg_at]
  cases h : lsM l g i with
  | none => rfl
  | some x => rfl
theorem iSq_at : iSq a l g = ob (a l g) fun x l1 g1 => oo (seqD x) fun z => some (z, l1, g1) := rfl
theorem rg1_at {x : PyData} : ((asI x).bind fun n => if rgO n = true then some (rng 0 n.toNat) else none) = oo (asI x) fun n => if rgO n = true then some (rng 0 n.toNat) else none := by cases asI x <;> rfl
theorem iRg1_at : iRg1 a l g = ob (a l g) fun x l1 g1 => oo (oo (asI x) fun n => if rgO n = true then some (rng 0 n.toNat) else none) fun z => some (z, l1, g1) := by
  show ob (a l g) (fun x l1 g1 => mo _ l1 g1) = _
  refine congrArg (ob (a l g)) (funext fun x => funext fun l1 => funext fun g1 => ?_)
  rw [mo_at, rg1_at]
def lcO (vs : List Nat) (tg : G) (t : M Bool) (e : M PyData) (ds : List PyData) (l : Lo) (g : Sg) : Option (List PyData × Lo × Sg) := if (plainAt vs l && decide (ds.length ≤ 4000000)) = true then lcL vs tg t e ds l g else none
theorem lLc_at {vs : List Nat} {tg : G} : lLc vs m tg t e l g = ob (m l g) fun ds l1 g1 => lcO vs tg t e ds l1 g1 := rfl
theorem eCall_at {F : FS} {q : M (List Vl)} : eCall F q l g = ob (q l g) fun xs l1 g1 => oc (F xs g1) fun v g2 => oo (asD v) fun d => some (d, l1, g2) := by
  cases hq : q l g with
  | none => simp [eCall, eD, vCall, mb, ob, hq]
  | some x =>
    obtain ⟨xs, l1, g1⟩ := x
    cases hF : F xs g1 with
    | none => simp [eCall, eD, vCall, mb, ob, oc, hq, hF]
    | some y => obtain ⟨v, g2⟩ := y; cases hv : asD v <;> simp [eCall, eD, vCall, mb, ob, oc, oo, mo, hq, hF, hv]
theorem vE_at : vE a l g = ob (a l g) fun d l1 g1 => some (.dat d, l1, g1) := rfl
def refO : Vl → Option Nat
  | .ref j => some j
  | _ => none
theorem vR_at : vR i l g = oo (l[i]?) fun x => oo (refO x) fun j => some (.ref j, l, g) := by
  cases h : l[i]? with
  | none => simp [vR, mg, oo, h]
  | some x => cases x <;> simp [vR, mg, oo, h, refO]
theorem vCons_at {x : M Vl} {q : M (List Vl)} : vCons x q l g = ob (x l g) fun y l1 g1 => ob (q l1 g1) fun ys l2 g2 => some (y :: ys, l2, g2) := rfl
variable {x y : X}
theorem xSeq_at : xSeq x y l g = os (x l g) fun l1 g1 => y l1 g1 := by
  unfold xSeq mb os
  cases x l g with
  | none => rfl
  | some o => obtain ⟨o, l1, g1⟩ := o; cases o <;> rfl
theorem xAsg_at : xAsg i e l g = ob (e l g) fun d l1 g1 => some (.nx, l1.set i (.dat d), g1) := rfl
theorem xNewL_at : xNewL i m l g = ob (m l g) fun ds l1 g1 => some (.nx, l1.set i (.ref g1.length), g1 ++ [.lst ds]) := rfl
theorem xIf_at : xIf t x y l g = ob (t l g) fun c l1 g1 => if c = true then x l1 g1 else y l1 g1 := by
  unfold xIf mb ob
  cases t l g with
  | none => rfl
  | some x => obtain ⟨c, l1, g1⟩ := x; cases c <;> rfl
theorem xRet_at : xRet e l g = ob (e l g) fun d l1 g1 => some (.ret (.dat d), l1, g1) := rfl
theorem xApp_at : xApp i e l g = oo (lsM l g i) fun _ => ob (e l g) fun d l1 g1 => appO i d l1 g1 := by
  show mb (mg fun l g => lsM l g i) (fun _ => mb e fun y => appO i y) l g = _
  rw [mb_ob, mg_at]
  cases h : lsM l g i with
  | none => rfl
  | some x => rfl
theorem xSetI_at {k : M PyData} : xSetI i k e l g = ob (e l g) fun d l1 g1 => oo (lsM l1 g1 i) fun _ => ob (k l1 g1) fun y l2 g2 => setO i y d l2 g2 := by
  show ob (e l g) (fun d l1 g1 => mb (mg fun l g => lsM l g i) (fun _ => mb k fun y => setO i y d) l1 g1) = _
  refine congrArg (ob (e l g)) (funext fun d => funext fun l1 => funext fun g1 => ?_)
  rw [mb_ob, mg_at]
  cases h : lsM l1 g1 i with
  | none => rfl
  | some x => rfl
theorem xFor_at {G : G} : xFor m G x l g = ob (m l g) fun ds l1 g1 => xForL G x ds l1 g1 := rfl
theorem xForL_cons {G : G} {d : PyData} {ds : List PyData} : xForL G x (d :: ds) l g = oo (G d l) fun l1 => ol (x l1 g) fun l2 g2 => xForL G x ds l2 g2 := by
  rw [xForL]
  cases h : G d l with
  | none => simp [oo, h]
  | some l1 =>
    cases hx : x l1 g with
    | none => simp [oo, ol, h, hx]
    | some o => obtain ⟨o, l2, g2⟩ := o; cases o <;> simp [oo, ol, h, hx]
theorem xPar_at : xPar i j a b l g = ob (a l g) fun x l1 g1 => ob (b l1 g1) fun y l2 g2 => some (.nx, (l2.set i (.dat x)).set j (.dat y), g2) := rfl
theorem fnS_at {n : Nat} {as : List Vl} : fnS n x as g = of (x (as ++ List.replicate (n - as.length) .no) g) := by
  unfold fnS of
  rfl
variable {d : PyData} {ds : List PyData} {G : G} {gs : Gs}
end
end Sm

namespace Sm
open PySem PySem.Spec PyProof.Rows L2 RZ SrtO Dz
theorem eqD_ii {i j : Int} : eqD (.int i) (.int j) = some (.bool (decide (i = j))) := by
  unfold eqD
  rw [if_pos ⟨rfl, rfl⟩]
  show some (PyData.bool (i == j)) = _
  rw [Bool.beq_eq_decide_eq]
theorem eqD_bb {i j : Bool} : eqD (.bool i) (.bool j) = some (.bool (decide (i = j))) := by
  unfold eqD
  rw [if_pos ⟨rfl, rfl⟩]
  cases i <;> cases j <;> rfl
theorem eqD_ss {i j : Str} : eqD (.str i) (.str j) = some (.bool (decide (i = j))) := by
  unfold eqD
  split
  · show some (PyData.bool (i == j)) = _
    rw [Bool.beq_eq_decide_eq]
  · rfl
theorem eqD_sh {a b : PyData} (h1 : SeqAt.shaped a = true) (h2 : SeqAt.shaped b = true) : eqD a b = some (.bool (PyData.eqv a b)) := by
  unfold eqD
  rw [if_pos ⟨h1, h2⟩]
theorem neD_of {a b : PyData} {c : Bool} (h : eqD a b = some (.bool c)) : neD a b = some (.bool (!c)) := by unfold neD; rw [h]; rfl
theorem neD_ii {i j : Int} : neD (.int i) (.int j) = some (.bool (!decide (i = j))) := neD_of eqD_ii
theorem neD_bb {i j : Bool} : neD (.bool i) (.bool j) = some (.bool (!decide (i = j))) := neD_of eqD_bb
theorem truO_b {b : Bool} : truO (.bool b) = some b := rfl
theorem maxD_i {ns : List Int} (h : ns ≠ []) : maxD [.list (ns.map .int)] = some (.int (maxI ns)) := by
  show (intsO (ns.map .int)).bind _ = _
  rw [intsO_map]
  show (if _ then _ else _) = _
  rw [if_neg (by cases ns with | nil => exact absurd rfl h | cons => simp)]
theorem backV_id {l l' : Lo} {vs : List Nat} (hl : l'.length = l.length) (h : ∀ j, j ∉ vs → l'[j]? = l[j]?) : backV l l' vs = l := by
  apply List.ext_getElem?
  intro j
  rw [backV_get]
  by_cases hj : j ∈ vs
  · rw [if_pos hj]
    by_cases hlt : j < l.length
    · rw [if_pos (by omega), List.getD_eq_getElem?_getD, List.getElem?_eq_getElem hlt]
      rfl
    · rw [if_neg (by omega), List.getElem?_eq_none (by omega)]
  · rw [if_neg hj]
    exact h j hj
theorem lcL_cons {vs : List Nat} {tg : G} {t : M Bool} {e : M PyData} {d : PyData} {ds : List PyData} {l : Lo} {g : Sg} : lcL vs tg t e (d :: ds) l g = oo (tg d (wipeV l vs)) fun l1 => ob (t l1 g) fun b l2 g2 => if b = true then ob (e l2 g2) fun y l3 g3 => ob (lcL vs tg t e ds (backV l l3 vs) g3) fun ys l4 g4 => some (y :: ys, l4, g4) else lcL vs tg t e ds (backV l l2 vs) g2 := by
  rw [lcL]
  cases h1 : tg d (wipeV l vs) with
  | none => simp [oo, h1]
  | some l1 =>
    cases h2 : t l1 g with
    | none => simp [oo, ob, h1, h2]
    | some b =>
      obtain ⟨b, l2, g2⟩ := b
      cases b with
      | false => simp [oo, ob, h1, h2]
      | true =>
        cases h3 : e l2 g2 with
        | none => simp [oo, ob, h1, h2, h3]
        | some y => simp [oo, ob, h1, h2, h3, mb, mp] <;> rfl
theorem lcO_of {vs : List Nat} {tg : G} {t : M Bool} {e : M PyData} {l : Lo} {g : Sg} {ds : List PyData} {r : List PyData × Lo × Sg} (hp : plainAt vs l = true) (hz : ds.length ≤ 4000000) (h : lcL vs tg t e ds l g = some r) : lcO vs tg t e ds l g = some r := by
  unfold lcO
  rw [if_pos (by rw [hp, decide_eq_true hz]; rfl), h]
theorem lcO_one {v : Nat} {t : M Bool} {e : M PyData} {l : Lo} {g : Sg} {α : Type} {xs : List α} {h : α → PyData} {q : α → Bool} {f : α → PyData} (hp : plainV (l.getD v .no) = true) (hz : xs.length ≤ 4000000)
    (ht : ∀ x ∈ xs, t (l.set v (.dat (h x))) g = some (q x, l.set v (.dat (h x)), g)) (he : ∀ x ∈ xs, q x = true → e (l.set v (.dat (h x))) g = some (f x, l.set v (.dat (h x)), g)) : lcO [v] (gNm v) t e (xs.map h) l g = some ((xs.filter q).map f, l, g) := by
  refine lcO_of (by unfold plainAt; rw [List.all_cons, hp]; rfl) (by simpa using hz) ?_
  have hb : ∀ x : Vl, backV l (l.set v x) [v] = l := fun x => backV_id (by simp) fun j hj => List.getElem?_set_ne fun z => hj (by simp [z])
  have hw : ∀ d, gNm v d (wipeV l [v]) = some (l.set v (.dat d)) := fun d => by
    show some ((l.set v .no).set v (.dat d)) = _
    rw [List.set_set]
  induction xs with
  | nil => rfl
  | cons x xs ih =>
    have ih := ih (by simp at hz; omega) (fun x hx => ht x (List.mem_cons_of_mem _ hx)) (fun x hx => he x (List.mem_cons_of_mem _ hx))
    rw [List.map_cons, lcL_cons, hw, oo_some, ht x List.mem_cons_self, ob_some]
    cases hq : q x with
    | true =>
      rw [if_pos rfl, he x List.mem_cons_self hq, ob_some, hb, ih, ob_some, List.filter_cons, if_pos hq]
      rfl
    | false => rw [if_neg Bool.false_ne_true, hb, ih, List.filter_cons, if_neg (by rw [hq]; exact Bool.false_ne_true)]
theorem lcO_map {v : Nat} {e : M PyData} {l : Lo} {g : Sg} {α : Type} {xs : List α} {h : α → PyData} {f : α → PyData} (hp : plainV (l.getD v .no) = true) (hz : xs.length ≤ 4000000)
    (he : ∀ x ∈ xs, e (l.set v (.dat (h x))) g = some (f x, l.set v (.dat (h x)), g)) : lcO [v] (gNm v) bYes e (xs.map h) l g = some (xs.map f, l, g) := by
  have := lcO_one (t := bYes) (q := fun _ => true) (f := f) (h := h) hp hz (fun x _ => rfl) (fun x hx _ => he x hx)
  rwa [List.filter_eq_self.mpr fun _ _ => rfl] at this
section
variable {β : Type} {l : Lo} {g : Sg} {i j : Nat} {ds es : List PyData} {f : Lo → Sg → β} {x : X}
def pk (o : Option Vl) (l : Lo) (g : Sg) (i : Nat) (ds : List PyData) (f : Lo → Sg → β) : β := match o with
  | some (.own _) => f (l.set i (.own ds)) g
  | some (.ref j) => f l (g.set j (.lst ds))
  | _ => f l g
end
section
variable {α : Type} {x y : α}
theorem c_rgO {n : Int} (h : n ≤ 4000000 ∧ -4000000 ≤ n) : rgO n = true := by unfold rgO; simp [h]
theorem atI_in {ds : List PyData} {k : Int} (h : 0 ≤ k) : atI ds k = ds[k.toNat]? := by
  unfold atI ixN
  rw [if_pos h]
  by_cases hk : k < ds.length
  · rw [if_pos hk]; rfl
  · rw [if_neg hk, List.getElem?_eq_none (by omega)]; rfl
theorem ixN_in {n : Nat} {k : Int} (h : 0 ≤ k ∧ k < n) : ixN n k = some k.toNat := by
  unfold ixN
  rw [if_pos h.1, if_pos h.2]
end
theorem seq_step {x y : X} {l l1 : Lo} {g g1 : Sg} {R : Option (Out × Lo × Sg)} (h : x l g = some (.nx, l1, g1)) (h2 : y l1 g1 = R) : xSeq x y l g = R := by
  rw [xSeq_at, h, os_nx]; exact h2
def Rt (x : X) (l : Lo) (g : Sg) (v : Vl) (g' : Sg) : Prop := ∃ l1, x l g = some (.ret v, l1, g')
theorem fn_ret {n : Nat} {x : X} {as : List Vl} {g g1 : Sg} {v : Vl} {l : Lo} (hl : as ++ List.replicate (n - as.length) .no = l) (h : Rt x l g v g1) : fnS n x as g = some (v, g1) := by
  obtain ⟨l1, h⟩ := h
  rw [fnS_at, hl, h, of_ret]
theorem rt_seq {x y : X} {l l1 : Lo} {g g1 g' : Sg} {v : Vl} (h : x l g = some (.nx, l1, g1)) (h2 : Rt y l1 g1 v g') : Rt (xSeq x y) l g v g' := by
  obtain ⟨l2, h2⟩ := h2
  exact ⟨l2, seq_step h h2⟩
theorem rt_ret {e : M PyData} {l l1 : Lo} {g g' : Sg} {d : PyData} (h : e l g = some (d, l1, g')) : Rt (xRet e) l g (.dat d) g' := ⟨l1, by rw [xRet_at, h, ob_some]⟩
theorem rt_is {x : X} {l : Lo} {g g1 g2 : Sg} {v w : Vl} (h : Rt x l g v g1) (e : v = w) (eg : g1 = g2) : Rt x l g w g2 := by subst e eg; exact h
end Sm

namespace Sm
open PySem PySem.Spec PyProof.Rows L2 RZ SrtO Dz
section
variable {α β : Type} {l l1 l2 l3 : Lo} {g g1 g2 g3 : Sg} {i j k : Nat} {f f' : PyData → PyData → Option PyData} {a b c e : M PyData} {t u v : M Bool} {m m' : M (List PyData)} {d d1 d2 d3 : PyData} {ds es : List PyData} {p q : Bool}
theorem eVar_ev (h : l[i]? = some (.dat d)) : eVar i l g = some (d, l, g) := by rw [eVar_at, h]; rfl
theorem eC_ev : eC d l g = some (d, l, g) := rfl
theorem eOp_ev (h1 : a l g = some (d1, l1, g1)) (h2 : b l1 g1 = some (d2, l2, g2)) (h3 : f d1 d2 = some d) : eOp f a b l g = some (d, l2, g2) := by rw [eOp_at, h1, ob_some, h2, ob_some, h3]; rfl
theorem aNil_ev : aNil l g = some ([], l, g) := rfl
theorem aCons_ev (h1 : a l g = some (d1, l1, g1)) (h2 : m l1 g1 = some (ds, l2, g2)) : aCons a m l g = some (d1 :: ds, l2, g2) := by rw [aCons_at, h1, ob_some, h2]; rfl
theorem eCB_ev {f : List PyData → Option PyData} (h1 : m l g = some (ds, l1, g1)) (h3 : f ds = some d) : eCB f m l g = some (d, l1, g1) := by rw [eCB_at, h1, ob_some, h3]; rfl
theorem eL_ev (h1 : m l g = some (ds, l1, g1)) : eL m l g = some (.list ds, l1, g1) := by rw [eL_at, h1]; rfl
theorem lLst_ev (h1 : m l g = some (ds, l1, g1)) (h : ds.length ≤ 4000000) : lLst m l g = some (ds, l1, g1) := by rw [lLst_at, h1, ob_some, if_pos h]
theorem eNot_ev (h : a l g = some (d1, l1, g1)) (ht : truO d1 = some p) : eNot a l g = some (.bool (!p), l1, g1) := by rw [eNot_at, h, ob_some, ht]; rfl
theorem bTest_ev (h : a l g = some (.bool p, l1, g1)) : bTest a l g = some (p, l1, g1) := by rw [bTest_at, h]; rfl
theorem bTru_ev (h : a l g = some (d1, l1, g1)) (ht : truO d1 = some p) : bTru a l g = some (p, l1, g1) := by rw [bTru_at, h, ob_some, ht]; rfl
theorem bNot_ev (h : t l g = some (p, l1, g1)) : bNot t l g = some (!p, l1, g1) := by rw [bNot_at, h]; rfl
theorem bOr_B (h : t l g = some (p, l1, g1)) (h2 : p = false → u l1 g1 = some (q, l1, g1)) : bOr t u l g = some (p || q, l1, g1) := by
  rw [bOr_at, h, ob_some]
  cases p with
  | true => rfl
  | false => rw [if_neg Bool.false_ne_true, h2 rfl]; rfl
theorem oSome_ev {n : Int} (h : a l g = some (.int n, l1, g1)) : oSome a l g = some (some n, l1, g1) := by rw [oSome_at, h]; rfl
variable {lo hi : M (Option Int)} {x y : Option Int}
theorem eIxV_ev {n : Int} (h0 : lsV l g i = some es) (h1 : b l g = some (.int n, l1, g1)) (h2 : lsV l1 g1 i = some ds) (h3 : atI ds n = some d) : eIxV i b l g = some (d, l1, g1) := by rw [eIxV_at, h0, oo_some, h1, ob_some, h2, oo_some]; show oo (atI ds n) _ = _; rw [h3]; rfl
theorem eLenV_ev (h : lsV l g i = some ds) : eLenV i l g = some (.int ds.length, l, g) := by rw [eLenV_at, h]; rfl
theorem bTruV_ev (h : lsV l g i = some ds) : bTruV i l g = some (!ds.isEmpty, l, g) := by rw [bTruV_at, h]; rfl
theorem ePopAt_ev {n : Int} (h0 : lsM l g i = some es) (h1 : b l g = some (.int n, l1, g1)) (h2 : lsM l1 g1 i = some ds) (h3 : seqIndex? n ds.length = some j) (hn : n < 2 ^ 62 ∧ -(2 ^ 62) < n) (h4 : ds[j]? = some d) : ePopAt i b l g = some (d, (ptV l1 g1 i (ds.eraseIdx j)).1, (ptV l1 g1 i (ds.eraseIdx j)).2) := by
  rw [ePopAt_at, h0, oo_some, h1, ob_some]
  unfold popAtO
  rw [h2]
  show (match seqIndex? n ds.length with | some j => _ | none => none) = _
  rw [h3]
  show (if _ then _ else _) = _
  rw [if_pos hn, h4]
theorem iSq_ev (h : a l g = some (d1, l1, g1)) (h2 : seqD d1 = some ds) : iSq a l g = some (ds, l1, g1) := by rw [iSq_at, h, ob_some, h2]; rfl
theorem iRg1_ev {n : Int} (h : a l g = some (.int n, l1, g1)) (hn : n ≤ 4000000 ∧ -4000000 ≤ n) : iRg1 a l g = some (rng 0 n.toNat, l1, g1) := by
  rw [iRg1_at, h, ob_some]
  show oo (if rgO n = true then _ else _) _ = _
  rw [if_pos (c_rgO hn)]; rfl
theorem lLc_ev {vs : List Nat} {tg : G} (h : m l g = some (ds, l1, g1)) (h2 : lcO vs tg t e ds l1 g1 = some (es, l2, g2)) : lLc vs m tg t e l g = some (es, l2, g2) := by rw [lLc_at, h, ob_some]; exact h2
variable {F : FS} {w z : M (List Vl)} {xs ys : List Vl} {s : Vl} {r : M Vl}
theorem eCall_ev (h1 : w l g = some (xs, l1, g1)) (h2 : F xs g1 = some (.dat d, g2)) : eCall F w l g = some (d, l1, g2) := by rw [eCall_at, h1, ob_some, h2]; rfl
theorem vE_ev (h : a l g = some (d, l1, g1)) : vE a l g = some (.dat d, l1, g1) := by rw [vE_at, h]; rfl
theorem vR_ev (h : l[i]? = some (.ref j)) : vR i l g = some (.ref j, l, g) := by rw [vR_at, h]; rfl
theorem vNil_ev : vNil l g = some ([], l, g) := rfl
theorem vCons_ev (h1 : r l g = some (s, l1, g1)) (h2 : w l1 g1 = some (xs, l2, g2)) : vCons r w l g = some (s :: xs, l2, g2) := by rw [vCons_at, h1, ob_some, h2]; rfl
variable {A B : Sm.X} {o : Out}
theorem xNext_ev : xNext l g = some (.nx, l, g) := rfl
theorem xAsg_ev (h : e l g = some (d, l1, g1)) : xAsg i e l g = some (.nx, l1.set i (.dat d), g1) := by rw [xAsg_at, h]; rfl
theorem xNewL_ev (h : m l g = some (ds, l1, g1)) : xNewL i m l g = some (.nx, l1.set i (.ref g1.length), g1 ++ [.lst ds]) := by rw [xNewL_at, h]; rfl
theorem xApp_ev (h0 : lsM l g i = some es) (h : e l g = some (d, l1, g1)) (h2 : lsM l1 g1 i = some ds) (hz : ds.length < 4000000) : xApp i e l g = some (.nx, (ptV l1 g1 i (ds ++ [d])).1, (ptV l1 g1 i (ds ++ [d])).2) := by
  rw [xApp_at, h0, oo_some, h, ob_some]
  unfold appO
  rw [h2]
  show (if _ then _ else _) = _
  rw [if_pos hz]
theorem xSetI_ev {n : Int} (h : e l g = some (d, l1, g1)) (h0 : lsM l1 g1 i = some es) (h1 : b l1 g1 = some (.int n, l2, g2)) (h2 : lsM l2 g2 i = some ds) (h3 : ixN ds.length n = some j) : xSetI i b e l g = some (.nx, (ptV l2 g2 i (ds.set j d)).1, (ptV l2 g2 i (ds.set j d)).2) := by
  rw [xSetI_at, h, ob_some, h0, oo_some, h1, ob_some]
  unfold setO
  rw [h2]
  show (match ixN ds.length n with | some j => _ | none => none) = _
  rw [h3]
theorem xFor_ev {G : G} (h : m l g = some (ds, l1, g1)) (h2 : xForL G A ds l1 g1 = some (o, l2, g2)) : xFor m G A l g = some (o, l2, g2) := by rw [xFor_at, h, ob_some]; exact h2
theorem xPar_ev (h1 : a l g = some (d1, l1, g1)) (h2 : b l1 g1 = some (d2, l2, g2)) : xPar i j a b l g = some (.nx, (l2.set i (.dat d1)).set j (.dat d2), g2) := by rw [xPar_at, h1, ob_some, h2]; rfl
end
theorem mulD_ev {i j : Int} (h : (-(2 ^ 64) < i ∧ i < 2 ^ 64) ∨ (-(2 ^ 64) < j ∧ j < 2 ^ 64)) : mulD (.int i) (.int j) = some (.int (i * j)) := by
  show (if _ then _ else _) = _
  rw [if_pos (by simpa using h)]
theorem modD_ev {i j : Int} (h : 0 < j) : modD (.int i) (.int j) = some (.int (i % j)) := by
  show (if _ then _ else _) = _
  rw [if_pos (by simpa using h)]
theorem fdivD_ev {i j : Int} (h : 0 < j ∧ j < 1073741824) : fdivD (.int i) (.int j) = some (.int (i / j)) := by
  show (if _ then _ else _) = _
  rw [if_pos (by simpa using h)]
theorem plusD_l {xs ys : List PyData} (h : xs.length + ys.length ≤ 4000000) : plusD (.list xs) (.list ys) = some (.list (xs ++ ys)) := by
  show (if _ then _ else _) = _
  rw [if_pos h]
theorem ixD_l {ds : List PyData} {k : Int} {d : PyData} (h0 : 0 ≤ k) (h : ds[k.toNat]? = some d) : ixD (.list ds) (.int k) = some d := by
  show atI ds k = _
  rw [atI_in h0, h]
theorem ixD_lN {ds : List PyData} {k : Nat} {d : PyData} (h : ds[k]? = some d) : ixD (.list ds) (.int (k : Int)) = some d := ixD_l (Int.natCast_nonneg k) (by simpa using h)
theorem atI_N {ds : List PyData} {k : Nat} {d : PyData} (h : ds[k]? = some d) : atI ds (k : Int) = some d := by rw [atI_in (Int.natCast_nonneg k)]; simpa using h
theorem plusD_ii {i j : Int} : plusD (.int i) (.int j) = some (.int (i + j)) := rfl
theorem subD_ii {i j : Int} : subD (.int i) (.int j) = some (.int (i - j)) := rfl
theorem addI_ii {i j : Int} : addI (.int i) (.int j) = some (.int (i + j)) := rfl
theorem ltD_ii {i j : Int} : ltD (.int i) (.int j) = some (.bool (decide (i < j))) := rfl
theorem gtD_ii {i j : Int} : gtD (.int i) (.int j) = some (.bool (decide (j < i))) := rfl
theorem atI_z {ds : List PyData} {d : PyData} (h : ds[0]? = some d) : atI ds 0 = some d := atI_N h
section
variable {α : Type} {l l1 l2 : Lo} {g g1 g2 : Sg} {a b : M PyData} {t u : M Bool} {p : Bool} {r : Option (PyData × Lo × Sg)} {rb : Option (Bool × Lo × Sg)} {rx : Option (Out × Lo × Sg)} {A B : X}
theorem cd_T {x y z : α} (h : p = true) (h2 : x = z) : cond p x y = z := by subst h; exact h2
theorem cd_F {x y z : α} (h : p = false) (h2 : y = z) : cond p x y = z := by subst h; exact h2
theorem eIf_D (h : t l g = some (p, l1, g1)) (h2 : cond p (a l1 g1) (b l1 g1) = r) : eIf t a b l g = r := by
  rw [eIf_at, h, ob_some, ← h2]
  cases p <;> rfl
theorem xIf_D (h : t l g = some (p, l1, g1)) (h2 : cond p (A l1 g1) (B l1 g1) = rx) : xIf t A B l g = rx := by
  rw [xIf_at, h, ob_some, ← h2]
  cases p <;> rfl
end
end Sm

namespace L2
open PySem PySem.Spec PyProof.Rows
section
variable {X : Cx}
end
end L2
namespace Sm
open PySem PySem.Spec PyProof.Rows L2 RZ Dz
def keyO : PyData → Option Key
  | .int i => some (.inl i)
  | .str x => some (.inr x)
  | _ => none
theorem keyO_some {d : PyData} {k : Key} (h : keyO d = some k) : d = keyD k := by
  unfold keyO at h
  split at h
  · cases h; rfl
  · cases h; rfl
  · cases h
section
variable {K : Kx} {l : Lo} {g : Sg} {s : L2.St} {H S : Hp} {r : List Addr} {A : List (Option Addr)} {i : Nat} {kvs : List (Key × PyData)}
end
def lDnew : M (List (Key × PyData)) := mp []
section
variable {K : Kx} {ta tb tc : TE} {a b c : M PyData} {i : Nat}
theorem s_dnew : EvC K tDNewK lDnew := fun l g d l' g' s H S r A e h Q q => by
  obtain ⟨rfl, rfl, rfl⟩ := mp_some e
  intro p hp
  have gr : Grow m0 S H S (upd H p (.dK [])) := Grow.out h.hs hp
  exact q p [] _ S r A (Mv.grow gr) (h.grow gr) hp (fun z => (h.there (tr_upd z)).1 hp) (h.hs.free hp) upd_same .nil
end
section
variable {K : Kx} {l : Lo} {g : Sg} {s : L2.St} {H S : Hp} {r : List Addr} {A : List (Option Addr)} {i : Nat}
theorem StOk.drop (h : StOk K l g s H S r A) : StOk K (l.set i .no) g s H S r (A.set i none) :=
  ⟨h.hs, by rw [List.length_set, List.length_set]; exact h.la, by rw [List.length_set]; exact h.ls, fun j z e => by
    by_cases hij : i = j
    · subst hij
      have hl : i < l.length := by
        have := (List.getElem?_eq_some_iff.mp e).1
        rwa [List.length_set] at this
      rw [List.getElem?_set_self hl] at e
      cases e
      obtain ⟨o, v, e1, e2, e3⟩ := h.ok i _ (List.getElem?_eq_getElem hl)
      exact ⟨none, v, List.getElem?_set_self (by rw [h.la]; exact hl), e2, rfl⟩
    · rw [List.getElem?_set_ne hij] at e ⊢
      exact h.ok j z e, fun j k a e1 e2 => by
    have key : ∀ m : Nat, (A.set i none)[m]? = some (some a) → A[m]? = some (some a) := fun m e => by
      by_cases him : i = m
      · subst him
        have hl : i < A.length := by
          have := (List.getElem?_eq_some_iff.mp e).1
          rwa [List.length_set] at this
        rw [List.getElem?_set_self hl] at e
        cases e
      · rw [List.getElem?_set_ne him] at e
        exact e
    exact h.ij j k a (key j e1) (key k e2), fun a ha => by
    rcases List.mem_or_eq_of_mem_set ha with q | q
    · exact h.dr a q
    · exact absurd q (by simp), h.rn, h.lg, h.st, h.tb⟩
theorem kn_del {o : Addr} {od : Obj} {ws : List (Key × V)} {xs : List (NestedKey × Addr × Value)} {kvs : List (NestedKey × PyData)} (h : S o = some (.frz od (.dK ws))) (q : KnD K S xs kvs) : KnD K (zdel S o) xs kvs := Paired.mapP q fun _ _ z => ⟨z.1, ⟨z.2.1.1, dp_del h _ _ z.2.1.2⟩, let ⟨v, r, d⟩ := z.2.2; ⟨v, r, dp_del h _ _ d⟩⟩
theorem fv_del {o : Addr} {od : Obj} {ws : List (Key × V)} {x : Fv} {v : V} (h : S o = some (.frz od (.dK ws))) (q : FvOk K S r x v) : FvOk K (zdel S o) r x v := by
  cases x with
  | dat d => exact dp_del h _ _ q
  | ref j => exact q
theorem SOk.del {o : Addr} {od : Obj} {ws : List (Key × V)} {x : Vl} {oa : Option Addr} {w : Option V} {H' : Hp} (hS : S o = some (.frz od (.dK ws))) (na : ∀ a, oa = some a → a ≠ o) (hk : ∀ a u, a ≠ o → H a = some u → H' a = some u) (q : SOk K S H r x oa w) : SOk K (zdel S o) H' r x oa w := by
  cases x with
  | no => exact q
  | dat d => obtain ⟨e1, v, e2, e3⟩ := q; exact ⟨e1, v, e2, dp_del hS _ _ e3⟩
  | own ds => obtain ⟨a, e1, e2, e3, xs, e4, e5⟩ := q; exact ⟨a, e1, e2, by rw [zdel_ne (na a e1)]; exact e3, xs, hk _ _ (na a e1) e4, dpAll_del hS _ _ e5⟩
  | dct ds => obtain ⟨a, e1, e2, e3, xs, e4, e5⟩ := q; exact ⟨a, e1, e2, by rw [zdel_ne (na a e1)]; exact e3, xs, hk _ _ (na a e1) e4, kv_del hS e5⟩
  | dnk ds => obtain ⟨a, e1, e2, e3, xs, e4, e5⟩ := q; exact ⟨a, e1, e2, by rw [zdel_ne (na a e1)]; exact e3, xs, hk _ _ (na a e1) e4, kn_del hS e5⟩
  | ref j => exact q
  | fn F =>
    obtain ⟨e1, v, e2, f, P, e3, e4, e5⟩ := q
    exact ⟨e1, v, e2, f, P, e3, e5.thaw S (Dz.zdel S o) o od ws hS (fun a ha => Dz.zdel_ne ha) Dz.zdel_same e4, e5⟩
  | xt ds =>
    obtain ⟨e1, v, e2, a, o', xs, e3, e4, e5, e6, e7⟩ := q
    have na : a ≠ o := fun z => by rw [z, hS] at e4; cases e4
    exact ⟨e1, v, e2, a, o', xs, e3, by rw [zdel_ne na]; exact e4, e5, e6, dpAll_del hS _ _ e7⟩
  | os b ds =>
    obtain ⟨e1, v, e2, a, ys, e3, e4, e5⟩ := q
    have na : a ≠ o := fun z => by rw [z, hS] at e4; split at e4 <;> cases e4
    refine ⟨e1, v, e2, a, ys, e3, by rw [zdel_ne na]; exact e4, Paired.mapP e5 fun y x z => ?_⟩
    cases x with
    | ref j => exact z
    | pr d j =>
      obtain ⟨t, w, a, f0, f1, f2, f3⟩ := z
      exact ⟨t, w, a, f0, by rw [zdel_ne fun z => by rw [z, hS] at f1; cases f1]; exact f1, dp_del hS _ _ f2, f3⟩
theorem StOk.thaw {o : Addr} {od : Obj} {ws : List (Key × V)} (h : StOk K l g s H S r A) (hS : S o = some (.frz od (.dK ws))) : StOk K l g s (upd H o (.dK ws)) (zdel S o) r A := by
  have nt : ∀ a, tr S H A r a → a ≠ o := fun a ha z => by
    have := (h.there ha).2
    rw [z, hS] at this
    cases this
  have hk : ∀ a u, a ≠ o → H a = some u → upd H o (.dK ws) a = some u := fun a u ha hu => by rw [upd_ne ha]; exact hu
  refine ⟨fun a u hu => ?_, h.la, h.ls, fun j z e => ?_, h.ij, h.dr, h.rn, h.lg, fun j a ob e1 e2 => ?_, fun p hp => ?_, fun c q P hc => ?_⟩
  · have ha : a ≠ o := fun z => by rw [z, zdel_same] at hu; cases hu
    rw [zdel_ne ha] at hu
    exact hk a u ha (h.hs a u hu)
  · obtain ⟨oa, v, e1, e2, e3⟩ := h.ok j z e
    exact ⟨oa, v, e1, e2, e3.del hS (fun a ea => nt a (.inl (by rw [← ea]; exact List.mem_of_getElem? e1))) hk⟩
  · have ha := nt a (.inr (.inl (List.mem_of_getElem? e1)))
    obtain ⟨q1, q2⟩ := h.st j a ob e1 e2
    refine ⟨by rw [zdel_ne ha]; exact q1, ?_⟩
    cases ob with
    | lst ds => obtain ⟨xs, p1, p2⟩ := q2; exact ⟨xs, hk _ _ ha p1, dpAll_del hS _ _ p2⟩
    | dct ds => obtain ⟨xs, p1, p2⟩ := q2; exact ⟨xs, hk _ _ ha p1, kv_del hS p2⟩
    | dnk ds => obtain ⟨xs, p1, p2⟩ := q2; exact ⟨xs, hk _ _ ha p1, kn_del hS p2⟩
    | ins C fs =>
      obtain ⟨cls, dx, vs, p0, p1, p2, p3⟩ := q2
      have hdx : dx ≠ o := fun z => by rw [z, h.hs _ _ hS] at p2; cases p2
      exact ⟨cls, dx, vs, p0, hk _ _ ha p1, hk _ _ hdx p2, Paired.mapP p3 fun _ _ q => ⟨q.1, fv_del hS q.2⟩⟩
  · obtain ⟨p1, ps, p2, p3, p4⟩ := h.tb.st p hp
    have ha : p.1 ≠ o := fun z => by rw [z, h.hs _ _ hS] at p2; cases p2
    refine ⟨by rw [zdel_ne ha]; exact p1, ps, hk _ _ ha p2, p3, fun pos cv hc => ?_⟩
    obtain ⟨c, P, c1, c2⟩ := p4 pos cv hc
    exact ⟨c, P, c1, by rw [zdel_ne fun z => by rw [z, hS] at c2; cases c2]; exact c2⟩
  · have hco : c ≠ o := fun z => by rw [z, zdel_same] at hc; cases hc
    rw [zdel_ne hco] at hc
    obtain ⟨n1, n2, n3, n4, ps, n5, n6, n7⟩ := h.tb.ne c q P hc
    have hP : P ≠ o := fun z => by rw [z, h.hs _ _ hS] at n5; cases n5
    refine ⟨n1, n2, n3, by rw [zdel_ne hP]; exact n4, ps, hk _ _ hP n5, n6, fun pos cv hcv => ?_⟩
    obtain ⟨c2, q1, oc, q2, q3⟩ := n7 pos cv hcv
    exact ⟨c2, q1, oc, by rw [zdel_ne fun z => by rw [z, hS] at q2; cases q2]; exact q2, q3⟩
end
section
variable {K : Kx} {tt : TT} {te : TE} {t : M Bool} {e0 : M PyData} {tg : TG} {gg : G} {vs : List Nat} {i j : Nat}
end
section
variable {K : Kx} {tt : TT} {tk te : TE} {t : M Bool} {k0 e0 : M PyData} {wi : TI} {it : M (List PyData)} {tg : TG} {gg : G} {vs : List Nat}
end
inductive NAll (K : Kx) (S H : Hp) (r : List Addr) : List V → List Vl → List (Option Addr) → Prop
  | nil : NAll K S H r [] [] []
  | cons {v : V} {x : Vl} {o : Option Addr} {vs : List V} {xs : List Vl} {os : List (Option Addr)} : SOk K S H r x o (some v) → NAll K S H r vs xs os → NAll K S H r (v :: vs) (x :: xs) (o :: os)
theorem NAll.go {K : Kx} {S H S1 H1 : Hp} {r r1 : List Addr} {vs : List V} {xs : List Vl} {os : List (Option Addr)} (h : NAll K S H r vs xs os) (hs : Same S S1) (hk : ∀ a, some a ∈ os → S1 a = none ∧ ∀ u, H a = some u → H1 a = some u) (hr : ∃ q, r1 = r ++ q) : NAll K S1 H1 r1 vs xs os := by
  induction h with
  | nil => exact .nil
  | cons h1 _ ih => exact .cons (h1.go hs (fun a ea => hk a (by rw [ea]; exact List.mem_cons_self)) hr) (ih fun a ha => hk a (List.mem_cons_of_mem _ ha))
section
variable {K : Kx} {te : TE} {ta : TA} {m : M (List Vl)}
theorem NAll.len {S H : Hp} {r : List Addr} {vs : List V} {xs : List Vl} {os : List (Option Addr)} (h : NAll K S H r vs xs os) : vs.length = xs.length := by
  induction h with
  | nil => rfl
  | cons _ _ ih => simp [ih]
end
end Sm

namespace Sm
open PySem PySem.Spec PyProof.Rows L2 RZ SrtO Dz
section
variable {l l1 l2 l3 : Lo} {g g1 g2 g3 : Sg} {i j n : Nat} {a b c e : M PyData} {t : M Bool} {m : M (List PyData)} {w : M (List Vl)} {d d1 d2 d3 y x z : PyData} {ds es : List PyData} {p q : Bool} {kvs kvs0 : List (Key × PyData)} {k : Key} {vs : List Nat} {tg : G} {xs : List Vl}
theorem keyO_i {v : Int} : keyO (.int v) = some (.inl v) := rfl
theorem mb_ev {α β : Type} {A : M α} {f : α → M β} {v : α} {r : Option (β × Lo × Sg)} (h : A l g = some (v, l1, g1)) (h2 : f v l1 g1 = r) : mb A f l g = r := by unfold mb; rw [h]; exact h2
theorem mg_ev {α : Type} {f : Lo → Sg → Option α} {v : α} (h : f l g = some v) : mg f l g = some (v, l, g) := by unfold mg; rw [h]
end
end Sm

namespace Sm
open PySem PySem.Spec PyProof.Rows L2 RZ SrtO Dz
def iWipe (vs : List Nat) (it : M (List PyData)) : M (List PyData) := mb it fun ds => fun l g => some (ds, wipeV l vs, g)
def xKeep (vs : List Nat) (x : X) : X := mb x fun o => fun l g => some (o, wipeV l vs, g)
section
variable {K : Kx} {l : Lo} {g : Sg} {s : L2.St} {H S H1 S1 : Hp} {r r1 : List Addr} {A A1 : List (Option Addr)} {vs : List Nat}
theorem StOk.forget (h : StOk K l g s H S r A) : StOk K (wipeV l vs) g s H S r (cutA A vs) :=
  ⟨h.hs, by rw [cutA_len, wipeV_len]; exact h.la, by rw [wipeV_len]; exact h.ls, fun j x e => by
    rw [wipeV_get] at e
    rw [cutA_get]
    by_cases hj : j ∈ vs
    · rw [if_pos hj] at e ⊢
      split at e
      · rename_i hl
        cases e
        obtain ⟨o, v, e1, e2, e3⟩ := h.ok j _ (List.getElem?_eq_getElem hl)
        exact ⟨none, v, by rw [if_pos (by rw [h.la]; exact hl)], e2, rfl⟩
      · cases e
    · rw [if_neg hj] at e ⊢
      exact h.ok j x e, fun i j a e1 e2 => h.ij i j a (cutA_some e1) (cutA_some e2), fun a ha => h.dr a (cutA_mem ha), h.rn, h.lg, h.st, h.tb⟩
theorem s_iwipe {wi : TI} {it : M (List PyData)} (hi : EvI K wi it) : EvI K wi (iWipe vs it) := fun l g d l' g' s H S r A e h R q => by
  replace e := mb_some e; obtain ⟨ds, l1, g1, e1, e⟩ := e
  cases e
  exact hi _ _ _ _ _ s H S r A e1 h _ fun J H1 S1 r1 A1 m1 h1 w => q J H1 S1 r1 _ m1.cut h1.forget w
theorem x_keep {tu : TS} {x : X} (hx : ExS K tu x) : ExS K tu (xKeep vs x) := fun l g o l' g' s H S r A e h D q => by
  replace e := mb_some e; obtain ⟨o1, l1, g1, e1, e⟩ := e
  cases e
  exact hx _ _ _ _ _ s H S r A e1 h D fun s2 H2 S2 r2 A2 m2 h2 => q s2 H2 S2 r2 _ m2.cut h2.forget
end
def Wp {α : Type} (m : M α) (l : Lo) (g : Sg) (Q : α → Lo → Sg → Prop) : Prop := ∃ a l' g', m l g = some (a, l', g') ∧ Q a l' g'
def Has {α : Type} (o : Option α) (Q : α → Prop) : Prop := ∃ a, o = some a ∧ Q a
def Br (p : Bool) (A B : Prop) : Prop := (p = true → A) ∧ (p = false → B)
def FOk (F : FS) (as : List Vl) (g : Sg) (Q : Vl → Sg → Prop) : Prop := ∃ v g', F as g = some (v, g') ∧ Q v g'
inductive SetR : Lo → Nat → Vl → Lo → Prop
  | z {x v : Vl} {l : Lo} : SetR (x :: l) 0 v (v :: l)
  | s {x v : Vl} {l l' : Lo} {i : Nat} (h : SetR l i v l') : SetR (x :: l) (i + 1) v (x :: l')
theorem SetR.eq {l l' : Lo} {i : Nat} {v : Vl} (h : SetR l i v l') : l' = l.set i v := by
  induction h with
  | z => rfl
  | s _ ih => rw [List.set_cons_succ, ih]
section
variable {α β : Type} {l l1 l2 l3 : Lo} {g g1 g2 g3 : Sg} {i j k : Nat} {p : Bool} {P R : Prop}
theorem br_T (h : p = true) (a : P) : Br p P R := ⟨fun _ => a, fun z => by rw [h] at z; cases z⟩
theorem br_F (h : p = false) (a : R) : Br p P R := ⟨fun z => by (rw [h] at z; cases z), fun _ => a⟩
section
variable {l l1 l2 l3 l4 l5 l6 : Lo} {g : Sg} {i j k m : Nat} {x y z u : PyData} {v vx vy vz vu : Vl} {ds es : List PyData} {kvs : List (Key × PyData)} {kk : Key} {n n' a b c d : Int}
theorem ex_set {Q : Lo → Prop} (h : SetR l i v l1) (q : Q l1) : ∃ l2, SetR l i v l2 ∧ Q l2 := ⟨l1, h, q⟩
theorem ex_rng {Q : Int → Prop} (h : n ≤ a ∧ b ≤ n) (q : Q n) : ∃ n', PyData.int n = .int n' ∧ (n' ≤ a ∧ b ≤ n') ∧ Q n' := ⟨n, rfl, h, q⟩
theorem ex_bool {p : Bool} {Q : Bool → Prop} (q : Q p) : ∃ p', PyData.bool p = .bool p' ∧ Q p' := ⟨p, rfl, q⟩
theorem ex_int {Q : Int → Prop} (q : Q n) : ∃ n', PyData.int n = .int n' ∧ Q n' := ⟨n, rfl, q⟩
theorem ex_dat {Q : PyData → Prop} (q : Q x) : ∃ y, Vl.dat x = .dat y ∧ Q y := ⟨x, rfl, q⟩
theorem ex_par {Q : Lo → Prop} (h : SetR l i v l1) (h2 : SetR l1 j vx l2) (q : Q l2) : ∃ l3 l4, SetR l i v l3 ∧ SetR l3 j vx l4 ∧ Q l4 := ⟨l1, l2, h, h2, q⟩
theorem ex_and1 {p p' c : Bool} {R : Bool → Prop} {Q : Bool → Prop} (h2 : p = c → R p') (q : Q p') : ∃ p2, (p = c → R p2) ∧ Q p2 := ⟨p', h2, q⟩
end
theorem and_le {a b : Nat} (h : a ≤ b) (q : P) : a ≤ b ∧ P := ⟨h, q⟩
theorem and_bk {l0 l1 l2 : Lo} {vs : List Nat} (h : backV l0 l1 vs = l2) (q : P) : backV l0 l1 vs = l2 ∧ P := ⟨h, q⟩
theorem has_of {o : Option α} {a : α} {Q : α → Prop} (h : o = some a) (q : Q a) : Has o Q := ⟨a, h, q⟩
theorem fok_eq {F : FS} {as : List Vl} {v : Vl} {Q : Vl → Sg → Prop} (h : F as g = some (v, g1)) (q : Q v g1) : FOk F as g Q := ⟨v, g1, h, q⟩
theorem fok_mono {F : FS} {as : List Vl} {Q Q' : Vl → Sg → Prop} (h : FOk F as g Q) (q : ∀ v g', Q v g' → Q' v g') : FOk F as g Q' := by
  obtain ⟨v, g', e, hq⟩ := h
  exact ⟨v, g', e, q v g' hq⟩
theorem fok_is {F : FS} {as : List Vl} {v : Vl} (h : FOk F as g fun v' g' => v' = v ∧ g' = g1) : F as g = some (v, g1) := by
  obtain ⟨v', g', e, rfl, rfl⟩ := h
  exact e
theorem wp_eq {m : M α} {Q : α → Lo → Sg → Prop} {a : α} (h : m l g = some (a, l1, g1)) (q : Q a l1 g1) : Wp m l g Q := ⟨a, l1, g1, h, q⟩
theorem wp_is {m : M α} {a : α} (h : Wp m l g fun a' l' g' => a' = a ∧ l' = l1 ∧ g' = g1) : m l g = some (a, l1, g1) := by
  obtain ⟨a', l', g', e, rfl, rfl, rfl⟩ := h
  exact e
theorem wp_mono {m : M α} {Q Q' : α → Lo → Sg → Prop} (h : Wp m l g Q) (q : ∀ a l' g', Q a l' g' → Q' a l' g') : Wp m l g Q' := by
  obtain ⟨a, l', g', e, hq⟩ := h
  exact ⟨a, l', g', e, q a l' g' hq⟩
theorem wp_mb {m : M α} {f : α → M β} {Q : β → Lo → Sg → Prop} (h : Wp m l g fun a l1 g1 => Wp (f a) l1 g1 Q) : Wp (mb m f) l g Q := by
  obtain ⟨a, l1, g1, e, b, l2, g2, e2, q⟩ := h
  exact ⟨b, l2, g2, by unfold mb; rw [e]; exact e2, q⟩
theorem wp_mp {a : α} {Q : α → Lo → Sg → Prop} (q : Q a l g) : Wp (mp a) l g Q := ⟨a, l, g, rfl, q⟩
theorem wp_mo {o : Option α} {Q : α → Lo → Sg → Prop} (h : Has o fun a => Q a l g) : Wp (mo o) l g Q := by
  obtain ⟨a, e, q⟩ := h
  exact ⟨a, l, g, by unfold mo; rw [e], q⟩
theorem wp_mg {f : Lo → Sg → Option α} {Q : α → Lo → Sg → Prop} (h : Has (f l g) fun a => Q a l g) : Wp (mg f) l g Q := by
  obtain ⟨a, e, q⟩ := h
  exact ⟨a, l, g, mg_ev e, q⟩
variable {a b c e : M PyData} {t u v : M Bool} {m m' : M (List PyData)} {d : PyData} {ds : List PyData} {f f' : PyData → PyData → Option PyData}
section
variable {Q : PyData → Lo → Sg → Prop}
theorem wp_eVar (h : l[i]? = some (.dat d)) (q : Q d l g) : Wp (eVar i) l g Q := wp_eq (eVar_ev h) q
theorem wp_eC (q : Q d l g) : Wp (eC d) l g Q := wp_eq eC_ev q
theorem wp_eOp (h : Wp a l g fun x l1 g1 => Wp b l1 g1 fun y l2 g2 => Has (f x y) fun z => Q z l2 g2) : Wp (eOp f a b) l g Q := wp_mb (wp_mono h fun _ _ _ h => wp_mb (wp_mono h fun _ _ _ h => wp_mo h))
theorem wp_eCB {f : List PyData → Option PyData} (h : Wp m l g fun x l1 g1 => Has (f x) fun z => Q z l1 g1) : Wp (eCB f m) l g Q := wp_mb (wp_mono h fun _ _ _ h => wp_mo h)
theorem wp_eTup (h : Wp m l g fun xs l1 g1 => xs.length ≤ 4000000 ∧ Q (.tuple xs) l1 g1) : Wp (eTup m) l g Q := wp_mb (wp_mono h fun _ _ _ h => wp_mo ⟨_, if_pos h.1, h.2⟩)
theorem wp_eL (h : Wp m l g fun xs l1 g1 => Q (.list xs) l1 g1) : Wp (eL m) l g Q := wp_mb (wp_mono h fun _ _ _ h => wp_mp h)
theorem wp_ite {A B : M α} {Q : α → Lo → Sg → Prop} (h : Br p (Wp A l g Q) (Wp B l g Q)) : Wp (if p = true then A else B) l g Q := by
  cases p with
  | true => rw [if_pos rfl]; exact h.1 rfl
  | false => rw [if_neg Bool.false_ne_true]; exact h.2 rfl
theorem wp_eNot (h : Wp a l g fun x l1 g1 => Has (truO x) fun p => Q (.bool (!p)) l1 g1) : Wp (eNot a) l g Q := by
  obtain ⟨x, l1, g1, e, p, hp, q⟩ := h
  exact ⟨_, l1, g1, eNot_ev e hp, q⟩
theorem wp_eIsN (h : Wp a l g fun x l1 g1 => Q (.bool (isN x)) l1 g1) : Wp (eIsN a) l g Q := wp_mb (wp_mono h fun _ _ _ h => wp_mp h)
theorem wp_eNotN (h : Wp a l g fun x l1 g1 => Q (.bool (!isN x)) l1 g1) : Wp (eNotN a) l g Q := wp_mb (wp_mono h fun _ _ _ h => wp_mp h)
theorem wp_eSl {lo hi : M (Option Int)} (h : Wp a l g fun x l1 g1 => Wp lo l1 g1 fun i l2 g2 => Wp hi l2 g2 fun j l3 g3 => Has (slD x i j) fun z => Q z l3 g3) : Wp (eSl a lo hi) l g Q := wp_mb (wp_mono h fun _ _ _ h => wp_mb (wp_mono h fun _ _ _ h => wp_mb (wp_mono h fun _ _ _ h => wp_mo h)))
theorem wp_eCall {F : FS} {w : M (List Vl)} (h : Wp w l g fun xs l1 g1 => FOk F xs g1 fun v g2 => ∃ d, v = .dat d ∧ Q d l1 g2) : Wp (eCall F w) l g Q := by
  obtain ⟨xs, l1, g1, e, v, g2, e2, d, rfl, q⟩ := h
  exact ⟨d, l1, g2, eCall_ev e e2, q⟩
end
section
variable {Q : List Vl → Lo → Sg → Prop}
theorem wp_vNil (q : Q [] l g) : Wp vNil l g Q := wp_mp q
theorem wp_vE {w : M (List Vl)} (h : Wp a l g fun d l1 g1 => Wp w l1 g1 fun xs l2 g2 => Q (.dat d :: xs) l2 g2) : Wp (vCons (vE a) w) l g Q := wp_mb (wp_mb (wp_mono h fun _ _ _ h => wp_mp (wp_mb (wp_mono h fun _ _ _ h => wp_mp h))))
theorem wp_vR {w : M (List Vl)} (h0 : l[i]? = some (.ref j)) (h : Wp w l g fun xs l2 g2 => Q (.ref j :: xs) l2 g2) : Wp (vCons (vR i) w) l g Q := by
  obtain ⟨xs, l2, g2, e, q⟩ := h
  exact ⟨_, l2, g2, vCons_ev (vR_ev h0) e, q⟩
end
section
variable {Q : List PyData → Lo → Sg → Prop}
theorem wp_aNil (q : Q [] l g) : Wp aNil l g Q := wp_mp q
theorem wp_aCons (h : Wp a l g fun x l1 g1 => Wp m l1 g1 fun xs l2 g2 => Q (x :: xs) l2 g2) : Wp (aCons a m) l g Q := wp_mb (wp_mono h fun _ _ _ h => wp_mb (wp_mono h fun _ _ _ h => wp_mp h))
theorem wp_lLst (h : Wp m l g fun xs l1 g1 => xs.length ≤ 4000000 ∧ Q xs l1 g1) : Wp (lLst m) l g Q := wp_mb (wp_mono h fun _ _ _ h => wp_mo ⟨_, if_pos h.1, h.2⟩)
theorem wp_iSq (h : Wp a l g fun x l1 g1 => Has (seqD x) fun ds => Q ds l1 g1) : Wp (iSq a) l g Q := wp_mb (wp_mono h fun _ _ _ h => wp_mo h)
theorem wp_iRg1 (h : Wp a l g fun x l1 g1 => ∃ n, x = .int n ∧ (n ≤ 4000000 ∧ -4000000 ≤ n) ∧ Q (rng 0 n.toNat) l1 g1) : Wp (iRg1 a) l g Q := by
  obtain ⟨x, l1, g1, e, n, rfl, hn, q⟩ := h
  exact ⟨_, l1, g1, iRg1_ev e hn, q⟩
theorem wp_iWipe {vs : List Nat} (h : Wp m l g fun ds l1 g1 => Q ds (wipeV l1 vs) g1) : Wp (iWipe vs m) l g Q := by
  obtain ⟨ds, l1, g1, e, q⟩ := h
  exact ⟨ds, wipeV l1 vs, g1, by unfold iWipe mb; rw [e], q⟩
def LcW (vs : List Nat) (tg : G) (t : M Bool) (e : M PyData) (ds : List PyData) (l : Lo) (g : Sg) (Q : List PyData → Lo → Sg → Prop) : Prop := ∃ es l' g', lcO vs tg t e ds l g = some (es, l', g') ∧ Q es l' g'
theorem wp_lLc {vs : List Nat} {tg : G} (h : Wp m l g fun ds l1 g1 => LcW vs tg t e ds l1 g1 Q) : Wp (lLc vs m tg t e) l g Q := by
  obtain ⟨ds, l1, g1, e1, es, l2, g2, e2, q⟩ := h
  exact ⟨es, l2, g2, lLc_ev e1 e2, q⟩
end
section
variable {Q : Bool → Lo → Sg → Prop}
theorem wp_bYes (q : Q true l g) : Wp bYes l g Q := wp_mp q
theorem wp_bTest (h : Wp a l g fun x l1 g1 => ∃ p, x = .bool p ∧ Q p l1 g1) : Wp (bTest a) l g Q := by
  obtain ⟨x, l1, g1, e, p, rfl, q⟩ := h
  exact ⟨p, l1, g1, bTest_ev e, q⟩
theorem wp_bTru (h : Wp a l g fun x l1 g1 => Has (truO x) fun p => Q p l1 g1) : Wp (bTru a) l g Q := wp_mb (wp_mono h fun _ _ _ h => wp_mo h)
theorem wp_bNot (h : Wp t l g fun p l1 g1 => Q (!p) l1 g1) : Wp (bNot t) l g Q := wp_mb (wp_mono h fun _ _ _ h => wp_mp h)
theorem wp_bAnd (h : Wp t l g fun p l1 g1 => Br p (Wp u l1 g1 Q) (Q false l1 g1)) : Wp (bAnd t u) l g Q := wp_mb (wp_mono h fun _ _ _ h => wp_ite ⟨h.1, fun z => wp_mp (h.2 z)⟩)
theorem wp_bOr (h : Wp t l g fun p l1 g1 => Br p (Q true l1 g1) (Wp u l1 g1 Q)) : Wp (bOr t u) l g Q := wp_mb (wp_mono h fun _ _ _ h => wp_ite ⟨fun z => wp_mp (h.1 z), h.2⟩)
theorem wp_bOrB (h : Wp t l g fun p l1 g1 => ∃ q, (p = false → Wp u l1 g1 fun y l2 g2 => y = q ∧ l2 = l1 ∧ g2 = g1) ∧ Q (p || q) l1 g1) : Wp (bOr t u) l g Q := by
  obtain ⟨p, l1, g1, e, q, h, hq⟩ := h
  exact ⟨_, l1, g1, bOr_B e fun z => wp_is (h z), hq⟩
end
section
variable {Q : Option Int → Lo → Sg → Prop}
theorem wp_oNone (q : Q none l g) : Wp oNone l g Q := wp_mp q
theorem wp_oSome (h : Wp a l g fun x l1 g1 => ∃ n, x = .int n ∧ Q (some n) l1 g1) : Wp (oSome a) l g Q := by
  obtain ⟨x, l1, g1, e, n, rfl, q⟩ := h
  exact ⟨_, l1, g1, oSome_ev e, q⟩
end
section
variable {Q : List (Key × PyData) → Lo → Sg → Prop}
theorem wp_lDnew (q : Q [] l g) : Wp lDnew l g Q := wp_mp q
end
def seqK (B : X) (Q : Out → Lo → Sg → Prop) : Out → Lo → Sg → Prop
  | .nx, l, g => Wp B l g Q
  | o, l, g => Q o l g
def retK (Q : Vl → Sg → Prop) : Out → Lo → Sg → Prop
  | .ret v, _, g => Q v g
  | .nx, _, g => Q (.dat .none) g
  | _, _, _ => False
def bodyK (N : Lo → Sg → Prop) (Q : Out → Lo → Sg → Prop) : Out → Lo → Sg → Prop
  | .nx, l, g => N l g
  | .ct, l, g => N l g
  | .bk, l, g => Q .nx l g
  | .ret v, l, g => Q (.ret v) l g
section
variable {Q : Out → Lo → Sg → Prop} {A B : Sm.X} {o : Out} {N : Lo → Sg → Prop} {w : Vl}
theorem seqK_nx (h : Wp B l g Q) : seqK B Q .nx l g := h
theorem seqK_ret (h : Q (.ret w) l g) : seqK B Q (.ret w) l g := h
theorem retK_ret {Q : Vl → Sg → Prop} (h : Q w g) : retK Q (.ret w) l g := h
theorem retK_nx {Q : Vl → Sg → Prop} (h : Q (.dat .none) g) : retK Q .nx l g := h
theorem bodyK_nx (h : N l g) : bodyK N Q .nx l g := h
theorem wp_seq (h : Wp A l g (seqK B Q)) : Wp (xSeq A B) l g Q := by
  refine wp_mb (wp_mono h fun o l1 g1 h => ?_)
  cases o with
  | nx => exact h
  | bk => exact wp_mp h
  | ct => exact wp_mp h
  | ret w => exact wp_mp h
theorem wp_next (h : Q .nx l g) : Wp xNext l g Q := wp_mp h
theorem wp_asg (h : Wp e l g fun d l1 g1 => ∃ l2, SetR l1 i (.dat d) l2 ∧ Q .nx l2 g1) : Wp (xAsg i e) l g Q := by
  obtain ⟨d, l1, g1, e1, l2, hs, q⟩ := h
  exact ⟨_, l2, g1, by rw [hs.eq]; exact xAsg_ev e1, q⟩
theorem wp_newL (h : Wp m l g fun ds l1 g1 => ∃ l2, SetR l1 i (.ref g1.length) l2 ∧ Q .nx l2 (g1 ++ [.lst ds])) : Wp (xNewL i m) l g Q := by
  obtain ⟨d, l1, g1, e1, l2, hs, q⟩ := h
  exact ⟨_, l2, _, by rw [hs.eq]; exact xNewL_ev e1, q⟩
theorem wp_if (h : Wp t l g fun p l1 g1 => Br p (Wp A l1 g1 Q) (Wp B l1 g1 Q)) : Wp (xIf t A B) l g Q := wp_mb (wp_mono h fun _ _ _ h => wp_ite h)
theorem wp_ret (h : Wp e l g fun d l1 g1 => Q (.ret (.dat d)) l1 g1) : Wp (xRet e) l g Q := wp_mb (wp_mono h fun _ _ _ h => wp_mp h)
theorem wp_drop (h : Wp e l g fun _ l1 g1 => Q .nx l1 g1) : Wp (xDrop e) l g Q := wp_mb (wp_mono h fun _ _ _ h => wp_mp h)
theorem wp_par (h : Wp a l g fun x l1 g1 => Wp b l1 g1 fun y l2 g2 => ∃ l3 l4, SetR l2 i (.dat x) l3 ∧ SetR l3 j (.dat y) l4 ∧ Q .nx l4 g2) : Wp (xPar i j a b) l g Q := by
  obtain ⟨x, l1, g1, e1, y, l2, g2, e2, l3, l4, s1, s2, q⟩ := h
  exact ⟨_, l4, g2, by rw [s2.eq, s1.eq]; exact xPar_ev e1 e2, q⟩
section
variable {Q : List Vl → Lo → Sg → Prop} {ww : M (List Vl)}
end
theorem wp_keep {vs : List Nat} (h : Wp A l g fun o l1 g1 => Q o (wipeV l1 vs) g1) : Wp (xKeep vs A) l g Q := by
  obtain ⟨o, l1, g1, e, q⟩ := h
  exact ⟨o, wipeV l1 vs, g1, by unfold xKeep mb; rw [e], q⟩
theorem wp_for {G : G} (h : Wp m l g fun ds l1 g1 => Wp (xForL G A ds) l1 g1 Q) : Wp (xFor m G A) l g Q := by
  obtain ⟨ds, l1, g1, e, o, l2, g2, e2, q⟩ := h
  exact ⟨o, l2, g2, xFor_ev e e2, q⟩
theorem wp_forNil {G : G} (h : Q .nx l g) : Wp (xForL G A []) l g Q := ⟨.nx, l, g, rfl, h⟩
theorem wp_forCons {G : G} (h : Has (G d l) fun l1 => Wp A l1 g (bodyK (fun l g => Wp (xForL G A ds) l g Q) Q)) : Wp (xForL G A (d :: ds)) l g Q := by
  obtain ⟨l1, e1, o, l2, g2, e2, q⟩ := h
  unfold Wp
  rw [xForL_cons, e1, oo_some, e2]
  cases o with
  | nx => rw [ol_nx]; exact q
  | ct => rw [ol_ct]; exact q
  | bk => rw [ol_bk]; exact ⟨_, _, _, rfl, q⟩
  | ret v => rw [ol_ret]; exact ⟨_, _, _, rfl, q⟩
theorem wp_forI {G : G} (I : Nat → Lo → Sg → Prop) (h0 : I 0 l g) (hs : ∀ i d l g, ds[i]? = some d → I i l g → Has (G d l) fun l1 => Wp A l1 g (bodyK (I (i + 1)) Q)) (hq : ∀ l g, I ds.length l g → Q .nx l g) : Wp (xForL G A ds) l g Q := by
  have key : ∀ (n i : Nat) l g, n = ds.length - i → i ≤ ds.length → I i l g → Wp (xForL G A (ds.drop i)) l g Q := by
    intro n
    induction n with
    | zero =>
      intro i l g hn hi hI
      have : i = ds.length := by omega
      subst this
      rw [List.drop_length]
      exact wp_forNil (hq l g hI)
    | succ n ih =>
      intro i l g hn hi hI
      have hlt : i < ds.length := by omega
      rw [List.drop_eq_getElem_cons hlt]
      refine wp_forCons ((hs i ds[i] l g (List.getElem?_eq_getElem hlt) hI).imp fun l1 h => ⟨h.1, wp_mono h.2 fun o l2 g2 h => ?_⟩)
      cases o with
      | nx => exact ih (i + 1) l2 g2 (by omega) hlt h
      | ct => exact ih (i + 1) l2 g2 (by omega) hlt h
      | bk => exact h
      | ret v => exact h
  simpa using key ds.length 0 l g (by omega) (Nat.zero_le _) h0
end
theorem fok_fn {n : Nat} {x : X} {as : List Vl} {Q : Vl → Sg → Prop} (hl : as ++ List.replicate (n - as.length) .no = l) (h : Wp x l g (retK Q)) : FOk (fnS n x) as g Q := by
  obtain ⟨o, l1, g1, e, q⟩ := h
  unfold FOk fnS
  rw [hl, e]
  cases o with
  | ret v => exact ⟨v, g1, rfl, q⟩
  | nx => exact ⟨_, g1, rfl, q⟩
  | bk => exact q.elim
  | ct => exact q.elim
theorem hasG_nm {Q : Lo → Prop} (hs : SetR l i (.dat d) l1) (q : Q l1) : Has (gNm i d l) Q := ⟨l1, by rw [hs.eq]; rfl, q⟩
theorem hasG_tp {n : Nat} {gs : Gs} {Q : Lo → Prop} (hd : d = .tuple ds) (hn : ds.length = n) (h : Has (gs ds l) Q) : Has (gTp n gs d l) Q := by
  subst hd hn
  obtain ⟨l1, e, q⟩ := h
  exact ⟨l1, by show (if ds.length = ds.length then gs ds l else none) = _; rw [if_pos rfl, e], q⟩
theorem hasG_nil {Q : Lo → Prop} (q : Q l) : Has (gsNil [] l) Q := ⟨l, rfl, q⟩
theorem hasG_cons {G : G} {gs : Gs} {Q : Lo → Prop} (h : Has (G d l) fun l1 => Has (gs ds l1) Q) : Has (gsCons G gs (d :: ds) l) Q := by
  obtain ⟨l1, e1, l2, e2, q⟩ := h
  exact ⟨l2, by show (G d l).bind _ = _; rw [e1]; exact e2, q⟩
theorem lcw_pure {vs : List Nat} {tg : G} {Q : List PyData → Lo → Sg → Prop} {l0 : Lo} {xs : List α} (h : α → PyData) (q : α → Bool) (f : α → PyData) (hd : ds = xs.map h) (hp : plainAt vs l = true) (hz : xs.length ≤ 4000000) (hw : wipeV l vs = l0)
    (he : ∀ x ∈ xs, Has (tg (h x) l0) fun l1 => backV l l1 vs = l ∧ Wp t l1 g fun p l2 g2 => (p = q x ∧ l2 = l1 ∧ g2 = g) ∧ (q x = true → Wp e l1 g fun y l3 g3 => y = f x ∧ l3 = l1 ∧ g3 = g))
    (hq : Q ((xs.filter q).map f) l g) : LcW vs tg t e ds l g Q := by
  subst hd hw
  refine ⟨_, l, g, lcO_of hp (by rw [List.length_map]; exact hz) ?_, hq⟩
  clear hq hz
  induction xs with
  | nil => rfl
  | cons x xs ih =>
    obtain ⟨l1, e1, e2, p, l2, g2, e3, ⟨rfl, rfl, rfl⟩, e4⟩ := he x List.mem_cons_self
    have ih := ih fun y hy => he y (List.mem_cons_of_mem _ hy)
    rw [List.map_cons, lcL_cons, e1, oo_some, e3, ob_some]
    by_cases hx : q x = true
    · obtain ⟨y, l3, g3, e5, rfl, rfl, rfl⟩ := e4 hx
      rw [if_pos hx, e5, ob_some, e2, ih, ob_some, List.filter_cons_of_pos hx, List.map_cons]
    · rw [if_neg hx, e2, ih, List.filter_cons_of_neg hx]
theorem lcw_map {vs : List Nat} {tg : G} {Q : List PyData → Lo → Sg → Prop} {l0 : Lo} {xs : List α} (h : α → PyData) (f : α → PyData) (hd : ds = xs.map h) (hp : plainAt vs l = true) (hz : xs.length ≤ 4000000) (hw : wipeV l vs = l0)
    (he : ∀ x ∈ xs, Has (tg (h x) l0) fun l1 => backV l l1 vs = l ∧ Wp e l1 g fun y l3 g3 => y = f x ∧ l3 = l1 ∧ g3 = g)
    (hq : Q (xs.map f) l g) : LcW vs tg bYes e ds l g Q :=
  lcw_pure h (fun _ => true) f hd hp hz hw (fun x hx => (he x hx).imp fun l1 hh => ⟨hh.1, hh.2.1, wp_bYes ⟨⟨rfl, rfl, rfl⟩, fun _ => hh.2.2⟩⟩) (by rw [List.filter_eq_self.mpr fun _ _ => rfl]; exact hq)
end
end Sm

namespace Sm
open PySem PySem.Spec PyProof.Rows L2 RZ SrtO Dz
section
variable {K : Kx} {ta : TE} {a : M PyData}
end
section
variable {K : Kx} {tt : TT} {te : TE} {t : M Bool} {e0 : M PyData} {wi : TI} {it : M (List PyData)} {tg : TG} {gg : G} {vs : List Nat} {w : World} {ta : TE} {a : M PyData} {m : M (List Int)}
end
section
variable {l : Lo} {g : Sg} {a : M PyData} {m : M (List Int)} {Q : List PyData → Lo → Sg → Prop}
end
end Sm

namespace Dz
open PySem PySem.SeqAt PyProof.Rows L2 RZ
section
variable {X : Cx} {K : Kx}
theorem k_indexD (K : Kx) (hu : X.A.units + 65 < cLine) (h : X.K = K := by rfl) : MtR X "list.index" (rIndexD K) := h ▸ mt_indexD hu
end
end Dz
namespace Sm
open PySem PySem.Spec PyProof.Rows L2 RZ SrtO Dz
section
variable {K : Kx} {l : Lo} {g : Sg} {s : L2.St} {H S H0 S0 : Hp} {r r0 : List Addr} {A A0 : List (Option Addr)} {p : Addr} {o : HO}
end
section
variable {K : Kx} {tk tv ta tb : TE} {k v a b : M PyData}
def firstIx (d : PyData) : Nat → List PyData → Option Nat
  | _, [] => none
  | i, z :: r => if PyData.eqv z d = true then some i else firstIx d (i + 1) r
theorem firstIx_some {d : PyData} : ∀ {ds : List PyData} {i j : Nat}, firstIx d i ds = some j → i ≤ j ∧ ∃ z, ds[j - i]? = some z ∧ PyData.eqv z d = true ∧ ∀ (m : Nat) (z' : PyData), m < j - i → ds[m]? = some z' → PyData.eqv z' d = false
  | [], i, j, h => by cases h
  | y :: r, i, j, h => by
    unfold firstIx at h
    by_cases hy : PyData.eqv y d = true
    · rw [if_pos hy] at h
      cases h
      exact ⟨Nat.le_refl _, y, by simp, hy, fun m z' hm => by omega⟩
    · rw [if_neg hy] at h
      obtain ⟨h1, z, h2, h3, h4⟩ := firstIx_some h
      have e : j - i = (j - (i + 1)) + 1 := by omega
      refine ⟨by omega, z, by rw [e]; simpa using h2, h3, fun m z' hm hz => ?_⟩
      cases m with
      | zero => simp at hz; subst hz; simpa using hy
      | succ m => exact h4 m z' (by omega) (by simpa using hz)
def indexD (a b : PyData) : Option PyData := match a with
  | .list ds => if SeqAt.shaped (.list ds) = true ∧ SeqAt.shaped b = true then (firstIx b 0 ds).map fun j => .int (j : Nat) else none
  | _ => none
def eIndex (a b : M PyData) : M PyData := eOp indexD a b
theorem s_index (ha : EvS K ta a) (hb : EvS K tb b) : EvS K (tBM K "list" (rIndexD K) ta (tCons tb tNil)) (eIndex a b) := fun l g d l' g' s H S r A e h Q q => by
  replace e := mb_some e; obtain ⟨x, l1, g1, e1, e⟩ := e
  replace e := mb_some e; obtain ⟨y, l2, g2, e2, e⟩ := e
  replace e := mo_some e; obtain ⟨e, rfl, rfl⟩ := e
  unfold indexD at e
  split at e
  · split at e
    · rename_i ds hsh
      obtain ⟨j, ej, rfl⟩ := Option.map_eq_some_iff.mp e
      obtain ⟨_, z, h2, h3, h4⟩ := firstIx_some ej
      rw [Nat.sub_zero] at h2 h4
      refine ha _ _ _ _ _ s H S r A e1 h _ fun v1 H1 S1 r1 A1 m1 h1 d1 => ⟨?_, ?_⟩
      · cases d1 with
        | lst k1 k2 => exact .inl ⟨rfl, _, h1.hs.seq k1⟩
      · refine hb _ _ _ _ _ s H1 S1 r1 A1 e2 h1 _ fun v2 H2 S2 r2 A2 m2 h2' d2 => ?_
        cases d1 with
        | lst k1 k2 => exact ⟨_, _, _, _, j, z, rfl, rfl, .lst (h2'.hs.seq (m2.s.seq k1)) (DpAll_mono k2 (m2.s.trans h2'.hs)), Dp_mono d2 h2'.hs, hsh.1, hsh.2, h2, h3, h4, q _ H2 S2 r2 A2 (m1.trans m2) h2' (.int _)⟩
    · cases e
  · cases e
end
section
variable {l : Lo} {g : Sg} {a b k v : M PyData}
theorem wp_eIndex {Q : PyData → Lo → Sg → Prop} (h : Wp a l g fun x l1 g1 => Wp b l1 g1 fun y l2 g2 => Has (indexD x y) fun z => Q z l2 g2) : Wp (eIndex a b) l g Q := wp_eOp h
end
end Sm

namespace Dz
open PySem PySem.Spec PySem.SeqAt PyProof.Rows L2 RZ
inductive F2 {α β : Type} (R : α → β → Prop) : List α → List β → Prop
  | nil : F2 R [] []
  | cons {x : α} {y : β} {xs : List α} {ys : List β} : R x y → F2 R xs ys → F2 R (x :: xs) (y :: ys)
def lexLe (p q : Int × Int) : Prop := p.1 < q.1 ∨ (p.1 = q.1 ∧ p.2 ≤ q.2)
instance (p q : Int × Int) : Decidable (lexLe p q) := inferInstanceAs (Decidable (_ ∨ _))
theorem forall2_map {α β : Type} {R : α → β → Prop} {k : α → β} : ∀ {xs : List α} {ps : List β}, F2 R xs ps → (∀ x ij, x ∈ xs → R x ij → ij = k x) → ps = xs.map k ∧ ∀ x ∈ xs, R x (k x)
  | [], _, .nil, _ => ⟨rfl, fun x hx => nomatch hx⟩
  | x :: xs, _ :: ps, .cons h t, u => by
    obtain ⟨h1, h2⟩ := forall2_map t fun x ij hx => u x ij (List.mem_cons_of_mem _ hx)
    have e := u x _ List.mem_cons_self h
    subst e
    refine ⟨by rw [List.map_cons, ← h1], fun y hy => ?_⟩
    rcases List.mem_cons.mp hy with rfl | hy
    · exact h
    · exact h2 y hy
theorem map_forall2 {α β : Type} {R : α → β → Prop} {k : α → β} : ∀ {xs : List α}, (∀ x ∈ xs, R x (k x)) → F2 R xs (xs.map k)
  | [], _ => .nil
  | x :: xs, h => .cons (h x List.mem_cons_self) (map_forall2 fun y hy => h y (List.mem_cons_of_mem _ hy))
section
variable {X : Cx}
end
end Dz
namespace Sm
open PySem PySem.Spec PyProof.Rows L2 RZ SrtO Dz
section
variable {K : Kx} {S : Hp}
end
end Sm

namespace Dz
open PySem PySem.Spec PyProof.Rows L2 RZ LamX
end Dz
namespace Sm
open PySem PySem.Spec PyProof.Rows L2 RZ SrtO Dz
section
variable {K : Kx} {l : Lo} {g : Sg} {s : L2.St} {H S H1 S1 : Hp} {r : List Addr} {A : List (Option Addr)} {i : Nat}
theorem StOk.gTab (h : StOk K l g s H S r A) (q : GrowT (isTab S H) S H S1 H1) (tb : TabsOk K S1 H1) : StOk K l g s H1 S1 r A ∧ Mv K S H r A S1 H1 r A :=
  h.call (q.mono fun _ z => .inr z) ⟨[], by simp⟩ h.rn (fun _ z => .inl z) h.lg (fun j a o e1 e2 => by
    obtain ⟨q1, q2⟩ := h.st j a o e1 e2
    exact ⟨q.n a q1 q2.there, q2.go q.s (fun b z hb e => q.k b z (by
      rcases hb with rfl | rfl
      · exact h.apartR (List.mem_of_getElem? e1)
      · intro z
        obtain ⟨_, ps, hz⟩ := z
        rw [e] at hz
        cases hz) e) ⟨[], by simp⟩⟩) tb
theorem StOk.any (h : StOk K l g s H S r A) (e : l[i]? = some .no) (x : Option V) : StOk K l g (s.set i x) H S r A :=
  ⟨h.hs, h.la, by rw [List.length_set]; exact h.ls, fun j z ej => by
    obtain ⟨o, v, q1, q2, q3⟩ := h.ok j z ej
    by_cases hij : i = j
    · subst hij
      rw [e] at ej
      cases ej
      exact ⟨o, x, q1, by rw [List.getElem?_set_self (List.getElem?_eq_some_iff.mp q2).1], q3⟩
    · exact ⟨o, v, q1, by rw [List.getElem?_set_ne hij]; exact q2, q3⟩, h.ij, h.dr, h.rn, h.lg, h.st, h.tb⟩
end
section
variable {K : Kx} {ta : TA} {a : M (List PyData)} {i : Nat}
end
theorem vs_of {K : Kx} {S : Hp} {r : List Addr} : ∀ (ds : List PyData) (vs : List V), DpAll K S vs ds → VsOk K S r vs (ds.map .dat)
  | [], _, .nil => .nil
  | d :: ds, _, .cons h1 h2 => .cons h1 (vs_of ds _ h2)
def keysL (i : Nat) (b : M PyData) : List PyData → M (List PyData)
  | [] => mp []
  | d :: ds => fun l g => match b (l.set i (.dat d)) g with
    | none => none
    | some (k, l1, g1) => match keysL i b ds l1 g1 with
      | none => none
      | some (ks, l2, g2) => some (k :: ks, l2, g2)
def isI : PyData → Bool
  | .int _ => true
  | _ => false
def isB : PyData → Bool
  | .bool _ => true
  | _ => false
def keyZ : PyData → Int
  | .int n => n
  | .bool b => if b then 1 else 0
  | _ => 0
def byZ {α : Type} (xs : List α) (ks : List PyData) : List α := ((xs.zip ks).mergeSort fun p q => decide (keyZ p.2 ≤ keyZ q.2)).map (·.1)
def oneSeq : List PyData → Option (List PyData)
  | [d] => seqD d
  | _ => none
def lSortBy (i : Nat) (a : M (List PyData)) (b : M PyData) : M (List PyData) := mb a fun vs => mb (mo (oneSeq vs)) fun ds => mb (keysL i b ds) fun ks => fun l g => if ks.all isI = true ∨ ks.all isB = true then some (byZ ds ks, l.set i .no, g) else none
theorem le_key {α : Type} {p q : α × PyData} (h : (isI p.2 = true ∧ isI q.2 = true) ∨ (isB p.2 = true ∧ isB q.2 = true)) : PySem.W.dataLe false (fun p : α × PyData => p.2) p q = decide (keyZ p.2 ≤ keyZ q.2) := by
  obtain ⟨x, k⟩ := p
  obtain ⟨y, k'⟩ := q
  have tok : ∀ m n : Int, (!(decide (n < m) || (!decide (m < n) && false))) = decide (m ≤ n) := fun m n => by
    rw [Bool.and_false, Bool.or_false]
    by_cases hmn : n < m
    · have h2 : ¬ m ≤ n := by omega
      simp [hmn, h2]
    · have h2 : m ≤ n := by omega
      simp [hmn, h2]
  rcases h with ⟨h1, h2⟩ | ⟨h1, h2⟩
  · cases k <;> first | (cases h1; done) | skip
    cases k' <;> first | (cases h2; done) | skip
    exact tok _ _
  · cases k <;> first | (cases h1; done) | skip
    cases k' <;> first | (cases h2; done) | skip
    exact tok _ _
theorem dp_maps {K : Kx} {S : Hp} {α : Type} {f : α → V} {h : α → PyData} : ∀ {L : List α}, (∀ t ∈ L, Dp K S (f t) (h t)) → DpAll K S (L.map f) (L.map h)
  | [], _ => .nil
  | t :: L, q => .cons (q t List.mem_cons_self) (dp_maps fun t' ht => q t' (List.mem_cons_of_mem _ ht))
theorem dp_zip {K : Kx} {S : Hp} : ∀ {ds : List PyData} {xs : List V}, DpAll K S xs ds → ∀ p ∈ xs.zip ds, Dp K S p.1 p.2
  | [], _, .nil, p, hp => (nomatch hp)
  | d :: ds, _, .cons h1 h2, p, hp => by
    rcases List.mem_cons.mp hp with rfl | hp
    · exact h1
    · exact dp_zip h2 p hp
theorem zip_fst3 {α β γ : Type} : ∀ {xs : List α} {ds : List β} {ks : List γ}, xs.length = ds.length → ((xs.zip ds).zip ks).map (fun t => (t.1.1, t.2)) = xs.zip ks
  | [], [], _, _ => rfl
  | _ :: _, [], _, h => by cases h
  | [], _ :: _, _, h => by cases h
  | x :: xs, d :: ds, [], _ => rfl
  | x :: xs, d :: ds, k :: ks, h => by
    rw [List.zip_cons_cons, List.zip_cons_cons, List.zip_cons_cons, List.map_cons, zip_fst3 (by simpa using h)]
theorem zip_snd3 {α β γ : Type} : ∀ {xs : List α} {ds : List β} {ks : List γ}, xs.length = ds.length → ((xs.zip ds).zip ks).map (fun t => (t.1.2, t.2)) = ds.zip ks
  | [], [], _, _ => rfl
  | _ :: _, [], _, h => by cases h
  | [], _ :: _, _, h => by cases h
  | x :: xs, d :: ds, [], _ => rfl
  | x :: xs, d :: ds, k :: ks, h => by
    rw [List.zip_cons_cons, List.zip_cons_cons, List.zip_cons_cons, List.map_cons, zip_snd3 (by simpa using h)]
theorem dp_sorted {K : Kx} {S : Hp} {xs : List V} {ds ks : List PyData} (h : DpAll K S xs ds) (hk : ks.all isI = true ∨ ks.all isB = true) : DpAll K S (byKeys xs ks) (byZ ds ks) := by
  have hl := DpAll_len h
  have e1 : byKeys xs ks = (((xs.zip ds).zip ks).mergeSort fun p q => decide (keyZ p.2 ≤ keyZ q.2)).map (fun t => t.1.1) := by
    unfold byKeys
    rw [← zip_fst3 (ks := ks) hl, ← List.map_mergeSort (r := fun p q => decide (keyZ p.2 ≤ keyZ q.2)) fun a ha b hb => ?_, List.map_map]
    · rfl
    · have ka := (List.of_mem_zip ha).2
      have kb := (List.of_mem_zip hb).2
      refine (le_key ?_).symm
      rcases hk with hk | hk
      · exact .inl ⟨List.all_eq_true.mp hk _ ka, List.all_eq_true.mp hk _ kb⟩
      · exact .inr ⟨List.all_eq_true.mp hk _ ka, List.all_eq_true.mp hk _ kb⟩
  have e2 : byZ ds ks = (((xs.zip ds).zip ks).mergeSort fun p q => decide (keyZ p.2 ≤ keyZ q.2)).map (fun t => t.1.2) := by
    unfold byZ
    rw [← zip_snd3 (ks := ks) hl, ← List.map_mergeSort (r := fun p q => decide (keyZ p.2 ≤ keyZ q.2)) fun a ha b hb => rfl, List.map_map]
    rfl
  rw [e1, e2]
  refine dp_maps fun t ht => ?_
  have ht := (List.mergeSort_perm _ _).mem_iff.mp ht
  exact dp_zip h _ (List.of_mem_zip ht).1
theorem keysL_len {i : Nat} {b : M PyData} : ∀ {ds ks : List PyData} {l l' : Lo} {g g' : Sg}, keysL i b ds l g = some (ks, l', g') → ks.length = ds.length
  | [], ks, l, l', g, g', e => by cases e; rfl
  | d :: ds, ks, l, l', g, g', e => by
    unfold keysL at e
    split at e
    · cases e
    · split at e
      · cases e
      · rename_i e2
        cases e
        rw [List.length_cons, List.length_cons, keysL_len e2]
theorem key_val {K : Kx} {S : Hp} {v : V} {k : PyData} (h : Dp K S v k) (hk : isI k = true ∨ isB k = true) : KeyV v k := by
  rcases hk with hk | hk
  · cases k <;> first | (cases hk; done) | skip
    cases h
    exact .int _
  · cases k <;> first | (cases hk; done) | skip
    cases h
    exact .bl _
theorem alike_keys {ks : List PyData} (hk : ks.all isI = true ∨ ks.all isB = true) : PySem.W.AllAlike ks ∧ PySem.W.Sortable ks ∧ ∀ d ∈ ks, d.depth = 0 := by
  have one : ∀ d ∈ ks, (ks.all isI = true → isI d = true) ∧ (ks.all isB = true → isB d = true) := fun d hd => ⟨fun h => List.all_eq_true.mp h d hd, fun h => List.all_eq_true.mp h d hd⟩
  refine ⟨fun d hd d' hd' => ?_, .inr fun d hd => ?_, fun d hd => ?_⟩
  · rcases hk with hk | hk
    · have h1 := (one d hd).1 hk
      have h2 := (one d' hd').1 hk
      cases d <;> first | (cases h1; done) | skip
      cases d' <;> first | (cases h2; done) | skip
      rfl
    · have h1 := (one d hd).2 hk
      have h2 := (one d' hd').2 hk
      cases d <;> first | (cases h1; done) | skip
      cases d' <;> first | (cases h2; done) | skip
      rfl
  · rcases hk with hk | hk
    · have h1 := (one d hd).1 hk
      cases d <;> first | (cases h1; done) | exact ⟨(fun z => (nomatch z)), (fun xs z => (nomatch z))⟩
    · have h1 := (one d hd).2 hk
      cases d <;> first | (cases h1; done) | exact ⟨(fun z => (nomatch z)), (fun xs z => (nomatch z))⟩
  · rcases hk with hk | hk
    · have h1 := (one d hd).1 hk
      cases d <;> first | (cases h1; done) | rfl
    · have h1 := (one d hd).2 hk
      cases d <;> first | (cases h1; done) | rfl
theorem s_sortBy {K : Kx} {i : Nat} {ta : TA} {tb : TE} {a : M (List PyData)} {b : M PyData} (ha : EvA K ta a) (hb : EvS K tb b) : EvL K (tSortK K i ta tb) (lSortBy i a b) := fun l g ys l' g' s H S r A e h Q q => by
  replace e := mb_some e; obtain ⟨vs, l1, g1, k1, e⟩ := e
  replace e := mb_some e; obtain ⟨ds, l2, g2, k2, e⟩ := e
  replace k2 := mo_some k2; obtain ⟨k2, rfl, rfl⟩ := k2
  replace e := mb_some e; obtain ⟨ks, l3, g3, k3, e⟩ := e
  split at e
  case isFalse => cases e
  rename_i hk
  cases e
  refine ha _ _ _ _ _ s H S r A k1 h _ fun xs H1 S1 r1 A1 m1 h1 d1 => ?_
  obtain ⟨p, vx, hsq, e1, hdp⟩ : ∃ p vx, (SqL K S1 p vx ∨ SqT K S1 p vx) ∧ xs = [.ref p] ∧ DpAll K S1 vx ds := by
    unfold oneSeq at k2
    split at k2
    · rename_i d
      cases d1 with
      | cons hd hn =>
        cases hn
        unfold seqD at k2
        split at k2
        · cases k2
          cases hd with
          | lst h1 h2 => exact ⟨_, _, .inl h1, rfl, h2⟩
        · cases k2
          cases hd with
          | tup h1 h2 => exact ⟨_, _, .inr h1, rfl, h2⟩
        · cases k2
    · cases k2
  have hlen := DpAll_len hdp
  have kl := keysL_len k3
  refine ⟨p, vx, S1, e1, hsq, h1.hs, h1.tb, fun S2 H2 gr tb2 => ?_⟩
  obtain ⟨h2, m2⟩ := h1.gTab gr tb2
  refine ⟨fun j kj Hj => ∃ sj lj gj Sj rj Aj rest, (∀ y, sj.set i y = s.set i y) ∧ StOk K lj gj sj Hj Sj rj Aj ∧ Mv K S2 H2 r1 A1 Sj Hj rj Aj ∧ j ≤ ds.length ∧ keysL i b (ds.drop j) lj gj = some (rest, l3, g') ∧ kj ++ rest = ks,
    ⟨s, _, _, S2, r1, A1, ks, fun _ => rfl, h2, Mv.refl h2.hs, Nat.zero_le _, k3, rfl⟩, fun j kj Hj ⟨sj, lj, gj, Sj, rj, Aj, rest, _, hst, mj, _⟩ => mj.s.trans hst.hs, ?_, ?_⟩
  · rintro j kj Hj x ⟨sj, lj, gj, Sj, rj, Aj, rest, hsj, hst, mj, hjl, hrun, hks⟩ hx
    have hj : j < ds.length := by
      have := (List.getElem?_eq_some_iff.mp hx).1
      omega
    rw [List.drop_eq_getElem_cons hj] at hrun
    unfold keysL at hrun
    split at hrun
    · cases hrun
    rename_i kd l4 g4 e4
    split at hrun
    · cases hrun
    rename_i rest' l5 g5 e5
    cases hrun
    have hdx : Dp K Sj x ds[j] := by
      have hm := dp_zip hdp (x, ds[j]) (List.mem_of_getElem? (i := j) (by rw [List.getElem?_zip_eq_some]; exact ⟨hx, List.getElem?_eq_getElem hj⟩))
      exact Dp_mono hm (m2.s.trans mj.s)
    have hset := hst.setD (i := i) hdx
    rw [hsj] at hset
    refine hb _ _ _ _ _ _ Hj Sj rj _ e4 hset _ fun kv H5 S5 r5 A5 m5 h5 d5 => ⟨kd, key_val d5 ?_, s.set i (some x), l4, g4, S5, r5, A5, rest', fun y => by rw [List.set_set], h5, mj.trans ((Mv.refl hst.hs).set.trans m5), hj, e5, by rw [List.append_assoc]; exact hks⟩
    have hmem : kd ∈ ks := by rw [← hks]; simp
    rcases hk with hk | hk
    · exact .inl (List.all_eq_true.mp hk _ hmem)
    · exact .inr (List.all_eq_true.mp hk _ hmem)
  · rintro kj Hj ⟨sj, lj, gj, Sj, rj, Aj, rest, hsj, hst, mj, hjl, hrun, hks⟩ hkl
    rw [hlen, List.drop_length] at hrun
    cases hrun
    rw [List.append_nil] at hks
    subst hks
    obtain ⟨a1, a2, a3⟩ := alike_keys hk
    refine ⟨a1, a2, a3, fun D hD => ?_⟩
    have hno := hst.drop (i := i)
    have hback : StOk K (l3.set i .no) g' s Hj Sj rj (Aj.set i none) := by
      by_cases hi : i < l3.length
      · have hs2 := hno.any (i := i) (List.getElem?_set_self hi) (s.getD i none)
        rw [hsj] at hs2
        have hil : i < s.length := by
          have e0 := congrArg List.length (hsj none)
          rw [List.length_set, List.length_set] at e0
          have := hst.ls
          omega
        have e3 : s.set i (s.getD i none) = s := by
          apply List.ext_getElem?
          intro m
          by_cases him : i = m
          · subst him
            rw [List.getElem?_set_self hil, List.getD_eq_getElem?_getD, List.getElem?_eq_getElem hil]
            rfl
          · rw [List.getElem?_set_ne him]
        rw [e3] at hs2
        exact hs2
      · have hil : ¬ i < s.length := by
          have e0 := congrArg List.length (hsj none)
          rw [List.length_set, List.length_set] at e0
          have := hst.ls
          omega
        have e4 : sj = s := by
          have hls := hst.ls
          have e0 := hsj none
          rw [List.set_eq_of_length_le (by omega), List.set_eq_of_length_le (by
            have e1 := congrArg List.length (hsj none)
            rw [List.length_set, List.length_set] at e1
            omega)] at e0
          exact e0
        rw [← e4]
        exact hno
    have gr2 : Grow m0 Sj Hj Sj (upd Hj D (.lst (byKeys vx kj))) := Grow.out hst.hs hD
    have mall : Mv K S H r A Sj Hj rj (Aj.set i none) := (((m1.trans m2).trans mj)).set
    refine q D (byKeys vx kj) _ Sj rj _ (mall.trans (Mv.grow gr2)) (hback.grow gr2) ?_ (fun z => (hback.there (tr_upd z)).1 hD) (same_none hst.hs hD) upd_same (dp_sorted (DpAll_mono hdp (m2.s.trans mj.s)) hk)
    cases hz : H D with
    | none => rfl
    | some o => exact absurd hD (mall.d D (some_ne hz))
def spLawT (K : PySem.W.Frag) (ts : List Addr) : Sp := fun vs H Q _ => ∃ (a : Addr) (ns : List Int), vs = [.ref a] ∧ SqL K H a (ns.map V.int) ∧ ns.length ≤ 63 ∧ (∀ b ∈ ts, H b = some (.tbl #[])) ∧ ∀ H', Q (.bl true) H'
theorem law_ofT {P : Program} {w : World} {K : PySem.W.Frag} {mg : Str → Option Value} {base : Heap} {lv k : Nat} {tb : List (Addr × Tag)} {f : Addr} {fd : FuncData} {ps : List Str} {F : FS} (h : FnOk P w K mg base CX0 k f fd ps (spG (kX P w K mg base lv tb) 1 F)) (hF : ∀ ns : List Int, ns.length ≤ 63 → ∃ g, F [.dat (.list (ns.map .int))] [] = some (.dat (.bool true), g)) : FnOk P w K mg base CX0 k f fd ps (spLawT K (tb.map (·.1))) :=
  (law_of (K := kX P w K mg base lv tb) h hF).imp fun vs H Q E ⟨a, ns, e, hS, hl, ht, q⟩ => ⟨a, ns, e, hS, hl, fun b ⟨p, hp, e⟩ => ht b (List.mem_map.mpr ⟨p, hp, e⟩), q⟩
def qLam (x : Str) : Str := x ++ ".<locals>." ++ "<lambda>"
def tabsOfT (f : Str → Tag) (cs : List (Str × Addr × Addr)) : List (Addr × Tag) := cs.map fun p => (p.2.2, f p.1)
def tabsOf (cs : List (Str × Addr × Addr)) : List (Addr × Tag) := tabsOfT (fun x => .one (qLam x)) cs
theorem tabAt_ofT {P : Program} {w : World} {K : PySem.W.Frag} {mg : Str → Option Value} {base : Heap} {lv : Nat} {f : Str → Tag} {cs : List (Str × Addr × Addr)} (h : ∀ p ∈ cs, LamX.TabB base mg p.2.1 p.2.2) (nd : (cs.map (·.2.2)).Nodup) {p : Str × Addr × Addr} (hp : p ∈ cs) : TabAtT (kX P w K mg base lv (tabsOfT f cs)) (.ref p.2.1) (f p.1) := by
  refine ⟨p.2.1, p.2.2, rfl, h p hp, List.mem_map.mpr ⟨p, hp, rfl⟩, fun z hz e => ?_⟩
  obtain ⟨p', hp', rfl⟩ := List.mem_map.mp hz
  have e : p'.2.2 = p.2.2 := e
  have key : ∀ {cs : List (Str × Addr × Addr)}, (cs.map (·.2.2)).Nodup → p ∈ cs → p' ∈ cs → p' = p := by
    intro cs
    induction cs with
    | nil => intro _ h; cases h
    | cons c cs ih =>
      intro nd h1 h2
      rw [List.map_cons, List.nodup_cons] at nd
      rcases List.mem_cons.mp h1 with rfl | h1
      · rcases List.mem_cons.mp h2 with h2 | h2
        · exact h2
        · exact absurd (List.mem_map.mpr ⟨p', h2, e⟩) nd.1
      · rcases List.mem_cons.mp h2 with h3 | h2
        · rw [← h3] at nd
          exact absurd (List.mem_map.mpr ⟨p, h1, e.symm⟩) nd.1
        · exact ih nd.2 h1 h2
  rw [key nd hp hp']
theorem tabAt_of {P : Program} {w : World} {K : PySem.W.Frag} {mg : Str → Option Value} {base : Heap} {lv : Nat} {cs : List (Str × Addr × Addr)} (h : ∀ p ∈ cs, LamX.TabB base mg p.2.1 p.2.2) (nd : (cs.map (·.2.2)).Nodup) {p : Str × Addr × Addr} (hp : p ∈ cs) : TabAt (kX P w K mg base lv (tabsOf cs)) (.ref p.2.1) (qLam p.1) := tabAt_ofT (f := fun x => .one (qLam x)) h nd hp
theorem walkT {l : PySem.W.OpenLaw} {k : Nat} {q : Program} {loose : List Str} {XP : (Str → Option Value) → Heap → Prop} {YP : World → Heap → Prop} {d : DefRec} {K : Params → PySem.W.Frag} {x : Str} (hn : l.most = some 63) (hdf : d.params.defaults = []) (hr : Room k callerA) (hY : ∀ (w : World) (h : Heap), YP w h → (K w.params).In h)
    (F : ∀ (w : World) (mg : Str → Option Value) (fa : Addr) (h : Heap), (K w.params).In h → h.Ns mainGlobals mg → mg d.name = some (.ref fa) →
      ∃ (fd : FuncData) (cs : List (Str × Addr × Addr)), PySem.W.noTabs (K w.params) = true ∧ (∀ p ∈ cs, PySem.W.tabIn (K w.params) p.1 = some p.2 ∧ ∃ dr, (recsOf q).find? (fun e => e.name == p.1) = some dr) ∧ (∀ (s : Shared) (u : Value), BindsTo s fd ⟨[u], []⟩ [(x, u)]) ∧
        ∀ base : Heap, (K w.params).In base → base.Ns mainGlobals mg → (∀ p ∈ cs, LamX.TabB base mg p.2.1 p.2.2) → FnOk l.prog w (K w.params) mg base CX0 k fa fd [x] (spLawT (K w.params) (cs.map (·.2.2)))) :
    PySem.W.WalkO q loose XP YP l.row.toRowW d [] (fun f vs => PySem.call f vs) := by
  refine Att.attach_callB hn hdf fun w s₀ s₁ mg mb fa o pm cd doc a vs ns G Y ho hd hcd hmg hobj hints hlen hbits hg => ?_
  have KX := hY w _ Y
  obtain ⟨fd, cs, hno, hcs, hb, hF⟩ := F w mg fa _ KX G.T.g hmg
  have hall : ∀ p ∈ cs, PySem.W.CodeHd s₁.heap p.2.1 p.2.2 ∧ s₁.heap.get? p.2.2 = some (PySem.W.tabObj #[]) := fun p hp => by
    obtain ⟨h1, dr, h2⟩ := hcs p hp
    exact PySem.W.tab_of G.T KX h2 h1
  have hmem : ∀ p ∈ cs.map (·.2), ∃ z ∈ cs, z.2 = p := fun p hp => List.mem_map.mp hp
  refine LamX.law_callTs (cs := cs.map (·.2)) KX G.T.g G.T.b G.T.builtins G.T.nolimit hg (fun p hp => ?_) (fun p hp => ?_) (fun p hp => ?_) G.T.bmain hobj hints (Nat.le_trans hlen (by decide)) hr (fun base h1 h2 h3 => hF base h1 h2 fun p hp => h3 _ (List.mem_map.mpr ⟨p, hp, rfl⟩)) hb (fun H hH hS => ⟨a, ns, rfl, hS, hlen, fun b hb => ?_, fun _ => rfl⟩) fun H e s' h => h
  · obtain ⟨z, hz, rfl⟩ := hmem p hp
    exact (hall z hz).2
  · obtain ⟨z, hz, rfl⟩ := hmem p hp
    cases e : (K w.params).lookup z.2.2 with
    | none => rfl
    | some o =>
      have e2 := KX _ _ e
      rw [(hall z hz).2] at e2
      have h2 := List.all_eq_true.mp hno _ (PySem.W.mem_of_lookupK e)
      cases e2
      exact absurd (show false = true from h2) Bool.false_ne_true
  · obtain ⟨z, hz, rfl⟩ := hmem p hp
    exact (hall z hz).1
  · obtain ⟨z, hz, rfl⟩ := List.mem_map.mp hb
    exact hH z.2 (List.mem_map.mpr ⟨z, hz, rfl⟩)
end Sm

namespace Sm
open PySem PySem.Spec PyProof.Rows L2 RZ SrtO Dz
section
variable {K : Kx} {i : Nat}
end
section
variable {l l1 : Lo} {g g1 : Sg} {i : Nat}
def KyW (i : Nat) (b : M PyData) (ds : List PyData) (l : Lo) (g : Sg) (Q : List PyData → Lo → Sg → Prop) : Prop := ∃ ks l' g', keysL i b ds l g = some (ks, l', g') ∧ (ks.all isI = true ∨ ks.all isB = true) ∧ Q (byZ ds ks) (l'.set i .no) g'
theorem wp_sortBy {a : M (List PyData)} {b : M PyData} {Q : List PyData → Lo → Sg → Prop} (h : Wp a l g fun vs l1 g1 => ∃ ds, oneSeq vs = some ds ∧ KyW i b ds l1 g1 Q) : Wp (lSortBy i a b) l g Q := by
  obtain ⟨vs, l1, g1, e, ds, e2, ks, l2, g2, e3, hk, q⟩ := h
  refine ⟨_, _, g2, ?_, q⟩
  unfold lSortBy mb
  rw [e]
  dsimp only
  unfold mo
  rw [e2]
  dsimp only
  rw [e3]
  dsimp only
  rw [if_pos hk]
theorem keysL_pure {α : Type} {b : M PyData} {D : α → PyData} {f : α → PyData} {l0 : Lo} : ∀ (xs : List α) (l : Lo), l.set i .no = l0 → (∀ x ∈ xs, b (l0.set i (.dat (D x))) g = some (f x, l0.set i (.dat (D x)), g)) → ∃ v, keysL i b (xs.map D) l g = some (xs.map f, v, g) ∧ v.set i .no = l0
  | [], l, h0, _ => ⟨l, rfl, h0⟩
  | x :: xs, l, h0, h2 => by
    have h3 := h2 x List.mem_cons_self
    rw [← h0, List.set_set] at h3
    obtain ⟨v, e1, e2⟩ := keysL_pure xs (l.set i (.dat (D x))) (by rw [List.set_set]; exact h0) fun y hy => h2 y (List.mem_cons_of_mem _ hy)
    refine ⟨v, ?_, e2⟩
    show (match b (l.set i (.dat (D x))) g with
      | none => none
      | some (k, l1, g1) => match keysL i b (xs.map D) l1 g1 with
        | none => none
        | some (ks, l2, g2) => some (k :: ks, l2, g2)) = _
    rw [h3]
    dsimp only
    rw [e1]
    rfl
def srt {α : Type} (f : α → Int) (xs : List α) : List α := xs.mergeSort fun a b => decide (f a ≤ f b)
theorem byZ_map {α : Type} {D : α → PyData} {f : α → PyData} (xs : List α) : byZ (xs.map D) (xs.map f) = (srt (fun x => keyZ (f x)) xs).map D := by
  unfold byZ srt
  have e : (xs.map D).zip (xs.map f) = xs.map fun x => (D x, f x) := by
    induction xs with
    | nil => rfl
    | cons x r ih => rw [List.map_cons, List.map_cons, List.zip_cons_cons, List.map_cons, ih]
  rw [e, ← List.map_mergeSort (r := fun a b => decide (keyZ (f a) ≤ keyZ (f b))) fun a _ b _ => rfl, List.map_map]
  rfl
theorem kyw_int {α : Type} {b : M PyData} {l0 : Lo} {xs : List α} {Q : List PyData → Lo → Sg → Prop} (D : α → PyData) (f : α → Int) (h0 : l.set i .no = l0) (hb : ∀ x ∈ xs, Wp b (l0.set i (.dat (D x))) g fun z l' g' => z = .int (f x) ∧ l' = l0.set i (.dat (D x)) ∧ g' = g) (q : Q ((srt f xs).map D) l0 g) : KyW i b (xs.map D) l g Q := by
  obtain ⟨v, e1, e2⟩ := keysL_pure (i := i) (g := g) (D := D) (f := fun x => .int (f x)) xs l h0 fun x hx => wp_is (hb x hx)
  refine ⟨_, v, g, e1, .inl ?_, ?_⟩
  · rw [List.all_map]
    exact List.all_eq_true.mpr fun x _ => rfl
  · rw [e2, byZ_map]
    exact q
end
theorem ex_one {vs ds : List PyData} {Q : List PyData → Prop} (h : oneSeq vs = some ds) (q : Q ds) : ∃ ds, oneSeq vs = some ds ∧ Q ds := ⟨ds, h, q⟩
end Sm

namespace Dz
open PySem PySem.Spec PySem.SeqAt PyProof.Rows L2 RZ LamX
def FldOk (K : Kx) (C f : Str) : Prop := ∀ cls, K.mg C = some (.ref cls) → Cls K.K cls ∧ NoAttr K.K cls f
def tMethN (K : Kx) (C m : Str) (sp : Sp) (dvs : List V) (ta : TE) (t : TA) : TE := fun σ H Q => ta σ H fun x H1 => ∃ a cls dx fs, K.mg C = some (.ref cls) ∧ x = .ref a ∧ H1 a = some (.ins cls dx fs) ∧ fs.lookup m = none ∧ t σ H1 fun vs H2 => sp (x :: (vs ++ dvs)) H2 Q E0
def tMethK (K : Kx) (C m : Str) (n c : Nat) (sp : Sp) (gV : List V → List V → List V) (ta : TE) (t tk : TA) : TE := fun σ H Q => ta σ H fun x H1 => ∃ a cls dx fs, K.mg C = some (.ref cls) ∧ x = .ref a ∧ H1 a = some (.ins cls dx fs) ∧ fs.lookup m = none ∧ t σ H1 fun vs H2 => tk σ H2 fun zs H3 => vs.length = n ∧ zs.length = c ∧ sp (gV (x :: vs) zs) H3 Q E0
def tMakeNK (K : Kx) (C : Str) (n m : Nat) (sp : Sp) (gV : List V → List V → List V) (t tk : TA) : TE := fun σ H Q => t σ H fun vs H1 => tk σ H1 fun zs H2 => vs.length = n ∧ zs.length = m ∧ ∀ cls x dx, K.mg C = some (.ref cls) → H2 x = none → H2 dx = none → dx ≠ x →
  sp (gV (.ref x :: vs) zs) (upd (upd H2 dx (.own x)) x (.ins cls dx [])) (fun v H3 => v = .non ∧ Q (.ref x) H3) E0
structure CalM (P : Program) (w : World) (K : PySem.W.Frag) (mg : Str → Option Value) (base : Heap) (k : Nat) (C m : Str) (ps : List Str) (dv : List V) (sp : Sp) : Prop where
  ex : ∃ cls f fd ds, mg C = some (.ref cls) ∧ Cls K cls ∧ Meth K cls m f ∧ FnOk P w K mg base CX0 k f fd ps sp ∧ Vals dv ds ∧ Binds K fd ps ds
structure CalMK (P : Program) (w : World) (K : PySem.W.Frag) (mg : Str → Option Value) (base : Heap) (k : Nat) (C m : Str) (ps : List Str) (n : Nat) (ks : List Str) (gV : List V → List V → List V) (sp : Sp) : Prop where
  ex : ∃ cls f fd g, mg C = some (.ref cls) ∧ Cls K cls ∧ Meth K cls m f ∧ FnOk P w K mg base CX0 k f fd ps sp ∧ KBn K fd ps (n + 1) ks g gV
structure CalI (P : Program) (w : World) (K : PySem.W.Frag) (mg : Str → Option Value) (base : Heap) (k : Nat) (C : Str) (ps : List Str) (dv : List V) (sp : Sp) : Prop where
  ex : ∃ cls f fd ds, mg C = some (.ref cls) ∧ Mk K cls f ∧ FnOk P w K mg base CX0 k f fd ps sp ∧ Vals dv ds ∧ Binds K fd ps ds
structure CalIK (P : Program) (w : World) (K : PySem.W.Frag) (mg : Str → Option Value) (base : Heap) (k : Nat) (C : Str) (ps : List Str) (n : Nat) (ks : List Str) (gV : List V → List V → List V) (sp : Sp) : Prop where
  ex : ∃ cls f fd g, mg C = some (.ref cls) ∧ Mk K cls f ∧ FnOk P w K mg base CX0 k f fd ps sp ∧ KBn K fd ps (n + 1) ks g gV
section
variable {P : Program} {w : World} {K : PySem.W.Frag} {mg : Str → Option Value} {base : Heap} {j k n : Nat} {C m : Str} {ps ks : List Str} {dv : List V} {sp : Sp} {gV : List V → List V → List V}
theorem CalM.mono (c : CalM P w K mg base j C m ps dv sp) (h : j ≤ k) : CalM P w K mg base k C m ps dv sp := let ⟨cls, f, fd, ds, a, b, d, e, q⟩ := c.ex; ⟨cls, f, fd, ds, a, b, d, e.mono h, q⟩
theorem CalMK.mono (c : CalMK P w K mg base j C m ps n ks gV sp) (h : j ≤ k) : CalMK P w K mg base k C m ps n ks gV sp := let ⟨cls, f, fd, ds, a, b, d, e, q⟩ := c.ex; ⟨cls, f, fd, ds, a, b, d, e.mono h, q⟩
theorem CalI.mono (c : CalI P w K mg base j C ps dv sp) (h : j ≤ k) : CalI P w K mg base k C ps dv sp := let ⟨cls, f, fd, ds, a, b, e, q⟩ := c.ex; ⟨cls, f, fd, ds, a, b, e.mono h, q⟩
theorem CalIK.mono (c : CalIK P w K mg base j C ps n ks gV sp) (h : j ≤ k) : CalIK P w K mg base k C ps n ks gV sp := let ⟨cls, f, fd, ds, a, b, e, q⟩ := c.ex; ⟨cls, f, fd, ds, a, b, e.mono h, q⟩
end
section
variable {X : Cx} {κ : Kx} {k n : Nat} {C m : Str} {ps ks : List Str} {dv : List V} {sp : Sp} {gV : List V → List V → List V} {p pos apos : Pos} {o e : Expr} {es : List Expr} {kws : List Keyword} {ta : TE} {t tk : TA} {pl : Sem Bool}
theorem pe_calM (hX : CxK κ X) (c : CalM X.prog X.w X.K X.mg X.base k C m ps dv sp) (hr : Room k X.A) (he : PE X o ta) (ha : PA X (e :: es) t)
    (hst : starEach (e :: es) X.env = (false, eval e X.env) :: starEach es X.env := by rfl) (hpl : (backTo pos (starEach es X.env)).any (·.1) = false := by rfl)
    (ht : eval (.Call (.Attribute o m apos) (e :: es) [] pos) X.env = (do
      let ov ← eval o X.env
      standAt apos.atName
      let (f, first) ← holding [ov] (getMethod ov m pl)
      callWith pos f first (backTo pos (starEach (e :: es) X.env)) (backToKw pos (keywordEach [] X.env))) := by rfl) :
    PE X (.Call (.Attribute o m apos) (e :: es) [] pos) (tMethN κ C m sp dv ta t) := by
  obtain ⟨cls, f, fd, ds, hc, hcl, hm, F, hd, hb⟩ := c.ex
  rw [hX.m] at hc
  refine ⟨fun pins s σ H Q I h => PySem.W.methodCall_KW (pl := pl) (thn (he.run pins s σ H _ I h) fun u s1 ⟨x, H1, I1, rx, a, cls', dx, fs, hc', ex, ea, l, q⟩ => ?_) ht⟩
  rw [hc] at hc'
  cases hc'
  subst ex
  obtain rfl : u = Value.ref a := rx
  refine getmeth_ok I1 ea hcl hm l (PySem.W.callWith_K (first := [.ref a]) (h₀ := X.base) I.ok.mod.kin hm.kp (thn (ha.run pos pins s1 σ H1 _ I1 q) fun us s2 ⟨vs, H2, I2, r, q2⟩ => ⟨I2.kIn, ?_⟩) hst hpl)
  exact L2.run_fn (us := .ref a :: us) (vs := .ref a :: vs) F hr hb hd pass0 I2 (.cons rfl r) q2
theorem pe_calM0 (hX : CxK κ X) (c : CalM X.prog X.w X.K X.mg X.base k C m ps dv sp) (hr : Room k X.A) (he : PE X o ta)
    (ht : eval (.Call (.Attribute o m apos) [] [] pos) X.env = (do
      let ov ← eval o X.env
      standAt apos.atName
      let (f, first) ← holding [ov] (getMethod ov m pl)
      callWith pos f first (backTo pos (starEach [] X.env)) (backToKw pos (keywordEach [] X.env))) := by rfl) :
    PE X (.Call (.Attribute o m apos) [] [] pos) (tMethN κ C m sp dv ta tNil) := by
  obtain ⟨cls, f, fd, ds, hc, hcl, hm, F, hd, hb⟩ := c.ex
  rw [hX.m] at hc
  refine ⟨fun pins s σ H Q I h => PySem.W.methodCall_KW (pl := pl) (thn (he.run pins s σ H _ I h) fun u s1 ⟨x, H1, I1, rx, a, cls', dx, fs, hc', ex, ea, l, q⟩ => ?_) ht⟩
  rw [hc] at hc'
  cases hc'
  subst ex
  obtain rfl : u = Value.ref a := rx
  exact getmeth_ok I1 ea hcl hm l (PySem.W.callWith_K0 (first := [.ref a]) I1.kIn hm.kp (L2.run_fn (us := [.ref a]) (vs := [.ref a]) F hr hb hd pass0 I1 (.cons rfl .nil) q))
theorem pe_calIK (hX : CxK κ X) (c : CalIK X.prog X.w X.K X.mg X.base k C ps n ks gV sp) (hr : Room (k + 1) X.A) (ha : PA X (e :: es) t) (hkw : PK X kws tk) (hg : Gl X C := by rfl)
    (hall : (backToKw pos (keywordEach kws X.env)).all (·.1.isSome) = true := by rfl) (hks : (backToKw pos (keywordEach kws X.env)).filterMap (·.1) = ks := by rfl) (hdb : (C == ("__debug__" : Str)) = false := by decide)
    (he : starEach (e :: es) X.env = (false, eval e X.env) :: starEach es X.env := by rfl) (hpl : ((backTo pos (starEach (e :: es) X.env)).any (·.1) || (backToKw pos (keywordEach kws X.env)).any (·.1.isNone)) = false := by rfl) :
    PE X (.Call (.Name C p) (e :: es) kws pos) (tMakeNK κ C n ks.length sp gV t tk) := by
  obtain ⟨cls, f, fd, g, hc, M, F, hb⟩ := c.ex
  have hc2 : κ.mg C = some (.ref cls) := by rw [← hX.m]; exact hc
  refine ⟨fun pins s σ H Q I h => wpAny_Call_Name_kw (ld_glob I hg hc ?_ hdb)⟩
  refine PySem.W.callWith_KW (h₀ := X.base) I.ok.mod.kin M.kp hall (thn (ha.run pos pins s σ H _ I h) fun us s1 ⟨vs, H1, I1, r, q⟩ => ?_) hpl he
  refine thn (hkw.run pos pins s1 σ H1 _ I1 q) fun ws s2 ⟨zs, H2, I2, rz, l1, l2, q2⟩ => ⟨I2.kIn, ?_⟩
  rw [hks]
  exact run_makeK M F hr hb pass0 I2 r rz l1 l2 fun x dx h1 h2 h3 => q2 cls x dx hc2 h1 h2 h3
theorem run_fnN {pins : List (Addr × Obj)} {σ : L2.St} {H : Hp} {s : Shared} {Q : VK} {us ws : List Value} {vs zs : List V} {f : Addr} {fd : FuncData} {g : List Value → List Value → List Value} (F : FnOk X.prog X.w X.K X.mg X.base CX0 k f fd ps sp) (hr : Room k X.A) (hb : KBn X.K fd ps n ks g gV)
    (I : Inv X pins σ H s) (r : Vals vs us) (rz : Vals zs ws) (l1 : vs.length = n) (l2 : zs.length = ks.length) (h : sp (gV vs zs) H Q E0) : wpAny (model X.prog X.w) X.A (call (.ref f) us (ks.zip ws)) (EP X pins σ Q) X.xe s := by
  refine wpAny_call (codeAny_mono (F.run X.A X.stack s H ⟨us, ks.zip ws⟩ (g us ws) (gV vs zs) Q E0 hr I.env0 (hb.to s us ws I.kIn (by rw [← r.length]; exact l1) (by rw [← rz.length]; exact l2)) (hb.rel r rz) h) fun r s' hq => ?_)
  cases r with
  | error e => exact (pass0 (X := X)) pins σ H s e s' I hq
  | ok fl =>
    cases fl with
    | ret u => exact I.after hq
    | next => exact hq.elim
    | brk => exact hq.elim
    | cont => exact hq.elim
theorem pe_calMK (hX : CxK κ X) (c : CalMK X.prog X.w X.K X.mg X.base k C m ps n ks gV sp) (hr : Room k X.A) (he : PE X o ta) (ha : PA X (e :: es) t) (hkw : PK X kws tk)
    (hall : (backToKw pos (keywordEach kws X.env)).all (·.1.isSome) = true := by rfl) (hks : (backToKw pos (keywordEach kws X.env)).filterMap (·.1) = ks := by rfl)
    (hst : starEach (e :: es) X.env = (false, eval e X.env) :: starEach es X.env := by rfl) (hpl : ((backTo pos (starEach (e :: es) X.env)).any (·.1) || (backToKw pos (keywordEach kws X.env)).any (·.1.isNone)) = false := by rfl)
    (ht : eval (.Call (.Attribute o m apos) (e :: es) kws pos) X.env = (do
      let ov ← eval o X.env
      standAt apos.atName
      let (f, first) ← holding [ov] (getMethod ov m pl)
      callWith pos f first (backTo pos (starEach (e :: es) X.env)) (backToKw pos (keywordEach kws X.env))) := by rfl) :
    PE X (.Call (.Attribute o m apos) (e :: es) kws pos) (tMethK κ C m n ks.length sp gV ta t tk) := by
  obtain ⟨cls, f, fd, g, hc, hcl, hm, F, hb⟩ := c.ex
  rw [hX.m] at hc
  refine ⟨fun pins s σ H Q I h => PySem.W.methodCall_KW (pl := pl) (thn (he.run pins s σ H _ I h) fun u s1 ⟨x, H1, I1, rx, a, cls', dx, fs, hc', ex, ea, l, q⟩ => ?_) ht⟩
  rw [hc] at hc'
  cases hc'
  subst ex
  obtain rfl : u = Value.ref a := rx
  refine getmeth_ok I1 ea hcl hm l (PySem.W.callWith_KW (first := [.ref a]) (h₀ := X.base) I.ok.mod.kin hm.kp hall (thn (ha.run pos pins s1 σ H1 _ I1 q) fun us s2 ⟨vs, H2, I2, r, q2⟩ => ?_) hpl hst)
  refine thn (hkw.run pos pins s2 σ H2 _ I2 q2) fun ws s3 ⟨zs, H3, I3, rz, l1, l2, q3⟩ => ⟨I3.kIn, ?_⟩
  rw [hks]
  exact run_fnN (us := .ref a :: us) (vs := .ref a :: vs) F hr hb I3 (.cons rfl r) rz (by rw [List.length_cons, l1]) l2 q3
end
end Dz
namespace Sm
open PySem PySem.Spec PyProof.Rows L2 RZ SrtO Dz
def EvH (K : Kx) (te : TE) (e : M Nat) : Prop := ∀ l g j l' g' s H S r A, e l g = some (j, l', g') → StOk K l g s H S r A → ∀ Q : VK, (∀ a H' S' r' A', Mv K S H r A S' H' r' A' → StOk K l' g' s H' S' r' A' → r'[j]? = some a → Q (.ref a) H') → te s H Q
def hV (i : Nat) : M Nat := mg fun l _ => match l[i]? with
  | some (.ref j) => some j
  | _ => none
def fsO (C : Str) : Ob → Option (List (Str × Fv))
  | .ins D fs => if D = C then some fs else none
  | _ => none
def fsAt (g : Sg) (j : Nat) (C : Str) : Option (List (Str × Fv)) := (g[j]?).bind (fsO C)
def fvR : Option Fv → Option Nat
  | some (.ref k) => some k
  | _ => none
def fvD : Option Fv → Option PyData
  | some (.dat d) => some d
  | _ => none
def hF (h : M Nat) (C f : Str) : M Nat := mb h fun j => mg fun _ g => (fsAt g j C).bind fun fs => fvR (fs.lookup f)
def eFld (h : M Nat) (C f : Str) : M PyData := mb h fun j => mg fun _ g => (fsAt g j C).bind fun fs => fvD (fs.lookup f)
def vH (h : M Nat) : M Vl := mb h fun j => mp (.ref j)
def putFv (f : Str) (v : Fv) : List (Str × Fv) → List (Str × Fv)
  | [] => [(f, v)]
  | (k, x) :: r => if k = f then (k, v) :: r else (k, x) :: putFv f v r
def wrF (j : Nat) (C f : Str) (x : Fv) (g : Sg) : Option Sg := (fsAt g j C).bind fun fs => if fs.length < 900 then some (g.set j (.ins C (putFv f x fs))) else none
def xFld (h : M Nat) (C f : Str) (a : M PyData) : X := mb a fun d => mb h fun j => fun l g => (wrF j C f (.dat d) g).map fun g' => (.nx, l, g')
def xFldC (h : M Nat) (C f : Str) (m : M (List (Key × PyData))) : X := mb m fun kvs => fun l g => mb h (fun j => fun l2 g2 => (wrF j C f (.ref g.length) g2).map fun g' => (.nx, l2, g')) l (g ++ [.dct kvs])
def xFAug (h : M Nat) (C f : Str) (op : PyData → PyData → Option PyData) (b : M PyData) : X := mb h fun j => mb (mg fun _ g => (fsAt g j C).bind fun fs => fvD (fs.lookup f)) fun d => mb b fun y => fun l g => (op d y).bind fun z => (wrF j C f (.dat z) g).map fun g' => (.nx, l, g')
def xFld2 (h h2 : M Nat) (C f f2 : Str) (a : M PyData) : X := mb a fun d => mb h fun j => fun l g => (wrF j C f (.dat d) g).bind fun g' => mb h2 (fun j2 => fun l2 g2 => (wrF j2 C f2 (.dat d) g2).map fun g3 => (.nx, l2, g3)) l g'
section
variable {K : Kx} {te ta tb tc : TE} {h h2 h3 : M Nat} {C f f2 f3 : Str} {a b c : M PyData}
theorem s_hV {i : Nat} : EvH K (tVar i) (hV i) := fun l g d l' g' s H S r A e h Q q => by
  replace e := mg_some e; obtain ⟨e, rfl, rfl⟩ := e
  split at e
  · rename_i j hl
    cases e
    obtain ⟨o, v, e1, e2, e3, a, e4, rfl⟩ := h.ok i _ hl
    exact ⟨_, e2, q a H S r A (Mv.refl h.hs) h e4⟩
  · cases e
theorem fsAt_some {g : Sg} {j : Nat} {fs : List (Str × Fv)} (e : fsAt g j C = some fs) : g[j]? = some (.ins C fs) := by
  unfold fsAt at e
  replace e := Option.bind_eq_some_iff.mp e; obtain ⟨o, e1, e⟩ := e
  cases o with
  | ins D gs =>
    have e : (if D = C then some gs else none) = some fs := e
    by_cases hD : D = C
    · rw [if_pos hD] at e
      cases e
      rw [e1, hD]
    · rw [if_neg hD] at e
      cases e
  | lst ds => cases e
  | dct ds => cases e
  | dnk ds => cases e
theorem fsAt_of {g : Sg} {j : Nat} {fs : List (Str × Fv)} (e : g[j]? = some (.ins C fs)) : fsAt g j C = some fs := by
  unfold fsAt
  rw [e]
  show (if C = C then some fs else none) = _
  rw [if_pos rfl]
theorem FsOk.look {S : Hp} {r : List Addr} {vs : List (Str × V)} {fs : List (Str × Fv)} (q : FsOk K S r vs fs) (f : Str) : (∀ x, fs.lookup f = some x → ∃ v, vs.lookup f = some v ∧ FvOk K S r x v) ∧ (fs.lookup f = none → vs.lookup f = none) := by
  unfold FsOk at q
  induction q with
  | nil => exact ⟨fun x z => (by cases z), fun _ => rfl⟩
  | @cons v x vs fs hq _ ih =>
    rw [List.lookup_cons, List.lookup_cons, hq.1]
    cases hf : f == x.1 with
    | true => exact ⟨fun y z => (by cases z; exact ⟨_, rfl, hq.2⟩), fun z => (by cases z)⟩
    | false => exact ih
theorem FsOk.put {S : Hp} {r : List Addr} {vs : List (Str × V)} {fs : List (Str × Fv)} {x : Fv} {v : V} (q : FsOk K S r vs fs) (hx : FvOk K S r x v) : FsOk K S r (putF f v vs) (putFv f x fs) := by
  unfold FsOk at q
  induction q with
  | nil => exact .cons ⟨rfl, hx⟩ .nil
  | @cons w y vs fs hq q0 ih =>
    show FsOk K S r (if w.1 = f then (w.1, v) :: vs else (w.1, w.2) :: putF f v vs) (if y.1 = f then (y.1, x) :: fs else (y.1, y.2) :: putFv f x fs)
    rw [hq.1]
    split
    · exact .cons ⟨rfl, hx⟩ q0
    · exact .cons ⟨rfl, hq.2⟩ ih
theorem FsOk.len {S : Hp} {r : List Addr} {vs : List (Str × V)} {fs : List (Str × Fv)} (q : FsOk K S r vs fs) : vs.length = fs.length := paired_len q
theorem StOk.obj {l : Lo} {g : Sg} {s : L2.St} {H S : Hp} {r : List Addr} {A : List (Option Addr)} {j : Nat} {ad : Addr} {fs : List (Str × Fv)} (h : StOk K l g s H S r A) (hr : r[j]? = some ad) (hf : fsAt g j C = some fs) :
    ∃ (cls dx : Addr) (vs : List (Str × V)), K.mg C = some (.ref cls) ∧ H ad = some (.ins cls dx vs) ∧ FsOk K S r vs fs ∧
      ∀ (f : Str) (x : Fv) (v : V), FvOk K S r x v → StOk K l (g.set j (.ins C (putFv f x fs))) s (upd H ad (.ins cls dx (putF f v vs))) S r A ∧ Mv K S H r A S (upd H ad (.ins cls dx (putF f v vs))) r A := by
  obtain ⟨hS, cls, dx, vs, h1, h2, h3, h4⟩ := h.st j ad _ hr (fsAt_some hf)
  refine ⟨cls, dx, vs, h1, h2, h4, fun f x v hx => h.putR hr ⟨cls, dx, putF f v vs, h1, upd_same, ?_, h4.put hx⟩⟩
  rw [upd_ne fun z => by rw [z, h2] at h3; cases h3]
  exact h3
theorem s_hF (hn : FldOk K C f) (hh : EvH K te h) : EvH K (tFld K te f) (hF h C f) := fun l g d l' g' s H S r A e h0 Q q => by
  replace e := mb_some e; obtain ⟨j, l1, g1, e1, e⟩ := e
  replace e := mg_some e; obtain ⟨e, rfl, rfl⟩ := e
  replace e := Option.bind_eq_some_iff.mp e; obtain ⟨fs, e2, e⟩ := e
  refine hh _ _ _ _ _ s H S r A e1 h0 _ fun ad H1 S1 r1 A1 m1 h1 hr => ?_
  obtain ⟨cls, dx, vs, k1, k2, k3, _⟩ := h1.obj hr e2
  cases hx : fs.lookup f with
  | none => rw [hx] at e; cases e
  | some x =>
    rw [hx] at e
    cases x with
    | dat d => cases e
    | ref k =>
      cases e
      obtain ⟨v, hv, a', ha', rfl⟩ := (k3.look f).1 _ hx
      exact ⟨ad, cls, dx, vs, _, rfl, k2, (hn cls k1).1, (hn cls k1).2, hv, q a' H1 S1 r1 A1 m1 h1 ha'⟩
theorem s_fld (hn : FldOk K C f) (hh : EvH K te h) : EvS K (tFld K te f) (eFld h C f) := fun l g d l' g' s H S r A e h0 Q q => by
  replace e := mb_some e; obtain ⟨j, l1, g1, e1, e⟩ := e
  replace e := mg_some e; obtain ⟨e, rfl, rfl⟩ := e
  replace e := Option.bind_eq_some_iff.mp e; obtain ⟨fs, e2, e⟩ := e
  refine hh _ _ _ _ _ s H S r A e1 h0 _ fun ad H1 S1 r1 A1 m1 h1 hr => ?_
  obtain ⟨cls, dx, vs, k1, k2, k3, _⟩ := h1.obj hr e2
  cases hx : fs.lookup f with
  | none => rw [hx] at e; cases e
  | some x =>
    rw [hx] at e
    cases x with
    | ref k => cases e
    | dat k =>
      cases e
      obtain ⟨v, hv, hd⟩ := (k3.look f).1 _ hx
      exact ⟨ad, cls, dx, vs, v, rfl, k2, (hn cls k1).1, (hn cls k1).2, hv, q v H1 S1 r1 A1 m1 h1 hd⟩
theorem s_vH (hh : EvH K te h) : EvV K te (vH h) := fun l g d l' g' s H S r A e h0 Q q => by
  replace e := mb_some e; obtain ⟨j, l1, g1, e1, e⟩ := e
  obtain ⟨rfl, rfl, rfl⟩ := mp_some e
  exact hh _ _ _ _ _ s H S r A e1 h0 _ fun ad H1 S1 r1 A1 m1 h1 hr => q _ H1 S1 r1 A1 m1 h1 ⟨ad, hr, rfl⟩
theorem wr_some {j : Nat} {x : Fv} {g g' : Sg} (e : wrF j C f x g = some g') : ∃ fs, fsAt g j C = some fs ∧ fs.length < 900 ∧ g' = g.set j (.ins C (putFv f x fs)) := by
  unfold wrF at e
  replace e := Option.bind_eq_some_iff.mp e; obtain ⟨fs, e2, e⟩ := e
  split at e
  · cases e
    exact ⟨fs, e2, by assumption, rfl⟩
  · cases e
theorem x_fld (hn : FldOk K C f) (hh : EvH K te h) (ha : EvS K ta a) : ExS K (sFld K te ta f) (xFld h C f a) := fun l g o l' g' s H S r A e h0 D q => by
  replace e := mb_some e; obtain ⟨d, l1, g1, e1, e⟩ := e
  replace e := mb_some e; obtain ⟨j, l2, g2, e2, e⟩ := e
  obtain ⟨g3, e3, e⟩ := Option.map_eq_some_iff.mp e
  cases e
  obtain ⟨fs, e4, e5, rfl⟩ := wr_some e3
  refine ha _ _ _ _ _ s H S r A e1 h0 _ fun v1 H1 S1 r1 A1 m1 h1 d1 => hh _ _ _ _ _ s H1 S1 r1 A1 e2 h1 _ fun ad H2 S2 r2 A2 m2 h2 hr => ?_
  obtain ⟨cls, dx, vs, k1, k2, k3, k4⟩ := h2.obj hr e4
  obtain ⟨h3, m3⟩ := k4 f (.dat d) v1 (Dp_mono d1 m2.s)
  exact ⟨ad, cls, dx, vs, rfl, k2, (hn cls k1).1, (hn cls k1).2, by rw [k3.len]; omega, q s _ S2 r2 A2 ((m1.trans m2).trans m3) h3⟩
theorem fld_new {l1 l2 : Lo} {g1 g2 g3 : Sg} {s : L2.St} {H S H1 S1 : Hp} {r r1 : List Addr} {A A1 : List (Option Addr)} {p : Addr} {ob : Ob} {j : Nat} {D : Ends} (hn : FldOk K C f) (hh : EvH K te h) (m1 : Mv K S H r A S1 H1 r1 A1) (h1 : StOk K l1 g1 s H1 S1 r1 A1) (hp : H p = none) (ht : ¬ tr S1 H1 A1 r1 p) (sp : S1 p = none)
    (ok : ObOk K S1 H1 (r1 ++ [p]) p ob) (e2 : h l1 (g1 ++ [ob]) = some (j, l2, g2)) (e3 : wrF j C f (.ref g1.length) g2 = some g3) (q : ∀ s' H' S' r' A', Mv K S H r A S' H' r' A' → StOk K l2 g3 s' H' S' r' A' → OutOk K D S' r' s' H' .nx) :
    te s H1 fun x H2 => ∃ a C dx fs, x = .ref a ∧ H2 a = some (.ins C dx fs) ∧ Cls K C ∧ NoAttr K C f ∧ fs.length < 1000 ∧ D.nx s (upd H2 a (.ins C dx (putF f (.ref p) fs))) := by
  obtain ⟨fs, e4, e5, rfl⟩ := wr_some e3
  have h2 := h1.newR ht sp ok
  refine hh _ _ _ _ _ s H1 S1 _ A1 e2 h2 _ fun ad H2 S2 r2 A2 m2 h2' hr => ?_
  obtain ⟨cls, dx, vs, k1, k2, k3, k4⟩ := h2'.obj hr e4
  obtain ⟨h3, m3⟩ := k4 f (.ref g1.length) (.ref p) (by
    obtain ⟨q2, rfl⟩ := m2.p
    refine ⟨p, ?_, rfl⟩
    rw [← h1.lg, List.getElem?_append_left (by simp), List.getElem?_append_right (Nat.le_refl _)]
    simp)
  exact ⟨ad, cls, dx, vs, rfl, k2, (hn cls k1).1, (hn cls k1).2, by rw [k3.len]; omega, q s _ S2 r2 A2 (((m1.newR hp).trans m2).trans m3) h3⟩
theorem x_fldC {m : M (List (Key × PyData))} (hn : FldOk K C f) (hh : EvH K te h) (ha : EvC K ta m) : ExS K (sFld K te ta f) (xFldC h C f m) := fun l g o l' g' s H S r A e h0 D q => by
  replace e := mb_some e; obtain ⟨d, l1, g1, e1, e⟩ := e
  replace e := mb_some e; obtain ⟨j, l2, g2, e2, e⟩ := e
  obtain ⟨g3, e3, e⟩ := Option.map_eq_some_iff.mp e
  cases e
  exact ha _ _ _ _ _ s H S r A e1 h0 _ fun p xs H1 S1 r1 A1 m1 h1 hp ht sp hx hd => fld_new (ob := .dct d) hn hh m1 h1 hp ht sp ⟨xs, hx, hd⟩ e2 e3 q
theorem x_faug {op : PyData → PyData → Option PyData} {rd : V → V → Hp → VK → Prop} (hop : ∀ x y z, op x y = some z → ∃ i j n, x = .int i ∧ y = .int j ∧ z = .int n ∧ ∀ H (Q : VK), Q (.int n) H → rd (.int i) (.int j) H Q) (hn : FldOk K C f) (hh : EvH K te h) (hb : EvS K tb b) : ExS K (sFldAug K te tb rd f) (xFAug h C f op b) := fun l g o l' g' s H S r A e h0 D q => by
  replace e := mb_some e; obtain ⟨j, l1, g1, e1, e⟩ := e
  replace e := mb_some e; obtain ⟨d, l2, g2, e2, e⟩ := e
  replace e2 := mg_some e2; obtain ⟨e2, rfl, rfl⟩ := e2
  replace e2 := Option.bind_eq_some_iff.mp e2; obtain ⟨fs, e6, e2⟩ := e2
  replace e := mb_some e; obtain ⟨y, l3, g3, e3, e⟩ := e
  replace e := Option.bind_eq_some_iff.mp e; obtain ⟨z, ez, e⟩ := e
  obtain ⟨g4, e4, e⟩ := Option.map_eq_some_iff.mp e
  cases e
  obtain ⟨fs2, e7, e8, rfl⟩ := wr_some e4
  obtain ⟨i, k, n, rfl, rfl, rfl, hrd⟩ := hop _ _ _ ez
  refine hh _ _ _ _ _ s H S r A e1 h0 _ fun ad H1 S1 r1 A1 m1 h1 hr => ?_
  obtain ⟨cls, dx, vs, k1, k2, k3, _⟩ := h1.obj hr e6
  cases hx : fs.lookup f with
  | none => rw [hx] at e2; cases e2
  | some x =>
    rw [hx] at e2
    cases x with
    | ref k => cases e2
    | dat k =>
      cases e2
      obtain ⟨v, hv, hd⟩ := (k3.look f).1 _ hx
      refine ⟨ad, cls, dx, vs, v, rfl, k2, (hn cls k1).1, (hn cls k1).2, hv, hb _ _ _ _ _ s H1 S1 r1 A1 e3 h1 _ fun v2 H2 S2 r2 A2 m2 h2 d2 => ?_⟩
      cases hd
      cases d2
      refine hrd _ _ ?_
      have hr2 : r2[j]? = some ad := by
        obtain ⟨q2, rfl⟩ := m2.p
        rw [List.getElem?_append_left (List.getElem?_eq_some_iff.mp hr).1]
        exact hr
      obtain ⟨cls', dx', vs', c1, c2, c3, c4⟩ := h2.obj hr2 e7
      rw [k1] at c1
      cases c1
      obtain ⟨h3, m3⟩ := c4 f (.dat (.int n)) (.int n) (.int n)
      exact ⟨dx', vs', c2, by rw [c3.len]; omega, q s _ S2 r2 A2 ((m1.trans m2).trans m3) h3⟩
theorem x_faugA (hn : FldOk K C f) (hh : EvH K te h) (hb : EvS K tb b) : ExS K (sFldAug K te tb rAdd f) (xFAug h C f addI b) := x_faug (fun x y z e => by
  unfold addI iOp at e
  split at e
  · cases e
    exact ⟨_, _, _, rfl, rfl, rfl, fun H Q h => ⟨_, _, rfl, rfl, h⟩⟩
  · cases e) hn hh hb
theorem g_fld {l : Lo} {g g2 g3 : Sg} {l2 : Lo} {s : L2.St} {H S : Hp} {r : List Addr} {A : List (Option Addr)} {j : Nat} {d : PyData} {v : V} {Q : L2.St → Hp → Prop} (hn : FldOk K C f) (hh : EvH K te h) (h1 : StOk K l g s H S r A) (hd : Dp K S v d) (e2 : h l g = some (j, l2, g2)) (e3 : wrF j C f (.dat d) g2 = some g3)
    (q : ∀ H' S' r' A', Mv K S H r A S' H' r' A' → StOk K l2 g3 s H' S' r' A' → Q s H') : gFld K te f v s H Q := by
  obtain ⟨fs, e4, e5, rfl⟩ := wr_some e3
  refine hh _ _ _ _ _ s H S r A e2 h1 _ fun ad H2 S2 r2 A2 m2 h2 hr => ?_
  obtain ⟨cls, dx, vs, k1, k2, k3, k4⟩ := h2.obj hr e4
  obtain ⟨h3, m3⟩ := k4 f (.dat d) v (Dp_mono hd m2.s)
  exact ⟨ad, cls, dx, vs, rfl, k2, (hn cls k1).1, (hn cls k1).2, by rw [k3.len]; omega, q _ S2 r2 A2 (m2.trans m3) h3⟩
theorem x_fld2 {te2 : TE} (hn : FldOk K C f) (hn2 : FldOk K C f2) (hh : EvH K te h) (hh2 : EvH K te2 h2) (ha : EvS K ta a) : ExS K (tAsg2 ta (gFld K te f) (gFld K te2 f2)) (xFld2 h h2 C f f2 a) := fun l g o l' g' s H S r A e h0 D q => by
  replace e := mb_some e; obtain ⟨d, l1, g1, e1, e⟩ := e
  replace e := mb_some e; obtain ⟨j, l2, g2, e2, e⟩ := e
  replace e := Option.bind_eq_some_iff.mp e; obtain ⟨g3, e3, e⟩ := e
  replace e := mb_some e; obtain ⟨j2, l4, g4, e4, e⟩ := e
  obtain ⟨g5, e5, e⟩ := Option.map_eq_some_iff.mp e
  cases e
  refine ha _ _ _ _ _ s H S r A e1 h0 _ fun v1 H1 S1 r1 A1 m1 h1 d1 => g_fld hn hh h1 d1 e2 e3 fun H2 S2 r2 A2 m2 h2 => g_fld hn2 hh2 h2 (Dp_mono d1 m2.s) e4 e5 fun H3 S3 r3 A3 m3 h3 => ?_
  exact q s H3 S3 r3 A3 ((m1.trans m2).trans m3) h3
end
end Sm

namespace Sm
open PySem PySem.Spec PyProof.Rows L2 RZ SrtO Dz
def obD : Ob → Option (List (Key × PyData))
  | .dct kvs => some kvs
  | _ => none
def dAt (g : Sg) (j : Nat) : Option (List (Key × PyData)) := (g[j]?).bind obD
def eHget (h : M Nat) (b : M PyData) : M PyData := mb h fun j => mb b fun y => mg fun _ g => (dAt g j).bind fun kvs => (keyO y).bind fun k => valG kvs k
def eHget2 (h : M Nat) (b c : M PyData) : M PyData := mb h fun j => mb (mg fun _ g => dAt g j) fun _ => mb b fun y => mb c fun z => mg fun _ g => (dAt g j).bind fun kvs => (keyO y).map fun k => (valG kvs k).getD z
def eHin (neg : Bool) (a : M PyData) (h : M Nat) : M PyData := mb a fun y => mb h fun j => mg fun _ g => (dAt g j).bind fun kvs => (keyO y).map fun k => .bool (if neg = true then !(valG kvs k).isSome else (valG kvs k).isSome)
def eHlenD (h : M Nat) : M PyData := mb h fun j => mg fun _ g => (dAt g j).map fun kvs => .int kvs.length
def lHvals (h : M Nat) : M (List PyData) := mb h fun j => mg fun _ g => (dAt g j).map fun kvs => kvs.map (·.2)
def xHput (h : M Nat) (b a : M PyData) : X := mb a fun x => mb h fun j => mb b fun y => fun l g => match dAt g j, keyO y with
  | some kvs, some k => if kvs.length < 4000000 then some (.nx, l, g.set j (.dct (putG kvs k x))) else none
  | _, _ => none
section
variable {K : Kx} {te ta tb tc : TE} {h : M Nat} {a b c : M PyData} {l : Lo} {g : Sg} {s : L2.St} {H S H1 S1 : Hp} {r r1 : List Addr} {A A1 : List (Option Addr)} {j : Nat} {ad : Addr} {kvs : List (Key × PyData)} {ds : List PyData}
theorem dAt_some (e : dAt g j = some kvs) : g[j]? = some (.dct kvs) := by
  unfold dAt at e
  replace e := Option.bind_eq_some_iff.mp e; obtain ⟨o, e1, e⟩ := e
  cases o <;> cases e
  exact e1
theorem Mv.at_ (m : Mv K S H r A S1 H1 r1 A1) (e : r[j]? = some ad) : r1[j]? = some ad := by
  obtain ⟨q, rfl⟩ := m.p
  rw [List.getElem?_append_left (List.getElem?_eq_some_iff.mp e).1]
  exact e
theorem StOk.dctAt (h : StOk K l g s H S r A) (hr : r[j]? = some ad) (e : dAt g j = some kvs) : ∃ ws, H ad = some (.dK ws) ∧ KvD K S ws kvs ∧
    ∀ ys es, KvD K S ys es → StOk K l (g.set j (.dct es)) s (upd H ad (.dK ys)) S r A ∧ Mv K S H r A S (upd H ad (.dK ys)) r A := by
  obtain ⟨_, ws, q1, q2⟩ := h.st j ad _ hr (dAt_some e)
  exact ⟨ws, q1, q2, fun ys es hd => h.putR hr ⟨ys, upd_same, hd⟩⟩
theorem s_hget (hh : EvH K te h) (hb : EvS K tb b) : EvS K (tDGet te tb) (eHget h b) := fun l g d l' g' s H S r A e h0 Q q => by
  replace e := mb_some e; obtain ⟨j, l1, g1, e1, e⟩ := e
  replace e := mb_some e; obtain ⟨y, l2, g2, e2, e⟩ := e
  replace e := mg_some e; obtain ⟨e, rfl, rfl⟩ := e
  replace e := Option.bind_eq_some_iff.mp e; obtain ⟨kvs, e3, e⟩ := e
  replace e := Option.bind_eq_some_iff.mp e; obtain ⟨k, e4, e⟩ := e
  cases keyO_some e4
  refine hh _ _ _ _ _ s H S r A e1 h0 _ fun ad H1 S1 r1 A1 m1 h1 hr => hb _ _ _ _ _ s H1 S1 r1 A1 e2 h1 _ fun v2 H2 S2 r2 A2 m2 h2 d2 => ?_
  obtain ⟨ws, q3, q4, _⟩ := h2.dctAt (m2.at_ hr) e3
  obtain ⟨v, hv, hd⟩ := q4.val.1 d e
  exact ⟨ad, v, rfl, .inl ⟨ws, k, .inl q3, key_dp d2, hv.symm⟩, q v H2 S2 r2 A2 (m1.trans m2) h2 hd⟩
theorem s_hget2 (hh : EvH K te h) (hb : EvS K tb b) (hc : EvS K tc c) : EvS K (tDGet2 te tb tc) (eHget2 h b c) := fun l g d l' g' s H S r A e h0 Q q => by
  replace e := mb_some e; obtain ⟨j, l1, g1, e1, e⟩ := e
  replace e := mb_some e; obtain ⟨kv0, l0, g0, e0, e⟩ := e
  replace e0 := mg_some e0; obtain ⟨e0, rfl, rfl⟩ := e0
  replace e := mb_some e; obtain ⟨y, l2, g2, e2, e⟩ := e
  replace e := mb_some e; obtain ⟨z, l3, g3, e5, e⟩ := e
  replace e := mg_some e; obtain ⟨e, rfl, rfl⟩ := e
  replace e := Option.bind_eq_some_iff.mp e; obtain ⟨kvs, e3, e⟩ := e
  obtain ⟨k, e4, rfl⟩ := Option.map_eq_some_iff.mp e
  cases keyO_some e4
  refine hh _ _ _ _ _ s H S r A e1 h0 _ fun ad H1 S1 r1 A1 m1 h1 hr => ?_
  obtain ⟨ws0, p3, _⟩ := h1.dctAt hr e0
  refine ⟨ad, rfl, .inl ⟨ws0, .inl p3⟩, hb _ _ _ _ _ s H1 S1 r1 A1 e2 h1 _ fun v2 H2 S2 r2 A2 m2 h2 d2 => hc _ _ _ _ _ s H2 S2 r2 A2 e5 h2 _ fun v3 H3 S3 r3 A3 m3 h3 d3 => ?_⟩
  obtain ⟨ws, q3, q4, _⟩ := h3.dctAt (m3.at_ (m2.at_ hr)) e3
  refine ⟨valV ws k, .inl ⟨ws, k, .inl q3, key_dp d2, rfl⟩, ?_⟩
  cases hq : valG kvs k with
  | none =>
    rw [q4.val.2 hq]
    exact q v3 H3 S3 r3 A3 ((m1.trans m2).trans m3) h3 (by rw [hq]; exact d3)
  | some x =>
    obtain ⟨v, hv, hd⟩ := q4.val.1 x hq
    rw [hv]
    exact q v H3 S3 r3 A3 ((m1.trans m2).trans m3) h3 (by rw [hq]; exact hd)
theorem s_hin (ha : EvS K ta a) (hh : EvH K te h) : EvS K (tDIn ta te) (eHin false a h) := fun l g d l' g' s H S r A e h0 Q q => by
  replace e := mb_some e; obtain ⟨y, l1, g1, e1, e⟩ := e
  replace e := mb_some e; obtain ⟨j, l2, g2, e2, e⟩ := e
  replace e := mg_some e; obtain ⟨e, rfl, rfl⟩ := e
  replace e := Option.bind_eq_some_iff.mp e; obtain ⟨kvs, e3, e⟩ := e
  obtain ⟨k, e4, rfl⟩ := Option.map_eq_some_iff.mp e
  cases keyO_some e4
  refine ha _ _ _ _ _ s H S r A e1 h0 _ fun v1 H1 S1 r1 A1 m1 h1 d1 => hh _ _ _ _ _ s H1 S1 r1 A1 e2 h1 _ fun ad H2 S2 r2 A2 m2 h2 hr => ?_
  obtain ⟨ws, q3, q4, _⟩ := h2.dctAt hr e3
  refine ⟨ad, _, rfl, .inl ⟨ws, k, .inl q3, key_dp (Dp_mono d1 m2.s), rfl⟩, q _ H2 S2 r2 A2 (m1.trans m2) h2 ?_⟩
  rw [if_neg Bool.false_ne_true, ← val_some q4]
  exact .bl _
theorem s_hlenD (hh : EvH K te h) : EvS K (tCB (fun xs H Q => ∃ a kvs, xs = [V.ref a] ∧ H a = some (.dK kvs) ∧ Q (.int kvs.length) H) (tCons te tNil)) (eHlenD h) := fun l g d l' g' s H S r A e h0 Q q => by
  replace e := mb_some e; obtain ⟨j, l1, g1, e1, e⟩ := e
  replace e := mg_some e; obtain ⟨e, rfl, rfl⟩ := e
  obtain ⟨kvs, e2, rfl⟩ := Option.map_eq_some_iff.mp e
  refine hh _ _ _ _ _ s H S r A e1 h0 _ fun ad H1 S1 r1 A1 m1 h1 hr => ?_
  obtain ⟨ws, q3, q4, _⟩ := h1.dctAt hr e2
  exact ⟨ad, ws, rfl, q3, q _ H1 S1 r1 A1 m1 h1 (by rw [q4.len]; exact .int _)⟩
theorem kv_vals {S : Hp} {ws : List (Key × V)} (h : KvD K S ws kvs) : DpAll K S (ws.map (·.2)) (kvs.map (·.2)) := by
  unfold KvD at h
  induction h with
  | nil => exact .nil
  | cons hq _ ih => exact .cons hq.2 ih
theorem s_hvals (hh : EvH K te h) : EvL K (tListVals te) (lHvals h) := fun l g d l' g' s H S r A e h0 Q q => by
  replace e := mb_some e; obtain ⟨j, l1, g1, e1, e⟩ := e
  replace e := mg_some e; obtain ⟨e, rfl, rfl⟩ := e
  obtain ⟨kvs, e2, rfl⟩ := Option.map_eq_some_iff.mp e
  refine hh _ _ _ _ _ s H S r A e1 h0 _ fun ad H1 S1 r1 A1 m1 h1 hr => ?_
  obtain ⟨ws, q3, q4, _⟩ := h1.dctAt hr e2
  exact ⟨ad, ws, rfl, q3, new_l m1 h1 (kv_vals q4) q⟩
theorem x_hput (hh : EvH K te h) (hb : EvS K tb b) (ha : EvS K ta a) : ExS K (sDPut te tb ta) (xHput h b a) := fun l g o l' g' s H S r A e h0 D q => by
  replace e := mb_some e; obtain ⟨x, l1, g1, e1, e⟩ := e
  replace e := mb_some e; obtain ⟨j, l2, g2, e2, e⟩ := e
  replace e := mb_some e; obtain ⟨y, l3, g3, e3, e⟩ := e
  split at e
  · rename_i kvs k e4 e5
    split at e
    · rename_i hz
      cases e
      cases keyO_some e5
      refine ha _ _ _ _ _ s H S r A e1 h0 _ fun v1 H1 S1 r1 A1 m1 h1 d1 => hh _ _ _ _ _ s H1 S1 r1 A1 e2 h1 _ fun ad H2 S2 r2 A2 m2 h2 hr => hb _ _ _ _ _ s H2 S2 r2 A2 e3 h2 _ fun v3 H3 S3 r3 A3 m3 h3 d3 => ?_
      obtain ⟨ws, q3, q4, q5⟩ := h3.dctAt (m3.at_ hr) e4
      obtain ⟨h4, m4⟩ := q5 _ _ (q4.put (k := k) (Dp_mono (Dp_mono d1 m2.s) m3.s))
      exact ⟨ad, _, rfl, .inl ⟨ws, k, q3, key_dp d3, szt (by rw [q4.len]; exact hz), rfl⟩, q s _ S3 r3 A3 (((m1.trans m2).trans m3).trans m4) h4⟩
    · cases e
  · cases e
end
theorem ok_ref {K : Kx} {S : Hp} {r : List Addr} {j : Nat} {ad : Addr} (h : r[j]? = some ad) : VOk K S r (.ref ad) (.ref j) := ⟨ad, h, rfl⟩
def noFo : Option Fv → Option Unit
  | none => some ()
  | some _ => none
def noF (g : Sg) (j : Nat) (C m : Str) : Option Unit := (fsAt g j C).bind fun fs => noFo (fs.lookup m)
def runF (F : FS) (as : List Vl) : M Vl := fun l g => match F as g with
  | none => none
  | some (v, g') => some (v, l, g')
def vMeth (F : FS) (C m : Str) (ds : List PyData) (h : M Nat) (a : M (List Vl)) : M Vl := mb h fun j => mb (mg fun _ g => noF g j C m) fun _ => mb a fun xs => runF F (.ref j :: (xs ++ ds.map .dat))
def vMethK (F : FS) (C m : Str) (gS : List Vl → List Vl → List Vl) (h : M Nat) (a k : M (List Vl)) : M Vl := mb h fun j => mb (mg fun _ g => noF g j C m) fun _ => mb a fun xs => mb k fun zs => runF F (gS (.ref j :: xs) zs)
def eMeth (F : FS) (C m : Str) (ds : List PyData) (h : M Nat) (a : M (List Vl)) : M PyData := eD (vMeth F C m ds h a)
def eMethK (F : FS) (C m : Str) (gS : List Vl → List Vl → List Vl) (h : M Nat) (a k : M (List Vl)) : M PyData := eD (vMethK F C m gS h a k)
def asR (j : Nat) : Vl → Option Vl
  | .dat .none => some (.ref j)
  | _ => none
def vMake (F : FS) (C : Str) (ds : List PyData) (a : M (List Vl)) : M Vl := mb a fun xs => fun l g => mb (runF F (.ref g.length :: (xs ++ ds.map .dat))) (fun v => mo (asR g.length v)) l (g ++ [.ins C []])
def vMakeK (F : FS) (C : Str) (gS : List Vl → List Vl → List Vl) (a k : M (List Vl)) : M Vl := mb a fun xs => mb k fun zs => fun l g => mb (runF F (gS (.ref g.length :: xs) zs)) (fun v => mo (asR g.length v)) l (g ++ [.ins C []])
section
variable {K : Kx} {te : TE} {ta tk : TA} {h : M Nat} {a k : M (List Vl)} {C m : Str} {F : FS} {n c q : Nat} {dv : List V} {ds : List PyData} {gv : List V → List V → List V} {gs : List Vl → List Vl → List Vl}
theorem runF_some {as : List Vl} {l l' : Lo} {g g' : Sg} {v : Vl} (e : runF F as l g = some (v, l', g')) : F as g = some (v, g') ∧ l' = l := by
  unfold runF at e
  split at e
  · cases e
  · cases e
    exact ⟨by assumption, rfl⟩
theorem noF_some {g : Sg} {j : Nat} {u : Unit} (e : noF g j C m = some u) : ∃ fs, fsAt g j C = some fs ∧ fs.lookup m = none := by
  unfold noF at e
  replace e := Option.bind_eq_some_iff.mp e; obtain ⟨fs, e1, e⟩ := e
  refine ⟨fs, e1, ?_⟩
  cases hx : fs.lookup m with
  | none => rfl
  | some x => rw [hx] at e; cases e
theorem s_vmeth (hh : EvH K te h) (ha : EvVA K ta a) (hn : ∀ l g xs l' g', a l g = some (xs, l', g') → xs.length = n) (hd : ∀ S, DpAll K S dv ds) (hc : n + ds.length + 1 = c) : EvV K (tMethN K C m (spG K c F) dv te ta) (vMeth F C m ds h a) := fun l g d l' g' s H S r A e h0 Q q => by
  replace e := mb_some e; obtain ⟨j, l1, g1, e1, e⟩ := e
  replace e := mb_some e; obtain ⟨u, l0, g0, e0, e⟩ := e
  replace e0 := mg_some e0; obtain ⟨e0, rfl, rfl⟩ := e0
  replace e := mb_some e; obtain ⟨xs, l2, g2, e2, e⟩ := e
  obtain ⟨e3, rfl⟩ := runF_some e
  obtain ⟨fs, e4, e5⟩ := noF_some e0
  refine hh _ _ _ _ _ s H S r A e1 h0 _ fun ad H1 S1 r1 A1 m1 h1 hr => ?_
  obtain ⟨cls, dx, vs, k1, k2, k3, _⟩ := h1.obj hr e4
  refine ⟨ad, cls, dx, vs, k1, rfl, k2, (k3.look m).2 e5, ha _ _ _ _ _ s H1 S1 r1 A1 e2 h1 _ fun ws H2 S2 r2 A2 m2 h2 d2 => ?_⟩
  refine call_at h2 (.cons (ok_ref (m2.at_ hr)) (vs_app d2 (dp_dats (hd S2)))) ?_ e3 fun w H3 S3 r3 m3 h3 d3 => q w H3 S3 r3 A2 ((m1.trans m2).trans m3) h3 d3
  rw [List.length_cons, List.length_append, List.length_map, hn _ _ _ _ _ e2]
  exact hc
theorem s_meth (hh : EvH K te h) (ha : EvVA K ta a) (hn : ∀ l g xs l' g', a l g = some (xs, l', g') → xs.length = n) (hd : ∀ S, DpAll K S dv ds) (hc : n + ds.length + 1 = c) : EvS K (tMethN K C m (spG K c F) dv te ta) (eMeth F C m ds h a) := s_eD (s_vmeth hh ha hn hd hc)
theorem s_vmethK (hg : ∀ S r vs zs as ks, VsOk K S r vs as → VsOk K S r zs ks → VsOk K S r (gv vs zs) (gs as ks)) (hc : ∀ as ks, as.length = n + 1 → ks.length = q → (gs as ks).length = c) (hh : EvH K te h) (ha : EvVA K ta a) (hk : EvVA K tk k) (hn : ∀ l g xs l' g', a l g = some (xs, l', g') → xs.length = n) (hm : ∀ l g xs l' g', k l g = some (xs, l', g') → xs.length = q) :
    EvV K (tMethK K C m n q (spG K c F) gv te ta tk) (vMethK F C m gs h a k) := fun l g d l' g' s H S r A e h0 Q qq => by
  replace e := mb_some e; obtain ⟨j, l1, g1, e1, e⟩ := e
  replace e := mb_some e; obtain ⟨u, l0, g0, e0, e⟩ := e
  replace e0 := mg_some e0; obtain ⟨e0, rfl, rfl⟩ := e0
  replace e := mb_some e; obtain ⟨xs, l2, g2, e2, e⟩ := e
  replace e := mb_some e; obtain ⟨zs, l3, g3, e6, e⟩ := e
  obtain ⟨e3, rfl⟩ := runF_some e
  obtain ⟨fs, e4, e5⟩ := noF_some e0
  refine hh _ _ _ _ _ s H S r A e1 h0 _ fun ad H1 S1 r1 A1 m1 h1 hr => ?_
  obtain ⟨cls, dx, vs, k1, k2, k3, _⟩ := h1.obj hr e4
  refine ⟨ad, cls, dx, vs, k1, rfl, k2, (k3.look m).2 e5, ha _ _ _ _ _ s H1 S1 r1 A1 e2 h1 _ fun ws H2 S2 r2 A2 m2 h2 d2 => hk _ _ _ _ _ s H2 S2 r2 A2 e6 h2 _ fun us H3 S3 r3 A3 m3 h3 d3 => ?_⟩
  have z1 := hn _ _ _ _ _ e2
  have z2 := hm _ _ _ _ _ e6
  refine ⟨by rw [paired_len d2, z1], by rw [paired_len d3, z2], ?_⟩
  refine call_at h3 (hg _ _ _ _ _ _ (.cons (ok_ref (m3.at_ (m2.at_ hr))) (d2.go m3.s m3.p)) d3) (hc _ _ (by rw [List.length_cons, z1]) z2) e3 fun w H4 S4 r4 m4 h4 d4 => qq w H4 S4 r4 A3 (((m1.trans m2).trans m3).trans m4) h4 d4
theorem s_methK (hg : ∀ S r vs zs as ks, VsOk K S r vs as → VsOk K S r zs ks → VsOk K S r (gv vs zs) (gs as ks)) (hc : ∀ as ks, as.length = n + 1 → ks.length = q → (gs as ks).length = c) (hh : EvH K te h) (ha : EvVA K ta a) (hk : EvVA K tk k) (hn : ∀ l g xs l' g', a l g = some (xs, l', g') → xs.length = n) (hm : ∀ l g xs l' g', k l g = some (xs, l', g') → xs.length = q) :
    EvS K (tMethK K C m n q (spG K c F) gv te ta tk) (eMethK F C m gs h a k) := s_eD (s_vmethK hg hc hh ha hk hn hm)
theorem StOk.newI {l : Lo} {g : Sg} {s : L2.St} {H S H0 S0 : Hp} {r r0 : List Addr} {A A0 : List (Option Addr)} {cls x dx : Addr} (h : StOk K l g s H S r A) (m0' : Mv K S0 H0 r0 A0 S H r A) (hc : K.mg C = some (.ref cls)) (hx : H x = none) (hdx : H dx = none) (ne : dx ≠ x) :
    StOk K l (g ++ [.ins C []]) s (upd (upd H dx (.own x)) x (.ins cls dx [])) S (r ++ [x]) A ∧ Mv K S0 H0 r0 A0 S (upd (upd H dx (.own x)) x (.ins cls dx [])) (r ++ [x]) A ∧ (r ++ [x])[g.length]? = some x := by
  have g1 : Grow m0 S H S (upd H dx (.own x)) := Grow.out h.hs hdx
  have hx2 : upd H dx (.own x) x = none := by rw [upd_ne fun z => ne z.symm]; exact hx
  have g2 : Grow m0 S (upd H dx (.own x)) S (upd (upd H dx (.own x)) x (.ins cls dx [])) := Grow.out g1.f hx2
  have h2 := (h.grow g1).grow g2
  have m2 := (m0'.trans (Mv.grow g1)).trans (Mv.grow g2)
  have hx0 : H0 x = none := by
    cases e : H0 x with
    | none => rfl
    | some o => exact absurd hx (m0'.d x (some_ne e))
  refine ⟨h2.newR (o := .ins C []) (fun z => (h.there (tr_upd (tr_upd z))).1 hx) (h.hs.free hx) ⟨cls, dx, [], hc, upd_same, ?_, .nil⟩, m2.newR hx0, ?_⟩
  · rw [upd_ne ne, upd_same]
  · rw [← h.lg, List.getElem?_append_right (Nat.le_refl _)]
    simp
theorem make_at {l l' : Lo} {g g' : Sg} {s : L2.St} {H S H0 S0 : Hp} {r r0 : List Addr} {A A0 : List (Option Addr)} {vs : List V} {as : List Vl} {d : Vl} {Q : VK} {E : XK} {cls x dx : Addr} (h : StOk K l g s H S r A) (m1 : Mv K S0 H0 r0 A0 S H r A) (hc : K.mg C = some (.ref cls)) (hx : H x = none) (hdx : H dx = none) (ne : dx ≠ x)
    (hv : ∀ S' r', Same S S' → (∃ q, r' = r ++ q) → r'[g.length]? = some x → VsOk K S' r' vs as) (hn : as.length = c) (e : mb (runF F as) (fun v => mo (asR g.length v)) l (g ++ [.ins C []]) = some (d, l', g'))
    (q : ∀ w H1 S1 r1, Mv K S0 H0 r0 A0 S1 H1 r1 A → StOk K l' g' s H1 S1 r1 A → VOk K S1 r1 w d → Q w H1) : spG K c F vs (upd (upd H dx (.own x)) x (.ins cls dx [])) (fun v H2 => v = .non ∧ Q (.ref x) H2) E := by
  replace e := mb_some e; obtain ⟨v, l2, g2, e1, e⟩ := e
  obtain ⟨e3, rfl⟩ := runF_some e1
  replace e := mo_some e; obtain ⟨e, rfl, rfl⟩ := e
  obtain ⟨h2, m2, hr⟩ := h.newI m1 hc hx hdx ne
  have ev : v = .dat .none ∧ d = .ref g.length := by
    unfold asR at e
    split at e
    · cases e; exact ⟨rfl, rfl⟩
    · cases e
  obtain ⟨rfl, rfl⟩ := ev
  refine call_at h2 (hv S (r ++ [x]) (Same.refl S) ⟨[x], rfl⟩ hr) hn e3 fun w H3 S3 r3 m3 h3 d3 => ?_
  have d3 : Dp K S3 w .none := d3
  cases d3
  exact ⟨rfl, q (.ref x) H3 S3 r3 (m2.trans m3) h3 ⟨x, m3.at_ hr, rfl⟩⟩
theorem s_makeK (hg : ∀ S r vs zs as ks, VsOk K S r vs as → VsOk K S r zs ks → VsOk K S r (gv vs zs) (gs as ks)) (hc : ∀ as ks, as.length = n + 1 → ks.length = q → (gs as ks).length = c) (ha : EvVA K ta a) (hk : EvVA K tk k) (hn : ∀ l g xs l' g', a l g = some (xs, l', g') → xs.length = n) (hm : ∀ l g xs l' g', k l g = some (xs, l', g') → xs.length = q) :
    EvV K (tMakeNK K C n q (spG K c F) gv ta tk) (vMakeK F C gs a k) := fun l g d l' g' s H S r A e h0 Q qq => by
  replace e := mb_some e; obtain ⟨xs, l1, g1, e1, e⟩ := e
  replace e := mb_some e; obtain ⟨zs, l2, g2, e2, e⟩ := e
  refine ha _ _ _ _ _ s H S r A e1 h0 _ fun ws H1 S1 r1 A1 m1 h1 d1 => hk _ _ _ _ _ s H1 S1 r1 A1 e2 h1 _ fun us H2 S2 r2 A2 m2 h2 d2 => ?_
  have z1 := hn _ _ _ _ _ e1
  have z2 := hm _ _ _ _ _ e2
  refine ⟨by rw [paired_len d1, z1], by rw [paired_len d2, z2], fun cls x dx k1 k2 k3 k4 => ?_⟩
  refine make_at h2 (m1.trans m2) k1 k2 k3 k4 (fun S' r' a1 a2 a3 => hg _ _ _ _ _ _ (.cons (ok_ref a3) ((d1.go m2.s m2.p).go a1 a2)) (d2.go a1 a2)) (hc _ _ (by rw [List.length_cons, z1]) z2) e fun w H3 S3 r3 m3 h3 d3 => qq w H3 S3 r3 A2 m3 h3 d3
end
end Sm

namespace Sm
open PySem PySem.Spec PyProof.Rows L2 RZ SrtO Dz
section
variable {l l1 : Lo} {g g1 : Sg} {i j k : Nat} {h h2 h3 : M Nat} {C f f2 f3 : Str} {a b c : M PyData}
theorem wp_hV {Q : Nat → Lo → Sg → Prop} (e : l[i]? = some (.ref j)) (q : Q j l g) : Wp (hV i) l g Q := ⟨j, l, g, mg_ev (by rw [e]), q⟩
theorem wp_hF {Q : Nat → Lo → Sg → Prop} (hh : Wp h l g fun j l1 g1 => ∃ fs k, g1[j]? = some (.ins C fs) ∧ fs.lookup f = some (.ref k) ∧ Q k l1 g1) : Wp (hF h C f) l g Q := by
  obtain ⟨j, l1, g1, e, fs, k, e1, e2, q⟩ := hh
  exact wp_mb ⟨j, l1, g1, e, wp_mg ⟨k, by rw [fsAt_of e1]; show fvR (fs.lookup f) = _; rw [e2]; rfl, q⟩⟩
theorem wp_eFld {Q : PyData → Lo → Sg → Prop} (hh : Wp h l g fun j l1 g1 => ∃ fs d, g1[j]? = some (.ins C fs) ∧ fs.lookup f = some (.dat d) ∧ Q d l1 g1) : Wp (eFld h C f) l g Q := by
  obtain ⟨j, l1, g1, e, fs, k, e1, e2, q⟩ := hh
  exact wp_mb ⟨j, l1, g1, e, wp_mg ⟨k, by rw [fsAt_of e1]; show fvD (fs.lookup f) = _; rw [e2]; rfl, q⟩⟩
theorem wp_vH {Q : Vl → Lo → Sg → Prop} (hh : Wp h l g fun j l1 g1 => Q (.ref j) l1 g1) : Wp (vH h) l g Q := wp_mb (wp_mono hh fun _ _ _ q => wp_mp q)
theorem wp_vHc {m : M (List Vl)} {Q : List Vl → Lo → Sg → Prop} (q : Wp h l g fun j l1 g1 => Wp m l1 g1 fun xs l2 g2 => Q (.ref j :: xs) l2 g2) : Wp (vCons (vH h) m) l g Q := wp_mb (wp_mb (wp_mono q fun _ _ _ q => wp_mp (wp_mb (wp_mono q fun _ _ _ q => wp_mp q))))
theorem wr_of {x : Fv} {fs : List (Str × Fv)} (e : g[j]? = some (.ins C fs)) (hz : fs.length < 900) : wrF j C f x g = some (g.set j (.ins C (putFv f x fs))) := by
  unfold wrF
  rw [fsAt_of e]
  show (if fs.length < 900 then _ else _) = _
  rw [if_pos hz]
section
variable {Q : Out → Lo → Sg → Prop}
theorem wp_xFld (hh : Wp a l g fun d l1 g1 => Wp h l1 g1 fun j l2 g2 => ∃ fs fs', g2[j]? = some (.ins C fs) ∧ fs.length < 900 ∧ putFv f (.dat d) fs = fs' ∧ Q .nx l2 (g2.set j (.ins C fs'))) : Wp (xFld h C f a) l g Q := by
  refine wp_mb (wp_mono hh fun d l1 g1 hh => wp_mb (wp_mono hh fun j l2 g2 hh => ?_))
  obtain ⟨fs, fs', e1, e2, rfl, q⟩ := hh
  exact ⟨_, _, _, by (try dsimp only); rw [wr_of e1 e2]; rfl, q⟩
theorem wp_xFldC {m : M (List (Key × PyData))} (hh : Wp m l g fun d l1 g1 => Wp h l1 (g1 ++ [.dct d]) fun j l2 g2 => ∃ fs fs', g2[j]? = some (.ins C fs) ∧ fs.length < 900 ∧ putFv f (.ref g1.length) fs = fs' ∧ Q .nx l2 (g2.set j (.ins C fs'))) : Wp (xFldC h C f m) l g Q := by
  refine wp_mb (wp_mono hh fun d l1 g1 hh => wp_mb (wp_mono hh fun j l2 g2 hh => ?_))
  obtain ⟨fs, fs', e1, e2, rfl, q⟩ := hh
  exact ⟨_, _, _, by (try dsimp only); rw [wr_of e1 e2]; rfl, q⟩
theorem wp_xFAug {op : PyData → PyData → Option PyData} (hh : Wp h l g fun j l1 g1 => ∃ fs d, g1[j]? = some (.ins C fs) ∧ fs.lookup f = some (.dat d) ∧ Wp b l1 g1 fun y l2 g2 => Has (op d y) fun z => ∃ fs2 fs', g2[j]? = some (.ins C fs2) ∧ fs2.length < 900 ∧ putFv f (.dat z) fs2 = fs' ∧ Q .nx l2 (g2.set j (.ins C fs'))) : Wp (xFAug h C f op b) l g Q := by
  refine wp_mb (wp_mono hh fun j l1 g1 hh => ?_)
  obtain ⟨fs, d, e1, e2, hh⟩ := hh
  refine wp_mb (wp_mg ⟨d, by rw [fsAt_of e1]; show fvD (fs.lookup f) = _; rw [e2]; rfl, wp_mb (wp_mono hh fun y l2 g2 hh => ?_)⟩)
  obtain ⟨z, ez, fs2, fs', e3, e4, rfl, q⟩ := hh
  exact ⟨_, _, _, by (try dsimp only); rw [ez]; show (wrF j C f (.dat z) g2).map _ = _; rw [wr_of e3 e4]; rfl, q⟩
theorem wp_xFld2 (hh : Wp a l g fun d l1 g1 => Wp h l1 g1 fun j l2 g2 => ∃ fs fs', g2[j]? = some (.ins C fs) ∧ fs.length < 900 ∧ putFv f (.dat d) fs = fs' ∧ Wp h2 l2 (g2.set j (.ins C fs')) fun j2 l3 g3 => ∃ fs2 fs3, g3[j2]? = some (.ins C fs2) ∧ fs2.length < 900 ∧ putFv f2 (.dat d) fs2 = fs3 ∧ Q .nx l3 (g3.set j2 (.ins C fs3))) : Wp (xFld2 h h2 C f f2 a) l g Q := by
  refine wp_mb (wp_mono hh fun d l1 g1 hh => wp_mb (wp_mono hh fun j l2 g2 hh => ?_))
  obtain ⟨fs, fs', e1, e2, rfl, j2, l3, g3, e3, fs2, fs3, e4, e5, rfl, q⟩ := hh
  refine ⟨_, _, _, ?_, q⟩
  (try dsimp only)
  rw [wr_of e1 e2]
  show mb h2 _ l2 _ = _
  unfold mb
  rw [e3]
  show (wrF j2 C f2 (.dat d) g3).map _ = _
  rw [wr_of e4 e5]
  rfl
theorem wp_xHput (hh : Wp a l g fun x l1 g1 => Wp h l1 g1 fun j l2 g2 => Wp b l2 g2 fun y l3 g3 => ∃ kvs k, g3[j]? = some (.dct kvs) ∧ keyO y = some k ∧ kvs.length < 4000000 ∧ Q .nx l3 (g3.set j (.dct (putG kvs k x)))) : Wp (xHput h b a) l g Q := by
  refine wp_mb (wp_mono hh fun x l1 g1 hh => wp_mb (wp_mono hh fun j l2 g2 hh => wp_mb (wp_mono hh fun y l3 g3 hh => ?_)))
  obtain ⟨kvs, k, e1, e2, e3, q⟩ := hh
  refine ⟨_, _, _, ?_, q⟩
  have : dAt g3 j = some kvs := by unfold dAt; rw [e1]; rfl
  (try dsimp only)
  rw [this, e2]
  show (if kvs.length < 4000000 then _ else _) = _
  rw [if_pos e3]
end
section
variable {Q : PyData → Lo → Sg → Prop}
theorem wp_eHget (hh : Wp h l g fun j l1 g1 => Wp b l1 g1 fun y l2 g2 => ∃ kvs k d, g2[j]? = some (.dct kvs) ∧ keyO y = some k ∧ valG kvs k = some d ∧ Q d l2 g2) : Wp (eHget h b) l g Q := by
  refine wp_mb (wp_mono hh fun j l1 g1 hh => wp_mb (wp_mono hh fun y l2 g2 hh => ?_))
  obtain ⟨kvs, k, d, e1, e2, e3, q⟩ := hh
  refine wp_mg ⟨d, ?_, q⟩
  have : dAt g2 j = some kvs := by unfold dAt; rw [e1]; rfl
  rw [this, Option.bind_some, e2, Option.bind_some, e3]
theorem wp_eHget2 (hh : Wp h l g fun j l1 g1 => ∃ kvs0, g1[j]? = some (.dct kvs0) ∧ Wp b l1 g1 fun y l2 g2 => Wp c l2 g2 fun z l3 g3 => ∃ kvs k, g3[j]? = some (.dct kvs) ∧ keyO y = some k ∧ Q ((valG kvs k).getD z) l3 g3) : Wp (eHget2 h b c) l g Q := by
  refine wp_mb (wp_mono hh fun j l1 g1 hh => ?_)
  obtain ⟨kvs0, e0, hh⟩ := hh
  refine wp_mb (wp_mg ⟨kvs0, by unfold dAt; rw [e0]; rfl, wp_mb (wp_mono hh fun y l2 g2 hh => wp_mb (wp_mono hh fun z l3 g3 hh => ?_))⟩)
  obtain ⟨kvs, k, e1, e2, q⟩ := hh
  refine wp_mg ⟨_, ?_, q⟩
  have : dAt g3 j = some kvs := by unfold dAt; rw [e1]; rfl
  rw [this, Option.bind_some, e2, Option.map_some]
theorem wp_eHin {neg : Bool} (hh : Wp a l g fun y l1 g1 => Wp h l1 g1 fun j l2 g2 => ∃ kvs k, g2[j]? = some (.dct kvs) ∧ keyO y = some k ∧ Q (.bool (if neg = true then !(valG kvs k).isSome else (valG kvs k).isSome)) l2 g2) : Wp (eHin neg a h) l g Q := by
  refine wp_mb (wp_mono hh fun y l1 g1 hh => wp_mb (wp_mono hh fun j l2 g2 hh => ?_))
  obtain ⟨kvs, k, e1, e2, q⟩ := hh
  refine wp_mg ⟨_, ?_, q⟩
  have : dAt g2 j = some kvs := by unfold dAt; rw [e1]; rfl
  rw [this, Option.bind_some, e2, Option.map_some]
theorem wp_eHlenD (hh : Wp h l g fun j l1 g1 => ∃ kvs, g1[j]? = some (.dct kvs) ∧ Q (.int kvs.length) l1 g1) : Wp (eHlenD h) l g Q := by
  refine wp_mb (wp_mono hh fun j l1 g1 hh => ?_)
  obtain ⟨kvs, e1, q⟩ := hh
  exact wp_mg ⟨_, by unfold dAt; rw [e1]; rfl, q⟩
end
theorem wp_lHvals {Q : List PyData → Lo → Sg → Prop} (hh : Wp h l g fun j l1 g1 => ∃ kvs, g1[j]? = some (.dct kvs) ∧ Q (kvs.map (·.2)) l1 g1) : Wp (lHvals h) l g Q := by
  refine wp_mb (wp_mono hh fun j l1 g1 hh => ?_)
  obtain ⟨kvs, e1, q⟩ := hh
  exact wp_mg ⟨_, by unfold dAt; rw [e1]; rfl, q⟩
section
variable {F : FS} {m : Str} {ds : List PyData} {a k : M (List Vl)} {gs : List Vl → List Vl → List Vl} {Q : Vl → Lo → Sg → Prop}
theorem noF_of {fs : List (Str × Fv)} (e : g[j]? = some (.ins C fs)) (e2 : fs.lookup m = none) : noF g j C m = some () := by
  unfold noF
  rw [fsAt_of e]
  show noFo (fs.lookup m) = _
  rw [e2]
  rfl
theorem wp_runF {as : List Vl} (hh : FOk F as g fun v g' => Q v l g') : Wp (runF F as) l g Q := by
  obtain ⟨v, g', e, q⟩ := hh
  exact ⟨v, l, g', by unfold runF; rw [e], q⟩
theorem wp_vMeth (hh : Wp h l g fun j l1 g1 => ∃ fs, g1[j]? = some (.ins C fs) ∧ fs.lookup m = none ∧ Wp a l1 g1 fun xs l2 g2 => FOk F (.ref j :: (xs ++ ds.map .dat)) g2 fun v g3 => Q v l2 g3) : Wp (vMeth F C m ds h a) l g Q := by
  refine wp_mb (wp_mono hh fun j l1 g1 hh => ?_)
  obtain ⟨fs, e1, e2, hh⟩ := hh
  exact wp_mb (wp_mg ⟨(), noF_of e1 e2, wp_mb (wp_mono hh fun xs l2 g2 hh => wp_runF hh)⟩)
theorem wp_vMethK (hh : Wp h l g fun j l1 g1 => ∃ fs, g1[j]? = some (.ins C fs) ∧ fs.lookup m = none ∧ Wp a l1 g1 fun xs l2 g2 => Wp k l2 g2 fun zs l3 g3 => FOk F (gs (.ref j :: xs) zs) g3 fun v g4 => Q v l3 g4) : Wp (vMethK F C m gs h a k) l g Q := by
  refine wp_mb (wp_mono hh fun j l1 g1 hh => ?_)
  obtain ⟨fs, e1, e2, hh⟩ := hh
  exact wp_mb (wp_mg ⟨(), noF_of e1 e2, wp_mb (wp_mono hh fun xs l2 g2 hh => wp_mb (wp_mono hh fun zs l3 g3 hh => wp_runF hh))⟩)
theorem wp_eMeth {Q : PyData → Lo → Sg → Prop} (hh : Wp h l g fun j l1 g1 => ∃ fs, g1[j]? = some (.ins C fs) ∧ fs.lookup m = none ∧ Wp a l1 g1 fun xs l2 g2 => FOk F (.ref j :: (xs ++ ds.map .dat)) g2 fun v g3 => ∃ d, v = .dat d ∧ Q d l2 g3) : Wp (eMeth F C m ds h a) l g Q := wp_mb (wp_vMeth (wp_mono hh fun j l1 g1 ⟨fs, e1, e2, hh⟩ => ⟨fs, e1, e2, wp_mono hh fun xs l2 g2 hh => fok_mono hh fun v g3 ⟨d, ed, q⟩ => by subst ed; exact wp_mo ⟨d, rfl, q⟩⟩))
theorem wp_eMethK {Q : PyData → Lo → Sg → Prop} (hh : Wp h l g fun j l1 g1 => ∃ fs, g1[j]? = some (.ins C fs) ∧ fs.lookup m = none ∧ Wp a l1 g1 fun xs l2 g2 => Wp k l2 g2 fun zs l3 g3 => FOk F (gs (.ref j :: xs) zs) g3 fun v g4 => ∃ d, v = .dat d ∧ Q d l3 g4) : Wp (eMethK F C m gs h a k) l g Q := wp_mb (wp_vMethK (wp_mono hh fun j l1 g1 ⟨fs, e1, e2, hh⟩ => ⟨fs, e1, e2, wp_mono hh fun xs l2 g2 hh => wp_mono hh fun zs l3 g3 hh => fok_mono hh fun v g4 ⟨d, ed, q⟩ => by subst ed; exact wp_mo ⟨d, rfl, q⟩⟩))
theorem wp_vMake (hh : Wp a l g fun xs l1 g1 => FOk F (.ref g1.length :: (xs ++ ds.map .dat)) (g1 ++ [.ins C []]) fun v g2 => v = .dat .none ∧ Q (.ref g1.length) l1 g2) : Wp (vMake F C ds a) l g Q := wp_mb (wp_mono hh fun xs l1 g1 hh => wp_mb (wp_runF (fok_mono hh fun v g2 ⟨ev, q⟩ => by subst ev; exact wp_mo ⟨_, rfl, q⟩)))
theorem wp_vMakeK (hh : Wp a l g fun xs l1 g1 => Wp k l1 g1 fun zs l2 g2 => FOk F (gs (.ref g2.length :: xs) zs) (g2 ++ [.ins C []]) fun v g3 => v = .dat .none ∧ Q (.ref g2.length) l2 g3) : Wp (vMakeK F C gs a k) l g Q := wp_mb (wp_mono hh fun xs l1 g1 hh => wp_mb (wp_mono hh fun zs l2 g2 hh => wp_mb (wp_runF (fok_mono hh fun v g2 ⟨ev, q⟩ => by subst ev; exact wp_mo ⟨_, rfl, q⟩))))
end
theorem gat_self {o x : Ob} (e : g[j]? = some x) : (g.set j o)[j]? = some o := List.getElem?_set_self (List.getElem?_eq_some_iff.mp e).1
theorem gat_ne {o x : Ob} (hn : i ≠ j) (e : g[j]? = some x) : (g.set i o)[j]? = some x := by rw [List.getElem?_set_ne hn]; exact e
theorem gat_app {o x : Ob} (e : g[j]? = some x) : (g ++ [o])[j]? = some x := by rw [List.getElem?_append_left (List.getElem?_eq_some_iff.mp e).1]; exact e
theorem gat_last {o : Ob} : (g ++ [o])[g.length]? = some o := by rw [List.getElem?_append_right (Nat.le_refl _)]; simp
end
section
variable {K : Kx} {te : TE} {ta : TA} {m : M (List Vl)}
end
section
variable {K : Kx} {ta tb : TE} {i j : Nat}
theorem VOk.so {S H : Hp} {r : List Addr} {v : V} {x : Vl} (h : VOk K S r v x) : SOk K S H r x none (some v) := by
  cases x with
  | dat d => exact ⟨rfl, v, rfl, h⟩
  | ref j => obtain ⟨a, e3, rfl⟩ := h; exact ⟨rfl, a, e3, rfl⟩
  | fn F => exact ⟨rfl, v, rfl, h⟩
  | xt ds => exact ⟨rfl, v, rfl, h⟩
  | os b ds => exact ⟨rfl, v, rfl, h⟩
  | no => cases h
  | own ds => cases h
  | dct ds => cases h
  | dnk ds => cases h
end
section
variable {l : Lo} {g : Sg} {t : M Bool}
theorem wp_asgV {i : Nat} {v : M Vl} {Q : Out → Lo → Sg → Prop} (h : Wp v l g fun x l1 g1 => ∃ l2, SetR l1 i x l2 ∧ Q .nx l2 g1) : Wp (xAsgV i v) l g Q := by
  obtain ⟨x, l1, g1, e, l2, hs, q⟩ := h
  exact ⟨.nx, l2, g1, by unfold xAsgV mb; rw [e, hs.eq], q⟩
end
section
variable {l : Lo} {g : Sg} {i j : Nat} {Q : Out → Lo → Sg → Prop}
end
end Sm

namespace Sm
open PySem PySem.Spec PyProof.Rows L2 RZ SrtO Dz
section
variable {P : Program} {w : World} {K : PySem.W.Frag} {mg : Str → Option Value} {base h : Heap}
theorem okCD {x qual : Str} {params : Arguments} {body : List Stmt} {scope : Scope} {dvs : List V} {kws : List (Str × V)} {f : Addr} {fd : FuncData} {cd : Value} {N ps : List Str} {k : Nat} {sp : Sp} (F : FunD K x qual params body scope dvs kws f fd) (hc : fd.code = cd) (S : FnScope N ps scope) (len : ∀ vs H Q E, sp vs H Q E → vs.length = ps.length)
    (hbody : ∀ (A : Around) (outer : List PySem.Env) (s : Shared) (H : Hp) (vs : List V) (Q : VK) (E : XK), Room k (A.deeper (envOfC qual scope s.heap.objs.size f cd)) → sp vs H Q E →
      ∃ t, PSs (cxOf CX0 P w K mg base N qual scope f cd A outer s H E).nox body t ∧ t { nx := fun _ H' => Q .non H', rt := Q } (start N vs) H) : FnOk P w K mg base CX0 (k + 1) f fd ps sp := by
  obtain ⟨oc, od, dV, kV, doc, pm, an, cdv, ct, osl, rfl, lk, hcd, _⟩ := F.ex
  obtain rfl : cdv = cd := hc
  exact fn_of lk hcd S len fun A outer s H vs Q E hr hsp => let ⟨t, h, q⟩ := hbody A outer s H vs Q E hr hsp; ⟨t, h.nox, q⟩
theorem okD {x qual : Str} {params : Arguments} {body : List Stmt} {scope : Scope} {dvs : List V} {kws : List (Str × V)} {f : Addr} {fd : FuncData} {N ps : List Str} {k : Nat} {sp : Sp} (F : FunD K x qual params body scope dvs kws f fd) (S : FnScope N ps scope) (len : ∀ vs H Q E, sp vs H Q E → vs.length = ps.length)
    (hbody : ∀ (cdv : Value) (A : Around) (outer : List PySem.Env) (s : Shared) (H : Hp) (vs : List V) (Q : VK) (E : XK), Room k (A.deeper (envOfC qual scope s.heap.objs.size f cdv)) → sp vs H Q E →
      ∃ t, PSs (cxOf CX0 P w K mg base N qual scope f cdv A outer s H E).nox body t ∧ t { nx := fun _ H' => Q .non H', rt := Q } (start N vs) H) : FnOk P w K mg base CX0 (k + 1) f fd ps sp :=
  F.ok S len fun cdv A outer s H vs Q E hr hsp => let ⟨t, h, q⟩ := hbody cdv A outer s H vs Q E hr hsp; ⟨t, h.nox, q⟩
theorem codeD {x qual : Str} {params : Arguments} {body : List Stmt} {scope : Scope} {dvs : List V} {kws : List (Str × V)} {fd : FuncData} {p : He.Defn} (F : FunD K x qual params body scope dvs kws (He.fAd K p) fd) : fd.code = .ref (He.cT K p).1 := by
  obtain ⟨oc, od, dV, kV, doc, pm, an, cdv, ct, osl, rfl, lk, hcd, _⟩ := F.ex
  obtain ⟨c, hc⟩ := He.codeIn_ref hcd
  have e : (PySem.W.fnOf x qual params body scope dV kV doc pm an cdv ct).code = .ref c := hc
  have := He.codeOf_eq lk e
  rw [e]
  show _ = Value.ref (He.codeOf K p)
  rw [this]
end
def rLenO (K : Kx) (C : Str) (sp : Sp) : List V → Hp → VK → Prop := fun xs H Q => ∃ x a cls' dx fs, xs = [x] ∧ K.mg C = some (.ref cls') ∧ x = .ref a ∧ H a = some (.ins cls' dx fs) ∧ sp [x] H (fun v H2 => ∃ n : Nat, v = .int n ∧ n < 2 ^ 62 ∧ Q (.int n) H2) E0
theorem call_lenO {X : Cx} {κ : Kx} {k : Nat} {C : Str} {ps : List Str} {sp : Sp} (hX : CxK κ X) (c : CalM X.prog X.w X.K X.mg X.base k C "__len__" ps [] sp) (hr : Room (k + 1) X.A) : CallR X (.builtin "len") (rLenO κ C sp) := by
  obtain ⟨cls, f, fd, ds, hc, hcl, hmt, F, hd, hb⟩ := c.ex
  rw [hX.m] at hc
  cases hd
  intro pins s σ H xs us Q I r h
  obtain ⟨x, a, cls', dx, fs, rfl, hc', rfl, ha, hsp⟩ := h
  rw [hc] at hc'
  cases hc'
  obtain ⟨u, eu, rx⟩ := vals1 r
  subst eu
  obtain rfl : u = Value.ref a := rx
  obtain ⟨mA, J, _⟩ := ins_get I.hok ha
  obtain ⟨od, J, _⟩ := J.look
  refine Calls.call_function_entry kind_len plain_len entry_len (args_len1 _) ?_
  unfold Builtin.«len»
  refine wpAny_bind (m := oneArg "len" _) (wpAny_pure ?_)
  have hl := F.len _ _ _ _ hsp
  have r2 : Vals [V.ref a] [Value.ref a] := .cons rfl .nil
  have e0 : Env0 X.prog X.w X.K X.mg X.base X.A.in1 X.stack s H := by
    have e := I.env0
    exact ⟨e.frames, e.mod, e.bs, e.bsz, e.funs, e.frf, e.hok, e.bare⟩
  refine wpAny_bind (m := callSpecial? (.ref a) (Str.ofString "__len__")) (PySem.W.special_fn I.kIn J hmt.at_ (beq_iff_eq.mp hmt.fn) (wpAny_call (codeAny_mono (F.run X.A.in1 X.stack s H ⟨[.ref a], []⟩ [.ref a] [.ref a] _ E0 hr.in1 e0 (by
    have := hb s [.ref a] I.kIn (by simpa using hl)
    simpa using this) r2 hsp) fun r s' hq => ?_)))
  cases r with
  | error e => exact (pass0 (X := X)) pins σ H s e s' I hq
  | ok fl =>
    cases fl with
    | ret u =>
      obtain ⟨v, H', I', rv, n, ev, hn, q⟩ := I.after hq
      subst ev
      obtain ⟨t, rfl⟩ := (show ∃ t, u = Value.int n t from rv)
      refine wpAny_bind (wpAny_holding (wpAny_pure ?_))
      refine wpAny_bind (wpAny_letGo ?_)
      show wpAny _ _ (if (n : Int) < 0 then _ else _) _ _ _
      rw [if_neg (by omega)]
      show wpAny _ _ (if (n : Int) ≥ 2 ^ 63 then _ else _) _ _ _
      rw [if_neg (by omega)]
      exact wpAny_bind (wpAny_mkInt (wpAny_pure ⟨_, rfl, .int n, H', I'.tok _, ⟨_, rfl⟩, q⟩))
    | next => exact hq.elim
    | brk => exact hq.elim
    | cont => exact hq.elim
def lenV : Vl → Option PyData
  | .dat (.int n) => if (decide (0 ≤ n) && decide (n < 1000000)) = true then some (.int n) else none
  | _ => none
def eLenO (F : FS) (C : Str) (h : M Nat) : M PyData := mb h fun j => mb (mg fun _ g => fsAt g j C) fun _ => mb (runF F [.ref j]) fun v => mo (lenV v)
theorem s_lenO {K : Kx} {te : TE} {h : M Nat} {C : Str} {F : FS} (hh : EvH K te h) : EvS K (tCB (rLenO K C (spG K 1 F)) (tCons te tNil)) (eLenO F C h) := fun l g d l' g' s H S r A e h0 Q q => by
  replace e := mb_some e; obtain ⟨j, l1, g1, e1, e⟩ := e
  replace e := mb_some e; obtain ⟨fs, l0, g0, e0, e⟩ := e
  replace e0 := mg_some e0; obtain ⟨e0, rfl, rfl⟩ := e0
  replace e := mb_some e; obtain ⟨v, l2, g2, e2, e⟩ := e
  obtain ⟨e3, rfl⟩ := runF_some e2
  replace e := mo_some e; obtain ⟨e, rfl, rfl⟩ := e
  refine hh _ _ _ _ _ s H S r A e1 h0 _ fun ad H1 S1 r1 A1 m1 h1 hr => ?_
  obtain ⟨cls, dx, vs, k1, k2, k3, _⟩ := h1.obj hr e0
  refine ⟨.ref ad, ad, cls, dx, vs, rfl, k1, rfl, k2, call_at h1 (.cons (ok_ref hr) .nil) rfl e3 fun w H3 S3 r3 m3 h3 d3 => ?_⟩
  unfold lenV at e
  split at e
  · rename_i n
    split at e
    · rename_i hn
      cases e
      have d3 : Dp K S3 w (.int n) := d3
      cases d3
      rw [Bool.and_eq_true, decide_eq_true_eq, decide_eq_true_eq] at hn
      obtain ⟨m, rfl⟩ := Int.eq_ofNat_of_zero_le hn.1
      exact ⟨m, rfl, by omega, q _ H3 S3 r3 A1 (m1.trans m3) h3 (.int _)⟩
    · cases e
  · cases e
theorem lenV_of {n : Nat} (hn : n < 1000000) : lenV (.dat (.int (n : Int))) = some (.int (n : Int)) := by
  have e : (decide ((0 : Int) ≤ (n : Int)) && decide ((n : Int) < 1000000)) = true := by rw [decide_eq_true (show (0 : Int) ≤ (n : Int) by omega), decide_eq_true (show (n : Int) < 1000000 by omega)]; rfl
  unfold lenV
  dsimp only
  rw [e]
  rfl
theorem wp_eLenO {F : FS} {C : Str} {h : M Nat} {l : Lo} {g : Sg} {Q : PyData → Lo → Sg → Prop} (hh : Wp h l g fun j l1 g1 => ∃ fs, g1[j]? = some (.ins C fs) ∧ FOk F [.ref j] g1 fun v g2 => ∃ n : Nat, v = .dat (.int n) ∧ n < 1000000 ∧ Q (.int n) l1 g2) : Wp (eLenO F C h) l g Q := by
  refine wp_mb (wp_mono hh fun j l1 g1 hh => ?_)
  obtain ⟨fs, e1, hh⟩ := hh
  refine wp_mb (wp_mg ⟨fs, fsAt_of e1, wp_mb (wp_runF (fok_mono hh fun v g2 ⟨n, ev, hn, q⟩ => ?_))⟩)
  subst ev
  exact wp_mo ⟨.int n, lenV_of hn, q⟩
section
variable {P : Program} {w : World} {K : PySem.W.Frag} {mg : Str → Option Value} {base h : Heap}
theorem fld_ok {C f : Str} {lv : Nat} {tb : List (Addr × Tag)} (X : K.In h) (G : h.Ns mainGlobals mg) (c0 : (He.Fa.glo C).ok K = true) (c1 : (He.Fa.cls C).ok K = true) (c2 : (He.Fa.noat C f).ok K = true) : FldOk (kX P w K mg base lv tb) C f := fun cls e => by
  have e : mg C = some (.ref cls) := e
  rw [He.glo_ok X G c0] at e
  cases e
  exact ⟨He.cls_ok c1, He.noat_ok c2⟩
theorem walkX {l : PySem.W.OpenLaw} {k : Nat} {q : Program} {loose : List Str} {XP : (Str → Option Value) → Heap → Prop} {fas : List He.Fa} {fn : List He.DefD} {tf : List He.Defn} {ex : PySem.W.Frag → Bool} {d : DefRec} {x : Str} (hn : l.most = some 63) (hdf : d.params.defaults = []) (hr : Room k callerA)
    (F : ∀ (w : World) (mg : Str → Option Value) (fa : Addr) (h : Heap) (K : PySem.W.Frag), K.In h → h.Ns mainGlobals mg → mg d.name = some (.ref fa) → He.SaysX fas fn [] tf ex w h K →
      ∃ fd : FuncData, (∀ (s : Shared) (u : Value), BindsTo s fd ⟨[u], []⟩ [(x, u)]) ∧
        ∀ base : Heap, K.In base → base.Ns mainGlobals mg → (∀ p ∈ tf, LamX.TabB base mg (He.cT K p).1 (He.cT K p).2) → FnOk l.prog w K mg base CX0 k fa fd [x] (spLawT K (tf.map fun p => (He.cT K p).2))) :
    PySem.W.WalkO q loose XP (fun w h => ∃ K : PySem.W.Frag, K.In h ∧ He.SaysX fas fn [] tf ex w h K) l.row.toRowW d [] (fun f vs => PySem.call f vs) := by
  refine LamX.walk_ofTsE (CX := fun _ => CX0) (x := x) hn (by decide) hdf hr (fun w mg fa h Y G hmg => ?_) (fun _ _ _ _ _ z => z)
  obtain ⟨K, KX, c⟩ := Y
  obtain ⟨fd, hb, hF⟩ := F w mg fa h K KX G hmg c
  have hm : ∀ p ∈ tf.map (He.cT K), ∃ z ∈ tf, He.cT K z = p := fun p hp => List.mem_map.mp hp
  refine ⟨K, KX, fd, tf.map (He.cT K), spLawT K (tf.map fun p => (He.cT K p).2), fun p hp => ?_, fun p hp => ?_, fun p hp => ?_, hb, fun H a ns hl _ hH hS => ⟨a, ns, rfl, hS, hl, fun b hb => ?_, fun _ => rfl⟩, fun base h1 h2 h3 => hF base h1 h2 fun p hp => h3 _ (List.mem_map.mpr ⟨p, hp, rfl⟩)⟩
  · obtain ⟨z, hz, rfl⟩ := hm p hp
    exact c.empty z hz
  · obtain ⟨z, hz, rfl⟩ := hm p hp
    exact c.out z hz
  · obtain ⟨z, hz, rfl⟩ := hm p hp
    exact PySem.W.codeHd_of_K KX (c.hd z hz)
  · obtain ⟨z, hz, rfl⟩ := List.mem_map.mp hb
    exact hH _ (List.mem_map.mpr ⟨z, hz, rfl⟩)
end
end Sm

namespace Sm
open PySem PySem.Spec PyProof.Rows L2 RZ SrtO Dz
end Sm

namespace Sm
open PySem PySem.Spec PyProof.Rows L2 RZ SrtO Dz
mutual
def nkO : PyData → Option NestedKey
  | .none => some .none
  | .int i => some (.num i)
  | .str x => some (.text x)
  | .tuple ds => (nkL ds).map .tup
  | _ => none
def nkL : List PyData → Option (List NestedKey)
  | [] => some []
  | d :: ds => (nkO d).bind fun k => (nkL ds).map fun ks => k :: ks
end
mutual
theorem nkO_data : ∀ (d : PyData) (k : NestedKey), nkO d = some k → k.data = d
  | .none, k, e => by simp only [nkO] at e; cases e; rfl
  | .int i, k, e => by simp only [nkO] at e; cases e; rfl
  | .str x, k, e => by simp only [nkO] at e; cases e; rfl
  | .tuple ds, k, e => by
    simp only [nkO] at e
    obtain ⟨ks, e1, rfl⟩ := Option.map_eq_some_iff.mp e
    simp only [NestedKey.data, nkL_datas ds ks e1]
  | .bool b, k, e => by simp only [nkO] at e; cases e
  | .list ds, k, e => by simp only [nkO] at e; cases e
  | .dict ds, k, e => by simp only [nkO] at e; cases e
theorem nkL_datas : ∀ (ds : List PyData) (ks : List NestedKey), nkL ds = some ks → NestedKey.datas ks = ds
  | [], ks, e => by simp only [nkL] at e; cases e; rfl
  | d :: ds, ks, e => by
    simp only [nkL] at e
    obtain ⟨k, e1, e⟩ := Option.bind_eq_some_iff.mp e
    obtain ⟨ks', e2, rfl⟩ := Option.map_eq_some_iff.mp e
    simp only [NestedKey.datas, nkO_data d k e1, nkL_datas ds ks' e2]
end
abbrev KNs := List (NestedKey × PyData)
section
variable {K : Kx} {te ta tb : TE} {a b : M PyData} {i j : Nat} {l : Lo} {g : Sg} {s : L2.St} {H S : Hp} {r : List Addr} {A : List (Option Addr)} {kvs : KNs} {ad : Addr} {h : M Nat}
end
section
variable {l : Lo} {g : Sg} {i j : Nat} {a b : M PyData} {h : M Nat} {kvs : KNs} {k : NestedKey} {y : PyData}
end
end Sm

namespace Sm
open PySem PySem.SeqAt PySem.Spec PyProof.Rows L2 RZ SrtO Dz
end Sm

namespace Sm
open PySem PySem.SeqAt PySem.Spec PyProof.Rows L2 RZ SrtO Dz
section
variable {K : Kx} {ta tb : TE} {a b : M PyData} {i : Nat}
end
section
variable {l : Lo} {g : Sg} {a b : M PyData} {i : Nat} {ds : List PyData} {Q : PyData → Lo → Sg → Prop}
end
end Sm

namespace Sm
open PySem PySem.SeqAt PySem.Spec PySem.W PyProof.Rows L2 RZ SrtO Dz
end Sm

namespace Sm
open PySem PySem.SeqAt PySem.Spec PyProof.Rows L2 RZ SrtO Dz
mutual
def nl : PyData → Bool
  | .list _ => false
  | .tuple xs => nlA xs
  | _ => true
def nlA : List PyData → Bool
  | [] => true
  | x :: xs => nl x && nlA xs
end
def delS (S : Hp) (a : Addr) : Hp := fun b => if b = a then none else S b
section
variable {K : Kx} {S : Hp} {a : Addr} {ys : List V}
theorem zdel_ne {b : Addr} (h : b ≠ a) : delS S a b = S b := if_neg h
theorem rd_del (ha : S a = some (.lst ys)) {b : Addr} {u : HO} (hu : ∀ zs, u ≠ .lst zs) (h : Rd S b u) : Rd (delS S a) b u := by
  have hb : b ≠ a := fun z => by
    subst z
    rcases h with h | ⟨o, h⟩
    · rw [ha] at h; cases h; exact hu _ rfl
    · rw [ha] at h; cases h
  rcases h with h | ⟨o, h⟩
  · exact .inl (by rw [zdel_ne hb]; exact h)
  · exact .inr ⟨o, by rw [zdel_ne hb]; exact h⟩
theorem sqT_del (ha : S a = some (.lst ys)) {b : Addr} {xs : List V} (h : SqT K S b xs) : SqT K (delS S a) b xs := h.imp (rd_del ha fun zs z => by cases z) id
mutual
theorem dp_del (ha : S a = some (.lst ys)) : ∀ (d : PyData) (v : V), nl d = true → Dp K S v d → Dp K (delS S a) v d
  | .none, _, _, h => by cases h; exact .non
  | .bool b, _, _, h => by cases h; exact .bl b
  | .int i, _, _, h => by cases h; exact .int i
  | .str x, _, _, h => by cases h; exact .str x
  | .list xs, _, h0, _ => by simp [nl] at h0
  | .tuple xs, _, h0, h => by
    cases h with
    | tup h1 h2 => exact .tup (sqT_del ha h1) (dpA_del ha xs _ (by simpa [nl] using h0) h2)
  | .dict _, _, _, h => nomatch h
theorem dpA_del (ha : S a = some (.lst ys)) : ∀ (ds : List PyData) (vs : List V), nlA ds = true → DpAll K S vs ds → DpAll K (delS S a) vs ds
  | [], _, _, h => by cases h; exact .nil
  | d :: ds, _, h0, h => by
    cases h with
    | cons h1 h2 =>
      rw [nlA, Bool.and_eq_true] at h0
      exact .cons (dp_del ha d _ h0.1 h1) (dpA_del ha ds _ h0.2 h2)
end
end
section
variable {K : Kx} {l l' : Lo} {g g' : Sg} {s : L2.St} {H S H1 S1 H2 S2 : Hp} {r r1 r2 : List Addr} {A A1 A2 : List (Option Addr)}
theorem kv_del {a : Addr} {ys : List V} (ha : S a = some (.lst ys)) : ∀ {ws : List (Key × V)} {kvs : List (Key × PyData)}, (kvs.all fun p => nl p.2) = true → KvD K S ws kvs → KvD K (delS S a) ws kvs := fun {ws kvs} h0 h => by
  unfold KvD at h ⊢
  induction h with
  | nil => exact .nil
  | cons h1 h2 ih =>
    rw [List.all_cons, Bool.and_eq_true] at h0
    exact .cons ⟨h1.1, dp_del ha _ _ h0.1 h1.2⟩ (ih h0.2)
end
end Sm

namespace Sm
open PySem PySem.SeqAt PySem.Spec PyProof.Rows L2 RZ SrtO Dz
section
variable {K : Kx} {ta te tb : TE} {a b : M PyData} {i : Nat}
end
section
variable {l : Lo} {g : Sg} {a b : M PyData} {i : Nat}
end
end Sm

namespace Sm
open PySem PySem.SeqAt PySem.Spec PyProof.Rows L2 RZ SrtO Dz
section
variable {K : Kx} {ta tb : TE} {a b : M PyData} {i : Nat}
end
section
variable {l : Lo} {g : Sg} {a b : M PyData} {i : Nat} {ds : List PyData} {d : PyData}
end
end Sm

namespace Sm
open PySem PySem.SeqAt PySem.Spec PyProof.Rows L2 RZ SrtO Dz
end Sm

namespace Sm
open PySem PySem.Spec PyProof.Rows L2 RZ SrtO Dz
section
variable {K : Kx} {te : TE} {ta : TA} {i : Nat}
end
section
variable {l : Lo} {g : Sg} {i : Nat} {kvs : KNs}
end
end Sm

namespace Sm
open PySem PySem.SeqAt PySem.Spec PyProof.Rows L2 RZ SrtO Dz
mutual
theorem nl_key : ∀ k : NestedKey, nl k.data = true
  | .none => by simp only [NestedKey.data, nl]
  | .num i => by simp only [NestedKey.data, nl]
  | .text x => by simp only [NestedKey.data, nl]
  | .tup ks => by simp only [NestedKey.data, nl]; exact nl_keys ks
theorem nl_keys : ∀ ks : List NestedKey, nlA (NestedKey.datas ks) = true
  | [] => by simp only [NestedKey.datas, nlA]
  | k :: ks => by simp only [NestedKey.datas, nlA, nl_key k, nl_keys ks, Bool.and_self]
end
section
variable {K : Kx} {S H : Hp} {r : List Addr}
end
end Sm

namespace Sm
open PySem PySem.SeqAt PySem.Spec PyProof.Rows L2 RZ SrtO Dz
section
variable {K : Kx} {ta tb : TE} {a b : M PyData} {l : Lo} {g : Sg}
end
end Sm

namespace Sm
open PySem PySem.SeqAt PySem.Spec PyProof.Rows L2 RZ SrtO Dz
section
variable {K : Kx} {ta tb : TE} {tm : TA} {a b : M Vl} {m : M (List Vl)} {Fd F1 F2 : FS} {n1 n2 : Str} {c1 c2 : Nat}
end
end Sm

namespace Sm
open PySem PySem.SeqAt PySem.Spec PyProof.Rows L2 RZ SrtO Dz
theorem log2_small {n : Nat} (h : n ≤ 1000000000) : n.log2 < 1920 := by
  rcases Nat.eq_zero_or_pos n with e | e
  · subst e; decide
  · have : n < 2 ^ 1920 := Nat.lt_of_le_of_lt h (by decide)
    exact (Nat.log2_lt (by omega)).mpr this
section
variable {K : Kx}
end
end Sm

namespace Sm
open PySem PySem.SeqAt PySem.Spec PyProof.Rows L2 RZ SrtO Dz
section
variable {K : Kx} {ta : TE} {a : M PyData} {l : Lo} {g : Sg}
end
end Sm

namespace Sm
open PySem PySem.SeqAt PySem.Spec PyProof.Rows L2 RZ SrtO Dz
end Sm

namespace Sm
open PySem PySem.SeqAt PySem.Spec PyProof.Rows L2 RZ SrtO Dz
section
variable {K : Kx} {ta tb : TE} {a b : M PyData} {l : Lo} {g : Sg}
end
end Sm

namespace Sm
open PySem PySem.SeqAt PySem.Spec PyProof.Rows L2 RZ SrtO Dz
section
variable {K : Kx} {ta te : TE} {a : M PyData} {h : M Nat}
end
section
variable {l : Lo} {g : Sg} {a : M PyData} {h : M Nat} {Q : PyData → Lo → Sg → Prop}
end
end Sm

namespace Sm
open PySem PySem.SeqAt PySem.Spec PyProof.Rows L2 RZ SrtO Dz
section
variable {K : Kx} {ta tb tc : TE} {m : M (List PyData)} {b c : M PyData} {i j k : Nat}
end
theorem nselfI (x : Int) : (!decide (x = x)) = false := by simp
end Sm

namespace Dz
open PySem
end Dz
namespace Sm
open PySem PySem.Spec PyProof.Rows L2 RZ SrtO Dz
end Sm

namespace Sm
open PySem PySem.SeqAt PySem.Spec PySem.W PyProof.Rows L2 RZ SrtO Dz
end Sm

namespace Sm
open PySem PySem.SeqAt PySem.Spec PySem.W PyProof.Rows L2 RZ SrtO Dz
section
variable {K : Kx} {ta tb tc : TE} {a b c : M Vl} {i j k : Nat}
end
end Sm

namespace Dz
open PySem PySem.Spec PySem.SeqAt PyProof.Rows L2 RZ LamX
structure ExcC (K : PySem.W.Frag) (mg : Str → Option Value) (x : Str) : Prop where
  ex : ∃ C, mg x = some (.ref C) ∧ PySem.W.excIn K C He.veBase "ValueError.__new__" = true ∧ PySem.W.keepIn K (.ref C) = true ∧ PySem.W.subIn K (.ref C) (.type "BaseException") = some true ∧ PySem.W.typeIn K (.ref C) = some (.type "type") ∧ PySem.W.exmOne K (.ref C) (.ref C) = some true
section
variable {X : Cx} {κ : Kx} {k n : Nat} {x C m : Str} {ps ks : List Str} {dv : List V} {ds : List Value} {sp : Sp} {W : WX} {gV : List V → List V → List V} {p pos apos : Pos} {o e : Expr} {es : List Expr} {kws : List Keyword} {ta : TE} {t tk : TA} {pl : Sem Bool}
structure CalX (P : Program) (w : World) (K : PySem.W.Frag) (mg : Str → Option Value) (base : Heap) (k : Nat) (x : Str) (ps : List Str) (sp : Sp) : Prop where
  ex : ∃ f fd, FnOk P w K mg base (L2.CX P w) k f fd ps sp ∧ mg x = some (.ref f) ∧ PySem.W.keepIn K (.ref f) = true ∧ Binds K fd ps []
structure CalMX (P : Program) (w : World) (K : PySem.W.Frag) (mg : Str → Option Value) (base : Heap) (k : Nat) (C m : Str) (ps : List Str) (dv : List V) (sp : Sp) : Prop where
  ex : ∃ cls f fd ds, mg C = some (.ref cls) ∧ Cls K cls ∧ Meth K cls m f ∧ FnOk P w K mg base (L2.CX P w) k f fd ps sp ∧ Vals dv ds ∧ Binds K fd ps ds
structure CalMKX (P : Program) (w : World) (K : PySem.W.Frag) (mg : Str → Option Value) (base : Heap) (k : Nat) (C m : Str) (ps : List Str) (n : Nat) (ks : List Str) (gV : List V → List V → List V) (sp : Sp) : Prop where
  ex : ∃ cls f fd g, mg C = some (.ref cls) ∧ Cls K cls ∧ Meth K cls m f ∧ FnOk P w K mg base (L2.CX P w) k f fd ps sp ∧ KBn K fd ps (n + 1) ks g gV
theorem CalX.mono {P : Program} {w : World} {K : PySem.W.Frag} {mg : Str → Option Value} {base : Heap} {j : Nat} (c : CalX P w K mg base j x ps sp) (h : j ≤ k) : CalX P w K mg base k x ps sp := let ⟨f, fd, a, b⟩ := c.ex; ⟨f, fd, a.mono h, b⟩
theorem CalMX.mono {P : Program} {w : World} {K : PySem.W.Frag} {mg : Str → Option Value} {base : Heap} {j : Nat} (c : CalMX P w K mg base j C m ps dv sp) (h : j ≤ k) : CalMX P w K mg base k C m ps dv sp := let ⟨cls, f, fd, ds, a, b, d, e, q⟩ := c.ex; ⟨cls, f, fd, ds, a, b, d, e.mono h, q⟩
theorem CalMKX.mono {P : Program} {w : World} {K : PySem.W.Frag} {mg : Str → Option Value} {base : Heap} {j : Nat} (c : CalMKX P w K mg base j C m ps n ks gV sp) (h : j ≤ k) : CalMKX P w K mg base k C m ps n ks gV sp := let ⟨cls, f, fd, ds, a, b, d, e, q⟩ := c.ex; ⟨cls, f, fd, ds, a, b, d, e.mono h, q⟩
end
section
variable {P : Program} {w : World} {K : PySem.W.Frag} {mg : Str → Option Value} {base : Heap}
end
end Dz
namespace Sm
open PySem PySem.Spec PyProof.Rows L2 RZ SrtO Dz
def ExcR (K : Kx) (S H : Hp) : List PyData → Value → Option Addr → Prop
  | [.str n], c, d => ∃ C, K.mg n = some (.ref C) ∧ c = .ref C ∧ d = none
  | [.str n, .str f, x], c, d => ∃ C dx v, K.mg n = some (.ref C) ∧ c = .ref C ∧ d = some dx ∧ H dx = some (.xd [(f, v)]) ∧ S dx = none ∧ Dp K S v x
  | _, _, _ => False
def spGX (K : Kx) (n : Nat) (F : FS) : Sp := fun vs H Q E => ∃ S r g as v g', as.length = n ∧ Same S H ∧ StoOk K S H r g ∧ VsOk K S r vs as ∧ F as g = some (v, g') ∧
  ∀ S' H' r', GrowT (inR S H r) S H S' H' → (∃ q, r' = r ++ q) → (∀ a, a ∈ r' → a ∈ r ∨ H a = none) → StoOk K S' H' r' g' → (∀ w, VOk K S' r' w v → Q w H') ∧ ∀ x, v = .own x → ∀ c d, ExcR K S' H' x c d → E c d H'
section
variable {K : Kx} {W : WX} {te ta tb : TE} {tu tv ts : TS} {tt : TT} {x y b h : X} {v a : M Vl} {t : M Bool} {i : Nat}
end
end Sm

namespace Dz
open PySem PySem.Spec PySem.SeqAt PyProof.Rows L2 RZ LamX
structure ExcF (K : PySem.W.Frag) (mg : Str → Option Value) (x f : Str) : Prop where
  ex : ∃ C fI, mg x = some (.ref C) ∧ OexC K C ∧ XfC K C ∧ PySem.W.findIn K (.ref C) "__init__" = some (some (.ref fI)) ∧ PySem.W.typeIn K (.ref fI) = some (.type "function") ∧ PySem.W.findIn K (.ref C) f = some none ∧ PySem.W.exmOne K (.ref C) (.ref C) = some true
structure SeC (K : PySem.W.Frag) (mg : Str → Option Value) (x : Str) : Prop where
  ex : ∃ C, mg x = some (.ref C) ∧ PySem.W.readsIn K C (.type "type") = true ∧ PySem.W.specialIn K (.ref C) "__getattribute__" = some (some (.builtin "type.__getattribute__")) ∧ PySem.W.findCls K (.ref C) (.type "type") "__init__" = some (.val (.builtin "ValueError.__init__"))
def spE (K : PySem.W.Frag) (f : Str) : Sp := fun vs H Q _ => ∃ a C y, vs = [.ref a, y] ∧ OexC K C ∧ PySem.W.findIn K (.ref C) f = some none ∧ H a = some (exo a C none) ∧ ∀ dx, H dx = none → dx ≠ a → Q .non (upd (upd H dx (exd dx [(f, y)])) a (exo a C (some dx)))
structure CalE (P : Program) (w : World) (K : PySem.W.Frag) (mg : Str → Option Value) (base : Heap) (k : Nat) (x f : Str) (ps : List Str) : Prop where
  ex : ∃ C fI fd, mg x = some (.ref C) ∧ PySem.W.findIn K (.ref C) "__init__" = some (some (.ref fI)) ∧ FnOk P w K mg base CX0 k fI fd ps (spE K f) ∧ Binds K fd ps []
theorem CalE.mono {P : Program} {w : World} {K : PySem.W.Frag} {mg : Str → Option Value} {base : Heap} {j k : Nat} {x f : Str} {ps : List Str} (c : CalE P w K mg base j x f ps) (h : j ≤ k) : CalE P w K mg base k x f ps := let ⟨C, fI, fd, a, b, F, q⟩ := c.ex; ⟨C, fI, fd, a, b, F.mono h, q⟩
section
variable {X : Cx} {κ : Kx} {k : Nat} {x f : Str} {ps : List Str} {W : WX} {e : Expr} {es : List Expr} {te : TE} {ta : TA} {p p1 p2 pos : Pos}
end
end Dz
namespace Sm
open PySem PySem.Spec PyProof.Rows L2 RZ SrtO Dz
theorem StOk.noxd {K : Kx} {l : Lo} {g : Sg} {s : L2.St} {H S : Hp} {r : List Addr} {A : List (Option Addr)} {dx : Addr} {fs : List (Str × V)} (h : StOk K l g s H S r A) (e : H dx = some (.xd fs)) : ¬ tr S H A r dx := by
  rintro (z | z | ⟨_, ps, z⟩)
  · obtain ⟨i, hi⟩ := List.mem_iff_getElem?.mp z
    have hil : i < l.length := by rw [← h.la]; exact (List.getElem?_eq_some_iff.mp hi).1
    obtain ⟨o, v, e1, e2, e3⟩ := h.ok i _ (List.getElem?_eq_getElem hil)
    rw [hi] at e1
    cases e1
    revert e3
    generalize l[i] = x
    intro e3
    cases x with
    | no => cases e3
    | dat d => cases e3.1
    | own ds => obtain ⟨a, ea, _, _, xs, e4, _⟩ := e3; cases ea; rw [e] at e4; cases e4
    | dct ds => obtain ⟨a, ea, _, _, xs, e4, _⟩ := e3; cases ea; rw [e] at e4; cases e4
    | dnk ds => obtain ⟨a, ea, _, _, xs, e4, _⟩ := e3; cases ea; rw [e] at e4; cases e4
    | ref j => cases e3.1
    | fn F => cases e3.1
    | xt ds => cases e3.1
    | os b ds => cases e3.1
  · obtain ⟨j, hj⟩ := List.mem_iff_getElem?.mp z
    have hjl : j < g.length := by rw [← h.lg]; exact (List.getElem?_eq_some_iff.mp hj).1
    obtain ⟨_, e3⟩ := h.st j dx _ hj (List.getElem?_eq_getElem hjl)
    revert e3
    generalize g[j] = x
    intro e3
    cases x with
    | lst ds => obtain ⟨xs, e4, _⟩ := e3; rw [e] at e4; cases e4
    | dct ds => obtain ⟨xs, e4, _⟩ := e3; rw [e] at e4; cases e4
    | dnk ds => obtain ⟨xs, e4, _⟩ := e3; rw [e] at e4; cases e4
    | ins C fs => obtain ⟨_, _, _, _, e4, _⟩ := e3; rw [e] at e4; cases e4
  · rw [e] at z; cases z
theorem ExcR.go {K : Kx} {l : Lo} {g : Sg} {s : L2.St} {H S H1 S1 : Hp} {r r1 : List Addr} {A A1 : List (Option Addr)} (h : StOk K l g s H S r A) (m : Mv K S H r A S1 H1 r1 A1) : ∀ {x : List PyData} {c : Value} {d : Option Addr}, ExcR K S H x c d → ExcR K S1 H1 x c d := fun {x c d} e => by
  unfold ExcR at e ⊢
  split at e
  · exact e
  · obtain ⟨C, dx, v, e1, e2, e3, e4, e5, e6⟩ := e
    have nt := h.noxd e4
    exact ⟨C, dx, v, e1, e2, e3, m.k dx _ nt e4, m.n dx e5 (some_ne e4) nt, Dp_mono e6 m.s⟩
  · exact e.elim
def noX (F : FS) : FS := fun as g => match F as g with
  | some (.own _, _) => none
  | r => r
theorem noX_some {F : FS} {as : List Vl} {g g' : Sg} {v : Vl} (h : noX F as g = some (v, g')) : F as g = some (v, g') ∧ ∀ x, v ≠ .own x := by
  unfold noX at h
  split at h
  · cases h
  · rename_i hn
    exact ⟨h, fun x e => hn x g' (by rw [h, e])⟩
section
variable {K : Kx} {W : WX} {te ta tb : TE} {tu tv ts tf tfs : TS} {tt : TT} {x y b h : X} {v a : M Vl} {e0 : M PyData} {t : M Bool} {i j : Nat} {vs : List Nat}
end
theorem fnok_no {P : Program} {w : World} {K : PySem.W.Frag} {κ : Kx} {mg : Str → Option Value} {base : Heap} {k n : Nat} {f : Addr} {fd : FuncData} {ps : List Str} {F : FS} (h : FnOk P w K mg base (L2.CX P w) k f fd ps (spGX κ n F)) : FnOk P w K mg base CX0 k f fd ps (spG κ n (noX F)) := by
  have key : ∀ vs H Q E, spG κ n (noX F) vs H Q E → spGX κ n F vs H Q (fun _ _ _ => False) := fun vs H Q E ⟨S, r, g, as, v, g', hm, hs, so, hv, e, q⟩ => by
    obtain ⟨e1, e2⟩ := noX_some e
    exact ⟨S, r, g, as, v, g', hm, hs, so, hv, e1, fun S' H' r' g1 g2 g3 g4 => ⟨fun w hw => q w S' H' r' g1 g2 g3 g4 hw, fun x hx => absurd hx (e2 x)⟩⟩
  refine ⟨fun vs H Q E q => h.len vs H Q _ (key vs H Q E q), fun A outer s H args us vs Q E hr he hb hv q => ?_⟩
  refine codeAny_mono (h.run A outer s H args us vs Q (fun _ _ _ => False) hr he hb hv (key vs H Q E q)) fun r s' hq => ?_
  cases r with
  | ok fl => cases fl <;> exact hq
  | error er =>
    obtain ⟨_, _, _, _, _, _, _, _, _, _, _, _, z⟩ := hq
    exact z.elim
section
variable {P : Program} {w : World} {K : PySem.W.Frag} {κ : Kx} {mg : Str → Option Value} {base : Heap} {k n c : Nat} {C m x : Str} {ps ks : List Str} {dv : List V} {gV : List V → List V → List V} {F : FS}
theorem _root_.Dz.CalX.no (h : CalX P w K mg base k x ps (spGX κ n F)) : Cal P w K mg base k x ps (spG κ n (noX F)) := let ⟨f, fd, a, b⟩ := h.ex; ⟨f, fd, fnok_no a, b⟩
theorem _root_.Dz.CalMX.no (h : CalMX P w K mg base k C m ps dv (spGX κ n F)) : CalM P w K mg base k C m ps dv (spG κ n (noX F)) := let ⟨cls, f, fd, ds, a, b, d, e, q⟩ := h.ex; ⟨cls, f, fd, ds, a, b, d, fnok_no e, q⟩
theorem _root_.Dz.CalMKX.no (h : CalMKX P w K mg base k C m ps c ks gV (spGX κ n F)) : CalMK P w K mg base k C m ps c ks gV (spG κ n (noX F)) := let ⟨cls, f, fd, g, a, b, d, e, q⟩ := h.ex; ⟨cls, f, fd, g, a, b, d, fnok_no e, q⟩
end
end Sm
namespace Dz
open PySem PySem.Spec PySem.SeqAt PyProof.Rows L2 RZ LamX
end Dz

namespace Dz
open PySem PySem.Spec PySem.SeqAt PyProof.Rows L2 RZ LamX
section
variable {X : Cx} {e o value : Expr} {f : Str} {ta tv : TE} {pos pos' tpos : Pos}
end
end Dz
namespace Sm
open PySem PySem.Spec PyProof.Rows L2 RZ SrtO Dz
section
variable {K : Kx}
end
section
variable {K : Kx} {ts tu tv : TS} {te ta : TE} {tt : TT} {x y : X} {v : M Vl} {e0 : M PyData} {t : M Bool} {i j : Nat}
end
end Sm

namespace Dz
open PySem PySem.Spec PySem.SeqAt PyProof.Rows L2 RZ
section
variable {prog : Program} {w : World} {A : Around} {s : Shared} {E : Value → Shared → Prop}
def IsPairU (h : Heap) (v : Value) (x : Int) : Prop := ∃ a o t u n, v = .ref a ∧ h.get? a = some o ∧ o.cls = .type "tuple" ∧ o.data = .seq #[.int x t, u] n
theorem IsPairU.keeps {h h' : Heap} {v : Value} {x : Int} (p : IsPairU h v x) (k : ∀ b o, h.get? b = some o → o.cls = .type "tuple" → h'.get? b = some o) : IsPairU h' v x := by
  obtain ⟨a, o, t, u, n, e, ho, hc, hd⟩ := p
  exact ⟨a, o, t, u, n, e, k _ _ ho hc, hc, hd⟩
theorem swo_fst (k : Value → Int) : SrtO.Swo fun v u => decide (k v < k u) := by
  refine ⟨fun x y h => ?_, fun x y z h1 h2 => ?_⟩
  · have a := of_decide_eq_true h
    exact decide_eq_false (by omega)
  · have a := of_decide_eq_false h1
    have b := of_decide_eq_false h2
    exact decide_eq_false (by omega)
theorem pairU_cmp {vs : List Value} {k : Value → Int} (hp : ∀ v ∈ vs, IsPairU s.heap v (k v)) (hn : ∀ v ∈ vs, ∀ u ∈ vs, k v = k u → v = u) : SrtO.Cmp prog w A s (tuples' true) (fun p => p.1 ∈ vs) (SrtO.lt2 fun v u => decide (k v < k u)) := by
  intro p q hm hm'
  have h1 := hp _ hm
  have h2 := hp _ hm'
  have h3 := hn _ hm _ hm'
  show wpAny (model prog w) A (keyLt' (tuples' true) p.1 q.1) (fun r s' => s' = s ∧ r = decide (k p.1 < k q.1)) (fun _ _ => False) s
  generalize k p.1 = x at h1 h3 ⊢
  generalize k q.1 = x' at h2 h3 ⊢
  obtain ⟨a, o, t, u, n, e, ho, hc, hd⟩ := h1
  obtain ⟨a', o', t', u', n', e', ho', hc', hd'⟩ := h2
  rw [e, e'] at h3
  rw [e, e']
  refine PySem.W.kat_lt ho hd ho' hd' ?_
  show PySem.W.KatLex prog w A true (decide (2 < 2)) _ [(.int x t, .int x' t'), (u, u')] 0 s
  refine PySem.W.kat_cons (SeqAt.EqAt.int_int x t x' t' prog w _ _ ?_)
  refine PySem.W.kat_go (fun e1 => ?_) (fun e1 => ?_)
  · have ex : x = x' := by simpa using e1
    cases h3 ex
    rw [ho] at ho'
    cases ho'
    rw [hd] at hd'
    have eu : u = u' := by
      injection hd' with e1 e2
      have := congrArg (fun z : Array Value => z[1]?) e1
      simpa using this
    subst eu
    refine PySem.W.kat_yes (PySem.W.kat_cons (SeqAt.EqAt.same u prog w _ _ ?_))
    refine PySem.W.kat_go (fun _ => ?_) (fun e2 => by cases e2)
    exact PySem.W.kat_yes (PySem.W.kat_nil ⟨rfl, (by rw [ex]; exact (decide_eq_false (Int.lt_irrefl _)).symm)⟩)
  · exact PySem.W.kat_no (oneLt_int ⟨rfl, rfl⟩)
theorem firstsU {h : Heap} : ∀ {vs : List Value}, (∀ v ∈ vs, ∃ x, IsPairU h v x) → ∃ fs : List Value, PySem.W.KatTups h vs fs ∧ fs.length = vs.length ∧ ∀ f ∈ fs, ∃ x t, f = Value.int x t
  | [], _ => ⟨[], PySem.W.KatTups.nil, rfl, fun _ hm => by simp at hm⟩
  | v :: vs, hp => by
    obtain ⟨fs, h1, h2, h3⟩ := firstsU (vs := vs) fun v' hm => hp v' (List.mem_cons_of_mem _ hm)
    obtain ⟨x, a, o, t, u, n, e, ho, hc, hd⟩ := hp v (List.mem_cons_self ..)
    subst e
    refine ⟨.int x t :: fs, PySem.W.KatTups.cons ho hc hd rfl h1, by rw [List.length_cons, List.length_cons, h2], fun f hm => ?_⟩
    rcases List.mem_cons.mp hm with rfl | hm
    · exact ⟨x, t, rfl⟩
    · exact h3 f hm
theorem pairsU_sortable {a : Addr} {vs : List Value} {k : Value → Int} (h0 : 0 < vs.length) (hp : ∀ v ∈ vs, IsPairU s.heap v (k v)) (hn : ∀ v ∈ vs, ∀ u ∈ vs, k v = k u → v = u) (ha : ∀ o, s.heap.get? a = some o → o.cls ≠ .type "tuple") : SrtO.SortableO prog w A s a vs fun v u => decide (k v < k u) := by
  intro h' keep
  have hp' : ∀ v ∈ vs, IsPairU h' v (k v) := fun v hm => (hp v hm).keeps fun b o e c => keep b o (fun z => by subst z; exact ha o e c) e
  obtain ⟨fs, h1, h2, h3⟩ := firstsU fun v hm => ⟨_, hp' v hm⟩
  refine ⟨tuples' true, fun Q E hq => ?_, pairU_cmp hp' hn⟩
  refine PySem.W.kat_kind (T := .type "int") h1 (by omega) (fun f hm => ?_) (by rfl) ?_
  · obtain ⟨x, t, rfl⟩ := h3 f hm
    exact PySem.W.Looks.now
  · have e : (Value.type "int" != Value.type "tuple") = true := by first | decide +kernel | rfl | decide
    rw [e]
    exact hq
theorem sorted_pairsU {l : Addr} {vs : List Value} {k : Value → Int} {Q : Value → Shared → Prop} (hl : s.heap.IsList l vs.toArray) (hz : vs.length ≤ sizeLine) (hp : ∀ v ∈ vs, IsPairU s.heap v (k v)) (hn : ∀ v ∈ vs, ∀ u ∈ vs, k v = k u → v = u)
    (h : ∀ (h' : Heap) (d : Addr) (out : List Value), SrtO.Srtd (fun v u => decide (k v < k u)) out → SrtO.Stb (fun v u => decide (k v < k u)) out vs → (∀ b o, s.heap.get? b = some o → h'.get? b = some o) → s.heap.objs.size ≤ d → (∃ n, h'.get? d = some (seqObj "list" out.toArray n)) → Q (.ref d) { s with heap := h' }) :
    wpAny (model prog w) A (call (.builtin "sorted") [.ref l]) Q E s := by
  refine SrtO.sorted_ord (swo_fst k) hl hz (fun h2 h₁ a ha kk => ?_) fun out hs hb => ?_
  · refine pairsU_sortable (s := { s with heap := h₁ }) (by omega) (fun v hm => (hp v hm).keeps fun b o e _ => (kk b o e).2) hn fun o e => ?_
    have e' : some o = some (seqObj "list" vs.toArray 0) := e.symm.trans ha
    cases e'
    intro c
    exact absurd (Value.type.inj c) (by decide)
  · exact h _ _ out hs hb (fun b o e => sortedAll_old e) (Nat.le_succ _) (sortedAll_at s.heap vs out.toArray)
end
theorem nodup_key {ps : List (Int × PyData)} (h : (ps.map (·.1)).Nodup) : ∀ {p q : Int × PyData}, p ∈ ps → q ∈ ps → p.1 = q.1 → p = q := by
  induction ps with
  | nil => intro p q hp; cases hp
  | cons x xs ih =>
    intro p q hp hq e
    rw [List.map_cons, List.nodup_cons] at h
    rcases List.mem_cons.mp hp with rfl | hp2 <;> rcases List.mem_cons.mp hq with rfl | hq2
    · rfl
    · exact absurd (List.mem_map.mpr ⟨q, hq2, e.symm⟩) h.1
    · exact absurd (List.mem_map.mpr ⟨p, hp2, e⟩) h.1
    · exact ih h.2 hp2 hq2 e
theorem map_inj {α β : Type} {f : α → β} : ∀ {xs : List α}, (xs.map f).Nodup → ∀ {x y : α}, x ∈ xs → y ∈ xs → f x = f y → x = y
  | [], _, _, _, h, _, _ => nomatch h
  | z :: zs, hn, x, y, hx, hy, e => by
    rw [List.map_cons, List.nodup_cons] at hn
    rcases List.mem_cons.mp hx with rfl | hx2 <;> rcases List.mem_cons.mp hy with rfl | hy2
    · rfl
    · exact absurd (List.mem_map.mpr ⟨y, hy2, e.symm⟩) hn.1
    · exact absurd (List.mem_map.mpr ⟨x, hx2, e⟩) hn.1
    · exact map_inj hn.2 hx2 hy2 e
theorem F2.mem {α β : Type} {R : α → β → Prop} : ∀ {xs : List α} {ys : List β}, F2 R xs ys → F2 (fun x y => R x y ∧ y ∈ ys) xs ys
  | [], _, .nil => .nil
  | x :: xs, y :: ys, .cons h t => .cons ⟨h, List.mem_cons_self⟩ (by
    have := F2.mem t
    clear h t
    generalize hy : ys = zs at this ⊢
    have hs : ∀ z, z ∈ ys → z ∈ y :: zs := fun z hz => List.mem_cons_of_mem _ (hy ▸ hz)
    subst hy
    generalize hq : ys = qs at this hs
    have key : ∀ {as : List α} {bs : List β}, F2 (fun x y => R x y ∧ y ∈ qs) as bs → F2 (fun x z => R x z ∧ z ∈ y :: qs) as bs := fun {as bs} h => by
      induction h with
      | nil => exact .nil
      | cons h _ ih => exact .cons ⟨h.1, List.mem_cons_of_mem _ h.2⟩ ih
    subst hq
    exact key this)
def rSortU (K : PySem.W.Frag) : List V → Hp → VK → Prop := fun vs H Q => ∃ (a : Addr) (xs : List V) (ps : List (Int × PyData)) (R : V → Int × PyData → Prop), vs = [V.ref a] ∧ SqL K H a xs ∧ F2 R xs ps ∧ (∀ x p, R x p → ∃ t u, x = V.ref t ∧ SqT K H t [.int p.1, u]) ∧ (ps.map (·.1)).Nodup ∧
  ∀ (ys : List V) (qs : List (Int × PyData)) (p : Addr), F2 R ys qs → qs.Perm ps → qs.Pairwise (fun a b => a.1 ≤ b.1) → H p = none → Q (.ref p) (upd H p (.lst ys))
section
variable {X : Cx}
theorem cr_sortU : CallR X (.builtin "sorted") (rSortU X.K) := by
  intro pins s σ H vs us Q I r h
  obtain ⟨a, xs, ps, R0, rfl, hs, hf0, hR0, hnd, q0⟩ := h
  obtain ⟨its, rv, hl, hz⟩ := I.list hs
  obtain ⟨u, rfl, ru⟩ := vals1 r
  obtain rfl : u = Value.ref a := ru
  obtain ⟨R, eR⟩ : ∃ R : V → Int × PyData → Prop, R = fun x p => R0 x p ∧ p ∈ ps := ⟨_, rfl⟩
  have hf : F2 R xs ps := by rw [eR]; exact hf0.mem
  have hR : ∀ x p, R x p → (∃ t u, x = V.ref t ∧ SqT X.K H t [.int p.1, u]) ∧ p ∈ ps := fun x p h => by rw [eR] at h; exact ⟨hR0 x p h.1, h.2⟩
  have hex : ∃ k : V → Int × PyData, ∀ x p, R x p → R x (k x) := by
    refine ⟨fun x => @dite _ (∃ p, R x p) (Classical.propDecidable _) (fun hx => Classical.choose hx) (fun _ => (0, .none)), fun x p hx => ?_⟩
    have he : ∃ p, R x p := ⟨p, hx⟩
    simp only [dif_pos he]
    exact Classical.choose_spec he
  obtain ⟨k, hk⟩ := hex
  have uniq : ∀ x p, R x p → p = k x := fun x p hx => by
    have h1 : R x (k x) := hk x p hx
    obtain ⟨⟨t, u, e, h2⟩, m2⟩ := hR _ _ hx
    obtain ⟨⟨t', u', e', h3⟩, m3⟩ := hR _ _ h1
    rw [e] at e'
    cases e'
    have := I.tuple_inj h2 h3
    simp only [List.cons.injEq, V.int.injEq, and_true] at this
    exact nodup_key hnd m2 m3 this.1
  obtain ⟨hps, hall⟩ := forall2_map (k := k) hf fun x p _ => uniq x p
  obtain ⟨e1, e2⟩ := refs_back rv fun x m => by
    obtain ⟨⟨t, u, e, _⟩, _⟩ := hR _ _ (hall x m)
    exact ⟨t, e⟩
  have hmx : ∀ v ∈ its, backV v ∈ xs := fun v hv => by rw [e1]; exact List.mem_map.mpr ⟨_, hv, rfl⟩
  have hinj : ∀ v ∈ its, ∀ u ∈ its, (k (backV v)).1 = (k (backV u)).1 → v = u := fun v hv u hu e => by
    have a1 := hall _ (hmx v hv)
    have a2 := hall _ (hmx u hu)
    have a3 := nodup_key hnd (hR _ _ a1).2 (hR _ _ a2).2 e
    have hnd2 : ((xs.map k).map (·.1)).Nodup := by rw [← hps]; exact hnd
    rw [List.map_map] at hnd2
    have a4 := map_inj hnd2 (hmx v hv) (hmx u hu) e
    obtain ⟨t, rfl⟩ := e2 v hv
    obtain ⟨t', rfl⟩ := e2 u hu
    have a5 : V.ref t = V.ref t' := a4
    cases a5
    rfl
  refine sorted_pairsU (k := fun u => (k (backV u)).1) hl.isList (by rw [← rv.length]; exact hz) (fun v hv => ?_) hinj fun h' d out h1 h2 kp hd hn => ?_
  · obtain ⟨t, rfl⟩ := e2 v hv
    obtain ⟨⟨t', u, e, ht⟩, _⟩ := hR _ _ (hall _ (hmx _ hv))
    cases e
    obtain ⟨its2, r2, ⟨o, ho, hc, n, hd⟩, _⟩ := I.tuple ht
    obtain ⟨u1, u2, rfl, ri, rj⟩ := vals2 r2
    obtain ⟨t1, rfl⟩ := ri
    exact ⟨t, o, t1, u2, n, rfl, ho, hc, hd⟩
  · have h3 : ∀ u ∈ out, ∃ a, u = Value.ref a := fun u hu => e2 u (h2.perm.mem_iff.mp hu)
    obtain ⟨n, hn⟩ := hn
    have hpm : (out.map backV).Perm xs := by rw [e1]; exact h2.perm.map _
    refine ⟨.ref d, upd H d (.lst (out.map backV)), I.laid (t' := s.toks) kp hd ⟨?_, out, n, vals_back h3, hn⟩, rfl, q0 _ ((out.map backV).map k) d (map_forall2 fun x hx => by
        have := hall x (hpm.mem_iff.mp hx)
        rw [eR] at this
        exact this.1) (by rw [hps]; exact hpm.map k) ?_ (I.hok.fresh hd)⟩
    · rw [hpm.length_eq]
      exact hz
    · rw [List.map_map]
      refine List.pairwise_map.mpr (List.Pairwise.imp (fun {x y} h => ?_) h1)
      have := of_decide_eq_false h
      show (k (backV x)).1 ≤ (k (backV y)).1
      omega
end
end Dz

namespace Sm
open PySem PySem.Spec PyProof.Rows L2 RZ SrtO Dz
def rStrO (K : Kx) (C : Str) (sp : Sp) : List V → Hp → VK → Prop := fun xs H Q => ∃ x a cls' dx fs, xs = [x] ∧ K.mg C = some (.ref cls') ∧ x = .ref a ∧ H a = some (.ins cls' dx fs) ∧ sp [x] H (fun v H2 => ∃ y : Str, v = .str y ∧ Q (.str y) H2) E0
theorem call_strO {X : Cx} {κ : Kx} {k : Nat} {C : Str} {ps : List Str} {sp : Sp} (hX : CxK κ X) (c : CalM X.prog X.w X.K X.mg X.base k C "__str__" ps [] sp) (hr : Room (k + 2) X.A) : CallR X (.type "str") (rStrO κ C sp) := by
  obtain ⟨cls, f, fd, ds, hc, hcl, hmt, F, hd, hb⟩ := c.ex
  rw [hX.m] at hc
  cases hd
  intro pins s σ H xs us Q I r h
  obtain ⟨x, a, cls', dx, fs, rfl, hc', rfl, ha, hsp⟩ := h
  rw [hc] at hc'
  cases hc'
  obtain ⟨u, eu, rx⟩ := vals1 r
  subst eu
  obtain rfl : u = Value.ref a := rx
  obtain ⟨mA, J, _⟩ := ins_get I.hok ha
  obtain ⟨od, J, _⟩ := J.look
  have hl := F.len _ _ _ _ hsp
  have r2 : Vals [V.ref a] [Value.ref a] := .cons rfl .nil
  have e0 : Env0 X.prog X.w X.K X.mg X.base X.A.in1.in1 X.stack s H := by
    have e := I.env0
    exact ⟨e.frames, e.mod, e.bs, e.bsz, e.funs, e.frf, e.hok, e.bare⟩
  refine PySem.W.kso_call (by have := hr.in1.in1.un; omega) I.kIn J hmt.at_ hmt.fn (wpAny_call (codeAny_mono (F.run X.A.in1.in1 X.stack s H ⟨[.ref a], []⟩ [.ref a] [.ref a] _ E0 hr.in1.in1 e0 (by
    have := hb s [.ref a] I.kIn (by simpa using hl)
    simpa using this) r2 hsp) fun r s' hq => ?_))
  cases r with
  | error e => exact (pass0 (X := X)) pins σ H s e s' I hq
  | ok fl =>
    cases fl with
    | ret u =>
      obtain ⟨v, H', I', rv, y, ev, q⟩ := I.after hq
      subst ev
      obtain ⟨t, rfl⟩ := (show ∃ t, u = Value.str y t from rv)
      exact ⟨.str y, H', I'.tok _, ⟨_, rfl⟩, q⟩
    | next => exact hq.elim
    | brk => exact hq.elim
    | cont => exact hq.elim
def strV : Vl → Option PyData
  | .dat (.str y) => some (.str y)
  | _ => none
def eStrO (F : FS) (C : Str) (h : M Nat) : M PyData := mb h fun j => mb (mg fun _ g => fsAt g j C) fun _ => mb (runF F [.ref j]) fun v => mo (strV v)
theorem s_strO {K : Kx} {te : TE} {h : M Nat} {C : Str} {F : FS} (hh : EvH K te h) : EvS K (tCB (rStrO K C (spG K 1 F)) (tCons te tNil)) (eStrO F C h) := fun l g d l' g' s H S r A e h0 Q q => by
  replace e := mb_some e; obtain ⟨j, l1, g1, e1, e⟩ := e
  replace e := mb_some e; obtain ⟨fs, l0, g0, e0, e⟩ := e
  replace e0 := mg_some e0; obtain ⟨e0, rfl, rfl⟩ := e0
  replace e := mb_some e; obtain ⟨v, l2, g2, e2, e⟩ := e
  obtain ⟨e3, rfl⟩ := runF_some e2
  replace e := mo_some e; obtain ⟨e, rfl, rfl⟩ := e
  refine hh _ _ _ _ _ s H S r A e1 h0 _ fun ad H1 S1 r1 A1 m1 h1 hr => ?_
  obtain ⟨cls, dx, vs, k1, k2, k3, _⟩ := h1.obj hr e0
  refine ⟨.ref ad, ad, cls, dx, vs, rfl, k1, rfl, k2, call_at h1 (.cons (ok_ref hr) .nil) rfl e3 fun w H3 S3 r3 m3 h3 d3 => ?_⟩
  unfold strV at e
  split at e
  · rename_i y
    cases e
    have d3 : Dp K S3 w (.str y) := d3
    cases d3
    exact ⟨y, rfl, q _ H3 S3 r3 A1 (m1.trans m3) h3 (.str _)⟩
  · cases e
theorem wp_eStrO {F : FS} {C : Str} {h : M Nat} {l : Lo} {g : Sg} {Q : PyData → Lo → Sg → Prop} (hh : Wp h l g fun j l1 g1 => ∃ fs, g1[j]? = some (.ins C fs) ∧ FOk F [.ref j] g1 fun v g2 => ∃ y : Str, v = .dat (.str y) ∧ Q (.str y) l1 g2) : Wp (eStrO F C h) l g Q := by
  refine wp_mb (wp_mono hh fun j l1 g1 hh => ?_)
  obtain ⟨fs, e1, hh⟩ := hh
  refine wp_mb (wp_mg ⟨fs, fsAt_of e1, wp_mb (wp_runF (fok_mono hh fun v g2 ⟨y, ev, q⟩ => ?_))⟩)
  subst ev
  exact wp_mo ⟨.str y, rfl, q⟩
def fmtD : PyData → Option Str
  | .str y => some y
  | .int i => if -1000000000 ≤ i ∧ i ≤ 1000000000 then some (Str.ofString (toString i)) else none
  | _ => none
def jNil : M (List Str) := mp []
def jFmt (a : M PyData) (w : M (List Str)) : M (List Str) := mb a fun x => mb (mo (fmtD x)) fun y => mb w fun ys => mp (y :: ys)
def jStr (x : Str) (w : M (List Str)) : M (List Str) := mb w fun ys => mp (x :: ys)
def catS : Str → List Str → Str
  | acc, [] => acc
  | acc, y :: ys => catS (acc ++ y) ys
def lenS : List Str → Nat
  | [] => 0
  | y :: ys => y.length + lenS ys
def eJs (w : M (List Str)) : M PyData := mb w fun ys => mo (if lenS ys ≤ 100000 then some (.str (catS Str.empty ys)) else none)
def EvJ (K : Kx) (ts : List TE) (w : M (List Str)) : Prop := ∀ l g ys l' g' s H S r A, w l g = some (ys, l', g') → StOk K l g s H S r A → ∀ (acc : Str) (Q : Str → Hp → Prop), acc.length + lenS ys ≤ 100000 → (∀ H' S' r' A', Mv K S H r A S' H' r' A' → StOk K l' g' s H' S' r' A' → Q (catS acc ys) H') → tJs ts acc s H Q
theorem lenA (a b : Str) : (a ++ b).length = a.length + b.length := PySem.Str.length_append a b
section
variable {K : Kx} {ta : TE} {a : M PyData} {w : M (List Str)} {ts : List TE}
theorem sj_nil : EvJ K [] jNil := fun l g ys l' g' s H S r A e h acc Q hz q => by
  obtain ⟨rfl, rfl, rfl⟩ := mp_some e
  exact q H S r A (Mv.refl h.hs) h
theorem sj_fmt (ha : EvS K ta a) (hw : EvJ K ts w) : EvJ K (tFmt ta :: ts) (jFmt a w) := fun l g ys l' g' s H S r A e h acc Q hz q => by
  replace e := mb_some e; obtain ⟨x, l1, g1, e1, e⟩ := e
  replace e := mb_some e; obtain ⟨y, l2, g2, e2, e⟩ := e
  obtain ⟨e2, rfl, rfl⟩ := mo_some e2
  replace e := mb_some e; obtain ⟨zs, l3, g3, e3, e⟩ := e
  obtain ⟨rfl, rfl, rfl⟩ := mp_some e
  have hz' : acc.length + (y.length + lenS zs) ≤ 100000 := hz
  have hsz : 100000 ≤ sizeLine := by decide
  refine ha _ _ _ _ _ s H S r A e1 h _ fun v H1 S1 r1 A1 m1 h1 d1 => ?_
  have go : ∀ H2, H2 = H1 → tJs ts (acc ++ y) s H2 Q := fun H2 e => by
    subst e
    exact hw _ _ _ _ _ s H2 S1 r1 A1 e3 h1 (acc ++ y) Q (by rw [lenA]; omega) fun H' S' r' A' m2 h2 => q H' S' r' A' (m1.trans m2) h2
  unfold fmtD at e2
  split at e2
  · rename_i z
    cases e2
    cases d1
    exact .inl ⟨y, rfl, by omega, y, rfl, by rw [lenA]; omega, go H1 rfl⟩
  · rename_i i _
    split at e2
    · rename_i hi
      cases e2
      cases d1
      exact .inr ⟨i, rfl, log2_small (by omega), _, rfl, by show (acc ++ Str.ofString (toString i)).length ≤ _; rw [lenA]; omega, go H1 rfl⟩
    · cases e2
  · cases e2
theorem sj_str {x : Str} {te : TE} (hx : ∀ s H (Q : VK), Q (.str x) H → te s H Q) (hw : EvJ K ts w) : EvJ K (te :: ts) (jStr x w) := fun l g ys l' g' s H S r A e h acc Q hz q => by
  replace e := mb_some e; obtain ⟨zs, l3, g3, e3, e⟩ := e
  obtain ⟨rfl, rfl, rfl⟩ := mp_some e
  have hz' : acc.length + (x.length + lenS zs) ≤ 100000 := hz
  have hsz : 100000 ≤ sizeLine := by decide
  exact hx s H _ ⟨x, rfl, by rw [lenA]; omega, hw _ _ _ _ _ s H S r A e3 h (acc ++ x) Q (by rw [lenA]; omega) fun H' S' r' A' m2 h2 => q H' S' r' A' m2 h2⟩
theorem s_js (hw : EvJ K ts w) : EvS K (fun σ H Q => tJs ts Str.empty σ H fun out H1 => Q (.str out) H1) (eJs w) := fun l g d l' g' s H S r A e h Q q => by
  replace e := mb_some e; obtain ⟨ys, l1, g1, e1, e⟩ := e
  obtain ⟨e, rfl, rfl⟩ := mo_some e
  split at e
  · rename_i hz
    cases e
    exact hw _ _ _ _ _ s H S r A e1 h Str.empty _ (by show 0 + _ ≤ _; omega) fun H' S' r' A' m h' => q _ H' S' r' A' m h' (.str _)
  · cases e
end
section
variable {l : Lo} {g : Sg} {a : M PyData} {w : M (List Str)}
theorem wp_jNil {Q : List Str → Lo → Sg → Prop} (q : Q [] l g) : Wp jNil l g Q := wp_mp q
theorem wp_jFmt {Q : List Str → Lo → Sg → Prop} (h : Wp a l g fun x l1 g1 => ∃ y, fmtD x = some y ∧ Wp w l1 g1 fun ys l2 g2 => Q (y :: ys) l2 g2) : Wp (jFmt a w) l g Q := wp_mb (wp_mono h fun _ _ _ ⟨y, e, h⟩ => wp_mb (wp_mo ⟨y, e, wp_mb (wp_mono h fun _ _ _ h => wp_mp h)⟩))
theorem wp_jStr {x : Str} {Q : List Str → Lo → Sg → Prop} (h : Wp w l g fun ys l2 g2 => Q (x :: ys) l2 g2) : Wp (jStr x w) l g Q := wp_mb (wp_mono h fun _ _ _ h => wp_mp h)
theorem wp_eJs {Q : PyData → Lo → Sg → Prop} (h : Wp w l g fun ys l2 g2 => lenS ys ≤ 100000 ∧ Q (.str (catS Str.empty ys)) l2 g2) : Wp (eJs w) l g Q := wp_mb (wp_mono h fun _ _ _ h => wp_mo ⟨_, if_pos h.1, h.2⟩)
end
section
variable {K : Kx} {tt : TT} {te : TE} {t : M Bool} {e0 : M PyData} {tg : TG} {gg : G} {vs : List Nat} {i : Nat}
end
section
variable {K : Kx} {ta tb tc : TE} {m : M (List (Key × PyData))} {b c : M PyData} {i j k : Nat}
end
end Sm

namespace Sm
open PySem PySem.Spec PyProof.Rows L2 RZ SrtO Dz
def lCat (a b : M PyData) : M (List PyData) := mb a fun x => mb b fun y => mo (match x, y with
  | .list xs, .list ys => if xs.length + ys.length ≤ 4000000 then some (xs ++ ys) else none
  | _, _ => none)
section
variable {K : Kx} {ta tb : TE} {a b : M PyData}
end
def prU (p : Int × PyData) : PyData := .tuple [.int p.1, p.2]
def prsO : List PyData → Option (List (Int × PyData))
  | [] => some []
  | .tuple [.int i, d] :: r => (prsO r).map ((i, d) :: ·)
  | _ => none
def sortU (ps : List (Int × PyData)) : List (Int × PyData) := ps.mergeSort fun a b => decide (a.1 ≤ b.1)
theorem sortU_perm (ps : List (Int × PyData)) : (sortU ps).Perm ps := List.mergeSort_perm _ _
theorem sortU_le (ps : List (Int × PyData)) : (sortU ps).Pairwise fun a b => a.1 ≤ b.1 := by
  have h := List.pairwise_mergeSort (le := fun a b : Int × PyData => decide (a.1 ≤ b.1)) (fun a b c h1 h2 => by
    have h1 := of_decide_eq_true h1
    have h2 := of_decide_eq_true h2
    exact decide_eq_true (by omega)) (fun a b => by
    by_cases h : a.1 ≤ b.1
    · rw [decide_eq_true h]; rfl
    · have : b.1 ≤ a.1 := by omega
      rw [decide_eq_true this]; simp) ps
  exact h.imp fun h => of_decide_eq_true h
theorem sortU_uniq : ∀ {xs ys : List (Int × PyData)}, xs.Perm ys → (xs.map (·.1)).Nodup → xs.Pairwise (fun a b => a.1 ≤ b.1) → ys.Pairwise (fun a b => a.1 ≤ b.1) → xs = ys
  | [], ys, h, _, _, _ => by rw [List.nil_perm.mp h]
  | x :: xs, [], h, _, _, _ => by simp at h
  | x :: xs, y :: ys, h, hn, h1, h2 => by
    have hx : x ∈ y :: ys := h.mem_iff.mp List.mem_cons_self
    have hy : y ∈ x :: xs := h.mem_iff.mpr List.mem_cons_self
    have e : x = y := by
      rcases List.mem_cons.mp hx with e | hx
      · exact e
      rcases List.mem_cons.mp hy with e | hy
      · exact e.symm
      have a := (List.pairwise_cons.mp h1).1 y hy
      have b := (List.pairwise_cons.mp h2).1 x hx
      have hn1 := (List.nodup_cons.mp hn).1
      exact absurd (List.mem_map.mpr ⟨y, hy, show y.1 = x.1 by omega⟩) hn1
    subst e
    rw [sortU_uniq (List.Perm.cons_inv h) (List.nodup_cons.mp hn).2 (List.pairwise_cons.mp h1).2 (List.pairwise_cons.mp h2).2]
def sortUD : List PyData → Option PyData
  | [.list ds] => (prsO ds).bind fun ps => if (ps.map (·.1)).Nodup then some (.list ((sortU ps).map prU)) else none
  | _ => none
section
variable {K : Kx} {S : Hp}
theorem prs_at : ∀ {ds : List PyData} {ps : List (Int × PyData)} {xs : List V}, prsO ds = some ps → DpAll K S xs ds → F2 (fun x p => Dp K S x (prU p)) xs ps
  | [], ps, _, h, .nil => by cases h; exact .nil
  | d :: r, ps, _, h, .cons (vs := vs) hd ht => by
    unfold prsO at h
    split at h
    · rename_i heq; cases heq
    · rename_i i j r' heq
      cases heq
      obtain ⟨ps', e, rfl⟩ := Option.map_eq_some_iff.mp h
      exact .cons hd (prs_at e ht)
    · cases h
theorem at_prs : ∀ {qs : List (Int × PyData)} {ys : List V}, F2 (fun x p => Dp K S x (prU p)) ys qs → DpAll K S ys (qs.map prU)
  | [], _, .nil => .nil
  | q :: r, _, .cons h t => .cons h (at_prs t)
theorem rc_sortUD : RCO K (rSortU K) sortUD := fun as c e => by
  unfold sortUD at e
  split at e
  · obtain ⟨ps, e1, e2⟩ := Option.bind_eq_some_iff.mp e
    split at e2
    · rename_i hnd
      cases e2
      intro vs S H Q hs hx q
      cases hx with
      | cons h1 h2 =>
        cases h2
        cases h1 with
        | lst h3 h4 =>
          refine ⟨_, _, ps, fun x p => Dp K S x (prU p), rfl, hs.seq h3, prs_at e1 h4, fun x p hx => ?_, hnd, fun ys qs p h5 h6 h7 hn => ?_⟩
          · cases hx with
            | tup k1 k2 =>
              cases k2 with
              | cons a1 a2 =>
                cases a1
                cases a2 with
                | cons b1 b2 =>
                  cases b2
                  exact ⟨_, _, rfl, same_seqT hs k1⟩
          · have e2 : qs = sortU ps := sortU_uniq (h6.trans (sortU_perm ps).symm) ((h6.map _).nodup_iff.mpr hnd) h7 (sortU_le ps)
            subst e2
            exact new_lst hs (at_prs h5) q p hn
    · cases e2
  · cases e
theorem k_sortU {X : Cx} (K : PySem.W.Frag) (h : X.K = K := by rfl) : CallR X (.builtin "sorted") (rSortU K) := h ▸ cr_sortU
theorem prsO_map {α : Type} (f : α → Int × PyData) : ∀ xs : List α, prsO (xs.map fun x => prU (f x)) = some (xs.map f)
  | [] => rfl
  | x :: r => by
    show (prsO (r.map fun x => prU (f x))).map _ = _
    rw [prsO_map f r]
    rfl
theorem sortUD_of {ps qs : List (Int × PyData)} (h : qs.Perm ps) (hn : (ps.map (·.1)).Nodup) (hq : qs.Pairwise fun a b => a.1 ≤ b.1) : sortUD [.list (ps.map prU)] = some (.list (qs.map prU)) := by
  have e := prsO_map (fun p : Int × PyData => p) ps
  rw [List.map_id'] at e
  show (prsO (ps.map prU)).bind _ = _
  rw [e, Option.bind_some, if_pos hn, sortU_uniq (h.trans (sortU_perm ps).symm) ((h.map _).nodup_iff.mpr hn) hq (sortU_le ps)]
end
end Sm

namespace Sm
open PySem PySem.SeqAt PySem.Spec PyProof.Rows L2 RZ SrtO Dz
abbrev IRel (ι : Type) := Hp → List Addr → V → ι → Prop
structure MonoR {ι : Type} (R : IRel ι) : Prop where
  go : ∀ {S S1 : Hp} {r r1 : List Addr} {v : V} {x : ι}, R S r v x → Same S S1 → (∃ q, r1 = r ++ q) → R S1 r1 v x
def rD (K : Kx) : IRel PyData := fun S _ v d => Dp K S v d
def rO (K : Kx) : IRel Ov := fun S r v x => OvOk K S r x v
theorem mono_D {K : Kx} : MonoR (rD K) := ⟨fun h hs _ => Dp_mono h hs⟩
theorem mono_O {K : Kx} : MonoR (rO K) := ⟨fun h hs hr => OvOk.go h hs hr⟩
def EvG (K : Kx) {ι : Type} (R : IRel ι) (te : TE) (e : M ι) : Prop := ∀ l g d l' g' s H S r A, e l g = some (d, l', g') → StOk K l g s H S r A → ∀ Q : VK, (∀ v H' S' r' A', Mv K S H r A S' H' r' A' → StOk K l' g' s H' S' r' A' → R S' r' v d → Q v H') → te s H Q
def EvGA (K : Kx) {ι : Type} (R : IRel ι) (ta : TA) (e : M (List ι)) : Prop := ∀ l g ds l' g' s H S r A, e l g = some (ds, l', g') → StOk K l g s H S r A → ∀ Q : List V → Hp → Prop, (∀ vs H' S' r' A', Mv K S H r A S' H' r' A' → StOk K l' g' s H' S' r' A' → Paired (R S' r') vs ds → Q vs H') → ta s H Q
structure WalkG {ι : Type} (J : It) (S : Hp) (r : List Addr) (R : IRel ι) (xs : List ι) : Prop where
  go : ∀ i H, i < xs.length → Same S H → J.go i H
  stop : ∀ H, Same S H → J.stop xs.length H
  yld : ∀ i H x H' d S2, xs[i]? = some d → Same S S2 → Same S2 H → J.yld i H x H' → ∃ S', Grow m0 S2 H S' H' ∧ R S' r x d
def EvIG (K : Kx) {ι : Type} (R : IRel ι) (wi : TI) (e : M (List ι)) : Prop := ∀ l g ds l' g' s H S r A, e l g = some (ds, l', g') → StOk K l g s H S r A → ∀ Q : It → Hp → Prop, (∀ J H' S' r' A', Mv K S H r A S' H' r' A' → StOk K l' g' s H' S' r' A' → WalkG J S' r' R ds → Q J H') → wi s H Q
def BdG (K : Kx) {ι : Type} (R : IRel ι) (tg : TG) (G : ι → Lo → Option Lo) : Prop := ∀ l g d l' s H S r A v (Q : L2.St → Hp → Prop), G d l = some l' → StOk K l g s H S r A → R S r v d → (∀ s' H' S' A', Mv K S H r A S' H' r A' → StOk K l' g s' H' S' r A' → Q s' H') → tg v s H Q
theorem paired_app {α β : Type} {R : α → β → Prop} {xs xs2 : List α} {ys ys2 : List β} (h : Paired R xs ys) (h2 : Paired R xs2 ys2) : Paired R (xs ++ xs2) (ys ++ ys2) := by
  induction h with
  | nil => exact h2
  | cons a b ih => exact .cons a ih
theorem paired_at {α β : Type} {R : α → β → Prop} {xs : List α} {ys : List β} (h : Paired R xs ys) : ∀ {i : Nat} {y : β}, ys[i]? = some y → ∃ x, xs[i]? = some x ∧ R x y := by
  induction h with
  | nil => intro i y e; simp at e
  | cons a b ih =>
    intro i y e
    cases i with
    | zero => simp at e; subst e; exact ⟨_, rfl, a⟩
    | succ i => simpa using ih (i := i) (by simpa using e)
section
variable {K : Kx} {ta tb te : TE} {tr : TA}
theorem ig_D {wi : TI} {it : M (List PyData)} (h : EvI K wi it) : EvIG K (rD K) wi it := fun l g ds l' g' s H S r A e h0 Q q => h _ _ _ _ _ s H S r A e h0 _ fun J H' S' r' A' m h1 w => q J H' S' r' A' m h1 ⟨w.go, w.stop, w.yld⟩
theorem eg_D {e : M PyData} (h : EvS K te e) : EvG K (rD K) te e := h
theorem bg_D {tg : TG} {gg : G} (h : BdS K tg gg) : BdG K (rD K) tg gg := h

def oRef (v : M Vl) : M Ov := mb v fun x => match x with
  | .ref j => mp (.ref j)
  | _ => fail
def oNil : M (List Ov) := mp []
def oCons (a : M Ov) (m : M (List Ov)) : M (List Ov) := mb a fun x => mb m fun xs => mp (x :: xs)
theorem og_ref {v : M Vl} (h : EvV K te v) : EvG K (rO K) te (oRef v) := fun l g d l' g' s H S r A e h0 Q q => by
  replace e := mb_some e; obtain ⟨x, l1, g1, e1, e⟩ := e
  refine h _ _ _ _ _ s H S r A e1 h0 _ fun v1 H1 S1 r1 A1 m1 h1 d1 => ?_
  cases x with
  | ref j => obtain ⟨rfl, rfl, rfl⟩ := mp_some e; exact q v1 H1 S1 r1 A1 m1 h1 d1
  | _ => cases e
theorem og_nil : EvGA K (rO K) tNil oNil := fun l g d l' g' s H S r A e h0 Q q => by
  obtain ⟨rfl, rfl, rfl⟩ := mp_some e
  exact q [] H S r A (Mv.refl h0.hs) h0 .nil
theorem og_cons {a : M Ov} {m : M (List Ov)} (h1 : EvG K (rO K) te a) (h2 : EvGA K (rO K) tr m) : EvGA K (rO K) (tCons te tr) (oCons a m) := fun l g d l' g' s H S r A e h0 Q q => by
  replace e := mb_some e; obtain ⟨x, l1, g1, e1, e⟩ := e
  replace e := mb_some e; obtain ⟨xs, l2, g2, e2, e⟩ := e
  obtain ⟨rfl, rfl, rfl⟩ := mp_some e
  exact h1 _ _ _ _ _ s H S r A e1 h0 _ fun v1 H1 S1 r1 A1 m1 k1 d1 => h2 _ _ _ _ _ s H1 S1 r1 A1 e2 k1 _ fun vs H2 S2 r2 A2 m2 k2 d2 => q _ H2 S2 r2 A2 (m1.trans m2) k2 (.cons (mono_O.go d1 m2.s m2.p) d2)
def vOs (tup : Bool) (m : M (List Ov)) : M Vl := mb m fun xs => mo (smallO xs.length (.os tup xs))
theorem s_osL {m : M (List Ov)} (h : EvGA K (rO K) tr m) : EvV K (tLst tr) (vOs false m) := fun l g d l' g' s H S r A e h0 Q q => by
  replace e := mb_some e; obtain ⟨xs, l1, g1, e1, e⟩ := e
  replace e := mo_some e; obtain ⟨e, rfl, rfl⟩ := e
  obtain ⟨hz, rfl⟩ := smallO_some e
  refine h _ _ _ _ _ s H S r A e1 h0 _ fun vs H1 S1 r1 A1 m1 h1 d1 => ⟨szl (by rw [paired_len d1]; exact hz), fun p hp => ?_⟩
  have g2 : Grow m0 S1 H1 (upd S1 p (.lst vs)) (upd H1 p (.lst vs)) := Grow.new h1.hs hp
  exact q _ _ _ r1 A1 (m1.trans (Mv.grow g2)) (h1.grow g2) ⟨p, vs, rfl, upd_same, Paired.mapP d1 fun _ _ z => mono_O.go z g2.s ⟨[], by simp⟩⟩
def iOs (i : Nat) : M (List Ov) := mg fun l g => match l[i]? with
  | some (.os _ xs) => some xs
  | _ => none
theorem s_ios {i : Nat} : EvIG K (rO K) (iSeq K (tVar i)) (iOs i) := fun l g ds l' g' s H S r A e h0 Q q => by
  replace e := mg_some e; obtain ⟨e, rfl, rfl⟩ := e
  split at e
  · rename_i b xs hl
    cases e
    obtain ⟨o, v, e1, e2, e3, w, rfl, a, ys, rfl, e4, e5⟩ := h0.ok i _ hl
    have hlen := paired_len e5
    cases b with
    | true =>
      have hq : ∀ H', Same S H' → SqT K H' a ys := fun H' hs => .inl (.inl (hs _ _ e4))
      refine .inr ⟨_, e2, _, rfl, ⟨_, hq _ h0.hs⟩, q _ H S r A (Mv.refl h0.hs) h0 ?_⟩
      have w := walk_tup (K := K) (a := a) (xs := ys)
      rw [hlen] at w
      refine ⟨fun i H hi hs => w.goes i H hi (hq _ hs), fun H hs => w.stops H (hq _ hs), fun i H x H' d S2 e s1 s2 y => ?_⟩
      obtain ⟨rfl, q⟩ := w.yields i H x H' (List.getElem?_eq_some_iff.mp e).1 (hq _ (s1.trans s2)) y
      obtain ⟨v, hv, hdv⟩ := paired_at e5 e
      rw [hv] at q
      cases q
      exact ⟨S2, Grow.refl s2, OvOk.go hdv s1 ⟨[], by simp⟩⟩
    | false =>
      have hq : ∀ H', Same S H' → SqL K H' a ys := fun H' hs => .inl (.inl (hs _ _ e4))
      refine .inl ⟨_, e2, _, rfl, ⟨_, hq _ h0.hs⟩, q _ H S r A (Mv.refl h0.hs) h0 ?_⟩
      have w := walk_list (K := K) (a := a) (xs := ys)
      rw [hlen] at w
      refine ⟨fun i H hi hs => w.goes i H hi (hq _ hs), fun H hs => w.stops H (hq _ hs), fun i H x H' d S2 e s1 s2 y => ?_⟩
      obtain ⟨rfl, q⟩ := w.yields i H x H' (List.getElem?_eq_some_iff.mp e).1 (hq _ (s1.trans s2)) y
      obtain ⟨v, hv, hdv⟩ := paired_at e5 e
      rw [hv] at q
      cases q
      exact ⟨S2, Grow.refl s2, OvOk.go hdv s1 ⟨[], by simp⟩⟩
  · cases e
def goNm (i : Nat) : Ov → Lo → Option Lo := fun x l => match x with
  | .ref j => some (l.set i (.ref j))
  | _ => none
def goPr (i k : Nat) : Ov → Lo → Option Lo := fun x l => match x with
  | .pr d j => some ((l.set i (.dat d)).set k (.ref j))
  | _ => none
theorem bo_name {i : Nat} : BdG K (rO K) (gName i) (goNm i) := fun l g d l' s H S r A v Q e h hd q => by
  unfold goNm at e
  split at e
  · cases e
    obtain ⟨a, e1, rfl⟩ := hd
    exact q _ H S _ (Mv.refl h.hs).set (h.set ⟨rfl, a, e1, rfl⟩)
  · cases e
theorem bo_pr {i k : Nat} : BdG K (rO K) (gTup K 2 (gCons (gName i) (gCons (gName k) gNil))) (goPr i k) := fun l g d l' s H S r A v Q e h hd q => by
  unfold goPr at e
  split at e
  · rename_i d0 j0
    cases e
    obtain ⟨t, w, a, rfl, e1, e2, e3⟩ := hd
    exact ⟨_, _, rfl, .inl (.inl (h.hs _ _ e1)), rfl, _, _, rfl, _, _, rfl, rfl, q _ H S _ ((Mv.refl h.hs).set.set) ((h.set (y := .dat d0) ⟨rfl, w, rfl, e2⟩).set ⟨rfl, a, e3, rfl⟩)⟩
  · cases e

def lcG {ι κ : Type} (vs : List Nat) (tg : ι → Lo → Option Lo) (t : M Bool) (e : M κ) : List ι → M (List κ)
  | [] => mp []
  | d :: ds => fun l g => match tg d (wipeV l vs) with
    | none => none
    | some l1 => match t l1 g with
      | none => none
      | some (true, l2, g2) => (match e l2 g2 with
        | none => none
        | some (y, l3, g3) => mb (lcG vs tg t e ds) (fun ys => mp (y :: ys)) (backV l l3 vs) g3)
      | some (false, l2, g2) => lcG vs tg t e ds (backV l l2 vs) g2
theorem lcG_step {ι κ : Type} {vs : List Nat} {tg : ι → Lo → Option Lo} {t : M Bool} {e : M κ} {d : ι} {ds : List ι} {ys : List κ} {l l' : Lo} {g g' : Sg} (h : lcG vs tg t e (d :: ds) l g = some (ys, l', g')) :
    ∃ l1 b l2 g2, tg d (wipeV l vs) = some l1 ∧ t l1 g = some (b, l2, g2) ∧ ((b = true ∧ ∃ y l3 g3 zs, e l2 g2 = some (y, l3, g3) ∧ lcG vs tg t e ds (backV l l3 vs) g3 = some (zs, l', g') ∧ ys = y :: zs) ∨ (b = false ∧ lcG vs tg t e ds (backV l l2 vs) g2 = some (ys, l', g'))) := by
  unfold lcG at h
  split at h
  · cases h
  · rename_i l1 e1
    split at h
    · cases h
    · rename_i l2 g2 e2
      split at h
      · cases h
      · rename_i y l3 g3 e3
        obtain ⟨zs, l4, g4, e4, e5⟩ := mb_some h
        obtain ⟨rfl, rfl, rfl⟩ := mp_some e5
        exact ⟨l1, true, l2, g2, e1, e2, .inl ⟨rfl, y, l3, g3, zs, e3, e4, rfl⟩⟩
    · rename_i l2 g2 e2
      exact ⟨l1, false, l2, g2, e1, e2, .inr ⟨rfl, h⟩⟩
end
section
variable {K : Kx} {tt : TT} {te : TE} {t : M Bool} {wi : TI} {vs : List Nat}
theorem lg_run {ι κ : Type} {R1 : IRel ι} {R2 : IRel κ} (M1 : MonoR R1) (M2 : MonoR R2) {tg : TG} {gg : ι → Lo → Option Lo} {e0 : M κ} {l1 l' : Lo} {g1 g' : Sg} {s : L2.St} {H S : Hp} {r : List Addr} {A : List (Option Addr)} {ds : List ι} {d : List κ} (hi : ∀ R : It → Hp → Prop, (∀ J H' S' r' A', Mv K S H r A S' H' r' A' → StOk K l1 g1 s H' S' r' A' → WalkG J S' r' R1 ds → R J H') → wi s H R) (hg : GIn tg vs) (hm : ∀ v s H (Q Q' : L2.St → Hp → Prop), (∀ s' H', Q s' H' → Q' s' H') → tg v s H Q → tg v s H Q') (hb : BdG K R1 tg gg) (ht : EvT K tt t) (he : EvG K R2 te e0)
    (hpl : plainAt vs l1 = true) (hz : ds.length ≤ 4000000) (e : lcG vs gg t e0 ds l1 g1 = some (d, l', g')) (Q : VK) (q : ∀ p xs H' S' r' A', Mv K S H r A S' H' r' A' → StOk K l' g' s H' S' r' A' → H p = none → ¬ tr S' H' A' r' p → S' p = none → H' p = some (.lst xs) → Paired (R2 S' r') xs d → Q (.ref p) H') : tLc wi tg tt te vs s H Q := by
  refine hi _ fun J H1 S1 r1 A1 m1 h1 w => ?_
  intro D hD
  have hDH : H D = none := by
    cases hq : H D with
    | none => rfl
    | some u => exact absurd hD (m1.d D (some_ne hq))
  have gD : Grow m0 S1 H1 S1 (upd H1 D (.lst [])) := Grow.out h1.hs hD
  have hDt : ¬ tr S1 H1 A1 r1 D := fun z => (h1.there z).1 hD
  refine ⟨fun i m H2 => m = ds.length - i ∧ i ≤ ds.length ∧ ∃ li gi Si ri Ai acc ac rest, StOk K li gi s H2 Si ri Ai ∧ Mv K S1 H1 r1 A1 Si H2 ri Ai ∧ ¬ tr Si H2 Ai ri D ∧ Si D = none ∧ H2 D = some (.lst acc) ∧ Paired (R2 Si ri) acc ac ∧ ac.length ≤ i ∧ plainAt vs li = true ∧ lcG vs gg t e0 (ds.drop i) li gi = some (rest, l', g') ∧ d = ac ++ rest,
    ⟨ds.length, by simp, Nat.zero_le _, l1, g1, S1, r1, A1, [], [], d, h1.grow gD, Mv.grow gD, fun z => hDt (tr_upd z), h1.hs.free hD, upd_same, .nil, Nat.le_refl _, hpl, e, rfl⟩, ?_⟩
  rintro i m H2 ⟨rfl, hle, li, gi, Si, ri, Ai, acc, ac, rest, hst, mi, hDi, sDi, hacc, hdacc, hal, hpi, hrun, hd⟩
  by_cases hlt : i < ds.length
  · have mw := m1.trans mi
    refine .inr ⟨w.go i H2 hlt (mi.s.trans hst.hs), fun H3 => i + 1 ≤ ds.length ∧ ∃ li gi Si ri Ai acc ac rest, StOk K li gi s H3 Si ri Ai ∧ Mv K S1 H1 r1 A1 Si H3 ri Ai ∧ ¬ tr Si H3 Ai ri D ∧ Si D = none ∧ H3 D = some (.lst acc) ∧ Paired (R2 Si ri) acc ac ∧ ac.length ≤ i + 1 ∧ plainAt vs li = true ∧ lcG vs gg t e0 (ds.drop (i + 1)) li gi = some (rest, l', g') ∧ d = ac ++ rest, fun H3 ⟨q1, q2⟩ => ⟨ds.length - (i + 1), by omega, rfl, q1, q2⟩, fun x H3 y => ?_⟩
    have hdi : ds[i]? = some ds[i] := List.getElem?_eq_getElem hlt
    obtain ⟨S3, g3, d3'⟩ := w.yld i H2 x H3 ds[i] Si hdi mi.s hst.hs y
    have d3 := M1.go d3' (Same.refl S3) mi.p
    have h3 := hst.grow g3
    have hdrop : ds.drop i = ds[i] :: ds.drop (i + 1) := List.drop_eq_getElem_cons hlt
    rw [hdrop] at hrun
    obtain ⟨lb, b, l2, g2, k1, k2, k3⟩ := lcG_step hrun
    have sD3 : S3 D = none := g3.n D sDi (some_ne hacc)
    have hD3 : H3 D = some (.lst acc) := g3.all D _ hacc
    have bnd := hb _ _ _ _ _ _ _ _ _ x (fun s4 H4 => ∃ S4 A4, Mv K S3 H3 ri (cutA Ai vs) S4 H4 ri A4 ∧ StOk K lb gi s4 H4 S4 ri A4) k1 (h3.wipe (vs := vs)) d3 fun s4 H4 S4 A4 m4 h4 => ⟨S4, A4, m4, h4⟩
    refine hm _ _ _ _ _ ?_ (hg x (wipe s vs) H3 _ bnd)
    rintro s4 H4 ⟨hw, S4, A4, m4, h4⟩
    have hw' : wipe s4 vs = wipe s vs := by
      rw [hw]
      apply List.ext_getElem?
      intro j
      rw [wipe_get, wipe_get, wipe_length]
      by_cases hj : j ∈ vs
      · rw [if_pos hj, if_pos hj]
      · rw [if_neg hj, if_neg hj]
    refine ⟨hw', ?_⟩
    have hDc : ¬ tr S3 H3 (cutA Ai vs) ri D := fun z => (tr_back (trcut z) g3.s fun o e => .inr (g3.all _ o e)).elim hDi (some_ne hacc)
    have sD4 : S4 D = none := m4.n D sD3 (some_ne hD3) hDc
    have hD4 : H4 D = some (.lst acc) := m4.k D _ hDc hD3
    have hD4t : ¬ tr S4 H4 A4 ri D := fun z => (m4.f D z).elim hDc (some_ne hD3)
    have mc : Mv K Si H2 ri Ai S4 H4 ri A4 := by
      have := (Mv.grow (r := ri) (A := Ai) g3).trans (Mv.trans (A1 := cutA Ai vs) (A2 := A4) (r1 := ri) (r2 := ri) ⟨Same.refl S3, h3.hs, fun _ e _ _ => e, fun _ _ _ e => e, fun _ e => e, ⟨[], by simp⟩, fun a z => .inl (trcut z), tKeep⟩ m4)
      exact this
    have hlen4 : lb.length = li.length := by
      have e1 := h4.ls
      have e2 := hst.ls
      have e3 := congrArg List.length hw'
      rw [wipe_length, wipe_length] at e3
      omega
    refine ht _ _ _ _ _ s4 H4 S4 ri A4 k2 h4 _ fun H5 S5 r5 A5 m5 h5 => ?_
    have sD5 : S5 D = none := m5.n D sD4 (some_ne hD4) hD4t
    have hD5 : H5 D = some (.lst acc) := m5.k D _ hD4t hD4
    have hD5t : ¬ tr S5 H5 A5 r5 D := fun z => (m5.f D z).elim hD4t (some_ne hD4)
    have hlen5 : l2.length = li.length := by
      have e1 := h5.ls
      have e2 := h4.ls
      omega
    rcases k3 with ⟨rfl, y2, l3, g3', zs, k4, k5, k6⟩ | ⟨rfl, k4⟩
    · rw [if_pos rfl]
      refine he _ _ _ _ _ s4 H5 S5 r5 A5 k4 h5 _ fun v6 H6 S6 r6 A6 m6 h6 d6 => ?_
      have sD6 : S6 D = none := m6.n D sD5 (some_ne hD5) hD5t
      have hD6 : H6 D = some (.lst acc) := m6.k D _ hD5t hD5
      have hD6t : ¬ tr S6 H6 A6 r6 D := fun z => (m6.f D z).elim hD5t (some_ne hD5)
      have hlen6 : l3.length = li.length := by
        have e1 := h6.ls
        have e2 := h4.ls
        omega
      have mall := (mc.trans m5).trans m6
      have hb6 := hst.back hpi h6 hw' hlen6 mall.s mall.p
      have hl := paired_len hdacc
      have hDcut : ¬ tr S6 H6 (cutA A6 vs) r6 D := fun z => hD6t (trcut z)
      -- the new list grows
      have hput : StOk K (backV li l3 vs) g3' s (upd H6 D (.lst (acc ++ [v6]))) S6 r6 (cutA A6 vs) := by
        refine hb6.move (Same.refl S6) (fun b z e => ?_) (fun b hb => ⟨(hb6.thereA hb).2, fun u e => ?_⟩) ⟨[], by simp⟩ hb6.rn hb6.dr hb6.lg (fun j b o e1 e2 => ?_) (hb6.tb.go (Same.refl S6) (fun b hb => (hb6.tb.there hb).2) fun b u hb e => by rw [upd_ne fun z => hDcut (.inr (.inr (by rw [← z]; exact hb)))]; exact e)
        · rw [upd_ne (ne_of_none e sD6)]; exact hb6.hs b z e
        · rw [upd_ne fun z => hDcut (.inl (by rw [← z]; exact hb))]; exact e
        · obtain ⟨p1, p2⟩ := hb6.st j b o e1 e2
          exact ⟨p1, p2.go (Same.refl S6) (.upd (fun z => hDcut (.inr (.inl (by rw [← z]; exact List.mem_of_getElem? e1)))) hD6 (fun _ z => nomatch z)) ⟨[], by simp⟩⟩
      have mnew : Mv K S1 H1 r1 A1 S6 (upd H6 D (.lst (acc ++ [v6]))) r6 (cutA A6 vs) := by
        have mm := mi.trans mall
        refine ⟨mm.s, hput.hs, mm.n, fun b o hb e => ?_, fun b e => ?_, mm.p, fun b z => mm.f b (trcut (tr_upd z)), fun a e => tUpd (fun ps z => by rw [hD6] at z; cases z) a (mm.t a e)⟩
        · have hbD : b ≠ D := fun z => by rw [z, hD] at e; cases e
          rw [upd_ne hbD]; exact mm.k b o hb e
        · by_cases hbD : b = D
          · subst hbD; rw [upd_same]; exact fun z => nomatch z
          · rw [upd_ne hbD]; exact mm.d b e
      refine ⟨acc, hD6, szt (by omega), hlt, backV li l3 vs, g3', S6, r6, cutA A6 vs, acc ++ [v6], ac ++ [y2], zs, hput, mnew, fun z => hDcut (tr_upd z), sD6, upd_same, paired_app (Paired.mapP hdacc fun _ _ z => M2.go z mall.s mall.p) (.cons d6 .nil), by rw [List.length_append]; simp; omega, plain_back hpi hlen6, k5, by rw [hd, k6]; simp⟩
    · rw [if_neg Bool.false_ne_true]
      have mall := mc.trans m5
      have hb5 := hst.back hpi h5 hw' hlen5 mall.s mall.p
      exact ⟨hlt, backV li l2 vs, g2, S5, r5, cutA A5 vs, acc, ac, rest, hb5, (mi.trans mall).cut, fun z => hD5t (trcut z), sD5, hD5, Paired.mapP hdacc fun _ _ z => M2.go z mall.s mall.p, by omega, plain_back hpi hlen5, k4, hd⟩
  · have ei : i = ds.length := by omega
    subst ei
    rw [List.drop_length] at hrun
    obtain ⟨rfl, rfl, rfl⟩ := mp_some hrun
    rw [List.append_nil] at hd
    subst hd
    have mw := m1.trans mi
    exact .inl ⟨w.stop H2 (mi.s.trans hst.hs), q D acc H2 Si ri Ai mw hst hDH hDi sDi hacc hdacc⟩

def lLcO (vs : List Nat) (it : M (List Ov)) (tg : Ov → Lo → Option Lo) (t : M Bool) (e : M PyData) : M (List PyData) := mb it fun ds => fun l g => if (plainAt vs l && decide (ds.length ≤ 4000000)) = true then lcG vs tg t e ds l g else none
theorem paired_D {S : Hp} {r : List Addr} {xs : List V} {ds : List PyData} (h : Paired (rD K S r) xs ds) : DpAll K S xs ds := by
  induction h with
  | nil => exact .nil
  | cons a _ ih => exact .cons a ih
theorem s_lcO {it : M (List Ov)} {tg : TG} {gg : Ov → Lo → Option Lo} {e0 : M PyData} (hi : EvIG K (rO K) wi it) (hg : GIn tg vs) (hm : ∀ v s H (Q Q' : L2.St → Hp → Prop), (∀ s' H', Q s' H' → Q' s' H') → tg v s H Q → tg v s H Q') (hb : BdG K (rO K) tg gg) (ht : EvT K tt t) (he : EvS K te e0) : EvL K (tLc wi tg tt te vs) (lLcO vs it gg t e0) := fun l g d l' g' s H S r A e h Q q => by
  replace e := mb_some e; obtain ⟨ds, l1, g1, e1, e⟩ := e
  split at e
  case isFalse => cases e
  rename_i hz
  rw [Bool.and_eq_true, decide_eq_true_eq] at hz
  exact lg_run mono_O mono_D (fun R k => hi _ _ _ _ _ s H S r A e1 h R k) hg hm hb ht (eg_D he) hz.1 hz.2 e Q fun p xs H' S' r' A' m1 h1 a b c d e => q p xs H' S' r' A' m1 h1 a b c d (paired_D e)
def vLcN {ι : Type} (vs : List Nat) (it : M (List ι)) (tg : ι → Lo → Option Lo) (t : M Bool) (e : M Ov) : M Vl := mb it fun ds => fun l g => if (plainAt vs l && decide (ds.length ≤ 4000000)) = true then mb (lcG vs tg t e ds) (fun xs => mp (.os false xs)) l g else none
theorem s_lcN {ι : Type} {R1 : IRel ι} (M1 : MonoR R1) {it : M (List ι)} {tg : TG} {gg : ι → Lo → Option Lo} {e0 : M Ov} (hi : EvIG K R1 wi it) (hg : GIn tg vs) (hm : ∀ v s H (Q Q' : L2.St → Hp → Prop), (∀ s' H', Q s' H' → Q' s' H') → tg v s H Q → tg v s H Q') (hb : BdG K R1 tg gg) (ht : EvT K tt t) (he : EvG K (rO K) te e0) : EvV K (tLc wi tg tt te vs) (vLcN vs it gg t e0) := fun l g d l' g' s H S r A e h Q q => by
  replace e := mb_some e; obtain ⟨ds, l1, g1, e1, e⟩ := e
  split at e
  case isFalse => cases e
  rename_i hz
  rw [Bool.and_eq_true, decide_eq_true_eq] at hz
  obtain ⟨xs, l2, g2, e2, e⟩ := mb_some e
  obtain ⟨rfl, rfl, rfl⟩ := mp_some e
  refine lg_run M1 mono_O (fun R k => hi _ _ _ _ _ s H S r A e1 h R k) hg hm hb ht he hz.1 hz.2 e2 Q fun p ys H1 S1 r1 A1 m1 h1 hp ht sp hx hd => ?_
  exact q _ H1 _ r1 A1 (m1.take hp sp hx) (h1.take ht sp hx) ⟨p, ys, rfl, upd_same, Paired.mapP hd fun _ _ z => mono_O.go z (same_up sp) ⟨[], by simp⟩⟩
end
def xForGL {ι : Type} (G : ι → Lo → Option Lo) (b : X) : List ι → X
  | [] => mp .nx
  | d :: ds => fun l g => match G d l with
    | none => none
    | some l1 => match b l1 g with
      | none => none
      | some (.nx, l2, g2) => xForGL G b ds l2 g2
      | some (.ct, l2, g2) => xForGL G b ds l2 g2
      | some (.bk, l2, g2) => some (.nx, l2, g2)
      | some (.ret v, l2, g2) => some (.ret v, l2, g2)
def xForG {ι : Type} (it : M (List ι)) (G : ι → Lo → Option Lo) (b : X) : X := mb it fun ds => xForGL G b ds
section
variable {K : Kx} {tu : TS} {x : X}
theorem xg_for {ι : Type} {R1 : IRel ι} (M1 : MonoR R1) {wi : TI} {it : M (List ι)} {tg : TG} {gg : ι → Lo → Option Lo} (hi : EvIG K R1 wi it) (hb : BdG K R1 tg gg) (hx : ExS K tu x) : ExS K (tFor wi tg tu) (xForG it gg x) := fun l g o l' g' s H S r A e h D q => by
  replace e := mb_some e; obtain ⟨ds, l1, g1, e1, e⟩ := e
  refine hi _ _ _ _ _ s H S r A e1 h _ fun J H1 S1 r1 A1 m1 h1 w => ?_
  refine ⟨fun i m s' H' => m = ds.length - i ∧ i ≤ ds.length ∧ ∃ li gi Si ri Ai, StOk K li gi s' H' Si ri Ai ∧ Mv K S1 H1 r1 A1 Si H' ri Ai ∧ xForGL gg x (ds.drop i) li gi = some (o, l', g'), ⟨ds.length, by simp, Nat.zero_le _, l1, g1, S1, r1, A1, h1, Mv.refl h1.hs, e⟩, ?_⟩
  rintro i m s' H' ⟨rfl, hle, li, gi, Si, ri, Ai, hst, mi, hrun⟩
  by_cases hlt : i < ds.length
  · refine .inr ⟨w.go i H' hlt (mi.s.trans hst.hs), fun s' H' => i + 1 ≤ ds.length ∧ ∃ li gi Si ri Ai, StOk K li gi s' H' Si ri Ai ∧ Mv K S1 H1 r1 A1 Si H' ri Ai ∧ xForGL gg x (ds.drop (i + 1)) li gi = some (o, l', g'), fun s3 H3 ⟨q1, q2⟩ => ⟨ds.length - (i + 1), by omega, rfl, q1, q2⟩, fun v H3 y => ?_⟩
    have hdi : ds[i]? = some ds[i] := List.getElem?_eq_getElem hlt
    obtain ⟨S3, g3, d3'⟩ := w.yld i H' v H3 ds[i] Si hdi mi.s hst.hs y
    have d3 := M1.go d3' (Same.refl S3) mi.p
    have h3 := hst.grow g3
    have hdrop : ds.drop i = ds[i] :: ds.drop (i + 1) := List.drop_eq_getElem_cons hlt
    rw [hdrop] at hrun
    unfold xForGL at hrun
    split at hrun
    · cases hrun
    · rename_i lb hlb
      refine hb _ _ _ _ s' H3 S3 ri Ai v _ hlb h3 d3 fun s4 H4 S4 A4 m4 h4 => ?_
      have m34 := (mi.trans (Mv.grow g3)).trans m4
      split at hrun
      · cases hrun
      · rename_i l2 g2 e2
        exact hx _ _ _ _ _ s4 H4 S4 ri A4 e2 h4 _ fun s5 H5 S5 r5 A5 m5 h5 => ⟨hlt, l2, g2, S5, r5, A5, h5, m34.trans m5, hrun⟩
      · rename_i l2 g2 e2
        exact hx _ _ _ _ _ s4 H4 S4 ri A4 e2 h4 _ fun s5 H5 S5 r5 A5 m5 h5 => ⟨hlt, l2, g2, S5, r5, A5, h5, m34.trans m5, hrun⟩
      · rename_i l2 g2 e2
        cases hrun
        exact hx _ _ _ _ _ s4 H4 S4 ri A4 e2 h4 _ fun s5 H5 S5 r5 A5 m5 h5 => q s5 H5 S5 r5 A5 (m1.trans (m34.trans m5)) h5
      · rename_i v l2 g2 e2
        cases hrun
        exact hx _ _ _ _ _ s4 H4 S4 ri A4 e2 h4 _ fun s5 H5 S5 r5 A5 m5 h5 => q s5 H5 S5 r5 A5 (m1.trans (m34.trans m5)) h5
  · have ei : i = ds.length := by omega
    subst ei
    rw [List.drop_length] at hrun
    obtain ⟨rfl, rfl, rfl⟩ := mp_some hrun
    exact .inl ⟨w.stop H' (mi.s.trans hst.hs), q s' H' Si ri Ai (m1.trans mi) hst⟩
end

def osAt (l : Lo) (i : Nat) : Option (List Ov) := match l[i]? with
  | some (.os _ xs) => some xs
  | _ => none
def osIx (xs : List Ov) (k : Int) : Option Nat := (ixN xs.length k).bind fun j => match xs[j]? with
  | some (.ref n) => some n
  | _ => none
def hIx (i : Nat) (b : M PyData) : M Nat := mb (mg fun l g => osAt l i) fun _ => mb b fun y => mg fun l g => (osAt l i).bind fun xs => (asI y).bind fun k => osIx xs k
theorem s_hIx {K : Kx} {tb : TE} {i : Nat} {b : M PyData} (hb : EvS K tb b) : EvH K (tOp (rIx K) (tVar i) tb) (hIx i b) := fun l g d l' g' s H S r A e h Q q => by
  have rd : ∀ {l : Lo} {g : Sg} {H S : Hp} {r : List Addr} {A : List (Option Addr)} {xs : List Ov}, StOk K l g s H S r A → osAt l i = some xs → ∃ a ys b, s[i]? = some (some (.ref a)) ∧ S a = some (if b = true then .tup ys else .lst ys) ∧ Paired (fun y x => OvOk K S r x y) ys xs := fun {l g H S r A xs} h e => by
    unfold osAt at e
    split at e
    · rename_i b xs' hl
      cases e
      obtain ⟨o, v, e1, e2, e3, w, rfl, a, ys, rfl, e4, e5⟩ := h.ok i _ hl
      exact ⟨a, ys, b, e2, e4, e5⟩
    · cases e
  replace e := mb_some e; obtain ⟨y0, l0, g0, e0, e⟩ := e
  replace e0 := mg_some e0; obtain ⟨e0, rfl, rfl⟩ := e0
  replace e := mb_some e; obtain ⟨y, l1, g1, e1, e⟩ := e
  replace e := mg_some e; obtain ⟨e, rfl, rfl⟩ := e
  replace e := Option.bind_eq_some_iff.mp e; obtain ⟨xs, e2, e⟩ := e
  replace e := Option.bind_eq_some_iff.mp e; obtain ⟨k, e3, e⟩ := e
  cases asI_some e3
  obtain ⟨a, ys, c, q1, _⟩ := rd h e0
  refine ⟨_, q1, hb _ _ _ _ _ s H S r A e1 h _ fun v1 H1 S1 r1 A1 m1 h1 d1 => ?_⟩
  cases d1
  obtain ⟨a', ys', c, q2, q3, q4⟩ := rd h1 e2
  rw [q1] at q2
  cases q2
  unfold osIx at e
  obtain ⟨j, ej, e⟩ := Option.bind_eq_some_iff.mp e
  split at e
  · rename_i n hn
    cases e
    obtain ⟨w, hw, b2, e5, rfl⟩ := paired_at q4 hn
    have hat : atI ys' k = some (.ref b2) := by
      unfold atI
      rw [paired_len q4, ej]
      exact hw
    have hHa := h1.hs _ _ q3
    cases c with
    | false => exact .inl ⟨a, ys', k, _, rfl, rfl, .inl (.inl hHa), hat, q b2 H1 S1 r1 A1 m1 h1 e5⟩
    | true => exact .inr (.inl ⟨a, ys', k, _, rfl, rfl, .inl (.inl hHa), hat, q b2 H1 S1 r1 A1 m1 h1 e5⟩)
  · cases e

def iWipeG {ι : Type} (vs : List Nat) (it : M (List ι)) : M (List ι) := mb it fun ds => fun l g => some (ds, wipeV l vs, g)
theorem s_iwipeG {K : Kx} {ι : Type} {R1 : IRel ι} {vs : List Nat} {wi : TI} {it : M (List ι)} (hi : EvIG K R1 wi it) : EvIG K R1 wi (iWipeG vs it) := fun l g d l' g' s H S r A e h R q => by
  replace e := mb_some e; obtain ⟨ds, l1, g1, e1, e⟩ := e
  cases e
  exact hi _ _ _ _ _ s H S r A e1 h _ fun J H1 S1 r1 A1 m1 h1 w => q J H1 S1 r1 _ m1.cut h1.forget w
section
variable {l : Lo} {g : Sg} {ι κ : Type}
theorem wp_oRef {v : M Vl} {Q : Ov → Lo → Sg → Prop} (h : Wp v l g fun x l1 g1 => ∃ j, x = .ref j ∧ Q (.ref j) l1 g1) : Wp (oRef v) l g Q := wp_mb (wp_mono h fun x l1 g1 ⟨j, e, q⟩ => by subst e; exact wp_mp q)
theorem wp_oNil {Q : List Ov → Lo → Sg → Prop} (h : Q [] l g) : Wp oNil l g Q := wp_mp h
theorem wp_oCons {a : M Ov} {m : M (List Ov)} {Q : List Ov → Lo → Sg → Prop} (h : Wp a l g fun x l1 g1 => Wp m l1 g1 fun xs l2 g2 => Q (x :: xs) l2 g2) : Wp (oCons a m) l g Q := wp_mb (wp_mono h fun x l1 g1 h1 => wp_mb (wp_mono h1 fun xs l2 g2 q => wp_mp q))
theorem wp_vOs {b : Bool} {m : M (List Ov)} {Q : Vl → Lo → Sg → Prop} (h : Wp m l g fun xs l1 g1 => xs.length ≤ 4000000 ∧ Q (.os b xs) l1 g1) : Wp (vOs b m) l g Q := wp_mb (wp_mono h fun xs l1 g1 ⟨z, q⟩ => ⟨_, l1, g1, by unfold smallO; rw [if_pos z]; rfl, q⟩)
theorem wp_iOs {i : Nat} {xs : List Ov} {b : Bool} {Q : List Ov → Lo → Sg → Prop} (e : l[i]? = some (.os b xs)) (q : Q xs l g) : Wp (iOs i) l g Q := ⟨xs, l, g, mg_ev (by rw [e]), q⟩
theorem wp_hIx {i : Nat} {b : M PyData} {xs : List Ov} {c : Bool} {Q : Nat → Lo → Sg → Prop} (e : l[i]? = some (.os c xs)) (h : Wp b l g fun y l1 g1 => l1[i]? = some (.os c xs) ∧ ∃ k n, y = .int k ∧ osIx xs k = some n ∧ Q n l1 g1) : Wp (hIx i b) l g Q := by
  obtain ⟨y, l1, g1, e1, e2, k, n, rfl, e3, q⟩ := h
  refine ⟨n, l1, g1, ?_, q⟩
  have h0 : osAt l i = some xs := by unfold osAt; rw [e]
  have h1 : osAt l1 i = some xs := by unfold osAt; rw [e2]
  exact mb_ev (mg_ev h0) (mb_ev e1 (mg_ev (by rw [h1]; exact e3)))
theorem wp_lcGN {vs : List Nat} {tg : ι → Lo → Option Lo} {t : M Bool} {e : M κ} {Q : List κ → Lo → Sg → Prop} (h : Q [] l g) : Wp (lcG vs tg t e []) l g Q := wp_mp h
theorem wp_lcGC {vs : List Nat} {tg : ι → Lo → Option Lo} {t : M Bool} {e : M κ} {d : ι} {ds : List ι} {l0 : Lo} {Q : List κ → Lo → Sg → Prop} (hw : wipeV l vs = l0) (h : Has (tg d l0) fun l1 => Wp t l1 g fun b l2 g2 => Br b (Wp e l2 g2 fun y l3 g3 => ∃ l5, backV l l3 vs = l5 ∧ Wp (lcG vs tg t e ds) l5 g3 fun ys l4 g4 => Q (y :: ys) l4 g4) (∃ l5, backV l l2 vs = l5 ∧ Wp (lcG vs tg t e ds) l5 g2 Q)) : Wp (lcG vs tg t e (d :: ds)) l g Q := by
  subst hw
  obtain ⟨l1, e1, b, l2, g2, e2, h⟩ := h
  cases b with
  | false =>
    obtain ⟨l5, rfl, ys, l3, g3, e3, q⟩ := h.2 rfl
    refine ⟨ys, l3, g3, ?_, q⟩
    simp only [lcG, e1, e2]
    exact e3
  | true =>
    obtain ⟨y, l3, g3, e3, l5, rfl, ys, l4, g4, e4, q⟩ := h.1 rfl
    refine ⟨y :: ys, l4, g4, ?_, q⟩
    simp only [lcG, e1, e2, e3]
    exact mb_ev e4 rfl
theorem ex_back {l l3 l4 : Lo} {vs : List Nat} {Q : Lo → Prop} (h : backV l l3 vs = l4) (q : Q l4) : ∃ l5, backV l l3 vs = l5 ∧ Q l5 := ⟨l4, h, q⟩
theorem has_goNm {i j : Nat} {l l1 : Lo} {Q : Lo → Prop} (h : SetR l i (.ref j) l1) (q : Q l1) : Has (goNm i (.ref j) l) Q := ⟨l1, by rw [h.eq]; rfl, q⟩
theorem has_goPr {i k j : Nat} {d : PyData} {l l1 l2 : Lo} {Q : Lo → Prop} (h : SetR l i (.dat d) l1) (h2 : SetR l1 k (.ref j) l2) (q : Q l2) : Has (goPr i k (.pr d j) l) Q := ⟨l2, by rw [h2.eq, h.eq]; rfl, q⟩
theorem wp_lcO {vs : List Nat} {it : M (List Ov)} {tg : Ov → Lo → Option Lo} {t : M Bool} {e : M PyData} {Q : List PyData → Lo → Sg → Prop} (h : Wp it l g fun xs l1 g1 => plainAt vs l1 = true ∧ xs.length ≤ 4000000 ∧ Wp (lcG vs tg t e xs) l1 g1 Q) : Wp (lLcO vs it tg t e) l g Q := wp_mb (wp_mono h fun xs l1 g1 ⟨h1, h2, ys, l2, g2, e2, q⟩ => ⟨ys, l2, g2, by show (if _ then _ else _) = _; rw [if_pos (by rw [h1, decide_eq_true h2]; rfl)]; exact e2, q⟩)
theorem wp_lcN {vs : List Nat} {it : M (List ι)} {tg : ι → Lo → Option Lo} {t : M Bool} {e : M Ov} {Q : Vl → Lo → Sg → Prop} (h : Wp it l g fun xs l1 g1 => plainAt vs l1 = true ∧ xs.length ≤ 4000000 ∧ Wp (lcG vs tg t e xs) l1 g1 fun ys l2 g2 => Q (.os false ys) l2 g2) : Wp (vLcN vs it tg t e) l g Q := wp_mb (wp_mono h fun xs l1 g1 ⟨h1, h2, ys, l2, g2, e2, q⟩ => ⟨_, l2, g2, by show (if _ then _ else _) = _; rw [if_pos (by rw [h1, decide_eq_true h2]; rfl)]; exact mb_ev e2 rfl, q⟩)
theorem wp_forG {it : M (List ι)} {G : ι → Lo → Option Lo} {A : X} {Q : Out → Lo → Sg → Prop} (h : Wp it l g fun ds l1 g1 => Wp (xForGL G A ds) l1 g1 Q) : Wp (xForG it G A) l g Q := wp_mb h
theorem wp_iWipeG {vs : List Nat} {m : M (List ι)} {Q : List ι → Lo → Sg → Prop} (h : Wp m l g fun ds l1 g1 => ∃ l2, wipeV l1 vs = l2 ∧ Q ds l2 g1) : Wp (iWipeG vs m) l g Q := wp_mb (wp_mono h fun ds l1 g1 ⟨l2, e, q⟩ => by subst e; exact ⟨ds, _, g1, rfl, q⟩)
theorem ex_wipe {l2 : Lo} {vs : List Nat} {Q : Lo → Prop} (h : wipeV l vs = l2) (q : Q l2) : ∃ l3, wipeV l vs = l3 ∧ Q l3 := ⟨l2, h, q⟩
theorem wp_forGN {G : ι → Lo → Option Lo} {A : X} {Q : Out → Lo → Sg → Prop} (h : Q .nx l g) : Wp (xForGL G A []) l g Q := ⟨.nx, l, g, rfl, h⟩
theorem wp_forGC {G : ι → Lo → Option Lo} {A : X} {d : ι} {ds : List ι} {Q : Out → Lo → Sg → Prop} (h : Has (G d l) fun l1 => Wp A l1 g (bodyK (fun l g => Wp (xForGL G A ds) l g Q) Q)) : Wp (xForGL G A (d :: ds)) l g Q := by
  obtain ⟨l1, e1, o, l2, g2, e2, q⟩ := h
  unfold Wp
  simp only [xForGL, e1, e2]
  cases o with
  | nx => exact q
  | ct => exact q
  | bk => exact ⟨_, _, _, rfl, q⟩
  | ret v => exact ⟨_, _, _, rfl, q⟩
end
end Sm

namespace Dz
open PySem PySem.Spec PySem.SeqAt PyProof.Rows L2 RZ LamX
structure CalIX (P : Program) (w : World) (K : PySem.W.Frag) (mg : Str → Option Value) (base : Heap) (k : Nat) (C : Str) (ps : List Str) (dv : List V) (sp : Sp) : Prop where
  ex : ∃ cls f fd ds, mg C = some (.ref cls) ∧ Mk K cls f ∧ FnOk P w K mg base (L2.CX P w) k f fd ps sp ∧ Vals dv ds ∧ Binds K fd ps ds
structure CalIKX (P : Program) (w : World) (K : PySem.W.Frag) (mg : Str → Option Value) (base : Heap) (k : Nat) (C : Str) (ps : List Str) (n : Nat) (ks : List Str) (gV : List V → List V → List V) (sp : Sp) : Prop where
  ex : ∃ cls f fd g, mg C = some (.ref cls) ∧ Mk K cls f ∧ FnOk P w K mg base (L2.CX P w) k f fd ps sp ∧ KBn K fd ps (n + 1) ks g gV
section
variable {P : Program} {w : World} {K : PySem.W.Frag} {mg : Str → Option Value} {base : Heap} {j k n : Nat} {C : Str} {ps ks : List Str} {dv : List V} {sp : Sp} {gV : List V → List V → List V}
theorem CalIX.mono (c : CalIX P w K mg base j C ps dv sp) (h : j ≤ k) : CalIX P w K mg base k C ps dv sp := let ⟨cls, f, fd, ds, a, b, e, q⟩ := c.ex; ⟨cls, f, fd, ds, a, b, e.mono h, q⟩
theorem CalIKX.mono (c : CalIKX P w K mg base j C ps n ks gV sp) (h : j ≤ k) : CalIKX P w K mg base k C ps n ks gV sp := let ⟨cls, f, fd, ds, a, b, e, q⟩ := c.ex; ⟨cls, f, fd, ds, a, b, e.mono h, q⟩
end
section
variable {X : Cx} {κ : Kx} {k n : Nat} {C : Str} {ps ks : List Str} {dv dvs : List V} {ds : List Value} {sp : Sp} {W : WX} {p pos : Pos} {e : Expr} {es : List Expr} {t : TA}
end
end Dz
namespace Sm
open PySem PySem.SeqAt PySem.Spec PyProof.Rows L2 RZ SrtO Dz
section
variable {K : Kx} {W : WX} {ta : TA} {a : M (List Vl)} {C : Str} {F : FS} {n c : Nat} {dv : List V} {ds : List PyData}
end
end Sm

namespace Sm
open PySem PySem.SeqAt PySem.Spec PyProof.Rows L2 RZ SrtO Dz
section
variable {K : Kx} {te tb : TE}
end
section
variable {K : Kx} {ta tb : TE} {tu : TS} {x : X} {tg : TG} {gg : G} {h1 h2 : M Nat} {vs : List Nat}
end
section
variable {l : Lo} {g : Sg}
end
end Sm

namespace Sm
open PySem PySem.Spec PyProof.Rows L2 RZ SrtO Dz
def defD (F : FS) (n : Nat) : List PyData → Option PyData := fun ds => if ds.length = n then (match F (ds.map .dat) [] with
  | some (.dat d, _) => some d
  | _ => none) else none
theorem inR_nil {S H S1 H1 : Hp} (gr : GrowT (inR S H []) S H S1 H1) : GrowT (isTab S H) S H S1 H1 := gr.mono fun a z => z.elim (fun z => nomatch z) id
theorem sto_nil {K : Kx} {S H : Hp} (tb : TabsOk K S H) : StoOk K S H [] [] := ⟨List.nodup_nil, rfl, fun j a o e => by simp at e, tb⟩
def Pb (K : Kx) (X : Cx) (s : L2.St) (S : Hp) (v : V) (x : Vl) : Prop := ∀ B, Gnd K X s B → ∀ S', Same S S' → VOk (K.on B) S' [] v x
theorem Pb.go {K : Kx} {X : Cx} {s : L2.St} {S S1 : Hp} {v : V} {x : Vl} (h : Pb K X s S v x) (hs : Same S S1) : Pb K X s S1 v x := fun B g S' h' => h B g S' fun a o e => h' _ _ (hs _ _ e)
section
variable {K : Kx} {X : Cx} {te : TE} {ta : TA}
theorem DpAll_len' {K : Kx} {S : Hp} {vs : List V} {ds : List PyData} (h : DpAll K S vs ds) : vs.length = ds.length := DpAll_len h
end
section
variable {l : Lo} {g : Sg}
end
end Sm

namespace Sm
open PySem PySem.Spec PyProof.Rows L2 RZ SrtO Dz
structure DefsOk (K : Kx) (Y : Cx) (i : Nat) (nm : PySem.Str) (ps : Arguments) (b : List Stmt) (sc : Scope) (N names fr : List PySem.Str) (js : List Nat) (n : Nat) (body : X) : Prop where
  hsc : MScope N names fr sc
  hfr : ∀ y ∈ sc.names, y.2 = .free → Y.env.scope.names.lookup y.1 = some .cell ∨ Y.env.scope.names.lookup y.1 = some .free
  hjs : js.map (fun j => Y.N[j]?) = fr.map some
  ni : i ∉ js
  hN : N.length = n
  bind : ∀ (q : PySem.Str) (cl : List (PySem.Str × Addr)) (c' : Addr) (doc pm ctv : Value) (us : List Value), us.length = names.length → bindArgs ((⟨nm, q, ps, b, sc, cl, c'⟩ : NdefX.NF).fd doc pm ctv) ⟨us, []⟩ = pure (names.zip us)
  hbd : ∀ (B : Heap), (∀ b o, K.base.get? b = some o → B.get? b = some o) → ∀ (k : Nat), K.lev = k + 1 → ∀ (f c' : Addr) (cl : List (PySem.Str × Addr)) (A : Around) (outer : List PySem.Env) (s : Shared) (H : Hp), Room k (A.deeper (envM (Y.env.qual ++ nm) sc s.heap.objs.size f (.ref c') cl)) →
      ∃ t, PSs (cxM K.P K.w K.K K.mg B N (Y.env.qual ++ nm) sc f (.ref c') cl A outer s H) b t ∧ ExS (K.on B) t body
theorem defD_len {F : FS} {n : Nat} {ds : List PyData} {d : PyData} (e : defD F n ds = some d) : ds.length = n := by
  unfold defD at e
  split at e
  · rename_i h; exact h
  · cases e
theorem spG_of {K : Kx} {F : FS} {n : Nat} {vs : List V} {H : Hp} {Q : VK} {E : XK} (h : spL K (defD F n) vs H Q E) : spG K n F vs H Q E := by
  obtain ⟨S, ds, d, hs, tb, hd, he, hQ⟩ := h
  unfold defD at he
  split at he
  case isFalse => cases he
  rename_i hl
  split at he
  case h_2 => cases he
  rename_i d' g' hF
  obtain rfl : d' = d := Option.some.inj he
  exact ⟨S, [], [], ds.map .dat, .dat d', g', by rw [List.length_map]; exact hl, hs, sto_nil tb, vs_of ds vs hd, hF, fun w S' H' r' gr _ _ sto hw => hQ w S' H' (inR_nil gr) sto.2.2.2 hw⟩
section
variable {K : Kx} {Y : Cx}
theorem DefsOk.fn {i : Nat} {nm : PySem.Str} {ps : Arguments} {b : List Stmt} {sc : Scope} {N names fr : List PySem.Str} {js : List Nat} {n k m : Nat} {body : X} {σ : L2.St} {B : Heap} {S : Hp} {f c' P' : Addr} {ws : List V} {cds : List PyData} (D : DefsOk K Y i nm ps b sc N names fr js n body) (hlev : K.lev = k + 1) (hm : m = names.length + fr.length) (g : Gnd K Y σ B)
    (hf : S f = some (NdefX.FnO f ⟨nm, Y.env.qual ++ nm, ps, b, sc, cloFrom Y.env.cells sc.names [], c'⟩)) (hc : S c' = some (CodeN c' (Y.env.qual ++ nm) P')) (hw : DpAll K S ws cds) (hws : js.map (fun j => σ[j]?) = ws.map fun v => some (some v)) : FnV (K.on B) S (.ref f) (fun ds => defD (fnS n body) m (ds ++ cds)) := by
  have hfl : fr.length = cds.length := by
    have a1 := congrArg List.length D.hjs
    have a2 := congrArg List.length hws
    rw [List.length_map, List.length_map] at a1 a2
    have := DpAll_len' hw
    omega
  refine ⟨f, MPromD f c' P' ⟨nm, Y.env.qual ++ nm, ps, b, sc, cloFrom Y.env.cells sc.names [], c'⟩ (K.on B) ws cds, rfl, ⟨hf, hc, hw⟩, ?_⟩
  refine clo_fnPD (K := K.on B) (F := defD (fnS n body) m) D.hsc (capAt_of g D.hfr D.hsc D.hjs hws) hlev (fun ds d e => ?_) (fun doc pm ctv us hl => D.bind _ _ _ doc pm ctv us hl) fun A outer s H vs Q hr hsp => ?_
  · have := defD_len e
    rw [List.length_append] at this
    omega
  · obtain ⟨t, p1, p2⟩ := D.hbd B g.kp k hlev f c' _ A outer s H hr
    exact ⟨t, p1, run_fn p2 D.hN (spG_of hsp)⟩
end
section
variable {l : Lo} {g : Sg}
end
end Sm

namespace Sm
open PySem L2 RZ Dz
section
variable {K : Kx} {tt : TT} {te : TE} {t : M Bool} {e0 : M PyData} {wi : TI} {it : M (List PyData)} {tg : TG} {gg : G} {vs : List Nat} {tb : TBd} {B : M (List PyData)}
end

section
variable {α : Type} {l : Lo} {g : Sg} {vs : List Nat} {tg : G} {t : M Bool} {e : M PyData} {m : M (List PyData)} {B : M (List PyData)} {ds : List PyData} {Q : List PyData → Lo → Sg → Prop}
end

section
variable {K : Kx} {ta tb : TE} {a b : M PyData}
end
section
variable {l : Lo} {g : Sg} {a b : M PyData}
end
end Sm

namespace Sm
open PySem PySem.Spec PyProof.Rows L2 RZ SrtO Dz
section
variable {X : Cx}
end
section
variable {K : Kx}
end
end Sm

namespace Sm
open PySem PySem.Spec PyProof.Rows L2 RZ SrtO Dz
section
variable {K : Kx} {te : TE} {v : M Vl}
end
section
variable {l : Lo} {g : Sg} {v : M Vl}
end
end Sm

namespace Sm
open PySem PySem.SeqAt PySem.Spec PyProof.Rows L2 RZ SrtO Dz
section
variable {K : Kx} {ta tb tc : TE} {a b c : M PyData}
end
end Sm

namespace Sm
open PySem PySem.SeqAt PySem.Spec PyProof.Rows L2 RZ SrtO Dz
section
variable {K : Kx} {W : WX} {te : TE} {tu : TS} {tt : TT} {x : X} {v : M Vl} {t : M Bool}
end
section
variable {l : Lo} {g : Sg} {v : M Vl} {gg : G}
end
end Sm

namespace Sm
open PySem PySem.SeqAt PySem.Spec PyProof.Rows L2 RZ SrtO Dz
section
variable {prog : Program} {w : World} {A : Around} {E : Value → Shared → Prop} {s : Shared}
end
section
variable {X : Cx}
end
section
variable {K : Kx} {ta tb te : TE} {a b e0 : M PyData} {i : Nat}
end
end Sm

namespace Sm
open PySem PySem.SeqAt PySem.Spec PyProof.Rows L2 RZ SrtO Dz
section
variable {K : Kx} {ta tb te tl' : TE} {a b : M PyData} {i : Nat}
end
section
variable {l : Lo} {g : Sg} {a b e : M PyData} {i : Nat}
end
end Sm

namespace Dz
open PySem PySem.SeqAt PySem.Spec PyProof.Rows L2 RZ SrtO
section
variable {M : Model} {A : Around} {E : Value → Shared → Prop} {s : Shared} {env : PySem.Env}
end
section
variable {M : Model} {A : Around} {E : Value → Shared → Prop} {s : Shared} {Z : Obj → Prop} {base : Heap} {env : PySem.Env} {outer l : List PySem.Env} {L e : Addr}
end
section
variable {X : Cx} {W : WX}
end
end Dz

namespace Sm
open PySem PySem.SeqAt PySem.Spec PyProof.Rows L2 RZ SrtO Dz
section
variable {K : Kx} {W : WX} {te ta tb : TE} {wi : TI} {it : M (List PyData)} {tg : TG} {gg : G} {vs : List Nat} {v w : M Vl} {i : Nat}
end
section
variable {K : Kx} {tk te : TE} {k e0 : M PyData} {i : Nat}
end
section
variable {l : Lo} {g : Sg} {v w : M Vl} {i : Nat}
end
end Sm

namespace Dz
open PySem PySem.SeqAt PySem.Spec PyProof.Rows L2 RZ SrtO
structure OwnC (K : PySem.W.Frag) (C : Addr) : Prop where
  n0 : PySem.W.notFirst K C (.ref C) = true
  n1 : PySem.W.notFirst K C (.type "tuple") = true
  n2 : PySem.W.notFirst K C (.type "int") = true
  n3 : PySem.W.notFirst K C (.type "str") = true
  ne : PySem.W.findIn K (.ref C) "__ne__" = some (some (.builtin "object.__ne__"))
  ob : PySem.W.subIn K (.ref C) (.type "object") = some true
  ha : PySem.W.findIn K (.ref C) "__class__" = some (some (.builtin "object.__class__"))
  hn : PySem.W.specialIn K (.builtin "object.__class__") "__get__" = some (some (.builtin "getset_descriptor.__get__"))
  ht : PySem.W.takesIn K (.builtin "object.__class__") = some true
  hm : PySem.W.mroIn K C (.type "object") = some true
  k0 : PySem.W.kitOne K (.ref C) (.ref C) = some true
  k1 : PySem.W.kitOne K (.type "tuple") (.ref C) = some false
  k2 : PySem.W.kitOne K (.type "int") (.ref C) = some false
  k3 : PySem.W.kitOne K (.type "str") (.ref C) = some false
theorem eqFB_ok {K : PySem.W.Frag} {C : Addr} (h : Sm.eqFB K C = true) : OwnC K C := by
  unfold Sm.eqFB at h
  simp only [Bool.and_eq_true, decide_eq_true_eq] at h
  obtain ⟨h1, h2, h3, h4, h5, h6, h7, h8, h9, h10, h11, h12, h13, h14⟩ := h
  exact ⟨h1, h2, h3, h4, h5, h6, h7, h8, h9, h10, h11, h12, h13, h14⟩
structure OwnK (K : PySem.W.Frag) (mg : Str → Option Value) (C : Str) : Prop where
  ex : ∃ cls, mg C = some (.ref cls) ∧ OwnC K cls ∧ Cls K cls
theorem OwnK.all {K : PySem.W.Frag} {mg : Str → Option Value} {C : Str} (o : OwnK K mg C) {cls : Addr} (h : mg C = some (.ref cls)) : OwnC K cls ∧ Cls K cls := by
  obtain ⟨c, h1, h2⟩ := o.ex
  rw [h] at h1
  cases h1
  exact h2
def RtT (C : Addr) (t : Value) : Prop := t = .ref C ∨ t = .type "tuple" ∨ t = .type "int" ∨ t = .type "str"
theorem OwnC.nf {K : PySem.W.Frag} {C : Addr} (o : OwnC K C) {t : Value} (h : RtT C t) : PySem.W.notFirst K C t = true := by
  rcases h with rfl | rfl | rfl | rfl
  · exact o.n0
  · exact o.n1
  · exact o.n2
  · exact o.n3
section
variable {prog : Program} {w : World} {A : Around} {E : Value → Shared → Prop} {s : Shared} {K : PySem.W.Frag} {x C L f : Addr} {h₀ : Heap} {m : Str → Option Value} {ox : Obj} {od : Option Obj} {name : Str} {b tb : Value}
theorem ifBound_B {M : Model} {B id : String} {args : List Value} {Q : Option Value → Shared → Prop} (X : K.In s.heap) (I : PySem.W.InstAt s.heap x ox C od) (hs : PySem.W.findIn K (.ref C) name = some (some (.builtin id))) (S : Slot B name id)
    (h : wpAny M A (call (.builtin id) (.ref x :: args)) (fun v => Q (some v)) E s) : wpAny M A (callSpecialIfBound? (.ref x) name args) Q E s := by
  simp only [callSpecialIfBound?, bindSpecialIfBound?]
  refine wpAny_holding (wpAny_bind (wpAny_bind (wpAny_bind (I.type.here ((PySem.W.looks_findIn X hs).here ?_)))))
  simp only [S.bind]
  refine wpAny_bind (wpAny_askSetting (wpAny_ite ?_))
  have fin : wpAny M A (call (.builtin id) ([.ref x] ++ args) >>= fun v => pure (some v)) Q E s := wpAny_bind (wpAny_mono h (fun v s' h' => wpAny_pure h') fun _ _ h' => h')
  split
  · exact wpAny_bind (wpAny_pure (wpAny_pure fin))
  · exact wpAny_tryCatch (wpAny_bind (wpAny_pure (wpAny_pure fin)))
theorem objNe_K {Q : Fin → Shared → Prop} (hu : A.units < cLine) (X : K.In s.heap) (I : PySem.W.InstAt s.heap x ox C od) (hs : PySem.W.findIn K (.ref C) "__eq__" = some (some (.ref f))) (hf : PySem.W.isFn K (.ref f) = true)
    (hcall : wpAny (model prog w) A (call (.ref f) [.ref x, b]) (fun v s' => ∃ r, v = .bool r ∧ Q (.done (.ret (.bool (!r)))) s') E s) : wpAny (model prog w) A (Builtin.«object.__ne__» ⟨[.ref x, b], []⟩) Q E s := by
  unfold Builtin.«object.__ne__»
  repeat (first
    | with_reducible refine wpAny_cRoomFor hu ?_
    | (refine wpAny_bind (m := callSpecialIfBound? (.ref x) (Str.ofString "__eq__") [b])
        (PySem.W.ifBound_K X I hs hf (wpAny_mono hcall (fun r s' hr => by
          obtain ⟨b, rfl, hq⟩ := hr
          repeat (first | exact hq | exact wpAny_pure hq | exact wpAny_truthy_bool hq | (refine wpAny_bind (m := truthy (.bool _)) (wpAny_truthy_bool ?_)) | wp_step)) fun _ _ e => e)))
    | wp_step)
theorem cmpNe_K {Q : Value → Shared → Prop} (hu : A.units + 1 < cLine) (F : Fr h₀ L s.heap m) (X₀ : K.In h₀) (I : PySem.W.InstAt s.heap x ox C od) (hb : PySem.W.Looks (model prog w) s.heap (typeOf b) tb) (hn : PySem.W.notFirst K C tb = true)
    (hne : PySem.W.findIn K (.ref C) "__ne__" = some (some (.builtin "object.__ne__"))) (hob : PySem.W.subIn K (.ref C) (.type "object") = some true)
    (hs : PySem.W.findIn K (.ref C) "__eq__" = some (some (.ref f))) (hf : PySem.W.isFn K (.ref f) = true)
    (h : wpAny (model prog w) A.in1 (call (.ref f) [.ref x, b]) (fun v s' => ∃ r, v = .bool r ∧ Q (.bool (!r)) s') E s) : wpAny (model prog w) A (richCompare .NotEq (.ref x) b) Q E s := by
  have X := X₀.keeps F.keep
  have S : Slot "object" "__ne__" "object.__ne__" := PySem.F.cmp_object.ne
  have one : wpAny (model prog w) A (tryCompare (.ref x) (cmpInfo .NotEq).2.1 b) (fun r s' => ∃ v, r = some v ∧ Q v s') E s := by
    unfold tryCompare
    refine wpAny_bind (ifBound_B X I hne S (wpAny_call (codeAny_call_builtin S.plain PySem.F.cmpEntry_ne (PySem.W.check_slot PySem.F.cmpKind_ne PySem.F.cmpSplit_ne ?_ (PySem.F.cmpArgs_ne _ _) (objNe_K hu X I hs hf (wpAny_mono h (fun v s' hv => ?_) fun _ _ e => e))))))
    · exact I.type.andThen (PySem.W.looks_subIn X hob)
    · obtain ⟨r, rfl, hq⟩ := hv
      exact ⟨r, rfl, wpAny_pure ⟨_, rfl, hq⟩⟩
  unfold richCompare
  simp only [oneThing_ref]
  refine wpAny_holding (wpAny_bind (wpAny_cRoomFor (by omega) ?_))
  refine wpAny_bind (I.type.here (wpAny_bind (hb.here ?_)))
  split
  · rename_i q
    have e : PySem.W.subIn K tb (.ref C) = some false := by
      rcases Bool.or_eq_true_iff.mp hn with e | e
      · rw [beq_iff_eq.mp e] at q; simp at q
      · exact beq_iff_eq.mp e
    refine wpAny_bind ((PySem.W.looks_subIn X e).here ?_)
    simp only [Bool.false_eq_true, if_false]
    refine wpAny_bind (wpAny_mono one (fun r s' z => ?_) fun _ _ e => e)
    obtain ⟨v, rfl, hq⟩ := z
    exact wpAny_pure hq
  · refine wpAny_bind (wpAny_pure ?_)
    simp only [Bool.false_eq_true, if_false]
    refine wpAny_bind (wpAny_mono one (fun r s' z => ?_) fun _ _ e => e)
    obtain ⟨v, rfl, hq⟩ := z
    exact wpAny_pure hq
end
section
variable {X : Cx} {κ : Kx} {n : Nat} {A : Around} {pins : List (Addr × Obj)} {σ : L2.St} {H : Hp} {s : Shared} {C : Str} {ps : List Str} {sp : Sp} {cls a dx : Addr} {fs : List (Str × V)} {y : V} {u t : Value}
theorem call_at {f : Addr} {fd : FuncData} {vs : List V} {us : List Value} {Q : VK} (sb : Sub X n A) (F : FnOk X.prog X.w X.K X.mg X.base CX0 n f fd ps sp) (hb : Binds X.K fd ps []) (I : L2.Inv X pins σ H s) (r : Vals vs us) (h : sp vs H Q fun _ _ _ => False) :
    wpAny (model X.prog X.w) A (call (.ref f) us) (fun v s' => ∃ x H', L2.Inv X pins σ H' s' ∧ L2.RelV x v ∧ Q x H') X.xe s := by
  have e0 : Env0 X.prog X.w X.K X.mg X.base A X.stack s H := by
    have e := I.env0
    exact ⟨by rw [sb.fr]; exact e.frames, e.mod, e.bs, e.bsz, e.funs, e.frf, e.hok, e.bare⟩
  have hl := F.len _ _ _ _ h
  refine wpAny_call (codeAny_mono (F.run A X.stack s H ⟨us, []⟩ us vs _ _ sb.room e0 (by
    have := hb s us I.kIn (by rw [List.append_nil, ← r.length]; exact hl)
    simpa using this) r h) fun r s' hq => ?_)
  cases r with
  | error e => exact hq.elim
  | ok fl =>
    cases fl with
    | ret w =>
      obtain ⟨z, H', I', rz, q⟩ := I.after hq
      exact ⟨z, H', I', rz, q⟩
    | next => exact False.elim hq
    | brk => exact False.elim hq
    | cont => exact False.elim hq
theorem own_rc {Q : Bool → Hp → Prop} (sb : Sub X n A) (c : CalM X.prog X.w X.K X.mg X.base n C "__eq__" ps [] sp) (hc : X.mg C = some (.ref cls)) (o : OwnC X.K cls) (I : L2.Inv X pins σ H s) (ha : H a = some (.ins cls dx fs)) (ry : L2.RelV y u) (ty : TyX X.K H y t) (rt : RtT cls t)
    (h : sp [.ref a, y] H (fun v H' => ∃ b : Bool, v = .bl b ∧ Q b H') fun _ _ _ => False) :
    wpAny (model X.prog X.w) A (richCompare .Eq (.ref a) u) (fun v s' => ∃ b H', v = .bool b ∧ L2.Inv X pins σ H' s' ∧ Q b H') X.xe s := by
  obtain ⟨cls', f, fd, ds, hc', hcl, hm, F, hd, hb⟩ := c.ex
  rw [hc] at hc'
  cases hc'
  cases hd
  obtain ⟨mA, J, _⟩ := ins_get I.hok ha
  obtain ⟨od, J, _⟩ := J.look
  obtain ⟨m, hF⟩ := I.fr
  obtain ⟨P, Z, p, _⟩ := kit_of I ry ty
  refine PySem.W.cmp_K (op := .Eq) (tb := t) sb.room.units0 hF I.ok.mod.kin J (Z.ty _ _ I.kIn p) (o.nf rt) hm.at_ hm.fn ?_
  refine thn (call_at (vs := [.ref a, y]) (us := [.ref a, u]) sb F hb I (.cons rfl (.cons ry .nil)) h) fun v s' ⟨x, H', I', rx, b, ex, q⟩ => ?_
  subst ex
  cases (show v = Value.bool b from rx)
  exact ⟨b, H', rfl, I', q⟩
theorem own_rcNe {Q : Bool → Hp → Prop} (sb : Sub X (n + 1) A) (c : CalM X.prog X.w X.K X.mg X.base n C "__eq__" ps [] sp) (hc : X.mg C = some (.ref cls)) (o : OwnC X.K cls) (I : L2.Inv X pins σ H s) (ha : H a = some (.ins cls dx fs)) (ry : L2.RelV y u) (ty : TyX X.K H y t) (rt : RtT cls t)
    (h : sp [.ref a, y] H (fun v H' => ∃ b : Bool, v = .bl b ∧ Q b H') fun _ _ _ => False) :
    wpAny (model X.prog X.w) A (richCompare .NotEq (.ref a) u) (fun v s' => ∃ b H', v = .bool (!b) ∧ L2.Inv X pins σ H' s' ∧ Q b H') X.xe s := by
  obtain ⟨cls', f, fd, ds, hc', hcl, hm, F, hd, hb⟩ := c.ex
  rw [hc] at hc'
  cases hc'
  cases hd
  obtain ⟨mA, J, _⟩ := ins_get I.hok ha
  obtain ⟨od, J, _⟩ := J.look
  obtain ⟨m, hF⟩ := I.fr
  obtain ⟨P, Z, p, _⟩ := kit_of I ry ty
  refine cmpNe_K (tb := t) (by have := sb.room.un; omega) hF I.ok.mod.kin J (Z.ty _ _ I.kIn p) (o.nf rt) o.ne o.ob hm.at_ hm.fn ?_
  refine thn (call_at (vs := [.ref a, y]) (us := [.ref a, u]) sb.in1 F hb I (.cons rfl (.cons ry .nil)) h) fun v s' ⟨x, H', I', rx, b, ex, q⟩ => ?_
  subst ex
  cases (show v = Value.bool b from rx)
  exact ⟨b, rfl, b, H', rfl, I', q⟩
def rOwn (κ : Kx) (C : Str) (neg : Bool) (sp : Sp) : R2 := fun x y H Q => ∃ (cls a dx : Addr) (fs : List (Str × V)) (t : Value), κ.mg C = some (.ref cls) ∧ x = .ref a ∧ H a = some (.ins cls dx fs) ∧ TyX κ.K H y t ∧ RtT cls t ∧ sp [x, y] H (fun v H' => ∃ b : Bool, v = .bl b ∧ Q (.bl (b != neg)) H') fun _ _ _ => False
theorem op_ownEq (hX : CxK κ X) (c : CalM X.prog X.w X.K X.mg X.base n C "__eq__" ps [] sp) (hr : Room n X.A) (o : OwnK X.K X.mg C) : OpR X (compareOp .Eq) (rOwn κ C false sp) := by
  intro pins s σ H x y v u Q I rx ry ⟨cls, a, dx, fs, t, hc, ex, ha, ty, rt, h⟩
  subst ex
  cases (show v = Value.ref a from rx)
  rw [← hX.m] at hc
  rw [← hX.k] at ty
  show wpAny (model X.prog X.w) X.A (richCompare .Eq (.ref a) u) (EP X pins σ Q) X.xe s
  refine thn (own_rc (Q := fun b H' => Q (.bl (b != false)) H') ⟨hr, rfl⟩ c hc (o.all hc).1 I ha ry ty rt h) fun w s' ⟨b, H', ew, I', q⟩ => ?_
  subst ew
  exact ⟨.bl b, H', I', rfl, by rw [Bool.bne_false] at q; exact q⟩
theorem op_ownNe (hX : CxK κ X) (c : CalM X.prog X.w X.K X.mg X.base n C "__eq__" ps [] sp) (hr : Room (n + 1) X.A) (o : OwnK X.K X.mg C) : OpR X (compareOp .NotEq) (rOwn κ C true sp) := by
  intro pins s σ H x y v u Q I rx ry ⟨cls, a, dx, fs, t, hc, ex, ha, ty, rt, h⟩
  subst ex
  cases (show v = Value.ref a from rx)
  rw [← hX.m] at hc
  rw [← hX.k] at ty
  show wpAny (model X.prog X.w) X.A (richCompare .NotEq (.ref a) u) (EP X pins σ Q) X.xe s
  refine thn (own_rcNe (Q := fun b H' => Q (.bl (b != true)) H') ⟨hr, rfl⟩ c hc (o.all hc).1 I ha ry ty rt h) fun w s' ⟨b, H', ew, I', q⟩ => ?_
  subst ew
  exact ⟨.bl (!b), H', I', rfl, by rw [Bool.bne_true] at q; exact q⟩
end
end Dz

namespace GQ2
open PySem PySem.SeqAt GQ
open AutoSeq1 (wpAny_loadPart')
open MeetsSeq MeetsSeq2 MeetsSeq3 SeqRoads2
section
variable {prog : Program} {w : World} {A : Around} {R : Result → Shared → Prop}
theorem count_loopG (l : Addr) (x : Value) (N : Nat) (I : Nat → Nat → Shared → Prop)
    (hl : ∀ i c s, I i c s → ∃ (items : Array Value) (n : Nat), s.heap.get? l = some { cls := .type "list", data := .seq items n } ∧ items.size = N ∧
      ∀ (h1 : i < items.size), wpAny (model prog w) A.in1 (eqBool items[i] x) (fun r s' => I (i + 1) (if r = true then c + 1 else c) s') (fun e s' => R (.error e) s') s)
    (fin : ∀ c s, I N c s → R (.ok (.ret (.int (c : Nat) s.toks))) { s with toks := s.toks + 1 }) (k : Nat) :
    ∀ i c : Nat, N - i = k → i ≤ N → ∀ s, I i c s →
      wpAny (model prog w) A.in1 (Builtin.«list.count.loop» ⟨[.ref l, x, rawInt i, rawInt c], []⟩) (FinOf prog w A R) (fun e s' => R (.error e) s') s := by
  induction k with
  | zero =>
    intro i c hk hi s h
    obtain ⟨items, n, hl1, hs1, _⟩ := hl _ _ _ h
    have hi' : i = N := by omega
    have hR := fin c s (hi' ▸ h)
    obtain ⟨hp, g, d, tk, os⟩ := s
    wp_walk using wpAny_loadPart' hl1
    have hi1 : items[((i : Nat) : Int).toNat]? = none := by simp; omega
    rw [hi1]
    wp_walk
    exact hR
  | succ k ih =>
    intro i c hk hi s h
    obtain ⟨items, n, hl1, hs1, turn⟩ := hl _ _ _ h
    have hlt : i < items.size := by omega
    have ht := turn hlt
    obtain ⟨hp, g, d, tk, os⟩ := s
    wp_walk using wpAny_loadPart' hl1
    have hi1 : items[((i : Nat) : Int).toNat]? = some items[i] := by simp [hlt]
    have hc : ((i : Int) + 1) = ((i + 1 : Nat) : Int) := by omega
    have hc2 : ((c : Int) + 1) = ((c + 1 : Nat) : Int) := by omega
    rw [hi1]
    refine wpAny_bind (wpAny_mono ht (fun r s2 h2 => ?_) fun _ _ x => x)
    have hrec := ih (i + 1) _ (by omega) (by omega) s2 h2
    obtain ⟨hp2, g2, d2, tk2, os2⟩ := s2
    cases r with
    | true =>
      wp_walk
      rw [hc, hc2]
      exact ⟨plainId_quiet plain_count_loop _, codeAny_builtin entry_count_loop (by
        rw [Around.under_plainId plain_count_loop _]
        exact hrec)⟩
    | false =>
      wp_walk
      rw [hc]
      exact ⟨plainId_quiet plain_count_loop _, codeAny_builtin entry_count_loop (by
        rw [Around.under_plainId plain_count_loop _]
        exact hrec)⟩
theorem list_countG (l : Addr) (x : Value) (N : Nat) (I : Nat → Nat → Shared → Prop)
    (hl : ∀ i c s, I i c s → ∃ (items : Array Value) (n : Nat), s.heap.get? l = some { cls := .type "list", data := .seq items n } ∧ items.size = N ∧
      ∀ (h1 : i < items.size), wpAny (model prog w) A.in1 (eqBool items[i] x) (fun r s' => I (i + 1) (if r = true then c + 1 else c) s') (fun e s' => R (.error e) s') s)
    (fin : ∀ c s, I N c s → R (.ok (.ret (.int (c : Nat) s.toks))) { s with toks := s.toks + 1 }) {s : Shared} (h : I 0 0 s) :
    wpAny (model prog w) A.in1 (Builtin.«list.count» ⟨[.ref l, x], []⟩) (FinOf prog w A R) (fun e s' => R (.error e) s') s := by
  obtain ⟨items, n, hl1, hs1, _⟩ := hl _ _ _ h
  have hrec := count_loopG (A := A) (R := R) l x N I hl fin _ 0 0 rfl (Nat.zero_le _) s h
  obtain ⟨hp, g, d, tk, os⟩ := s
  wp_walk using wpAny_loadPart' hl1
  exact ⟨plainId_quiet plain_count_loop _, codeAny_builtin entry_count_loop (by
    rw [Around.under_plainId plain_count_loop _]
    exact hrec)⟩
theorem tuple_indexG (l : Addr) (items : Array Value) (n : Nat) (dd : Option Addr) (sl : Array (Option Value)) (x : Value) (I : Nat → Shared → Prop)
    (turn : ∀ i (h1 : i < items.size) s, I i s → wpAny (model prog w) A.in1 (eqBool items[i] x) (fun r s' => if r = true then R (.ok (.ret (.int (i : Nat) s'.toks))) { s' with toks := s'.toks + 1 } else I (i + 1) s') (fun e s' => R (.error e) s') s)
    (fin : ∀ s, ¬ I items.size s) {s : Shared} (hl1 : s.heap.get? l = some { cls := .type "tuple", dict := dd, data := .seq items n, slots := sl }) (h : I 0 s) :
    wpAny (model prog w) A.in1 (Builtin.«tuple.index» ⟨[.ref l, x], []⟩) (FinOf prog w A R) (fun e s' => R (.error e) s') s := by
  have h0 := h
  obtain ⟨hp, g, d, tk, os⟩ := s
  wp_walk using wpAny_loadPart' hl1, TI.forIn_rng _ (fun rest b s' => b.1 = none ∧ ∃ i, rest = List.range' i (items.size - i) ∧ i ≤ items.size ∧ I i s') _
  case turn =>
    rintro y rest b s' ⟨hb', i, hr, hi, hI⟩
    have hlt : i < items.size := by
      rcases Nat.lt_or_ge i items.size with h' | h'
      · exact h'
      · rw [Nat.sub_eq_zero_of_le h'] at hr; cases hr
    obtain ⟨rfl, hrest⟩ : y = i ∧ rest = List.range' (i + 1) (items.size - (i + 1)) := by
      have e : items.size - i = (items.size - (i + 1)) + 1 := by omega
      rw [e, List.range'_succ] at hr
      injection hr with h1 h2
      exact ⟨h1, h2⟩
    rw [Array.getElem?_eq_getElem hlt]
    refine wpAny_bind (wpAny_mono (turn y hlt s' hI) (fun r s2 h2 => ?_) fun _ _ x => x)
    cases r with
    | true =>
      rw [if_pos rfl] at h2
      wp_walk
      exact h2
    | false =>
      rw [if_neg Bool.false_ne_true] at h2
      wp_walk
      exact ⟨rfl, y + 1, hrest, by omega, h2⟩
  case fin =>
    rintro b s' ⟨hb', i, hr, hi, hI⟩
    have e : i = items.size := by
      rcases Nat.lt_or_ge i items.size with h' | h'
      · have e : items.size - i = (items.size - (i + 1)) + 1 := by omega
        rw [e, List.range'_succ] at hr
        cases hr
      · omega
    exact absurd (e ▸ hI) (fin s')
  case h =>
    exact ⟨rfl, 0, by simp, Nat.zero_le _, h0⟩
end
end GQ2
namespace Dz
open PySem PySem.SeqAt PySem.Spec PyProof.Rows L2 RZ SrtO
def oneE (κ : Kx) (C : Str) (sp : Sp) (b a : Addr) (H : Hp) (Q : Bool → Hp → Prop) : Prop := ∃ (cls dx : Addr) (fs : List (Str × V)) (t : Value), κ.mg C = some (.ref cls) ∧ H b = some (.ins cls dx fs) ∧ TyX κ.K H (.ref a) t ∧ RtT cls t ∧
  sp [.ref b, .ref a] H (fun v H' => ∃ r : Bool, v = .bl r ∧ Q r H') fun _ _ _ => False
def chC (κ : Kx) (C : Str) (sp : Sp) (p : Addr) (vs : List V) (a : Addr) : List V → Nat → Hp → VK → Prop
  | [], c, H, Q => H p = some (.lst vs) ∧ Q (.int (c : Nat)) H
  | y :: ys, c, H, Q => H p = some (.lst vs) ∧ ∃ b, y = .ref b ∧ (b = a → chC κ C sp p vs a ys (c + 1) H Q) ∧ (b ≠ a → oneE κ C sp b a H fun r H' => chC κ C sp p vs a ys (if r = true then c + 1 else c) H' Q)
def chI (κ : Kx) (C : Str) (sp : Sp) (a : Addr) : List V → Nat → Hp → VK → Prop
  | [], _, _, _ => False
  | y :: ys, i, H, Q => ∃ b, y = .ref b ∧ (b = a → Q (.int (i : Nat)) H) ∧ (b ≠ a → oneE κ C sp b a H fun r H' => (r = true → Q (.int (i : Nat)) H') ∧ (r = false → chI κ C sp a ys (i + 1) H' Q))
def rCountOwn (κ : Kx) (C : Str) (sp : Sp) : V → List V → Hp → VK → Prop := fun x xs H Q => ∃ (p a : Addr) (vs : List V), x = .ref p ∧ xs = [.ref a] ∧ chC κ C sp p vs a vs 0 H Q
def rIndexOwn (κ : Kx) (C : Str) (sp : Sp) : V → List V → Hp → VK → Prop := fun x xs H Q => ∃ (p a : Addr) (o : Obj) (vs : List V), x = .ref p ∧ xs = [.ref a] ∧ H p = some (.frz o (.tup vs)) ∧ chI κ C sp a vs 0 H Q
section
variable {X : Cx} {κ : Kx} {n : Nat} {C : Str} {ps : List Str} {sp : Sp}
theorem turn_own {pins : List (Addr × Obj)} {σ : L2.St} {H : Hp} {s : Shared} {a b : Addr} {Q : Bool → Hp → Prop} (hX : CxK κ X) (c : CalM X.prog X.w X.K X.mg X.base n C "__eq__" ps [] sp) (hr : Room (n + 1) X.A) (o : OwnK X.K X.mg C) (I : L2.Inv X pins σ H s)
    (h1 : b = a → Q true H) (h2 : b ≠ a → oneE κ C sp b a H Q) : wpAny (model X.prog X.w) X.A.in1 (eqBool (.ref b) (.ref a)) (fun r s' => ∃ H', L2.Inv X pins σ H' s' ∧ Q r H') X.xe s := by
  by_cases hab : b = a
  · subst hab
    exact SeqAt.EqAt.same (A := X.A.in1) (s := s) (.ref b) X.prog X.w X.xe _ ⟨H, I, h1 rfl⟩
  · obtain ⟨cls, dx, fs, t, hc, hb, ty, rt, h⟩ := h2 hab
    rw [← hX.m] at hc
    rw [← hX.k] at ty
    have sb : Sub X n X.A.in1 := Sub.in1 ⟨hr, rfl⟩
    refine GQ.eqBool_refG hab (thn (own_rc (Q := Q) (y := .ref a) (u := .ref a) sb c hc (o.all hc).1 I hb rfl ty rt h) fun v s' ⟨r, H', ev, I', q⟩ => ?_)
    exact ⟨r, ev, H', I', q⟩
theorem mt_countOwn (hX : CxK κ X) (c : CalM X.prog X.w X.K X.mg X.base n C "__eq__" ps [] sp) (hr : Room (n + 1) X.A) (o : OwnK X.K X.mg C) : MtR X "list.count" (rCountOwn κ C sp) := by
  intro pins s σ H x xs v us Q I rx rxs ⟨p, a, vs, ex, exs, h⟩
  subst ex exs
  cases (show v = Value.ref p from rx)
  obtain ⟨u, rfl, ru⟩ := vals1 rxs
  cases (show u = Value.ref a from ru)
  have hp : H p = some (.lst vs) := by cases vs <;> exact h.1
  obtain ⟨z0, its0, n0, r0, hl0, e0⟩ := I.lstM hp
  refine GQ.call_here PySem.F.slot_list_count ⟨_, e0, rfl⟩ PySem.F.entry_list_count (PySem.F.args_list_count_2 _ _) ?_
  refine GQ2.list_countG p (.ref a) vs.length (fun i k s' => i ≤ vs.length ∧ ∃ H', L2.Inv X pins σ H' s' ∧ chC κ C sp p vs a (vs.drop i) k H' Q) (fun i k s' ⟨hi, H', I', hch⟩ => ?_) (fun k s' ⟨hi, H', I', hch⟩ => ?_) ⟨Nat.zero_le _, H, I, h⟩
  · have hp' : H' p = some (.lst vs) := by cases hd : vs.drop i <;> (rw [hd] at hch; exact hch.1)
    obtain ⟨z, its, m, r, hl, e⟩ := I'.lstM hp'
    refine ⟨its.toArray, m, e, by rw [List.size_toArray]; exact hl.symm, fun h1 => ?_⟩
    have h1' : i < its.length := by simpa using h1
    have hiv : i < vs.length := by omega
    rw [List.drop_eq_getElem_cons hiv] at hch
    obtain ⟨_, b, eb, c1, c2⟩ := hch
    obtain ⟨w, hw, rw'⟩ := r.get (List.getElem?_eq_getElem hiv)
    rw [eb] at rw'
    cases (show w = Value.ref b from rw')
    have hit : its.toArray[i] = Value.ref b := by
      have := (List.getElem?_eq_some_iff.mp hw).2
      simpa using this
    rw [hit]
    refine wpAny_mono (turn_own (Q := fun r H' => chC κ C sp p vs a (vs.drop (i + 1)) (if r = true then k + 1 else k) H' Q) hX c hr o I' (fun q => c1 q) c2) (fun r s2 ⟨H2, I2, q⟩ => ?_) fun _ _ x => x
    exact ⟨hiv, H2, I2, q⟩
  · rw [List.drop_length] at hch
    exact ⟨.int (k : Nat), H', I'.tok _, ⟨_, rfl⟩, hch.2⟩
theorem mt_indexOwn (hX : CxK κ X) (c : CalM X.prog X.w X.K X.mg X.base n C "__eq__" ps [] sp) (hr : Room (n + 1) X.A) (o : OwnK X.K X.mg C) : MtR X "tuple.index" (rIndexOwn κ C sp) := by
  intro pins s σ H x xs v us Q I rx rxs ⟨p, a, ob, vs, ex, exs, hp, h⟩
  subst ex exs
  cases (show v = Value.ref p from rx)
  obtain ⟨u, rfl, ru⟩ := vals1 rxs
  cases (show u = Value.ref a from ru)
  obtain ⟨its, r, ⟨⟨cls, dd, data, sls⟩, ho, hc, m, hdt⟩, hlen⟩ := I.tuple (.inl (.inr ⟨ob, hp⟩))
  simp only at hc hdt
  subst hc hdt
  have hl := r.length
  refine GQ.call_here PySem.F.slot_tuple_index ⟨_, ho, rfl⟩ PySem.F.entry_tuple_index (PySem.F.args_tuple_index_2 _ _) ?_
  refine GQ2.tuple_indexG p its.toArray m dd sls (.ref a) (fun i s' => i ≤ vs.length ∧ ∃ H', L2.Inv X pins σ H' s' ∧ chI κ C sp a (vs.drop i) i H' Q) (fun i h1 s' ⟨hi, H', I', hch⟩ => ?_) (fun s' ⟨hi, H', I', hch⟩ => ?_) ho ⟨Nat.zero_le _, H, I, h⟩
  · have h1' : i < its.length := by simpa using h1
    have hiv : i < vs.length := by omega
    rw [List.drop_eq_getElem_cons hiv] at hch
    obtain ⟨b, eb, c1, c2⟩ := hch
    obtain ⟨w, hw, rw'⟩ := r.get (List.getElem?_eq_getElem hiv)
    rw [eb] at rw'
    cases (show w = Value.ref b from rw')
    have hit : its.toArray[i] = Value.ref b := by
      have := (List.getElem?_eq_some_iff.mp hw).2
      simpa using this
    rw [hit]
    refine wpAny_mono (turn_own (Q := fun r H' => (r = true → Q (.int (i : Nat)) H') ∧ (r = false → chI κ C sp a (vs.drop (i + 1)) (i + 1) H' Q)) hX c hr o I' (fun q => ⟨fun _ => c1 q, fun z => nomatch z⟩) c2) (fun r s2 ⟨H2, I2, q⟩ => ?_) fun _ _ x => x
    cases r with
    | true =>
      rw [if_pos rfl]
      exact ⟨.int (i : Nat), H2, I2.tok _, ⟨_, rfl⟩, q.1 rfl⟩
    | false =>
      rw [if_neg Bool.false_ne_true]
      exact ⟨hiv, H2, I2, q.2 rfl⟩
  · have e : its.toArray.size = vs.length := by rw [List.size_toArray, hl]
    rw [e, List.drop_length] at hch
    exact hch
end
end Dz

namespace Dz
open PySem PySem.SeqAt PySem.Spec PyProof.Rows L2 RZ SrtO
section
variable {X : Cx} {κ : Kx} {C : Str}
theorem pe_glC {p : Pos} (κ : Kx) (hX : CxK κ X) (o : OwnK X.K X.mg C) (hg : Gl X C := by rfl) (hdb : (C == ("__debug__" : Str)) = false := by decide) : PE X (.Name C p) (tGl κ.mg C) := by
  obtain ⟨cls, hc, _⟩ := o.ex
  refine ⟨fun pins s σ H Q I h => ld_glob I hg hc ⟨.ref cls, H, I, rfl, h cls ?_⟩ hdb⟩
  rw [← hX.m]; exact hc
end
end Dz
namespace Sm
open PySem PySem.SeqAt PySem.Spec PyProof.Rows L2 RZ SrtO Dz
def rtOk (g : Sg) (C : Str) : Vl → Bool
  | .ref j => (fsAt g j C).isSome
  | .dat (.tuple _) => true
  | .dat (.int _) => true
  | .dat (.str _) => true
  | _ => false
def eqRun (F : FS) (C : Str) (j : Nat) (x : Vl) (g : Sg) : Option (Bool × Sg) := if ((fsAt g j C).isSome && rtOk g C x) = true then (match F [.ref j, x] g with
  | some (.dat (.bool b), g2) => some (b, g2)
  | _ => none) else none
def eOwn (neg : Bool) (F : FS) (C : Str) (h : M Nat) (v : M Vl) : M PyData := mb h fun j => mb v fun x => fun l g => (eqRun F C j x g).map fun p => (.bool (p.1 != neg), l, p.2)
def isoD (g : Sg) (C : Str) : Vl → Option Bool
  | .ref j => if (fsAt g j C).isSome = true then some true else none
  | .dat (.tuple _) => some false
  | .dat (.int _) => some false
  | .dat (.str _) => some false
  | _ => none
def eIsO (C : Str) (v : M Vl) : M PyData := mb v fun x => fun l g => (isoD g C x).map fun b => (.bool b, l, g)
def cntO (F : FS) (C : Str) (j : Nat) : List Ov → Nat → Sg → Option (Nat × Sg)
  | [], c, g => some (c, g)
  | .ref k :: xs, c, g => if k = j then cntO F C j xs (c + 1) g else (eqRun F C k (.ref j) g).bind fun p => cntO F C j xs (if p.1 = true then c + 1 else c) p.2
  | _ :: _, _, _ => none
def idxO (F : FS) (C : Str) (j : Nat) : List Ov → Nat → Sg → Option (Nat × Sg)
  | [], _, _ => none
  | .ref k :: xs, c, g => if k = j then some (c, g) else (eqRun F C k (.ref j) g).bind fun p => if p.1 = true then some (c, p.2) else idxO F C j xs (c + 1) p.2
  | _ :: _, _, _ => none
def osLst (l : Lo) (i : Nat) (b : Bool) : Option (List Ov) := match l[i]? with
  | some (.os c xs) => if c = b then some xs else none
  | _ => none
def eCntO (F : FS) (C : Str) (i : Nat) (h : M Nat) : M PyData := mb (mg fun l _ => osLst l i false) fun xs => mb h fun j => fun l g => (cntO F C j xs 0 g).map fun p => (.int (p.1 : Nat), l, p.2)
def eIdxO (F : FS) (C : Str) (i : Nat) (h : M Nat) : M PyData := mb (mg fun l _ => osLst l i false) fun xs => mb h fun j => fun l g => (idxO F C j xs 0 g).map fun p => (.int (p.1 : Nat), l, p.2)
def vAny (i : Nat) : M Vl := mg fun l _ => match l[i]? with
  | some (.ref j) => some (.ref j)
  | some (.dat d) => some (.dat d)
  | _ => none
section
variable {K : Kx} {te tb : TE} {F : FS} {C : Str} {h : M Nat} {v : M Vl} {i : Nat}
theorem s_vAny : EvV K (tVar i) (vAny i) := fun l g d l' g' s H S r A e h0 Q q => by
  replace e := mg_some e; obtain ⟨e, rfl, rfl⟩ := e
  split at e
  · rename_i j hl
    cases e
    obtain ⟨o, v, e1, e2, e3, a, e4, rfl⟩ := h0.ok i _ hl
    exact ⟨_, e2, q _ H S r A (Mv.refl h0.hs) h0 ⟨a, e4, rfl⟩⟩
  · rename_i d hl
    cases e
    obtain ⟨o, v, e1, e2, e3, w, rfl, e4⟩ := h0.ok i _ hl
    exact ⟨_, e2, q _ H S r A (Mv.refl h0.hs) h0 e4⟩
  · cases e
theorem eqRun_some {j : Nat} {x : Vl} {g g2 : Sg} {b : Bool} (e : eqRun F C j x g = some (b, g2)) : (∃ fs, fsAt g j C = some fs) ∧ rtOk g C x = true ∧ F [.ref j, x] g = some (.dat (.bool b), g2) := by
  unfold eqRun at e
  split at e
  · rename_i hz
    rw [Bool.and_eq_true] at hz
    split at e
    · rename_i e2
      cases e
      exact ⟨Option.isSome_iff_exists.mp hz.1, hz.2, e2⟩
    · cases e
  · cases e
theorem ty_rt {l : Lo} {g : Sg} {s : L2.St} {H S : Hp} {r : List Addr} {A : List (Option Addr)} {x : Vl} {w : V} {cls : Addr} (o : OwnK K.K K.mg C) (hst : StOk K l g s H S r A) (hc : K.mg C = some (.ref cls)) (hw : VOk K S r w x) (hx : rtOk g C x = true) : ∃ t, TyX K.K H w t ∧ RtT cls t := by
  cases x with
  | ref j =>
    obtain ⟨a, hr, rfl⟩ := hw
    obtain ⟨fs, hf⟩ := Option.isSome_iff_exists.mp (show (fsAt g j C).isSome = true from hx)
    obtain ⟨cls', dx, vs, k1, k2, _⟩ := hst.obj hr hf
    rw [hc] at k1
    cases k1
    obtain ⟨oc, cl⟩ := o.all hc
    exact ⟨.ref cls, .base (.ins k2 cl oc.ha oc.hn oc.ht oc.hm), .inl rfl⟩
  | dat d =>
    have ty := tyX_of hst.hs (show Dp K S w d from hw)
    cases d with
    | tuple ds => exact ⟨_, ty, .inr (.inl rfl)⟩
    | int n => exact ⟨_, ty, .inr (.inr (.inl rfl))⟩
    | str z => exact ⟨_, ty, .inr (.inr (.inr rfl))⟩
    | _ => cases hx
  | _ => cases hx
theorem s_own {neg : Bool} (o : OwnK K.K K.mg C) (hh : EvH K te h) (hv : EvV K tb v) : EvS K (tOp (rOwn K C neg (spG K 2 F)) te tb) (eOwn neg F C h v) := fun l g d l' g' s H S r A e h0 Q q => by
  replace e := mb_some e; obtain ⟨j, l1, g1, e1, e⟩ := e
  replace e := mb_some e; obtain ⟨x, l2, g2, e2, e⟩ := e
  obtain ⟨⟨b, g3⟩, e3, e4⟩ := Option.map_eq_some_iff.mp e
  cases e4
  obtain ⟨⟨fs, hf⟩, hx, e5⟩ := eqRun_some e3
  refine hh _ _ _ _ _ s H S r A e1 h0 _ fun a H1 S1 r1 A1 m1 h1 hr => hv _ _ _ _ _ s H1 S1 r1 A1 e2 h1 _ fun w H2 S2 r2 A2 m2 h2 hw => ?_
  have hr2 := m2.at_ hr
  obtain ⟨cls, dx, vs, k1, k2, _⟩ := h2.obj hr2 hf
  obtain ⟨t, ty, rt⟩ := ty_rt o h2 k1 hw hx
  refine ⟨cls, a, dx, vs, t, k1, rfl, k2, ty, rt, call_at h2 (.cons (ok_ref hr2) (.cons hw .nil)) rfl e5 fun z H3 S3 r3 m3 h3 hz => ?_⟩
  have hz : Dp K S3 z (.bool b) := hz
  cases hz
  exact ⟨b, rfl, q _ H3 S3 r3 A2 ((m1.trans m2).trans m3) h3 (.bl _)⟩
theorem s_isO (o : OwnK K.K K.mg C) (hv : EvV K tb v) : EvS K (tCB (rIsi K) (tCons tb (tCons (tGl K.mg C) tNil))) (eIsO C v) := fun l g d l' g' s H S r A e h0 Q q => by
  replace e := mb_some e; obtain ⟨x, l1, g1, e1, e⟩ := e
  obtain ⟨b, e3, e4⟩ := Option.map_eq_some_iff.mp e
  cases e4
  refine hv _ _ _ _ _ s H S r A e1 h0 _ fun w H1 S1 r1 A1 m1 h1 hw => fun cls hc => ?_
  obtain ⟨oc, cl⟩ := o.all hc
  have fin := q (.bl b) H1 S1 r1 A1 m1 h1 (.bl _)
  cases x with
  | ref j =>
    obtain ⟨a, hr, rfl⟩ := hw
    have e3 : (if (fsAt _ j C).isSome = true then some true else none) = some b := e3
    split at e3
    · rename_i hs
      cases e3
      obtain ⟨fs, hf⟩ := Option.isSome_iff_exists.mp hs
      obtain ⟨cls', dx, vs, k1, k2, _⟩ := h1.obj hr hf
      rw [hc] at k1
      cases k1
      exact ⟨.ref a, .ref cls, .ref cls, .ref cls, true, rfl, .own cls, .base (.ins k2 cl oc.ha oc.hn oc.ht oc.hm), oc.k0, fin⟩
    · cases e3
  | dat d =>
    have ty := tyX_of h1.hs (show Dp K S1 w d from hw)
    cases d with
    | tuple ds => cases e3; exact ⟨w, .ref cls, _, .ref cls, false, rfl, .own cls, ty, oc.k1, fin⟩
    | int n => cases e3; exact ⟨w, .ref cls, _, .ref cls, false, rfl, .own cls, ty, oc.k2, fin⟩
    | str z => cases e3; exact ⟨w, .ref cls, _, .ref cls, false, rfl, .own cls, ty, oc.k3, fin⟩
    | _ => cases e3
  | _ => cases e3
theorem nodup_ix {r : List Addr} {j k : Nat} {a : Addr} (hn : r.Nodup) (h1 : r[j]? = some a) (h2 : r[k]? = some a) : k = j :=
  (List.getElem?_inj (List.getElem?_eq_some_iff.mp h2).1 hn).mp (h2.trans h1.symm)
theorem one_run {k j : Nat} {a b : Addr} {g g2 : Sg} {z : Bool} {l : Lo} {s : L2.St} {H S : Hp} {r : List Addr} {A : List (Option Addr)} {Q : Bool → Hp → Prop} (o : OwnK K.K K.mg C) (h : StOk K l g s H S r A) (hb : r[k]? = some b) (ha : r[j]? = some a) (e : eqRun F C k (.ref j) g = some (z, g2))
    (q : ∀ H' S' r', Mv K S H r A S' H' r' A → StOk K l g2 s H' S' r' A → Q z H') : oneE K C (spG K 2 F) b a H Q := by
  obtain ⟨⟨fs, hf⟩, hx, e5⟩ := eqRun_some e
  obtain ⟨cls, dx, vs, k1, k2, _⟩ := h.obj hb hf
  obtain ⟨t, ty, rt⟩ := ty_rt o h k1 (ok_ref ha) hx
  refine ⟨cls, dx, vs, t, k1, k2, ty, rt, call_at h (.cons (ok_ref hb) (.cons (ok_ref ha) .nil)) rfl e5 fun w H3 S3 r3 m3 h3 hz => ?_⟩
  have hz : Dp K S3 w (.bool z) := hz
  cases hz
  exact ⟨z, rfl, q H3 S3 r3 m3 h3⟩
theorem chC_run {p a : Addr} {vs : List V} {j n : Nat} {l : Lo} {s : L2.St} {A : List (Option Addr)} {g' : Sg} {Q : VK} (o : OwnK K.K K.mg C) : ∀ (xs : List Ov) (ys : List V) (c : Nat) {g : Sg} {H S : Hp} {r : List Addr}, StOk K l g s H S r A → S p = some (.lst vs) → r[j]? = some a → Paired (fun y x => OvOk K S r x y) ys xs → cntO F C j xs c g = some (n, g') →
    (∀ H' S' r', Mv K S H r A S' H' r' A → StOk K l g' s H' S' r' A → Q (.int (n : Nat)) H') → chC K C (spG K 2 F) p vs a ys c H Q
  | [], _, c, g, H, S, r, h, hp, hj, .nil, e, q => by
    cases e
    exact ⟨h.hs _ _ hp, q H S r (Mv.refl h.hs) h⟩
  | .ref k :: xs, y :: ys, c, g, H, S, r, h, hp, hj, .cons hy hys, e, q => by
    obtain ⟨b, hb, rfl⟩ := hy
    refine ⟨h.hs _ _ hp, b, rfl, fun hba => ?_, fun hba => ?_⟩
    · subst hba
      have hk := nodup_ix h.rn hj hb
      unfold cntO at e
      rw [if_pos hk] at e
      exact chC_run o xs ys (c + 1) h hp hj hys e q
    · have hk : ¬ k = j := fun z => hba (by rw [z, hj] at hb; exact (Option.some.inj hb).symm)
      unfold cntO at e
      rw [if_neg hk] at e
      obtain ⟨⟨z, g2⟩, e1, e2⟩ := Option.bind_eq_some_iff.mp e
      refine one_run o h hb hj e1 fun H3 S3 r3 m3 h3 => ?_
      exact chC_run o xs ys _ h3 (m3.s _ _ hp) (m3.at_ hj) (Paired.mapP hys fun _ _ w => OvOk.go w m3.s m3.p) e2 fun H4 S4 r4 m4 h4 => q H4 S4 r4 (m3.trans m4) h4
  | .pr _ _ :: _, _ :: _, _, _, _, _, _, _, _, _, .cons _ _, e, _ => by cases e
theorem chI_run {a : Addr} {j n : Nat} {l : Lo} {s : L2.St} {A : List (Option Addr)} {g' : Sg} {Q : VK} (o : OwnK K.K K.mg C) : ∀ (xs : List Ov) (ys : List V) (c : Nat) {g : Sg} {H S : Hp} {r : List Addr}, StOk K l g s H S r A → r[j]? = some a → Paired (fun y x => OvOk K S r x y) ys xs → idxO F C j xs c g = some (n, g') →
    (∀ H' S' r', Mv K S H r A S' H' r' A → StOk K l g' s H' S' r' A → Q (.int (n : Nat)) H') → chI K C (spG K 2 F) a ys c H Q
  | [], _, c, g, H, S, r, h, hj, .nil, e, q => by cases e
  | .ref k :: xs, y :: ys, c, g, H, S, r, h, hj, .cons hy hys, e, q => by
    obtain ⟨b, hb, rfl⟩ := hy
    refine ⟨b, rfl, fun hba => ?_, fun hba => ?_⟩
    · subst hba
      have hk := nodup_ix h.rn hj hb
      unfold idxO at e
      rw [if_pos hk] at e
      cases e
      exact q H S r (Mv.refl h.hs) h
    · have hk : ¬ k = j := fun z => hba (by rw [z, hj] at hb; exact (Option.some.inj hb).symm)
      unfold idxO at e
      rw [if_neg hk] at e
      obtain ⟨⟨z, g2⟩, e1, e2⟩ := Option.bind_eq_some_iff.mp e
      refine one_run o h hb hj e1 fun H3 S3 r3 m3 h3 => ⟨fun hz => ?_, fun hz => ?_⟩
      · rw [if_pos hz] at e2
        cases e2
        exact q H3 S3 r3 m3 h3
      · rw [if_neg (by rw [hz]; exact Bool.false_ne_true)] at e2
        exact chI_run o xs ys _ h3 (m3.at_ hj) (Paired.mapP hys fun _ _ w => OvOk.go w m3.s m3.p) e2 fun H4 S4 r4 m4 h4 => q H4 S4 r4 (m3.trans m4) h4
  | .pr _ _ :: _, _ :: _, _, _, _, _, _, _, _, .cons _ _, e, _ => by cases e
theorem osLst_ok {l : Lo} {g : Sg} {s : L2.St} {H S : Hp} {r : List Addr} {A : List (Option Addr)} {b : Bool} {xs : List Ov} (h : StOk K l g s H S r A) (e : osLst l i b = some xs) : ∃ (a : Addr) (ys : List V), s[i]? = some (some (.ref a)) ∧ S a = some (if b = true then .tup ys else .lst ys) ∧ Paired (fun y x => OvOk K S r x y) ys xs := by
  unfold osLst at e
  split at e
  · rename_i c zs hl
    split at e
    · rename_i hc
      cases e
      subst hc
      obtain ⟨o, v, e1, e2, e3, w, rfl, a, ys, rfl, e4, e5⟩ := h.ok i _ hl
      exact ⟨a, ys, e2, e4, e5⟩
    · cases e
  · cases e
theorem s_cntO (o : OwnK K.K K.mg C) (hh : EvH K te h) : EvS K (tBM K "list" (rCountOwn K C (spG K 2 F)) (tVar i) (tCons te tNil)) (eCntO F C i h) := fun l g d l' g' s H S r A e h0 Q q => by
  replace e := mb_some e; obtain ⟨xs, l0, g0, e0, e⟩ := e
  replace e0 := mg_some e0; obtain ⟨e0, rfl, rfl⟩ := e0
  replace e := mb_some e; obtain ⟨j, l1, g1, e1, e⟩ := e
  obtain ⟨⟨n, g2⟩, e2, e3⟩ := Option.map_eq_some_iff.mp e
  cases e3
  obtain ⟨p, vs, q1, q2, q3⟩ := osLst_ok h0 e0
  rw [if_neg Bool.false_ne_true] at q2
  refine ⟨_, q1, .inl ⟨rfl, vs, .inl (.inl (h0.hs _ _ q2))⟩, hh _ _ _ _ _ s H S r A e1 h0 _ fun a H1 S1 r1 A1 m1 h1 hr => ?_⟩
  refine ⟨p, a, vs, rfl, rfl, chC_run o xs vs 0 h1 (m1.s _ _ q2) hr (Paired.mapP q3 fun _ _ w => OvOk.go w m1.s m1.p) e2 fun H3 S3 r3 m3 h3 => ?_⟩
  exact q _ H3 S3 r3 A1 (m1.trans m3) h3 (.int _)
theorem s_idxO (o : OwnK K.K K.mg C) (hh : EvH K te h) : EvS K (tBMX (rIndexOwn K C (spG K 2 F)) (tCB (rTupX K.K) (tCons (tVar i) tNil)) (tCons te tNil)) (eIdxO F C i h) := fun l g d l' g' s H S r A e h0 Q q => by
  replace e := mb_some e; obtain ⟨xs, l0, g0, e0, e⟩ := e
  replace e0 := mg_some e0; obtain ⟨e0, rfl, rfl⟩ := e0
  replace e := mb_some e; obtain ⟨j, l1, g1, e1, e⟩ := e
  obtain ⟨⟨n, g2⟩, e2, e3⟩ := Option.map_eq_some_iff.mp e
  cases e3
  obtain ⟨p, vs, q1, q2, q3⟩ := osLst_ok h0 e0
  rw [if_neg Bool.false_ne_true] at q2
  refine ⟨_, q1, p, vs, rfl, .inl (.inl (h0.hs _ _ q2)), fun tp ob hc hn hp => ?_⟩
  have gp : Grow m0 S H (upd S tp (.frz ob (.tup vs))) (upd H tp (.frz ob (.tup vs))) := Grow.new h0.hs hp
  have h1 := h0.grow gp
  refine ⟨⟨tp, ob, vs, rfl, upd_same, hc, hn⟩, hh _ _ _ _ _ s _ _ r A e1 h1 _ fun a H2 S2 r2 A2 m2 h2 hr => ?_⟩
  refine ⟨tp, a, ob, vs, rfl, rfl, h2.hs _ _ (m2.s _ _ upd_same), chI_run o xs vs 0 h2 hr (Paired.mapP (Paired.mapP q3 fun _ _ w => OvOk.go w gp.s ⟨[], by simp⟩) fun _ _ w => OvOk.go w m2.s m2.p) e2 fun H3 S3 r3 m3 h3 => ?_⟩
  exact q _ H3 S3 r3 A2 (((Mv.grow gp).trans m2).trans m3) h3 (.int _)
end
end Sm

namespace Sm
open PySem PySem.SeqAt PySem.Spec PyProof.Rows L2 RZ SrtO Dz LiI
def enO : Nat → List Ov → Option (List Ov)
  | _, [] => some []
  | n, .ref j :: xs => (enO (n + 1) xs).map (.pr (.int (n : Nat)) j :: ·)
  | _, _ :: _ => none
def iEnO (i : Nat) : M (List Ov) := mg fun l g => match l[i]? with
  | some (.os _ xs) => enO 0 xs
  | _ => none
theorem enO_len : ∀ {xs : List Ov} {n : Nat} {ys : List Ov}, enO n xs = some ys → ys.length = xs.length
  | [], n, ys, e => by cases e; rfl
  | .ref j :: xs, n, ys, e => by
    obtain ⟨zs, e1, rfl⟩ := Option.map_eq_some_iff.mp (show (enO (n + 1) xs).map _ = some ys from e)
    rw [List.length_cons, List.length_cons, enO_len e1]
  | .pr _ _ :: _, n, ys, e => by cases e
theorem enO_get : ∀ {xs : List Ov} {n : Nat} {ys : List Ov} {i : Nat} {y : Ov}, enO n xs = some ys → ys[i]? = some y → ∃ j, xs[i]? = some (.ref j) ∧ y = .pr (.int ((n + i : Nat) : Nat)) j
  | [], n, ys, i, y, e, h => by cases e; simp at h
  | .ref j :: xs, n, ys, i, y, e, h => by
    obtain ⟨zs, e1, rfl⟩ := Option.map_eq_some_iff.mp (show (enO (n + 1) xs).map _ = some ys from e)
    cases i with
    | zero => simp at h; exact ⟨j, rfl, by rw [← h]; rfl⟩
    | succ i =>
      obtain ⟨k, h1, h2⟩ := enO_get e1 (by simpa using h)
      exact ⟨k, by simpa using h1, by rw [h2, show n + 1 + i = n + (i + 1) by omega]⟩
  | .pr _ _ :: _, n, ys, i, y, e, h => by cases e
section
variable {K : Kx} {te tb : TE} {i : Nat} {h : M Nat} {b : M PyData}
theorem s_ienO : EvIG K (rO K) (iEnumA K (tCons (tVar i) tNil)) (iEnO i) := fun l g ds l' g' s H S r A e h0 Q q => by
  replace e := mg_some e; obtain ⟨e, rfl, rfl⟩ := e
  split at e
  · rename_i bb xs hl
    obtain ⟨o, v, e1, e2, e3, w, rfl, a, ys, rfl, e4, e5⟩ := h0.ok i _ hl
    have hlen := paired_len e5
    have hel := enO_len e
    have fin : ∀ {S2 H H' : Hp} {k : Nat} {T : Addr} {x1 v : V} {d : Ov}, ds[k]? = some d → ys[k]? = some v → Same S S2 → Same S2 H → H T = none → H' = upd H T (.tup [.int (k : Nat), v]) → ∃ S', Grow m0 S2 H S' H' ∧ rO K S' r (.ref T) d := fun {S2 H H' k T x1 v d} hd hv s1 s2 hn e6 => by
      obtain ⟨j, h1, rfl⟩ := enO_get e hd
      obtain ⟨v', hv', hdv⟩ := paired_at e5 h1
      rw [hv] at hv'
      cases hv'
      obtain ⟨ad, hj, rfl⟩ := hdv
      subst e6
      have g2 : Grow m0 S2 H (upd S2 T (.tup [.int (k : Nat), .ref ad])) (upd H T (.tup [.int (k : Nat), .ref ad])) := Grow.new s2 hn
      exact ⟨_, g2, T, .int (k : Nat), ad, rfl, upd_same, by rw [Nat.zero_add]; exact .int _, hj⟩
    cases bb with
    | true =>
      have hq : ∀ H', Same S H' → SqT K H' a ys := fun H' hs => .inl (.inl (hs _ _ e4))
      refine ⟨_, e2, _, _, rfl, .inr ⟨hq _ h0.hs, q _ H S r A (Mv.refl h0.hs) h0 ⟨fun k H hk hs => ?_, fun H hs => ?_, fun k H x H' d S2 hd s1 s2 y => ?_⟩⟩⟩
      · exact ⟨ys, ys[k]'(by omega), hq _ hs, List.getElem?_eq_getElem _⟩
      · exact ⟨ys, hq _ hs, by omega⟩
      · obtain ⟨T, x1, rfl, hn, e6, q2⟩ := y
        have q3 := q2 ys (hq _ (s1.trans s2))
        exact fin (x1 := x1) hd q3 s1 s2 hn e6
    | false =>
      have hq : ∀ H', Same S H' → SqL K H' a ys := fun H' hs => .inl (.inl (hs _ _ e4))
      refine ⟨_, e2, _, _, rfl, .inl ⟨hq _ h0.hs, q _ H S r A (Mv.refl h0.hs) h0 ⟨fun k H hk hs => ?_, fun H hs => ?_, fun k H x H' d S2 hd s1 s2 y => ?_⟩⟩⟩
      · exact ⟨ys, ys[k]'(by omega), hq _ hs, List.getElem?_eq_getElem _⟩
      · exact ⟨ys, hq _ hs, by omega⟩
      · obtain ⟨T, x1, rfl, hn, e6, q2⟩ := y
        have q3 := q2 ys (hq _ (s1.trans s2))
        exact fin (x1 := x1) hd q3 s1 s2 hn e6
  · cases e
def oNewD : M Ov := fun l g => some (.ref g.length, l, g ++ [.dct []])
theorem og_newD : EvG K (rO K) tDNewK oNewD := fun l g d l' g' s H S r A e h0 Q q => by
  cases e
  refine s_dnew _ _ _ _ _ s H S r A rfl h0 _ fun p xs H1 S1 r1 A1 m1 h1 hp ht sp hx hd => ?_
  have h2 := h1.newR (o := .dct []) ht sp ⟨xs, hx, hd⟩
  refine q _ H1 S1 (r1 ++ [p]) A1 (m1.newR hp) h2 ⟨p, ?_, rfl⟩
  rw [← h1.lg, List.getElem?_append_right (Nat.le_refl _)]
  simp
def lHitems (h : M Nat) : M (List PyData) := mb h fun j => mg fun _ g => (dAt g j).map fun kvs => kvs.map fun p => .tuple [keyD p.1, p.2]
theorem s_hitems (hh : EvH K te h) : EvL K (tListItems te) (lHitems h) := fun l g d l' g' s H S r A e h0 Q q => by
  replace e := mb_some e; obtain ⟨j, l1, g1, e1, e⟩ := e
  replace e := mg_some e; obtain ⟨e, rfl, rfl⟩ := e
  obtain ⟨kvs, e2, rfl⟩ := Option.map_eq_some_iff.mp e
  refine hh _ _ _ _ _ s H S r A e1 h0 _ fun ad H1 S1 r1 A1 m1 h1 hr => ?_
  obtain ⟨ws, q3, q4, _⟩ := h1.dctAt hr e2
  refine ⟨ad, ws, rfl, q3, fun H' p ts hk hp htn hpt hl hpa => ?_⟩
  have old : ∀ b o, H1 b = some o → b ∉ ts := fun b o e z => by rw [htn b z] at e; cases e
  have at_ : ∀ b ∈ ts, ∃ u, H' b = some (.tup u) := fun b hb => by
    obtain ⟨_, y, _, _, e⟩ := paired_ix hpa hb
    exact ⟨_, e⟩
  have gp : Grow m0 S1 H1 (fun a => if a ∈ ts then H' a else S1 a) H' := by
    refine ⟨fun a o e => ?_, fun a o e => ?_, fun a e n => ?_, fun a o _ e => hk a o e, fun a n => ?_, fun a φ e => ?_⟩
    · show (if a ∈ ts then H' a else S1 a) = _
      rw [if_neg (old a o (h1.hs a o e))]; exact e
    · have e : (if a ∈ ts then H' a else S1 a) = some o := e
      split at e
      · exact e
      · exact hk a o (h1.hs a o e)
    · show (if a ∈ ts then H' a else S1 a) = _
      obtain ⟨u, hu⟩ := ne_some n
      rw [if_neg (old a u hu)]; exact e
    · obtain ⟨u, hu⟩ := ne_some n
      rw [hk a u hu]; exact some_ne rfl
    · have e : (if a ∈ ts then H' a else S1 a) = some (.ext φ) := e
      split at e
      · rename_i ha
        obtain ⟨u, hu⟩ := at_ a ha
        rw [hu] at e; cases e
      · exact e
  have h2 := h1.grow gp
  have hH : H p = none := by
    cases hq : H p with
    | none => rfl
    | some u => exact absurd hp (m1.d p (some_ne hq))
  refine q p (ts.map V.ref) H' _ r1 A1 (m1.trans (Mv.grow gp)) h2 hH (fun z => ?_) ?_ hl ?_
  · rcases z with z | z | z
    · exact (h1.there (.inl z)).1 hp
    · exact (h1.there (.inr (.inl z))).1 hp
    · obtain ⟨_, ps, e⟩ := z
      rw [hl] at e; cases e
  · show (if p ∈ ts then H' p else S1 p) = _
    rw [if_neg hpt]; exact h1.hs.free hp
  · have key : ∀ (us : List Addr) (ks : List (Key × V)) (ds : List (Key × PyData)), (∀ t ∈ us, t ∈ ts) → Paired (fun (t : Addr) (q : Key × V) => H' t = some (.tup [kV q.1, q.2])) us ks → KvD K S1 ks ds → DpAll K (fun a => if a ∈ ts then H' a else S1 a) (us.map V.ref) (ds.map fun p => .tuple [keyD p.1, p.2]) := fun us ks ds hu hp1 hkd => by
      unfold KvD at hkd
      induction hp1 generalizing ds with
      | nil => cases hkd; exact .nil
      | @cons t kq us ks e _ ih =>
        cases hkd with
        | @cons _ y _ ys hq hrest =>
          refine .cons (.tup (xs := [kV kq.1, kq.2]) (.inl (.inl ?_)) (.cons ?_ (.cons (Dp_mono hq.2 gp.s) .nil))) (ih ys (fun t ht => hu t (by simp [ht])) hrest)
          · show (if t ∈ ts then H' t else S1 t) = _
            rw [if_pos (hu t (by simp))]; exact e
          · rw [hq.1]
            cases y.1 with
            | inl i => exact .int i
            | inr z => exact .str z
    exact key ts ws kvs (fun _ z => z) hpa q4
def strP (prs : List (Str × Str)) : List (Key × PyData) := prs.map fun p => (.inr p.1, .str p.2)
def eDstr (prs : List (Str × Str)) (b : M PyData) : M PyData := mb b fun y => mo ((keyO y).bind fun k => valG (strP prs) k)
theorem tPairs_str : ∀ (prs : List (Str × Str)) {σ : L2.St} {H : Hp} {Q : List (V × V) → Hp → Prop}, Q (prs.map fun p => (V.str p.1, V.str p.2)) H → tPairs (prs.map fun p => (tC (V.str p.1), tC (V.str p.2))) σ H Q
  | [], _, _, _, h => h
  | p :: prs, _, _, _, h => tPairs_str prs h
theorem s_dstr {prs : List (Str × Str)} (h15 : prs.length ≤ 15) (hm : mergeK [] (prs.map fun p => ((.inr p.1 : Key), V.str p.2)) = prs.map fun p => ((.inr p.1 : Key), V.str p.2)) (hb : EvS K tb b) : EvS K (tDGet (tDisp (prs.map fun p => (tC (V.str p.1), tC (V.str p.2)))) tb) (eDstr prs b) := fun l g d l' g' s H S r A e h Q q => by
  replace e := mb_some e; obtain ⟨y, l1, g1, e1, e⟩ := e
  replace e := mo_some e; obtain ⟨e, rfl, rfl⟩ := e
  replace e := Option.bind_eq_some_iff.mp e; obtain ⟨k, e3, e⟩ := e
  cases keyO_some e3
  refine fun p hp => tPairs_str prs ⟨upd_same, prs.map fun p => ((.inr p.1 : Key), V.str p.2), by rw [List.map_map]; rfl, by rw [List.length_map]; exact h15, ?_⟩
  rw [hm]
  have eu : upd (upd H p (.dK [])) p (.dK (prs.map fun p => ((.inr p.1 : Key), V.str p.2))) = upd H p (.dK (prs.map fun p => ((.inr p.1 : Key), V.str p.2))) := by
    funext x
    by_cases hx : x = p
    · subst hx; rw [upd_same, upd_same]
    · rw [upd_ne hx, upd_ne hx, upd_ne hx]
  rw [eu]
  have g0 : Grow m0 S H S (upd H p (.dK (prs.map fun p => ((.inr p.1 : Key), V.str p.2)))) := Grow.out h.hs hp
  have hpt : ¬ tr S (upd H p (.dK (prs.map fun p => ((.inr p.1 : Key), V.str p.2)))) A r p := fun z => (h.there (tr_upd z)).1 hp
  refine hb _ _ _ _ _ s _ S r A e1 (h.grow g0) _ fun v1 H1 S1 r1 A1 m1 h1 d1 => ?_
  have p1 := m1.k p _ hpt upd_same
  have kv : ∀ qs : List (Str × Str), KvD K S1 (qs.map fun p => ((.inr p.1 : Key), V.str p.2)) (strP qs) := fun qs => by
    induction qs with
    | nil => exact .nil
    | cons a qs ih => exact .cons ⟨rfl, .str _⟩ ih
  obtain ⟨v, hv, hd⟩ := (kv prs).val.1 d e
  exact ⟨p, v, rfl, .inl ⟨_, k, .inl p1, key_dp d1, hv.symm⟩, q v H1 S1 r1 A1 ((Mv.grow g0).trans m1) h1 hd⟩
end
end Sm

namespace Dz
open PySem PySem.SeqAt PySem.Spec PyProof.Rows L2 RZ SrtO
section
variable {X : Cx}
def rCountD (K : PySem.W.Frag) : V → List V → Hp → VK → Prop := fun x xs H Q => ∃ (a : Addr) (y : V) (d : PyData) (ds : List PyData), x = V.ref a ∧ xs = [y] ∧ Dp K H (V.ref a) (.list ds) ∧ Dp K H y d ∧
  SeqAt.shaped (.list ds) = true ∧ SeqAt.shaped d = true ∧ Q (.int (ds.countP fun z => PyData.eqv z d : Nat)) H
theorem mt_countD (hu : X.A.units + 65 < cLine) : MtR X "list.count" (rCountD X.K) := by
  intro pins s σ H x xs v us Q I rx rxs h
  obtain ⟨a, y, d, ds, rfl, rfl, hl, hy, sl, sd, q⟩ := h
  cases rx
  cases rxs with
  | cons ry rt =>
    rename_i uy ut
    cases rt
    obtain ⟨bs, r1⟩ := Dp.reads I d y uy hy ry
    have hxs : PyData.canLayAll0 ds = true := SeqAt.canLay_of_shaped sl
    have hroom : X.A.units + 1 + min (PyData.depthAll ds) d.depth < cLine := room_in_shaped sd hu
    cases hl with
    | lst hs ha =>
      obtain ⟨its, rv, ⟨⟨cls, dd, data, sls⟩, n, ho, hc, hdn, hdt⟩, hlen⟩ := I.list hs
      simp only at hc hdt
      subst hc hdt
      obtain ⟨as, h4⟩ := Dp.readsAll I ds _ its ha rv
      have hn : its.length = ds.length := SeqAt.ReadsAll.length ds its as h4
      have hmap : its.map (SeqAt.readOf s.heap) = ds := SeqAt.readsAll_map ds its as hxs h4
      have hcnt : its.toArray.toList.countP (fun u => PyData.eqv (SeqAt.readOf s.heap u) d) = ds.countP fun z => PyData.eqv z d := by
        rw [← hmap, List.countP_map]; rfl
      refine call_meets PySem.F.slot_list_count ⟨_, ho, rfl⟩ PySem.F.entry_list_count (PySem.F.args_list_count_2 _ _)
        (list_countAt a its.toArray n dd sls uy (fun u => PyData.eqv (SeqAt.readOf s.heap u) d)) ⟨ho, fun y hy => SeqAt.items_eqAt (vs := its.toArray) (show ReadsAll s.heap its.toArray.toList ds as from h4) r1 hxs (SeqAt.canLay_of_shaped sd) hroom y hy, ?_⟩
      rw [hcnt]
      exact ⟨.int _, H, I.tok _, ⟨_, rfl⟩, q⟩
end
end Dz
namespace Sm
open PySem PySem.Spec PyProof.Rows L2 RZ SrtO Dz
theorem k_countD {X : Cx} (K : Kx) (hu : X.A.units + 65 < cLine) (h : X.K = K := by rfl) : MtR X "list.count" (rCountD K) := h ▸ mt_countD hu
def countD (a b : PyData) : Option PyData := match a with
  | .list ds => if SeqAt.shaped (.list ds) = true ∧ SeqAt.shaped b = true then some (.int (ds.countP fun z => PyData.eqv z b : Nat)) else none
  | _ => none
def eCountD (a b : M PyData) : M PyData := eOp countD a b
section
variable {K : Kx} {ta tb : TE} {a b : M PyData}
theorem s_countD (ha : EvS K ta a) (hb : EvS K tb b) : EvS K (tBM K "list" (rCountD K) ta (tCons tb tNil)) (eCountD a b) := fun l g d l' g' s H S r A e h Q q => by
  replace e := mb_some e; obtain ⟨x, l1, g1, e1, e⟩ := e
  replace e := mb_some e; obtain ⟨y, l2, g2, e2, e⟩ := e
  replace e := mo_some e; obtain ⟨e, rfl, rfl⟩ := e
  unfold countD at e
  split at e
  · split at e
    · rename_i ds hsh
      cases e
      refine ha _ _ _ _ _ s H S r A e1 h _ fun v1 H1 S1 r1 A1 m1 h1 d1 => ⟨?_, ?_⟩
      · cases d1 with
        | lst k1 k2 => exact .inl ⟨rfl, _, h1.hs.seq k1⟩
      · refine hb _ _ _ _ _ s H1 S1 r1 A1 e2 h1 _ fun v2 H2 S2 r2 A2 m2 h2' d2 => ?_
        cases d1 with
        | lst k1 k2 => exact ⟨_, _, _, _, rfl, rfl, .lst (h2'.hs.seq (m2.s.seq k1)) (DpAll_mono k2 (m2.s.trans h2'.hs)), Dp_mono d2 h2'.hs, hsh.1, hsh.2, q _ H2 S2 r2 A2 (m1.trans m2) h2' (.int _)⟩
    · cases e
  · cases e
end
section
variable {l : Lo} {g : Sg} {a b : M PyData}
theorem wp_eCountD {Q : PyData → Lo → Sg → Prop} (h : Wp a l g fun x l1 g1 => Wp b l1 g1 fun y l2 g2 => Has (countD x y) fun z => Q z l2 g2) : Wp (eCountD a b) l g Q := wp_eOp h
end
end Sm

namespace Sm
open PySem PySem.Spec PyProof.Rows L2 RZ SrtO Dz
local macro_rules | `(tactic| walk_at "tr") => `(tactic| first | rfl | exact decide_eq_true (by omega) | exact decide_eq_false (by omega) | with_reducible assumption | (simp only [Bool.and_eq_true, Bool.and_eq_false_iff, Bool.or_eq_true, Bool.or_eq_false_iff, Bool.not_eq_true', Bool.not_eq_false', decide_eq_true_eq, decide_eq_false_iff_not]; omega) | (simp; done) | with_reducible exact nselfI _)
local macro_rules | `(tactic| walk_at "le") => `(tactic| first | omega | (simp only [List.length_cons, List.length_nil, List.length_append, List.length_map]; omega) | decide)
local macro_rules | `(tactic| walk_at "gt") => `(tactic| first | with_reducible assumption | with_reducible rfl | rfl)
local macro_rules | `(tactic| walk_at "op") => `(tactic| first
  | with_reducible exact plusD_ii | with_reducible exact subD_ii | with_reducible exact addI_ii | with_reducible exact ltD_ii | with_reducible exact leD_ii | with_reducible exact gtD_ii | with_reducible exact geD_ii
  | with_reducible exact eqD_ii | with_reducible exact eqD_ss | with_reducible exact eqD_is | with_reducible exact eqD_si | with_reducible exact eqD_bb | with_reducible exact neD_ii | with_reducible exact neD_ss | with_reducible exact neD_is | with_reducible exact neD_si | with_reducible exact neD_bb
  | with_reducible assumption
  | ((with_reducible apply modD_ev); omega) | ((with_reducible apply fdivD_ev); omega) | ((with_reducible apply mulD_ev); (first | exact Or.inl ⟨by omega, by omega⟩ | exact Or.inr ⟨by omega, by omega⟩))
  | ((with_reducible apply ixD_t0); walk_at "gt") | ((with_reducible apply ixD_l0); walk_at "gt") | ((with_reducible apply ixD_t1); walk_at "gt") | ((with_reducible apply ixD_l1); walk_at "gt")
  | ((with_reducible apply ixD_last); walk_at "gt") | ((with_reducible apply ixD_lastL); walk_at "gt")
  | ((with_reducible apply ixD_tN); walk_at "gt") | ((with_reducible apply ixD_lN); walk_at "gt")
  | ((with_reducible apply ixD_t); omega; walk_at "gt") | ((with_reducible apply ixD_l); omega; walk_at "gt")
  | ((with_reducible apply plusD_l); walk_at "le") | ((with_reducible apply plusD_t); walk_at "le"))
local macro_rules | `(tactic| walk_at "at") => `(tactic| first | with_reducible assumption | ((with_reducible apply atI_z); walk_at "gt") | ((with_reducible apply atI_last); walk_at "gt") | ((with_reducible apply atI_N); walk_at "gt") | ((with_reducible apply atI_i); omega; walk_at "gt") | ((with_reducible apply atI_last); walk_at "gt"))
local macro_rules | `(tactic| walk_at "ki") => `(tactic| first | with_reducible exact k_bb | with_reducible exact k_tt | with_reducible exact k_ss | with_reducible exact k_ii | with_reducible exact k_ib | with_reducible exact k_it | with_reducible exact k_is | with_reducible exact k_tb | with_reducible exact k_sb | with_reducible exact k_st | with_reducible exact k_bi | with_reducible exact k_bt | with_reducible exact k_bs | with_reducible exact k_ti | with_reducible exact k_ts | with_reducible exact k_si | with_reducible exact k_nb | with_reducible exact k_nt | with_reducible exact k_ns | with_reducible exact k_ni | with_reducible exact k_lt | with_reducible exact k_lb | with_reducible exact k_ls | with_reducible exact k_li)
local macro_rules | `(tactic| walk_at "cl") => `(tactic| with_reducible assumption)
local macro_rules | `(tactic| walk_at "bi") => `(tactic| first | with_reducible assumption | rfl)
local macro_rules | `(tactic| walk_at "lc") => `(tactic| with_reducible assumption)
local macro_rules | `(tactic| walk_at "ar") => `(tactic| first | with_reducible exact aNil_ev | ((with_reducible apply aCons_ev); (walk_at "ev"); (walk_at "ar")))
local macro_rules | `(tactic| walk_at "va") => `(tactic| first | with_reducible exact vNil_ev | ((with_reducible apply vCons_ev); ((with_reducible apply vE_ev); (walk_at "ev")); (walk_at "va")) | ((with_reducible apply vCons_ev); ((with_reducible apply vR_ev); rfl); (walk_at "va")))
local macro_rules | `(tactic| walk_at "os") => `(tactic| first | with_reducible exact oNone_ev | ((with_reducible apply oSome_ev); (walk_at "ev")))
local macro_rules | `(tactic| walk_at "ls") => `(tactic| first
  | ((with_reducible apply lLst_ev); (walk_at "ar"); (walk_at "le"))
  | ((with_reducible apply lList_ev); (walk_at "ev"); rfl)
  | ((with_reducible apply lListV_ev); rfl)
  | ((with_reducible apply lListRg_ev); (walk_at "ev"); omega)
  | ((with_reducible apply lListRg2_ev); (walk_at "ev"); (walk_at "ev"); omega; omega)
  | ((with_reducible apply lRep_ev); (walk_at "ar"); (walk_at "ev"); omega; (walk_at "le"))
  | ((with_reducible apply lLc_ev); (walk_at "it"); (walk_at "lc"))
  | ((with_reducible apply lKeys_ev); rfl))
local macro_rules | `(tactic| walk_at "it") => `(tactic| first
  | ((with_reducible apply iSq_ev); (walk_at "ev"); rfl)
  | ((with_reducible apply iRg1_ev); (walk_at "ev"); omega)
  | ((with_reducible apply iRg2_ev); (walk_at "ev"); (walk_at "ev"); omega; omega)
  | ((with_reducible apply iEn_ev); (walk_at "ev"))
  | ((with_reducible apply iZp_T); (walk_at "ev"); (walk_at "ev"))
  | ((with_reducible apply iZp_L); (walk_at "ev"); (walk_at "ev")))
local macro_rules | `(tactic| walk_at "dg") => `(tactic| with_reducible assumption)
local macro_rules | `(tactic| walk_at "dl") => `(tactic| with_reducible exact lDnew_ev)
local macro_rules | `(tactic| walk_at "nt") => `(tactic| first | with_reducible exact uNil_ev | ((with_reducible apply uD_ev); (walk_at "ev"); (walk_at "nt")) | ((with_reducible apply uL_ev); (walk_at "ls"); (walk_at "nt")) | ((with_reducible apply uC_ev); (walk_at "dl"); (walk_at "nt")))
local macro_rules | `(tactic| walk_at "ev") => `(tactic| first
  | ((with_reducible apply eVar_ev); rfl) | with_reducible exact eC_ev
  | ((with_reducible apply eOp_ev); (walk_at "ev"); (walk_at "ev"); (walk_at "op"))
  | ((with_reducible apply eUn_ev); (walk_at "ev"); rfl)
  | ((with_reducible apply eCB_ev); (walk_at "ar"); (walk_at "bi"))
  | ((with_reducible apply eTup_ev); (walk_at "ar"); (walk_at "le"))
  | ((with_reducible apply eL_ev); (walk_at "ls"))
  | ((with_reducible apply eCall_ev); (walk_at "va"); (walk_at "cl"))
  | ((with_reducible apply eCallK_ev); (walk_at "va"); (walk_at "va"); (walk_at "cl"))
  | ((with_reducible apply eCallD_ev); (walk_at "va"); (walk_at "cl"))
  | ((with_reducible apply eIsN_ev); (walk_at "ev"))
  | ((with_reducible apply eNotN_ev); (walk_at "ev"))
  | ((with_reducible apply eIsi_ev); (walk_at "ev"); (walk_at "ki"))
  | ((with_reducible apply eNot_ev); (walk_at "ev"); rfl)
  | ((with_reducible apply eChain_B); (walk_at "ev"); (walk_at "ev"); (walk_at "op"); (walk_at "ev"); (walk_at "op"))
  | ((with_reducible apply eSl_ev); (walk_at "ev"); (walk_at "os"); (walk_at "os"); rfl)
  | ((with_reducible apply eIxV_ev); rfl; (walk_at "ev"); rfl; (walk_at "at"))
  | ((with_reducible apply eLenV_ev); rfl)
  | ((with_reducible apply eTupleV_ev); rfl)
  | ((with_reducible apply eSlV_ev); rfl; (walk_at "os"); (walk_at "os"); rfl)
  | ((with_reducible apply eInV_ev); (walk_at "ev"); rfl; (walk_at "op"))
  | ((with_reducible apply eDget_ev); rfl; (walk_at "ev"); rfl; with_reducible exact keyO_i; (walk_at "dg"))
  | ((with_reducible apply eDin_ev); (walk_at "ev"); rfl; with_reducible exact keyO_i)
  | ((with_reducible apply eDnot_ev); (walk_at "ev"); rfl; with_reducible exact keyO_i)
  | ((with_reducible apply eLenD_ev); rfl)
  | ((with_reducible apply eIf_D); (walk_at "be"); (first | ((with_reducible apply cd_T); (walk_at "tr"); (walk_at "ev")) | ((with_reducible apply cd_F); (walk_at "tr"); (walk_at "ev"))))
  | ((with_reducible apply eAnd_F); (walk_at "ev"); rfl)
  | ((with_reducible apply eAnd_T); (walk_at "ev"); rfl; (walk_at "ev"))
  | ((with_reducible apply eOr_T); (walk_at "ev"); rfl)
  | ((with_reducible apply eOr_F); (walk_at "ev"); rfl; (walk_at "ev"))
  | ((with_reducible apply eAnd_B); (walk_at "ev"); (intro _; walk_at "ev"))
  | ((with_reducible apply eOr_B); (walk_at "ev"); (intro _; walk_at "ev")))
local macro_rules | `(tactic| walk_at "be") => `(tactic| first
  | with_reducible exact bYes_ev
  | ((with_reducible apply bTest_ev); (walk_at "ev"))
  | ((with_reducible apply bTru_ev); (walk_at "ev"); rfl)
  | ((with_reducible apply bTruV_ev); rfl)
  | ((with_reducible apply bTruD_ev); rfl)
  | ((with_reducible apply bNot_ev); (walk_at "be"))
  | ((with_reducible apply bIf_D); (walk_at "be"); (first | ((with_reducible apply cd_T); (walk_at "tr"); (walk_at "be")) | ((with_reducible apply cd_F); (walk_at "tr"); (walk_at "be"))))
  | ((with_reducible apply bAnd_D); (walk_at "be"); (first | ((with_reducible apply cd_T); (walk_at "tr"); (walk_at "be")) | ((with_reducible apply cd_F); (walk_at "tr"); rfl)))
  | ((with_reducible apply bOr_D); (walk_at "be"); (first | ((with_reducible apply cd_T); (walk_at "tr"); rfl) | ((with_reducible apply cd_F); (walk_at "tr"); (walk_at "be"))))
  | ((with_reducible apply bAnd_B); (walk_at "be"); (intro _; walk_at "be"))
  | ((with_reducible apply bOr_B); (walk_at "be"); (intro _; walk_at "be")))
local macro_rules | `(tactic| walk_at "ex") => `(tactic| first
  | with_reducible exact xNext_ev | with_reducible exact xBreak_ev | with_reducible exact xCont_ev
  | ((with_reducible apply xAsg_ev); (walk_at "ev"))
  | ((with_reducible apply xAsgG_ev); (walk_at "ev"); rfl)
  | ((with_reducible apply xAsgL_ev); (walk_at "ls"))
  | ((with_reducible apply xNewL_ev); (walk_at "ls"))
  | ((with_reducible apply xAug_ev); rfl; (walk_at "ev"); (walk_at "op"))
  | ((with_reducible apply xDrop_ev); (walk_at "ev"))
  | ((with_reducible apply xRet_ev); (walk_at "ev"))
  | ((with_reducible apply xApp_ev); rfl; (walk_at "ev"); rfl; (walk_at "le"))
  | ((with_reducible apply xSetI_ev); (walk_at "ev"); rfl; (walk_at "ev"); rfl; exact ixN_in (by walk_at "le"))
  | ((with_reducible apply xPar_ev); (walk_at "ev"); (walk_at "ev"))
  | ((with_reducible apply xParDL_ev); (walk_at "ev"); (walk_at "ls"))
  | ((with_reducible apply xParLD_ev); (walk_at "ls"); (walk_at "ev"))
  | ((with_reducible apply xParLL_ev); (walk_at "ls"); (walk_at "ls"))
  | ((with_reducible apply xPar3_ev); (walk_at "ar"))
  | ((with_reducible apply xDput_ev); (walk_at "ev"); rfl; (walk_at "ev"); rfl; with_reducible exact keyO_i; (walk_at "le"))
  | ((with_reducible apply xDpop_ev); rfl; (walk_at "ev"); rfl; with_reducible exact keyO_i; (walk_at "dg"))
  | ((with_reducible apply xAsgC_ev); (walk_at "dl"))
  | ((with_reducible apply xTup2_ev); (walk_at "nt"))
  | ((with_reducible apply xFrz_O); rfl; (walk_at "ex"))
  | ((with_reducible apply xFrz_D); rfl; (walk_at "ex"))
  | ((with_reducible apply xIf_D); (walk_at "be"); (first | ((with_reducible apply cd_T); (walk_at "tr"); (walk_at "ex")) | ((with_reducible apply cd_F); (walk_at "tr"); (walk_at "ex"))))
  | ((with_reducible apply xSeq_ev); (walk_at "ex"); (walk_at "ex")))
local macro_rules | `(tactic| walk_at "st") => `(tactic| ((first | refine rt_seq (by walk_at "ex") ?_ | refine seq_step (by walk_at "ex") ?_); try simp only [List.set_cons_succ, List.set_cons_zero]))
local macro_rules | `(tactic| walk_at "rt") => `(tactic| refine rt_is (rt_ret (by walk_at "ev")) ?_ ?_)
local macro_rules | `(tactic| walk_at "yes") => `(tactic| (first | refine rt_now (rt_T (by walk_at "be") (by walk_at "tr") ?_) | refine rt_T (by walk_at "be") (by walk_at "tr") ?_))
local macro_rules | `(tactic| walk_at "noo") => `(tactic| (first | refine rt_now (rt_F (by walk_at "be") (by walk_at "tr") ?_) | refine rt_F (by walk_at "be") (by walk_at "tr") ?_))

section
def scM (ns : List Int) : Int := maxI (ns.map (fun i => if i < 0 then -i else i) ++ [0])
def twn (ns : List Int) : Nat → List Int
  | 0 => []
  | n + 1 => scM ns / 65536 ^ (n + 1) :: List.replicate (n + 1) 0
def nI (ns : List Int) : List PyData := ns.map .int
abbrev tw (ns : List Int) (n : Nat) (g : Sg) : Sg := .lst (nI (twn ns n)) :: g
abbrev scr (ns : List Int) : Vl := .dat (.list (nI ns))
def drN (ns : List Int) (n : Nat) : Int :=
  let c : Int := if ns.isEmpty then 0 else (ns[(n + 2) % ns.length]?).getD 0
  let d : Int := (scM ns / 65536 ^ n) % 65536
  let x : Int := (c + 40503 * d + 104729 * ((n + 2 : Nat) : Int)) % 4294967291
  let y : Int := x * x % 4294967279 * 48271 % 4294967291
  let z : Int := y * y % 4294967279 * 69621 % 4294967291
  y / 64 * 67108864 + z / 64
noncomputable def m_l_draw : X :=
  (xSeq (xIf (bNot (bTruV 1))
    (xApp 1 (eCB maxD (aCons (eOp plusD (eL (lLc [3] (iSq (eVar 0)) (gNm 3) bYes (eCB absD (aCons (eVar 3) aNil)))) (eL (lLst (aCons (eC (.int 0)) aNil)))) aNil)))
    xNext)
  (xSeq (xApp 1 (eC (.int 0)))
  (xSeq (xAsg 4 (eLenV 1))
  (xSeq (xAsg 3 (eIf (bTru (eVar 0)) (eOp ixD (eVar 0) (eOp modD (eVar 4) (eCB lenD (aCons (eVar 0) aNil)))) (eC (.int 0))))
  (xSeq (xAsg 5 (eOp modD (eIxV 1 (eC (.int 0))) (eC (.int 65536))))
  (xSeq (xSetI 1 (eC (.int 0)) (eOp fdivD (eIxV 1 (eC (.int 0))) (eC (.int 65536))))
  (xSeq (xAsg 6 (eOp modD (eOp plusD (eOp plusD (eVar 3) (eOp mulD (eC (.int 40503)) (eVar 5))) (eOp mulD (eC (.int 104729)) (eVar 4))) (eC (.int 4294967291))))
  (xSeq (xAsg 6 (eOp modD (eOp mulD (eOp modD (eOp mulD (eVar 6) (eVar 6)) (eC (.int 4294967279))) (eC (.int 48271))) (eC (.int 4294967291))))
  (xSeq (xAsg 7 (eOp modD (eOp mulD (eOp modD (eOp mulD (eVar 6) (eVar 6)) (eC (.int 4294967279))) (eC (.int 69621))) (eC (.int 4294967291))))
  (xRet (eOp modD (eOp plusD (eOp mulD (eOp fdivD (eVar 6) (eC (.int 64))) (eC (.int 67108864))) (eOp fdivD (eVar 7) (eC (.int 64)))) (eVar 2))))))))))))
noncomputable def f_l_draw : FS := fnS 8 (m_l_draw )

theorem nI_len (ns : List Int) : (nI ns).length = ns.length := by simp [nI]
theorem nI_get (ns : List Int) (k : Nat) : (nI ns)[k]? = (ns[k]?).map .int := by simp [nI]
set_option maxHeartbeats 2000000 in
theorem draw_eq (ns : List Int) (n : Nat) (m : Int) (g : Sg) (hn : n < 90000) (hm : 0 < m) (hz : ns.length ≤ 63) : f_l_draw [scr ns, .ref 0, .dat (.int m)] (tw ns n g) = some (.dat (.int (drN ns n % m)), tw ns (n + 1) g) := by
  unfold f_l_draw m_l_draw
  refine fn_ret (l := [scr ns, .ref 0, .dat (.int m), .no, .no, .no, .no, .no]) rfl ?_
  have ab : ∀ g, lcO [3] (gNm 3) bYes (eCB absD (aCons (eVar 3) aNil)) (nI ns) [scr ns, .ref 0, .dat (.int m), .no, .no, .no, .no, .no] g = some (nI (ns.map fun i => if i < 0 then -i else i), [scr ns, .ref 0, .dat (.int m), .no, .no, .no, .no, .no], g) := fun g => by
    unfold nI
    rw [List.map_map]
    exact lcO_map rfl (by omega) fun x _ => by walk_at "ev"
  refine rt_seq (l1 := [scr ns, .ref 0, .dat (.int m), .no, .no, .no, .no, .no]) (g1 := .lst (nI (scM ns / 65536 ^ n :: List.replicate n 0)) :: g) ?_ ?_
  · cases n with
    | zero =>
      have h3 : maxD [.list (nI (ns.map fun i => if i < 0 then -i else i) ++ [.int 0])] = some (.int (scM ns)) := by
        have : nI (ns.map fun i => if i < 0 then -i else i) ++ [.int 0] = ((ns.map fun i => if i < 0 then -i else i) ++ [0]).map PyData.int := by simp [nI]
        rw [this]
        exact maxD_i (by simp)
      have h4 : scM ns / 65536 ^ 0 = scM ns := by simp
      have h5 : (nI (ns.map fun i => if i < 0 then -i else i)).length = ns.length := by simp [nI]
      have h6 : (nI (twn ns 0)).length = 0 := rfl
      have ab := ab (tw ns 0 g)
      rw [h4]
      refine Eq.trans (by walk_at "ex") ?_
      rfl
    | succ n =>
      refine Eq.trans (by walk_at "ex") ?_
      rfl
  clear ab
  have hlen : (nI (scM ns / 65536 ^ n :: List.replicate n 0)).length = n + 1 := by simp [nI]
  have happ : nI (scM ns / 65536 ^ n :: List.replicate n 0) ++ [PyData.int 0] = nI (scM ns / 65536 ^ n :: List.replicate (n + 1) 0) := by simp [nI, List.replicate_succ']
  have hlen2 : (nI (scM ns / 65536 ^ n :: List.replicate (n + 1) 0)).length = n + 2 := by simp [nI]
  walk_at "st"
  show Rt _ [scr ns, .ref 0, .dat (.int m), .no, .no, .no, .no, .no] (.lst (nI (scM ns / 65536 ^ n :: List.replicate n 0) ++ [PyData.int 0]) :: g) _ _
  rw [happ]
  walk_at "st"
  rw [hlen2]
  refine rt_seq (l1 := [scr ns, .ref 0, .dat (.int m), .dat (.int (if ns.isEmpty then 0 else (ns[(n + 2) % ns.length]?).getD 0)), .dat (.int ((n + 2 : Nat) : Int)), .no, .no, .no]) (g1 := .lst (nI (scM ns / 65536 ^ n :: List.replicate (n + 1) 0)) :: g) ?_ ?_
  · cases ns with
    | nil =>
      refine Eq.trans (by walk_at "ex") ?_
      rfl
    | cons x r =>
      have hm2 : (n + 2) % (x :: r).length < (x :: r).length := Nat.mod_lt _ (by simp)
      have e2 : (nI (x :: r))[(n + 2) % (x :: r).length]? = some (.int (((x :: r)[(n + 2) % (x :: r).length]?).getD 0)) := by
        rw [nI_get, List.getElem?_eq_getElem hm2]; rfl
      have e1 : ixD (.list (nI (x :: r))) (.int (((n + 2 : Nat) : Int) % (((nI (x :: r)).length : Nat) : Int))) = some (.int (((x :: r)[(n + 2) % (x :: r).length]?).getD 0)) := by
        rw [nI_len, ← Int.natCast_emod]
        exact ixD_lN e2
      have e3 : 0 < (nI (x :: r)).length := by simp [nI]
      refine Eq.trans (by walk_at "ex") ?_
      rfl
  generalize hc : (if ns.isEmpty then 0 else (ns[(n + 2) % ns.length]?).getD 0) = c
  have ht : tw ns (n + 1) g = .lst (nI (scM ns / 65536 ^ n / 65536 :: List.replicate (n + 1) 0)) :: g := by
    show Ob.lst (nI (scM ns / 65536 ^ (n + 1) :: _)) :: g = _
    rw [Int.pow_succ, Int.ediv_ediv_of_nonneg (Int.le_of_lt (Int.pow_pos (by decide)))]
  rw [ht]
  clear ht hlen happ
  generalize ha : scM ns / 65536 ^ n = a at *
  generalize hv : drN ns n % m = vv
  walk_at "st"
  walk_at "st"
  show Rt _ _ (.lst (nI (a / 65536 :: List.replicate (n + 1) 0)) :: g) _ _
  walk_at "st"
  have hx1 : 0 ≤ (c + 40503 * (a % 65536) + 104729 * ((n + 2 : Nat) : Int)) % 4294967291 := Int.emod_nonneg _ (by decide)
  have hx2 : (c + 40503 * (a % 65536) + 104729 * ((n + 2 : Nat) : Int)) % 4294967291 < 4294967291 := Int.emod_lt_of_pos _ (by decide)
  generalize hx : (c + 40503 * (a % 65536) + 104729 * ((n + 2 : Nat) : Int)) % 4294967291 = x at *
  have y1 : 0 ≤ x * x % 4294967279 := Int.emod_nonneg _ (by decide)
  have y2 : x * x % 4294967279 < 4294967279 := Int.emod_lt_of_pos _ (by decide)
  walk_at "st"
  have hy1 : 0 ≤ x * x % 4294967279 * 48271 % 4294967291 := Int.emod_nonneg _ (by decide)
  have hy2 : x * x % 4294967279 * 48271 % 4294967291 < 4294967291 := Int.emod_lt_of_pos _ (by decide)
  generalize hy : x * x % 4294967279 * 48271 % 4294967291 = y at *
  have z1 : 0 ≤ y * y % 4294967279 := Int.emod_nonneg _ (by decide)
  have z2 : y * y % 4294967279 < 4294967279 := Int.emod_lt_of_pos _ (by decide)
  walk_at "st"
  generalize hz2 : y * y % 4294967279 * 69621 % 4294967291 = z at *
  walk_at "rt"
  · rw [← hv]
    unfold drN
    simp only [hc, ha, hx, hy, hz2]
  · rfl
theorem drN_nat (ns : List Int) (n : Nat) {m : Nat} (h : 0 < m) : ∃ k : Nat, drN ns n % (m : Int) = k ∧ k < m := by
  have h1 := Int.emod_nonneg (drN ns n) (show (m : Int) ≠ 0 by omega)
  have h2 := Int.emod_lt_of_pos (drN ns n) (show (0 : Int) < m by omega)
  exact ⟨(drN ns n % (m : Int)).toNat, by omega, by omega⟩
end
section
inductive Pl where
  | fin (w : Int)
  | mv (s : Int) (ms : List Nat)
def nD (ms : List Nat) : List PyData := ms.map fun m => PyData.int (m : Nat)
def Pl.d : Pl → PyData
  | .fin w => .tuple [.str "end", .int w]
  | .mv s ms => .tuple [.int s, .tuple (nD ms)]
def gD (g : List Pl) : PyData := .tuple (g.map Pl.d)
def PlOk (n : Nat) : Pl → Prop
  | .fin w => -99 ≤ w ∧ w ≤ 99
  | .mv s ms => (s = 0 ∨ s = 1) ∧ ms ≠ [] ∧ ms.Nodup ∧ (∀ m ∈ ms, m < n) ∧ ms.length ≤ 3
def Pl.moves : Pl → List Nat
  | .fin _ => []
  | .mv _ ms => ms
structure Good (g : List Pl) : Prop where
  ok : ∀ (p : Nat) (x : Pl), g[p]? = some x → PlOk g.length x
  len : g.length ≤ 30
structure Straight (g : List Pl) : Prop where
  ex : ∃ rk : Nat → Nat, (∀ (p : Nat) (x : Pl) (m : Nat), g[p]? = some x → m ∈ x.moves → rk m < rk p) ∧ ∀ p, p < g.length → rk p < g.length
theorem PlOk.mono {n m : Nat} (h : n ≤ m) : ∀ {x : Pl}, PlOk n x → PlOk m x
  | .fin _, q => q
  | .mv _ _, q => ⟨q.1, q.2.1, q.2.2.1, fun k hk => Nat.lt_of_lt_of_le (q.2.2.2.1 k hk) h, q.2.2.2.2⟩
theorem nD_len (ns : List Nat) : (nD ns).length = ns.length := List.length_map _
section
variable {es : List Nat} {rs : List Pl} (hes : es.Perm (List.range rs.length))
include hes
end
def Pl.side : Pl → PyData
  | .fin _ => .str "end"
  | .mv s _ => .int s
def Pl.more : Pl → PyData
  | .fin w => .int w
  | .mv _ ms => .tuple (nD ms)
def chI (s : Int) (xs : List Int) : Int := if s = 0 then maxI xs else minI xs
structure Rk (g : List Pl) (rk : Nat → Nat) : Prop where
  dn : ∀ (p : Nat) (x : Pl) (m : Nat), g[p]? = some x → m ∈ x.moves → rk m < rk p
  lt : ∀ p, p < g.length → rk p < g.length
theorem Straight.rk {g : List Pl} (h : Straight g) : ∃ rk, Rk g rk := by
  obtain ⟨rk, h1, h2⟩ := h.ex
  exact ⟨rk, h1, h2⟩
local macro_rules | `(tactic| walk_at "op") => `(tactic| ((with_reducible apply ixD_g); assumption))
local macro_rules | `(tactic| walk_at "bi") => `(tactic| with_reducible exact lenD_g)
local macro_rules | `(tactic| walk_at "bi") => `(tactic| with_reducible exact lenD_n)

end
section
local macro_rules | `(tactic| walk_at "op") => `(tactic| ((with_reducible apply ixD_g); assumption))
local macro_rules | `(tactic| walk_at "bi") => `(tactic| with_reducible exact lenD_g)
local macro_rules | `(tactic| walk_at "bi") => `(tactic| with_reducible exact lenD_n)
section
noncomputable def m_l_pick (F_l_draw : FS) : X :=
  (xRet (eOp ixD (eVar 2) (eCall F_l_draw (vCons (vE (eVar 0)) (vCons (vR 1) (vCons (vE (eCB lenD (aCons (eVar 2) aNil))) vNil))))))
noncomputable def f_l_pick : FS := fnS 3 (m_l_pick f_l_draw)

def pkD (ns : List Int) (n : Nat) (ds : List PyData) : PyData := ds.getD (drN ns n % (ds.length : Int)).toNat .none
theorem pkD_at (ns : List Int) (n : Nat) {ds : List PyData} (h : 0 < ds.length) : ∃ k, k < ds.length ∧ drN ns n % (ds.length : Int) = (k : Nat) ∧ ds[k]? = some (pkD ns n ds) := by
  obtain ⟨k, hk, hl⟩ := drN_nat ns n h
  refine ⟨k, hl, hk, ?_⟩
  unfold pkD
  rw [hk, Int.toNat_natCast, List.getD_eq_getElem?_getD, List.getElem?_eq_getElem hl]
  rfl
theorem pkD_mem (ns : List Int) (n : Nat) {ds : List PyData} (h : 0 < ds.length) : pkD ns n ds ∈ ds := by
  obtain ⟨k, _, _, e⟩ := pkD_at ns n h
  exact List.mem_of_getElem? e
theorem pick_eq (ns : List Int) (n : Nat) (ds : List PyData) (g : Sg) (hn : n < 90000) (hd : 0 < ds.length) (hz : ns.length ≤ 63) : f_l_pick [scr ns, .ref 0, .dat (.list ds)] (tw ns n g) = some (.dat (pkD ns n ds), tw ns (n + 1) g) := by
  unfold f_l_pick m_l_pick
  refine fn_ret (l := [scr ns, .ref 0, .dat (.list ds)]) rfl ?_
  obtain ⟨k, hk, e, hg⟩ := pkD_at ns n hd
  have hdr := draw_eq ns n (ds.length : Int) g hn (by omega) hz
  rw [e] at hdr
  walk_at "rt"
  · rfl
  · rfl
local macro_rules | `(tactic| walk_at "cl") => `(tactic| ((with_reducible apply draw_eq) <;> first | omega | assumption))
local macro_rules | `(tactic| walk_at "cl") => `(tactic| ((with_reducible apply dworth_eq) <;> first | omega | assumption))

end
section
local macro_rules | `(tactic| walk_at "cq") => `(tactic| with_reducible assumption)
local macro_rules | `(tactic| walk_at "le") => `(tactic| first | omega | (simp only [List.length_cons, List.length_nil, List.length_append, List.length_map, List.length_set, List.length_range, nD_len]; omega) | decide)
local macro_rules | `(tactic| walk_at "sr") => `(tactic| ((repeat (with_reducible apply SetR.s)); with_reducible exact SetR.z))
local macro_rules | `(tactic| walk_at "ha") => `(tactic| first | walk_at "op" | with_reducible exact truO_b | with_reducible exact truO_l | with_reducible exact truO_t | with_reducible exact truO_n | with_reducible exact truO_i | walk_at "at" | walk_at "bi" | walk_at "dg" | with_reducible rfl | rfl)
local macro_rules | `(tactic| walk_at "v") => `(tactic| first | with_reducible refine wp_parLD ?_ | with_reducible refine wp_parLL ?_ | with_reducible refine wp_par3 ?_ | with_reducible refine wp_parCL ?_ | with_reducible refine wp_lDone ?_ | ((with_reducible apply wp_lSortK); (rfl)) | with_reducible refine wp_eIndex ?_ | ((with_reducible apply wp_eIndexV); (rfl)) | with_reducible refine wp_eInDV ?_ | with_reducible refine wp_dput ?_ | ((with_reducible apply wp_dpop); (exact ⟨_, rfl⟩)) | with_reducible refine wp_tup2 ?_ | with_reducible refine wp_tup3 ?_ | with_reducible refine wp_tup4 ?_ | with_reducible refine wp_uNil ?_ | with_reducible refine wp_uD ?_ | with_reducible refine wp_uL ?_ | with_reducible refine wp_uC ?_ | with_reducible refine wp_vLam ?_ | ((with_reducible apply wp_vFn); (rfl)) | ((with_reducible apply wp_eCallF); (rfl)) | ((with_reducible apply wp_retD); (rfl)) | with_reducible refine wp_callDg ?_ | with_reducible refine wp_sortBy ?_ | ((with_reducible apply ex_one); (rfl)) | with_reducible refine wp_eChain ?_ | ((with_reducible refine wp_bAnd ?_); (repeat walk_at "v"); walk_at "br") | ((with_reducible refine wp_bOr ?_); (repeat walk_at "v"); walk_at "br") | ((with_reducible refine wp_eAnd ?_); (repeat walk_at "v"); walk_at "br") | ((with_reducible refine wp_eOr ?_); (repeat walk_at "v"); walk_at "br") | with_reducible refine wp_bAndB ?_ | with_reducible refine wp_bOrB ?_ | with_reducible refine wp_eAndB ?_ | with_reducible refine wp_eOrB ?_ | walk_at "xx")
local macro_rules | `(tactic| walk_at "v") => `(tactic| first | with_reducible refine wp_eCallD ?_ | with_reducible refine wp_lList ?_ | with_reducible refine wp_lListRg ?_ | with_reducible refine wp_lListRg2 ?_ | with_reducible refine wp_iEn ?_ | with_reducible refine wp_iEnA ?_ | with_reducible refine wp_kSet ?_ | with_reducible refine wp_kSc ?_ | with_reducible refine wp_sortS ?_ | with_reducible refine wp_lenS ?_ | with_reducible refine wp_lRev ?_ | with_reducible refine wp_lRep ?_ | ((with_reducible apply wp_lListV); (rfl)) | ((with_reducible apply wp_lKeys); (rfl)) | ((with_reducible apply wp_lVals); (rfl)) | with_reducible refine wp_vNewD ?_ | with_reducible refine wp_eMinDef ?_ | with_reducible refine wp_lLc ?_ | with_reducible refine wp_bYes ?_ | ((with_reducible apply wp_bTruV); (rfl)) | ((with_reducible apply wp_bTruD); (rfl)) | with_reducible refine wp_bIf ?_ | with_reducible refine wp_lDnew ?_ | with_reducible refine wp_lDc ?_ | with_reducible refine wp_asgC ?_ | with_reducible refine wp_newL ?_ | with_reducible refine wp_retN ?_ | with_reducible refine wp_drop ?_ | ((with_reducible apply wp_app); (exact ⟨_, rfl⟩)) | with_reducible refine wp_setI ?_ | ((with_reducible apply wp_aug); (rfl)) | ((with_reducible apply wp_frzO); (rfl); (walk_at "sr")) | ((with_reducible apply wp_frzD); (rfl)) | with_reducible refine wp_par ?_ | with_reducible refine wp_parDL ?_)
local macro_rules | `(tactic| walk_at "v") => `(tactic| first | with_reducible refine wp_iSq ?_ | with_reducible refine wp_iRg1 ?_ | with_reducible refine wp_iRg2 ?_ | with_reducible refine wp_keep ?_ | with_reducible refine wp_pre ?_ | with_reducible refine wp_next ?_ | with_reducible refine wp_break ?_ | with_reducible refine wp_cont ?_ | with_reducible refine bodyK_nx ?_ | with_reducible refine bodyK_ct ?_ | with_reducible refine bodyK_bk ?_ | with_reducible refine bodyK_ret ?_ | with_reducible refine seqK_bk ?_ | with_reducible refine seqK_ct ?_ | with_reducible refine retK_nx ?_ | with_reducible refine wp_forNil ?_ | with_reducible refine wp_eIsN ?_ | with_reducible refine wp_eNotN ?_ | with_reducible refine wp_eNot ?_ | ((with_reducible apply wp_eIxV); (rfl)) | ((with_reducible apply wp_eLenV); (rfl)) | ((with_reducible apply wp_eTupleV); (rfl)) | ((with_reducible apply wp_eSlV); (rfl)) | with_reducible refine wp_eSl ?_ | with_reducible refine wp_oNone ?_ | with_reducible refine wp_oSome ?_ | with_reducible refine wp_eInV ?_ | ((with_reducible apply wp_ePopO); (rfl); (walk_at "gt"); (walk_at "sr")) | ((with_reducible apply wp_eDget); (exact ⟨_, rfl⟩)) | ((with_reducible apply wp_eDget2); (exact ⟨_, rfl⟩)) | with_reducible refine wp_eDin ?_ | with_reducible refine wp_eDnot ?_ | ((with_reducible apply wp_eLenD); (rfl)) | with_reducible refine wp_eIsi ?_ | with_reducible refine wp_eCallK ?_)
local macro_rules | `(tactic| walk_at "v") => `(tactic| first | with_reducible refine wp_seq ?_ | ((with_reducible apply wp_eVar); (rfl)) | with_reducible refine wp_eC ?_ | with_reducible refine wp_eOp ?_ | with_reducible refine has_some ?_ | ((with_reducible apply hasG_nm); (walk_at "sr")) | ((with_reducible apply hasG_tp); (rfl); (rfl)) | with_reducible refine hasG_cons ?_ | with_reducible refine hasG_nil ?_ | ((with_reducible apply has_of); (walk_at "ha")) | with_reducible refine wp_eCall ?_ | with_reducible refine wp_vE ?_ | ((with_reducible apply wp_vR); (rfl)) | with_reducible refine wp_vNil ?_ | ((with_reducible apply fok_eq); (walk_at "cq")) | with_reducible refine wp_asg ?_ | with_reducible refine wp_asgG ?_ | with_reducible refine wp_asgL ?_ | with_reducible refine wp_if ?_ | with_reducible refine wp_ret ?_ | with_reducible refine seqK_ret ?_ | with_reducible refine retK_ret ?_ | with_reducible refine wp_bTest ?_ | with_reducible refine wp_bTru ?_ | with_reducible refine wp_bNot ?_ | with_reducible refine wp_eCB ?_ | with_reducible refine wp_aCons ?_ | with_reducible refine wp_aNil ?_ | with_reducible refine wp_eUn ?_ | with_reducible refine wp_eTup ?_ | with_reducible refine wp_eL ?_ | with_reducible refine wp_lLst ?_ | with_reducible refine wp_eIf ?_ | with_reducible refine wp_for ?_ | with_reducible refine wp_iWipe ?_)
local macro_rules | `(tactic| walk_at "nk") => `(tactic| ((repeat walk_at "v"); first | exact ⟨rfl, rfl, rfl⟩ | exact ⟨rfl, rfl, by walk_at "op"⟩))
local macro_rules | `(tactic| walk_at "lt2") => `(tactic| first | omega | exact ⟨by omega, by omega⟩ | (simp only [List.length_cons, List.length_nil, List.length_append, List.length_map, List.length_set, nD_len]; omega))
local macro_rules | `(tactic| walk_at "ky") => `(tactic| first | with_reducible exact keyO_i | with_reducible exact keyO_s | rfl)
local macro_rules | `(tactic| walk_at "xx") => `(tactic| first | with_reducible refine ex_zipT ?_ | with_reducible refine ex_zipL ?_ | ((with_reducible apply ex_chain); (walk_at "op"); (intro _; walk_at "nk")) | ((with_reducible apply ex_and2); (intro _; walk_at "nk")) | ((with_reducible apply ex_and1); (intro _; walk_at "nk")) | ((with_reducible apply ex_ls); (rfl)))
local macro_rules | `(tactic| walk_at "xx") => `(tactic| first | ((with_reducible apply ex_dput); (rfl); (walk_at "ky"); (walk_at "lt2"); (walk_at "sr")) | ((with_reducible apply ex_dpop); (rfl); (walk_at "ky"); (walk_at "gt"); (walk_at "sr")) | ((with_reducible apply ex_par); (walk_at "sr"); (walk_at "sr")) | ((with_reducible apply ex_par3); (walk_at "sr"); (walk_at "sr"); (walk_at "sr")) | ((with_reducible apply ex_tup2); (walk_at "sr"); (walk_at "sr")) | ((with_reducible apply ex_tup3); (walk_at "sr"); (walk_at "sr"); (walk_at "sr")) | ((with_reducible apply ex_tup4); (walk_at "sr"); (walk_at "sr"); (walk_at "sr"); (walk_at "sr")) | ((with_reducible apply ex_kit); (walk_at "ki")))
local macro_rules | `(tactic| walk_at "xx") => `(tactic| first | ((with_reducible apply and_le); (walk_at "le")) | ((with_reducible apply and_bk); (rfl)) | ((with_reducible apply ex_ix); (rfl)) | ((with_reducible apply ex_key); (rfl); (walk_at "ky")) | ((with_reducible apply ex_app); (rfl); (walk_at "le"); (walk_at "sr")) | ((with_reducible apply ex_own); (rfl)) | ((with_reducible apply ex_dct); (rfl)) | ((with_reducible apply ex_setI); (rfl); (walk_at "lt2"); (walk_at "sr")))
local macro_rules | `(tactic| walk_at "xx") => `(tactic| first | ((with_reducible apply ex_set); (walk_at "sr")) | with_reducible refine ex_bool ?_ | with_reducible refine ex_dat ?_ | ((with_reducible apply ex_rng); omega) | ((with_reducible apply ex_rep); omega; (walk_at "le")) | ((with_reducible apply ex_rng2); omega; omega) | with_reducible refine ex_int ?_ | with_reducible refine ex_list ?_)
local macro_rules | `(tactic| walk_at "br") => `(tactic| first | ((with_reducible apply br_T); (walk_at "tr")) | ((with_reducible apply br_F); (walk_at "tr")))
local macro_rules | `(tactic| walk_at "vfn") => `(tactic| refine fok_fn (by (simp only [List.length_cons, List.length_nil, Nat.reduceAdd, Nat.reduceSub, List.replicate_succ, List.replicate_zero, List.cons_append, List.nil_append]; try rfl)) ?_)
local macro_rules | `(tactic| walk_at "vc") => `(tactic| repeat (first | walk_at "v" | with_reducible refine seqK_nx ?_ | walk_at "br" | with_reducible exact ⟨rfl, rfl, rfl⟩ | with_reducible exact ⟨rfl, rfl⟩))
local macro_rules | `(tactic| walk_at "wi") => `(tactic| (simp only [wipeV, List.set_cons_succ, List.set_cons_zero]; try rfl))
local macro_rules | `(tactic| walk_at "vs") => `(tactic| ((try with_reducible refine wp_seq ?_); (repeat (first | walk_at "v" | walk_at "br")); (try with_reducible refine seqK_nx ?_)))

local macro_rules | `(tactic| walk_at "cl") => `(tactic| ((with_reducible apply draw_eq) <;> first | omega | assumption))
local macro_rules | `(tactic| walk_at "cl") => `(tactic| ((with_reducible apply dworth_eq) <;> first | omega | assumption))
section
end
section
def plainN : Nat → PyData → Bool
  | _, .none => true
  | _, .bool _ => true
  | _, .int _ => true
  | _, .str _ => true
  | 0, .tuple _ => false
  | k + 1, .tuple ds => decide (ds.length ≤ 1000) && ds.all (plainN k)
  | _, _ => false
end
section
def mvs (g : List Pl) (p : Nat) : List Nat := ((g[p]?).map Pl.moves).getD []
structure Topo (g : List Pl) (o : List Nat) : Prop where
  perm : o.Perm (List.range g.length)
  dn : ∀ (i p : Nat), o[i]? = some p → ∀ m ∈ mvs g p, m ∈ o.take i
section
variable {β : Type} {kvs : List (Key × β)} {k : Key} {v w : β} {i : Nat}
end
end
section
local macro_rules | `(tactic| walk_at "bi") => `(tactic| first | with_reducible exact lenD_gD _ | with_reducible exact lenD_nD _ | with_reducible exact lenD_nL _ | with_reducible exact gX_at (by assumption))
local macro_rules | `(tactic| walk_at "cq") => `(tactic| ((with_reducible apply moves_of_eq); first | omega | assumption))
end
section
local macro_rules | `(tactic| walk_at "bi") => `(tactic| first | with_reducible exact lenD_gD _ | with_reducible exact lenD_nD _ | with_reducible exact lenD_nL _ | with_reducible exact gX_at (by assumption))
local macro_rules | `(tactic| walk_at "cq") => `(tactic| ((with_reducible apply moves_of_eq); first | omega | assumption))
section
local macro_rules | `(tactic| walk_at "cq") => `(tactic| ((with_reducible apply choice_eq) <;> assumption))
theorem nodup_len {xs : List Nat} {n : Nat} (h : xs.Nodup) (hx : ∀ x ∈ xs, x < n) : xs.length ≤ n := by
  have := h.length_le_of_subset (l₂ := List.range n) fun x hxx => List.mem_range.mpr (hx x hxx)
  rwa [List.length_range] at this
local macro_rules | `(tactic| walk_at "cq") => `(tactic| ((with_reducible apply worths_eq) <;> assumption))
local macro_rules | `(tactic| walk_at "bi") => `(tactic| first | ((with_reducible apply wors_ix); assumption) | ((with_reducible apply wors_ixL); assumption))
end
section
theorem draw_ok {ns : List Int} {n : Nat} {m : Int} {g : Sg} {Q : Vl → Sg → Prop} (hz : ns.length ≤ 63) (hn : n < 90000) (hm : 0 < m) (h : ∀ k : Nat, (k : Int) < m → Q (.dat (.int (k : Int))) (tw ns (n + 1) g)) : FOk f_l_draw [scr ns, .ref 0, .dat (.int m)] (tw ns n g) Q := by
  refine fok_eq (draw_eq ns n m g hn hm hz) ?_
  obtain ⟨k, e, hk⟩ := drN_nat ns n (m := m.toNat) (by omega)
  rw [Int.toNat_of_nonneg (by omega)] at e
  rw [e]
  exact h k (by omega)
theorem pick_ok {ns : List Int} {n : Nat} {ds : List PyData} {g : Sg} {Q : Vl → Sg → Prop} (hz : ns.length ≤ 63) (hn : n < 90000) (hd : ds ≠ []) (h : ∀ d ∈ ds, Q (.dat d) (tw ns (n + 1) g)) : FOk f_l_pick [scr ns, .ref 0, .dat (.list ds)] (tw ns n g) Q :=
  fok_eq (pick_eq ns n ds g hn (List.length_pos_iff.mpr hd) hz) (h _ (pkD_mem ns n (List.length_pos_iff.mpr hd)))
end
section
section
variable {α : Type} {f : α → Int}
theorem srt_tr : ∀ a b c : α, decide (f a ≤ f b) = true → decide (f b ≤ f c) = true → decide (f a ≤ f c) = true := fun a b c h1 h2 => by
  have := of_decide_eq_true h1
  have := of_decide_eq_true h2
  exact decide_eq_true (by omega)
theorem srt_to : ∀ a b : α, (decide (f a ≤ f b) || decide (f b ≤ f a)) = true := fun a b => by
  by_cases h : f a ≤ f b
  · rw [decide_eq_true h]; rfl
  · rw [decide_eq_true (show f b ≤ f a by omega)]; simp
theorem srt_perm (f : α → Int) (xs : List α) : (srt f xs).Perm xs := List.mergeSort_perm _ _
theorem srt_len (f : α → Int) (xs : List α) : (srt f xs).length = xs.length := (srt_perm f xs).length_eq
theorem srt_le (f : α → Int) (xs : List α) : (srt f xs).Pairwise fun a b => f a ≤ f b := (List.pairwise_mergeSort srt_tr srt_to xs).imp fun h => of_decide_eq_true h
end

end
section
local macro_rules | `(tactic| walk_at "cq") => `(tactic| ((with_reducible apply choice_eq) <;> assumption))
local macro_rules | `(tactic| walk_at "cq") => `(tactic| ((with_reducible apply worths_eq) <;> assumption))
local macro_rules | `(tactic| walk_at "bi") => `(tactic| first | ((with_reducible apply wors_ix); assumption) | ((with_reducible apply wors_ixL); assumption))
section
theorem ex_hF {g : Sg} {j k : Nat} {C f : Str} {fs : List (Str × Fv)} {Q : Nat → Prop} (h : g[j]? = some (.ins C fs)) (h2 : fs.lookup f = some (.ref k)) (q : Q k) : ∃ fs k, g[j]? = some (.ins C fs) ∧ fs.lookup f = some (.ref k) ∧ Q k := ⟨fs, k, h, h2, q⟩
theorem ex_fld {g : Sg} {j : Nat} {C f : Str} {fs : List (Str × Fv)} {d : PyData} {Q : PyData → Prop} (h : g[j]? = some (.ins C fs)) (h2 : fs.lookup f = some (.dat d)) (q : Q d) : ∃ fs d, g[j]? = some (.ins C fs) ∧ fs.lookup f = some (.dat d) ∧ Q d := ⟨fs, d, h, h2, q⟩
theorem ex_putf {g : Sg} {j : Nat} {C f : Str} {fs fs' : List (Str × Fv)} {x : Fv} {Q : List (Str × Fv) → Prop} (h : g[j]? = some (.ins C fs)) (hz : fs.length < 900) (h2 : putFv f x fs = fs') (q : Q fs') : ∃ fs fs', g[j]? = some (.ins C fs) ∧ fs.length < 900 ∧ putFv f x fs = fs' ∧ Q fs' := ⟨fs, fs', h, hz, h2, q⟩
theorem ex_meth {g : Sg} {j : Nat} {C m : Str} {fs : List (Str × Fv)} {P : Prop} (h : g[j]? = some (.ins C fs)) (h2 : fs.lookup m = none) (q : P) : ∃ fs, g[j]? = some (.ins C fs) ∧ fs.lookup m = none ∧ P := ⟨fs, h, h2, q⟩
theorem ex_hkey {g : Sg} {j : Nat} {y : PyData} {kvs : List (Key × PyData)} {k : Key} {Q : List (Key × PyData) → Key → Prop} (h : g[j]? = some (.dct kvs)) (h2 : keyO y = some k) (q : Q kvs k) : ∃ kvs k, g[j]? = some (.dct kvs) ∧ keyO y = some k ∧ Q kvs k := ⟨kvs, k, h, h2, q⟩
theorem ex_hget {g : Sg} {j : Nat} {y d : PyData} {kvs : List (Key × PyData)} {k : Key} {Q : PyData → Prop} (h : g[j]? = some (.dct kvs)) (h2 : keyO y = some k) (h3 : valG kvs k = some d) (q : Q d) : ∃ kvs k d, g[j]? = some (.dct kvs) ∧ keyO y = some k ∧ valG kvs k = some d ∧ Q d := ⟨kvs, k, d, h, h2, h3, q⟩
theorem ex_hput {g : Sg} {j n : Nat} {y : PyData} {kvs : List (Key × PyData)} {k : Key} {Q : List (Key × PyData) → Key → Prop} (h : g[j]? = some (.dct kvs)) (h2 : keyO y = some k) (h3 : kvs.length < n) (q : Q kvs k) : ∃ kvs k, g[j]? = some (.dct kvs) ∧ keyO y = some k ∧ kvs.length < n ∧ Q kvs k := ⟨kvs, k, h, h2, h3, q⟩
theorem ex_hdct {g : Sg} {j : Nat} {kvs : List (Key × PyData)} {Q : List (Key × PyData) → Prop} (h : g[j]? = some (.dct kvs)) (q : Q kvs) : ∃ kvs, g[j]? = some (.dct kvs) ∧ Q kvs := ⟨kvs, h, q⟩
local macro_rules | `(tactic| walk_at "ne") => `(tactic| first | with_reducible assumption | with_reducible exact Ne.symm (by assumption) | omega)
local macro_rules | `(tactic| walk_at "gg") => `(tactic| first | with_reducible assumption | ((with_reducible apply gat_self); walk_at "gg") | ((with_reducible apply gat_ne); (walk_at "ne"); walk_at "gg") | with_reducible exact gat_last | ((with_reducible apply gat_app); walk_at "gg"))
local macro_rules | `(tactic| walk_at "lk") => `(tactic| with_reducible assumption)
local macro_rules | `(tactic| walk_at "pf") => `(tactic| with_reducible assumption)
local macro_rules | `(tactic| walk_at "fz") => `(tactic| with_reducible assumption)
local macro_rules | `(tactic| walk_at "xx") => `(tactic| first | ((with_reducible apply ex_hF); (walk_at "gg"); (walk_at "lk")) | ((with_reducible apply ex_fld); (walk_at "gg"); (walk_at "lk")) | ((with_reducible apply ex_meth); (walk_at "gg"); (walk_at "lk")) | ((with_reducible apply ex_putf); (walk_at "gg"); (walk_at "fz"); (walk_at "pf")) | ((with_reducible apply ex_putv); (rfl); (walk_at "gg"); (walk_at "fz"); (walk_at "pf")) | ((with_reducible apply ex_hget); (walk_at "gg"); (walk_at "ky"); (walk_at "dg")) | ((with_reducible apply ex_hput); (walk_at "gg"); (walk_at "ky"); (walk_at "lt2")) | ((with_reducible apply ex_hkey); (walk_at "gg"); (walk_at "ky")) | ((with_reducible apply ex_hdct); (walk_at "gg")) | ((with_reducible apply ex_happ); (walk_at "gg"); (walk_at "lt2")) | ((with_reducible apply ex_hlst); (walk_at "gg")))
local macro_rules | `(tactic| walk_at "v") => `(tactic| first | with_reducible refine wp_asgV ?_ | with_reducible refine wp_parVL ?_ | with_reducible refine wp_parVD ?_ | with_reducible refine wp_parDV ?_ | with_reducible refine wp_parVV ?_ | with_reducible refine wp_eLenO ?_)
local macro_rules | `(tactic| walk_at "v") => `(tactic| first | with_reducible refine wp_eHlenL ?_ | with_reducible refine wp_eHtup ?_ | with_reducible refine wp_lHvals ?_ | with_reducible refine wp_eMeth ?_ | with_reducible refine wp_eMethK ?_ | with_reducible refine wp_vMake ?_ | with_reducible refine wp_vMakeK ?_ | with_reducible refine wp_uV ?_ | with_reducible refine wp_vIf ?_)
local macro_rules | `(tactic| walk_at "v") => `(tactic| first | with_reducible refine wp_xFld2 ?_ | with_reducible refine wp_xFld3 ?_ | with_reducible refine wp_xHput ?_ | with_reducible refine wp_xHapp ?_ | with_reducible refine wp_eHget ?_ | with_reducible refine wp_eHget2 ?_ | with_reducible refine wp_eHinF ?_ | with_reducible refine wp_eHinT ?_ | with_reducible refine wp_eHlenD ?_)
local macro_rules | `(tactic| walk_at "v") => `(tactic| first | ((with_reducible apply wp_hV); (rfl)) | with_reducible refine wp_hF ?_ | with_reducible refine wp_eFld ?_ | with_reducible refine wp_vHc ?_ | with_reducible refine wp_xFld ?_ | with_reducible refine wp_xFldV ?_ | with_reducible refine wp_xFldC ?_ | with_reducible refine wp_xFldL ?_ | with_reducible refine wp_xFAug ?_)
theorem wp_eHinF {l : Lo} {g : Sg} {a : M PyData} {h : M Nat} {Q : PyData → Lo → Sg → Prop} (hh : Wp a l g fun y l1 g1 => Wp h l1 g1 fun j l2 g2 => ∃ kvs k, g2[j]? = some (.dct kvs) ∧ keyO y = some k ∧ Q (.bool (valG kvs k).isSome) l2 g2) : Wp (eHin false a h) l g Q := wp_eHin hh
theorem fok_asM {F : FS} {x : Vl} {xs ds as : List Vl} {g : Sg} {Q : Vl → Sg → Prop} (h : x :: (xs ++ ds) = as) (q : FOk F as g Q) : FOk F (x :: (xs ++ ds)) g Q := by rw [h]; exact q
theorem fok_asA {F : FS} {xs ds as : List Vl} {g : Sg} {Q : Vl → Sg → Prop} (h : gA xs ds = as) (q : FOk F as g Q) : FOk F (gA xs ds) g Q := by rw [h]; exact q
local macro_rules | `(tactic| walk_at "v") => `(tactic| first | ((with_reducible apply fok_asM); (focus (simp only [List.map_nil, List.map_cons, List.append_nil, List.cons_append, List.nil_append]; try rfl))) | ((with_reducible apply fok_asA); (focus (simp only [gA, List.map_nil, List.map_cons, List.append_nil, List.cons_append, List.nil_append]; try rfl))))
structure Tab where
  slots : Int
  keeps : Str
  rows : List (Key × PyData)
  asked : Int
  found : Int
def tabF (sl : Int) (kp : Str) (k : Nat) (a f : Int) : List (Str × Fv) := [("slots", .dat (.int sl)), ("keeps", .dat (.str kp)), ("rows", .ref k), ("asked", .dat (.int a)), ("found", .dat (.int f))]
section
variable {sl a f a' f' : Int} {kp : Str} {k k' : Nat}
theorem tl_slots : (tabF sl kp k a f).lookup ("slots" : Str) = some (Fv.dat (.int sl)) := by rfl
theorem tl_keeps : (tabF sl kp k a f).lookup ("keeps" : Str) = some (Fv.dat (.str kp)) := by rfl
theorem tl_rows : (tabF sl kp k a f).lookup ("rows" : Str) = some (Fv.ref k) := by rfl
theorem tl_asked : (tabF sl kp k a f).lookup ("asked" : Str) = some (Fv.dat (.int a)) := by rfl
theorem tl_found : (tabF sl kp k a f).lookup ("found" : Str) = some (Fv.dat (.int f)) := by rfl
theorem tl_put : (tabF sl kp k a f).lookup ("put" : Str) = none := by rfl
theorem tl_get : (tabF sl kp k a f).lookup ("get" : Str) = none := by rfl
theorem tl_entries : (tabF sl kp k a f).lookup ("entries" : Str) = none := by rfl
theorem tp_asked : putFv "asked" (.dat (.int a')) (tabF sl kp k a f) = tabF sl kp k a' f := by rfl
theorem tp_found : putFv "found" (.dat (.int f')) (tabF sl kp k a f) = tabF sl kp k a f' := by rfl
theorem tz : (tabF sl kp k a f).length < 900 := by show 5 < 900; decide
end

end
section
local macro_rules | `(tactic| walk_at "ne") => `(tactic| first | with_reducible assumption | with_reducible exact Ne.symm (by assumption) | omega)
local macro_rules | `(tactic| walk_at "gg") => `(tactic| first | with_reducible assumption | ((with_reducible apply gat_self); walk_at "gg") | ((with_reducible apply gat_ne); (walk_at "ne"); walk_at "gg") | with_reducible exact gat_last | ((with_reducible apply gat_app); walk_at "gg"))
local macro_rules | `(tactic| walk_at "lk") => `(tactic| with_reducible assumption)
local macro_rules | `(tactic| walk_at "pf") => `(tactic| with_reducible assumption)
local macro_rules | `(tactic| walk_at "fz") => `(tactic| with_reducible assumption)
local macro_rules | `(tactic| walk_at "xx") => `(tactic| first | ((with_reducible apply ex_hF); (walk_at "gg"); (walk_at "lk")) | ((with_reducible apply ex_fld); (walk_at "gg"); (walk_at "lk")) | ((with_reducible apply ex_meth); (walk_at "gg"); (walk_at "lk")) | ((with_reducible apply ex_putf); (walk_at "gg"); (walk_at "fz"); (walk_at "pf")) | ((with_reducible apply ex_putv); (rfl); (walk_at "gg"); (walk_at "fz"); (walk_at "pf")) | ((with_reducible apply ex_hget); (walk_at "gg"); (walk_at "ky"); (walk_at "dg")) | ((with_reducible apply ex_hput); (walk_at "gg"); (walk_at "ky"); (walk_at "lt2")) | ((with_reducible apply ex_hkey); (walk_at "gg"); (walk_at "ky")) | ((with_reducible apply ex_hdct); (walk_at "gg")) | ((with_reducible apply ex_happ); (walk_at "gg"); (walk_at "lt2")) | ((with_reducible apply ex_hlst); (walk_at "gg")))
local macro_rules | `(tactic| walk_at "v") => `(tactic| first | with_reducible refine wp_asgV ?_ | with_reducible refine wp_parVL ?_ | with_reducible refine wp_parVD ?_ | with_reducible refine wp_parDV ?_ | with_reducible refine wp_parVV ?_ | with_reducible refine wp_eLenO ?_)
local macro_rules | `(tactic| walk_at "v") => `(tactic| first | with_reducible refine wp_eHlenL ?_ | with_reducible refine wp_eHtup ?_ | with_reducible refine wp_lHvals ?_ | with_reducible refine wp_eMeth ?_ | with_reducible refine wp_eMethK ?_ | with_reducible refine wp_vMake ?_ | with_reducible refine wp_vMakeK ?_ | with_reducible refine wp_uV ?_ | with_reducible refine wp_vIf ?_)
local macro_rules | `(tactic| walk_at "v") => `(tactic| first | with_reducible refine wp_xFld2 ?_ | with_reducible refine wp_xFld3 ?_ | with_reducible refine wp_xHput ?_ | with_reducible refine wp_xHapp ?_ | with_reducible refine wp_eHget ?_ | with_reducible refine wp_eHget2 ?_ | with_reducible refine wp_eHinF ?_ | with_reducible refine wp_eHinT ?_ | with_reducible refine wp_eHlenD ?_)
local macro_rules | `(tactic| walk_at "v") => `(tactic| first | ((with_reducible apply wp_hV); (rfl)) | with_reducible refine wp_hF ?_ | with_reducible refine wp_eFld ?_ | with_reducible refine wp_vHc ?_ | with_reducible refine wp_xFld ?_ | with_reducible refine wp_xFldV ?_ | with_reducible refine wp_xFldC ?_ | with_reducible refine wp_xFldL ?_ | with_reducible refine wp_xFAug ?_)
local macro_rules | `(tactic| walk_at "v") => `(tactic| first | ((with_reducible apply fok_asM); (focus (simp only [List.map_nil, List.map_cons, List.append_nil, List.cons_append, List.nil_append]; try rfl))) | ((with_reducible apply fok_asA); (focus (simp only [gA, List.map_nil, List.map_cons, List.append_nil, List.cons_append, List.nil_append]; try rfl))))
section
local macro_rules | `(tactic| walk_at "lk") => `(tactic| first | with_reducible exact tl_slots | with_reducible exact tl_keeps | with_reducible exact tl_rows | with_reducible exact tl_asked | with_reducible exact tl_found | with_reducible exact tl_put | with_reducible exact tl_get | with_reducible exact tl_entries | with_reducible exact tl_counts | with_reducible exact tl_clear)
local macro_rules | `(tactic| walk_at "pf") => `(tactic| first | with_reducible exact tp_asked | with_reducible exact tp_found | with_reducible exact tp_rows)
local macro_rules | `(tactic| walk_at "fz") => `(tactic| with_reducible exact tz)
structure Rw where
  p : Int
  lo : Int
  hi : Int
  mv : PyData
  dp : Int
def Rw.d (r : Rw) : PyData := .tuple [.int r.p, .int r.lo, .int r.hi, r.mv, .int r.dp]
def rowsD (rs : List (Int × Rw)) : List (Key × PyData) := rs.map fun q => ((Sum.inl q.1 : Key), q.2.d)
theorem rows_val (rs : List (Int × Rw)) (s : Int) : valG (rowsD rs) (Sum.inl s : Key) = (valG rs s).map Rw.d := by
  unfold valG rowsD
  induction rs with
  | nil => rfl
  | cons q rs ih =>
    rw [List.map_cons, List.find?_cons, List.find?_cons]
    have e : decide ((Sum.inl q.1 : Key) = .inl s) = decide (q.1 = s) := by
      by_cases h : q.1 = s
      · rw [h, decide_eq_true rfl, decide_eq_true rfl]
      · rw [decide_eq_false h, decide_eq_false fun z => h (Sum.inl.inj z)]
    show (match decide ((Sum.inl q.1 : Key) = (Sum.inl s : Key)) with | true => some _ | false => _).map _ = _
    rw [e]
    cases decide (q.1 = s) with
    | true => rfl
    | false => exact ih
theorem rows_put (rs : List (Int × Rw)) (s : Int) (r : Rw) : putG (rowsD rs) (.inl s) r.d = rowsD (putG rs s r) := by
  have e : ∀ q : Int × Rw, decide ((Sum.inl q.1 : Key) = .inl s) = decide (q.1 = s) := fun q => by
    by_cases h : q.1 = s
    · rw [h, decide_eq_true rfl, decide_eq_true rfl]
    · rw [decide_eq_false h, decide_eq_false fun z => h (Sum.inl.inj z)]
  have ea : ((rowsD rs).any fun kv => decide (kv.1 = (Sum.inl s : Key))) = rs.any fun kv => decide (kv.1 = s) := by
    unfold rowsD
    rw [List.any_map]
    exact congrArg (fun f => rs.any f) (funext fun q => e q)
  unfold putG
  rw [ea]
  by_cases h : (rs.any fun kv => decide (kv.1 = s)) = true
  · rw [if_pos h, if_pos h]
    unfold rowsD
    rw [List.map_map, List.map_map]
    refine List.map_congr_left fun q _ => ?_
    show (if (Sum.inl q.1 : Key) = .inl s then _ else _) = _
    by_cases hq : q.1 = s
    · rw [if_pos (by rw [hq])]
      show _ = ((Sum.inl (if q.1 = s then (q.1, r) else q).1 : Key), (if q.1 = s then (q.1, r) else q).2.d)
      rw [if_pos hq]
    · rw [if_neg fun z => hq (Sum.inl.inj z)]
      show _ = ((Sum.inl (if q.1 = s then (q.1, r) else q).1 : Key), (if q.1 = s then (q.1, r) else q).2.d)
      rw [if_neg hq]
  · rw [if_neg h, if_neg h]
    unfold rowsD
    rw [List.map_append]
    rfl
def stnd (kp : Str) (p dp : Int) : Option Rw → Bool
  | none => true
  | some r => decide (r.p = p) || !(decide (kp = "old") || (decide (kp = "deep") && decide (dp < r.dp)))
structure TabK (g : Sg) (j k : Nat) (sl : Int) (kp : Str) (rs : List (Int × Rw)) (a f : Int) : Prop where
  o : g[j]? = some (.ins "Table" (tabF sl kp k a f))
  d : g[k]? = some (.dct (rowsD rs))
theorem TabK.ne {g : Sg} {j k : Nat} {sl : Int} {kp : Str} {rs : List (Int × Rw)} {a f : Int} (h : TabK g j k sl kp rs a f) : j ≠ k := fun z => by
  have := h.o
  rw [z, h.d] at this
  cases this
section
variable {g : Sg} {j k : Nat} {sl : Int} {kp : Str} {rs : List (Int × Rw)} {a f : Int}
noncomputable def m_Table_init_ : X :=
  (xSeq (xFld (hV 0) "Table" "slots" (eVar 1))
  (xSeq (xFld (hV 0) "Table" "keeps" (eVar 2))
  (xSeq (xFldC (hV 0) "Table" "rows" lDnew)
  (xFld2 (hV 0) (hV 0) "Table" "asked" "found" (eC (.int 0))))))
noncomputable def f_Table_init_ : FS := fnS 3 (m_Table_init_ )

noncomputable def m_Table_put : X :=
  (xSeq (xAsg 6 (eOp modD (eVar 1) (eFld (hV 0) "Table" "slots")))
  (xSeq (xIf (bAnd (bTest (eHin false (eVar 6) (hF (hV 0) "Table" "rows"))) (bTest (eOp neD (eOp ixD (eHget (hF (hV 0) "Table" "rows") (eVar 6)) (eC (.int 0))) (eVar 1))))
    (xIf (bOr (bTest (eOp eqD (eFld (hV 0) "Table" "keeps") (eC (.str "old")))) (bAnd (bTest (eOp eqD (eFld (hV 0) "Table" "keeps") (eC (.str "deep")))) (bTest (eOp ltD (eVar 5) (eOp ixD (eHget (hF (hV 0) "Table" "rows") (eVar 6)) (eC (.int 4)))))))
      (xRet (eC (.bool false)))
      xNext)
    xNext)
  (xSeq (xHput (hF (hV 0) "Table" "rows") (eVar 6) (eTup (aCons (eVar 1) (aCons (eVar 2) (aCons (eVar 3) (aCons (eVar 4) (aCons (eVar 5) aNil)))))))
  (xRet (eC (.bool true))))))
noncomputable def f_Table_put : FS := fnS 7 (m_Table_put )

noncomputable def m_Table_get : X :=
  (xSeq (xFAug (hV 0) "Table" "asked" addI (eC (.int 1)))
  (xSeq (xAsg 2 (eHget2 (hF (hV 0) "Table" "rows") (eOp modD (eVar 1) (eFld (hV 0) "Table" "slots")) (eC .none)))
  (xSeq (xIf (bOr (bTest (eIsN (eVar 2))) (bTest (eOp neD (eOp ixD (eVar 2) (eC (.int 0))) (eVar 1))))
    (xRet (eC .none))
    xNext)
  (xSeq (xFAug (hV 0) "Table" "found" addI (eC (.int 1)))
  (xRet (eSl (eVar 2) (oSome (eC (.int 1))) oNone))))))
noncomputable def f_Table_get : FS := fnS 3 (m_Table_get )

noncomputable def m_Table_entries : X :=
  (xRet (eCB tupleD (aCons (eL (lSortBy 1 (aCons (eL (lHvals (hF (hV 0) "Table" "rows"))) aNil) (eOp ixD (eVar 1) (eC (.int 0))))) aNil)))
noncomputable def f_Table_entries : FS := fnS 2 (m_Table_entries )

noncomputable def m_Table_len_ : X :=
  (xRet (eHlenD (hF (hV 0) "Table" "rows")))
noncomputable def f_Table_len_ : FS := fnS 1 (m_Table_len_ )

theorem ix_row (r : Rw) : ixD r.d (.int 0) = some (.int r.p) ∧ ixD r.d (.int 4) = some (.int r.dp) := ⟨rfl, rfl⟩
theorem put_eq (h : TabK g j k sl kp rs a f) (hs : 0 < sl) (hz : rs.length < 1000) (r : Rw) :
    f_Table_put [.ref j, .dat (.int r.p), .dat (.int r.lo), .dat (.int r.hi), .dat r.mv, .dat (.int r.dp)] g =
      some (.dat (.bool (stnd kp r.p r.dp (valG rs (r.p % sl)))), if stnd kp r.p r.dp (valG rs (r.p % sl)) = true then g.set k (.dct (rowsD (putG rs (r.p % sl) r))) else g) := by
  have ho := h.o
  have hd := h.d
  have hne := h.ne
  have hl : (rowsD rs).length < 1000 := by unfold rowsD; rw [List.length_map]; exact hz
  have hv := rows_val rs (r.p % sl)
  have hput := rows_put rs (r.p % sl) r
  unfold f_Table_put m_Table_put
  refine fok_is ?_
  walk_at "vfn"
  cases hq : valG rs (r.p % sl) with
  | none =>
    rw [hq] at hv
    have hi : (valG (rowsD rs) (.inl (r.p % sl))).isSome = false := by rw [hv]; rfl
    walk_at "vc"
    refine ⟨rfl, ?_⟩
    rw [show stnd kp r.p r.dp none = true from rfl, if_pos rfl, ← hput]
    rfl
  | some r0 =>
    rw [hq] at hv
    have hv : valG (rowsD rs) (.inl (r.p % sl)) = some r0.d := hv
    have hi : (valG (rowsD rs) (.inl (r.p % sl))).isSome = true := by rw [hv]; rfl
    have h0 := (ix_row r0).1
    have h4 := (ix_row r0).2
    have fin : ∀ {b : Bool}, stnd kp r.p r.dp (some r0) = b → b = true → (Vl.dat (PyData.bool true) = Vl.dat (PyData.bool (stnd kp r.p r.dp (some r0))) ∧ g.set k (.dct (putG (rowsD rs) (.inl (r.p % sl)) (.tuple [.int r.p, .int r.lo, .int r.hi, r.mv, .int r.dp]))) = if stnd kp r.p r.dp (some r0) = true then g.set k (.dct (rowsD (putG rs (r.p % sl) r))) else g) := by
      intro b h1 h2
      rw [h1, h2, if_pos rfl, ← hput]
      exact ⟨rfl, rfl⟩
    by_cases hp : r0.p = r.p
    · walk_at "vc"
      exact fin (b := true) (by show (decide (r0.p = r.p) || _) = true; rw [decide_eq_true hp]; rfl) rfl
    · have hs0 : stnd kp r.p r.dp (some r0) = !(decide (kp = "old") || (decide (kp = "deep") && decide (r.dp < r0.dp))) := by
        show (decide (r0.p = r.p) || _) = _
        rw [decide_eq_false hp, Bool.false_or]
      cases hk : decide (kp = "old") with
      | true =>
        rw [hk] at hs0
        have hs0 : stnd kp r.p r.dp (some r0) = false := hs0
        rw [hs0]
        walk_at "vc"
      | false =>
        rw [hk, Bool.false_or] at hs0
        cases hk2 : decide (kp = "deep") with
        | false =>
          rw [hk2] at hs0
          walk_at "vc"
          exact fin hs0 rfl
        | true =>
          rw [hk2, Bool.true_and] at hs0
          cases hk3 : decide (r.dp < r0.dp) with
          | true =>
            rw [hk3] at hs0
            have hs0 : stnd kp r.p r.dp (some r0) = false := hs0
            rw [hs0]
            walk_at "vc"
          | false =>
            rw [hk3] at hs0
            walk_at "vc"
            exact fin hs0 rfl
def getR (sl : Int) (rs : List (Int × Rw)) (p : Int) : Option Rw := match valG rs (p % sl) with
  | none => none
  | some r => if r.p = p then some r else none
def Rw.tl (r : Rw) : PyData := .tuple [.int r.lo, .int r.hi, r.mv, .int r.dp]
def getRD : Option Rw → PyData
  | none => .none
  | some r => r.tl
theorem get_eq (h : TabK g j k sl kp rs a f) (hs : 0 < sl) (p : Int) :
    f_Table_get [.ref j, .dat (.int p)] g = some (.dat (getRD (getR sl rs p)), g.set j (.ins "Table" (tabF sl kp k (a + 1) (if (getR sl rs p).isSome = true then f + 1 else f)))) := by
  have ho := h.o
  have hd := h.d
  have hne := h.ne
  have hv := rows_val rs (p % sl)
  unfold f_Table_get m_Table_get
  refine fok_is ?_
  walk_at "vfn"
  cases hq : valG rs (p % sl) with
  | none =>
    rw [hq] at hv
    have hg : getR sl rs p = none := by unfold getR; rw [hq]
    rw [hg]
    walk_at "vs"
    walk_at "vs"
    rw [hv]
    walk_at "vc"
  | some r0 =>
    rw [hq] at hv
    have h0 := (ix_row r0).1
    by_cases hp : r0.p = p
    · have hg : getR sl rs p = some r0 := by unfold getR; rw [hq]; exact if_pos hp
      rw [hg]
      walk_at "vs"
      walk_at "vs"
      rw [hv]
      walk_at "vc"
      refine ⟨rfl, ?_⟩
      rw [List.set_set]
      rfl
    · have hg : getR sl rs p = none := by unfold getR; rw [hq]; exact if_neg hp
      rw [hg]
      walk_at "vs"
      walk_at "vs"
      rw [hv]
      walk_at "vc"
theorem entries_eq (h : TabK g j k sl kp rs a f) (hz : rs.length < 1000) : f_Table_entries [.ref j] g = some (.dat (.tuple ((srt Rw.p (rs.map (·.2))).map Rw.d)), g) := by
  have ho := h.o
  have hd := h.d
  have hne := h.ne
  unfold f_Table_entries m_Table_entries
  refine fok_is ?_
  walk_at "vfn"
  walk_at "vc"
  have e : (rowsD rs).map (·.2) = (rs.map (·.2)).map Rw.d := by unfold rowsD; rw [List.map_map, List.map_map]; rfl
  rw [e]
  refine kyw_int Rw.d Rw.p (l0 := [Vl.ref j, Vl.no]) rfl (fun r hr => ?_) ?_
  · have h0 := (ix_row r).1
    dsimp only [List.set_cons_succ, List.set_cons_zero]
    walk_at "vc"
  · walk_at "vc"
theorem len_eq (h : TabK g j k sl kp rs a f) : f_Table_len_ [.ref j] g = some (.dat (.int (rs.length : Nat)), g) := by
  have ho := h.o
  have hd := h.d
  have hne := h.ne
  unfold f_Table_len_ m_Table_len_
  refine fok_is ?_
  walk_at "vfn"
  walk_at "vc"
  exact ⟨by unfold rowsD; rw [List.length_map], rfl⟩
theorem init_eq {g : Sg} (ho : g[j]? = some (.ins "Table" [])) : f_Table_init_ [.ref j, .dat (.int sl), .dat (.str kp)] g = some (.dat .none, (g ++ [Ob.dct []]).set j (.ins "Table" (tabF sl kp g.length 0 0))) := by
  obtain ⟨s1, e1⟩ : ∃ s1 : List (Str × Fv), s1 = [(("slots" : Str), Fv.dat (.int sl))] := ⟨_, rfl⟩
  obtain ⟨s2, e2⟩ : ∃ s2 : List (Str × Fv), s2 = [(("slots" : Str), Fv.dat (.int sl)), (("keeps" : Str), .dat (.str kp))] := ⟨_, rfl⟩
  obtain ⟨s3, e3⟩ : ∃ s3 : List (Str × Fv), s3 = [(("slots" : Str), Fv.dat (.int sl)), (("keeps" : Str), .dat (.str kp)), (("rows" : Str), .ref g.length)] := ⟨_, rfl⟩
  obtain ⟨s4, e4⟩ : ∃ s4 : List (Str × Fv), s4 = [(("slots" : Str), Fv.dat (.int sl)), (("keeps" : Str), .dat (.str kp)), (("rows" : Str), .ref g.length), (("asked" : Str), .dat (.int 0))] := ⟨_, rfl⟩
  have p1 : putFv "slots" (Fv.dat (.int sl)) [] = s1 := by rw [e1]; rfl
  have p2 : putFv "keeps" (Fv.dat (.str kp)) s1 = s2 := by rw [e1, e2]; rfl
  have hgl : ((g.set j (.ins "Table" s1)).set j (.ins "Table" s2)).length = g.length := by rw [List.length_set, List.length_set]
  have p3 : putFv "rows" (Fv.ref g.length) s2 = s3 := by rw [e2, e3]; rfl
  rw [← hgl] at p3
  have p4 : putFv "asked" (Fv.dat (.int 0)) s3 = s4 := by rw [e3, e4]; rfl
  have p5 : putFv "found" (Fv.dat (.int 0)) s4 = tabF sl kp g.length 0 0 := by rw [e4]; rfl
  have z0 : ([] : List (Str × Fv)).length < 900 := by decide
  have z1 : s1.length < 900 := by rw [e1]; show 1 < 900; decide
  have z2 : s2.length < 900 := by rw [e2]; show 2 < 900; decide
  have z3 : s3.length < 900 := by rw [e3]; show 3 < 900; decide
  have z4 : s4.length < 900 := by rw [e4]; show 4 < 900; decide
  unfold f_Table_init_ m_Table_init_
  refine fok_is ?_
  walk_at "vfn"
  walk_at "vc"
  refine ⟨rfl, ?_⟩
  have hj : j < g.length := (List.getElem?_eq_some_iff.mp ho).1
  simp only [List.set_set, List.set_append, hj, List.length_set, if_true]
end

end
section
theorem TabK.town {ns : List Int} {n m : Nat} {g : Sg} {j k : Nat} {sl : Int} {kp : Str} {rs : List (Int × Rw)} {a f : Int} (h : TabK (tw ns n g) (j + 1) (k + 1) sl kp rs a f) : TabK (tw ns m g) (j + 1) (k + 1) sl kp rs a f := ⟨h.o, h.d⟩
end
section
local macro_rules | `(tactic| walk_at "lk") => `(tactic| first | with_reducible exact tl_slots | with_reducible exact tl_keeps | with_reducible exact tl_rows | with_reducible exact tl_asked | with_reducible exact tl_found | with_reducible exact tl_put | with_reducible exact tl_get | with_reducible exact tl_entries | with_reducible exact tl_counts | with_reducible exact tl_clear)
local macro_rules | `(tactic| walk_at "pf") => `(tactic| first | with_reducible exact tp_asked | with_reducible exact tp_found | with_reducible exact tp_rows)
local macro_rules | `(tactic| walk_at "fz") => `(tactic| with_reducible exact tz)
section
theorem tw11 {ns : List Int} {n : Nat} {g G' : Sg} (h : G'[0]? = (tw ns n g)[0]?) : ∃ g', G' = tw ns n g' := by
  cases G' with
  | nil => unfold tw at h; simp at h
  | cons x r =>
    unfold tw at h ⊢
    rw [List.getElem?_cons_zero, List.getElem?_cons_zero] at h
    cases h
    exact ⟨r, rfl⟩
theorem tw11_at {ns : List Int} {n m : Nat} {g : Sg} : ∀ {i : Nat}, 0 < i → (tw ns m g)[i]? = (tw ns n g)[i]?
  | 0, h => absurd h (Nat.lt_irrefl _)
  | i + 1, _ => rfl
theorem TabK.tw11 {ns : List Int} {n m : Nat} {G : Sg} {j k : Nat} {sl : Int} {kp : Str} {rs : List (Int × Rw)} {a f : Int} (h : TabK (tw ns n G) j k sl kp rs a f) (hj : 0 < j) (hk : 0 < k) : TabK (tw ns m G) j k sl kp rs a f := ⟨(tw11_at hj).trans h.o, (tw11_at hk).trans h.d⟩
structure RI (sl : Int) (rs : List (Int × Rw)) : Prop where
  ok : ∀ q ∈ rs, q.1 = q.2.p % sl ∧ plainN 1 q.2.mv = true
  nd : (rs.map (·.1)).Nodup
theorem RI.nil {sl : Int} : RI sl [] := ⟨fun q hq => (nomatch hq), List.nodup_nil⟩
theorem putG_keys11 {α : Type} (rs : List (Int × α)) (s : Int) (r : α) : (putG rs s r).map (·.1) = if rs.any (fun q => decide (q.1 = s)) = true then rs.map (·.1) else rs.map (·.1) ++ [s] := by
  unfold putG
  split
  · rw [List.map_map]
    refine List.map_congr_left fun q _ => ?_
    show (if q.1 = s then (q.1, r) else q).1 = q.1
    split <;> rfl
  · rw [List.map_append]; rfl
theorem putG_mem11 {α : Type} {rs : List (Int × α)} {s : Int} {r : α} {q : Int × α} (h : q ∈ putG rs s r) : q ∈ rs ∨ q = (s, r) := by
  unfold putG at h
  split at h
  · obtain ⟨x, hx, rfl⟩ := List.mem_map.mp h
    split
    · rename_i e; exact .inr (by rw [← e])
    · exact .inl hx
  · rcases List.mem_append.mp h with h | h
    · exact .inl h
    · exact .inr (List.mem_singleton.mp h)
theorem RI.put {sl : Int} {rs : List (Int × Rw)} (h : RI sl rs) {r : Rw} (hm : plainN 1 r.mv = true) : RI sl (putG rs (r.p % sl) r) := by
  refine ⟨fun q hq => ?_, ?_⟩
  · rcases putG_mem11 hq with hq | rfl
    · exact h.ok q hq
    · exact ⟨rfl, hm⟩
  · rw [putG_keys11]
    split
    · exact h.nd
    · rename_i hn
      rw [List.nodup_append]
      refine ⟨h.nd, by simp, fun x hx y hy e => hn ?_⟩
      rw [List.mem_singleton] at hy
      obtain ⟨q, hq, rfl⟩ := List.mem_map.mp hx
      exact List.any_eq_true.mpr ⟨q, hq, decide_eq_true (e.trans hy)⟩
theorem nodupI_len11 {xs : List Int} {n : Int} (hn : 0 ≤ n) (h : xs.Nodup) (hx : ∀ x ∈ xs, 0 ≤ x ∧ x < n) : (xs.length : Int) ≤ n := by
  have h1 : (xs.map Int.toNat).Nodup := by
    refine List.pairwise_map.mpr (List.Pairwise.imp_of_mem (fun {a b} ha hb hab e => hab ?_) h)
    have := hx a ha
    have := hx b hb
    omega
  have h2 : xs.map Int.toNat ⊆ List.range n.toNat := fun y hy => by
    obtain ⟨x, hx', rfl⟩ := List.mem_map.mp hy
    have := hx x hx'
    exact List.mem_range.mpr (by omega)
  have h3 := nodup_len h1 (n := n.toNat) fun y hy => List.mem_range.mp (h2 hy)
  rw [List.length_map] at h3
  omega
theorem RI.len {sl : Int} {rs : List (Int × Rw)} (hs : 0 < sl) (h : RI sl rs) : (rs.length : Int) ≤ sl := by
  have := nodupI_len11 (n := sl) (by omega) h.nd fun x hx => by
    obtain ⟨q, hq, rfl⟩ := List.mem_map.mp hx
    rw [(h.ok q hq).1]
    exact ⟨Int.emod_nonneg _ (by omega), Int.emod_lt_of_pos _ hs⟩
  rwa [List.length_map] at this
theorem RI.places {sl : Int} {rs : List (Int × Rw)} (h : RI sl rs) : ((rs.map (·.2)).map Rw.p).Nodup := by
  have h2 : (((rs.map (·.2)).map Rw.p).map fun p => p % sl).Nodup := by
    rw [List.map_map, List.map_map]
    have e : rs.map ((fun p => p % sl) ∘ Rw.p ∘ fun x => x.2) = rs.map (·.1) := List.map_congr_left fun x hx => ((h.ok x hx).1).symm
    have e2 : rs.map (((fun p => p % sl) ∘ Rw.p) ∘ fun x => x.2) = rs.map (·.1) := e
    first | rw [e]; exact h.nd | rw [e2]; exact h.nd
  exact (List.pairwise_map.mp h2).imp fun h e => h (by rw [e])
theorem RI.sorted {sl : Int} {rs : List (Int × Rw)} (h : RI sl rs) : sortUD [.list ((rs.map (·.2)).map fun r => .tuple [.int r.p, r.d])] = some (.list ((srt Rw.p (rs.map (·.2))).map fun r => .tuple [.int r.p, r.d])) := by
  have := sortUD_of (ps := (rs.map (·.2)).map fun r => (r.p, r.d)) (qs := (srt Rw.p (rs.map (·.2))).map fun r => (r.p, r.d)) ((srt_perm _ _).map _) (by rw [List.map_map]; exact h.places) (List.pairwise_map.mpr (srt_le Rw.p _))
  simp only [List.map_map] at this ⊢
  exact this
noncomputable def m_l_put : X :=
  (xSeq (xPar 4 5 (eOp ixD (eVar 3) (eC (.int 0))) (eOp ixD (eVar 3) (eC (.int 4))))
  (xSeq (xAsg 6 (eOp subD (eVar 4) (eOp mulD (eOp fdivD (eVar 4) (eVar 1)) (eVar 1))))
  (xSeq (xAsg 7 (eHget2 (hV 0) (eVar 6) (eC .none)))
  (xSeq (xIf (bAnd (bTest (eNotN (eVar 7))) (bAnd (bTest (eOp neD (eOp ixD (eVar 7) (eC (.int 0))) (eVar 4))) (bOr (bTest (eOp eqD (eVar 2) (eC (.str "old")))) (bAnd (bTest (eOp eqD (eVar 2) (eC (.str "deep")))) (bTest (eOp ltD (eVar 5) (eOp ixD (eVar 7) (eC (.int 4)))))))))
    (xRet (eC (.bool false)))
    xNext)
  (xSeq (xHput (hV 0) (eVar 6) (eVar 3))
  (xRet (eC (.bool true))))))))
noncomputable def f_l_put : FS := fnS 8 (m_l_put )

theorem put11 {g : Sg} {j : Nat} {sl : Int} {kp : Str} {rs : List (Int × Rw)} (hd : g[j]? = some (.dct (rowsD rs))) (hs : 0 < sl) (hs2 : sl < 1000) (hz : rs.length < 1000) (r : Rw) :
    f_l_put [.ref j, .dat (.int sl), .dat (.str kp), .dat r.d] g = some (.dat (.bool (stnd kp r.p r.dp (valG rs (r.p % sl)))), if stnd kp r.p r.dp (valG rs (r.p % sl)) = true then g.set j (.dct (rowsD (putG rs (r.p % sl) r))) else g) := by
  have hl : (rowsD rs).length < 1000 := by unfold rowsD; rw [List.length_map]; exact hz
  have hv := rows_val rs (r.p % sl)
  have hput := rows_put rs (r.p % sl) r
  have hr0 := (ix_row r).1
  have hr4 := (ix_row r).2
  have hem : r.p - r.p / sl * sl = r.p % sl := by
    have := Int.emod_add_mul_ediv r.p sl
    rw [Int.mul_comm] at this
    omega
  unfold f_l_put m_l_put
  refine fok_is ?_
  walk_at "vfn"
  walk_at "vs"
  have hfd : fdivD (.int r.p) (.int sl) = some (.int (r.p / sl)) := fdivD_ev (by omega)
  have hmu : mulD (.int (r.p / sl)) (.int sl) = some (.int (r.p / sl * sl)) := mulD_ev (.inr (by omega))
  walk_at "vs"
  rw [hem]
  walk_at "vs"
  rw [hv]
  cases hq : valG rs (r.p % sl) with
  | none =>
    show Wp _ [_, _, _, _, _, _, _, .dat .none] _ _
    walk_at "vc"
    refine ⟨rfl, ?_⟩
    rw [show stnd kp r.p r.dp none = true from rfl, if_pos rfl, ← hput]
  | some r0 =>
    show Wp _ [_, _, _, _, _, _, _, .dat r0.d] _ _
    have h0 := (ix_row r0).1
    have h4 := (ix_row r0).2
    have hn : isN r0.d = false := rfl
    have fin : ∀ {b : Bool}, stnd kp r.p r.dp (some r0) = b → b = true → (Vl.dat (PyData.bool true) = Vl.dat (PyData.bool (stnd kp r.p r.dp (some r0))) ∧ g.set j (.dct (putG (rowsD rs) (.inl (r.p % sl)) r.d)) = if stnd kp r.p r.dp (some r0) = true then g.set j (.dct (rowsD (putG rs (r.p % sl) r))) else g) := by
      intro b h1 h2
      rw [h1, h2, if_pos rfl, ← hput]
      exact ⟨rfl, rfl⟩
    by_cases hp : r0.p = r.p
    · walk_at "vc"
      exact fin (b := true) (by show (decide (r0.p = r.p) || _) = true; rw [decide_eq_true hp]; rfl) rfl
    · have hs0 : stnd kp r.p r.dp (some r0) = !(decide (kp = "old") || (decide (kp = "deep") && decide (r.dp < r0.dp))) := by
        show (decide (r0.p = r.p) || _) = _
        rw [decide_eq_false hp, Bool.false_or]
      cases hk : decide (kp = "old") with
      | true =>
        rw [hk] at hs0
        have hs0 : stnd kp r.p r.dp (some r0) = false := hs0
        rw [hs0]
        walk_at "vc"
      | false =>
        rw [hk, Bool.false_or] at hs0
        cases hk2 : decide (kp = "deep") with
        | false =>
          rw [hk2] at hs0
          walk_at "vc"
          exact fin hs0 rfl
        | true =>
          rw [hk2, Bool.true_and] at hs0
          cases hk3 : decide (r.dp < r0.dp) with
          | true =>
            rw [hk3] at hs0
            have hs0 : stnd kp r.p r.dp (some r0) = false := hs0
            rw [hs0]
            walk_at "vc"
          | false =>
            rw [hk3] at hs0
            walk_at "vc"
            exact fin hs0 rfl
section
variable {g : Sg} {j k : Nat} {sl : Int} {kp : Str} {rs : List (Int × Rw)} {a f : Int}
noncomputable def m_Table_str_ : X :=
  (xRet (eJs (jFmt (eHlenD (hF (hV 0) "Table" "rows")) (jStr " of " (jFmt (eFld (hV 0) "Table" "slots") (jStr ", " (jFmt (eFld (hV 0) "Table" "keeps") jNil)))))))
noncomputable def f_Table_str_ : FS := fnS 1 (m_Table_str_ )

theorem digs11 {i : Int} (h : 0 ≤ i ∧ i ≤ 1000000000) : (Str.ofString (toString i)).length ≤ 20 := by
  obtain ⟨m, rfl⟩ := Int.eq_ofNat_of_zero_le h.1
  have h1 : (Nat.toDigits 10 m).length ≤ 20 := (Nat.length_toDigits_le_iff (by omega) (by omega)).mpr (by omega)
  show (Str.ofString (String.ofList (Nat.toDigits 10 m))).length ≤ 20
  rw [PySem.Str.ofString_eq_toList]
  show (List.toArray ((String.ofList (Nat.toDigits 10 m)).toList.map Char.toNat)).size ≤ 20
  rw [String.toList_ofList, List.size_toArray, List.length_map]
  exact h1
def tabT (n sl : Int) (kp : Str) : Str := (((Str.ofString (toString n) ++ Str.ofString " of ") ++ Str.ofString (toString sl)) ++ Str.ofString ", ") ++ kp
theorem empty_app (x : Str) : Str.empty ++ x = x := PySem.Str.append_left_empty (by rfl)
local macro_rules | `(tactic| walk_at "v") => `(tactic| first | with_reducible refine wp_eJs ?_ | with_reducible refine wp_jNil ?_ | with_reducible refine wp_jFmt ?_ | with_reducible refine wp_jStr ?_)
theorem tstr_eq (h : TabK g j k sl kp rs a f) (hs : 0 < sl) (hs2 : sl < 1000) (hz : rs.length < 1000) (hk : kp.length ≤ 100) : f_Table_str_ [.ref j] g = some (.dat (.str (tabT rs.length sl kp)), g) := by
  have ho := h.o
  have hd := h.d
  have hne := h.ne
  have hl : (rowsD rs).length = rs.length := by unfold rowsD; rw [List.length_map]
  have f1 : fmtD (.int (rs.length : Nat)) = some (Str.ofString (toString (rs.length : Int))) := if_pos ⟨by omega, by omega⟩
  have f2 : fmtD (.int sl) = some (Str.ofString (toString sl)) := if_pos ⟨by omega, by omega⟩
  have f3 : fmtD (.str kp) = some kp := rfl
  have d1 := digs11 (i := (rs.length : Int)) (by omega)
  have d2 := digs11 (i := sl) (by omega)
  unfold f_Table_str_ m_Table_str_
  refine fok_is ?_
  walk_at "vfn"
  walk_at "vc"
  rw [hl]
  refine ⟨_, f1, ?_⟩
  walk_at "vc"
  refine ⟨_, f2, ?_⟩
  walk_at "vc"
  refine ⟨_, f3, ?_⟩
  walk_at "vc"
  have e1 : (Str.ofString " of ").length = 4 := by decide
  have e2 : (Str.ofString ", ").length = 2 := by decide
  refine ⟨?_, ?_⟩
  · show _ + (_ + (_ + (_ + (_ + 0)))) ≤ _
    omega
  refine ⟨?_, rfl⟩
  show Vl.dat (.str (((((Str.empty ++ _) ++ _) ++ _) ++ _) ++ _)) = _
  rw [empty_app]
  rfl
end

end
section
def shN : Nat → PyData → Bool
  | _, .none => true
  | _, .bool _ => true
  | _, .int _ => true
  | _, .str x => PyData.canLay0 (.str x)
  | 0, _ => false
  | k + 1, .tuple ds => ds.all (shN k)
  | k + 1, .list ds => ds.all (shN k)
  | _, _ => false
theorem sh_allL {ds : List PyData} (h : ∀ d ∈ ds, d.canLay0 = true) : PyData.canLayAll0 ds = true := by
  induction ds with
  | nil => simp [PyData.canLayAll0]
  | cons a r ih => simp [PyData.canLayAll0, h a (by simp), ih fun d hd => h d (by simp [hd])]
theorem sh_allD {ds : List PyData} {n : Nat} (h : ∀ d ∈ ds, d.depth ≤ n) : PyData.depthAll ds ≤ n := by
  induction ds with
  | nil => simp [PyData.depthAll]
  | cons a r ih =>
    have h1 := h a (by simp)
    have h2 := ih fun d hd => h d (by simp [hd])
    simp only [PyData.depthAll]
    omega
theorem shN_ok : ∀ (k : Nat) (d : PyData), shN k d = true → d.canLay0 = true ∧ d.depth ≤ k + 1 := by
  intro k
  induction k with
  | zero =>
    intro d h
    cases d <;> first | (exact ⟨rfl, by simp [PyData.depth]⟩) | (simp [shN] at h; done) | exact ⟨h, by simp [PyData.depth]⟩
  | succ k ih =>
    intro d h
    cases d with
    | tuple ds =>
      have h : ds.all (shN k) = true := h
      have hh := fun d hd => ih d (List.all_eq_true.mp h d hd)
      have h2 := sh_allD fun d hd => (hh d hd).2
      exact ⟨by simp only [PyData.canLay0]; exact sh_allL fun d hd => (hh d hd).1, by simp only [PyData.depth]; omega⟩
    | list ds =>
      have h : ds.all (shN k) = true := h
      have hh := fun d hd => ih d (List.all_eq_true.mp h d hd)
      have h2 := sh_allD fun d hd => (hh d hd).2
      exact ⟨by simp only [PyData.canLay0]; exact sh_allL fun d hd => (hh d hd).1, by simp only [PyData.depth]; omega⟩
    | _ => first | (exact ⟨rfl, by simp [PyData.depth]⟩) | (simp [shN] at h; done) | exact ⟨h, by simp [PyData.depth]⟩
theorem sh_shaped {k : Nat} {d : PyData} (h : shN k d = true) (hk : k ≤ 63) : SeqAt.shaped d = true := by
  obtain ⟨h1, h2⟩ := shN_ok k d h
  show (PyData.canLay0 d && decide (PyData.depth d ≤ 64)) = true
  rw [h1, decide_eq_true (by omega)]
  rfl
theorem eqD_self {k : Nat} {d : PyData} (h : shN k d = true) (hk : k ≤ 63) : eqD d d = some (.bool true) := by
  rw [eqD_sh (sh_shaped h hk) (sh_shaped h hk), SeqAt.eqv_refl d (shN_ok k d h).1]
theorem neD_self {k : Nat} {d : PyData} (h : shN k d = true) (hk : k ≤ 63) : neD d d = some (.bool false) := neD_of (eqD_self h hk)
theorem sh_tup {k : Nat} {ds : List PyData} (h : ∀ d ∈ ds, shN k d = true) : shN (k + 1) (.tuple ds) = true := List.all_eq_true.mpr h
theorem sh_lst {k : Nat} {ds : List PyData} (h : ∀ d ∈ ds, shN k d = true) : shN (k + 1) (.list ds) = true := List.all_eq_true.mpr h
theorem sh_int (k : Nat) (i : Int) : shN k (.int i) = true := by cases k <;> rfl
theorem sh_bool (k : Nat) (i : Bool) : shN k (.bool i) = true := by cases k <;> rfl
end
end
end
section
local macro_rules | `(tactic| walk_at "xx") => `(tactic| first | ((with_reducible apply ex_xtA); (rfl)) | ((with_reducible apply ex_asdA); (rfl)))
local macro_rules | `(tactic| walk_at "v") => `(tactic| first | with_reducible refine wp_retV ?_ | ((with_reducible apply wp_vTupXV); (rfl)) | with_reducible refine wp_vTupX ?_ | ((with_reducible apply wp_vVarX); (rfl)) | ((with_reducible apply wp_vVarD); (rfl)) | with_reducible refine wp_vCall ?_ | with_reducible refine wp_eCallX ?_ | ((with_reducible apply wp_eVarX); (rfl)) | with_reducible refine wp_asgV ?_ | ((with_reducible apply wp_eIndexX); (rfl)))
section
variable {α : Type} [DecidableEq α]
structure Enc (enc : α → PyData) : Prop where
  eq : ∀ a b, PyData.eqv (enc a) (enc b) = decide (a = b)
  sh : ∀ a, shN 5 (enc a) = true
variable {enc : α → PyData}
omit [DecidableEq α] in
theorem idxOf_inj [DecidableEq α] {s : List α} {x y : α} (hx : x ∈ s) (e : s.idxOf x = s.idxOf y) : x = y := by
  have h1 := List.idxOf_lt_length_of_mem hx
  have h2 : s.idxOf y < s.length := by rw [← e]; exact h1
  have e1 : s[s.idxOf x]? = some x := by rw [List.getElem?_eq_getElem h1, List.getElem_idxOf h1]
  have e2 : s[s.idxOf y]? = some y := by rw [List.getElem?_eq_getElem h2, List.getElem_idxOf h2]
  rw [e, e2] at e1
  exact (Option.some.inj e1).symm
end
end
section
structure Rq where
  p : Int
  lo : Int
  hi : Int
  m : Bool
  dp : Int
  deriving DecidableEq
def Rq.mv (q : Rq) : PyData := if q.m = true then .int 2 else .none
def Rq.w (q : Rq) : Rw := ⟨q.p, q.lo, q.hi, q.mv, q.dp⟩
def Rq.d (q : Rq) : PyData := q.w.d
theorem eqv_i48 (i j : Int) : PyData.eqv (.int i) (.int j) = decide (i = j) := by
  show (i == j) = _
  by_cases h : i = j
  · subst h; simp
  · simp [h]
theorem eqv_mv (a b : Rq) : PyData.eqv a.mv b.mv = decide (a.m = b.m) := by
  unfold Rq.mv
  cases a.m <;> cases b.m <;> rfl
theorem eqv_c48 (x y : PyData) (a b : List PyData) : PyData.eqv (.tuple (x :: a)) (.tuple (y :: b)) = (PyData.eqv x y && PyData.eqv (.tuple a) (.tuple b)) := rfl
theorem rq_ext {a b : Rq} : a = b ↔ a.p = b.p ∧ a.lo = b.lo ∧ a.hi = b.hi ∧ a.m = b.m ∧ a.dp = b.dp := by
  cases a; cases b; simp
theorem enc_Q : Enc Rq.d where
  eq a b := by
    show PyData.eqv (.tuple [.int a.p, .int a.lo, .int a.hi, a.mv, .int a.dp]) (.tuple [.int b.p, .int b.lo, .int b.hi, b.mv, .int b.dp]) = _
    rw [eqv_c48, eqv_c48, eqv_c48, eqv_c48, eqv_c48, eqv_i48, eqv_i48, eqv_i48, eqv_mv, eqv_i48, show PyData.eqv (.tuple []) (.tuple []) = true from rfl, Bool.and_true, ← Bool.decide_and, ← Bool.decide_and, ← Bool.decide_and, ← Bool.decide_and]
    exact decide_eq_decide.mpr rq_ext.symm
  sh a := by
    refine sh_tup (k := 4) fun d hd => ?_
    simp only [List.mem_cons, List.not_mem_nil, or_false] at hd
    rcases hd with rfl | rfl | rfl | rfl | rfl
    · exact sh_int _ _
    · exact sh_int _ _
    · exact sh_int _ _
    · show shN 4 a.mv = true
      unfold Rq.mv
      split
      · exact sh_int _ _
      · rfl
    · exact sh_int _ _
theorem mv_pl (q : Rq) : plainN 1 q.w.mv = true := by
  show plainN 1 q.mv = true
  unfold Rq.mv
  split <;> rfl
def wR (qs : List (Int × Rq)) : List (Int × Rw) := qs.map fun q => (q.1, q.2.w)
theorem wR_val (qs : List (Int × Rq)) (s : Int) : valG (wR qs) s = (valG qs s).map Rq.w := by
  unfold valG wR
  induction qs with
  | nil => rfl
  | cons q qs ih =>
    rw [List.map_cons, List.find?_cons, List.find?_cons]
    show (match decide (q.1 = s) with | true => some _ | false => _).map _ = _
    cases h : decide (q.1 = s) with
    | true => rfl
    | false => exact ih
theorem wR_put (qs : List (Int × Rq)) (s : Int) (r : Rq) : putG (wR qs) s r.w = wR (putG qs s r) := by
  unfold putG
  have ea : (wR qs).any (fun kv => decide (kv.1 = s)) = qs.any fun kv => decide (kv.1 = s) := by
    unfold wR; rw [List.any_map]; rfl
  rw [ea]
  by_cases h : (qs.any fun kv => decide (kv.1 = s)) = true
  · rw [if_pos h, if_pos h]
    unfold wR
    rw [List.map_map, List.map_map]
    refine List.map_congr_left fun q _ => ?_
    show (if q.1 = s then (q.1, r.w) else (q.1, q.2.w)) = ((if q.1 = s then (q.1, r) else q).1, (if q.1 = s then (q.1, r) else q).2.w)
    by_cases hq : q.1 = s
    · rw [if_pos hq, if_pos hq]
    · rw [if_neg hq, if_neg hq]
  · rw [if_neg h, if_neg h]
    unfold wR
    rw [List.map_append]
    rfl
def entQ (qs : List (Int × Rq)) : List Rq := srt Rq.p (qs.map (·.2))
theorem ent_map (qs : List (Int × Rq)) : (srt Rw.p ((wR qs).map (·.2))).map Rw.d = (entQ qs).map Rq.d := by
  have e : (wR qs).map (·.2) = (qs.map (·.2)).map Rq.w := by unfold wR; rw [List.map_map, List.map_map]; rfl
  rw [e]
  unfold entQ srt
  rw [← List.map_mergeSort (r := fun a b : Rq => decide (a.p ≤ b.p)) (s := fun a b : Rw => decide (a.p ≤ b.p)) (f := Rq.w) fun a _ b _ => rfl, List.map_map]
  rfl
theorem RI.okQ {sl : Int} {qs : List (Int × Rq)} (h : RI sl (wR qs)) {s : Int} {r : Rq} (hm : (s, r) ∈ qs) : s = r.p % sl := (h.ok (s, r.w) (List.mem_map.mpr ⟨_, hm, rfl⟩)).1
theorem RI.ndQ {sl : Int} {qs : List (Int × Rq)} (h : RI sl (wR qs)) : (qs.map (·.1)).Nodup := by
  have := h.nd
  unfold wR at this
  rw [List.map_map] at this
  exact this
def okP (kp : Str) (sl : Int) (qs : List (Int × Rq)) (r : Rq) : Bool := stnd kp r.p r.dp ((valG qs (r.p % sl)).map Rq.w)
def stpQ (kp : Str) (sl : Int) (qs : List (Int × Rq)) (r : Rq) : List (Int × Rq) := if okP kp sl qs r = true then putG qs (r.p % sl) r else qs
theorem RI.stp {kp : Str} {sl : Int} {qs : List (Int × Rq)} (h : RI sl (wR qs)) (r : Rq) : RI sl (wR (stpQ kp sl qs r)) := by
  unfold stpQ
  split
  · rw [← wR_put]; exact h.put (mv_pl r)
  · exact h
end
section
local macro_rules | `(tactic| walk_at "ne") => `(tactic| first | with_reducible assumption | with_reducible exact Ne.symm (by assumption) | omega)
local macro_rules | `(tactic| walk_at "gg") => `(tactic| first | with_reducible assumption | ((with_reducible apply gat_self); walk_at "gg") | ((with_reducible apply gat_ne); (walk_at "ne"); walk_at "gg") | with_reducible exact gat_last | ((with_reducible apply gat_app); walk_at "gg"))
local macro_rules | `(tactic| walk_at "lk") => `(tactic| with_reducible assumption)
local macro_rules | `(tactic| walk_at "pf") => `(tactic| with_reducible assumption)
local macro_rules | `(tactic| walk_at "fz") => `(tactic| with_reducible assumption)
local macro_rules | `(tactic| walk_at "xx") => `(tactic| first | ((with_reducible apply ex_hF); (walk_at "gg"); (walk_at "lk")) | ((with_reducible apply ex_fld); (walk_at "gg"); (walk_at "lk")) | ((with_reducible apply ex_meth); (walk_at "gg"); (walk_at "lk")) | ((with_reducible apply ex_putf); (walk_at "gg"); (walk_at "fz"); (walk_at "pf")) | ((with_reducible apply ex_putv); (rfl); (walk_at "gg"); (walk_at "fz"); (walk_at "pf")) | ((with_reducible apply ex_hget); (walk_at "gg"); (walk_at "ky"); (walk_at "dg")) | ((with_reducible apply ex_hput); (walk_at "gg"); (walk_at "ky"); (walk_at "lt2")) | ((with_reducible apply ex_hkey); (walk_at "gg"); (walk_at "ky")) | ((with_reducible apply ex_hdct); (walk_at "gg")) | ((with_reducible apply ex_happ); (walk_at "gg"); (walk_at "lt2")) | ((with_reducible apply ex_hlst); (walk_at "gg")))
local macro_rules | `(tactic| walk_at "v") => `(tactic| first | with_reducible refine wp_asgV ?_ | with_reducible refine wp_parVL ?_ | with_reducible refine wp_parVD ?_ | with_reducible refine wp_parDV ?_ | with_reducible refine wp_parVV ?_ | with_reducible refine wp_eLenO ?_)
local macro_rules | `(tactic| walk_at "v") => `(tactic| first | with_reducible refine wp_eHlenL ?_ | with_reducible refine wp_eHtup ?_ | with_reducible refine wp_lHvals ?_ | with_reducible refine wp_eMeth ?_ | with_reducible refine wp_eMethK ?_ | with_reducible refine wp_vMake ?_ | with_reducible refine wp_vMakeK ?_ | with_reducible refine wp_uV ?_ | with_reducible refine wp_vIf ?_)
local macro_rules | `(tactic| walk_at "v") => `(tactic| first | with_reducible refine wp_xFld2 ?_ | with_reducible refine wp_xFld3 ?_ | with_reducible refine wp_xHput ?_ | with_reducible refine wp_xHapp ?_ | with_reducible refine wp_eHget ?_ | with_reducible refine wp_eHget2 ?_ | with_reducible refine wp_eHinF ?_ | with_reducible refine wp_eHinT ?_ | with_reducible refine wp_eHlenD ?_)
local macro_rules | `(tactic| walk_at "v") => `(tactic| first | ((with_reducible apply wp_hV); (rfl)) | with_reducible refine wp_hF ?_ | with_reducible refine wp_eFld ?_ | with_reducible refine wp_vHc ?_ | with_reducible refine wp_xFld ?_ | with_reducible refine wp_xFldV ?_ | with_reducible refine wp_xFldC ?_ | with_reducible refine wp_xFldL ?_ | with_reducible refine wp_xFAug ?_)
local macro_rules | `(tactic| walk_at "v") => `(tactic| first | ((with_reducible apply fok_asM); (focus (simp only [List.map_nil, List.map_cons, List.append_nil, List.cons_append, List.nil_append]; try rfl))) | ((with_reducible apply fok_asA); (focus (simp only [gA, List.map_nil, List.map_cons, List.append_nil, List.cons_append, List.nil_append]; try rfl))))
local macro_rules | `(tactic| walk_at "lk") => `(tactic| first | with_reducible exact tl_slots | with_reducible exact tl_keeps | with_reducible exact tl_rows | with_reducible exact tl_asked | with_reducible exact tl_found | with_reducible exact tl_put | with_reducible exact tl_get | with_reducible exact tl_entries | with_reducible exact tl_counts | with_reducible exact tl_clear)
local macro_rules | `(tactic| walk_at "pf") => `(tactic| first | with_reducible exact tp_asked | with_reducible exact tp_found | with_reducible exact tp_rows)
local macro_rules | `(tactic| walk_at "fz") => `(tactic| with_reducible exact tz)
local macro_rules | `(tactic| walk_at "v") => `(tactic| first | with_reducible refine wp_eJs ?_ | with_reducible refine wp_jNil ?_ | with_reducible refine wp_jFmt ?_ | with_reducible refine wp_jStr ?_)
local macro_rules | `(tactic| walk_at "xx") => `(tactic| first | ((with_reducible apply ex_xtA); (rfl)) | ((with_reducible apply ex_asdA); (rfl)))
local macro_rules | `(tactic| walk_at "v") => `(tactic| first | with_reducible refine wp_retV ?_ | ((with_reducible apply wp_vTupXV); (rfl)) | with_reducible refine wp_vTupX ?_ | ((with_reducible apply wp_vVarX); (rfl)) | ((with_reducible apply wp_vVarD); (rfl)) | with_reducible refine wp_vCall ?_ | with_reducible refine wp_eCallX ?_ | ((with_reducible apply wp_eVarX); (rfl)) | with_reducible refine wp_asgV ?_ | ((with_reducible apply wp_eIndexX); (rfl)))
section
section
variable {neg : Bool} {F : FS} {C : Str} {h : M Nat} {v : M Vl} {l : Lo} {g : Sg} {i : Nat}
theorem wp_eOwn {Q : PyData → Lo → Sg → Prop} (hh : Wp h l g fun j l1 g1 => Wp v l1 g1 fun x l2 g2 => ∃ b g3, eqRun F C j x g2 = some (b, g3) ∧ Q (.bool (b != neg)) l2 g3) : Wp (eOwn neg F C h v) l g Q :=
  wp_mb (wp_mono hh fun _ _ _ h1 => wp_mb (wp_mono h1 fun _ l2 _ ⟨b, g3, e, q⟩ => ⟨.bool (b != neg), l2, g3, by exact congrArg (Option.map _) e, q⟩))
theorem wp_eIsO {Q : PyData → Lo → Sg → Prop} (hh : Wp v l g fun x l1 g1 => ∃ b, isoD g1 C x = some b ∧ Q (.bool b) l1 g1) : Wp (eIsO C v) l g Q :=
  wp_mb (wp_mono hh fun _ l1 g1 ⟨b, e, q⟩ => ⟨.bool b, l1, g1, by exact congrArg (Option.map _) e, q⟩)
theorem wp_vAnyR {j : Nat} {Q : Vl → Lo → Sg → Prop} (e : l[i]? = some (.ref j)) (q : Q (.ref j) l g) : Wp (vAny i) l g Q := ⟨_, l, g, mg_ev (by rw [e]), q⟩
theorem wp_vAnyD {d : PyData} {Q : Vl → Lo → Sg → Prop} (e : l[i]? = some (.dat d)) (q : Q (.dat d) l g) : Wp (vAny i) l g Q := ⟨_, l, g, mg_ev (by rw [e]), q⟩
theorem osl_of {b : Bool} {xs : List Ov} (e : l[i]? = some (.os b xs)) : osLst l i b = some xs := by unfold osLst; rw [e]; exact if_pos rfl
theorem wp_eCntO {xs : List Ov} {Q : PyData → Lo → Sg → Prop} (e : l[i]? = some (.os false xs)) (hh : Wp h l g fun j l1 g1 => ∃ n g2, cntO F C j xs 0 g1 = some (n, g2) ∧ Q (.int (n : Nat)) l1 g2) : Wp (eCntO F C i h) l g Q :=
  wp_mb (wp_mg ⟨xs, osl_of e, wp_mb (wp_mono hh fun _ l1 _ ⟨n, g2, e, q⟩ => ⟨.int (n : Nat), l1, g2, by exact congrArg (Option.map _) e, q⟩)⟩)
theorem wp_eIdxO {xs : List Ov} {Q : PyData → Lo → Sg → Prop} (e : l[i]? = some (.os false xs)) (hh : Wp h l g fun j l1 g1 => ∃ n g2, idxO F C j xs 0 g1 = some (n, g2) ∧ Q (.int (n : Nat)) l1 g2) : Wp (eIdxO F C i h) l g Q :=
  wp_mb (wp_mg ⟨xs, osl_of e, wp_mb (wp_mono hh fun _ l1 _ ⟨n, g2, e, q⟩ => ⟨.int (n : Nat), l1, g2, by exact congrArg (Option.map _) e, q⟩)⟩)
theorem wp_iEnO {b : Bool} {xs : List Ov} {Q : List Ov → Lo → Sg → Prop} (e : l[i]? = some (.os b xs)) (hh : ∃ ys, enO 0 xs = some ys ∧ Q ys l g) : Wp (iEnO i) l g Q := by
  obtain ⟨ys, e1, q⟩ := hh
  exact wp_mg ⟨ys, by rw [e]; exact e1, q⟩
theorem wp_oNewD {Q : Ov → Lo → Sg → Prop} (q : Q (.ref g.length) l (g ++ [.dct []])) : Wp oNewD l g Q := ⟨_, l, _, rfl, q⟩
theorem wp_lHitems {Q : List PyData → Lo → Sg → Prop} (hh : Wp h l g fun j l1 g1 => ∃ kvs, g1[j]? = some (.dct kvs) ∧ Q (kvs.map fun p => .tuple [keyD p.1, p.2]) l1 g1) : Wp (lHitems h) l g Q :=
  wp_mb (wp_mono hh fun j l1 g1 ⟨kvs, e, q⟩ => wp_mg ⟨_, by show (dAt g1 j).map _ = _; unfold dAt; rw [e]; rfl, q⟩)
theorem wp_eDstr {prs : List (Str × Str)} {b : M PyData} {Q : PyData → Lo → Sg → Prop} (hh : Wp b l g fun y l1 g1 => Has ((keyO y).bind fun k => valG (strP prs) k) fun z => Q z l1 g1) : Wp (eDstr prs b) l g Q :=
  wp_mb (wp_mono hh fun _ _ _ h => wp_mo h)
end
def Kp14 (k : Str) : Prop := k = "new" ∨ k = "old" ∨ k = "deep"
theorem sh_kp {k : Str} (h : Kp14 k) (n : Nat) : shN n (.str k) = true := by
  have e : PyData.canLay0 (.str k) = true := by
    rcases h with rfl | rfl | rfl <;> decide +kernel
  cases n <;> exact e
theorem eqv_s14 (a b : Str) : PyData.eqv (.str a) (.str b) = decide (a = b) := by
  show (a == b) = _
  by_cases h : a = b
  · subst h; simp
  · simp [h]
theorem eqv_all14 {α : Type} [DecidableEq α] {enc : α → PyData} (he : ∀ a b, PyData.eqv (enc a) (enc b) = decide (a = b)) : ∀ xs ys : List α, PyData.eqvAll (xs.map enc) (ys.map enc) = decide (xs = ys)
  | [], [] => rfl
  | [], _ :: _ => rfl
  | _ :: _, [] => rfl
  | x :: xs, y :: ys => by
    show (PyData.eqv (enc x) (enc y) && PyData.eqvAll (xs.map enc) (ys.map enc)) = _
    rw [he, eqv_all14 he xs ys, ← Bool.decide_and]
    exact decide_eq_decide.mpr List.cons_eq_cons.symm
def itQ (q : Int × Rq) : PyData := .tuple [.int q.1, q.2.d]
def cutQ (q : Int × Rq) : PyData := .tuple [.int q.2.p]
theorem enc_it : ∀ a b, PyData.eqv (itQ a) (itQ b) = decide (a = b) := fun a b => by
  unfold itQ
  rw [eqv_c48, eqv_c48, eqv_i48, enc_Q.eq, show PyData.eqv (.tuple []) (.tuple []) = true from rfl, Bool.and_true, ← Bool.decide_and]
  exact decide_eq_decide.mpr ⟨fun h => Prod.ext h.1 h.2, fun h => by rw [h]; exact ⟨rfl, rfl⟩⟩
def fndQ (qs : List (Int × Rq)) : List (Int × Rq) := srt (·.1) qs
def keyQ (sl : Int) (kp : Str) (qs : List (Int × Rq)) : PyData := .tuple [.tuple [.int sl, .str kp], .list ((fndQ qs).map cutQ), .list ((fndQ qs).map itQ)]
def tabD (sl : Int) (kp : Str) (qs : List (Int × Rq)) : PyData := .tuple [.int sl, .str kp, .tuple ((entQ qs).map Rq.d)]
theorem sh_key {sl : Int} {kp : Str} {qs : List (Int × Rq)} (h : Kp14 kp) : shN 8 (keyQ sl kp qs) = true := by
  refine sh_tup (k := 7) fun d hd => ?_
  simp only [List.mem_cons, List.not_mem_nil, or_false] at hd
  rcases hd with rfl | rfl | rfl
  · exact sh_tup (k := 6) fun d hd => by
      simp only [List.mem_cons, List.not_mem_nil, or_false] at hd
      rcases hd with rfl | rfl
      · exact sh_int _ _
      · exact sh_kp h _
  · exact sh_lst (k := 6) fun d hd => by
      obtain ⟨q, _, rfl⟩ := List.mem_map.mp hd
      exact sh_tup (k := 5) fun d hd => by rw [List.mem_singleton] at hd; subst hd; exact sh_int _ _
  · exact sh_lst (k := 6) fun d hd => by
      obtain ⟨q, _, rfl⟩ := List.mem_map.mp hd
      exact sh_tup (k := 5) fun d hd => by
        simp only [List.mem_cons, List.not_mem_nil, or_false] at hd
        rcases hd with rfl | rfl
        · exact sh_int _ _
        · exact enc_Q.sh _
theorem sh_tab {sl : Int} {kp : Str} {qs : List (Int × Rq)} (h : Kp14 kp) : shN 7 (tabD sl kp qs) = true := by
  refine sh_tup (k := 6) fun d hd => ?_
  simp only [List.mem_cons, List.not_mem_nil, or_false] at hd
  rcases hd with rfl | rfl | rfl
  · exact sh_int _ _
  · exact sh_kp h _
  · exact sh_tup (k := 5) fun d hd => by
      obtain ⟨q, _, rfl⟩ := List.mem_map.mp hd
      exact enc_Q.sh _
theorem eqv_t14 (x y : List PyData) : PyData.eqv (.tuple x) (.tuple y) = PyData.eqvAll x y := rfl
theorem eqv_l14 (x y : List PyData) : PyData.eqv (.list x) (.list y) = PyData.eqvAll x y := rfl
theorem eqv_n14 : PyData.eqv (.tuple []) (.tuple []) = true := rfl
theorem eq_key {s1 s2 : Int} {k1 k2 : Str} {q1 q2 : List (Int × Rq)} (h1 : Kp14 k1) (h2 : Kp14 k2) : eqD (keyQ s1 k1 q1) (keyQ s2 k2 q2) = some (.bool (decide (s1 = s2 ∧ k1 = k2 ∧ fndQ q1 = fndQ q2))) := by
  rw [eqD_sh (sh_shaped (sh_key h1) (by decide)) (sh_shaped (sh_key h2) (by decide))]
  congr 2
  unfold keyQ
  rw [eqv_c48, eqv_c48, eqv_c48, eqv_c48, eqv_c48, eqv_i48, eqv_s14, eqv_n14, eqv_l14, eqv_l14, eqv_all14 enc_it, Bool.and_true, Bool.and_true]
  by_cases hf : fndQ q1 = fndQ q2
  · have : PyData.eqvAll ((fndQ q1).map cutQ) ((fndQ q2).map cutQ) = true := by
      rw [hf]
      generalize fndQ q2 = xs
      induction xs with
      | nil => rfl
      | cons x xs ih =>
        show (PyData.eqv (cutQ x) (cutQ x) && _) = true
        rw [ih, Bool.and_true]
        unfold cutQ
        rw [eqv_c48, eqv_i48, decide_eq_true rfl]
        rfl
    rw [this]
    simp [hf, Bool.decide_and]
  · rw [decide_eq_false hf, Bool.and_false, Bool.and_false]
    exact (decide_eq_false fun z => hf z.2.2).symm
theorem eq_tab {s1 s2 : Int} {k1 k2 : Str} {q1 q2 : List (Int × Rq)} (h1 : Kp14 k1) (h2 : Kp14 k2) : eqD (tabD s1 k1 q1) (tabD s2 k2 q2) = some (.bool (decide (s1 = s2 ∧ k1 = k2 ∧ entQ q1 = entQ q2))) := by
  rw [eqD_sh (sh_shaped (sh_tab h1) (by decide)) (sh_shaped (sh_tab h2) (by decide))]
  congr 2
  unfold tabD
  rw [eqv_c48, eqv_c48, eqv_c48, eqv_i48, eqv_s14, eqv_n14, eqv_t14, eqv_all14 enc_Q.eq, Bool.and_true, ← Bool.decide_and, ← Bool.decide_and]
theorem inj14 {α : Type} (f : α → Int) : ∀ {xs : List α}, (xs.map f).Nodup → ∀ {a b : α}, a ∈ xs → b ∈ xs → f a = f b → a = b
  | x :: xs, h, a, b, ha, hb, e => by
    rw [List.map_cons, List.nodup_cons] at h
    rcases List.mem_cons.mp ha with ha1 | ha1
    · rcases List.mem_cons.mp hb with hb1 | hb1
      · rw [ha1, hb1]
      · exact absurd (List.mem_map.mpr ⟨b, hb1, by rw [← e, ha1]⟩) h.1
    · rcases List.mem_cons.mp hb with hb1 | hb1
      · exact absurd (List.mem_map.mpr ⟨a, ha1, by rw [e, hb1]⟩) h.1
      · exact inj14 f h.2 ha1 hb1 e
theorem srt_uni {α : Type} (f : α → Int) {xs ys : List α} (hn : (xs.map f).Nodup) (h : xs.Perm ys) : srt f xs = srt f ys := by
  have hp : (srt f xs).Perm (srt f ys) := (srt_perm f xs).trans (h.trans (srt_perm f ys).symm)
  have hn2 : ((srt f xs).map f).Nodup := ((srt_perm f xs).map f).nodup_iff.mpr hn
  refine List.Perm.eq_of_pairwise (le := fun a b => f a ≤ f b) (fun a b ha hb h1 h2 => ?_) (srt_le f xs) (srt_le f ys) hp
  have hb' : b ∈ srt f xs := hp.mem_iff.mpr hb
  have e : f a = f b := by omega
  exact inj14 f hn2 ha hb' e
theorem ent_fnd {sl : Int} {q1 q2 : List (Int × Rq)} (h1 : RI sl (wR q1)) (h2 : RI sl (wR q2)) : entQ q1 = entQ q2 ↔ fndQ q1 = fndQ q2 := by
  have e1 : ∀ {q : List (Int × Rq)}, RI sl (wR q) → q = (q.map (·.2)).map fun r => (r.p % sl, r) := fun {q} h => by
    rw [List.map_map]
    conv => lhs; rw [← List.map_id q]
    exact List.map_congr_left fun x hx => Prod.ext (h.okQ (s := x.1) (r := x.2) hx) rfl
  have hpl : ∀ {q : List (Int × Rq)}, RI sl (wR q) → ((q.map (·.2)).map Rq.p).Nodup := fun {q} h => by
    have := h.places
    unfold wR at this
    rw [List.map_map, List.map_map] at this
    rw [List.map_map]
    exact this
  constructor
  · intro e
    have hp : (q1.map (·.2)).Perm (q2.map (·.2)) := (srt_perm Rq.p _).symm.trans ((show srt Rq.p (q1.map (·.2)) = srt Rq.p (q2.map (·.2)) from e) ▸ srt_perm Rq.p _)
    have hq : q1.Perm q2 := by
      have := hp.map fun r : Rq => (r.p % sl, r)
      rwa [← e1 h1, ← e1 h2] at this
    exact srt_uni (fun q : Int × Rq => q.1) h1.ndQ hq
  · intro e
    have hp : q1.Perm q2 := (srt_perm (fun q : Int × Rq => q.1) _).symm.trans ((show srt (fun q : Int × Rq => q.1) q1 = srt (fun q : Int × Rq => q.1) q2 from e) ▸ srt_perm _ _)
    exact srt_uni Rq.p (hpl h1) (hp.map _)
def alkQ (s1 s2 : Int) (k1 k2 : Str) (q1 q2 : List (Int × Rq)) : Bool := decide (s1 = s2 ∧ k1 = k2 ∧ fndQ q1 = fndQ q2)
theorem alkQ_comm (s1 s2 : Int) (k1 k2 : Str) (q1 q2 : List (Int × Rq)) : alkQ s1 s2 k1 k2 q1 q2 = alkQ s2 s1 k2 k1 q2 q1 := decide_eq_decide.mpr ⟨fun ⟨a, b, c⟩ => ⟨a.symm, b.symm, c.symm⟩, fun ⟨a, b, c⟩ => ⟨a.symm, b.symm, c.symm⟩⟩
theorem alkQ_self (s : Int) (k : Str) (q : List (Int × Rq)) : alkQ s s k k q q = true := decide_eq_true ⟨rfl, rfl, rfl⟩
theorem alk_ent {s1 s2 : Int} {k1 k2 : Str} {q1 q2 : List (Int × Rq)} (h1 : RI s1 (wR q1)) (h2 : RI s2 (wR q2)) : decide (s1 = s2 ∧ k1 = k2 ∧ entQ q1 = entQ q2) = alkQ s1 s2 k1 k2 q1 q2 := by
  refine decide_eq_decide.mpr ⟨fun ⟨a, b, c⟩ => ?_, fun ⟨a, b, c⟩ => ?_⟩
  · subst a; exact ⟨rfl, b, (ent_fnd h1 h2).mp c⟩
  · subst a; exact ⟨rfl, b, (ent_fnd h1 h2).mpr c⟩
theorem ex_iso14 {g : Sg} {C : Str} {x : Vl} {b : Bool} {Q : Bool → Prop} (e : isoD g C x = some b) (q : Q b) : ∃ b, isoD g C x = some b ∧ Q b := ⟨b, e, q⟩
theorem ex_run14 {F : FS} {C : Str} {j : Nat} {x : Vl} {g g2 : Sg} {b : Bool} {Q : Bool → Sg → Prop} (e : eqRun F C j x g = some (b, g2)) (q : Q b g2) : ∃ b g3, eqRun F C j x g = some (b, g3) ∧ Q b g3 := ⟨b, g2, e, q⟩
 local macro_rules | `(tactic| walk_at "v") => `(tactic| first | with_reducible refine wp_eIsO ?_ | ((with_reducible apply ex_iso14); (assumption)) | ((with_reducible apply wp_vAnyR); (rfl)) | ((with_reducible apply wp_vAnyD); (rfl)))
noncomputable def m_Table_eq_ (F_Table_entries : FS) : X :=
  (xSeq (xIf (bNot (bTru (eIsO "Table" (vAny 1))))
    (xRet (eC (.bool false)))
    xNext)
  (xRet (eOp eqD (eTup (aCons (eFld (hV 0) "Table" "slots") (aCons (eFld (hV 0) "Table" "keeps") (aCons (eMeth F_Table_entries "Table" "entries" [] (hV 0) vNil) aNil)))) (eTup (aCons (eFld (hV 1) "Table" "slots") (aCons (eFld (hV 1) "Table" "keeps") (aCons (eMeth F_Table_entries "Table" "entries" [] (hV 1) vNil) aNil)))))))
noncomputable def f_Table_eq_ : FS := fnS 2 (m_Table_eq_ f_Table_entries)

section
variable {g : Sg} {j k j2 k2 : Nat} {sl sl2 : Int} {kp kp2 : Str} {qs qs2 : List (Int × Rq)} {a f a2 f2 : Int}
theorem teq_eq (h : TabK g j k sl kp (wR qs) a f) (h2 : TabK g j2 k2 sl2 kp2 (wR qs2) a2 f2) (hk : Kp14 kp) (hk2 : Kp14 kp2) (hR : RI sl (wR qs)) (hR2 : RI sl2 (wR qs2)) (hz : qs.length < 1000) (hz2 : qs2.length < 1000) : f_Table_eq_ [.ref j, .ref j2] g = some (.dat (.bool (alkQ sl sl2 kp kp2 qs qs2)), g) := by
  have ho := h.o
  have ho2 := h2.o
  have he := entries_eq h (by unfold wR; rw [List.length_map]; exact hz)
  have he2 := entries_eq h2 (by unfold wR; rw [List.length_map]; exact hz2)
  rw [ent_map] at he he2
  have hi : isoD g "Table" (.ref j2) = some true := by
    show (if (fsAt g j2 "Table").isSome = true then some true else none) = _
    rw [fsAt_of ho2]; rfl
  have hq := eq_tab (q1 := qs) (q2 := qs2) (s1 := sl) (s2 := sl2) hk hk2
  rw [alk_ent hR hR2] at hq
  unfold tabD at hq
  unfold f_Table_eq_ m_Table_eq_
  refine fok_is ?_
  walk_at "vfn"
  walk_at "vc"
theorem teq_dat (h : TabK g j k sl kp (wR qs) a f) {d : PyData} (hd : isoD g "Table" (.dat d) = some false) : f_Table_eq_ [.ref j, .dat d] g = some (.dat (.bool false), g) := by
  unfold f_Table_eq_ m_Table_eq_
  refine fok_is ?_
  walk_at "vfn"
  walk_at "vc"
end

end
section
def slF (m : Int) (i : Nat) : Int := if i = 2 then m + 1 else m
def kpF (kp ko : Str) (i : Nat) : Str := if i = 3 then ko else kp
theorem slF_pos {m : Int} (h : 0 < m) (h2 : m < 50) (i : Nat) : 0 < slF m i ∧ slF m i < 60 := by
  unfold slF
  split <;> omega
theorem kpF_ok {kp ko : Str} (h : Kp14 kp) (h2 : Kp14 ko) (i : Nat) : Kp14 (kpF kp ko i) := by
  unfold kpF
  split
  · exact h2
  · exact h
theorem kp_len {k : Str} (h : Kp14 k) : k.length ≤ 100 := by
  rcases h with rfl | rfl | rfl <;> decide
structure T4 (g : Sg) (L : Nat) (m : Int) (kp ko : Str) (qs : Nat → List (Int × Rq)) : Prop where
  t : ∀ i, i < 4 → ∃ a f, TabK g (L + 2 * i) (L + 2 * i + 1) (slF m i) (kpF kp ko i) (wR (qs i)) a f
  d : ∀ i, i < 4 → g[L + 8 + i]? = some (.dct (rowsD (wR (qs i))))
  r : ∀ i, i < 4 → RI (slF m i) (wR (qs i))
theorem T4.len {g : Sg} {L : Nat} {m : Int} {kp ko : Str} {qs : Nat → List (Int × Rq)} (h : T4 g L m kp ko qs) (h1 : 0 < m) (h2 : m < 50) {i : Nat} (hi : i < 4) : (qs i).length < 60 := by
  have := (h.r i hi).len (slF_pos h1 h2 i).1
  have h3 := (slF_pos h1 h2 i).2
  unfold wR at this
  rw [List.length_map] at this
  omega
theorem T4.town {ns : List Int} {n n2 : Nat} {G : Sg} {L : Nat} {m : Int} {kp ko : Str} {qs : Nat → List (Int × Rq)} (h : T4 (tw ns n G) L m kp ko qs) (hL : 0 < L) : T4 (tw ns n2 G) L m kp ko qs :=
  ⟨fun i hi => let ⟨a, f, z⟩ := h.t i hi; ⟨a, f, z.tw11 (by omega) (by omega)⟩, fun i hi => (tw11_at (by omega)).trans (h.d i hi), h.r⟩
theorem TabK.fr14 {g g' : Sg} {j k : Nat} {sl : Int} {kp : Str} {rs : List (Int × Rw)} {a f : Int} (h : TabK g j k sl kp rs a f) (h1 : g'[j]? = g[j]?) (h2 : g'[k]? = g[k]?) : TabK g' j k sl kp rs a f := ⟨h1.trans h.o, h2.trans h.d⟩
section
variable {ns : List Int} {n L : Nat} {G : Sg} {m : Int} {kp ko : Str} {qs : Nat → List (Int × Rq)} {i : Nat}
theorem T4.put (h : T4 (tw ns n G) L m kp ko qs) (hL : 0 < L) (h1 : 0 < m) (h2 : m < 50) (hi : i < 4) (r : Rq) : ∃ b G1 G2,
    f_Table_put [.ref (L + 2 * i), .dat (.int r.p), .dat (.int r.lo), .dat (.int r.hi), .dat r.mv, .dat (.int r.dp)] (tw ns n G) = some (.dat (.bool b), tw ns n G1) ∧
    f_l_put [.ref (L + 8 + i), .dat (.int (slF m i)), .dat (.str (kpF kp ko i)), .dat r.d] (tw ns n G1) = some (.dat (.bool b), tw ns n G2) ∧
    T4 (tw ns n G2) L m kp ko (fun k => if k = i then stpQ (kpF kp ko i) (slF m i) (qs i) r else qs k) := by
  obtain ⟨a, f, hT⟩ := h.t i hi
  obtain ⟨hs, hs2⟩ := slF_pos h1 h2 i
  have hl := h.len h1 h2 hi
  have hz : (wR (qs i)).length < 1000 := by unfold wR; rw [List.length_map]; omega
  have e1 := put_eq hT hs hz r.w
  have hd := h.d i hi
  have hbb : stnd (kpF kp ko i) r.w.p r.w.dp (valG (wR (qs i)) (r.w.p % slF m i)) = okP (kpF kp ko i) (slF m i) (qs i) r := by
    unfold okP; rw [wR_val]; rfl
  rw [hbb] at e1
  cases hb : okP (kpF kp ko i) (slF m i) (qs i) r with
  | false =>
    rw [hb, if_neg (by simp)] at e1
    have e2 := put11 (kp := kpF kp ko i) hd hs (by omega) hz r.w
    rw [hbb, hb, if_neg (by simp)] at e2
    refine ⟨false, G, G, e1, e2, ?_⟩
    have : (fun k => if k = i then stpQ (kpF kp ko i) (slF m i) (qs i) r else qs k) = qs := by
      funext k
      by_cases hk : k = i
      · subst hk
        rw [if_pos rfl]
        unfold stpQ
        rw [hb]
        exact if_neg (by simp)
      · rw [if_neg hk]
    rw [this]
    exact h
  | true =>
    rw [hb, if_pos rfl] at e1
    have hst : stpQ (kpF kp ko i) (slF m i) (qs i) r = putG (qs i) (r.p % slF m i) r := by unfold stpQ; rw [hb]; exact if_pos rfl
    have hput := wR_put (qs i) (r.p % slF m i) r
    have e1 : f_Table_put [.ref (L + 2 * i), .dat (.int r.p), .dat (.int r.lo), .dat (.int r.hi), .dat r.mv, .dat (.int r.dp)] (tw ns n G) = some (.dat (.bool true), (tw ns n G).set (L + 2 * i + 1) (.dct (rowsD (putG (wR (qs i)) (r.p % slF m i) r.w)))) := e1
    rw [hput, ← hst] at e1
    obtain ⟨g1, hg1⟩ : ∃ g1 : Sg, g1 = (tw ns n G).set (L + 2 * i + 1) (.dct (rowsD (wR (stpQ (kpF kp ko i) (slF m i) (qs i) r)))) := ⟨_, rfl⟩
    rw [← hg1] at e1
    have f1 : ∀ k, k ≠ L + 2 * i + 1 → g1[k]? = (tw ns n G)[k]? := fun k hk => by rw [hg1]; exact List.getElem?_set_ne (Ne.symm hk)
    have s1 : g1[L + 2 * i + 1]? = some (.dct (rowsD (wR (stpQ (kpF kp ko i) (slF m i) (qs i) r)))) := by rw [hg1]; exact gat_self hT.d
    obtain ⟨G1, rfl⟩ := tw11 (f1 0 (by omega))
    have hd1 : (tw ns n G1)[L + 8 + i]? = some (.dct (rowsD (wR (qs i)))) := (f1 _ (by omega)).trans hd
    have e2 := put11 (kp := kpF kp ko i) hd1 hs (by omega) hz r.w
    rw [hbb, hb, if_pos rfl] at e2
    have e2 : f_l_put [.ref (L + 8 + i), .dat (.int (slF m i)), .dat (.str (kpF kp ko i)), .dat r.d] (tw ns n G1) = some (.dat (.bool true), (tw ns n G1).set (L + 8 + i) (.dct (rowsD (putG (wR (qs i)) (r.p % slF m i) r.w)))) := e2
    rw [hput, ← hst] at e2
    obtain ⟨g2, hg2⟩ : ∃ g2 : Sg, g2 = (tw ns n G1).set (L + 8 + i) (.dct (rowsD (wR (stpQ (kpF kp ko i) (slF m i) (qs i) r)))) := ⟨_, rfl⟩
    rw [← hg2] at e2
    have f2 : ∀ k, k ≠ L + 8 + i → g2[k]? = (tw ns n G1)[k]? := fun k hk => by rw [hg2]; exact List.getElem?_set_ne (Ne.symm hk)
    have s2 : g2[L + 8 + i]? = some (.dct (rowsD (wR (stpQ (kpF kp ko i) (slF m i) (qs i) r)))) := by rw [hg2]; exact gat_self hd1
    obtain ⟨G2, rfl⟩ := tw11 (f2 0 (by omega))
    refine ⟨true, G1, G2, e1, e2, fun k hk => ?_, fun k hk => ?_, fun k hk => ?_⟩
    · by_cases hki : k = i
      · subst hki
        simp only [if_pos]
        exact ⟨a, f, (f2 _ (by omega)).trans ((f1 _ (by omega)).trans hT.o), (f2 _ (by omega)).trans s1⟩
      · simp only [if_neg hki]
        obtain ⟨a', f', hT'⟩ := h.t k hk
        exact ⟨a', f', hT'.fr14 ((f2 _ (by omega)).trans (f1 _ (by omega))) ((f2 _ (by omega)).trans (f1 _ (by omega)))⟩
    · by_cases hki : k = i
      · subst hki
        simp only [if_pos]
        exact s2
      · simp only [if_neg hki]
        exact (f2 _ (by omega)).trans ((f1 _ (by omega)).trans (h.d k hk))
    · by_cases hki : k = i
      · subst hki
        simp only [if_pos]
        exact (h.r k hk).stp r
      · simp only [if_neg hki]
        exact h.r k hk
theorem T4.get (h : T4 (tw ns n G) L m kp ko qs) (hL : 0 < L) (h1 : 0 < m) (h2 : m < 50) (hi : i < 4) (p : Int) : ∃ d G1,
    f_Table_get [.ref (L + 2 * i), .dat (.int p)] (tw ns n G) = some (.dat d, tw ns n G1) ∧ T4 (tw ns n G1) L m kp ko qs := by
  obtain ⟨a, f, hT⟩ := h.t i hi
  obtain ⟨hs, hs2⟩ := slF_pos h1 h2 i
  have e1 := get_eq hT hs p
  obtain ⟨g1, hg1⟩ : ∃ g1 : Sg, g1 = (tw ns n G).set (L + 2 * i) (.ins "Table" (tabF (slF m i) (kpF kp ko i) (L + 2 * i + 1) (a + 1) (if (getR (slF m i) (wR (qs i)) p).isSome = true then f + 1 else f))) := ⟨_, rfl⟩
  rw [← hg1] at e1
  have f1 : ∀ k, k ≠ L + 2 * i → g1[k]? = (tw ns n G)[k]? := fun k hk => by rw [hg1]; exact List.getElem?_set_ne (Ne.symm hk)
  have s1 := gat_self (o := .ins "Table" (tabF (slF m i) (kpF kp ko i) (L + 2 * i + 1) (a + 1) (if (getR (slF m i) (wR (qs i)) p).isSome = true then f + 1 else f))) hT.o
  rw [← hg1] at s1
  obtain ⟨G1, rfl⟩ := tw11 (f1 0 (by omega))
  refine ⟨_, G1, e1, fun k hk => ?_, fun k hk => (f1 _ (by omega)).trans (h.d k hk), h.r⟩
  by_cases hki : k = i
  · subst hki
    exact ⟨_, _, s1, (f1 _ (by omega)).trans hT.d⟩
  · obtain ⟨a', f', hT'⟩ := h.t k hk
    exact ⟨a', f', hT'.fr14 (f1 _ (by omega)) (f1 _ (by omega))⟩
def alk4 (m : Int) (kp ko : Str) (qs : Nat → List (Int × Rq)) (i k : Nat) : Bool := alkQ (slF m i) (slF m k) (kpF kp ko i) (kpF kp ko k) (qs i) (qs k)
theorem T4.run {g : Sg} (h : T4 g L m kp ko qs) (h1 : 0 < m) (h2 : m < 50) (hk : Kp14 kp) (hko : Kp14 ko) {i k : Nat} (hi : i < 4) (hkk : k < 4) : eqRun f_Table_eq_ "Table" (L + 2 * i) (.ref (L + 2 * k)) g = some (alk4 m kp ko qs i k, g) := by
  obtain ⟨a, f, hT⟩ := h.t i hi
  obtain ⟨a2, f2, hT2⟩ := h.t k hkk
  have e := teq_eq hT hT2 (kpF_ok hk hko i) (kpF_ok hk hko k) (h.r i hi) (h.r k hkk) (by have := h.len h1 h2 hi; omega) (by have := h.len h1 h2 hkk; omega)
  unfold eqRun
  have e0 : ((fsAt g (L + 2 * i) "Table").isSome && rtOk g "Table" (.ref (L + 2 * k))) = true := by
    show (_ && (fsAt g (L + 2 * k) "Table").isSome) = true
    rw [fsAt_of hT.o, fsAt_of hT2.o]
    rfl
  rw [if_pos e0, e]
  rfl
theorem T4.run0 {g : Sg} (h : T4 g L m kp ko qs) {i : Nat} (hi : i < 4) {d : PyData} (hd : isoD g "Table" (.dat d) = some false) (hd2 : rtOk g "Table" (.dat d) = true) : eqRun f_Table_eq_ "Table" (L + 2 * i) (.dat d) g = some (false, g) := by
  obtain ⟨a, f, hT⟩ := h.t i hi
  have e := teq_dat hT hd
  unfold eqRun
  have e0 : ((fsAt g (L + 2 * i) "Table").isSome && rtOk g "Table" (.dat d)) = true := by
    rw [fsAt_of hT.o, hd2]
    rfl
  rw [if_pos e0, e]
theorem idx14 {g : Sg} {f : Nat → Bool} {at_ : Nat} (hr : ∀ k, k < 4 → eqRun f_Table_eq_ "Table" (L + 2 * k) (.ref (L + 2 * at_)) g = some (f k, g)) (hat : f at_ = true) : ∀ (ks : List Nat) (c : Nat), (∀ k ∈ ks, k < 4) → at_ ∈ ks → ∃ n, idxO f_Table_eq_ "Table" (L + 2 * at_) (ks.map fun k => .ref (L + 2 * k)) c g = some (n, g) ∧ firstIx (.bool true) c (ks.map fun k => .bool (f k)) = some n
  | [], c, _, h => nomatch h
  | k :: ks, c, hk, ha => by
    have ev : PyData.eqv (.bool (f k)) (.bool true) = f k := by show (f k == true) = f k; cases f k <;> rfl
    rw [List.map_cons, List.map_cons]
    unfold idxO firstIx
    rw [ev]
    by_cases hka : k = at_
    · subst hka
      rw [if_pos rfl, hat, if_pos rfl]
      exact ⟨c, rfl, rfl⟩
    · rw [if_neg (by omega), hr k (hk k List.mem_cons_self)]
      show ∃ n, (if f k = true then some (c, g) else idxO f_Table_eq_ "Table" (L + 2 * at_) (ks.map _) (c + 1) g) = _ ∧ _
      cases hf : f k with
      | true => exact ⟨c, if_pos rfl, if_pos rfl⟩
      | false =>
        obtain ⟨n, h1, h2⟩ := idx14 hr hat ks (c + 1) (fun k hkm => hk k (List.mem_cons_of_mem _ hkm)) ((List.mem_cons.mp ha).resolve_left (Ne.symm hka))
        exact ⟨n, (if_neg (by simp)).trans h1, (if_neg (by simp)).trans h2⟩
theorem cnt14 {g : Sg} {f : Nat → Bool} {at_ : Nat} (hr : ∀ k, k < 4 → eqRun f_Table_eq_ "Table" (L + 2 * k) (.ref (L + 2 * at_)) g = some (f k, g)) (hat : f at_ = true) : ∀ (ks : List Nat) (c : Nat), (∀ k ∈ ks, k < 4) → cntO f_Table_eq_ "Table" (L + 2 * at_) (ks.map fun k => .ref (L + 2 * k)) c g = some (c + ((ks.map fun k => PyData.bool (f k)).countP fun z => PyData.eqv z (.bool true)), g)
  | [], c, _ => rfl
  | k :: ks, c, hk => by
    have ev : PyData.eqv (.bool (f k)) (.bool true) = f k := by show (f k == true) = f k; cases f k <;> rfl
    have ih := fun c => cnt14 hr hat ks c (fun k hkm => hk k (List.mem_cons_of_mem _ hkm))
    rw [List.map_cons, List.map_cons, List.countP_cons]
    unfold cntO
    rw [ev]
    by_cases hka : k = at_
    · subst hka
      rw [if_pos rfl, hat, if_pos rfl, ih]
      congr 2
      omega
    · rw [if_neg (by omega), hr k (hk k List.mem_cons_self)]
      show cntO f_Table_eq_ "Table" (L + 2 * at_) (ks.map _) (if f k = true then c + 1 else c) g = _
      rw [ih]
      congr 2
      cases f k <;> simp <;> omega
end
theorem sortU14 {sl : Int} {qs : List (Int × Rq)} (h : RI sl (wR qs)) : sortUD [.list ((rowsD (wR qs)).map fun p => .tuple [keyD p.1, p.2])] = some (.list ((fndQ qs).map itQ)) := by
  have e : (rowsD (wR qs)).map (fun p => PyData.tuple [keyD p.1, p.2]) = (qs.map fun q => (q.1, q.2.d)).map prU := by
    unfold rowsD wR
    rw [List.map_map, List.map_map, List.map_map]
    rfl
  have e2 : (fndQ qs).map itQ = ((fndQ qs).map fun q => (q.1, q.2.d)).map prU := by rw [List.map_map]; rfl
  rw [e, e2]
  refine sortUD_of (((srt_perm _ _)).map _) ?_ ?_
  · rw [List.map_map]
    exact h.ndQ
  · exact List.pairwise_map.mpr (srt_le (fun q : Int × Rq => q.1) qs)

end
section
theorem wp_hIx14 {l : Lo} {g : Sg} {i v n : Nat} {k : Int} {c : Bool} {xs : List Ov} {Q : Nat → Lo → Sg → Prop} (e : l[i]? = some (.os c xs)) (ev : l[v]? = some (.dat (.int k))) (ho : osIx xs k = some n) (q : Q n l g) : Wp (hIx i (eVar v)) l g Q :=
  wp_hIx e (wp_eVar ev ⟨e, k, n, rfl, ho, q⟩)
theorem wp_mono14 {m : X} {l : Lo} {g : Sg} {P Q : Out → Lo → Sg → Prop} (h : Wp m l g P) (q : ∀ o l g, P o l g → Q o l g) : Wp m l g Q := wp_mono h fun o l g z => q o l g z
theorem ex_dct14 {g : Sg} {j : Nat} {kvs : List (Key × PyData)} {Q : List (Key × PyData) → Prop} (e : g[j]? = some (.dct kvs)) (q : Q kvs) : ∃ kvs, g[j]? = some (.dct kvs) ∧ Q kvs := ⟨kvs, e, q⟩
theorem lcg_map14 {vs : List Nat} {tg : Ov → Lo → Option Lo} {e : M PyData} {l l0 : Lo} {g : Sg} {Q : List PyData → Lo → Sg → Prop} (h : Nat → Ov) (f : Nat → PyData) (hw : wipeV l vs = l0) : ∀ {ks : List Nat}, (∀ k ∈ ks, Has (tg (h k) l0) fun l1 => backV l l1 vs = l ∧ Wp e l1 g fun y l3 g3 => y = f k ∧ l3 = l1 ∧ g3 = g) → Q (ks.map f) l g → Wp (lcG vs tg bYes e (ks.map h)) l g Q
  | [], _, q => wp_lcGN q
  | k :: ks, he, q => by
    obtain ⟨l1, e1, e2, y, l3, g3, e3, rfl, rfl, rfl⟩ := he k List.mem_cons_self
    rw [List.map_cons]
    refine wp_lcGC hw ⟨l3, e1, wp_bYes ⟨fun _ => ⟨f k, l3, g3, e3, l, e2, ?_⟩, fun z => nomatch z⟩⟩
    exact lcg_map14 h f hw (fun k hk => he k (List.mem_cons_of_mem _ hk)) q
theorem wp_vE14 {a : M PyData} {l : Lo} {g : Sg} {Q : Vl → Lo → Sg → Prop} (h : Wp a l g fun d l1 g1 => Q (.dat d) l1 g1) : Wp (vE a) l g Q := wp_mb (wp_mono h fun _ _ _ q => wp_mp q)
theorem ex_idx14 {F : FS} {C : Str} {j n c : Nat} {xs : List Ov} {g g2 : Sg} {Q : Nat → Sg → Prop} (e : idxO F C j xs c g = some (n, g2)) (q : Q n g2) : ∃ n g3, idxO F C j xs c g = some (n, g3) ∧ Q n g3 := ⟨n, g2, e, q⟩
theorem ex_cnt14 {F : FS} {C : Str} {j n c : Nat} {xs : List Ov} {g g2 : Sg} {Q : Nat → Sg → Prop} (e : cntO F C j xs c g = some (n, g2)) (q : Q n g2) : ∃ n g3, cntO F C j xs c g = some (n, g3) ∧ Q n g3 := ⟨n, g2, e, q⟩
theorem wp_len14 {F : FS} {C : Str} {v j n : Nat} {l : Lo} {g : Sg} {fs : List (Str × Fv)} {Q : PyData → Lo → Sg → Prop} (ev : l[v]? = some (.ref j)) (ho : g[j]? = some (.ins C fs)) (hl : F [.ref j] g = some (.dat (.int (n : Nat)), g)) (hn : n < 1000000) (q : Q (.int (n : Nat)) l g) : Wp (eLenO F C (hV v)) l g Q :=
  wp_eLenO (wp_hV ev ⟨fs, ho, fok_eq hl ⟨n, rfl, hn, q⟩⟩)
theorem wp_str14 {F : FS} {C : Str} {v j : Nat} {y : Str} {l : Lo} {g : Sg} {fs : List (Str × Fv)} {Q : PyData → Lo → Sg → Prop} (ev : l[v]? = some (.ref j)) (ho : g[j]? = some (.ins C fs)) (hl : F [.ref j] g = some (.dat (.str y), g)) (q : Q (.str y) l g) : Wp (eStrO F C (hV v)) l g Q :=
  wp_eStrO (wp_hV ev ⟨fs, ho, fok_eq hl ⟨y, rfl, q⟩⟩)
 local macro_rules | `(tactic| walk_at "bk") => `(tactic| (simp only [backV, List.getD_cons_succ, List.getD_cons_zero, List.set_cons_succ, List.set_cons_zero]; try rfl))
 local macro_rules | `(tactic| walk_at "v") => `(tactic| first | ((with_reducible apply wp_eIdxO); (rfl)) | ((with_reducible apply wp_iEnO); (rfl)) | with_reducible refine wp_vE14 ?_ | ((with_reducible apply ex_idx14); (with_reducible assumption)) | ((with_reducible apply ex_cnt14); (with_reducible assumption)) | ((with_reducible apply wp_len14); (rfl); (with_reducible assumption); (with_reducible assumption); (with_reducible assumption)) | ((with_reducible apply wp_str14); (rfl); (with_reducible assumption); (with_reducible assumption)))
 local macro_rules | `(tactic| walk_at "v") => `(tactic| first | with_reducible refine wp_forGC ?_ | with_reducible refine wp_iWipeG ?_ | ((with_reducible apply wp_iOs); (rfl)) | with_reducible refine wp_lHitems ?_ | ((with_reducible apply ex_dct14); (with_reducible assumption)) | with_reducible refine wp_eDstr ?_ | ((with_reducible apply ex_run14); (with_reducible assumption)) | with_reducible refine wp_eOwn ?_ | with_reducible refine wp_eCountD ?_ | ((with_reducible apply wp_eCntO); (rfl)))
 local macro_rules | `(tactic| walk_at "v") => `(tactic| first | with_reducible refine wp_lcN ?_ | with_reducible refine wp_lcO ?_ | with_reducible refine wp_lcGN ?_ | ((with_reducible apply wp_lcGC); (walk_at "wi")) | ((with_reducible apply ex_back); (walk_at "bk")) | ((with_reducible apply ex_wipe); (walk_at "wi")) | ((with_reducible apply has_goNm); (walk_at "sr")) | ((with_reducible apply has_goPr); (walk_at "sr"); (walk_at "sr")) | with_reducible refine wp_forG ?_ | with_reducible refine wp_forGN ?_)
 local macro_rules | `(tactic| walk_at "v") => `(tactic| first | with_reducible refine wp_asgV ?_ | with_reducible refine wp_vH ?_ | with_reducible refine wp_vHc ?_ | with_reducible refine wp_vOs ?_ | with_reducible refine wp_oCons ?_ | with_reducible refine wp_oNil ?_ | with_reducible refine wp_oRef ?_ | with_reducible refine wp_oNewD ?_ | ((with_reducible apply wp_hIx14); (rfl); (rfl); (with_reducible assumption)) | with_reducible refine wp_vMakeK ?_)
noncomputable def b_law_k14_1 (F_l_draw F_l_pick F_Table_init_ F_Table_put F_l_put F_Table_get F_Table_eq_ F_Table_str_ F_Table_len_ F_Table_entries : FS) : X :=
  (xSeq (xIf (bOr (bTest (eOp neD (eVar 16) (eC (.int 1)))) (bTest (eOp gtD (eVar 15) (eC (.int 0)))))
          (xSeq (xAsg 17 (eMethK F_Table_put "Table" "put" gA (hIx 7 (eVar 16)) (vCons (vE (eOp ixD (eVar 14) (eC (.int 0)))) (vCons (vE (eOp ixD (eVar 14) (eC (.int 1)))) (vCons (vE (eOp ixD (eVar 14) (eC (.int 2)))) (vCons (vE (eOp ixD (eVar 14) (eC (.int 3)))) vNil)))) (vCons (vE (eVar 13)) vNil)))
          (xIf (bTest (eOp neD (eVar 17) (eCall F_l_put (vCons (vH (hIx 10 (eVar 16))) (vCons (vE (eOp ixD (eOp ixD (eVar 6) (eVar 16)) (eC (.int 0)))) (vCons (vE (eOp ixD (eOp ixD (eVar 6) (eVar 16)) (eC (.int 1)))) (vCons (vE (eVar 14)) vNil)))))))
            (xRet (eC (.bool false)))
            xNext))
          xNext)
        (xIf (bTest (eOp eqD (eCall F_l_draw (vCons (vE (eVar 0)) (vCons (vR 1) (vCons (vE (eC (.int 3))) vNil)))) (eC (.int 0))))
          (xDrop (eMeth F_Table_get "Table" "get" [] (hIx 7 (eVar 16)) (vCons (vE (eOp ixD (eVar 14) (eC (.int 0)))) vNil)))
          xNext))
noncomputable def b_law_k14_2 (F_l_draw F_l_pick F_Table_init_ F_Table_put F_l_put F_Table_get F_Table_eq_ F_Table_str_ F_Table_len_ F_Table_entries : FS) : X :=
  (xSeq (xAsg 22 (eL (lLc [19] (iSq (eVar 18)) (gNm 19) bYes (eOp eqD (eVar 19) (eOp ixD (eVar 18) (eVar 16))))))
        (xSeq (xIf (bTest (eOp neD (eL (lLcO [23] (iOs 7) (goNm 23) bYes (eOwn false F_Table_eq_ "Table" (hV 8) (vH (hV 23))))) (eVar 22)))
          (xRet (eC (.bool false)))
          xNext)
        (xSeq (xIf (bTest (eOp neD (eL (lLcO [23] (iOs 7) (goNm 23) bYes (eOwn true F_Table_eq_ "Table" (hV 23) (vH (hV 8))))) (eL (lLc [9] (iSq (eVar 22)) (gNm 9) bYes (eNot (eVar 9))))))
          (xRet (eC (.bool false)))
          xNext)
        (xSeq (xIf (bOr (bTest (eOp neD (eIdxO F_Table_eq_ "Table" 7 (hV 8)) (eIndex (eVar 22) (eC (.bool true))))) (bTest (eOp neD (eCntO F_Table_eq_ "Table" 7 (hV 8)) (eCountD (eVar 22) (eC (.bool true))))))
          (xRet (eC (.bool false)))
          xNext)
        (xIf (bOr (bTest (eOwn false F_Table_eq_ "Table" (hV 8) (vE (eMeth F_Table_entries "Table" "entries" [] (hV 8) vNil)))) (bOr (bTest (eOwn false F_Table_eq_ "Table" (hV 8) (vE (eLenO F_Table_len_ "Table" (hV 8))))) (bOr (bTest (eOwn false F_Table_eq_ "Table" (hV 8) (vE (eStrO F_Table_str_ "Table" (hV 8))))) (bTest (eOwn false F_Table_eq_ "Table" (hV 8) (vE (eTup aNil)))))))
          (xRet (eC (.bool false)))
          xNext)))))
noncomputable def b_law_k14_3 (F_l_draw F_l_pick F_Table_init_ F_Table_put F_l_put F_Table_get F_Table_eq_ F_Table_str_ F_Table_len_ F_Table_entries : FS) : X :=
  (xSeq (xPar 12 13 (eOp subD (eCall F_l_draw (vCons (vE (eVar 0)) (vCons (vR 1) (vCons (vE (eC (.int 5))) vNil)))) (eC (.int 2))) (eCall F_l_draw (vCons (vE (eVar 0)) (vCons (vR 1) (vCons (vE (eC (.int 4))) vNil)))))
      (xSeq (xAsg 14 (eTup (aCons (eCall F_l_draw (vCons (vE (eVar 0)) (vCons (vR 1) (vCons (vE (eC (.int 9))) vNil)))) (aCons (eVar 12) (aCons (eOp plusD (eVar 12) (eC (.int 1))) (aCons (eCall F_l_pick (vCons (vE (eVar 0)) (vCons (vR 1) (vCons (vE (eL (lLst (aCons (eC .none) (aCons (eC (.int 2)) aNil))))) vNil)))) (aCons (eVar 13) aNil)))))))
      (xSeq (xAsg 15 (eCall F_l_draw (vCons (vE (eVar 0)) (vCons (vR 1) (vCons (vE (eC (.int 7))) vNil)))))
      (xSeq (xFor (iWipe [2, 3, 4, 5, 8, 9, 11, 12, 16, 17, 18, 19, 20, 21, 22, 23] (iRg1 (eC (.int 4)))) (gNm 16)
        (xKeep [2, 3, 4, 5, 8, 9, 11, 12, 16, 17, 18, 19, 20, 21, 22, 23] (b_law_k14_1 F_l_draw F_l_pick F_Table_init_ F_Table_put F_l_put F_Table_get F_Table_eq_ F_Table_str_ F_Table_len_ F_Table_entries)))
      (xSeq (xAsg 18 (eL (lLc [16] (iRg1 (eC (.int 4))) (gNm 16) bYes (eTup (aCons (eOp ixD (eVar 6) (eVar 16)) (aCons (eCB sortUD (aCons (eL (lHitems (hIx 10 (eVar 16)))) aNil)) aNil))))))
      (xSeq (xAsg 18 (eL (lLc [19, 20] (iSq (eVar 18)) (gTp 2 (gsCons (gNm 19) (gsCons (gNm 20) gsNil))) bYes (eTup (aCons (eVar 19) (aCons (eL (lLc [21, 14] (iSq (eVar 20)) (gTp 2 (gsCons (gNm 21) (gsCons (gNm 14) gsNil))) bYes (eSl (eVar 14) oNone (oSome (eC (.int 1)))))) (aCons (eVar 20) aNil)))))))
      (xForG (iWipeG [2, 3, 4, 5, 8, 9, 11, 12, 13, 14, 15, 16, 17, 19, 20, 21, 22, 23] (iEnO 7)) (goPr 16 8)
        (xKeep [2, 3, 4, 5, 8, 9, 11, 12, 13, 14, 15, 16, 17, 19, 20, 21, 22, 23] (b_law_k14_2 F_l_draw F_l_pick F_Table_init_ F_Table_put F_l_put F_Table_get F_Table_eq_ F_Table_str_ F_Table_len_ F_Table_entries)))))))))
noncomputable def b_law_k14_4 (F_l_draw F_l_pick F_Table_init_ F_Table_put F_l_put F_Table_get F_Table_eq_ F_Table_str_ F_Table_len_ F_Table_entries : FS) : X :=
  (xSeq (xPar 3 4 (eOp plusD (eC (.int 1)) (eCall F_l_draw (vCons (vE (eVar 0)) (vCons (vR 1) (vCons (vE (eC (.int 5))) vNil))))) (eCall F_l_pick (vCons (vE (eVar 0)) (vCons (vR 1) (vCons (vE (eL (lLst (aCons (eC (.str "new")) (aCons (eC (.str "old")) (aCons (eC (.str "deep")) aNil)))))) vNil)))))
    (xSeq (xAsg 5 (eDstr [("new", "old"), ("old", "deep"), ("deep", "new")] (eVar 4)))
    (xSeq (xAsg 6 (eL (lLst (aCons (eTup (aCons (eVar 3) (aCons (eVar 4) aNil))) (aCons (eTup (aCons (eVar 3) (aCons (eVar 4) aNil))) (aCons (eTup (aCons (eOp plusD (eVar 3) (eC (.int 1))) (aCons (eVar 4) aNil))) (aCons (eTup (aCons (eVar 3) (aCons (eVar 5) aNil))) aNil)))))))
    (xSeq (xAsgV 7 (vLcN [8, 9] (iSq (eVar 6)) (gTp 2 (gsCons (gNm 8) (gsCons (gNm 9) gsNil))) bYes (oRef (vMakeK F_Table_init_ "Table" gA (vCons (vE (eVar 8)) vNil) (vCons (vE (eVar 9)) vNil)))))
    (xSeq (xAsgV 10 (vOs false (oCons oNewD (oCons oNewD (oCons oNewD (oCons oNewD oNil))))))
    (xFor (iWipe [2, 3, 4, 5, 8, 9, 11, 12, 13, 14, 15, 16, 17, 18, 19, 20, 21, 22, 23] (iRg1 (eC (.int 12)))) (gNm 11)
      (xKeep [2, 3, 4, 5, 8, 9, 11, 12, 13, 14, 15, 16, 17, 18, 19, 20, 21, 22, 23] (b_law_k14_3 F_l_draw F_l_pick F_Table_init_ F_Table_put F_l_put F_Table_get F_Table_eq_ F_Table_str_ F_Table_len_ F_Table_entries))))))))
noncomputable def m_law_k14 (F_l_draw F_l_pick F_Table_init_ F_Table_put F_l_put F_Table_get F_Table_eq_ F_Table_str_ F_Table_len_ F_Table_entries : FS) : X :=
  (xSeq (xNewL 1 (lLst aNil))
  (xSeq (xFor (iWipe [2, 3, 4, 5, 6, 7, 8, 9, 10, 11, 12, 13, 14, 15, 16, 17, 18, 19, 20, 21, 22, 23] (iRg1 (eC (.int 3)))) (gNm 2)
    (xKeep [2, 3, 4, 5, 6, 7, 8, 9, 10, 11, 12, 13, 14, 15, 16, 17, 18, 19, 20, 21, 22, 23] (b_law_k14_4 F_l_draw F_l_pick F_Table_init_ F_Table_put F_l_put F_Table_get F_Table_eq_ F_Table_str_ F_Table_len_ F_Table_entries)))
  (xRet (eC (.bool true)))))
noncomputable def f_law_k14 : FS := fnS 24 (m_law_k14 f_l_draw f_l_pick f_Table_init_ f_Table_put f_l_put f_Table_get f_Table_eq_ f_Table_str_ f_Table_len_ f_Table_entries)

def tabsO (L : Nat) : List Ov := (List.range 4).map fun k => .ref (L + 2 * k)
def dctsO (L : Nat) : List Ov := (List.range 4).map fun k => .ref (L + 8 + k)
def srtsD (m : Int) (kp ko : Str) : PyData := .list ((List.range 4).map fun i => .tuple [.int (slF m i), .str (kpF kp ko i)])
theorem four {P : Nat → Prop} (h0 : P 0) (h1 : P 1) (h2 : P 2) (h3 : P 3) : ∀ i, i < 4 → P i := fun i hi => by
  have : i = 0 ∨ i = 1 ∨ i = 2 ∨ i = 3 := by omega
  rcases this with rfl | rfl | rfl | rfl <;> assumption
theorem ix_tabs (L : Nat) : ∀ i : Nat, i < 4 → osIx (tabsO L) (i : Int) = some (L + 2 * i) := four (P := fun i => osIx (tabsO L) (i : Int) = some (L + 2 * i)) rfl rfl rfl rfl
theorem ix_dcts (L : Nat) : ∀ i : Nat, i < 4 → osIx (dctsO L) (i : Int) = some (L + 8 + i) := four (P := fun i => osIx (dctsO L) (i : Int) = some (L + 8 + i)) rfl rfl rfl rfl
theorem ix_srts (m : Int) (kp ko : Str) : ∀ i : Nat, i < 4 → ixD (srtsD m kp ko) (.int (i : Int)) = some (.tuple [.int (slF m i), .str (kpF kp ko i)]) := four (P := fun i => ixD (srtsD m kp ko) (.int (i : Int)) = some (.tuple [.int (slF m i), .str (kpF kp ko i)])) rfl rfl rfl rfl
def stA14 (ns : List Int) (L : Nat) (m : Int) (kp ko : Str) (a13 a14 a15 a16 a17 : Vl) : Lo := [scr ns, .ref 0, .no, .no, .no, .no, .dat (srtsD m kp ko), .os false (tabsO L), .no, .no, .os false (dctsO L), .no, .no, a13, a14, a15, a16, a17, .no, .no, .no, .no, .no, .no]
theorem body1_14 {ns : List Int} {n L i : Nat} {G : Sg} {m le : Int} {kp ko : Str} {qs : Nat → List (Int × Rq)} {r : Rq} (hz : ns.length ≤ 63) (hn : n < 80000) (hi : i < 4) (hL : 0 < L) (h1 : 0 < m) (h2 : m < 50) (hT : T4 (tw ns n G) L m kp ko qs) :
    Wp (b_law_k14_1 f_l_draw f_l_pick f_Table_init_ f_Table_put f_l_put f_Table_get f_Table_eq_ f_Table_str_ f_Table_len_ f_Table_entries) (stA14 ns L m kp ko (.dat (.int r.dp)) (.dat r.d) (.dat (.int le)) (.dat (.int (i : Int))) .no) (tw ns n G) fun o l1 g1 => o = .nx ∧ ∃ G' qs' x17, g1 = tw ns (n + 1) G' ∧ T4 (tw ns (n + 1) G') L m kp ko qs' ∧ l1 = stA14 ns L m kp ko (.dat (.int r.dp)) (.dat r.d) (.dat (.int le)) (.dat (.int (i : Int))) x17 := by
  have o7 := ix_tabs L i hi
  have o10 := ix_dcts L i hi
  have e6 := ix_srts m kp ko i hi
  have e60 : ixD (.tuple [.int (slF m i), .str (kpF kp ko i)]) (.int 0) = some (.int (slF m i)) := rfl
  have e61 : ixD (.tuple [.int (slF m i), .str (kpF kp ko i)]) (.int 1) = some (.str (kpF kp ko i)) := rfl
  have r0 : ixD r.d (.int 0) = some (.int r.p) := rfl
  have r1 : ixD r.d (.int 1) = some (.int r.lo) := rfl
  have r2 : ixD r.d (.int 2) = some (.int r.hi) := rfl
  have r3 : ixD r.d (.int 3) = some r.mv := rfl
  have hc : (decide ((i : Int) = 1) = true ∧ decide (0 < le) = false) ∨ (decide ((i : Int) = 1) = false) ∨ (decide ((i : Int) = 1) = true ∧ decide (0 < le) = true) := by
    cases decide ((i : Int) = 1) <;> cases decide (0 < le) <;> simp
  unfold b_law_k14_1 stA14
  rcases hc with ⟨c1, c2⟩ | c1 | ⟨c1, c2⟩
  · walk_at "vc"
    refine br_F (by rw [c1, c2]; rfl) ?_
    walk_at "vc"
    refine draw_ok hz (by omega) (by omega) fun k hk => ?_
    have hT1 := hT.town (n2 := n + 1) hL
    obtain ⟨d, G1', eg, hT2'⟩ := hT1.get hL h1 h2 hi r.p
    obtain ⟨a', f', hTi'⟩ := hT1.t i hi
    have ho' := hTi'.o
    cases hk0 : decide ((k : Int) = 0) with
    | true =>
      walk_at "vc"
      exact ⟨rfl, _, _, _, rfl, hT2', rfl⟩
    | false =>
      walk_at "vc"
      exact ⟨rfl, _, _, _, rfl, hT1, rfl⟩
  · skip
    obtain ⟨b, G1, G2, e1, e2, hT2⟩ := hT.put hL h1 h2 hi r
    obtain ⟨a, f, hTi⟩ := hT.t i hi
    have ho := hTi.o
    have hne : neD (.bool b) (.bool b) = some (.bool false) := neD_self (k := 0) (sh_bool _ _) (by decide)
    walk_at "vc"
    refine br_T (by rw [c1]; rfl) ?_
    walk_at "vc"
    refine br_F (by rw [decide_eq_true rfl]; rfl) ?_
    walk_at "vc"
    refine draw_ok hz (by omega) (by omega) fun k hk => ?_
    have hT1 := hT2.town (n2 := n + 1) hL
    obtain ⟨d, G1', eg, hT2'⟩ := hT1.get hL h1 h2 hi r.p
    obtain ⟨a', f', hTi'⟩ := hT1.t i hi
    have ho' := hTi'.o
    cases hk0 : decide ((k : Int) = 0) with
    | true =>
      walk_at "vc"
      exact ⟨rfl, _, _, _, rfl, hT2', rfl⟩
    | false =>
      walk_at "vc"
      exact ⟨rfl, _, _, _, rfl, hT1, rfl⟩
  · skip
    obtain ⟨b, G1, G2, e1, e2, hT2⟩ := hT.put hL h1 h2 hi r
    obtain ⟨a, f, hTi⟩ := hT.t i hi
    have ho := hTi.o
    have hne : neD (.bool b) (.bool b) = some (.bool false) := neD_self (k := 0) (sh_bool _ _) (by decide)
    walk_at "vc"
    refine br_T (by rw [c1, c2]; rfl) ?_
    walk_at "vc"
    refine br_F (by rw [decide_eq_true rfl]; rfl) ?_
    walk_at "vc"
    refine draw_ok hz (by omega) (by omega) fun k hk => ?_
    have hT1 := hT2.town (n2 := n + 1) hL
    obtain ⟨d, G1', eg, hT2'⟩ := hT1.get hL h1 h2 hi r.p
    obtain ⟨a', f', hTi'⟩ := hT1.t i hi
    have ho' := hTi'.o
    cases hk0 : decide ((k : Int) = 0) with
    | true =>
      walk_at "vc"
      exact ⟨rfl, _, _, _, rfl, hT2', rfl⟩
    | false =>
      walk_at "vc"
      exact ⟨rfl, _, _, _, rfl, hT1, rfl⟩

def keysD (m : Int) (kp ko : Str) (qs : Nat → List (Int × Rq)) : PyData := .list ((List.range 4).map fun k => keyQ (slF m k) (kpF kp ko k) (qs k))
theorem ix_keys (m : Int) (kp ko : Str) (qs : Nat → List (Int × Rq)) : ∀ i : Nat, i < 4 → ixD (keysD m kp ko qs) (.int (i : Int)) = some (keyQ (slF m i) (kpF kp ko i) (qs i)) := four (P := fun i => ixD (keysD m kp ko qs) (.int (i : Int)) = some (keyQ (slF m i) (kpF kp ko i) (qs i))) rfl rfl rfl rfl
abbrev alkL (m : Int) (kp ko : Str) (qs : Nat → List (Int × Rq)) (i : Nat) : List PyData := (List.range 4).map fun k => .bool (alk4 m kp ko qs k i)
def stB14 (ns : List Int) (L : Nat) (m : Int) (kp ko : Str) (a8 a16 a18 a22 : Vl) : Lo := [scr ns, .ref 0, .no, .no, .no, .no, .dat (srtsD m kp ko), .os false (tabsO L), a8, .no, .os false (dctsO L), .no, .no, .no, .no, .no, a16, .no, a18, .no, .no, .no, a22, .no]
theorem body2_14 {ns : List Int} {n L i : Nat} {G : Sg} {m : Int} {kp ko : Str} {qs : Nat → List (Int × Rq)} (hi : i < 4) (h1 : 0 < m) (h2 : m < 50) (hk : Kp14 kp) (hko : Kp14 ko) (hT : T4 (tw ns n G) L m kp ko qs) :
    Wp (b_law_k14_2 f_l_draw f_l_pick f_Table_init_ f_Table_put f_l_put f_Table_get f_Table_eq_ f_Table_str_ f_Table_len_ f_Table_entries) (stB14 ns L m kp ko (.ref (L + 2 * i)) (.dat (.int (i : Int))) (.dat (keysD m kp ko qs)) .no) (tw ns n G) fun o l1 g1 => o = .nx ∧ g1 = tw ns n G ∧ ∃ x22, l1 = stB14 ns L m kp ko (.ref (L + 2 * i)) (.dat (.int (i : Int))) (.dat (keysD m kp ko qs)) x22 := by
  generalize tw ns n G = g at *
  have hkey : ∀ k, k < 4 → eqD (keyQ (slF m k) (kpF kp ko k) (qs k)) (keyQ (slF m i) (kpF kp ko i) (qs i)) = some (.bool (alk4 m kp ko qs k i)) := fun k _ => eq_key (kpF_ok hk hko k) (kpF_ok hk hko i)
  have hr1 : ∀ k, k < 4 → eqRun f_Table_eq_ "Table" (L + 2 * k) (.ref (L + 2 * i)) g = some (alk4 m kp ko qs k i, g) := fun k hkk => hT.run h1 h2 hk hko hkk hi
  have hr2 : ∀ k, k < 4 → eqRun f_Table_eq_ "Table" (L + 2 * i) (.ref (L + 2 * k)) g = some (alk4 m kp ko qs k i, g) := fun k hkk => by
    rw [hT.run h1 h2 hk hko hi hkk]
    unfold alk4
    rw [alkQ_comm]
  have hself : alk4 m kp ko qs i i = true := alkQ_self _ _ _
  have hi4 : i ∈ List.range 4 := List.mem_range.mpr hi
  obtain ⟨nx, hx1, hx2⟩ := idx14 hr1 hself (List.range 4) 0 (fun k hkm => List.mem_range.mp hkm) hi4
  have hc1 := cnt14 hr1 hself (List.range 4) 0 fun k hkm => List.mem_range.mp hkm
  have hx1 : idxO f_Table_eq_ "Table" (L + 2 * i) (tabsO L) 0 g = some (nx, g) := hx1
  have hc1 : cntO f_Table_eq_ "Table" (L + 2 * i) (tabsO L) 0 g = some (0 + (alkL m kp ko qs i).countP fun z => PyData.eqv z (.bool true), g) := hc1
  rw [Nat.zero_add] at hc1
  have shb : ∀ f : Nat → Bool, shN 1 (.list ((List.range 4).map fun k => PyData.bool (f k))) = true := fun f => sh_lst (k := 0) fun d hd => by
    obtain ⟨k, _, rfl⟩ := List.mem_map.mp hd
    rfl
  have hbs := sh_shaped (shb fun k => alk4 m kp ko qs k i) (by decide)
  have hx : indexD (.list (alkL m kp ko qs i)) (.bool true) = some (.int (nx : Nat)) := by
    show (if SeqAt.shaped (.list (alkL m kp ko qs i)) = true ∧ SeqAt.shaped (.bool true) = true then (firstIx (.bool true) 0 (alkL m kp ko qs i)).map (fun j => PyData.int (j : Nat)) else none) = _
    exact (if_pos ⟨hbs, rfl⟩).trans (congrArg (Option.map fun j : Nat => PyData.int (j : Nat)) hx2)
  have hc : countD (.list (alkL m kp ko qs i)) (.bool true) = some (.int (((alkL m kp ko qs i).countP fun z => PyData.eqv z (.bool true) : Nat) : Int)) := by
    show (if SeqAt.shaped (.list (alkL m kp ko qs i)) = true ∧ SeqAt.shaped (.bool true) = true then _ else none) = _
    exact if_pos ⟨hbs, rfl⟩
  have n1 : neD (.list (alkL m kp ko qs i)) (.list (alkL m kp ko qs i)) = some (.bool false) := neD_self (shb _) (by decide)
  have n2 : neD (.list ((List.range 4).map fun k => PyData.bool (!alk4 m kp ko qs k i))) (.list ((List.range 4).map fun k => PyData.bool (!alk4 m kp ko qs k i))) = some (.bool false) := neD_self (shb fun k => !alk4 m kp ko qs k i) (by decide)
  have n3 : ∀ z : Int, neD (.int z) (.int z) = some (.bool false) := fun z => neD_self (sh_int 0 z) (by decide)
  have n31 := n3 (nx : Nat)
  have n32 := n3 (((alkL m kp ko qs i).countP fun z => PyData.eqv z (.bool true) : Nat) : Int)
  have xk := ix_keys m kp ko qs i hi
  obtain ⟨a, f, hTi⟩ := hT.t i hi
  have ho := hTi.o
  have hl60 := hT.len h1 h2 hi
  have hwz : (wR (qs i)).length < 1000 := by unfold wR; rw [List.length_map]; omega
  have hen := entries_eq hTi hwz
  rw [ent_map] at hen
  have hln := len_eq hTi
  have hlz : (wR (qs i)).length < 1000000 := by omega
  obtain ⟨p1, p2⟩ := slF_pos h1 h2 i
  have hst := tstr_eq hTi p1 (by omega) hwz (kp_len (kpF_ok hk hko i))
  have d1 : eqRun f_Table_eq_ "Table" (L + 2 * i) (.dat (.tuple ((entQ (qs i)).map Rq.d))) g = some (false, g) := hT.run0 hi rfl rfl
  have d2 : eqRun f_Table_eq_ "Table" (L + 2 * i) (.dat (.int ((wR (qs i)).length : Nat))) g = some (false, g) := hT.run0 hi rfl rfl
  have d3 : eqRun f_Table_eq_ "Table" (L + 2 * i) (.dat (.str (tabT (wR (qs i)).length (slF m i) (kpF kp ko i)))) g = some (false, g) := hT.run0 hi rfl rfl
  have d4 : eqRun f_Table_eq_ "Table" (L + 2 * i) (.dat (.tuple [])) g = some (false, g) := hT.run0 hi rfl rfl
  unfold b_law_k14_2 stB14
  walk_at "vc"
  refine lcw_map (xs := List.range 4) (fun k => keyQ (slF m k) (kpF kp ko k) (qs k)) (fun k => .bool (alk4 m kp ko qs k i)) rfl (by rfl) (by decide) (by walk_at "wi") (fun k hkm => ?_) ?_
  · have e0 := hkey k (List.mem_range.mp hkm)
    walk_at "vc"
  walk_at "vc"
  refine ⟨by rfl, by show 4 ≤ 4000000; decide, ?_⟩
  refine lcg_map14 (ks := List.range 4) (fun k => Ov.ref (L + 2 * k)) (fun k => .bool (alk4 m kp ko qs k i)) (by walk_at "wi") (fun k hkm => ?_) ?_
  · have e0 := hr2 k (List.mem_range.mp hkm)
    walk_at "vc"
    exact ⟨by rw [Bool.bne_false], rfl, rfl⟩
  walk_at "vc"
  refine ⟨by rfl, by show 4 ≤ 4000000; decide, ?_⟩
  refine lcg_map14 (ks := List.range 4) (fun k => Ov.ref (L + 2 * k)) (fun k => .bool (!alk4 m kp ko qs k i)) (by walk_at "wi") (fun k hkm => ?_) ?_
  · have e0 := hr1 k (List.mem_range.mp hkm)
    walk_at "vc"
    exact ⟨by rw [Bool.bne_true], rfl, rfl⟩
  walk_at "vc"
  refine lcw_map (xs := List.range 4) (fun k => .bool (alk4 m kp ko qs k i)) (fun k => .bool (!alk4 m kp ko qs k i)) rfl (by rfl) (by decide) (by walk_at "wi") (fun k hkm => ?_) ?_
  · walk_at "vc"
  walk_at "vc"
  exact ⟨rfl, rfl, _, rfl⟩

end
section
def addT14 (g0 : Sg) (sl : Int) (kp : Str) : Sg := g0 ++ [Ob.ins "Table" (tabF sl kp (g0.length + 1 + 1) 0 0), Ob.dct []]
theorem addT14_len (g0 : Sg) (sl : Int) (kp : Str) : (addT14 g0 sl kp).length = g0.length + 2 := by unfold addT14; rw [List.length_append]; rfl
theorem new14 {ns : List Int} {n : Nat} {g0 : Sg} {sl : Int} {kp : Str} {Q : Vl → Sg → Prop} (q : Q (.dat .none) (tw ns n (addT14 g0 sl kp))) : FOk f_Table_init_ [.ref (tw ns n g0).length, .dat (.int sl), .dat (.str kp)] (tw ns n g0 ++ [Ob.ins "Table" []]) Q := by
  refine fok_eq (init_eq gat_last) ?_
  have e : ((tw ns n g0 ++ [Ob.ins "Table" []]) ++ [Ob.dct []]).set (tw ns n g0).length (.ins "Table" (tabF sl kp (tw ns n g0 ++ [Ob.ins "Table" []]).length 0 0)) = tw ns n (addT14 g0 sl kp) := by
    rw [List.append_assoc, List.set_append_right _ _ (Nat.le_refl _), Nat.sub_self, List.length_append]
    rfl
  rw [e]
  exact q
def addF (g0 : Sg) (m : Int) (kp ko : Str) : Sg := addT14 (addT14 (addT14 (addT14 g0 m kp) m kp) (m + 1) kp) m ko ++ [Ob.dct [], Ob.dct [], Ob.dct [], Ob.dct []]
theorem T4.new {ns : List Int} {n : Nat} {g0 : Sg} {m : Int} {kp ko : Str} : T4 (tw ns n (addF g0 m kp ko)) (g0.length + 1) m kp ko (fun _ => []) := by
  have gt : ∀ (X : Sg) (i : Nat), (tw ns n (g0 ++ X))[g0.length + 1 + i]? = X[i]? := fun X i => by
    show (_ :: (g0 ++ X))[g0.length + 1 + i]? = _
    rw [show g0.length + 1 + i = (g0.length + i) + 1 by omega, List.getElem?_cons_succ, List.getElem?_append_right (by omega), show g0.length + i - g0.length = i by omega]
  have e : addF g0 m kp ko = g0 ++ [Ob.ins "Table" (tabF m kp (g0.length + 1 + 1) 0 0), Ob.dct [], Ob.ins "Table" (tabF m kp (g0.length + 1 + 3) 0 0), Ob.dct [], Ob.ins "Table" (tabF (m + 1) kp (g0.length + 1 + 5) 0 0), Ob.dct [], Ob.ins "Table" (tabF m ko (g0.length + 1 + 7) 0 0), Ob.dct [], Ob.dct [], Ob.dct [], Ob.dct [], Ob.dct []] := by
    show ((((g0 ++ _) ++ [Ob.ins "Table" (tabF m kp ((addT14 g0 m kp).length + 1 + 1) 0 0), _]) ++ [Ob.ins "Table" (tabF (m + 1) kp ((addT14 (addT14 g0 m kp) m kp).length + 1 + 1) 0 0), _]) ++ [Ob.ins "Table" (tabF m ko ((addT14 (addT14 (addT14 g0 m kp) m kp) (m + 1) kp).length + 1 + 1) 0 0), _]) ++ _ = _
    rw [addT14_len, addT14_len, addT14_len, addT14_len, addT14_len, addT14_len, List.append_assoc, List.append_assoc, List.append_assoc, List.append_assoc]
    rfl
  rw [e]
  refine ⟨?_, ?_, fun _ _ => RI.nil⟩
  · exact four (P := fun i => ∃ a f, TabK (tw ns n (g0 ++ _)) (g0.length + 1 + 2 * i) (g0.length + 1 + 2 * i + 1) (slF m i) (kpF kp ko i) (wR []) a f) ⟨0, 0, (gt _ 0).trans rfl, (gt _ 1).trans rfl⟩ ⟨0, 0, (gt _ 2).trans rfl, (gt _ 3).trans rfl⟩ ⟨0, 0, (gt _ 4).trans rfl, (gt _ 5).trans rfl⟩ ⟨0, 0, (gt _ 6).trans rfl, (gt _ 7).trans rfl⟩
  · exact four (P := fun i => (tw ns n (g0 ++ _))[g0.length + 1 + 8 + i]? = some (.dct (rowsD (wR [])))) ((gt _ 8).trans rfl) ((gt _ 9).trans rfl) ((gt _ 10).trans rfl) ((gt _ 11).trans rfl)

end
section
 local macro_rules | `(tactic| walk_at "bk") => `(tactic| (simp only [backV, List.getD_cons_succ, List.getD_cons_zero, List.set_cons_succ, List.set_cons_zero]; try rfl))
 local macro_rules | `(tactic| walk_at "v") => `(tactic| first | ((with_reducible apply wp_eIdxO); (rfl)) | ((with_reducible apply wp_iEnO); (rfl)) | with_reducible refine wp_vE14 ?_ | ((with_reducible apply ex_idx14); (with_reducible assumption)) | ((with_reducible apply ex_cnt14); (with_reducible assumption)) | ((with_reducible apply wp_len14); (rfl); (with_reducible assumption); (with_reducible assumption); (with_reducible assumption)) | ((with_reducible apply wp_str14); (rfl); (with_reducible assumption); (with_reducible assumption)))
 local macro_rules | `(tactic| walk_at "v") => `(tactic| first | with_reducible refine wp_forGC ?_ | with_reducible refine wp_iWipeG ?_ | ((with_reducible apply wp_iOs); (rfl)) | with_reducible refine wp_lHitems ?_ | ((with_reducible apply ex_dct14); (with_reducible assumption)) | with_reducible refine wp_eDstr ?_ | ((with_reducible apply ex_run14); (with_reducible assumption)) | with_reducible refine wp_eOwn ?_ | with_reducible refine wp_eCountD ?_ | ((with_reducible apply wp_eCntO); (rfl)))
 local macro_rules | `(tactic| walk_at "v") => `(tactic| first | with_reducible refine wp_lcN ?_ | with_reducible refine wp_lcO ?_ | with_reducible refine wp_lcGN ?_ | ((with_reducible apply wp_lcGC); (walk_at "wi")) | ((with_reducible apply ex_back); (walk_at "bk")) | ((with_reducible apply ex_wipe); (walk_at "wi")) | ((with_reducible apply has_goNm); (walk_at "sr")) | ((with_reducible apply has_goPr); (walk_at "sr"); (walk_at "sr")) | with_reducible refine wp_forG ?_ | with_reducible refine wp_forGN ?_)
 local macro_rules | `(tactic| walk_at "v") => `(tactic| first | with_reducible refine wp_asgV ?_ | with_reducible refine wp_vH ?_ | with_reducible refine wp_vHc ?_ | with_reducible refine wp_vOs ?_ | with_reducible refine wp_oCons ?_ | with_reducible refine wp_oNil ?_ | with_reducible refine wp_oRef ?_ | with_reducible refine wp_oNewD ?_ | ((with_reducible apply wp_hIx14); (rfl); (rfl); (with_reducible assumption)) | with_reducible refine wp_vMakeK ?_)
set_option maxHeartbeats 8000000 in
theorem law_true (ns : List Int) (hz : ns.length ≤ 63) : ∃ g, f_law_k14 [.dat (.list (ns.map .int))] [] = some (.dat (.bool true), g) := by
  suffices h : FOk f_law_k14 [scr ns] [] fun v _ => v = .dat (.bool true) by
    obtain ⟨v, g, e, rfl⟩ := h
    exact ⟨g, e⟩
  unfold f_law_k14 m_law_k14
  walk_at "vfn"
  walk_at "vc"
  simp only [wipeV, List.set_cons_succ, List.set_cons_zero]
  refine wp_forI (fun i l g' => l = [scr ns, .ref 0, .no, .no, .no, .no, .no, .no, .no, .no, .no, .no, .no, .no, .no, .no, .no, .no, .no, .no, .no, .no, .no, .no] ∧ ∃ n g0, n ≤ 1000 * i ∧ g' = tw ns n g0) ⟨rfl, 0, [], Nat.le_refl _, rfl⟩ ?_ ?_
  · rintro i d l g' hd ⟨rfl, n, g0, hn, rfl⟩
    obtain ⟨hi, rfl⟩ := rng_get hd
    have hi : i < 3 := hi
    unfold b_law_k14_4
    walk_at "vc"
    refine draw_ok hz (by omega) (by omega) fun sk hsk => ?_
    walk_at "vc"
    refine pick_ok hz (by omega) (by simp) fun d hd => ?_
    obtain ⟨kp, ko, rfl, hk, hko, hdk⟩ : ∃ kp ko : Str, d = .str kp ∧ Kp14 kp ∧ Kp14 ko ∧ ((keyO (.str kp)).bind fun k => valG (strP [("new", "old"), ("old", "deep"), ("deep", "new")]) k) = some (.str ko) := by
      simp only [List.mem_cons, List.not_mem_nil, or_false] at hd
      rcases hd with rfl | rfl | rfl
      · exact ⟨_, "old", rfl, .inl rfl, .inr (.inl rfl), by rfl⟩
      · exact ⟨_, "deep", rfl, .inr (.inl rfl), .inr (.inr rfl), by rfl⟩
      · exact ⟨_, "new", rfl, .inr (.inr rfl), .inl rfl, by rfl⟩
    generalize hn2 : n + 1 + 1 = n2 at *
    obtain ⟨m, hm⟩ : ∃ m : Int, m = 1 + (sk : Int) := ⟨_, rfl⟩
    walk_at "vs"
    rw [← hm]
    have hm1 : 0 < m := by omega
    have hm2 : m < 50 := by omega
    walk_at "vc"
    refine ⟨by rfl, by show 4 ≤ 4000000; decide, ?_⟩
    walk_at "vc"
    refine new14 ⟨rfl, _, rfl, ?_⟩
    walk_at "vc"
    refine new14 ⟨rfl, _, rfl, ?_⟩
    walk_at "vc"
    refine new14 ⟨rfl, _, rfl, ?_⟩
    walk_at "vc"
    refine new14 ⟨rfl, _, rfl, ?_⟩
    walk_at "vc"
    simp only [wipeV, List.set_cons_succ, List.set_cons_zero]
    have tl : ∀ X : Sg, (tw ns n2 X).length = X.length + 1 := fun X => rfl
    have al := addT14_len
    have et : [Ov.ref (List.length (tw ns n2 g0)), Ov.ref (List.length (tw ns n2 (addT14 g0 m kp))), Ov.ref (List.length (tw ns n2 (addT14 (addT14 g0 m kp) m kp))), Ov.ref (List.length (tw ns n2 (addT14 (addT14 (addT14 g0 m kp) m kp) (m + 1) kp)))] = tabsO (g0.length + 1) := by
      rw [tl, tl, tl, tl, al, al, al, al, al, al]
      show _ = [Ov.ref (g0.length + 1 + 2 * 0), Ov.ref (g0.length + 1 + 2 * 1), Ov.ref (g0.length + 1 + 2 * 2), Ov.ref (g0.length + 1 + 2 * 3)]
      simp only [List.cons.injEq, Ov.ref.injEq, and_true]
    have ed : [Ov.ref (List.length (tw ns n2 (addT14 (addT14 (addT14 (addT14 g0 m kp) m kp) (m + 1) kp) m ko))), Ov.ref (List.length (tw ns n2 (addT14 (addT14 (addT14 (addT14 g0 m kp) m kp) (m + 1) kp) m ko) ++ [Ob.dct []])), Ov.ref (List.length (tw ns n2 (addT14 (addT14 (addT14 (addT14 g0 m kp) m kp) (m + 1) kp) m ko) ++ [Ob.dct []] ++ [Ob.dct []])), Ov.ref (List.length (tw ns n2 (addT14 (addT14 (addT14 (addT14 g0 m kp) m kp) (m + 1) kp) m ko) ++ [Ob.dct []] ++ [Ob.dct []] ++ [Ob.dct []]))] = dctsO (g0.length + 1) := by
      simp only [List.length_append, tl, al, List.length_cons, List.length_nil]
      show _ = [Ov.ref (g0.length + 1 + 8 + 0), Ov.ref (g0.length + 1 + 8 + 1), Ov.ref (g0.length + 1 + 8 + 2), Ov.ref (g0.length + 1 + 8 + 3)]
      simp only [List.cons.injEq, Ov.ref.injEq, and_true]
    have es : PyData.list [PyData.tuple [PyData.int m, PyData.str kp], PyData.tuple [PyData.int m, PyData.str kp], PyData.tuple [PyData.int (m + 1), PyData.str kp], PyData.tuple [PyData.int m, PyData.str ko]] = srtsD m kp ko := rfl
    have eg : tw ns n2 (addT14 (addT14 (addT14 (addT14 g0 m kp) m kp) (m + 1) kp) m ko) ++ [Ob.dct []] ++ [Ob.dct []] ++ [Ob.dct []] ++ [Ob.dct []] = tw ns n2 (addF g0 m kp ko) := by
      rw [List.append_assoc, List.append_assoc, List.append_assoc]
      rfl
    rw [et, ed, es, eg]
    have hT := T4.new (ns := ns) (n := n2) (g0 := g0) (m := m) (kp := kp) (ko := ko)
    have hL : 0 < g0.length + 1 := by omega
    clear et ed es eg tl al
    generalize addF g0 m kp ko = G0 at *
    generalize g0.length + 1 = L at *
    refine wp_forI (fun i2 l1 g1 => ∃ (n3 : Nat) (G3 : Sg) (qs : Nat → List (Int × Rq)), n3 ≤ n2 + 20 * i2 ∧ g1 = tw ns n3 G3 ∧ T4 (tw ns n3 G3) L m kp ko qs ∧ l1 = [scr ns, .ref 0, .no, .no, .no, .no, .dat (srtsD m kp ko), .os false (tabsO L), .no, .no, .os false (dctsO L), .no, .no, .no, .no, .no, .no, .no, .no, .no, .no, .no, .no, .no]) ⟨n2, G0, _, Nat.le_refl _, rfl, hT, rfl⟩ ?_ ?_
    · clear hT
      rintro i2 d l1 g1 hd ⟨n3, G3, qs, hn3, rfl, hT, rfl⟩
      obtain ⟨hi2, rfl⟩ := rng_get hd
      have hi2 : i2 < 12 := hi2
      unfold b_law_k14_3
      walk_at "vc"
      refine draw_ok hz (by omega) (by omega) fun uk huk => ?_
      walk_at "vc"
      refine draw_ok hz (by omega) (by omega) fun dk hdk => ?_
      walk_at "vc"
      refine draw_ok hz (by omega) (by omega) fun pk hpk => ?_
      walk_at "vc"
      refine pick_ok hz (by omega) (by simp) fun d hd => ?_
      obtain ⟨mb, rfl⟩ : ∃ mb : Bool, d = if mb = true then .int 2 else .none := by
        simp only [List.mem_cons, List.not_mem_nil, or_false] at hd
        rcases hd with rfl | rfl
        · exact ⟨false, rfl⟩
        · exact ⟨true, rfl⟩
      walk_at "vc"
      refine draw_ok hz (by omega) (by omega) fun le hle => ?_
      generalize hn7 : n3 + 1 + 1 + 1 + 1 + 1 = n7 at *
      walk_at "vc"
      simp only [wipeV, List.set_cons_succ, List.set_cons_zero]
      obtain ⟨r, hr1, hr2⟩ : ∃ r : Rq, r.d = PyData.tuple [PyData.int (pk : Int), PyData.int ((uk : Int) - 2), PyData.int ((uk : Int) - 2 + 1), if mb = true then PyData.int 2 else PyData.none, PyData.int (dk : Int)] ∧ r.dp = (dk : Int) := ⟨⟨(pk : Int), (uk : Int) - 2, (uk : Int) - 2 + 1, mb, (dk : Int)⟩, rfl, rfl⟩
      rw [← hr1, ← hr2]
      clear hr1 hr2
      have hT7 := hT.town (n2 := n7) hL
      refine wp_forI (fun i3 l1 g1 => ∃ (n4 : Nat) (G4 : Sg) (qs' : Nat → List (Int × Rq)), n4 ≤ n7 + i3 ∧ g1 = tw ns n4 G4 ∧ T4 (tw ns n4 G4) L m kp ko qs' ∧ l1 = [scr ns, .ref 0, .no, .no, .no, .no, .dat (srtsD m kp ko), .os false (tabsO L), .no, .no, .os false (dctsO L), .no, .no, .dat (.int r.dp), .dat r.d, .dat (.int (le : Int)), .no, .no, .no, .no, .no, .no, .no, .no]) ⟨n7, G3, qs, Nat.le_refl _, rfl, hT7, rfl⟩ ?_ ?_
      · clear hT hT7
        rintro i3 d l1 g1 hd ⟨n4, G4, qs', hn4, rfl, hT, rfl⟩
        obtain ⟨hi3, rfl⟩ := rng_get hd
        have hi3 : i3 < 4 := hi3
        walk_at "vs"
        rw [Int.zero_add]
        refine wp_mono14 (body1_14 hz (by omega) hi3 hL hm1 hm2 hT) ?_
        rintro o l1 g1 ⟨rfl, G', qs2, x17, rfl, hT2, rfl⟩
        simp only [stA14, wipeV, List.set_cons_succ, List.set_cons_zero]
        walk_at "vc"
        exact ⟨n4 + 1, G', qs2, by omega, rfl, hT2, rfl⟩
      · rintro l1 g1 ⟨n4, G4, qs', hn4, rfl, hT4, rfl⟩
        rw [rng_len] at hn4
        have hn4 : n4 ≤ n7 + 4 := hn4
        clear hT hT7
        walk_at "vc"
        refine lcw_map (xs := List.range 4) (fun k => .int (0 + ((k : Nat) : Int))) (fun k => .tuple [.tuple [.int (slF m k), .str (kpF kp ko k)], .list ((fndQ (qs' k)).map itQ)]) rfl (by rfl) (by decide) (by walk_at "wi") (fun k hkm => ?_) ?_
        · have hk4 := List.mem_range.mp hkm
          have o10 := ix_dcts L k hk4
          have e6 := ix_srts m kp ko k hk4
          rw [← Int.zero_add (k : Int)] at o10 e6
          have hd := hT4.d k hk4
          have hsu := sortU14 (hT4.r k hk4)
          walk_at "vc"
        walk_at "vc"
        refine lcw_map (xs := List.range 4) (fun k => .tuple [.tuple [.int (slF m k), .str (kpF kp ko k)], .list ((fndQ (qs' k)).map itQ)]) (fun k => keyQ (slF m k) (kpF kp ko k) (qs' k)) rfl (by rfl) (by decide) (by walk_at "wi") (fun k hkm => ?_) ?_
        · walk_at "vc"
          have hl60 := hT4.len hm1 hm2 (List.mem_range.mp hkm)
          refine lcw_map (xs := fndQ (qs' k)) itQ cutQ rfl (by rfl) (by unfold fndQ; rw [srt_len]; omega) (by walk_at "wi") (fun q hq => ?_) ?_
          · have e0 : slD q.2.d none (some 1) = some (.tuple [.int q.2.p]) := rfl
            unfold itQ
            walk_at "vc"
          walk_at "vc"
        walk_at "vc"
        have en : enO 0 (tabsO L) = some [.pr (.int ((0 : Nat) : Int)) (L + 2 * 0), .pr (.int ((1 : Nat) : Int)) (L + 2 * 1), .pr (.int ((2 : Nat) : Int)) (L + 2 * 2), .pr (.int ((3 : Nat) : Int)) (L + 2 * 3)] := rfl
        refine ⟨_, en, ?_⟩
        simp only [wipeV, List.set_cons_succ, List.set_cons_zero]
        refine ⟨_, rfl, ?_⟩
        walk_at "vc"
        refine wp_mono14 (body2_14 (i := 0) (by decide) hm1 hm2 hk hko hT4) ?_
        rintro o l1 g1 ⟨rfl, rfl, x0, rfl⟩
        simp only [stB14, wipeV, List.set_cons_succ, List.set_cons_zero]
        walk_at "vc"
        refine wp_mono14 (body2_14 (i := 1) (by decide) hm1 hm2 hk hko hT4) ?_
        rintro o l1 g1 ⟨rfl, rfl, x1, rfl⟩
        simp only [stB14, wipeV, List.set_cons_succ, List.set_cons_zero]
        walk_at "vc"
        refine wp_mono14 (body2_14 (i := 2) (by decide) hm1 hm2 hk hko hT4) ?_
        rintro o l1 g1 ⟨rfl, rfl, x2, rfl⟩
        simp only [stB14, wipeV, List.set_cons_succ, List.set_cons_zero]
        walk_at "vc"
        refine wp_mono14 (body2_14 (i := 3) (by decide) hm1 hm2 hk hko hT4) ?_
        rintro o l1 g1 ⟨rfl, rfl, x3, rfl⟩
        simp only [stB14, wipeV, List.set_cons_succ, List.set_cons_zero]
        walk_at "vc"
        exact ⟨n4, G4, qs', by omega, rfl, hT4, rfl⟩
    · rintro l1 g1 ⟨n3, G3, qs, hn3, rfl, hT3, rfl⟩
      rw [rng_len] at hn3
      have hn3 : n3 ≤ n2 + 20 * 12 := hn3
      simp only [wipeV, List.set_cons_succ, List.set_cons_zero]
      walk_at "vc"
      exact ⟨rfl, n3, G3, by omega, rfl⟩
  · rintro l g' ⟨rfl, n, g0, hn, rfl⟩
    walk_at "vc"
    rfl

end
end
end
end
end
end
end Sm
namespace W
open PySem PySem.Spec PyProof.Rows L2 RZ SrtO Dz Sm
structure Bn (mg : Str → Option Value) : Prop where
  len : mg "len" = none
  list : mg "list" = none
  tuple : mg "tuple" = none
  range : mg "range" = none
  zip : mg "zip" = none
  enumerate : mg "enumerate" = none
  abs : mg "abs" = none
  max : mg "max" = none
  min : mg "min" = none
  sum : mg "sum" = none
  all : mg "all" = none
  any : mg "any" = none
  sorted : mg "sorted" = none
  isinstance : mg "isinstance" = none
  int : mg "int" = none
  bool : mg "bool" = none
  str : mg "str" = none
  set : mg "set" = none
variable {P : Program} {w : World} {K : PySem.W.Frag} {mg : Str → Option Value} {base : Heap} {lw : Nat} {tb : List (Addr × Tag)}
def Scr (sc : PyData) : Prop := ∃ ns : List Int, sc = .list (ns.map .int) ∧ ns.length ≤ 63
theorem cxK {CX : CXT} {P : Program} {w : World} {K : PySem.W.Frag} {mg : Str → Option Value} {base : Heap} {N : List Str} {q : Str} {sc : Scope} {f : Addr} {cd : Value} {A : Around} {o : List PySem.Env} {s : Shared} {H : Hp} {E : XK} : (cxOf CX P w K mg base N q sc f cd A o s H E).K = K := rfl

theorem ok_Table_init_ {f : Addr} {fd : FuncData} {k : Nat} (F : FunD K "__init__" "Table.__init__" (defArgs s_Table_init_) (defBody s_Table_init_) (defScope s_Table_init_) [] [("keeps", .str "new")] f fd) (B : Bn mg)
    (n_Table_slots : FldOk (kX P w K mg base (lw + 1) tb) "Table" "slots")
    (n_Table_keeps : FldOk (kX P w K mg base (lw + 1) tb) "Table" "keeps")
    (n_Table_rows : FldOk (kX P w K mg base (lw + 1) tb) "Table" "rows")
    (n_Table_asked : FldOk (kX P w K mg base (lw + 1) tb) "Table" "asked")
    (n_Table_found : FldOk (kX P w K mg base (lw + 1) tb) "Table" "found") :
    FnOk P w K mg base CX0 (k + 1) f fd ["self", "slots", "keeps"] (spG (kX P w K mg base (lw + 1) tb) 3 (fnS 3 (m_Table_init_ ))) := by
  refine okD F sc_Table_init_ (fun vs H Q E h => spG_len h) (fun cdv A outer s H vs Q E hr h => ⟨_,
  (pss_cons (ps_fld (pv 0) (pv 1) rfl)
  (pss_cons (ps_fld (pv 0) (pv 2) rfl)
  (pss_cons (ps_fld (pv 0) pe_dnewK rfl)
  (pss_one (ps_asg2 pe_int (pg_fld (pv 0)) (pg_fld (pv 0))))))), ?_⟩)
  try simp only [cxK]
  exact run_fn (x := m_Table_init_ )
    ((x_seq (x_fld n_Table_slots s_hV s_var)
  (x_seq (x_fld n_Table_keeps s_hV s_var)
  (x_seq (x_fldC n_Table_rows s_hV s_dnew)
  (x_fld2 n_Table_asked n_Table_found s_hV s_hV s_int)))))
    rfl h

theorem ok_Table_len_ {f : Addr} {fd : FuncData} {k : Nat} (F : FunD K "__len__" "Table.__len__" (defArgs s_Table_len_) (defBody s_Table_len_) (defScope s_Table_len_) [] [] f fd) (B : Bn mg)
    (n_Table_rows : FldOk (kX P w K mg base (lw + 1) tb) "Table" "rows") :
    FnOk P w K mg base CX0 (k + 1) f fd ["self"] (spG (kX P w K mg base (lw + 1) tb) 1 (fnS 1 (m_Table_len_ ))) := by
  refine okD F sc_Table_len_ (fun vs H Q E h => spG_len h) (fun cdv A outer s H vs Q E hr h => ⟨_,
  (pss_one (ps_ret (pe_callB call_lenD (by rfl) B.len (by decide +kernel) (pa_cons (pe_fldC K (pv 0)) pa_nil)))), ?_⟩)
  try simp only [cxK]
  exact run_fn (x := m_Table_len_ )
    ((x_ret (s_hlenD (s_hF n_Table_rows s_hV))))
    rfl h

theorem ok_Table_eq_ {f : Addr} {fd : FuncData} {k : Nat} {F_Table_entries : FS} (F : FunD K "__eq__" "Table.__eq__" (defArgs s_Table_eq_) (defBody s_Table_eq_) (defScope s_Table_eq_) [] [] f fd) (B : Bn mg)
    (n_Table_keeps : FldOk (kX P w K mg base (lw + 1) tb) "Table" "keeps")
    (n_Table_slots : FldOk (kX P w K mg base (lw + 1) tb) "Table" "slots")
    (cm_Table_entries : CalM P w K mg base k "Table" "entries" ["self"] [] (spG (kX P w K mg base (lw + 1) tb) 1 F_Table_entries))
    (ow_Table : OwnK K mg "Table") :
    FnOk P w K mg base CX0 (k + 1) f fd ["self", "other"] (spG (kX P w K mg base (lw + 1) tb) 2 (fnS 2 (m_Table_eq_ F_Table_entries))) := by
  refine okD F sc_Table_eq_ (fun vs H Q E h => spG_len h) (fun cdv A outer s H vs Q E hr h => ⟨_,
  (pss_cons (ps_if (pt_not (k_tru K (pe_callB (k_isi K) (by rfl) B.isinstance (by decide +kernel) (pa_cons (pv 1) (pa_cons (pe_glC (kX P w K mg base (lw + 1) tb) ⟨rfl, rfl, rfl, rfl, rfl⟩ ow_Table) pa_nil))) (by intro _; rfl)))
    (pss_one (ps_ret pe_bl))
    pss_nil)
  (pss_one (ps_ret (pe_cmpR (k_eq K hr.units) (pe_tup (pa_cons (pe_fldC K (pv 0)) (pa_cons (pe_fldC K (pv 0)) (pa_cons (pe_calM0 (κ := (kX P w K mg base (lw + 1) tb)) ⟨rfl, rfl, rfl, rfl, rfl⟩ cm_Table_entries hr (pv 0)) pa_nil)))) (pe_tup (pa_cons (pe_fldC K (pv 1)) (pa_cons (pe_fldC K (pv 1)) (pa_cons (pe_calM0 (κ := (kX P w K mg base (lw + 1) tb)) ⟨rfl, rfl, rfl, rfl, rfl⟩ cm_Table_entries hr (pv 1)) pa_nil)))) (nomark _))))), ?_⟩)
  try simp only [cxK]
  exact run_fn (x := m_Table_eq_ F_Table_entries)
    ((x_seq (x_if (s_bnot (s_tru (s_isO ow_Table s_vAny)))
    (x_ret s_bl)
    x_next)
  (x_ret (s_op ro_eq (s_tup (s_cons (s_fld n_Table_slots s_hV) (s_cons (s_fld n_Table_keeps s_hV) (s_cons (s_meth s_hV s_vnil vn_nil (fun _ => .nil) rfl) s_nil)))) (s_tup (s_cons (s_fld n_Table_slots s_hV) (s_cons (s_fld n_Table_keeps s_hV) (s_cons (s_meth s_hV s_vnil vn_nil (fun _ => .nil) rfl) s_nil))))))))
    rfl h

theorem ok_Table_str_ {f : Addr} {fd : FuncData} {k : Nat} (F : FunD K "__str__" "Table.__str__" (defArgs s_Table_str_) (defBody s_Table_str_) (defScope s_Table_str_) [] [] f fd) (B : Bn mg)
    (n_Table_keeps : FldOk (kX P w K mg base (lw + 1) tb) "Table" "keeps")
    (n_Table_slots : FldOk (kX P w K mg base (lw + 1) tb) "Table" "slots")
    (n_Table_rows : FldOk (kX P w K mg base (lw + 1) tb) "Table" "rows") :
    FnOk P w K mg base CX0 (k + 1) f fd ["self"] (spG (kX P w K mg base (lw + 1) tb) 1 (fnS 1 (m_Table_str_ ))) := by
  refine okD F sc_Table_str_ (fun vs H Q E h => spG_len h) (fun cdv A outer s H vs Q E hr h => ⟨_,
  (pss_one (ps_ret (pe_joined (PJ.cons (pe_fmt (pe_callB call_lenD (by rfl) B.len (by decide +kernel) (pa_cons (pe_fldC K (pv 0)) pa_nil))) (PJ.cons pe_str (PJ.cons (pe_fmt (pe_fldC K (pv 0))) (PJ.cons pe_str (PJ.cons (pe_fmt (pe_fldC K (pv 0))) PJ.nil)))))))), ?_⟩)
  try simp only [cxK]
  exact run_fn (x := m_Table_str_ )
    ((x_ret (s_js (sj_fmt (s_hlenD (s_hF n_Table_rows s_hV)) (sj_str (fun _ _ _ q => q) (sj_fmt (s_fld n_Table_slots s_hV) (sj_str (fun _ _ _ q => q) (sj_fmt (s_fld n_Table_keeps s_hV) sj_nil))))))))
    rfl h

theorem ok_Table_put {f : Addr} {fd : FuncData} {k : Nat} (F : FunD K "put" "Table.put" (defArgs s_Table_put) (defBody s_Table_put) (defScope s_Table_put) [] [("depth", .int 0)] f fd) (B : Bn mg)
    (n_Table_slots : FldOk (kX P w K mg base (lw + 1) tb) "Table" "slots")
    (n_Table_rows : FldOk (kX P w K mg base (lw + 1) tb) "Table" "rows")
    (n_Table_keeps : FldOk (kX P w K mg base (lw + 1) tb) "Table" "keeps") :
    FnOk P w K mg base CX0 (k + 1) f fd ["self", "place", "low", "high", "move", "depth"] (spG (kX P w K mg base (lw + 1) tb) 6 (fnS 7 (m_Table_put ))) := by
  refine okD F sc_Table_put (fun vs H Q E h => spG_len h) (fun cdv A outer s H vs Q E hr h => ⟨_,
  (pss_cons (ps_set (i := 6) sc_Table_put.nd rfl (by first | exact Or.inl rfl | exact Or.inr rfl) (pe_op op_mod (pv 1) (pe_fldC K (pv 0))))
  (pss_cons (ps_if (PW.pt (pw_and (pt_cmp (pc_din (un1 hr) (pv 6) (pe_fldC K (pv 0)))) (pw_and1 (pt_cmpR (k_ne K hr.units) (pe_ix (k_ix K) (pe_dget (un1 hr) (pe_fldC K (pv 0)) (pv 6) (fun _ _ => rfl)) pe_int (fun _ _ => rfl)) (pv 1) (nomark _)))))
    (pss_one (ps_if (PW.pt (pw_or (pt_cmpR (k_eq K hr.units) (pe_fldC K (pv 0)) pe_str (nomark _)) (pw_or1 (PW.pt (pw_and (pt_cmpR (k_eq K hr.units) (pe_fldC K (pv 0)) pe_str (nomark _)) (pw_and1 (pt_cmpR op_lt (pv 5) (pe_ix (k_ix K) (pe_dget (un1 hr) (pe_fldC K (pv 0)) (pv 6) (fun _ _ => rfl)) pe_int (fun _ _ => rfl)) (nomark _))))))))
      (pss_one (ps_ret pe_bl))
      pss_nil))
    pss_nil)
  (pss_cons (ps_dput (un1 hr) (pe_fldC K (pv 0)) (pv 6) (pe_tup (pa_cons (pv 1) (pa_cons (pv 2) (pa_cons (pv 3) (pa_cons (pv 4) (pa_cons (pv 5) pa_nil)))))) rfl)
  (pss_one (ps_ret pe_bl))))), ?_⟩)
  try simp only [cxK]
  exact run_fn (x := m_Table_put )
    ((x_seq (x_asg (s_op ro_mod s_var (s_fld n_Table_slots s_hV)))
  (x_seq (x_if (s_band (s_B (s_hin s_var (s_hF n_Table_rows s_hV))) (s_test (s_op ro_ne (s_op ro_ix (s_hget (s_hF n_Table_rows s_hV) s_var) s_int) s_var)))
    (x_if (s_bor (s_test (s_op ro_eq (s_fld n_Table_keeps s_hV) s_str)) (s_band (s_test (s_op ro_eq (s_fld n_Table_keeps s_hV) s_str)) (s_test (s_op ro_lt s_var (s_op ro_ix (s_hget (s_hF n_Table_rows s_hV) s_var) s_int)))))
      (x_ret s_bl)
      x_next)
    x_next)
  (x_seq (x_hput (s_hF n_Table_rows s_hV) s_var (s_tup (s_cons s_var (s_cons s_var (s_cons s_var (s_cons s_var (s_cons s_var s_nil)))))))
  (x_ret s_bl)))))
    rfl h

theorem ok_Table_get {f : Addr} {fd : FuncData} {k : Nat} (F : FunD K "get" "Table.get" (defArgs s_Table_get) (defBody s_Table_get) (defScope s_Table_get) [] [] f fd) (B : Bn mg)
    (n_Table_asked : FldOk (kX P w K mg base (lw + 1) tb) "Table" "asked")
    (n_Table_rows : FldOk (kX P w K mg base (lw + 1) tb) "Table" "rows")
    (n_Table_slots : FldOk (kX P w K mg base (lw + 1) tb) "Table" "slots")
    (n_Table_found : FldOk (kX P w K mg base (lw + 1) tb) "Table" "found") :
    FnOk P w K mg base CX0 (k + 1) f fd ["self", "place"] (spG (kX P w K mg base (lw + 1) tb) 2 (fnS 3 (m_Table_get ))) := by
  refine okD F sc_Table_get (fun vs H Q E h => spG_len h) (fun cdv A outer s H vs Q E hr h => ⟨_,
  (pss_cons (ps_fldaug (pv 0) pe_int in_add)
  (pss_cons (ps_set (i := 2) sc_Table_get.nd rfl (by first | exact Or.inl rfl | exact Or.inr rfl) (pe_dget2 (un1 hr) (pe_fldC K (pv 0)) (pe_op op_mod (pv 1) (pe_fldC K (pv 0))) pe_non ⟨rfl, rfl, rfl, rfl⟩))
  (pss_cons (ps_if (PW.pt (pw_or (pt_cmp (pc_isN (pv 2))) (pw_or1 (pt_cmpR (k_ne K hr.units) (pe_ix (k_ix K) (pv 2) pe_int (fun _ _ => rfl)) (pv 1) (nomark _)))))
    (pss_one (ps_ret pe_non))
    pss_nil)
  (pss_cons (ps_fldaug (pv 0) pe_int in_add)
  (pss_one (ps_ret (pe_slice (k_sl K) (pv 2) (po_some pe_int) po_none))))))), ?_⟩)
  try simp only [cxK]
  exact run_fn (x := m_Table_get )
    ((x_seq (x_faugA n_Table_asked s_hV s_int)
  (x_seq (x_asg (s_hget2 (s_hF n_Table_rows s_hV) (s_op ro_mod s_var (s_fld n_Table_slots s_hV)) s_non))
  (x_seq (x_if (s_bor (s_B (s_isN s_var)) (s_test (s_op ro_ne (s_op ro_ix s_var s_int) s_var)))
    (x_ret s_non)
    x_next)
  (x_seq (x_faugA n_Table_found s_hV s_int)
  (x_ret (s_sl s_var (s_osome s_int) s_onone)))))))
    rfl h

theorem ok_Table_entries {f : Addr} {fd : FuncData} {k : Nat} (F : FunD K "entries" "Table.entries" (defArgs s_Table_entries) (defBody s_Table_entries) (defScope s_Table_entries) [] [] f fd) (B : Bn mg) {cd : Value} (hcd : fd.code = cd) (ta : TabAt (kX P w K mg base (lw + 1) tb) cd (qLam "Table.entries"))
    (n_Table_rows : FldOk (kX P w K mg base (lw + 1) tb) "Table" "rows")
    (lv3 : 3 ≤ k) :
    FnOk P w K mg base CX0 (k + 1) f fd ["self"] (spG (kX P w K mg base (lw + 1) tb) 1 (fnS 2 (m_Table_entries ))) := by
  refine okCD F hcd sc_Table_entries (fun vs H Q E h => spG_len h) (fun A outer s H vs Q E hr h => ⟨_,
  (pss_one (ps_ret (pe_callTy (k_tuple K) (by rfl) B.tuple (by decide +kernel) (pa_cons (pe_sortK (K := (kX P w K mg base (lw + 1) tb)) (i := 1) (k := 0) (p := "row") ⟨rfl, rfl, rfl, rfl, rfl⟩ (by exact ta) (hr.mono lv3) rfl (by rfl) B.sorted (pa_cons (pe_listVals rfl (pe_fldC K (pv 0)) (by rfl) B.list (by decide +kernel)) pa_nil) (by rfl) (by exact keyS_by (sc := defScope s_Table_entries) (by decide +kernel)) rfl sc_Table_entries.nd (by intro _ _ _ _ _ _; rfl) (fun f c' A s H hr => (pe_ix (k_ix K) (pv 1) pe_int (fun _ _ => rfl)))) pa_nil)))), ?_⟩)
  try simp only [cxK]
  exact run_fn (x := m_Table_entries )
    ((x_ret (s_cb rc_tuple (s_cons (s_ofL (s_sortBy (s_cons (s_ofL (s_hvals (s_hF n_Table_rows s_hV))) s_nil) (s_op ro_ix s_var s_int))) s_nil))))
    rfl h

theorem ok_l_draw {f : Addr} {fd : FuncData} {k : Nat} (F : FunD K "_law_draw" "_law_draw" (defArgs s_l_draw) (defBody s_l_draw) (defScope s_l_draw) [] [] f fd) (B : Bn mg)
     :
    FnOk P w K mg base CX0 (k + 1) f fd ["_law_script", "_law_town", "_law_many"] (spG (kX P w K mg base (lw + 1) tb) 3 (fnS 8 (m_l_draw ))) := by
  refine okD F sc_l_draw (fun vs H Q E h => spG_len h) (fun cdv A outer s H vs Q E hr h => ⟨_,
  (pss_cons (ps_if (pt_not (k_tru K (pv 1) (by intro _; rfl)))
    (pss_one (ps_expr (pe_bm PySem.F.plainAttrs_list PySem.F.slot_list_append PySem.F.type_list_append mt_append (pv 1) (pa_cons (pe_callB (k_max K rfl) (by rfl) B.max (by decide +kernel) (pa_cons (pe_op (k_plus K) (pe_lc (own := [("_law_cell", 3)]) (by rfl) sc_l_draw.nd (k_seq K (pv 0)) (blkOk_by (own := [("_law_cell", 3)]) (N := ["_law_script", "_law_town", "_law_many", "_law_cell", "_law_k", "_law_digits", "_law_number", "_law_more"]) (sc := defScope s_l_draw) (by decide +kernel)) (fun _ _ _ _ _ => (pg_name (i := 3) sc_l_draw.nd rfl (by first | exact Or.inl rfl | exact Or.inr rfl))) (fun _ _ _ _ _ => pts_nil) (fun _ _ _ _ _ => (pe_callB call_abs (by rfl) B.abs (by decide +kernel) (pa_cons (pv 3) pa_nil)))) (pe_lst (pa_cons pe_int pa_nil))) pa_nil)) pa_nil))))
    pss_nil)
  (pss_cons (ps_expr (pe_bm PySem.F.plainAttrs_list PySem.F.slot_list_append PySem.F.type_list_append mt_append (pv 1) (pa_cons pe_int pa_nil)))
  (pss_cons (ps_set (i := 4) sc_l_draw.nd rfl (by first | exact Or.inl rfl | exact Or.inr rfl) (pe_callB (k_len K) (by rfl) B.len (by decide +kernel) (pa_cons (pv 1) pa_nil)))
  (pss_cons (ps_set (i := 3) sc_l_draw.nd rfl (by first | exact Or.inl rfl | exact Or.inr rfl) (pe_ifExp (k_tru K (pv 0) (by intro _; rfl)) (pe_ix (k_ix K) (pv 0) (pe_op op_mod (pv 4) (pe_callB (k_len K) (by rfl) B.len (by decide +kernel) (pa_cons (pv 0) pa_nil))) (fun _ _ => rfl)) pe_int))
  (pss_cons (ps_set (i := 5) sc_l_draw.nd rfl (by first | exact Or.inl rfl | exact Or.inr rfl) (pe_op op_mod (pe_ix (k_ix K) (pv 1) pe_int (fun _ _ => rfl)) pe_int))
  (pss_cons (ps_asg (pe_op op_fdiv (pe_ix (k_ix K) (pv 1) pe_int (fun _ _ => rfl)) pe_int) (pg_sub (pv 1) pe_int set_list))
  (pss_cons (ps_set (i := 6) sc_l_draw.nd rfl (by first | exact Or.inl rfl | exact Or.inr rfl) (pe_op op_mod (pe_op (k_plus K) (pe_op (k_plus K) (pv 3) (pe_op op_times pe_int (pv 5))) (pe_op op_times pe_int (pv 4))) pe_int))
  (pss_cons (ps_set (i := 6) sc_l_draw.nd rfl (by first | exact Or.inl rfl | exact Or.inr rfl) (pe_op op_mod (pe_op op_times (pe_op op_mod (pe_op op_times (pv 6) (pv 6)) pe_int) pe_int) pe_int))
  (pss_cons (ps_set (i := 7) sc_l_draw.nd rfl (by first | exact Or.inl rfl | exact Or.inr rfl) (pe_op op_mod (pe_op op_times (pe_op op_mod (pe_op op_times (pv 6) (pv 6)) pe_int) pe_int) pe_int))
  (pss_one (ps_ret (pe_op op_mod (pe_op (k_plus K) (pe_op op_times (pe_op op_fdiv (pv 6) pe_int) pe_int) (pe_op op_fdiv (pv 7) pe_int)) (pv 2))))))))))))), ?_⟩)
  try simp only [cxK]
  exact run_fn (x := m_l_draw )
    ((x_seq (x_if (s_bnot s_truV)
    (x_app (s_cb rc_maxD (s_cons (s_op ro_plus (s_ofL (s_lc (vs := [3]) (s_iseq s_var) (gin_name (by decide)) gmono_name b_name s_yes (s_cb rc_absD (s_cons s_var s_nil)))) (s_ofL (s_lst (s_cons s_int s_nil)))) s_nil)))
    x_next)
  (x_seq (x_app s_int)
  (x_seq (x_asg s_lenV)
  (x_seq (x_asg (s_if (s_tru s_var) (s_op ro_ix s_var (s_op ro_mod s_var (s_cb rc_len (s_cons s_var s_nil)))) s_int))
  (x_seq (x_asg (s_op ro_mod (s_ixV s_int) s_int))
  (x_seq (x_setI s_int (s_op ro_fdiv (s_ixV s_int) s_int))
  (x_seq (x_asg (s_op ro_mod (s_op ro_plus (s_op ro_plus s_var (s_op ro_times s_int s_var)) (s_op ro_times s_int s_var)) s_int))
  (x_seq (x_asg (s_op ro_mod (s_op ro_times (s_op ro_mod (s_op ro_times s_var s_var) s_int) s_int) s_int))
  (x_seq (x_asg (s_op ro_mod (s_op ro_times (s_op ro_mod (s_op ro_times s_var s_var) s_int) s_int) s_int))
  (x_ret (s_op ro_mod (s_op ro_plus (s_op ro_times (s_op ro_fdiv s_var s_int) s_int) (s_op ro_fdiv s_var s_int)) s_var))))))))))))
    rfl h

theorem ok_l_pick {f : Addr} {fd : FuncData} {k : Nat} {F_l_draw : FS} (F : FunD K "_law_pick" "_law_pick" (defArgs s_l_pick) (defBody s_l_pick) (defScope s_l_pick) [] [] f fd) (B : Bn mg)
    (c_l_draw : Cal P w K mg base k "_law_draw" ["_law_script", "_law_town", "_law_many"] (spG (kX P w K mg base (lw + 1) tb) 3 F_l_draw)) :
    FnOk P w K mg base CX0 (k + 1) f fd ["_law_script", "_law_town", "_law_some"] (spG (kX P w K mg base (lw + 1) tb) 3 (fnS 3 (m_l_pick F_l_draw))) := by
  refine okD F sc_l_pick (fun vs H Q E h => spG_len h) (fun cdv A outer s H vs Q E hr h => ⟨_,
  (pss_one (ps_ret (pe_ix (k_ix K) (pv 2) (pe_cal c_l_draw hr (pa_cons (pv 0) (pa_cons (pv 1) (pa_cons (pe_callB (k_len K) (by rfl) B.len (by decide +kernel) (pa_cons (pv 2) pa_nil)) pa_nil)))) (fun _ _ => rfl)))), ?_⟩)
  try simp only [cxK]
  exact run_fn (x := m_l_pick F_l_draw)
    ((x_ret (s_op ro_ix s_var (s_call (s_vcons (s_vE s_var) (s_vcons s_vR (s_vcons (s_vE (s_cb rc_len (s_cons s_var s_nil))) s_vnil))) (vn_cons (vn_cons (vn_cons vn_nil)))))))
    rfl h

theorem ok_l_put {f : Addr} {fd : FuncData} {k : Nat} (F : FunD K "_law_put" "_law_put" (defArgs s_l_put) (defBody s_l_put) (defScope s_l_put) [] [] f fd) (B : Bn mg)
     :
    FnOk P w K mg base CX0 (k + 1) f fd ["_law_rows", "_law_many", "_law_keeping", "_law_row"] (spG (kX P w K mg base (lw + 1) tb) 4 (fnS 8 (m_l_put ))) := by
  refine okD F sc_l_put (fun vs H Q E h => spG_len h) (fun cdv A outer s H vs Q E hr h => ⟨_,
  (pss_cons (ps_par (i := 4) (j := 5) (by rfl) sc_l_put.nd rfl rfl (by decide) rfl rfl (pa_cons (pe_ix (k_ix K) (pv 3) pe_int (fun _ _ => rfl)) (pa_cons (pe_ix (k_ix K) (pv 3) pe_int (fun _ _ => rfl)) pa_nil)) (by rfl))
  (pss_cons (ps_set (i := 6) sc_l_put.nd rfl (by first | exact Or.inl rfl | exact Or.inr rfl) (pe_op op_sub (pv 4) (pe_op op_times (pe_op op_fdiv (pv 4) (pv 1)) (pv 1))))
  (pss_cons (ps_set (i := 7) sc_l_put.nd rfl (by first | exact Or.inl rfl | exact Or.inr rfl) (pe_dget2 (un1 hr) (pv 0) (pv 6) pe_non ⟨rfl, rfl, rfl, rfl⟩))
  (pss_cons (ps_if (PW.pt (pw_and (pt_cmp (pc_notN (pv 7))) (pw_and (pt_cmpR (k_ne K hr.units) (pe_ix (k_ix K) (pv 7) pe_int (fun _ _ => rfl)) (pv 4) (nomark _)) (pw_and1 (PW.pt (pw_or (pt_cmpR (k_eq K hr.units) (pv 2) pe_str (nomark _)) (pw_or1 (PW.pt (pw_and (pt_cmpR (k_eq K hr.units) (pv 2) pe_str (nomark _)) (pw_and1 (pt_cmpR op_lt (pv 5) (pe_ix (k_ix K) (pv 7) pe_int (fun _ _ => rfl)) (nomark _))))))))))))
    (pss_one (ps_ret pe_bl))
    pss_nil)
  (pss_cons (ps_dput (un1 hr) (pv 0) (pv 6) (pv 3) rfl)
  (pss_one (ps_ret pe_bl))))))), ?_⟩)
  try simp only [cxK]
  exact run_fn (x := m_l_put )
    ((x_seq (x_par (s_op ro_ix s_var s_int) (s_op ro_ix s_var s_int))
  (x_seq (x_asg (s_op ro_sub s_var (s_op ro_times (s_op ro_fdiv s_var s_var) s_var)))
  (x_seq (x_asg (s_hget2 s_hV s_var s_non))
  (x_seq (x_if (s_band (s_B (s_notN s_var)) (s_band (s_test (s_op ro_ne (s_op ro_ix s_var s_int) s_var)) (s_bor (s_test (s_op ro_eq s_var s_str)) (s_band (s_test (s_op ro_eq s_var s_str)) (s_test (s_op ro_lt s_var (s_op ro_ix s_var s_int)))))))
    (x_ret s_bl)
    x_next)
  (x_seq (x_hput s_hV s_var s_var)
  (x_ret s_bl)))))))
    rfl h

theorem ok_law {f : Addr} {fd : FuncData} {k : Nat} {j_Table : Nat} {j_Table_len : Nat} {j_Table_str : Nat} {j_Table_eq : Nat} {F_l_draw F_l_pick F_Table_init_ F_Table_put F_l_put F_Table_get F_Table_eq_ F_Table_str_ F_Table_len_ F_Table_entries : FS} (F : FunD K "law" "law" (defArgs s_law) (defBody s_law) (defScope s_law) [] [] f fd) (B : Bn mg)
    (c_l_draw : Cal P w K mg base k "_law_draw" ["_law_script", "_law_town", "_law_many"] (spG (kX P w K mg base (lw + 1) tb) 3 F_l_draw))
    (c_l_pick : Cal P w K mg base k "_law_pick" ["_law_script", "_law_town", "_law_some"] (spG (kX P w K mg base (lw + 1) tb) 3 F_l_pick))
    (c_l_put : Cal P w K mg base k "_law_put" ["_law_rows", "_law_many", "_law_keeping", "_law_row"] (spG (kX P w K mg base (lw + 1) tb) 4 F_l_put))
    (cik_Table_keeps : CalIK P w K mg base j_Table "Table" ["self", "slots", "keeps"] 1 ["keeps"] gA (spG (kX P w K mg base (lw + 1) tb) 3 F_Table_init_))
    (cmk_Table_put_depth : CalMK P w K mg base k "Table" "put" ["self", "place", "low", "high", "move", "depth"] 4 ["depth"] gA (spG (kX P w K mg base (lw + 1) tb) 6 F_Table_put))
    (cm_Table_get : CalM P w K mg base k "Table" "get" ["self", "place"] [] (spG (kX P w K mg base (lw + 1) tb) 2 F_Table_get))
    (cm_Table_eq_ : CalM P w K mg base j_Table_eq "Table" "__eq__" ["self", "other"] [] (spG (kX P w K mg base (lw + 1) tb) 2 F_Table_eq_))
    (cm_Table_str_ : CalM P w K mg base j_Table_str "Table" "__str__" ["self"] [] (spG (kX P w K mg base (lw + 1) tb) 1 F_Table_str_))
    (cm_Table_len_ : CalM P w K mg base j_Table_len "Table" "__len__" ["self"] [] (spG (kX P w K mg base (lw + 1) tb) 1 F_Table_len_))
    (cm_Table_entries : CalM P w K mg base k "Table" "entries" ["self"] [] (spG (kX P w K mg base (lw + 1) tb) 1 F_Table_entries))
    (jl_Table : j_Table + 1 ≤ k)
    (ll_Table : j_Table_len + 1 ≤ k)
    (ls_Table : j_Table_str + 2 ≤ k)
    (le_Table : j_Table_eq + 2 ≤ k)
    (ow_Table : OwnK K mg "Table") :
    FnOk P w K mg base CX0 (k + 1) f fd ["_law_script"] (spG (kX P w K mg base (lw + 1) tb) 1 (fnS 24 (m_law_k14 F_l_draw F_l_pick F_Table_init_ F_Table_put F_l_put F_Table_get F_Table_eq_ F_Table_str_ F_Table_len_ F_Table_entries))) := by
  refine okD F sc_law (fun vs H Q E h => spG_len h) (fun cdv A outer s H vs Q E hr h => ⟨_,
  (pss_cons (ps_set (i := 1) sc_law.nd rfl (by first | exact Or.inl rfl | exact Or.inr rfl) (pe_lst pa_nil))
  (pss_cons (ps_for PassesOwn.never rfl (pi_range1 (by rfl) B.range (pa_cons pe_int pa_nil)) (pg_name (i := 2) sc_law.nd rfl (by first | exact Or.inl rfl | exact Or.inr rfl))
    (pss_cons (ps_par (i := 3) (j := 4) (by rfl) sc_law.nd rfl rfl (by decide) rfl rfl (pa_cons (pe_op (k_plus K) pe_int (pe_cal c_l_draw hr (pa_cons (pv 0) (pa_cons (pv 1) (pa_cons pe_int pa_nil))))) (pa_cons (pe_cal c_l_pick hr (pa_cons (pv 0) (pa_cons (pv 1) (pa_cons (pe_lst (pa_cons pe_str (pa_cons pe_str (pa_cons pe_str pa_nil)))) pa_nil)))) pa_nil)) (by rfl))
    (pss_cons (ps_set (i := 5) sc_law.nd rfl (by first | exact Or.inl rfl | exact Or.inr rfl) (pe_dget (un1 hr) (pe_disp (pps_cons pe_str pe_str (pps_cons pe_str pe_str (pps_cons pe_str pe_str pps_nil))) rfl rfl (by simp) (by simp)) (pv 4) (fun _ _ => rfl)))
    (pss_cons (ps_set (i := 6) sc_law.nd rfl (by first | exact Or.inl rfl | exact Or.inr rfl) (pe_lst (pa_cons (pe_tup (pa_cons (pv 3) (pa_cons (pv 4) pa_nil))) (pa_cons (pe_tup (pa_cons (pv 3) (pa_cons (pv 4) pa_nil))) (pa_cons (pe_tup (pa_cons (pe_op (k_plus K) (pv 3) pe_int) (pa_cons (pv 4) pa_nil))) (pa_cons (pe_tup (pa_cons (pv 3) (pa_cons (pv 5) pa_nil))) pa_nil))))))
    (pss_cons (ps_setLc (i := 7) (own := [("_law_one", 8), ("_law_word", 9)]) (by rfl) sc_law.nd rfl rfl (sw_true rfl rfl rfl (by decide +kernel)) (k_seq K (pv 6)) (blkOk_by (own := [("_law_one", 8), ("_law_word", 9)]) (N := ["_law_script", "_law_town", "_law_k", "_law_many", "_law_keeping", "_law_other", "_law_sorts", "_law_tables", "_law_one", "_law_word", "_law_stored", "_law_j", "_law_under", "_law_deep", "_law_row", "_law_least_at", "_law_at", "_law_told", "_law_keys", "_law_key", "_law_found", "_law_slot", "_law_alike", "_law_two"]) (sc := defScope s_law) (by decide +kernel)) (fun _ _ _ _ _ => (k_tup (n := 2) K rfl (pgs_cons (pg_name (i := 8) sc_law.nd rfl (by first | exact Or.inl rfl | exact Or.inr rfl)) (pgs_cons (pg_name (i := 9) sc_law.nd rfl (by first | exact Or.inl rfl | exact Or.inr rfl)) pgs_nil)))) (fun _ _ _ _ _ => pts_nil) (fun _ _ _ _ _ => (pe_calIK (κ := (kX P w K mg base (lw + 1) tb)) ⟨rfl, rfl, rfl, rfl, rfl⟩ cik_Table_keeps (hr.mono jl_Table) (pa_cons (pv 8) pa_nil) (pk_cons (pv 9) pk_nil))))
    (pss_cons (ps_set (i := 10) sc_law.nd rfl (by first | exact Or.inl rfl | exact Or.inr rfl) (pe_lst (pa_cons pe_dnewK (pa_cons pe_dnewK (pa_cons pe_dnewK (pa_cons pe_dnewK pa_nil))))))
    (pss_one (ps_for PassesOwn.never rfl (pi_range1 (by rfl) B.range (pa_cons pe_int pa_nil)) (pg_name (i := 11) sc_law.nd rfl (by first | exact Or.inl rfl | exact Or.inr rfl))
      (pss_cons (ps_par (i := 12) (j := 13) (by rfl) sc_law.nd rfl rfl (by decide) rfl rfl (pa_cons (pe_op op_sub (pe_cal c_l_draw hr (pa_cons (pv 0) (pa_cons (pv 1) (pa_cons pe_int pa_nil)))) pe_int) (pa_cons (pe_cal c_l_draw hr (pa_cons (pv 0) (pa_cons (pv 1) (pa_cons pe_int pa_nil)))) pa_nil)) (by rfl))
      (pss_cons (ps_set (i := 14) sc_law.nd rfl (by first | exact Or.inl rfl | exact Or.inr rfl) (pe_tup (pa_cons (pe_cal c_l_draw hr (pa_cons (pv 0) (pa_cons (pv 1) (pa_cons pe_int pa_nil)))) (pa_cons (pv 12) (pa_cons (pe_op (k_plus K) (pv 12) pe_int) (pa_cons (pe_cal c_l_pick hr (pa_cons (pv 0) (pa_cons (pv 1) (pa_cons (pe_lst (pa_cons pe_non (pa_cons pe_int pa_nil))) pa_nil)))) (pa_cons (pv 13) pa_nil)))))))
      (pss_cons (ps_set (i := 15) sc_law.nd rfl (by first | exact Or.inl rfl | exact Or.inr rfl) (pe_cal c_l_draw hr (pa_cons (pv 0) (pa_cons (pv 1) (pa_cons pe_int pa_nil)))))
      (pss_cons (ps_for PassesOwn.never rfl (pi_range1 (by rfl) B.range (pa_cons pe_int pa_nil)) (pg_name (i := 16) sc_law.nd rfl (by first | exact Or.inl rfl | exact Or.inr rfl))
        (pss_cons (ps_if (PW.pt (pw_or (pt_cmpR (k_ne K hr.units) (pv 16) pe_int (nomark _)) (pw_or1 (pt_cmpR op_gt (pv 15) pe_int (nomark _)))))
          (pss_cons (ps_set (i := 17) sc_law.nd rfl (by first | exact Or.inl rfl | exact Or.inr rfl) (pe_calMK (κ := (kX P w K mg base (lw + 1) tb)) ⟨rfl, rfl, rfl, rfl, rfl⟩ cmk_Table_put_depth hr (pe_ix (k_ix K) (pv 7) (pv 16) (fun _ _ => rfl)) (pa_cons (pe_ix (k_ix K) (pv 14) pe_int (fun _ _ => rfl)) (pa_cons (pe_ix (k_ix K) (pv 14) pe_int (fun _ _ => rfl)) (pa_cons (pe_ix (k_ix K) (pv 14) pe_int (fun _ _ => rfl)) (pa_cons (pe_ix (k_ix K) (pv 14) pe_int (fun _ _ => rfl)) pa_nil)))) (pk_cons (pv 13) pk_nil)))
          (pss_one (ps_if (pt_cmpR (k_ne K hr.units) (pv 17) (pe_cal c_l_put hr (pa_cons (pe_ix (k_ix K) (pv 10) (pv 16) (fun _ _ => rfl)) (pa_cons (pe_ix (k_ix K) (pe_ix (k_ix K) (pv 6) (pv 16) (fun _ _ => rfl)) pe_int (fun _ _ => rfl)) (pa_cons (pe_ix (k_ix K) (pe_ix (k_ix K) (pv 6) (pv 16) (fun _ _ => rfl)) pe_int (fun _ _ => rfl)) (pa_cons (pv 14) pa_nil))))) (nomark _))
            (pss_one (ps_ret pe_bl))
            pss_nil)))
          pss_nil)
        (pss_one (ps_if (pt_cmpR (k_eq K hr.units) (pe_cal c_l_draw hr (pa_cons (pv 0) (pa_cons (pv 1) (pa_cons pe_int pa_nil)))) pe_int (nomark _))
          (pss_one (ps_expr (pe_calM (κ := (kX P w K mg base (lw + 1) tb)) ⟨rfl, rfl, rfl, rfl, rfl⟩ cm_Table_get hr (pe_ix (k_ix K) (pv 7) (pv 16) (fun _ _ => rfl)) (pa_cons (pe_ix (k_ix K) (pv 14) pe_int (fun _ _ => rfl)) pa_nil))))
          pss_nil))))
      (pss_cons (ps_set (i := 18) sc_law.nd rfl (by first | exact Or.inl rfl | exact Or.inr rfl) (pe_lc (own := [("_law_at", 16)]) (by rfl) sc_law.nd (pi_range1 (by rfl) B.range (pa_cons pe_int pa_nil)) (blkOk_by (own := [("_law_at", 16)]) (N := ["_law_script", "_law_town", "_law_k", "_law_many", "_law_keeping", "_law_other", "_law_sorts", "_law_tables", "_law_one", "_law_word", "_law_stored", "_law_j", "_law_under", "_law_deep", "_law_row", "_law_least_at", "_law_at", "_law_told", "_law_keys", "_law_key", "_law_found", "_law_slot", "_law_alike", "_law_two"]) (sc := defScope s_law) (by decide +kernel)) (fun _ _ _ _ _ => (pg_name (i := 16) sc_law.nd rfl (by first | exact Or.inl rfl | exact Or.inr rfl))) (fun _ _ _ _ _ => pts_nil) (fun _ _ _ _ _ => (pe_tup (pa_cons (pe_ix (k_ix K) (pv 6) (pv 16) (fun _ _ => rfl)) (pa_cons (pe_callB (k_sortU K) (by rfl) B.sorted (by decide +kernel) (pa_cons (LiI.pe_listItems rfl (pe_ix (k_ix K) (pv 10) (pv 16) (fun _ _ => rfl)) (by rfl) B.list (by decide +kernel)) pa_nil)) pa_nil))))))
      (pss_cons (ps_set (i := 18) sc_law.nd rfl (by first | exact Or.inl rfl | exact Or.inr rfl) (pe_lc (own := [("_law_key", 19), ("_law_found", 20)]) (by rfl) sc_law.nd (k_seq K (pv 18)) (blkOk_by (own := [("_law_key", 19), ("_law_found", 20)]) (N := ["_law_script", "_law_town", "_law_k", "_law_many", "_law_keeping", "_law_other", "_law_sorts", "_law_tables", "_law_one", "_law_word", "_law_stored", "_law_j", "_law_under", "_law_deep", "_law_row", "_law_least_at", "_law_at", "_law_told", "_law_keys", "_law_key", "_law_found", "_law_slot", "_law_alike", "_law_two"]) (sc := defScope s_law) (by decide +kernel)) (fun _ _ _ _ _ => (k_tup (n := 2) K rfl (pgs_cons (pg_name (i := 19) sc_law.nd rfl (by first | exact Or.inl rfl | exact Or.inr rfl)) (pgs_cons (pg_name (i := 20) sc_law.nd rfl (by first | exact Or.inl rfl | exact Or.inr rfl)) pgs_nil)))) (fun _ _ _ _ _ => pts_nil) (fun _ _ _ _ _ => (pe_tup (pa_cons (pv 19) (pa_cons (pe_lc (own := [("_law_slot", 21), ("_law_row", 14)]) (by rfl) sc_law.nd (k_seq K (pv 20)) (blkOk_by (own := [("_law_slot", 21), ("_law_row", 14)]) (N := ["_law_script", "_law_town", "_law_k", "_law_many", "_law_keeping", "_law_other", "_law_sorts", "_law_tables", "_law_one", "_law_word", "_law_stored", "_law_j", "_law_under", "_law_deep", "_law_row", "_law_least_at", "_law_at", "_law_told", "_law_keys", "_law_key", "_law_found", "_law_slot", "_law_alike", "_law_two"]) (sc := _) (by rfl)) (fun _ _ _ _ _ => (k_tup (n := 2) K rfl (pgs_cons (pg_name (i := 21) sc_law.nd rfl (by first | exact Or.inl rfl | exact Or.inr rfl)) (pgs_cons (pg_name (i := 14) sc_law.nd rfl (by first | exact Or.inl rfl | exact Or.inr rfl)) pgs_nil)))) (fun _ _ _ _ _ => pts_nil) (fun _ _ _ _ _ => (pe_slice (k_sl K) (pv 14) po_none (po_some pe_int)))) (pa_cons (pv 20) pa_nil)))))))
      (pss_one (ps_for PassesOwn.never rfl (k_enumA K (by rfl) B.enumerate (pa_cons (pv 7) pa_nil)) (k_tup (n := 2) K rfl (pgs_cons (pg_name (i := 16) sc_law.nd rfl (by first | exact Or.inl rfl | exact Or.inr rfl)) (pgs_cons (pg_name (i := 8) sc_law.nd rfl (by first | exact Or.inl rfl | exact Or.inr rfl)) pgs_nil)))
        (pss_cons (ps_setLc (i := 22) (own := [("_law_key", 19)]) (by rfl) sc_law.nd rfl rfl (sw_true rfl rfl rfl (by decide +kernel)) (k_seq K (pv 18)) (blkOk_by (own := [("_law_key", 19)]) (N := ["_law_script", "_law_town", "_law_k", "_law_many", "_law_keeping", "_law_other", "_law_sorts", "_law_tables", "_law_one", "_law_word", "_law_stored", "_law_j", "_law_under", "_law_deep", "_law_row", "_law_least_at", "_law_at", "_law_told", "_law_keys", "_law_key", "_law_found", "_law_slot", "_law_alike", "_law_two"]) (sc := defScope s_law) (by decide +kernel)) (fun _ _ _ _ _ => (pg_name (i := 19) sc_law.nd rfl (by first | exact Or.inl rfl | exact Or.inr rfl))) (fun _ _ _ _ _ => pts_nil) (fun _ _ _ _ _ => (pe_cmpR (k_eq K hr.units) (pv 19) (pe_ix (k_ix K) (pv 18) (pv 16) (fun _ _ => rfl)) (nomark _))))
        (pss_cons (ps_if (pt_cmpR (k_ne K hr.units) (pe_lc (own := [("_law_two", 23)]) (by rfl) sc_law.nd (k_seq K (pv 7)) (blkOk_by (own := [("_law_two", 23)]) (N := ["_law_script", "_law_town", "_law_k", "_law_many", "_law_keeping", "_law_other", "_law_sorts", "_law_tables", "_law_one", "_law_word", "_law_stored", "_law_j", "_law_under", "_law_deep", "_law_row", "_law_least_at", "_law_at", "_law_told", "_law_keys", "_law_key", "_law_found", "_law_slot", "_law_alike", "_law_two"]) (sc := defScope s_law) (by decide +kernel)) (fun _ _ _ _ _ => (pg_name (i := 23) sc_law.nd rfl (by first | exact Or.inl rfl | exact Or.inr rfl))) (fun _ _ _ _ _ => pts_nil) (fun _ _ _ _ _ => (pe_cmpR (op_ownEq (κ := (kX P w K mg base (lw + 1) tb)) ⟨rfl, rfl, rfl, rfl, rfl⟩ cm_Table_eq_ (hr.mono (Nat.le_of_succ_le (Nat.le_of_succ_le le_Table))) ow_Table) (pv 8) (pv 23) (nomark _)))) (pv 22) (nomark _))
          (pss_one (ps_ret pe_bl))
          pss_nil)
        (pss_cons (ps_if (pt_cmpR (k_ne K hr.units) (pe_lc (own := [("_law_two", 23)]) (by rfl) sc_law.nd (k_seq K (pv 7)) (blkOk_by (own := [("_law_two", 23)]) (N := ["_law_script", "_law_town", "_law_k", "_law_many", "_law_keeping", "_law_other", "_law_sorts", "_law_tables", "_law_one", "_law_word", "_law_stored", "_law_j", "_law_under", "_law_deep", "_law_row", "_law_least_at", "_law_at", "_law_told", "_law_keys", "_law_key", "_law_found", "_law_slot", "_law_alike", "_law_two"]) (sc := defScope s_law) (by decide +kernel)) (fun _ _ _ _ _ => (pg_name (i := 23) sc_law.nd rfl (by first | exact Or.inl rfl | exact Or.inr rfl))) (fun _ _ _ _ _ => pts_nil) (fun _ _ _ _ _ => (pe_cmpR (op_ownNe (κ := (kX P w K mg base (lw + 1) tb)) ⟨rfl, rfl, rfl, rfl, rfl⟩ cm_Table_eq_ (hr.mono (Nat.le_of_succ_le le_Table)) ow_Table) (pv 23) (pv 8) (nomark _)))) (pe_lc (own := [("_law_word", 9)]) (by rfl) sc_law.nd (k_seq K (pv 22)) (blkOk_by (own := [("_law_word", 9)]) (N := ["_law_script", "_law_town", "_law_k", "_law_many", "_law_keeping", "_law_other", "_law_sorts", "_law_tables", "_law_one", "_law_word", "_law_stored", "_law_j", "_law_under", "_law_deep", "_law_row", "_law_least_at", "_law_at", "_law_told", "_law_keys", "_law_key", "_law_found", "_law_slot", "_law_alike", "_law_two"]) (sc := defScope s_law) (by decide +kernel)) (fun _ _ _ _ _ => (pg_name (i := 9) sc_law.nd rfl (by first | exact Or.inl rfl | exact Or.inr rfl))) (fun _ _ _ _ _ => pts_nil) (fun _ _ _ _ _ => (k_notT K (pv 9)))) (nomark _))
          (pss_one (ps_ret pe_bl))
          pss_nil)
        (pss_cons (ps_if (PW.pt (pw_or (pt_cmpR (k_ne K hr.units) (pe_bmX PySem.F.plainAttrs_tuple PySem.F.slot_tuple_index PySem.F.type_tuple_index (mt_indexOwn (κ := (kX P w K mg base (lw + 1) tb)) ⟨rfl, rfl, rfl, rfl, rfl⟩ cm_Table_eq_ (hr.mono (Nat.le_of_succ_le le_Table)) ow_Table) (pe_callTy cr_tupX (by rfl) B.tuple (by decide +kernel) (pa_cons (pv 7) pa_nil)) (pa_cons (pv 8) pa_nil)) (pe_bm PySem.F.plainAttrs_list PySem.F.slot_list_index PySem.F.type_list_index (k_indexD (kX P w K mg base (lw + 1) tb) (in65 hr)) (pv 22) (pa_cons pe_bl pa_nil)) (nomark _)) (pw_or1 (pt_cmpR (k_ne K hr.units) (pe_bm PySem.F.plainAttrs_list PySem.F.slot_list_count PySem.F.type_list_count (mt_countOwn (κ := (kX P w K mg base (lw + 1) tb)) ⟨rfl, rfl, rfl, rfl, rfl⟩ cm_Table_eq_ (hr.mono (Nat.le_of_succ_le le_Table)) ow_Table) (pv 7) (pa_cons (pv 8) pa_nil)) (pe_bm PySem.F.plainAttrs_list PySem.F.slot_list_count PySem.F.type_list_count (k_countD (kX P w K mg base (lw + 1) tb) (in65 hr)) (pv 22) (pa_cons pe_bl pa_nil)) (nomark _)))))
          (pss_one (ps_ret pe_bl))
          pss_nil)
        (pss_one (ps_if (PW.pt (pw_or (pt_cmpR (op_ownEq (κ := (kX P w K mg base (lw + 1) tb)) ⟨rfl, rfl, rfl, rfl, rfl⟩ cm_Table_eq_ (hr.mono (Nat.le_of_succ_le (Nat.le_of_succ_le le_Table))) ow_Table) (pv 8) (pe_calM0 (κ := (kX P w K mg base (lw + 1) tb)) ⟨rfl, rfl, rfl, rfl, rfl⟩ cm_Table_entries hr (pv 8)) (nomark _)) (pw_or (pt_cmpR (op_ownEq (κ := (kX P w K mg base (lw + 1) tb)) ⟨rfl, rfl, rfl, rfl, rfl⟩ cm_Table_eq_ (hr.mono (Nat.le_of_succ_le (Nat.le_of_succ_le le_Table))) ow_Table) (pv 8) (pe_callB (call_lenO (κ := (kX P w K mg base (lw + 1) tb)) ⟨rfl, rfl, rfl, rfl, rfl⟩ cm_Table_len_ (hr.mono ll_Table)) (by rfl) B.len (by decide +kernel) (pa_cons (pv 8) pa_nil)) (nomark _)) (pw_or (pt_cmpR (op_ownEq (κ := (kX P w K mg base (lw + 1) tb)) ⟨rfl, rfl, rfl, rfl, rfl⟩ cm_Table_eq_ (hr.mono (Nat.le_of_succ_le (Nat.le_of_succ_le le_Table))) ow_Table) (pv 8) (pe_callTy (call_strO (κ := (kX P w K mg base (lw + 1) tb)) ⟨rfl, rfl, rfl, rfl, rfl⟩ cm_Table_str_ (hr.mono ls_Table)) (by rfl) B.str (by decide +kernel) (pa_cons (pv 8) pa_nil)) (nomark _)) (pw_or1 (pt_cmpR (op_ownEq (κ := (kX P w K mg base (lw + 1) tb)) ⟨rfl, rfl, rfl, rfl, rfl⟩ cm_Table_eq_ (hr.mono (Nat.le_of_succ_le (Nat.le_of_succ_le le_Table))) ow_Table) (pv 8) (pe_tup pa_nil) (nomark _)))))))
          (pss_one (ps_ret pe_bl))
          pss_nil))))))))))))))))))))))
  (pss_one (ps_ret pe_bl)))), ?_⟩)
  try simp only [cxK]
  exact run_fn (x := m_law_k14 F_l_draw F_l_pick F_Table_init_ F_Table_put F_l_put F_Table_get F_Table_eq_ F_Table_str_ F_Table_len_ F_Table_entries)
    ((x_seq (x_newL (s_lst s_nil))
  (x_seq (x_for (s_iwipe (s_irg1 s_int)) b_name
    (x_keep (x_seq (x_par (s_op ro_plus s_int (s_call (s_vcons (s_vE s_var) (s_vcons s_vR (s_vcons (s_vE s_int) s_vnil))) (vn_cons (vn_cons (vn_cons vn_nil))))) (s_call (s_vcons (s_vE s_var) (s_vcons s_vR (s_vcons (s_vE (s_ofL (s_lst (s_cons s_str (s_cons s_str (s_cons s_str s_nil)))))) s_vnil))) (vn_cons (vn_cons (vn_cons vn_nil)))))
    (x_seq (x_asg (s_dstr (by decide) (by rfl) s_var))
    (x_seq (x_asg (s_ofL (s_lst (s_cons (s_tup (s_cons s_var (s_cons s_var s_nil))) (s_cons (s_tup (s_cons s_var (s_cons s_var s_nil))) (s_cons (s_tup (s_cons (s_op ro_plus s_var s_int) (s_cons s_var s_nil))) (s_cons (s_tup (s_cons s_var (s_cons s_var s_nil))) s_nil)))))))
    (x_seq (x_asgV (s_lcN (vs := [8, 9]) mono_D (ig_D (s_iseq s_var)) (gin_tup (gins_cons (gin_name (by decide)) (gins_cons (gin_name (by decide)) gins_nil gmono_name) gmono_name)) (gmono_tup (gmonos_cons gmono_name (gmonos_cons gmono_name gmonos_nil))) (bg_D (b_tup (bs_cons b_name (bs_cons b_name bs_nil)))) s_yes (og_ref (s_makeK hg_A (fun as ks h1 h2 => by simp [gA, gL, gH, h1, h2]) (s_vcons (s_vE s_var) s_vnil) (s_vcons (s_vE s_var) s_vnil) (vn_cons vn_nil) (vn_cons vn_nil)))))
    (x_seq (x_asgV (s_osL (og_cons og_newD (og_cons og_newD (og_cons og_newD (og_cons og_newD og_nil))))))
    (x_for (s_iwipe (s_irg1 s_int)) b_name
      (x_keep (x_seq (x_par (s_op ro_sub (s_call (s_vcons (s_vE s_var) (s_vcons s_vR (s_vcons (s_vE s_int) s_vnil))) (vn_cons (vn_cons (vn_cons vn_nil)))) s_int) (s_call (s_vcons (s_vE s_var) (s_vcons s_vR (s_vcons (s_vE s_int) s_vnil))) (vn_cons (vn_cons (vn_cons vn_nil)))))
      (x_seq (x_asg (s_tup (s_cons (s_call (s_vcons (s_vE s_var) (s_vcons s_vR (s_vcons (s_vE s_int) s_vnil))) (vn_cons (vn_cons (vn_cons vn_nil)))) (s_cons s_var (s_cons (s_op ro_plus s_var s_int) (s_cons (s_call (s_vcons (s_vE s_var) (s_vcons s_vR (s_vcons (s_vE (s_ofL (s_lst (s_cons s_non (s_cons s_int s_nil))))) s_vnil))) (vn_cons (vn_cons (vn_cons vn_nil)))) (s_cons s_var s_nil)))))))
      (x_seq (x_asg (s_call (s_vcons (s_vE s_var) (s_vcons s_vR (s_vcons (s_vE s_int) s_vnil))) (vn_cons (vn_cons (vn_cons vn_nil)))))
      (x_seq (x_for (s_iwipe (s_irg1 s_int)) b_name
        (x_keep (x_seq (x_if (s_bor (s_test (s_op ro_ne s_var s_int)) (s_test (s_op ro_gt s_var s_int)))
          (x_seq (x_asg (s_methK hg_A (fun as ks h1 h2 => by simp [gA, gL, gH, h1, h2]) (s_hIx s_var) (s_vcons (s_vE (s_op ro_ix s_var s_int)) (s_vcons (s_vE (s_op ro_ix s_var s_int)) (s_vcons (s_vE (s_op ro_ix s_var s_int)) (s_vcons (s_vE (s_op ro_ix s_var s_int)) s_vnil)))) (s_vcons (s_vE s_var) s_vnil) (vn_cons (vn_cons (vn_cons (vn_cons vn_nil)))) (vn_cons vn_nil)))
          (x_if (s_test (s_op ro_ne s_var (s_call (s_vcons (s_vH (s_hIx s_var)) (s_vcons (s_vE (s_op ro_ix (s_op ro_ix s_var s_var) s_int)) (s_vcons (s_vE (s_op ro_ix (s_op ro_ix s_var s_var) s_int)) (s_vcons (s_vE s_var) s_vnil)))) (vn_cons (vn_cons (vn_cons (vn_cons vn_nil)))))))
            (x_ret s_bl)
            x_next))
          x_next)
        (x_if (s_test (s_op ro_eq (s_call (s_vcons (s_vE s_var) (s_vcons s_vR (s_vcons (s_vE s_int) s_vnil))) (vn_cons (vn_cons (vn_cons vn_nil)))) s_int))
          (x_drop (s_meth (s_hIx s_var) (s_vcons (s_vE (s_op ro_ix s_var s_int)) s_vnil) (vn_cons vn_nil) (fun _ => .nil) rfl))
          x_next))))
      (x_seq (x_asg (s_ofL (s_lc (vs := [16]) (s_irg1 s_int) (gin_name (by decide)) gmono_name b_name s_yes (s_tup (s_cons (s_op ro_ix s_var s_var) (s_cons (s_cb rc_sortUD (s_cons (s_ofL (s_hitems (s_hIx s_var))) s_nil)) s_nil))))))
      (x_seq (x_asg (s_ofL (s_lc (vs := [19, 20]) (s_iseq s_var) (gin_tup (gins_cons (gin_name (by decide)) (gins_cons (gin_name (by decide)) gins_nil gmono_name) gmono_name)) (gmono_tup (gmonos_cons gmono_name (gmonos_cons gmono_name gmonos_nil))) (b_tup (bs_cons b_name (bs_cons b_name bs_nil))) s_yes (s_tup (s_cons s_var (s_cons (s_ofL (s_lc (vs := [21, 14]) (s_iseq s_var) (gin_tup (gins_cons (gin_name (by decide)) (gins_cons (gin_name (by decide)) gins_nil gmono_name) gmono_name)) (gmono_tup (gmonos_cons gmono_name (gmonos_cons gmono_name gmonos_nil))) (b_tup (bs_cons b_name (bs_cons b_name bs_nil))) s_yes (s_sl s_var s_onone (s_osome s_int)))) (s_cons s_var s_nil)))))))
      (xg_for mono_O (s_iwipeG s_ienO) bo_pr
        (x_keep (x_seq (x_asg (s_ofL (s_lc (vs := [19]) (s_iseq s_var) (gin_name (by decide)) gmono_name b_name s_yes (s_op ro_eq s_var (s_op ro_ix s_var s_var)))))
        (x_seq (x_if (s_test (s_op ro_ne (s_ofL (s_lcO (vs := [23]) s_ios (gin_name (by decide)) gmono_name bo_name s_yes (s_own ow_Table s_hV (s_vH s_hV)))) s_var))
          (x_ret s_bl)
          x_next)
        (x_seq (x_if (s_test (s_op ro_ne (s_ofL (s_lcO (vs := [23]) s_ios (gin_name (by decide)) gmono_name bo_name s_yes (s_own ow_Table s_hV (s_vH s_hV)))) (s_ofL (s_lc (vs := [9]) (s_iseq s_var) (gin_name (by decide)) gmono_name b_name s_yes (s_not s_var)))))
          (x_ret s_bl)
          x_next)
        (x_seq (x_if (s_bor (s_test (s_op ro_ne (s_idxO ow_Table s_hV) (s_index s_var s_bl))) (s_test (s_op ro_ne (s_cntO ow_Table s_hV) (s_countD s_var s_bl))))
          (x_ret s_bl)
          x_next)
        (x_if (s_bor (s_test (s_own ow_Table s_hV (s_vE (s_meth s_hV s_vnil vn_nil (fun _ => .nil) rfl)))) (s_bor (s_test (s_own ow_Table s_hV (s_vE (s_lenO s_hV)))) (s_bor (s_test (s_own ow_Table s_hV (s_vE (s_strO s_hV)))) (s_test (s_own ow_Table s_hV (s_vE (s_tup s_nil)))))))
          (x_ret s_bl)
          x_next))))))))))))))))))))))
  (x_ret s_bl))))
    rfl h

set_option maxHeartbeats 8000000 in
theorem law_all {h : Heap} (X : K.In h) (G : h.Ns mainGlobals mg) {fa : Addr} (hfa : mg "law" = some (.ref fa)) (c : He.SaysX fas fns [] tfs exs w h K) :
    ∃ fd : FuncData, (∀ (s : Shared) (v : Value), BindsTo s fd ⟨[v], []⟩ [("_law_script", v)]) ∧ ∀ base : Heap, K.In base → base.Ns mainGlobals mg → (∀ p ∈ tfs, LamX.TabB base mg (He.cT K p).1 (He.cT K p).2) → FnOk P w K mg base CX0 8 fa fd ["_law_script"] (spLawT K (tfs.map fun p => (He.cT K p).2)) := by
  have cD : He.SaysD fas fns K := congrArg (fun z : He.AlT => z.1) c.t
  have B : Bn mg := ⟨He.free_ok X G (cD.fact 18 (f := .free "len") rfl), He.free_ok X G (cD.fact 19 (f := .free "list") rfl), He.free_ok X G (cD.fact 20 (f := .free "tuple") rfl), He.free_ok X G (cD.fact 21 (f := .free "range") rfl), He.free_ok X G (cD.fact 22 (f := .free "zip") rfl), He.free_ok X G (cD.fact 23 (f := .free "enumerate") rfl), He.free_ok X G (cD.fact 24 (f := .free "abs") rfl), He.free_ok X G (cD.fact 25 (f := .free "max") rfl), He.free_ok X G (cD.fact 26 (f := .free "min") rfl), He.free_ok X G (cD.fact 27 (f := .free "sum") rfl), He.free_ok X G (cD.fact 28 (f := .free "all") rfl), He.free_ok X G (cD.fact 29 (f := .free "any") rfl), He.free_ok X G (cD.fact 30 (f := .free "sorted") rfl), He.free_ok X G (cD.fact 31 (f := .free "isinstance") rfl), He.free_ok X G (cD.fact 32 (f := .free "int") rfl), He.free_ok X G (cD.fact 33 (f := .free "bool") rfl), He.free_ok X G (cD.fact 34 (f := .free "str") rfl), He.free_ok X G (cD.fact 35 (f := .free "set") rfl)⟩
  obtain ⟨fd_Table_init_, F_Table_init_⟩ := cD.def_ 0 (d := dd_Table_init_) rfl
  obtain ⟨fd_Table_len_, F_Table_len_⟩ := cD.def_ 1 (d := dd_Table_len_) rfl
  have B_Table_len_ : Binds K fd_Table_len_ ["self"] [] := FunD.bindsN F_Table_len_ fun _ _ _ _ _ _ us hl => match us, hl with | [_], _ => rfl
  obtain ⟨fd_Table_entries, F_Table_entries⟩ := cD.def_ 2 (d := dd_Table_entries) rfl
  have B_Table_entries : Binds K fd_Table_entries ["self"] [] := FunD.bindsN F_Table_entries fun _ _ _ _ _ _ us hl => match us, hl with | [_], _ => rfl
  have h_Table_entries := codeD (p := ("Table", some "entries")) F_Table_entries
  obtain ⟨fd_Table_eq_, F_Table_eq_⟩ := cD.def_ 3 (d := dd_Table_eq_) rfl
  have B_Table_eq_ : Binds K fd_Table_eq_ ["self", "other"] [] := FunD.bindsN F_Table_eq_ fun _ _ _ _ _ _ us hl => match us, hl with | [_, _], _ => rfl
  obtain ⟨fd_Table_str_, F_Table_str_⟩ := cD.def_ 4 (d := dd_Table_str_) rfl
  have B_Table_str_ : Binds K fd_Table_str_ ["self"] [] := FunD.bindsN F_Table_str_ fun _ _ _ _ _ _ us hl => match us, hl with | [_], _ => rfl
  obtain ⟨fd_Table_put, F_Table_put⟩ := cD.def_ 5 (d := dd_Table_put) rfl
  obtain ⟨fd_Table_get, F_Table_get⟩ := cD.def_ 6 (d := dd_Table_get) rfl
  have B_Table_get : Binds K fd_Table_get ["self", "place"] [] := FunD.bindsN F_Table_get fun _ _ _ _ _ _ us hl => match us, hl with | [_, _], _ => rfl
  obtain ⟨fd_l_draw, F_l_draw⟩ := cD.def_ 7 (d := dd_l_draw) rfl
  have g_l_draw := He.glo_ok X G (cD.fact 0 (f := .glo "_law_draw") rfl)
  have B_l_draw : Binds K fd_l_draw ["_law_script", "_law_town", "_law_many"] [] := FunD.bindsN F_l_draw fun _ _ _ _ _ _ us hl => match us, hl with | [_, _, _], _ => rfl
  obtain ⟨fd_l_pick, F_l_pick⟩ := cD.def_ 8 (d := dd_l_pick) rfl
  have g_l_pick := He.glo_ok X G (cD.fact 1 (f := .glo "_law_pick") rfl)
  have B_l_pick : Binds K fd_l_pick ["_law_script", "_law_town", "_law_some"] [] := FunD.bindsN F_l_pick fun _ _ _ _ _ _ us hl => match us, hl with | [_, _, _], _ => rfl
  obtain ⟨fd_l_put, F_l_put⟩ := cD.def_ 9 (d := dd_l_put) rfl
  have g_l_put := He.glo_ok X G (cD.fact 2 (f := .glo "_law_put") rfl)
  have B_l_put : Binds K fd_l_put ["_law_rows", "_law_many", "_law_keeping", "_law_row"] [] := FunD.bindsN F_l_put fun _ _ _ _ _ _ us hl => match us, hl with | [_, _, _, _], _ => rfl
  obtain ⟨fd_law, F_law⟩ := cD.def_ 10 (d := dd_law) rfl
  have g_law := He.glo_ok X G (cD.fact 3 (f := .glo "law") rfl)
  have B_law : Binds K fd_law ["_law_script"] [] := FunD.bindsN F_law fun _ _ _ _ _ _ us hl => match us, hl with | [_], _ => rfl
  have gc_Table := He.glo_ok X G (cD.fact 4 (f := .glo "Table") rfl)
  have cl_Table := He.cls_ok (cD.fact 5 (f := .cls "Table") rfl)
  have mk_Table := He.mkr_ok (cD.fact 6 (f := .mkr "Table") rfl)
  have mt_Table_len_ := He.meth_ok (cD.fact 12 (f := .meth "Table" "__len__") rfl)
  have mt_Table_entries := He.meth_ok (cD.fact 13 (f := .meth "Table" "entries") rfl)
  have mt_Table_eq_ := He.meth_ok (cD.fact 14 (f := .meth "Table" "__eq__") rfl)
  have mt_Table_str_ := He.meth_ok (cD.fact 15 (f := .meth "Table" "__str__") rfl)
  have mt_Table_put := He.meth_ok (cD.fact 16 (f := .meth "Table" "put") rfl)
  have mt_Table_get := He.meth_ok (cD.fact 17 (f := .meth "Table" "get") rfl)
  have MORE : exs K = true := c.more
  simp only [exs, Bool.and_eq_true] at MORE
  have NDS : (([("Table.entries", He.cT K ("Table", some "entries"))] : List (Str × Addr × Addr)).map (·.2.2)).Nodup := of_decide_eq_true MORE.1
  have ow_Table : OwnK K mg "Table" := ⟨_, gc_Table, eqFB_ok MORE.2, cl_Table⟩
  cases hfa.symm.trans g_law
  refine ⟨fd_law, fun s v => FunD.bindsA (ps := ["_law_script"]) F_law (fun _ _ _ _ _ _ us hl => match us, hl with | [_], _ => rfl) s [v] rfl, fun base _ _ TBS0 => ?_⟩
  have TBS : ∀ p ∈ ([("Table.entries", He.cT K ("Table", some "entries"))] : List (Str × Addr × Addr)), LamX.TabB base mg p.2.1 p.2.2 := fun p hp => by
    simp only [List.mem_cons, List.not_mem_nil, or_false] at hp
    rcases hp with rfl
    all_goals exact TBS0 _ (by simp [tfs])
  have f_Table_slots : FldOk (kX P w K mg base (3 + 1) (tabsOf [("Table.entries", He.cT K ("Table", some "entries"))])) "Table" "slots" := fld_ok X G (cD.fact 4 (f := .glo "Table") rfl) (cD.fact 5 (f := .cls "Table") rfl) (cD.fact 7 (f := .noat "Table" "slots") rfl)
  have f_Table_keeps : FldOk (kX P w K mg base (3 + 1) (tabsOf [("Table.entries", He.cT K ("Table", some "entries"))])) "Table" "keeps" := fld_ok X G (cD.fact 4 (f := .glo "Table") rfl) (cD.fact 5 (f := .cls "Table") rfl) (cD.fact 8 (f := .noat "Table" "keeps") rfl)
  have f_Table_rows : FldOk (kX P w K mg base (3 + 1) (tabsOf [("Table.entries", He.cT K ("Table", some "entries"))])) "Table" "rows" := fld_ok X G (cD.fact 4 (f := .glo "Table") rfl) (cD.fact 5 (f := .cls "Table") rfl) (cD.fact 9 (f := .noat "Table" "rows") rfl)
  have f_Table_asked : FldOk (kX P w K mg base (3 + 1) (tabsOf [("Table.entries", He.cT K ("Table", some "entries"))])) "Table" "asked" := fld_ok X G (cD.fact 4 (f := .glo "Table") rfl) (cD.fact 5 (f := .cls "Table") rfl) (cD.fact 10 (f := .noat "Table" "asked") rfl)
  have f_Table_found : FldOk (kX P w K mg base (3 + 1) (tabsOf [("Table.entries", He.cT K ("Table", some "entries"))])) "Table" "found" := fld_ok X G (cD.fact 4 (f := .glo "Table") rfl) (cD.fact 5 (f := .cls "Table") rfl) (cD.fact 11 (f := .noat "Table" "found") rfl)
  have o_Table_init_ : FnOk P w K mg base CX0 1 _ fd_Table_init_ ["self", "slots", "keeps"] (spG (kX P w K mg base (3 + 1) (tabsOf [("Table.entries", He.cT K ("Table", some "entries"))])) 3 f_Table_init_) := ok_Table_init_ (k := 0) F_Table_init_ B f_Table_slots f_Table_keeps f_Table_rows f_Table_asked f_Table_found
  obtain ⟨_, K_Table_init__keeps⟩ := kbn0 F_Table_init_ (by simp [dd_Table_init_, He.DefD.kws, He.Dv.v]) 2 ["keeps"] [] (fun q hq => nomatch hq) (fun us mv ws => us ++ ws) (fun r1 r2 r3 => r1.append r3) (ps := ["self", "slots", "keeps"]) (fun D doc pm an cdv ct us mv ws h1 h2 h3 => match us, h1, mv, h2, ws, h3 with | [_, _], _, [], _, [_], _ => by first | rfl | exact ⟨_, _, _, _, _, _, rfl, rfl, rfl⟩ | exact ⟨_, _, _, _, _, _, rfl, rfl, _, _, _, _, _, _, rfl, rfl, rfl⟩)
  have eik_Table_init__keeps : CalIK P w K mg base 1 "Table" ["self", "slots", "keeps"] 1 ["keeps"] gA (spG (kX P w K mg base (3 + 1) (tabsOf [("Table.entries", He.cT K ("Table", some "entries"))])) 3 f_Table_init_) := ⟨_, _, fd_Table_init_, _, gc_Table, mk_Table, o_Table_init_, K_Table_init__keeps⟩
  have o_Table_len_ : FnOk P w K mg base CX0 1 _ fd_Table_len_ ["self"] (spG (kX P w K mg base (3 + 1) (tabsOf [("Table.entries", He.cT K ("Table", some "entries"))])) 1 f_Table_len_) := ok_Table_len_ (k := 0) F_Table_len_ B f_Table_rows
  have em_Table_len_ : CalM P w K mg base 1 "Table" "__len__" ["self"] [] (spG (kX P w K mg base (3 + 1) (tabsOf [("Table.entries", He.cT K ("Table", some "entries"))])) 1 f_Table_len_) := ⟨_, _, fd_Table_len_, [], gc_Table, cl_Table, mt_Table_len_, o_Table_len_, .nil, B_Table_len_⟩
  have o_Table_entries : FnOk P w K mg base CX0 4 _ fd_Table_entries ["self"] (spG (kX P w K mg base (3 + 1) (tabsOf [("Table.entries", He.cT K ("Table", some "entries"))])) 1 f_Table_entries) := ok_Table_entries (k := 3) F_Table_entries B h_Table_entries (by exact tabAt_of TBS NDS (p := ("Table.entries", He.cT K ("Table", some "entries"))) (by simp)) f_Table_rows (by decide)
  have em_Table_entries : CalM P w K mg base 4 "Table" "entries" ["self"] [] (spG (kX P w K mg base (3 + 1) (tabsOf [("Table.entries", He.cT K ("Table", some "entries"))])) 1 f_Table_entries) := ⟨_, _, fd_Table_entries, [], gc_Table, cl_Table, mt_Table_entries, o_Table_entries, .nil, B_Table_entries⟩
  have o_Table_eq_ : FnOk P w K mg base CX0 5 _ fd_Table_eq_ ["self", "other"] (spG (kX P w K mg base (3 + 1) (tabsOf [("Table.entries", He.cT K ("Table", some "entries"))])) 2 f_Table_eq_) := ok_Table_eq_ (k := 4) F_Table_eq_ B f_Table_keeps f_Table_slots (em_Table_entries.mono (by decide)) ow_Table
  have em_Table_eq_ : CalM P w K mg base 5 "Table" "__eq__" ["self", "other"] [] (spG (kX P w K mg base (3 + 1) (tabsOf [("Table.entries", He.cT K ("Table", some "entries"))])) 2 f_Table_eq_) := ⟨_, _, fd_Table_eq_, [], gc_Table, cl_Table, mt_Table_eq_, o_Table_eq_, .nil, B_Table_eq_⟩
  have o_Table_str_ : FnOk P w K mg base CX0 1 _ fd_Table_str_ ["self"] (spG (kX P w K mg base (3 + 1) (tabsOf [("Table.entries", He.cT K ("Table", some "entries"))])) 1 f_Table_str_) := ok_Table_str_ (k := 0) F_Table_str_ B f_Table_keeps f_Table_slots f_Table_rows
  have em_Table_str_ : CalM P w K mg base 1 "Table" "__str__" ["self"] [] (spG (kX P w K mg base (3 + 1) (tabsOf [("Table.entries", He.cT K ("Table", some "entries"))])) 1 f_Table_str_) := ⟨_, _, fd_Table_str_, [], gc_Table, cl_Table, mt_Table_str_, o_Table_str_, .nil, B_Table_str_⟩
  have o_Table_put : FnOk P w K mg base CX0 1 _ fd_Table_put ["self", "place", "low", "high", "move", "depth"] (spG (kX P w K mg base (3 + 1) (tabsOf [("Table.entries", He.cT K ("Table", some "entries"))])) 6 f_Table_put) := ok_Table_put (k := 0) F_Table_put B f_Table_slots f_Table_rows f_Table_keeps
  obtain ⟨_, K_Table_put_depth⟩ := kbn0 F_Table_put (by simp [dd_Table_put, He.DefD.kws, He.Dv.v]) 5 ["depth"] [] (fun q hq => nomatch hq) (fun us mv ws => us ++ ws) (fun r1 r2 r3 => r1.append r3) (ps := ["self", "place", "low", "high", "move", "depth"]) (fun D doc pm an cdv ct us mv ws h1 h2 h3 => match us, h1, mv, h2, ws, h3 with | [_, _, _, _, _], _, [], _, [_], _ => by first | rfl | exact ⟨_, _, _, _, _, _, rfl, rfl, rfl⟩ | exact ⟨_, _, _, _, _, _, rfl, rfl, _, _, _, _, _, _, rfl, rfl, rfl⟩)
  have emk_Table_put_depth : CalMK P w K mg base 1 "Table" "put" ["self", "place", "low", "high", "move", "depth"] 4 ["depth"] gA (spG (kX P w K mg base (3 + 1) (tabsOf [("Table.entries", He.cT K ("Table", some "entries"))])) 6 f_Table_put) := ⟨_, _, fd_Table_put, _, gc_Table, cl_Table, mt_Table_put, o_Table_put, K_Table_put_depth⟩
  have o_Table_get : FnOk P w K mg base CX0 1 _ fd_Table_get ["self", "place"] (spG (kX P w K mg base (3 + 1) (tabsOf [("Table.entries", He.cT K ("Table", some "entries"))])) 2 f_Table_get) := ok_Table_get (k := 0) F_Table_get B f_Table_asked f_Table_rows f_Table_slots f_Table_found
  have em_Table_get : CalM P w K mg base 1 "Table" "get" ["self", "place"] [] (spG (kX P w K mg base (3 + 1) (tabsOf [("Table.entries", He.cT K ("Table", some "entries"))])) 2 f_Table_get) := ⟨_, _, fd_Table_get, [], gc_Table, cl_Table, mt_Table_get, o_Table_get, .nil, B_Table_get⟩
  have e_l_draw : Cal P w K mg base 1 "_law_draw" ["_law_script", "_law_town", "_law_many"] (spG (kX P w K mg base (3 + 1) (tabsOf [("Table.entries", He.cT K ("Table", some "entries"))])) 3 f_l_draw) := ⟨_, fd_l_draw, ok_l_draw (k := 0) F_l_draw B , g_l_draw, F_l_draw.kp, B_l_draw⟩
  have e_l_pick : Cal P w K mg base 2 "_law_pick" ["_law_script", "_law_town", "_law_some"] (spG (kX P w K mg base (3 + 1) (tabsOf [("Table.entries", He.cT K ("Table", some "entries"))])) 3 f_l_pick) := ⟨_, fd_l_pick, ok_l_pick (k := 1) F_l_pick B (e_l_draw.mono (by decide)), g_l_pick, F_l_pick.kp, B_l_pick⟩
  have e_l_put : Cal P w K mg base 1 "_law_put" ["_law_rows", "_law_many", "_law_keeping", "_law_row"] (spG (kX P w K mg base (3 + 1) (tabsOf [("Table.entries", He.cT K ("Table", some "entries"))])) 4 f_l_put) := ⟨_, fd_l_put, ok_l_put (k := 0) F_l_put B , g_l_put, F_l_put.kp, B_l_put⟩
  exact law_ofT (F := f_law_k14) (lv := 3 + 1) (tb := (tabsOf [("Table.entries", He.cT K ("Table", some "entries"))])) (ok_law (k := 7) F_law B (e_l_draw.mono (by decide)) (e_l_pick.mono (by decide)) (e_l_put.mono (by decide)) eik_Table_init__keeps (emk_Table_put_depth.mono (by decide)) (em_Table_get.mono (by decide)) em_Table_eq_ em_Table_str_ em_Table_len_ (em_Table_entries.mono (by decide)) (by decide) (by decide) (by decide) (by decide) ow_Table) law_true
end W
open PySem PySem.W PySem.Calls PyProof.Rows
set_option maxRecDepth 100000 in
set_option maxHeartbeats 0 in
theorem PySem.Challenge.cw_searchduel_k14_whole_equal_tables_holds : PySem.Challenge.rw_searchduel_k14_whole_equal_tables.Holds := by
  w_on; o_law
  refine HandSHeadRun.head_any (r := W.RR) (q := view W.RR.prog [8]) (H := W.hk) (ob := W.obs) (M := 9000) (loose := W.lnames) (d := HandSHeadRun.topDef W.RR.prog 8) (kwd := []) W.obs_eq
    (by kernel_rfl) (fun s => by kernel_rfl) W.headrun (by kernel_rfl) (by kernel_rfl) (by kernel_rfl) (by rfl) (by first | assumption | decide +kernel) (by decide +kernel) ⟨rfl, rfl, rfl, rfl, rfl, by decide +kernel⟩ ?hw ?hc
  case hw => w_witness2
  case hc =>
    refine Sm.walkX (l := PySem.Challenge.rw_searchduel_k14_whole_equal_tables) (k := 8) (x := "_law_script") (fas := W.fas) (fn := W.fns) (tf := W.tfs) (ex := W.exs) rfl (by kernel_rfl) ⟨rfl, by decide, by decide⟩ ?F
    intro w mg fa h K KX G hmg0 c
    have hmg : mg ("law" : PySem.Str) = some (.ref fa) := by
      have e : (HandSHeadRun.topDef W.RR.prog 8).name = ("law" : PySem.Str) := by kernel_rfl
      rw [← e]
      exact hmg0
    exact W.law_all KX G hmg c

