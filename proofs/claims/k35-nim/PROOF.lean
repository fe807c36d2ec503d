import PyProof.Rows.All
import Wide.All
import OpenK.AllK
import Wide.FinOn
import HandS.ExcInit
import HandS.ExcField
import HandS.HeadHook1
import HandS.HeadHook4
import OpenK.KCls
import HandS.ForMost
import HandS.Walk
import HandS.Zip
import HandS.Conv
import HandS.Deep
import HandS.IsInst
import HandS.TupAny
import HandS.TupMul
import HandS.SortInts
import HandS.Flow
import HandS.DictComp
import HandS.Style
import HandS.Defaults
import KE.KUnpackStar
import HandS.Slots
import HandS.Lambda
import HandS.CallLocal
import HandS.Nested
import KE.SortKeyHeap
import HandS.ExcValue
import HandS.SortKw
import PyProof.TupleOfSeq
import KE.GoesEnum
import KE.GoesMore
import HandS.Set
import HandS.SetBool
import HandS.SetFor
import HandS.TupSets
import KE.KDictKeyed
import KE.KeyNested
import KE.KDictList
import PyProof.Rows.TupDisplay
import KE.SortData
import KE.DataMinMax
import HandS.Strs
import KE.KDictCopyH
import KE.DataMinKey
import HandS.WordsDict
import HandS.SortRule
import HandS.EndTab
import HandS.MakeKwOnly
import HandS.Head0
import HandS.Head1
import HandS.Head2
import HandS.HeadHook2
import HandS.HeadHook3
import HandS.HeadWalk
import KE.KNestM
import HandS.Exc
import HandS.ExcOwn
import HandS.TryOnly
import HandS.WordsExc
import HandS.Finally
import HandS.FStr
import KE.KCallOwn
import PySem.Challenge.RW_searchduel_k35_whole_heaps_told_ahead
set_option Elab.async false
set_option linter.all false
set_option maxRecDepth 100000
set_option maxHeartbeats 2000000
namespace Sm
open PySem PySem.Spec PyProof.Rows L2
def tupE (K : PySem.W.Frag) (a : Addr) : Bool := match K.lookup a with
  | some ⟨.type c, _, .seq its _, _⟩ => decide (c = "tuple") && decide (its.size = 0)
  | _ => false
def oexB (K : PySem.W.Frag) (C : Addr) : Bool := (match K.lookup C with
  | some ⟨.type "type", _, .cls cd, sl⟩ => (match cd.mro, sl.toList with
    | .ref C' :: bm, [_, _, _, _, some (.builtin n), _] => C' == C && (n == "ValueError.__new__" && (!cd.hasDel && (cd.hasDict && PySem.HandSPX.refsVE bm)))
    | _, _ => false)
  | _ => false) && (decide (PySem.W.findIn K (.ref C) "__setattr__" = some (some (.builtin "object.__setattr__"))) && (decide (PySem.W.subIn K (.ref C) (.type "BaseException") = some true) && (decide (PySem.W.typeIn K (.ref C) = some (.type "type")) && PySem.W.keepIn K (.ref C))))
theorem oexB_ok {K : PySem.W.Frag} {C : Addr} (h : oexB K C = true) : OexC K C := by
  unfold oexB at h
  rw [Bool.and_eq_true, Bool.and_eq_true, Bool.and_eq_true, Bool.and_eq_true, decide_eq_true_eq, decide_eq_true_eq, decide_eq_true_eq] at h
  obtain ⟨h1, h2, h3, h4, h5⟩ := h
  refine ⟨?_, h2, h3, h4, h5⟩
  split at h1
  · rename_i dd cd sl ho
    split at h1
    · rename_i C' bm k0 k1 k2 k3 n k5 hm hs
      simp only [Bool.and_eq_true, beq_iff_eq, Bool.not_eq_true'] at h1
      obtain ⟨rfl, rfl, hdel, hdi, hr⟩ := h1
      obtain ⟨nm, bs, mro, ns, qn, hd, sn, sub, ab, col, del⟩ := cd
      dsimp only at hm hdel hdi
      subst hm hdel hdi
      have hsl : sl = #[k0, k1, k2, k3, some (.builtin "ValueError.__new__"), k5] := by
        obtain ⟨l⟩ := sl
        simp only at hs
        rw [hs]
      subst hsl
      exact ⟨nm, qn, ns, bs, bm, sn, sub, ab, col, dd, k0, k1, k2, k3, k5, ho, hr⟩
    · cases h1
  · cases h1
def excFB (K : PySem.W.Frag) (C : Addr) (f : Str) : Bool := oexB K C && (xfB K C && (decide (PySem.W.findIn K (.ref C) "__init__" = some (some (.ref (He.ma K C "__init__")))) && (decide (PySem.W.typeIn K (.ref (He.ma K C "__init__")) = some (.type "function")) && decide (PySem.W.findIn K (.ref C) f = some none))))
def seB (K : PySem.W.Frag) (C : Addr) : Bool := PySem.W.readsIn K C (.type "type") && (decide (PySem.W.specialIn K (.ref C) "__getattribute__" = some (some (.builtin "type.__getattribute__"))) && (match PySem.W.findCls K (.ref C) (.type "type") "__init__" with
  | some (.val v) => decide (v = .builtin "ValueError.__init__")
  | _ => false))
theorem seB_ok {K : PySem.W.Frag} {C : Addr} (h : seB K C = true) : PySem.W.readsIn K C (.type "type") = true ∧ PySem.W.specialIn K (.ref C) "__getattribute__" = some (some (.builtin "type.__getattribute__")) ∧ PySem.W.findCls K (.ref C) (.type "type") "__init__" = some (.val (.builtin "ValueError.__init__")) := by
  unfold seB at h
  rw [Bool.and_eq_true, Bool.and_eq_true, decide_eq_true_eq] at h
  refine ⟨h.1, h.2.1, ?_⟩
  have h3 := h.2.2
  split at h3
  · rename_i v e
    rw [e, of_decide_eq_true h3]
  · cases h3
end Sm
namespace Dz
open PySem PySem.Spec PyProof.Rows L2
def frS (n : Nat) (g : Addr → Option Obj) : PySem.W.Frag := He.frT g (He.asD g n ++ [cStatics])
def obsS (n : Nat) (fa : List He.Fa) (fn : List He.DefD) (ts : List He.Tab) (tf : List He.Defn) (ex : PySem.W.Frag → Bool) (g : Addr → Option Obj) : He.AlX := (He.obsT fa fn ts (frS n g), ex (frS n g) && He.tabsB g tf (frS n g))
theorem saysS_of {n : Nat} {fa : List He.Fa} {fn : List He.DefD} {ts : List He.Tab} {tf : List He.Defn} {ex : PySem.W.Frag → Bool} {w : World} {h : Heap} (e : obsS n fa fn ts tf ex h.get? = He.valX fn ts w) : He.SaysX fa fn ts tf ex w h (frS n h.get?) := by
  have e2 : (ex (frS n h.get?) && He.tabsB h.get? tf (frS n h.get?)) = true := congrArg Prod.snd e
  rw [Bool.and_eq_true] at e2
  have q : ∀ p ∈ tf, PySem.W.codeHdIn (frS n h.get?) (He.cT (frS n h.get?) p).1 (He.cT (frS n h.get?) p).2 = true ∧ ∃ o, h.get? (He.cT (frS n h.get?) p).2 = some o ∧ He.emptyTab o = true := fun p hp => by
    have h1 := List.all_eq_true.mp e2.2 p hp
    rw [Bool.and_eq_true] at h1
    refine ⟨h1.1, ?_⟩
    have h2 := h1.2
    split at h2
    · rename_i o ho
      exact ⟨o, ho, h2⟩
    · cases h2
  refine ⟨congrArg Prod.fst e, e2.1, fun p hp => (q p hp).1, fun p hp => ?_, fun p hp => ?_⟩
  · obtain ⟨_, o, h1, h2⟩ := q p hp
    exact He.frT_none h1 h2
  · obtain ⟨_, o, h1, h2⟩ := q p hp
    rw [h1, He.emptyTab_eq h2]
def hookS (n : Nat) (fa : List He.Fa) (fn : List He.DefD) (ts : List He.Tab) (tf : List He.Defn) (ex : PySem.W.Frag → Bool) : PySem.W.Hook where
  α := He.AlX
  obs := fun s => obsS n fa fn ts tf ex s.heap.get?
  val := fun w => He.valX fn ts w
  says := fun w h => ∃ K : PySem.W.Frag, K.In h ∧ He.SaysX fa fn ts tf ex w h K
  of := fun _ _ e => ⟨_, He.frT_in, saysS_of e⟩
  keeps := (He.hookX n fa fn ts tf ex).keeps
theorem obsS_eq {n : Nat} {fa : List He.Fa} {fn : List He.DefD} {ts : List He.Tab} {tf : List He.Defn} {ex : PySem.W.Frag → Bool} {g : Addr → Option Obj} {s : Shared} (h : ∀ a, g a = s.heap.get? a) : obsS n fa fn ts tf ex g = (hookS n fa fn ts tf ex).obs s := by
  rw [show g = s.heap.get? from funext h]
  rfl
end Dz

namespace W
open PySem PySem.Spec PyProof.Rows L2 Sm
def top (i : Nat) : Stmt := PySem.Challenge.pw_searchduel_k35_whole_heaps_told_ahead.main.body.getD i (.Pass ⟨0, 0, 0, 0⟩)
abbrev s_made : Stmt := top 1
theorem sc_made : FnScope ["begin", "follow", "worth", "states", "numbers", "rows", "at", "state", "nexts", "other"] ["begin", "follow", "worth"] (defScope s_made) := ⟨rfl, rfl, rfl, by decide +kernel, rfl, by decide +kernel, by decide +kernel⟩

abbrev s_lost : Stmt := top 2
theorem sc_lost : FnScope ["state"] ["state"] (defScope s_lost) := ⟨rfl, rfl, rfl, by decide +kernel, rfl, by decide +kernel, by decide +kernel⟩

abbrev s_taking : Stmt := top 3
theorem sc_taking : FnScope ["count", "takes"] ["count", "takes"] (defScope s_taking) := ⟨rfl, rfl, rfl, by decide +kernel, rfl, by decide +kernel, by decide +kernel⟩

abbrev s_left_heaps : Stmt := top 4
theorem sc_left_heaps : FnScope ["state", "heaps_now", "side", "found", "at", "heap", "less", "rest", "one"] ["state"] (defScope s_left_heaps) := ⟨rfl, rfl, rfl, by decide +kernel, rfl, by decide +kernel, by decide +kernel⟩

abbrev s_heaps : Stmt := top 5
theorem sc_heaps : FnScope ["piles", "pile"] ["piles"] (defScope s_heaps) := ⟨rfl, rfl, rfl, by decide +kernel, rfl, by decide +kernel, by decide +kernel⟩

abbrev s_is_whole : Stmt := top 8
theorem sc_is_whole : FnScope ["thing"] ["thing"] (defScope s_is_whole) := ⟨rfl, rfl, rfl, by decide +kernel, rfl, by decide +kernel, by decide +kernel⟩

abbrev s_is_place : Stmt := top 9
theorem sc_is_place : FnScope ["thing", "many", "first", "second", "move"] ["thing", "many"] (defScope s_is_place) := ⟨rfl, rfl, rfl, by decide +kernel, rfl, by decide +kernel, by decide +kernel⟩

abbrev s_is_game : Stmt := top 10
theorem sc_is_game : FnScope ["thing", "place"] ["thing"] (defScope s_is_game) := ⟨rfl, rfl, rfl, by decide +kernel, rfl, by decide +kernel, by decide +kernel⟩

abbrev s_moves_of : Stmt := top 11
theorem sc_moves_of : FnScope ["game", "place", "side", "moves"] ["game", "place"] (defScope s_moves_of) := ⟨rfl, rfl, rfl, by decide +kernel, rfl, by decide +kernel, by decide +kernel⟩

abbrev s_order_of : Stmt := top 12
theorem sc_order_of : FnScope ["game", "left", "place", "order", "ready", "many", "first", "rest"] ["game"] (defScope s_order_of) := ⟨rfl, rfl, rfl, by decide +kernel, rfl, by decide +kernel, by decide +kernel⟩

abbrev s_reach : Stmt := top 13
theorem sc_reach : FnScope ["game", "place", "found", "row", "move"] ["game", "place"] (defScope s_reach) := ⟨rfl, rfl, rfl, by decide +kernel, rfl, by decide +kernel, by decide +kernel⟩

abbrev s_turned : Stmt := top 14
theorem sc_turned : FnScope ["game", "side", "more"] ["game"] (defScope s_turned) := ⟨rfl, rfl, rfl, by decide +kernel, rfl, by decide +kernel, by decide +kernel⟩

abbrev s_all_papers : Stmt := top 16
theorem sc_all_papers : FnScope ["game", "goal", "choose", "found", "place", "side", "more", "some", "move", "part"] ["game", "goal", "choose"] (defScope s_all_papers) := ⟨rfl, rfl, rfl, by decide +kernel, rfl, by decide +kernel, by decide +kernel⟩

abbrev s_paper_for : Stmt := top 17
theorem sc_paper_for : FnScope ["game", "place", "goal"] ["game", "place", "goal"] (defScope s_paper_for) := ⟨rfl, rfl, rfl, by decide +kernel, rfl, by decide +kernel, by decide +kernel⟩

abbrev s_paper_against : Stmt := top 18
theorem sc_paper_against : FnScope ["game", "place", "goal"] ["game", "place", "goal"] (defScope s_paper_against) := ⟨rfl, rfl, rfl, by decide +kernel, rfl, by decide +kernel, by decide +kernel⟩

abbrev s_choice : Stmt := top 20
theorem sc_choice : FnScope ["side", "row"] ["side", "row"] (defScope s_choice) := ⟨rfl, rfl, rfl, by decide +kernel, rfl, by decide +kernel, by decide +kernel⟩

abbrev s_worths : Stmt := top 21
theorem sc_worths : FnScope ["game", "found", "place", "side", "more", "move"] ["game"] (defScope s_worths) := ⟨rfl, rfl, rfl, by decide +kernel, rfl, by decide +kernel, by decide +kernel⟩

abbrev s_best_moves : Stmt := top 22
theorem sc_best_moves : FnScope ["game", "place", "found", "move"] ["game", "place"] (defScope s_best_moves) := ⟨rfl, rfl, rfl, by decide +kernel, rfl, by decide +kernel, by decide +kernel⟩

abbrev s_l_draw : Stmt := top 25
theorem sc_l_draw : FnScope ["_law_script", "_law_town", "_law_many", "_law_cell", "_law_k", "_law_digits", "_law_number", "_law_more"] ["_law_script", "_law_town", "_law_many"] (defScope s_l_draw) := ⟨rfl, rfl, rfl, by decide +kernel, rfl, by decide +kernel, by decide +kernel⟩

abbrev s_l_bits : Stmt := top 27
theorem sc_l_bits : FnScope ["_law_piles", "_law_total", "_law_power", "_law_ones", "_law_pile"] ["_law_piles"] (defScope s_l_bits) := ⟨rfl, rfl, rfl, by decide +kernel, rfl, by decide +kernel, by decide +kernel⟩

abbrev s_l_game_holds : Stmt := top 28
theorem sc_l_game_holds : FnScope ["_law_game", "_law_won", "_law_found", "_law_place", "_law_side", "_law_more", "_law_move", "_law_worth"] ["_law_game", "_law_won"] (defScope s_l_game_holds) := ⟨rfl, rfl, rfl, by decide +kernel, rfl, by decide +kernel, by decide +kernel⟩

abbrev s_law : Stmt := top 29
theorem sc_law : FnScope ["_law_script", "_law_town", "_law_k", "_law_piles", "_law_j", "_law_takes", "_law_many", "_law_count", "_law_won", "_law_size"] ["_law_script"] (defScope s_law) := ⟨rfl, rfl, rfl, by decide +kernel, rfl, by decide +kernel, by decide +kernel⟩

def dd_lost : He.DefD := ⟨("lost", none), "lost", "lost", defArgs s_lost, defBody s_lost, defScope s_lost, [], []⟩
def dd_left_heaps : He.DefD := ⟨("left_heaps", none), "left_heaps", "left_heaps", defArgs s_left_heaps, defBody s_left_heaps, defScope s_left_heaps, [], []⟩
def dd_made : He.DefD := ⟨("made", none), "made", "made", defArgs s_made, defBody s_made, defScope s_made, [], []⟩
def dd_taking : He.DefD := ⟨("taking", none), "taking", "taking", defArgs s_taking, defBody s_taking, defScope s_taking, [], []⟩
def dd_heaps : He.DefD := ⟨("heaps", none), "heaps", "heaps", defArgs s_heaps, defBody s_heaps, defScope s_heaps, [], []⟩
def dd_is_whole : He.DefD := ⟨("is_whole", none), "is_whole", "is_whole", defArgs s_is_whole, defBody s_is_whole, defScope s_is_whole, [], []⟩
def dd_is_place : He.DefD := ⟨("is_place", none), "is_place", "is_place", defArgs s_is_place, defBody s_is_place, defScope s_is_place, [], []⟩
def dd_is_game : He.DefD := ⟨("is_game", none), "is_game", "is_game", defArgs s_is_game, defBody s_is_game, defScope s_is_game, [], []⟩
def dd_moves_of : He.DefD := ⟨("moves_of", none), "moves_of", "moves_of", defArgs s_moves_of, defBody s_moves_of, defScope s_moves_of, [], []⟩
def dd_order_of : He.DefD := ⟨("order_of", none), "order_of", "order_of", defArgs s_order_of, defBody s_order_of, defScope s_order_of, [], []⟩
def dd_reach : He.DefD := ⟨("reach", none), "reach", "reach", defArgs s_reach, defBody s_reach, defScope s_reach, [], []⟩
def dd_turned : He.DefD := ⟨("turned", none), "turned", "turned", defArgs s_turned, defBody s_turned, defScope s_turned, [], []⟩
def dd_all_papers : He.DefD := ⟨("all_papers", none), "all_papers", "all_papers", defArgs s_all_papers, defBody s_all_papers, defScope s_all_papers, [], []⟩
def dd_paper_for : He.DefD := ⟨("paper_for", none), "paper_for", "paper_for", defArgs s_paper_for, defBody s_paper_for, defScope s_paper_for, [], []⟩
def dd_paper_against : He.DefD := ⟨("paper_against", none), "paper_against", "paper_against", defArgs s_paper_against, defBody s_paper_against, defScope s_paper_against, [], []⟩
def dd_choice : He.DefD := ⟨("choice", none), "choice", "choice", defArgs s_choice, defBody s_choice, defScope s_choice, [], []⟩
def dd_worths : He.DefD := ⟨("worths", none), "worths", "worths", defArgs s_worths, defBody s_worths, defScope s_worths, [], []⟩
def dd_best_moves : He.DefD := ⟨("best_moves", none), "best_moves", "best_moves", defArgs s_best_moves, defBody s_best_moves, defScope s_best_moves, [], []⟩
def dd_l_draw : He.DefD := ⟨("_law_draw", none), "_law_draw", "_law_draw", defArgs s_l_draw, defBody s_l_draw, defScope s_l_draw, [], []⟩
def dd_l_bits : He.DefD := ⟨("_law_bits", none), "_law_bits", "_law_bits", defArgs s_l_bits, defBody s_l_bits, defScope s_l_bits, [], []⟩
def dd_l_game_holds : He.DefD := ⟨("_law_game_holds", none), "_law_game_holds", "_law_game_holds", defArgs s_l_game_holds, defBody s_l_game_holds, defScope s_l_game_holds, [], []⟩
def dd_law : He.DefD := ⟨("law", none), "law", "law", defArgs s_law, defBody s_law, defScope s_law, [], []⟩
def fas0 : List He.Fa := [.glo "lost", .glo "left_heaps", .glo "made", .glo "taking", .glo "heaps", .glo "is_whole", .glo "is_place", .glo "is_game", .glo "moves_of", .glo "order_of", .glo "reach", .glo "turned", .glo "all_papers", .glo "paper_for", .glo "paper_against", .glo "choice", .glo "worths", .glo "best_moves", .glo "_law_draw", .glo "_law_bits", .glo "_law_game_holds", .glo "law", .int "MOST" 99, .free "len", .free "list", .free "tuple", .free "range", .free "zip", .free "enumerate", .free "abs"]
def fas1 : List He.Fa := [.free "max", .free "min", .free "sum", .free "all", .free "any", .free "sorted", .free "isinstance", .free "int", .free "bool", .free "str", .free "set"]
def fas : List He.Fa := fas0 ++ fas1
def fns0 : List He.DefD := [dd_lost, dd_left_heaps, dd_made, dd_taking, dd_heaps, dd_is_whole, dd_is_place, dd_is_game, dd_moves_of, dd_order_of, dd_reach, dd_turned, dd_all_papers, dd_paper_for, dd_paper_against, dd_choice, dd_worths, dd_best_moves, dd_l_draw, dd_l_bits, dd_l_game_holds, dd_law]
def fns : List He.DefD := fns0
def tfs : List He.Defn := [("taking", none), ("paper_for", none)]
def exs (K : PySem.W.Frag) : Bool := decide ((tfs.map fun p => (He.cT K p).2).Nodup)
def lnames0 : List Str := ["made", "lost", "taking", "left_heaps", "heaps", "MOST", "is_whole", "is_place", "is_game", "moves_of", "order_of", "reach", "turned", "all_papers", "paper_for", "paper_against", "choice", "worths", "best_moves", "_law_same", "_law_draw", "_law_pick", "_law_bits", "_law_game_holds"]
def lnames : List Str := lnames0
abbrev RR : PySem.W.OpenRow := PySem.W.OpenLaw.row PySem.Challenge.rw_searchduel_k35_whole_heaps_told_ahead
abbrev hk : PySem.W.Hook := He.hookX 8 fas fns [] tfs exs
def obs (s : PySem.W.SharedT) : He.AlX := He.obsX 8 fas fns [] tfs exs (HandSHeadRun.getT s)
theorem obs_eq (s : PySem.W.SharedT) : obs s = hk.obs s.abs := He.obsX_eq (HandSHeadRun.getT_eq s)
theorem headrun (w : World) : HandSHeadRun.RunEq RR (PySem.W.view RR.prog [29]) hk obs 9000 lnames w := by
  intro os
  kernel_rfl
end W

namespace Dz
open PySem L2

theorem same_seqT {K : PySem.W.Frag} {H H' : Hp} {a : Addr} {xs : List V} (e : Same H H') (h : SqT K H a xs) : SqT K H' a xs := by
  rcases h with (h | ⟨o, h⟩) | h
  · exact .inl (.inl (e _ _ h))
  · exact .inl (.inr ⟨o, e _ _ h⟩)
  · exact .inr h
mutual
theorem dp_mono {K : PySem.W.Frag} {H H' : Hp} (e : Same H H') : ∀ (d : PyData) (v : V), Dp K H v d → Dp K H' v d
  | .none, _, h => by cases h; exact .non
  | .bool b, _, h => by cases h; exact .bl b
  | .int i, _, h => by cases h; exact .int i
  | .str x, _, h => by cases h; exact .str x
  | .list ds, _, h => by
    cases h with
    | lst hs ha => exact .lst (e.seq hs) (dpAll_mono e ds _ ha)
  | .tuple ds, _, h => by
    cases h with
    | tup hs ha => exact .tup (same_seqT e hs) (dpAll_mono e ds _ ha)
  | .dict _, _, h => by cases h
theorem dpAll_mono {K : PySem.W.Frag} {H H' : Hp} (e : Same H H') : ∀ (ds : List PyData) (vs : List V), DpAll K H vs ds → DpAll K H' vs ds
  | [], _, h => by cases h; exact .nil
  | d :: ds, _, h => by
    cases h with
    | cons h1 h2 => exact .cons (dp_mono e d _ h1) (dpAll_mono e ds _ h2)
end
theorem Dp_mono {K : PySem.W.Frag} {H H' : Hp} {v : V} {d : PyData} (h : Dp K H v d) (e : Same H H') : Dp K H' v d := dp_mono e d v h
theorem DpAll_mono {K : PySem.W.Frag} {H H' : Hp} {v : List V} {d : List PyData} (h : DpAll K H v d) (e : Same H H') : DpAll K H' v d := dpAll_mono e d v h
theorem DpAll_len {K : PySem.W.Frag} {H : Hp} : ∀ {vs : List V} {ds : List PyData}, DpAll K H vs ds → vs.length = ds.length
  | _, [], h => by cases h; rfl
  | _, d :: ds, h => by
    cases h with
    | cons h1 h2 => simp [DpAll_len h2]
theorem DpAll_get {K : PySem.W.Frag} {H : Hp} : ∀ {vs : List V} {ds : List PyData} {i : Nat} {d : PyData}, DpAll K H vs ds → ds[i]? = some d → ∃ v, vs[i]? = some v ∧ Dp K H v d
  | _, [], _, _, h, e => by simp at e
  | _, d :: ds, 0, _, h, e => by
    cases h with
    | cons h1 h2 => simp at e; subst e; exact ⟨_, rfl, h1⟩
  | _, d :: ds, i + 1, _, h, e => by
    cases h with
    | cons h1 h2 =>
      obtain ⟨v, a, b⟩ := DpAll_get (i := i) h2 (by simpa using e)
      exact ⟨v, by simpa using a, b⟩
theorem DpAll_app {K : PySem.W.Frag} {H : Hp} : ∀ {vs ws : List V} {ds es : List PyData}, DpAll K H vs ds → DpAll K H ws es → DpAll K H (vs ++ ws) (ds ++ es)
  | _, _, [], _, h, k => by cases h; exact k
  | _, _, d :: ds, _, h, k => by
    cases h with
    | cons h1 h2 => exact .cons h1 (DpAll_app h2 k)
theorem DpAll_take {K : PySem.W.Frag} {H : Hp} : ∀ {vs : List V} {ds : List PyData} (n : Nat), DpAll K H vs ds → DpAll K H (vs.take n) (ds.take n)
  | _, _, 0, _ => by simp; exact .nil
  | _, [], n + 1, h => by cases h; exact .nil
  | _, d :: ds, n + 1, h => by
    cases h with
    | cons h1 h2 => exact .cons h1 (DpAll_take n h2)
theorem DpAll_drop {K : PySem.W.Frag} {H : Hp} : ∀ {vs : List V} {ds : List PyData} (n : Nat), DpAll K H vs ds → DpAll K H (vs.drop n) (ds.drop n)
  | _, _, 0, h => by simpa using h
  | _, [], n + 1, h => by cases h; exact .nil
  | _, d :: ds, n + 1, h => by
    cases h with
    | cons h1 h2 => exact DpAll_drop n h2
theorem DpAll_set {K : PySem.W.Frag} {H : Hp} {v : V} {d : PyData} (hd : Dp K H v d) : ∀ {vs : List V} {ds : List PyData} (n : Nat), DpAll K H vs ds → DpAll K H (vs.set n v) (ds.set n d)
  | _, [], _, h => by cases h; exact .nil
  | _, _ :: ds, 0, h => by
    cases h with
    | cons h1 h2 => exact .cons hd h2
  | _, _ :: ds, n + 1, h => by
    cases h with
    | cons h1 h2 => exact .cons h1 (DpAll_set hd n h2)
theorem DpAll_ints {K : PySem.W.Frag} {H : Hp} : ∀ ns : List Int, DpAll K H (ns.map V.int) (ns.map PyData.int)
  | [] => .nil
  | n :: ns => .cons (.int n) (DpAll_ints ns)
theorem ints_of {K : PySem.W.Frag} {H : Hp} : ∀ {vs : List V} {ns : List Int}, DpAll K H vs (ns.map PyData.int) → vs = ns.map V.int
  | _, [], h => by cases h; rfl
  | _, n :: ns, h => by
    cases h with
    | cons h1 h2 =>
      cases h1
      rw [ints_of (ns := ns) h2]
      rfl
theorem bools_of {K : PySem.W.Frag} {H : Hp} : ∀ {vs : List V} {ns : List Bool}, DpAll K H vs (ns.map PyData.bool) → vs = ns.map V.bl
  | _, [], h => by cases h; rfl
  | _, n :: ns, h => by
    cases h with
    | cons h1 h2 =>
      cases h1
      rw [bools_of (ns := ns) h2]
      rfl

structure Grow (m : Addr → Prop) (S H S' H' : Hp) : Prop where
  s : Same S S'
  f : Same S' H'
  n : ∀ a, S a = none → H a ≠ none → S' a = none
  k : ∀ a o, ¬ m a → H a = some o → H' a = some o
  d : ∀ a, H a ≠ none → H' a ≠ none
  x : ∀ a φ, S' a = some (.ext φ) → S a = some (.ext φ)
structure GrowT (m : Addr → Prop) (S H S' H' : Hp) : Prop where
  s : Same S S'
  f : Same S' H'
  n : ∀ a, S a = none → H a ≠ none → S' a = none
  k : ∀ a o, ¬ m a → H a = some o → H' a = some o
  d : ∀ a, H a ≠ none → H' a ≠ none
  t : ∀ a ps, H a = some (.tbl ps) → ∃ ps', H' a = some (.tbl ps')
theorem GrowT.mono {m m' : Addr → Prop} {S H S1 H1 : Hp} (a : GrowT m S H S1 H1) (h : ∀ x, m x → m' x) : GrowT m' S H S1 H1 := ⟨a.s, a.f, a.n, fun x u hm e => a.k x u (fun z => hm (h x z)) e, a.d, a.t⟩
def m0 : Addr → Prop := fun _ => False
theorem some_ne {α : Type} {x : Option α} {o : α} (h : x = some o) : x ≠ none := by rw [h]; exact fun z => nomatch z
theorem ne_some {α : Type} {x : Option α} (h : x ≠ none) : ∃ o, x = some o := by
  cases x with
  | none => exact absurd rfl h
  | some o => exact ⟨o, rfl⟩
section
variable {m m' : Addr → Prop} {S H S1 H1 S2 H2 : Hp} {p : Addr} {o : HO}
theorem Grow.refl (h : Same S H) : Grow m S H S H := ⟨Same.refl S, h, fun _ e _ => e, fun _ _ _ e => e, fun _ e => e, fun _ _ e => e⟩
theorem Grow.trans (a : Grow m S H S1 H1) (b : Grow m S1 H1 S2 H2) : Grow m S H S2 H2 :=
  ⟨a.s.trans b.s, b.f, fun x e q => b.n x (a.n x e q) (a.d x q), fun x u hm e => b.k x u hm (a.k x u hm e), fun x e => b.d x (a.d x e), fun x φ e => a.x x φ (b.x x φ e)⟩
theorem Grow.mono (a : Grow m S H S1 H1) (h : ∀ x, m x → m' x) : Grow m' S H S1 H1 := ⟨a.s, a.f, a.n, fun x u hm e => a.k x u (fun z => hm (h x z)) e, a.d, a.x⟩
theorem Grow.any (a : Grow m0 S H S1 H1) : Grow m S H S1 H1 := a.mono fun _ h => h.elim
theorem Grow.all (a : Grow m0 S H S1 H1) : Same H H1 := fun x u e => a.k x u (fun z => z) e
theorem same_up (h : S p = none) : Same S (upd S p o) := fun b x e => by rw [upd_ne (ne_of_none e h)]; exact e
theorem same_upup (h : Same S H) : Same (upd S p o) (upd H p o) := fun b x e => by
  by_cases hb : b = p
  · subst hb; rw [upd_same] at e ⊢; exact e
  · rw [upd_ne hb] at e ⊢; exact h b x e
theorem no_ext (ho : ∀ φ, o ≠ .ext φ) (a : Addr) (φ : Heap → Prop) (e : upd S p o a = some (.ext φ)) : S a = some (.ext φ) := by
  by_cases h : a = p
  · subst h; rw [upd_same] at e; exact absurd (Option.some.inj e) (ho φ)
  · rw [upd_ne h] at e; exact e
theorem Grow.new (h : Same S H) (hp : H p = none) (ho : ∀ φ, o ≠ .ext φ := by intro φ z; cases z) : Grow m S H (upd S p o) (upd H p o) := by
  have sp : S p = none := h.free hp
  refine ⟨same_up sp, same_upup h, fun a e q => ?_, fun a u _ e => ?_, fun a e => ?_, no_ext ho⟩
  · have : a ≠ p := fun z => by subst z; exact q hp
    rw [upd_ne this]; exact e
  · rw [upd_ne (ne_of_none e hp)]; exact e
  · obtain ⟨u, hu⟩ := ne_some e
    rw [upd_ne (ne_of_none hu hp)]; exact e
theorem Grow.out (h : Same S H) (hp : H p = none) : Grow m S H S (upd H p o) :=
  ⟨Same.refl S, fun b x e => by rw [upd_ne (ne_of_none (h b x e) hp)]; exact h b x e, fun _ e _ => e, fun a u _ e => by rw [upd_ne (ne_of_none e hp)]; exact e, fun a e => by
    obtain ⟨u, hu⟩ := ne_some e
    rw [upd_ne (ne_of_none hu hp)]; exact e, fun _ _ e => e⟩
theorem Grow.put (h : Same S H) (hp : S p = none) (hm : m p) (hx : H p ≠ none) : Grow m S H S (upd H p o) :=
  ⟨Same.refl S, fun b x e => by rw [upd_ne (ne_of_none e hp)]; exact h b x e, fun _ e _ => e, fun a u hn e => by
    have : a ≠ p := fun z => by subst z; exact hn hm
    rw [upd_ne this]; exact e, fun a e => by
    by_cases z : a = p
    · subst z; rw [upd_same]; exact fun q => nomatch q
    · rw [upd_ne z]; exact e, fun _ _ e => e⟩
end

inductive Sl where
  | no
  | dat (d : PyData)
  | own (o : Addr) (ds : List PyData)
  | val (v : V)
  | town (t : Addr) (n : Nat)
  | dct (o : Addr) (kvs : List (Key × PyData))
def Sl.adr : Sl → Option Addr
  | .own o _ => some o
  | .town t _ => some t
  | .dct o _ => some o
  | _ => none
def muts (l : List Sl) : List Addr := l.filterMap Sl.adr
def KvD (K : PySem.W.Frag) (S : Hp) : List (Key × V) → List (Key × PyData) → Prop := Paired fun w k => w.1 = k.1 ∧ Dp K S w.2 k.2
def TownAt (H : Hp) (t : Addr) (n : Nat) : Prop := ∃ ns : List Int, H t = some (.lst (ns.map V.int)) ∧ ns.length ≤ n ∧ (0 < n → ns ≠ [])
def SlOk (K : PySem.W.Frag) (H0 S H : Hp) : Sl → Option V → Prop
  | .no, _ => True
  | .dat d, x => ∃ v, x = some v ∧ Dp K S v d
  | .own o ds, x => x = some (.ref o) ∧ H0 o = none ∧ S o = none ∧ ∃ xs, H o = some (.lst xs) ∧ DpAll K S xs ds
  | .val v, x => x = some v
  | .town t n, x => x = some (.ref t) ∧ S t = none ∧ TownAt H t n
  | .dct o kvs, x => x = some (.ref o) ∧ H0 o = none ∧ S o = none ∧ ∃ ws, H o = some (.dK ws) ∧ KvD K S ws kvs
structure Env (K : PySem.W.Frag) (H0 S H : Hp) (s : L2.St) (l : List Sl) : Prop where
  len : s.length = l.length
  ok : ∀ (i : Nat) (x : Sl), l[i]? = some x → ∃ v, s[i]? = some v ∧ SlOk K H0 S H x v
  nd : (muts l).Nodup
section
variable {K : PySem.W.Frag} {m : Addr → Prop} {H0 S H S1 H1 S2 H2 : Hp} {p : Addr} {o : HO} {s : L2.St} {l l' : List Sl} {i : Nat} {x y : Sl} {v : Option V}
theorem KvD.mono {ws : List (Key × V)} {kvs : List (Key × PyData)} (h : KvD K S ws kvs) (e : Same S S1) : KvD K S1 ws kvs := Paired.mapP h fun _ _ q => ⟨q.1, Dp_mono q.2 e⟩
theorem SlOk.go (h : SlOk K H0 S H x v) (hs : Same S S1) (hn : ∀ a, S a = none → H a ≠ none → S1 a = none) (hk : ∀ a u, x.adr = some a → H a = some u → H1 a = some u) : SlOk K H0 S1 H1 x v := by
  cases x with
  | no => trivial
  | dat d => obtain ⟨w, e, q⟩ := h; exact ⟨w, e, Dp_mono q hs⟩
  | own o ds =>
    obtain ⟨e, f, g, xs, a, b⟩ := h
    exact ⟨e, f, hn o g (some_ne a), xs, hk o _ rfl a, DpAll_mono b hs⟩
  | val w => exact h
  | town t n => obtain ⟨e, g, ns, a, b⟩ := h; exact ⟨e, hn t g (some_ne a), ns, hk t _ rfl a, b⟩
  | dct o kvs =>
    obtain ⟨e, f, g, ws, a, b⟩ := h
    exact ⟨e, f, hn o g (some_ne a), ws, hk o _ rfl a, b.mono hs⟩
theorem SlOk.there (h : SlOk K H0 S H x v) {a : Addr} (e : x.adr = some a) : H a ≠ none ∧ S a = none := by
  cases x with
  | no => cases e
  | dat d => cases e
  | own o ds => cases e; obtain ⟨_, _, g, xs, q, _⟩ := h; exact ⟨some_ne q, g⟩
  | val w => cases e
  | town t n => cases e; obtain ⟨_, g, xs, q, _⟩ := h; exact ⟨some_ne q, g⟩
  | dct o kvs => cases e; obtain ⟨_, _, g, xs, q, _⟩ := h; exact ⟨some_ne q, g⟩
theorem mem_muts {a : Addr} : a ∈ muts l ↔ ∃ (j : Nat) (z : Sl), l[j]? = some z ∧ z.adr = some a := by
  unfold muts
  rw [List.mem_filterMap]
  constructor
  · rintro ⟨z, hz, e⟩
    obtain ⟨j, hj⟩ := List.mem_iff_getElem?.mp hz
    exact ⟨j, z, hj, e⟩
  · rintro ⟨j, z, hj, e⟩
    exact ⟨z, List.mem_iff_getElem?.mpr ⟨j, hj⟩, e⟩
theorem Env.there (h : Env K H0 S H s l) {a : Addr} (e : a ∈ muts l) : H a ≠ none ∧ S a = none := by
  obtain ⟨j, z, hj, q⟩ := mem_muts.mp e
  obtain ⟨w, _, k⟩ := h.ok j z hj
  exact k.there q
theorem Env.go (h : Env K H0 S H s l) (hs : Same S S1) (hn : ∀ a, S a = none → H a ≠ none → S1 a = none) (hk : ∀ a u, a ∈ muts l → H a = some u → H1 a = some u) : Env K H0 S1 H1 s l :=
  ⟨h.len, fun i x e => by
    obtain ⟨w, a, b⟩ := h.ok i x e
    exact ⟨w, a, b.go hs hn fun c u q => hk c u (mem_muts.mpr ⟨i, x, e, q⟩)⟩, h.nd⟩
theorem Env.grow (h : Env K H0 S H s l) (g : Grow m0 S H S1 H1) : Env K H0 S1 H1 s l := h.go g.s g.n fun a u _ => g.k a u (fun z => z)
theorem nodup_eq {α : Type} {ys : List Addr} {f : α → Option Addr} : ∀ {zs : List α}, (zs.filterMap f).Nodup → ∀ {i j : Nat} {x y : α} {a : Addr}, zs[i]? = some x → zs[j]? = some y → f x = some a → f y = some a → i = j
  | [], _, i, j, x, y, a, h, _, _, _ => by simp at h
  | z :: zs, hn, i, j, x, y, a, h1, h2, e1, e2 => by
    cases i with
    | zero =>
      cases j with
      | zero => rfl
      | succ j =>
        simp at h1 h2
        subst h1
        rw [List.filterMap_cons, e1] at hn
        have : a ∈ zs.filterMap f := List.mem_filterMap.mpr ⟨y, List.mem_of_getElem? h2, e2⟩
        exact absurd this (List.nodup_cons.mp hn).1
    | succ i =>
      cases j with
      | zero =>
        simp at h1 h2
        subst h2
        rw [List.filterMap_cons, e2] at hn
        have : a ∈ zs.filterMap f := List.mem_filterMap.mpr ⟨x, List.mem_of_getElem? h1, e1⟩
        exact absurd this (List.nodup_cons.mp hn).1
      | succ j =>
        simp at h1 h2
        have hn' : (zs.filterMap f).Nodup := by
          rw [List.filterMap_cons] at hn
          split at hn
          · exact hn
          · exact (List.nodup_cons.mp hn).2
        rw [nodup_eq (ys := ys) hn' h1 h2 e1 e2]
theorem muts_set_sub : ∀ (l : List Sl) (i : Nat) (y : Sl), y.adr = none → (muts (l.set i y)).Sublist (muts l)
  | [], _, _, _ => List.Sublist.refl _
  | z :: l, 0, y, h => by
    show (List.filterMap Sl.adr (y :: l)).Sublist (List.filterMap Sl.adr (z :: l))
    rw [List.filterMap_cons, h, List.filterMap_cons]
    show (List.filterMap Sl.adr l).Sublist _
    cases z.adr with
    | none => exact List.Sublist.refl _
    | some b => exact List.sublist_cons_self _ _
  | z :: l, i + 1, y, h => by
    show (List.filterMap Sl.adr (z :: l.set i y)).Sublist (List.filterMap Sl.adr (z :: l))
    rw [List.filterMap_cons, List.filterMap_cons]
    have ih := muts_set_sub l i y h
    split
    · exact ih
    · exact ih.cons₂ _
theorem muts_set_same : ∀ (l : List Sl) (i : Nat) (x y : Sl), l[i]? = some x → y.adr = x.adr → muts (l.set i y) = muts l
  | [], _, _, _, h, _ => by simp at h
  | z :: l, 0, x, y, h, e => by
    simp at h
    subst h
    show List.filterMap Sl.adr (y :: l) = List.filterMap Sl.adr (z :: l)
    rw [List.filterMap_cons, List.filterMap_cons, e]
  | z :: l, i + 1, x, y, h, e => by
    simp at h
    show List.filterMap Sl.adr (z :: l.set i y) = List.filterMap Sl.adr (z :: l)
    rw [List.filterMap_cons, List.filterMap_cons]
    have ih : List.filterMap Sl.adr (l.set i y) = List.filterMap Sl.adr l := muts_set_same l i x y h e
    rw [ih]
theorem muts_set_new : ∀ (l : List Sl) (i : Nat) (y : Sl) (a : Addr), y.adr = some a → a ∉ muts l → (muts l).Nodup → (muts (l.set i y)).Nodup
  | [], _, _, _, _, _, h => h
  | z :: l, 0, y, a, e, hn, h => by
    show (List.filterMap Sl.adr (y :: l)).Nodup
    rw [List.filterMap_cons, e]
    have h' : (List.filterMap Sl.adr (z :: l)).Nodup := h
    have hn' : a ∉ List.filterMap Sl.adr (z :: l) := hn
    rw [List.filterMap_cons] at h' hn'
    split at h'
    · rename_i hz
      rw [hz] at hn'
      exact List.nodup_cons.mpr ⟨hn', h'⟩
    · rename_i b hz
      rw [hz] at hn'
      exact List.nodup_cons.mpr ⟨fun q => hn' (List.mem_cons_of_mem _ q), (List.nodup_cons.mp h').2⟩
  | z :: l, i + 1, y, a, e, hn, h => by
    show (List.filterMap Sl.adr (z :: l.set i y)).Nodup
    have h' : (List.filterMap Sl.adr (z :: l)).Nodup := h
    have hn' : a ∉ List.filterMap Sl.adr (z :: l) := hn
    rw [List.filterMap_cons] at h' hn' ⊢
    split at h'
    · rename_i hz
      rw [hz] at hn'
      exact muts_set_new l i y a e hn' h'
    · rename_i b hz
      rw [hz] at hn'
      have ih : (muts (l.set i y)).Nodup := muts_set_new l i y a e (fun q => hn' (List.mem_cons_of_mem _ q)) (List.nodup_cons.mp h').2
      refine List.nodup_cons.mpr ⟨fun q => ?_, ih⟩
      obtain ⟨j, w, hj, hw⟩ := mem_muts.mp (show b ∈ muts (l.set i y) from q)
      rw [List.getElem?_set] at hj
      split at hj
      · split at hj
        · cases hj
          rw [e] at hw
          cases hw
          exact hn' List.mem_cons_self
        · cases hj
      · exact (List.nodup_cons.mp h').1 (mem_muts.mpr ⟨j, w, hj, hw⟩)
theorem Env.set (h : Env K H0 S H s l) {w : Option V} (hy : y.adr = none) (ok : SlOk K H0 S H y w) : Env K H0 S H (s.set i w) (l.set i y) :=
  ⟨by rw [List.length_set, List.length_set]; exact h.len, fun j z e => by
    by_cases hij : i = j
    · subst hij
      have hl : i < l.length := by
        have := (List.getElem?_eq_some_iff.mp e).1
        rwa [List.length_set] at this
      rw [List.getElem?_set_self hl] at e
      cases e
      exact ⟨w, List.getElem?_set_self (by rw [h.len]; exact hl), ok⟩
    · rw [List.getElem?_set_ne hij] at e ⊢
      exact h.ok j z e, (muts_set_sub l i y hy).nodup h.nd⟩
theorem Env.dat (h : Env K H0 S H s l) {w : V} {d : PyData} (q : Dp K S w d) : Env K H0 S H (s.set i (some w)) (l.set i (.dat d)) := h.set rfl ⟨w, rfl, q⟩
theorem Env.val (h : Env K H0 S H s l) {w : V} : Env K H0 S H (s.set i (some w)) (l.set i (.val w)) := h.set rfl rfl
theorem Env.forget (h : Env K H0 S H s l) {w : Option V} : Env K H0 S H (s.set i w) (l.set i .no) := h.set rfl trivial
theorem Env.fresh (h : Env K H0 S H s l) {w : V} {a : Addr} (hy : y.adr = some a) (ha : a ∉ muts l) (ok : SlOk K H0 S H y (some w)) : Env K H0 S H (s.set i (some w)) (l.set i y) :=
  ⟨by rw [List.length_set, List.length_set]; exact h.len, fun j z e => by
    by_cases hij : i = j
    · subst hij
      have hl : i < l.length := by
        have := (List.getElem?_eq_some_iff.mp e).1
        rwa [List.length_set] at this
      rw [List.getElem?_set_self hl] at e
      cases e
      exact ⟨some w, List.getElem?_set_self (by rw [h.len]; exact hl), ok⟩
    · rw [List.getElem?_set_ne hij] at e ⊢
      exact h.ok j z e, muts_set_new l i y a hy ha h.nd⟩
theorem Env.put (h : Env K H0 S H s l) {a : Addr} (hi : l[i]? = some x) (hx : x.adr = some a) (hy : y.adr = some a) (hs : Same S S1) (hn : ∀ b, S b = none → H b ≠ none → S1 b = none) (hk : ∀ b u, b ≠ a → H b = some u → H1 b = some u)
    (ok : ∀ v, SlOk K H0 S H x v → SlOk K H0 S1 H1 y v) : Env K H0 S1 H1 s (l.set i y) :=
  ⟨by rw [List.length_set]; exact h.len, fun j z e => by
    by_cases hij : i = j
    · subst hij
      have hl : i < l.length := (List.getElem?_eq_some_iff.mp hi).1
      rw [List.getElem?_set_self hl] at e
      cases e
      obtain ⟨v, q, r⟩ := h.ok i x hi
      exact ⟨v, q, ok v r⟩
    · rw [List.getElem?_set_ne hij] at e
      obtain ⟨v, q, r⟩ := h.ok j z e
      refine ⟨v, q, r.go hs hn fun b u hb => hk b u fun hba => ?_⟩
      subst hba
      exact hij (nodup_eq (ys := []) h.nd hi e hx hb), by rw [muts_set_same l i x y hi (hy.trans hx.symm)]; exact h.nd⟩
end
end Dz

namespace Dz
open PySem L2

def rLenK (K : PySem.W.Frag) : List V → Hp → VK → Prop := fun xs H Q => ∃ p ys, xs = [.ref p] ∧ (SqL K H p ys ∨ SqT K H p ys) ∧ Q (.int ys.length) H
def rTupleK (K : PySem.W.Frag) : List V → Hp → VK → Prop := fun xs H Q => ∃ p ys, xs = [.ref p] ∧ ((SqL K H p ys ∧ ∀ l, H l = none → Q (.ref l) (upd H l (.tup ys))) ∨ (SqT K H p ys ∧ Q (.ref p) H))
def Ev (K : PySem.W.Frag) (te : TE) (l : List Sl) (d : PyData) : Prop := ∀ H0 S H s, Env K H0 S H s l → Same S H → ∀ Q : VK, (∀ v S' H', Grow m0 S H S' H' → Dp K S' v d → Q v H') → te s H Q
def EvT (K : PySem.W.Frag) (tt : TT) (l : List Sl) (b : Bool) : Prop := ∀ H0 S H s, Env K H0 S H s l → Same S H → ∀ Q : Bool → Hp → Prop, (∀ S' H', Grow m0 S H S' H' → Q b H') → tt s H Q
def EvA (K : PySem.W.Frag) (ta : TA) (l : List Sl) (ds : List PyData) : Prop := ∀ H0 S H s, Env K H0 S H s l → Same S H → ∀ Q : List V → Hp → Prop, (∀ vs S' H', Grow m0 S H S' H' → DpAll K S' vs ds → Q vs H') → ta s H Q
def EvO (K : PySem.W.Frag) (to : TO) (l : List Sl) (o : Option Int) : Prop := ∀ H0 S H s, Env K H0 S H s l → Same S H → ∀ Q : Option Int → Hp → Prop, (∀ S' H', Grow m0 S H S' H' → Q o H') → to s H Q
def RD (K : PySem.W.Frag) (r : R2) (a b c : PyData) : Prop := ∀ x y S H (Q : VK), Same S H → Dp K S x a → Dp K S y b → (∀ v S' H', Grow m0 S H S' H' → Dp K S' v c → Q v H') → r x y H Q
def RUD (K : PySem.W.Frag) (r : V → Hp → VK → Prop) (a c : PyData) : Prop := ∀ x S H (Q : VK), Same S H → Dp K S x a → (∀ v S' H', Grow m0 S H S' H' → Dp K S' v c → Q v H') → r x H Q
def RCD (K : PySem.W.Frag) (r : List V → Hp → VK → Prop) (as : List PyData) (c : PyData) : Prop := ∀ vs S H (Q : VK), Same S H → DpAll K S vs as → (∀ v S' H', Grow m0 S H S' H' → Dp K S' v c → Q v H') → r vs H Q
section
variable {K : PySem.W.Frag} {l : List Sl} {ta tb te : TE} {t u : TT} {a b c d : PyData} {r : R2}
theorem szl {n : Nat} (h : n ≤ 4000000) : n ≤ sizeLine := Nat.le_trans h (by decide)
theorem szt {n : Nat} (h : n < 4000000) : n < sizeLine := Nat.lt_of_lt_of_le h (by decide)
def truD : PyData → Bool
  | .none => false
  | .bool b => b
  | .int i => i != 0
  | .str y => (y.length : Int) != 0
  | .list ds => !ds.isEmpty
  | .tuple ds => !ds.isEmpty
  | .dict _ => false
theorem isEmpty_dp {S : Hp} {vs : List V} {ds : List PyData} (h : DpAll K S vs ds) : ds.isEmpty = vs.isEmpty := by
  cases h <;> rfl
theorem truV_of {S H : Hp} {v : V} (hs : Same S H) (h : Dp K S v d) (hz : ∀ y, d = .str y → y.length ≤ 4000000) : TruV K v H (truD d) := by
  cases h with
  | non => rfl
  | bl b => rfl
  | int i => rfl
  | str x => exact ⟨szl (hz x rfl), rfl⟩
  | lst a b => exact .inl ⟨_, hs.seq a, by show (!_) = !_; rw [isEmpty_dp b]⟩
  | tup a b => exact .inr (.inl ⟨_, same_seqT hs a, by show (!_) = !_; rw [isEmpty_dp b]⟩)
def isN : PyData → Bool
  | .none => true
  | _ => false
theorem dp_isN {S : Hp} {v : V} (h : Dp K S v d) : decide (v = .non) = isN d := by
  cases h <;> simp [isN]
theorem rd_I0 {g : Int → Int → V} {i j : Int} (h : ∀ S, Dp K S (g i j) c) : RD K (rI0 g) (.int i) (.int j) c := fun x y S H Q hs hx hy q => by
  cases hx; cases hy
  exact ⟨i, j, rfl, rfl, q _ S H (Grow.refl hs) (h S)⟩
theorem rd_I {C : Int → Int → Prop} {g : Int → Int → V} {i j : Int} (hc : C i j) (h : ∀ S, Dp K S (g i j) c) : RD K (rI C g) (.int i) (.int j) c := fun x y S H Q hs hx hy q => by
  cases hx; cases hy
  exact ⟨i, j, rfl, rfl, hc, q _ S H (Grow.refl hs) (h S)⟩
theorem rud_U {g : Int → V} {i : Int} (h : ∀ S, Dp K S (g i) c) : RUD K (rU g) (.int i) c := fun x S H Q hs hx q => by
  cases hx
  exact ⟨i, rfl, q _ S H (Grow.refl hs) (h S)⟩
def scV : PyData → Option V
  | .none => some .non
  | .bool b => some (.bl b)
  | .int i => some (.int i)
  | .str x => some (.str x)
  | _ => none
theorem scV_dp {S : Hp} {v w : V} (h : scV d = some w) (q : Dp K S v d) : v = w := by
  cases q <;> first | (cases h; rfl) | cases h
theorem rd_eq {x y : V} (h1 : scV a = some x) (h2 : scV b = some y) (h : scal x y = true) : RD K rEq a b (.bool (decide (x = y))) := fun x' y' S H Q hs hx hy q => by
  rw [scV_dp h1 hx, scV_dp h2 hy]
  exact ⟨h, q _ S H (Grow.refl hs) (.bl _)⟩
theorem rd_ne {x y : V} (h1 : scV a = some x) (h2 : scV b = some y) (h : scal x y = true) : RD K rNe a b (.bool (!decide (x = y))) := fun x' y' S H Q hs hx hy q => by
  rw [scV_dp h1 hx, scV_dp h2 hy]
  exact ⟨h, q _ S H (Grow.refl hs) (.bl _)⟩
theorem rd_eqS {i j : Str} : RD K rEq (.str i) (.str j) (.bool (decide (i = j))) := by
  have := rd_eq (K := K) (a := .str i) (b := .str j) rfl rfl rfl
  simpa using this
theorem rd_neS {i j : Str} : RD K rNe (.str i) (.str j) (.bool (!decide (i = j))) := by
  have := rd_ne (K := K) (a := .str i) (b := .str j) rfl rfl rfl
  simpa using this
theorem rd_eqIS {i : Int} {j : Str} : RD K rEq (.int i) (.str j) (.bool false) := by
  have := rd_eq (K := K) (a := .int i) (b := .str j) rfl rfl rfl
  simpa using this
theorem rd_neIS {i : Int} {j : Str} : RD K rNe (.int i) (.str j) (.bool true) := by
  have := rd_ne (K := K) (a := .int i) (b := .str j) rfl rfl rfl
  simpa using this
theorem rd_eqSI {i : Int} {j : Str} : RD K rEq (.str j) (.int i) (.bool false) := by
  have := rd_eq (K := K) (a := .str j) (b := .int i) rfl rfl rfl
  simpa using this
theorem rd_neSI {i : Int} {j : Str} : RD K rNe (.str j) (.int i) (.bool true) := by
  have := rd_ne (K := K) (a := .str j) (b := .int i) rfl rfl rfl
  simpa using this
theorem atI_map {S : Hp} {xs : List V} {ds : List PyData} {i : Int} (h : DpAll K S xs ds) (e : atI ds i = some d) : ∃ v, atI xs i = some v ∧ Dp K S v d := by
  unfold atI at e ⊢
  rw [DpAll_len h]
  cases hj : ixN ds.length i with
  | none => rw [hj] at e; cases e
  | some j =>
    rw [hj] at e
    exact DpAll_get h e
theorem rd_ixT {ds : List PyData} {i : Int} (e : atI ds i = some d) : RD K (rIx K) (.tuple ds) (.int i) d := fun x y S H Q hs hx hy q => by
  cases hy
  cases hx with
  | tup h1 h2 =>
    obtain ⟨v, hv, hd⟩ := atI_map h2 e
    exact .inr (.inl ⟨_, _, i, v, rfl, rfl, same_seqT hs h1, hv, q v S H (Grow.refl hs) hd⟩)
theorem rd_ixL {ds : List PyData} {i : Int} (e : atI ds i = some d) : RD K (rIx K) (.list ds) (.int i) d := fun x y S H Q hs hx hy q => by
  cases hy
  cases hx with
  | lst h1 h2 =>
    obtain ⟨v, hv, hd⟩ := atI_map h2 e
    exact .inl ⟨_, _, i, v, rfl, rfl, hs.seq h1, hv, q v S H (Grow.refl hs) hd⟩
def flatD : PyData → Bool
  | .none => true
  | .bool _ => true
  | .int _ => true
  | .str _ => true
  | _ => false
def eqF : PyData → PyData → Bool
  | .none, .none => true
  | .bool a, .bool b => a == b
  | .bool a, .int b => (if a then 1 else 0) == b
  | .int a, .bool b => a == (if b then 1 else 0)
  | .int a, .int b => a == b
  | .str a, .str b => a == b
  | _, _ => false
def inF (x : PyData) (xs : List PyData) : Bool := xs.any fun y => eqF y x
theorem flat_dp {S : Hp} {v : V} (h : Dp K S v d) (f : flatD d = true) : flatV v = true := by
  cases h <;> first | rfl | cases f
theorem eqF_dp {S : Hp} {v w : V} (h : Dp K S v a) (h2 : Dp K S w b) (f : flatD a = true) (f2 : flatD b = true) : eqV v w = eqF a b := by
  cases h <;> first | (cases h2 <;> first | rfl | cases f2) | cases f
theorem flats_dp {S : Hp} : ∀ {vs : List V} {ds : List PyData}, DpAll K S vs ds → ds.all flatD = true → vs.all flatV = true
  | _, [], h, _ => by cases h; rfl
  | _, d :: ds, h, f => by
    cases h with
    | cons h1 h2 =>
      rw [List.all_cons, Bool.and_eq_true] at f ⊢
      exact ⟨flat_dp h1 f.1, flats_dp h2 f.2⟩
theorem in_dp {S : Hp} {v : V} (h : Dp K S v a) (f : flatD a = true) : ∀ {vs : List V} {ds : List PyData}, DpAll K S vs ds → ds.all flatD = true → inV v vs = inF a ds
  | _, [], h2, _ => by cases h2; rfl
  | _, d :: ds, h2, f2 => by
    cases h2 with
    | cons h3 h4 =>
      rw [List.all_cons, Bool.and_eq_true] at f2
      have ih := in_dp h f h4 f2.2
      unfold inV inF at ih ⊢
      rw [List.any_cons, List.any_cons, ih, eqF_dp h3 h f2.1 f]
theorem rd_inL {neg : Bool} {ds : List PyData} (f : flatD a = true) (fs : ds.all flatD = true) : RD K (rIn K neg) a (.list ds) (.bool (if neg then !inF a ds else inF a ds)) := fun x y S H Q hs hx hy q => by
  cases hy with
  | lst h1 h2 =>
    refine ⟨_, _, rfl, .inl (hs.seq h1), flat_dp hx f, flats_dp h2 fs, ?_⟩
    rw [in_dp hx f h2 fs]
    exact q _ S H (Grow.refl hs) (.bl _)
theorem rd_inT {neg : Bool} {ds : List PyData} (f : flatD a = true) (fs : ds.all flatD = true) : RD K (rIn K neg) a (.tuple ds) (.bool (if neg then !inF a ds else inF a ds)) := fun x y S H Q hs hx hy q => by
  cases hy with
  | tup h1 h2 =>
    refine ⟨_, _, rfl, .inr (same_seqT hs h1), flat_dp hx f, flats_dp h2 fs, ?_⟩
    rw [in_dp hx f h2 fs]
    exact q _ S H (Grow.refl hs) (.bl _)
theorem flat_ints : ∀ ns : List Int, (ns.map PyData.int).all flatD = true
  | [] => rfl
  | _ :: ns => by rw [List.map_cons, List.all_cons, flat_ints ns]; rfl
theorem inF_ints {i : Int} : ∀ ns : List Int, inF (.int i) (ns.map PyData.int) = decide (i ∈ ns)
  | [] => by simp [inF]
  | n :: ns => by
    have ih := inF_ints (i := i) ns
    unfold inF at ih ⊢
    rw [List.map_cons, List.any_cons, ih]
    by_cases h : n = i
    · subst h; simp [eqF]
    · have h' : ¬ i = n := fun e => h e.symm
      simp [eqF, h, h']
theorem rc_lenL {ds : List PyData} : RCD K (rLenK K) [.list ds] (.int ds.length) := fun vs S H Q hs hx q => by
  cases hx with
  | cons h1 h2 =>
    cases h2
    cases h1 with
    | lst h3 h4 => exact ⟨_, _, rfl, .inl (hs.seq h3), q _ S H (Grow.refl hs) (by rw [DpAll_len h4]; exact .int _)⟩
theorem rc_lenT {ds : List PyData} : RCD K (rLenK K) [.tuple ds] (.int ds.length) := fun vs S H Q hs hx q => by
  cases hx with
  | cons h1 h2 =>
    cases h2
    cases h1 with
    | tup h3 h4 => exact ⟨_, _, rfl, .inr (same_seqT hs h3), q _ S H (Grow.refl hs) (by rw [DpAll_len h4]; exact .int _)⟩
theorem new_lst {S H : Hp} {xs : List V} {ds : List PyData} {Q : VK} (hs : Same S H) (h : DpAll K S xs ds) (q : ∀ v S' H', Grow m0 S H S' H' → Dp K S' v (.list ds) → Q v H') : ∀ p, H p = none → Q (.ref p) (upd H p (.lst xs)) := fun p hp =>
  have g2 : Grow m0 S H (upd S p (.lst xs)) (upd H p (.lst xs)) := Grow.new hs hp
  q _ _ _ g2 (.lst (.inl (.inl upd_same)) (DpAll_mono h g2.s))
theorem new_tup {S H : Hp} {xs : List V} {ds : List PyData} {Q : VK} (hs : Same S H) (h : DpAll K S xs ds) (q : ∀ v S' H', Grow m0 S H S' H' → Dp K S' v (.tuple ds) → Q v H') : ∀ p, H p = none → Q (.ref p) (upd H p (.tup xs)) := fun p hp =>
  have g2 : Grow m0 S H (upd S p (.tup xs)) (upd H p (.tup xs)) := Grow.new hs hp
  q _ _ _ g2 (.tup (.inl (.inl upd_same)) (DpAll_mono h g2.s))
theorem rc_tupleL {ds : List PyData} : RCD K (rTupleK K) [.list ds] (.tuple ds) := fun vs S H Q hs hx q => by
  cases hx with
  | cons h1 h2 =>
    cases h2
    cases h1 with
    | lst h3 h4 => exact ⟨_, _, rfl, .inl ⟨hs.seq h3, new_tup hs h4 q⟩⟩
theorem rc_tupleT {ds : List PyData} : RCD K (rTupleK K) [.tuple ds] (.tuple ds) := fun vs S H Q hs hx q => by
  cases hx with
  | cons h1 h2 =>
    cases h2
    cases h1 with
    | tup h3 h4 => exact ⟨_, _, rfl, .inr ⟨same_seqT hs h3, q _ S H (Grow.refl hs) (.tup h3 h4)⟩⟩
theorem rc_abs {i : Int} : RCD K (fun xs H Q => ∃ i, xs = [.int i] ∧ Q (.int (if i < 0 then -i else i)) H) [.int i] (.int (if i < 0 then -i else i)) := fun vs S H Q hs hx q => by
  cases hx with
  | cons h1 h2 => cases h2; cases h1; exact ⟨i, rfl, q _ S H (Grow.refl hs) (.int _)⟩
def maxI : List Int → Int
  | [] => 0
  | [x] => x
  | x :: y :: r => max x (maxI (y :: r))
def minI : List Int → Int
  | [] => 0
  | [x] => x
  | x :: y :: r => min x (minI (y :: r))
theorem maxI_mem : ∀ {ns : List Int}, ns ≠ [] → maxI ns ∈ ns
  | [], h => absurd rfl h
  | [x], _ => by simp [maxI]
  | x :: y :: r, _ => by
    have ih : maxI (y :: r) ∈ y :: r := maxI_mem (by simp)
    unfold maxI
    rcases Int.le_total x (maxI (y :: r)) with h | h
    · rw [Int.max_eq_right h]; exact List.mem_cons_of_mem _ ih
    · rw [Int.max_eq_left h]; exact List.mem_cons_self
theorem maxI_ge : ∀ {ns : List Int} {x : Int}, x ∈ ns → x ≤ maxI ns
  | [], _, h => by simp at h
  | [y], x, h => by simp at h; subst h; simp [maxI]
  | y :: z :: r, x, h => by
    unfold maxI
    rcases List.mem_cons.mp h with h | h
    · subst h; exact Int.le_max_left _ _
    · exact Int.le_trans (maxI_ge h) (Int.le_max_right _ _)
theorem minI_mem : ∀ {ns : List Int}, ns ≠ [] → minI ns ∈ ns
  | [], h => absurd rfl h
  | [x], _ => by simp [minI]
  | x :: y :: r, _ => by
    have ih : minI (y :: r) ∈ y :: r := minI_mem (by simp)
    unfold minI
    rcases Int.le_total x (minI (y :: r)) with h | h
    · rw [Int.min_eq_left h]; exact List.mem_cons_self
    · rw [Int.min_eq_right h]; exact List.mem_cons_of_mem _ ih
theorem minI_le : ∀ {ns : List Int} {x : Int}, x ∈ ns → minI ns ≤ x
  | [], _, h => by simp at h
  | [y], x, h => by simp at h; subst h; simp [minI]
  | y :: z :: r, x, h => by
    unfold minI
    rcases List.mem_cons.mp h with h | h
    · subst h; exact Int.min_le_left _ _
    · exact Int.le_trans (Int.min_le_right _ _) (minI_le h)
theorem maxI_is {ns : List Int} {m : Int} (h : m ∈ ns) (k : ∀ y ∈ ns, y ≤ m) : maxI ns = m :=
  Int.le_antisymm (k _ (maxI_mem (List.ne_nil_of_mem h))) (maxI_ge h)
theorem minI_is {ns : List Int} {m : Int} (h : m ∈ ns) (k : ∀ y ∈ ns, m ≤ y) : minI ns = m :=
  Int.le_antisymm (minI_le h) (k _ (minI_mem (List.ne_nil_of_mem h)))
theorem rc_max {ns : List Int} (h0 : ns ≠ []) : RCD K (rMax K) [.list (ns.map .int)] (.int (maxI ns)) := fun vs S H Q hs hx q => by
  cases hx with
  | cons h1 h2 =>
    cases h2
    cases h1 with
    | lst h3 h4 =>
      rw [ints_of h4] at h3
      exact ⟨_, ns, rfl, hs.seq h3, List.length_pos_iff.mpr h0, fun m hm hk => q _ S H (Grow.refl hs) (by rw [maxI_is hm hk]; exact .int _)⟩
theorem rc_min {ns : List Int} (h0 : ns ≠ []) : RCD K (rMin K) [.list (ns.map .int)] (.int (minI ns)) := fun vs S H Q hs hx q => by
  cases hx with
  | cons h1 h2 =>
    cases h2
    cases h1 with
    | lst h3 h4 =>
      rw [ints_of h4] at h3
      exact ⟨_, ns, rfl, hs.seq h3, List.length_pos_iff.mpr h0, fun m hm hk => q _ S H (Grow.refl hs) (by rw [minI_is hm hk]; exact .int _)⟩
theorem rc_all {bs : List Bool} : RCD K (rAll K) [.list (bs.map .bool)] (.bool (bs.all id)) := fun vs S H Q hs hx q => by
  cases hx with
  | cons h1 h2 =>
    cases h2
    cases h1 with
    | lst h3 h4 =>
      rw [bools_of h4] at h3
      exact ⟨_, bs, rfl, hs.seq h3, q _ S H (Grow.refl hs) (.bl _)⟩
def cutD (xs : List PyData) (lo hi : Option Int) : List PyData := (xs.drop (HT.sIx xs.length 0 lo)).take (HT.sIx xs.length xs.length hi - HT.sIx xs.length 0 lo)
theorem cut_dp {S : Hp} {vs : List V} {ds : List PyData} (h : DpAll K S vs ds) (lo hi : Option Int) : DpAll K S (cutV vs lo hi) (cutD ds lo hi) := by
  unfold cutV cutD
  rw [DpAll_len h]
  exact DpAll_take _ (DpAll_drop _ h)
def rSlAny (K : PySem.W.Frag) : V → Option Int → Option Int → Hp → VK → Prop := fun x lo hi H Q => rSlL K x lo hi H Q ∨ rSlA K x lo hi H Q
end
end Dz

namespace Dz
open PySem L2 RZ

structure WalkD (K : PySem.W.Frag) (J : It) (S : Hp) (ds : List PyData) : Prop where
  go : ∀ i H, i < ds.length → Same S H → J.go i H
  stop : ∀ H, Same S H → J.stop ds.length H
  yld : ∀ i H x H' d S2, ds[i]? = some d → Same S S2 → Same S2 H → J.yld i H x H' → ∃ S', Grow m0 S2 H S' H' ∧ Dp K S' x d
def EvI (K : PySem.W.Frag) (wi : TI) (l : List Sl) (ds : List PyData) : Prop := ∀ H0 S H s, Env K H0 S H s l → Same S H → ∀ R : It → Hp → Prop, (∀ J S' H', Grow m0 S H S' H' → WalkD K J S' ds → R J H') → wi s H R
theorem PI_or {X : Cx} {tg e : Expr} {w1 w2 : TI} (h1 : PI X tg e w1) (h2 : PI X tg e w2) : PI X tg e (fun s H R => w1 s H R ∨ w2 s H R) :=
  ⟨fun pins s σ H R I h => h.elim (fun q => h1.run pins s σ H R I q) fun q => h2.run pins s σ H R I q⟩
def iSeq (K : PySem.W.Frag) (tl : TE) : TI := fun s H R => iList K tl s H R ∨ iTup K tl s H R
theorem pi_seq {X : Cx} {tg e : Expr} {tl : TE} (h : PE X e tl) : PI X tg e (iSeq X.K tl) := PI_or (pi_list h) (pi_tup h)
section
variable {K : PySem.W.Frag} {l l' : List Sl} {ta tb te : TE} {t u : TT} {a b c d : PyData} {r : R2} {ds : List PyData}
theorem walkL {S : Hp} {p : Addr} {xs : List V} (h : SqL K S p xs) (hd : DpAll K S xs ds) : WalkD K (Itl K p) S ds := by
  have w := walk_list (K := K) (a := p) (xs := xs)
  rw [DpAll_len hd] at w
  refine ⟨fun i H hi hs => w.goes i H hi (hs.seq h), fun H hs => w.stops H (hs.seq h), fun i H x H' d S2 e s1 s2 y => ?_⟩
  have hi : i < ds.length := (List.getElem?_eq_some_iff.mp e).1
  obtain ⟨rfl, q⟩ := w.yields i H x H' hi ((s1.trans s2).seq h) y
  obtain ⟨v, hv, hdv⟩ := DpAll_get hd e
  rw [hv] at q
  cases q
  exact ⟨S2, Grow.refl s2, Dp_mono hdv s1⟩
theorem walkT {S : Hp} {p : Addr} {xs : List V} (h : SqT K S p xs) (hd : DpAll K S xs ds) : WalkD K (Itt K p) S ds := by
  have w := walk_tup (K := K) (a := p) (xs := xs)
  rw [DpAll_len hd] at w
  refine ⟨fun i H hi hs => w.goes i H hi (same_seqT hs h), fun H hs => w.stops H (same_seqT hs h), fun i H x H' d S2 e s1 s2 y => ?_⟩
  have hi : i < ds.length := (List.getElem?_eq_some_iff.mp e).1
  obtain ⟨rfl, q⟩ := w.yields i H x H' hi (same_seqT (s1.trans s2) h) y
  obtain ⟨v, hv, hdv⟩ := DpAll_get hd e
  rw [hv] at q
  cases q
  exact ⟨S2, Grow.refl s2, Dp_mono hdv s1⟩
def rng (lo : Int) (n : Nat) : List PyData := (List.range n).map fun (i : Nat) => PyData.int (lo + (i : Int))
theorem rng_len (lo : Int) (n : Nat) : (rng lo n).length = n := by simp [rng]
theorem rng_get {lo : Int} {n i : Nat} {d : PyData} (h : (rng lo n)[i]? = some d) : i < n ∧ d = .int (lo + i) := by
  unfold rng at h
  rw [List.getElem?_map] at h
  by_cases hi : i < n
  · rw [List.getElem?_range hi] at h
    exact ⟨hi, (Option.some.inj h).symm⟩
  · rw [List.getElem?_eq_none (by simpa using hi)] at h
    cases h
theorem walkR {S : Hp} {lo : Int} {n : Nat} : WalkD K (Itr lo n) S (rng lo n) := by
  have w := walk_range (lo := lo) (n := n)
  refine ⟨fun i H hi _ => w.goes i H (by rwa [rng_len] at hi) trivial, fun H _ => by rw [rng_len]; exact w.stops H trivial, fun i H x H' d S2 e s1 s2 y => ?_⟩
  obtain ⟨hi, rfl⟩ := rng_get e
  obtain ⟨rfl, rfl⟩ := w.yields i H x H' hi trivial y
  exact ⟨S2, Grow.refl s2, .int _⟩
theorem dp_pair {S H H' : Hp} {T : Addr} {x y : V} (hs : Same S H) (hn : H T = none) (e : H' = upd H T (.tup [x, y])) (h1 : Dp K S x a) (h2 : Dp K S y b) : ∃ S', Grow m0 S H S' H' ∧ Dp K S' (.ref T) (.tuple [a, b]) := by
  subst e
  have g : Grow m0 S H (upd S T (.tup [x, y])) (upd H T (.tup [x, y])) := Grow.new hs hn
  exact ⟨_, g, .tup (.inl (.inl upd_same)) (.cons (Dp_mono h1 g.s) (.cons (Dp_mono h2 g.s) .nil))⟩
def enumD (ds : List PyData) : List PyData := (List.range ds.length).zipWith (fun i d => PyData.tuple [.int (i : Nat), d]) ds
theorem enumD_len (ds : List PyData) : (enumD ds).length = ds.length := by simp [enumD]
theorem enumD_get {i : Nat} {d : PyData} (h : (enumD ds)[i]? = some d) : ∃ e, ds[i]? = some e ∧ d = .tuple [.int (i : Nat), e] := by
  have hl := (List.getElem?_eq_some_iff.mp h).1
  rw [enumD_len] at hl
  unfold enumD at h
  rw [List.getElem?_zipWith, List.getElem?_range hl, List.getElem?_eq_getElem hl] at h
  exact ⟨ds[i], List.getElem?_eq_getElem hl, (Option.some.inj h).symm⟩
theorem walkE {S : Hp} {p : Addr} {xs : List V} (h : SqL K S p xs) (hd : DpAll K S xs ds) : WalkD K (Ite K p) S (enumD ds) := by
  have w := walk_enum (K := K) (a := p) (xs := xs)
  rw [DpAll_len hd] at w
  refine ⟨fun i H hi hs => w.goes i H (by rwa [enumD_len] at hi) (hs.seq h), fun H hs => by rw [enumD_len]; exact w.stops H (hs.seq h), fun i H x H' d S2 e s1 s2 y => ?_⟩
  obtain ⟨e', he, rfl⟩ := enumD_get e
  have hi : i < ds.length := (List.getElem?_eq_some_iff.mp he).1
  obtain ⟨T, x1, y1, rfl, hn, e2, q1, q2⟩ := w.yields i H x H' hi ((s1.trans s2).seq h) y
  obtain ⟨v, hv, hdv⟩ := DpAll_get hd he
  cases q1
  have q3 : xs[i]? = some y1 := q2
  rw [hv] at q3
  cases q3
  exact dp_pair s2 hn e2 (.int _) (Dp_mono hdv s1)
def GIn (g : TG) (vs : List Nat) : Prop := ∀ v s H (Q : L2.St → Hp → Prop), g v s H Q → g v s H fun s' H' => wipe s' vs = wipe s vs ∧ Q s' H'
def GIns (g : TGs) (vs : List Nat) : Prop := ∀ v s H (Q : L2.St → Hp → Prop), g v s H Q → g v s H fun s' H' => wipe s' vs = wipe s vs ∧ Q s' H'
theorem wipe_get {s : L2.St} {j : Nat} : ∀ {vs : List Nat}, (wipe s vs)[j]? = if j ∈ vs then (if j < s.length then some none else none) else s[j]?
  | [] => by simp [wipe]
  | v :: vs => by
    unfold wipe
    rw [List.getElem?_set]
    by_cases h : v = j
    · subst h
      rw [if_pos rfl, wipe_length, if_pos List.mem_cons_self]
    · rw [if_neg h, wipe_get]
      have : (j ∈ v :: vs) ↔ j ∈ vs := by
        rw [List.mem_cons]
        exact ⟨fun z => z.elim (fun q => absurd q.symm h) id, .inr⟩
      by_cases hj : j ∈ vs
      · rw [if_pos hj, if_pos (this.mpr hj)]
      · rw [if_neg hj, if_neg fun z => hj (this.mp z)]
theorem wipe_set {s : L2.St} {i : Nat} {x : Option V} {vs : List Nat} (h : i ∈ vs) : wipe (s.set i x) vs = wipe s vs := by
  apply List.ext_getElem?
  intro j
  rw [wipe_get, wipe_get, List.length_set]
  by_cases hj : j ∈ vs
  · rw [if_pos hj, if_pos hj]
  · rw [if_neg hj, if_neg hj, List.getElem?_set_ne fun (e : i = j) => hj (e ▸ h)]
theorem gin_name {i : Nat} {vs : List Nat} (h : i ∈ vs) : GIn (gName i) vs := fun v s H Q q => ⟨wipe_set h, q⟩
theorem gins_nil {vs : List Nat} : GIns gNil vs := fun v s H Q q => ⟨q.1, rfl, q.2⟩
theorem gins_cons {g : TG} {gs : TGs} {vs : List Nat} (h1 : GIn g vs) (h2 : GIns gs vs) (mono : ∀ v s H (Q Q' : L2.St → Hp → Prop), (∀ s' H', Q s' H' → Q' s' H') → g v s H Q → g v s H Q') : GIns (gCons g gs) vs := fun v s H Q ⟨x, r, e, q⟩ =>
  ⟨x, r, e, mono _ _ _ _ _ (fun s' H' ⟨w, k⟩ => by
    have := h2 r s' H' Q k
    rw [w] at this
    exact this) (h1 x s H _ q)⟩
theorem gin_tup {gs : TGs} {n : Nat} {vs : List Nat} (h : GIns gs vs) : GIn (gTup K n gs) vs := fun v s H Q ⟨a, xs, e, h1, h2, q⟩ => ⟨a, xs, e, h1, h2, h xs s H Q q⟩
theorem gmono_name {i : Nat} : ∀ v s H (Q Q' : L2.St → Hp → Prop), (∀ s' H', Q s' H' → Q' s' H') → gName i v s H Q → gName i v s H Q' := fun v s H Q Q' f q => f _ _ q
theorem gmonos_nil : ∀ v s H (Q Q' : L2.St → Hp → Prop), (∀ s' H', Q s' H' → Q' s' H') → gNil v s H Q → gNil v s H Q' := fun v s H Q Q' f q => ⟨q.1, f _ _ q.2⟩
theorem gmonos_cons {g : TG} {gs : TGs} (h1 : ∀ v s H (Q Q' : L2.St → Hp → Prop), (∀ s' H', Q s' H' → Q' s' H') → g v s H Q → g v s H Q') (h2 : ∀ v s H (Q Q' : L2.St → Hp → Prop), (∀ s' H', Q s' H' → Q' s' H') → gs v s H Q → gs v s H Q') :
    ∀ v s H (Q Q' : L2.St → Hp → Prop), (∀ s' H', Q s' H' → Q' s' H') → gCons g gs v s H Q → gCons g gs v s H Q' := fun v s H Q Q' f ⟨x, r, e, q⟩ => ⟨x, r, e, h1 _ _ _ _ _ (fun s' H' k => h2 _ _ _ _ _ f k) q⟩
theorem gmono_tup {gs : TGs} {n : Nat} (h2 : ∀ v s H (Q Q' : L2.St → Hp → Prop), (∀ s' H', Q s' H' → Q' s' H') → gs v s H Q → gs v s H Q') :
    ∀ v s H (Q Q' : L2.St → Hp → Prop), (∀ s' H', Q s' H' → Q' s' H') → gTup K n gs v s H Q → gTup K n gs v s H Q' := fun v s H Q Q' f ⟨a, xs, e, e1, e2, q⟩ => ⟨a, xs, e, e1, e2, h2 _ _ _ _ _ f q⟩
def wipeL (l : List Sl) : List Nat → List Sl
  | [] => l
  | v :: vs => (wipeL l vs).set v .no
theorem Env.wipe {H0 S H : Hp} {s : L2.St} (h : Env K H0 S H s l) : ∀ vs : List Nat, Env K H0 S H (L2.wipe s vs) (wipeL l vs)
  | [] => h
  | v :: vs => (Env.wipe h vs).forget
section
variable {m : Addr → Prop} {S H S1 H1 S2 H2 : Hp} {p : Addr} {o : HO}
theorem Grow.putNew (g : Grow m S H S1 H1) (hp : H p = none) (hs : S1 p = none) (hx : H1 p ≠ none) : Grow m S H S1 (upd H1 p o) :=
  ⟨g.s, fun b x e => by rw [upd_ne (ne_of_none e hs)]; exact g.f b x e, g.n, fun a u hm e => by rw [upd_ne (ne_of_none e hp)]; exact g.k a u hm e, fun a e => by
    by_cases z : a = p
    · subst z; rw [upd_same]; exact fun q => nomatch q
    · rw [upd_ne z]; exact g.d a e, g.x⟩
theorem Grow.take (g : Grow m S H S1 H1) (hp : H p = none) (hx : H1 p = some o) (hs : S1 p = none) (ho : ∀ φ, o ≠ .ext φ := by intro φ z; cases z) : Grow m S H (upd S1 p o) H1 :=
  ⟨g.s.trans (same_up hs), fun b x e => by
    by_cases z : b = p
    · subst z; rw [upd_same] at e; rw [hx]; exact e
    · rw [upd_ne z] at e; exact g.f b x e, fun a e q => by
    have : a ≠ p := fun z => by subst z; exact q hp
    rw [upd_ne this]; exact g.n a e q, g.k, g.d, fun a φ e => g.x a φ (no_ext ho a φ e)⟩
end
def EvL (K : PySem.W.Frag) (te : TE) (l : List Sl) (ds : List PyData) : Prop := ∀ H0 S H s, Env K H0 S H s l → Same S H → ∀ Q : VK, (∀ p S' H' xs, Grow m0 S H S' H' → H p = none → S' p = none → H' p = some (.lst xs) → DpAll K S' xs ds → Q (.ref p) H') → te s H Q
end
end Dz

namespace Dz
open PySem L2 RZ

section
variable {K : PySem.W.Frag} {l l' : List Sl} {ta tb te : TE} {t u : TT} {a b c d : PyData} {r : R2} {ds : List PyData} {i : Nat} {o : Addr}
structure Cn where
  K : PySem.W.Frag
  m : Addr → Prop
  S0 : Hp
  H0 : Hp
  Sb : Hp
structure At (C : Cn) (l : List Sl) (s : L2.St) (H : Hp) : Prop where
  ex : ∃ S, Grow C.m C.S0 C.H0 S H ∧ Env C.K C.H0 S H s l ∧ Same C.Sb S
  tw : ∀ t n, Sl.town t n ∈ l → C.m t
inductive Weak : List Sl → List Sl → Prop
  | nil : Weak [] []
  | same {x : Sl} {l l' : List Sl} : Weak l l' → Weak (x :: l) (x :: l')
  | no {x : Sl} {l l' : List Sl} : Weak l l' → Weak (x :: l) (.no :: l')
theorem Weak.len (h : Weak l l') : l.length = l'.length := by
  induction h with
  | nil => rfl
  | same _ ih => simp [ih]
  | no _ ih => simp [ih]
theorem Weak.get (h : Weak l l') : ∀ {j : Nat} {x : Sl}, l'[j]? = some x → x = .no ∨ l[j]? = some x := by
  induction h with
  | nil => intro j x e; simp at e
  | same _ ih =>
    intro j x e
    cases j with
    | zero => simp at e; exact .inr (by simpa using e)
    | succ j => simpa using ih (by simpa using e)
  | no _ ih =>
    intro j x e
    cases j with
    | zero => simp at e; exact .inl e.symm
    | succ j => simpa using ih (by simpa using e)
theorem Weak.muts (h : Weak l l') : (muts l').Sublist (muts l) := by
  induction h with
  | nil => exact List.Sublist.refl _
  | @same x l l' _ ih =>
    show (List.filterMap Sl.adr (x :: l')).Sublist (List.filterMap Sl.adr (x :: l))
    rw [List.filterMap_cons, List.filterMap_cons]
    cases x.adr with
    | none => exact ih
    | some y => exact ih.cons₂ _
  | @no x l l' _ ih =>
    show (List.filterMap Sl.adr (.no :: l')).Sublist (List.filterMap Sl.adr (x :: l))
    rw [List.filterMap_cons, List.filterMap_cons]
    show (List.filterMap Sl.adr l').Sublist _
    cases x.adr with
    | none => exact ih
    | some y => exact ih.cons _
theorem Env.weak {H0 S H : Hp} {s : L2.St} (h : Env K H0 S H s l) (w : Weak l l') : Env K H0 S H s l' :=
  ⟨h.len.trans w.len, fun j x e => by
    rcases w.get e with rfl | e'
    · have hj : j < s.length := by
        rw [h.len, w.len]
        exact (List.getElem?_eq_some_iff.mp e).1
      exact ⟨s[j], List.getElem?_eq_getElem hj, trivial⟩
    · exact h.ok j x e', w.muts.nodup h.nd⟩
end
section
variable {C : Cn} {l l' : List Sl} {ta tb te : TE} {t u : TT} {a b c d : PyData} {ds : List PyData} {i : Nat} {o : Addr} {s : L2.St} {H : Hp} {D : Ends} {tu tv : TS} {x y : Sl}
theorem At.weak (h : At C l s H) (w : Weak l l') : At C l' s H := by
  obtain ⟨S, g, e, b⟩ := h.ex
  refine ⟨⟨S, g, e.weak w, b⟩, fun t n hm => ?_⟩
  obtain ⟨j, hj⟩ := List.mem_iff_getElem?.mp hm
  rcases w.get hj with q | q
  · cases q
  · exact h.tw t n (List.mem_of_getElem? q)
theorem tw_set {m : Addr → Prop} (h : ∀ t n, Sl.town t n ∈ l → m t) (hx : ∀ t n, y ≠ .town t n) : ∀ t n, Sl.town t n ∈ l.set i y → m t := fun t n hm => by
  rcases List.mem_or_eq_of_mem_set hm with q | q
  · exact h t n q
  · exact absurd q.symm (hx t n)
theorem At.step {v : V} (h : At C l s H) (he : Ev C.K te l d) {Q : VK} (q : ∀ v S' H', Grow C.m C.S0 C.H0 S' H' → Env C.K C.H0 S' H' s l → Same C.Sb S' → Dp C.K S' v d → Q v H') : te s H Q := by
  obtain ⟨S, g, e, b⟩ := h.ex
  exact he C.H0 S H s e g.f Q fun v S' H' g1 d1 => q v S' H' (g.trans g1.any) (e.grow g1) (b.trans g1.s) d1
theorem At.put {es : List PyData} {S H' : Hp} {ys : List V} (tw : ∀ t n, Sl.town t n ∈ l → C.m t) (g : Grow C.m C.S0 C.H0 S H) (e : Env C.K C.H0 S H s l) (b : Same C.Sb S) (hi : l[i]? = some (.own o ds)) (hd : DpAll C.K S ys es) :
    At C (l.set i (.own o es)) s (upd H o (.lst ys)) := by
  obtain ⟨v, hv, rfl, h0, hS, xs, hx, _⟩ := e.ok i _ hi
  have hk : ∀ c w, c ≠ o → H c = some w → upd H o (.lst ys) c = some w := fun c w hc hw => by rw [upd_ne hc]; exact hw
  refine ⟨⟨S, g.putNew h0 hS (some_ne hx), e.put hi rfl rfl (Same.refl S) (fun _ z _ => z) hk fun v ok => ?_, b⟩, tw_set tw fun _ _ z => nomatch z⟩
  obtain ⟨e1, e2, e3, _⟩ := ok
  exact ⟨e1, e2, e3, ys, upd_same, hd⟩
abbrev Cn.at_ (C : Cn) (S : Hp) : Cn := { C with Sb := S }
end
end Dz

namespace Dz
open PySem PySem.SeqAt PyProof.Rows L2 RZ

theorem OpR_or {X : Cx} {f : Value → Value → Sem Value} {r r' : R2} (h : OpR X f r) (h' : OpR X f r') : OpR X f (fun x y H Q => r x y H Q ∨ r' x y H Q) := fun pins s σ H x y v u Q I rx ry q =>
  q.elim (fun q => h pins s σ H x y v u Q I rx ry q) fun q => h' pins s σ H x y v u Q I rx ry q
theorem SlR_or {X : Cx} {r r' : V → Option Int → Option Int → Hp → VK → Prop} (h : SlR X r) (h' : SlR X r') : SlR X (fun x lo hi H Q => r x lo hi H Q ∨ r' x lo hi H Q) := fun pins s σ H x v vl vu lo hi sl Q I rx hs pl pu q =>
  q.elim (fun q => h pins s σ H x v vl vu lo hi sl Q I rx hs pl pu q) fun q => h' pins s σ H x v vl vu lo hi sl Q I rx hs pl pu q
theorem sl_any {X : Cx} : SlR X (rSlAny X.K) := SlR_or sl_list sl_tupA
def rCatL (K : PySem.W.Frag) : R2 := fun x y H Q => ∃ l b xs zs, x = .ref l ∧ y = .ref b ∧ SqL K H l xs ∧ SqL K H b zs ∧ xs.length + zs.length ≤ sizeLine ∧ ∀ p, H p = none → Q (.ref p) (upd H p (.lst (xs ++ zs)))
theorem op_catL {X : Cx} : OpR X (binaryOp .Add) (rCatL X.K) := by
  intro pins s σ H x y v u Q I rx ry h
  obtain ⟨l, b, xs, zs, rfl, rfl, hH, hB, hz, q⟩ := h
  cases rx
  cases ry
  obtain ⟨its, r, pl, z⟩ := I.list hH
  obtain ⟨its2, r2, pl2, z2⟩ := I.list hB
  obtain ⟨⟨cls, dd, data, sl⟩, ho, hc, n, hd⟩ := id pl.isList
  obtain ⟨⟨cls2, dd2, data2, sl2⟩, ho2, hc2, n2, hd2⟩ := id pl2.isList
  simp only at hc hd hc2 hd2
  subst hc hd hc2 hd2
  have e1 := r.length
  have e2 := r2.length
  have e : its.toArray ++ its2.toArray = (its ++ its2).toArray := by simp
  refine concat_meets ⟨_, ho, rfl⟩ ⟨_, ho2, rfl⟩ noFill_list_add seq_list_add PySem.F.slot_list_add PySem.F.entry_list_add (PySem.F.args_list_add_2 _ _) (PyProof.Rows.list_addW l b its.toArray its2.toArray n n2 dd dd2 sl sl2 (by simp only [List.size_toArray]; omega)) ⟨ho, ho2, ?_⟩
  rw [e]
  exact ⟨.ref _, _, I.lnew (t' := s.toks) (r.append r2) (by rw [List.length_append]; omega), rfl, q _ I.fresh⟩
def rAddS : R2 := fun x y H Q => ∃ i j, x = .str i ∧ y = .str j ∧ i.length + j.length ≤ sizeLine ∧ Q (.str (i ++ j)) H
def rPlus (K : PySem.W.Frag) : R2 := fun x y H Q => rI0 (fun i j => .int (i + j)) x y H Q ∨ (rCatL K x y H Q ∨ (rCatA K x y H Q ∨ rAddS x y H Q))
theorem op_plus {X : Cx} : OpR X (binaryOp .Add) (rPlus X.K) := OpR_or op_add (OpR_or op_catL (OpR_or op_catA op_add_str))
def rTimes : R2 := fun x y H Q => rI CMul (fun i j => .int (i * j)) x y H Q ∨ rRep x y H Q
theorem op_times {X : Cx} : OpR X (binaryOp .Mult) rTimes := OpR_or op_mul op_rep
def rEqA (K : PySem.W.Frag) : R2 := fun x y H Q => rEq x y H Q ∨ rEqD K x y H Q
def rNeA (K : PySem.W.Frag) : R2 := fun x y H Q => rNe x y H Q ∨ rNeD K x y H Q
theorem op_eqA {X : Cx} (hu : X.A.units + 64 < cLine) : OpR X (compareOp .Eq) (rEqA X.K) := OpR_or op_eq (op_eqD hu)
theorem op_neA {X : Cx} (hu : X.A.units + 64 < cLine) : OpR X (compareOp .NotEq) (rNeA X.K) := OpR_or op_ne (op_neD hu)
section
variable {K : PySem.W.Frag} {a b c : PyData} {r r' : R2} {l : List Sl} {ta tb te : TE}
theorem rd_l (h : RD K r a b c) : RD K (fun x y H Q => r x y H Q ∨ r' x y H Q) a b c := fun x y S H Q hs hx hy q => .inl (h x y S H Q hs hx hy q)
theorem rd_r (h : RD K r' a b c) : RD K (fun x y H Q => r x y H Q ∨ r' x y H Q) a b c := fun x y S H Q hs hx hy q => .inr (h x y S H Q hs hx hy q)
theorem rd_plusI {i j : Int} : RD K (rPlus K) (.int i) (.int j) (.int (i + j)) := rd_l (rd_I0 fun _ => .int _)
theorem rd_plusL {xs ys : List PyData} (hz : xs.length + ys.length ≤ 4000000) : RD K (rPlus K) (.list xs) (.list ys) (.list (xs ++ ys)) := rd_r (rd_l fun x y S H Q hs hx hy q => by
  cases hx with
  | lst h1 h2 =>
    cases hy with
    | lst h3 h4 => exact ⟨_, _, _, _, rfl, rfl, hs.seq h1, hs.seq h3, szl (by rw [DpAll_len h2, DpAll_len h4]; exact hz), new_lst hs (DpAll_app h2 h4) q⟩)
theorem rd_plusT {xs ys : List PyData} (hz : xs.length + ys.length ≤ 4000000) : RD K (rPlus K) (.tuple xs) (.tuple ys) (.tuple (xs ++ ys)) := rd_r (rd_r (rd_l fun x y S H Q hs hx hy q => by
  cases hx with
  | tup h1 h2 =>
    cases hy with
    | tup h3 h4 =>
      refine ⟨_, _, _, _, rfl, rfl, same_seqT hs h1, same_seqT hs h3, szl (by rw [DpAll_len h2, DpAll_len h4]; exact hz), fun e => ?_, fun _ e => ?_, fun _ _ => new_tup hs (DpAll_app h2 h4) q⟩
      · subst e
        cases h2
        exact q _ S H (Grow.refl hs) (.tup h3 h4)
      · subst e
        cases h4
        rw [List.append_nil] at q
        exact q _ S H (Grow.refl hs) (.tup h1 h2)))
theorem rd_plusS {i j : Str} (hz : i.length + j.length ≤ 4000000) : RD K (rPlus K) (.str i) (.str j) (.str (i ++ j)) := rd_r (rd_r (rd_r fun x y S H Q hs hx hy q => by
  cases hx
  cases hy
  exact ⟨i, j, rfl, rfl, szl hz, q _ S H (Grow.refl hs) (.str _)⟩))
theorem rd_eqA (h : RD K rEq a b c) : RD K (rEqA K) a b c := rd_l h
theorem rd_neA (h : RD K rNe a b c) : RD K (rNeA K) a b c := rd_l h
theorem rd_eqD (h1 : SeqAt.shaped a = true) (h2 : SeqAt.shaped b = true) : RD K (rEqA K) a b (.bool (PyData.eqv a b)) := rd_r fun x y S H Q hs hx hy q => ⟨a, b, Dp_mono hx hs, Dp_mono hy hs, h1, h2, q _ S H (Grow.refl hs) (.bl _)⟩
theorem rd_neD (h1 : SeqAt.shaped a = true) (h2 : SeqAt.shaped b = true) : RD K (rNeA K) a b (.bool (!PyData.eqv a b)) := rd_r fun x y S H Q hs hx hy q => ⟨a, b, Dp_mono hx hs, Dp_mono hy hs, h1, h2, q _ S H (Grow.refl hs) (.bl _)⟩
end
structure Cal (P : Program) (w : World) (K : PySem.W.Frag) (mg : Str → Option Value) (base : Heap) (k : Nat) (x : Str) (ps : List Str) (sp : Sp) : Prop where
  ex : ∃ f fd, FnOk P w K mg base CX0 k f fd ps sp ∧ mg x = some (.ref f) ∧ PySem.W.keepIn K (.ref f) = true ∧ Binds K fd ps []
theorem Cal.mono {P : Program} {w : World} {K : PySem.W.Frag} {mg : Str → Option Value} {base : Heap} {j k : Nat} {x : Str} {ps : List Str} {sp : Sp} (c : Cal P w K mg base j x ps sp) (h : j ≤ k) : Cal P w K mg base k x ps sp := by
  obtain ⟨f, fd, a, b⟩ := c.ex
  exact ⟨f, fd, a.mono h, b⟩
theorem Cal.imp {P : Program} {w : World} {K : PySem.W.Frag} {mg : Str → Option Value} {base : Heap} {k : Nat} {x : Str} {ps : List Str} {sp sp' : Sp} (c : Cal P w K mg base k x ps sp) (h : ∀ vs H Q E, sp' vs H Q E → sp vs H Q E) : Cal P w K mg base k x ps sp' := by
  obtain ⟨f, fd, a, b⟩ := c.ex
  exact ⟨f, fd, a.imp h, b⟩
theorem pe_cal {X : Cx} {k : Nat} {x : Str} {ps : List Str} {sp : Sp} {p pos : Pos} {e : Expr} {es : List Expr} {t : TA} (c : Cal X.prog X.w X.K X.mg X.base k x ps sp) (hr : Room k X.A) (ha : PA X (e :: es) t) (hg : Gl X x := by rfl)
    (hdb : (x == ("__debug__" : Str)) = false := by decide) (he : starEach (e :: es) X.env = (false, eval e X.env) :: starEach es X.env := by rfl) (hpl : (backTo pos (starEach es X.env)).any (·.1) = false := by rfl) :
    PE X (.Call (.Name x p) (e :: es) [] pos) (tCall sp [] E0 t) := by
  obtain ⟨f, fd, F, hm, hk, hb⟩ := c.ex
  exact pe_call F hr hg hm hk hb .nil pass0 ha hdb he hpl
def mt (t : Addr) : Addr → Prop := fun a => a = t
section
variable {K : PySem.W.Frag} {l l' : List Sl} {ta tb te : TE} {tt tu : TT} {a b c d : PyData} {r : R2} {ds : List PyData} {i it n n' : Nat} {t o : Addr} {H0 S H S' H' : Hp} {s : L2.St}
theorem Env.townAt (e : Env K H0 S H s l) (h : l[it]? = some (.town t n)) : TownAt H t n := by
  obtain ⟨v, _, _, _, q⟩ := e.ok it _ h
  exact q
theorem TownAt.grow (h : TownAt H t n) (g : Grow m0 S H S' H') : TownAt H' t n := by
  obtain ⟨ns, a, b⟩ := h
  exact ⟨ns, g.all _ _ a, b⟩
theorem Env.town (e : Env K H0 S H s l) (h : l[it]? = some (.town t n)) (g : Grow (mt t) S H S' H') (ht : TownAt H' t n') : Env K H0 S' H' s (l.set it (.town t n')) := by
  refine e.put h rfl rfl g.s g.n (fun b u hb hu => g.k b u hb hu) fun v ok => ?_
  obtain ⟨e1, e2, ns, e3, e4⟩ := ok
  exact ⟨e1, g.n t e2 (some_ne e3), ht⟩
end
section
variable {C : Cn} {l l' : List Sl} {ta tb te : TE} {tt : TT} {a b c d : PyData} {ds : List PyData} {i it n : Nat} {o t : Addr} {s : L2.St} {H : Hp} {D : Ends} {tu tv : TS}
theorem tw_town {m : Addr → Prop} {n' : Nat} (h : ∀ t n, Sl.town t n ∈ l → m t) (hi : l[it]? = some (.town t n)) : ∀ t' k, Sl.town t' k ∈ l.set it (.town t n') → m t' := fun t' k hm => by
  rcases List.mem_or_eq_of_mem_set hm with q | q
  · exact h t' k q
  · cases q
    exact h t n (List.mem_of_getElem? hi)
end
end Dz
namespace Dz
open PySem PySem.SeqAt PyProof.Rows L2 RZ
section
variable {K : PySem.W.Frag} {l : List Sl} {te : TE} {d : PyData} {it n : Nat} {t : Addr}
end
section
variable {C : Cn} {l : List Sl} {te tb : TE} {d : PyData} {it n : Nat} {t : Addr} {s : L2.St} {H : Hp} {D : Ends} {tu tv : TS}
end
end Dz
namespace Dz
open PySem L2
end Dz
namespace Dz
open PySem L2
section
variable {K : PySem.W.Frag} {l : List Sl} {tr : TA} {E : XK} {it n i0 : Nat} {t : Addr} {sc : PyData} {ds : List PyData}
end
end Dz

namespace Dz
open PySem PySem.SeqAt PyProof.Rows L2 RZ
section
variable {C : Cn} {l : List Sl} {ta tb te : TE} {a b d : PyData} {ds es : List PyData} {i j : Nat} {s : L2.St} {H : Hp} {D : Ends}
theorem At.own {S S' H' : Hp} {p : Addr} {xs : List V} (h : At C l s H) (g : Grow C.m C.S0 C.H0 S H) (e : Env C.K C.H0 S H s l) (b : Same C.Sb S) (g1 : Grow m0 S H S' H') (hp : H p = none) (sp : S' p = none) (hx : H' p = some (.lst xs)) (hd : DpAll C.K S' xs ds) :
    At C (l.set i (.own p ds)) (s.set i (some (.ref p))) H' := by
  have e' := e.grow g1
  have h0 : C.H0 p = none := by
    cases hq : C.H0 p with
    | none => rfl
    | some u => exact absurd hp (g.d p (some_ne hq))
  have hm : p ∉ muts l := fun z => (e.there z).1 hp
  exact ⟨⟨S', g.trans g1.any, e'.fresh rfl hm ⟨rfl, h0, sp, xs, hx, hd⟩, b.trans g1.s⟩, tw_set h.tw fun _ _ z => nomatch z⟩
end
end Dz
namespace Dz
open PySem PySem.SeqAt PyProof.Rows L2 RZ
section
variable {K : PySem.W.Frag} {l : List Sl} {ta tb te : TE} {a b d : PyData} {ds es : List PyData} {i j it n : Nat} {t : Addr}
theorem rgV_dp {S : Hp} (a b : Int) : DpAll K S (rgV a b) (rng a (b - a).toNat) := by
  unfold rgV rng
  generalize List.range (b - a).toNat = xs
  induction xs with
  | nil => exact .nil
  | cons x r ih => exact .cons (.int _) ih
theorem TownAt.le {H : Hp} {n' : Nat} (h : TownAt H t n) (h1 : n ≤ n') (h0 : 0 < n) : TownAt H t n' := by
  obtain ⟨ns, a, b, c⟩ := h
  exact ⟨ns, a, by omega, fun _ => c h0⟩
end
section
variable {C : Cn} {l : List Sl} {s : L2.St} {H : Hp} {it n n' : Nat} {t : Addr}
theorem At.room (h : At C l s H) (hi : l[it]? = some (.town t n)) (h1 : n ≤ n') (h0 : 0 < n) : At C (l.set it (.town t n')) s H := by
  obtain ⟨S, g, e, b⟩ := h.ex
  exact ⟨⟨S, g, e.town hi (Grow.refl g.f) ((e.townAt hi).le h1 h0), b⟩, tw_town h.tw hi⟩
end
end Dz

namespace Dz
open PySem PySem.SeqAt PyProof.Rows L2 RZ SrtO
section
variable {X : Cx} (K : PySem.W.Frag)
theorem k_ix (h : X.K = K := by rfl) : IxR X (rIx K) := h ▸ ix_seq
theorem k_sl (h : X.K = K := by rfl) : SlR X (rSlAny K) := h ▸ sl_any
theorem k_plus (h : X.K = K := by rfl) : OpR X (binaryOp .Add) (rPlus K) := h ▸ op_plus
theorem k_eq (hu : X.A.units + 64 < cLine) (h : X.K = K := by rfl) : OpR X (compareOp .Eq) (rEqA K) := h ▸ op_eqA hu
theorem k_ne (hu : X.A.units + 64 < cLine) (h : X.K = K := by rfl) : OpR X (compareOp .NotEq) (rNeA K) := h ▸ op_neA hu
theorem k_in (h : X.K = K := by rfl) : OpR X (compareOp .In) (rIn K false) := h ▸ op_in_seq
theorem k_notin (h : X.K = K := by rfl) : OpR X (compareOp .NotIn) (rIn K true) := h ▸ op_notIn_seq
theorem k_notinD (hu : X.A.units + 65 < cLine) (h : X.K = K := by rfl) : OpR X (compareOp .NotIn) (rNotInD K) := h ▸ op_notInD hu
theorem k_len (h : X.K = K := by rfl) : CallR X (.builtin "len") (rLenK K) := h ▸ call_len_seq
theorem k_tuple (h : X.K = K := by rfl) : CallR X (.type "tuple") (rTupleK K) := h ▸ call_tuple_of
theorem k_max (hc : X.calm = true) (h : X.K = K := by rfl) : CallR X (.builtin "max") (rMax K) := h ▸ cr_max hc
theorem k_min (hc : X.calm = true) (h : X.K = K := by rfl) : CallR X (.builtin "min") (rMin K) := h ▸ cr_min hc
theorem k_all (hc : X.calm = true) (h : X.K = K := by rfl) : CallR X (.builtin "all") (rAll K) := h ▸ cr_all hc
theorem k_sorted (h : X.K = K := by rfl) : CallR X (.builtin "sorted") (rSortedI K) := h ▸ cr_sortedI
theorem k_isi (h : X.K = K := by rfl) : CallR X (.builtin "isinstance") (rIsi K) := h ▸ call_isi
theorem k_seq {tg e : Expr} {tl : TE} (p : PE X e tl) (h : X.K = K := by rfl) : PI X tg e (iSeq K tl) := h ▸ pi_seq p
theorem k_tru {a : Expr} {ta : TE} (ha : PE X a ta) (he : ∀ whole, isTrue a X.env whole = (do let v ← whole; standAt a.pos; holding [v] (truthy v))) (h : X.K = K := by rfl) : PT X a (fun σ H Q => ta σ H fun x H' => ∃ k, TruV K x H' k ∧ Q k H') := h ▸ pt_truth ha he
theorem k_notT {a : Expr} {ta : TE} {pos : Pos} (ha : PE X a ta) (h : X.K = K := by rfl) : PE X (.UnaryOp .Not a pos) (tNotT K ta) := h ▸ pe_notT ha
theorem k_orT {a b : Expr} {rest : List Expr} {ta tb : TE} {pos : Pos} (ha : PE X a ta) (hb : PE X (.BoolOp .Or (b :: rest) pos) tb) (h : X.K = K := by rfl) : PE X (.BoolOp .Or (a :: b :: rest) pos) (tOrT K ta tb) := h ▸ pe_orT ha hb
theorem k_andT {a b : Expr} {rest : List Expr} {ta tb : TE} {pos : Pos} (ha : PE X a ta) (hb : PE X (.BoolOp .And (b :: rest) pos) tb) (h : X.K = K := by rfl) : PE X (.BoolOp .And (a :: b :: rest) pos) (tAndT K ta tb) := h ▸ pe_andT ha hb
theorem k_tup {es : List Expr} {k : Nat} {t : TGs} {n : Nat} {pos : Pos} (hc : X.calm = true) (p : PGs X es t) (h : X.K = K := by rfl)
    (hn : (assignEach es X.env).length = n := by rfl) (hst : (assignEach es X.env).findIdx? (·.1) = none := by rfl) : PG X (.Tuple es k pos) (gTup K n t) := by
  subst h
  exact pg_tup hc p hn hst
end
end Dz

namespace Dz
open PySem PySem.SeqAt PyProof.Rows L2 RZ
section
variable {K : PySem.W.Frag} {l : List Sl} {ta tb te : TE} {tr : TA} {E : XK} {a b c d : PyData} {ds : List PyData} {it n : Nat} {t : Addr}
def tyN : PyData → String
  | .none => "NoneType"
  | .bool _ => "bool"
  | .int _ => "int"
  | .str _ => "str"
  | .list _ => "list"
  | .tuple _ => "tuple"
  | .dict _ => "dict"
theorem tyX_of {S H : Hp} {v : V} (hs : Same S H) (h : Dp K S v a) : TyX K H v (.type (tyN a)) := by
  cases h with
  | non => exact .base .non
  | bl b => exact .base (.bl b)
  | int i => exact .base (.int i)
  | str x => exact .base (.str x)
  | lst h1 h2 =>
    rcases h1 with (h1 | ⟨o, h1⟩) | ⟨o, its, n, h1, h2, _⟩
    · exact .base (.lst (hs _ _ h1))
    · exact .base (.frz (hs _ _ h1))
    · exact .kList h1 h2
  | tup h1 h2 =>
    rcases h1 with (h1 | ⟨o, h1⟩) | ⟨o, its, n, h1, h2, _⟩
    · exact .base (.tup (hs _ _ h1))
    · exact .fTuple (hs _ _ h1)
    · exact .kTuple h1 h2
end
theorem Cal.zero {P : Program} {w : World} {K : PySem.W.Frag} {mg : Str → Option Value} {base : Heap} {x : Str} {ps : List Str} {sp : Sp} {f : Addr} {fd : FuncData} (hsp : ∀ vs H Q E, ¬ sp vs H Q E) (hm : mg x = some (.ref f)) (hk : PySem.W.keepIn K (.ref f) = true) (hb : Binds K fd ps []) : Cal P w K mg base 0 x ps sp :=
  ⟨f, fd, ⟨fun vs H Q E h => absurd h (hsp vs H Q E), fun A outer s H args us vs Q E hr he hb' hv h => absurd h (hsp vs H Q E)⟩, hm, hk, hb⟩
theorem in65 {k : Nat} {A : Around} (r : Room k A) : A.units + 65 < cLine := by have := r.un; omega
end Dz
namespace Dz
open PySem L2
end Dz
namespace Dz
open PySem L2
end Dz

namespace Dz
open PySem PySem.SeqAt PyProof.Rows L2 RZ SrtO
structure CalK (P : Program) (w : World) (K : PySem.W.Frag) (mg : Str → Option Value) (base : Heap) (k : Nat) (x : Str) (ps : List Str) (n : Nat) (ks : List Str) (gV : List V → List V → List V) (sp : Sp) : Prop where
  ex : ∃ f fd g, FnOk P w K mg base CX0 k f fd ps sp ∧ mg x = some (.ref f) ∧ PySem.W.keepIn K (.ref f) = true ∧ KBn K fd ps n ks g gV
theorem CalK.mono {P : Program} {w : World} {K : PySem.W.Frag} {mg : Str → Option Value} {base : Heap} {j k n : Nat} {x : Str} {ps ks : List Str} {gV : List V → List V → List V} {sp : Sp} (c : CalK P w K mg base j x ps n ks gV sp) (h : j ≤ k) : CalK P w K mg base k x ps n ks gV sp := by
  obtain ⟨f, fd, g, a, b⟩ := c.ex
  exact ⟨f, fd, g, a.mono h, b⟩
structure CalD (P : Program) (w : World) (K : PySem.W.Frag) (mg : Str → Option Value) (base : Heap) (k : Nat) (x : Str) (ps : List Str) (dv : List V) (sp : Sp) : Prop where
  ex : ∃ f fd ds, FnOk P w K mg base CX0 k f fd ps sp ∧ mg x = some (.ref f) ∧ PySem.W.keepIn K (.ref f) = true ∧ Vals dv ds ∧ Binds K fd ps ds
theorem CalD.mono {P : Program} {w : World} {K : PySem.W.Frag} {mg : Str → Option Value} {base : Heap} {j k : Nat} {x : Str} {ps : List Str} {dv : List V} {sp : Sp} (c : CalD P w K mg base j x ps dv sp) (h : j ≤ k) : CalD P w K mg base k x ps dv sp := by
  obtain ⟨f, fd, g, a, b⟩ := c.ex
  exact ⟨f, fd, g, a.mono h, b⟩
variable {K : PySem.W.Frag} {l : List Sl}
def KwI (K : PySem.W.Frag) (D : Addr) (kws : List (Str × Int)) : Prop := ∀ q, q ∈ kws → ∃ t, PySem.W.nsIn K D q.1 = some (some (.int q.2 t))
structure DefAtK (K : PySem.W.Frag) (x : Str) (st : Stmt) (kws : List (Str × Int)) : Prop where
  at_ : ∃ (f : Addr) (oc : Value) (od : Option Addr) (D : Addr) (dc pm : Value) (an : Option Addr) (cd ct : Value) (sl : Array (Option Value)), PySem.W.nsIn K mainGlobals x = some (some (.ref f)) ∧
    K.lookup f = some ⟨oc, od, .func (PySem.W.fnOf x x (defArgs st) (defBody st) (defScope st) .none (.ref D) dc pm an cd ct), sl⟩ ∧ PySem.W.codeIn K cd x = true ∧ PySem.W.keepIn K (.ref f) = true ∧ KwI K D kws
abbrev FunK (K : PySem.W.Frag) (x : Str) (st : Stmt) (kws : List (Str × Int)) (f : Addr) (fd : FuncData) : Prop := FunD K x x (defArgs st) (defBody st) (defScope st) [] (kws.map fun q => (q.1, V.int q.2)) f fd
theorem DefAtK.ex {K : PySem.W.Frag} {x : Str} {st : Stmt} {kws : List (Str × Int)} {h : Heap} {mg : Str → Option Value} (d : DefAtK K x st kws) (X : K.In h) (G : h.Ns mainGlobals mg) : ∃ (f : Addr) (fd : FuncData), FunK K x st kws f fd ∧ mg x = some (.ref f) := by
  obtain ⟨f, oc, od, D, dc, pm, an, cd, ct, sl, a, l, c, k, q⟩ := d.at_
  refine ⟨f, _, ⟨⟨oc, od, .none, .ref D, dc, pm, an, cd, ct, sl, rfl, l, c, .inl ⟨rfl, rfl⟩, .inr ⟨D, rfl, fun p hp => ?_⟩⟩, k⟩, PySem.W.mg_of X G a⟩
  obtain ⟨u, hu, rfl⟩ := List.mem_map.mp hp
  obtain ⟨tk, ht⟩ := q u hu
  exact ⟨_, ht, ⟨_, rfl⟩⟩
def sortI (ns : List Int) : List Int := ns.mergeSort (fun a b => decide (a ≤ b))
theorem sortI_perm (ns : List Int) : (sortI ns).Perm ns := List.mergeSort_perm _ _
theorem sortI_le (ns : List Int) : (sortI ns).Pairwise (· ≤ ·) := by
  have h := List.pairwise_mergeSort (le := fun (a b : Int) => decide (a ≤ b)) (fun a b c h1 h2 => by simp at *; omega) (fun a b => by simp; omega) ns
  exact h.imp (by intro a b h; simpa using h)
theorem sorted_uniq : ∀ {xs ys : List Int}, xs.Perm ys → xs.Pairwise (· ≤ ·) → ys.Pairwise (· ≤ ·) → xs = ys
  | [], ys, h, _, _ => by rw [List.nil_perm.mp h]
  | x :: xs, [], h, _, _ => by simp at h
  | x :: xs, y :: ys, h, h1, h2 => by
    have hx : x ∈ y :: ys := h.mem_iff.mp List.mem_cons_self
    have hy : y ∈ x :: xs := h.mem_iff.mpr List.mem_cons_self
    have e : x = y := by
      rcases List.mem_cons.mp hx with e | hx
      · exact e
      rcases List.mem_cons.mp hy with e | hy
      · exact e.symm
      have a := (List.pairwise_cons.mp h1).1 y hy
      have b := (List.pairwise_cons.mp h2).1 x hx
      omega
    subst e
    rw [sorted_uniq (List.Perm.cons_inv h) (List.pairwise_cons.mp h1).2 (List.pairwise_cons.mp h2).2]
theorem sortI_is {ns ms : List Int} (h : ms.Perm ns) (h2 : ms.Pairwise (· ≤ ·)) : ms = sortI ns := sorted_uniq (h.trans (sortI_perm ns).symm) h2 (sortI_le ns)
theorem sortI_len (ns : List Int) : (sortI ns).length = ns.length := (sortI_perm ns).length_eq
theorem rc_sorted {ns : List Int} : RCD K (rSortedI K) [.list (ns.map .int)] (.list ((sortI ns).map .int)) := fun vs S H Q hs hx q => by
  cases hx with
  | cons h1 h2 =>
    cases h2
    cases h1 with
    | lst h3 h4 =>
      rw [ints_of h4] at h3
      exact ⟨_, ns, rfl, hs.seq h3, fun ns' p hp hle hn => by
        rw [sortI_is hp hle]
        exact new_lst hs (DpAll_ints _) q p hn⟩
section
variable {it n : Nat} {t : Addr} {ta tb te : TE} {tt : TT} {tr : TA} {r : V → V → Hp → VK → Prop} {R : PyData → Nat → Prop} {RA : List PyData → Nat → Prop} {RB : Bool → Nat → Prop}
end
section
variable {C : Cn} {l' : List Sl} {te : TE} {i it n : Nat} {t : Addr} {s : L2.St} {H : Hp} {D : Ends} {g : TG}
end
section
variable {C : Cn} {ta tb : TE} {a : PyData} {ds : List PyData} {i j : Nat} {s : L2.St} {H : Hp} {D : Ends}
end
section
variable {C : Cn} {ta : TA} {ds : List PyData} {i j m it n : Nat} {t : Addr} {s : L2.St} {H : Hp} {D : Ends}
end
end Dz

namespace Dz
open PySem PySem.SeqAt PyProof.Rows L2 RZ
def gStar (K : PySem.W.Frag) (n i : Nat) (t : TGs) : TG := fun v σ H Q => ∃ a xs, v = .ref a ∧ (SqL K H a xs ∨ SqT K H a xs) ∧ n ≤ xs.length + 1 ∧ xs.length ≤ 16384 ∧
  ∀ p, H p = none → t (xs.take i ++ [.ref p] ++ (xs.drop i).drop (xs.length + 1 - n)) σ (upd H p (.lst ((xs.drop i).take (xs.length + 1 - n)))) Q
theorem obj_ex {P : Program} {w : World} {H : Hp} {h : Heap} {a : Addr} : ∀ {o : HO}, ObjOk P w H h a o → ∃ u, h.get? a = some u
  | .lst _, q => by obtain ⟨_, _, _, _, e⟩ := q; exact ⟨_, e⟩
  | .tup _, q => by obtain ⟨_, _, _, _, e, _⟩ := q; exact ⟨_, e⟩
  | .dK _, q => by obtain ⟨_, _, _, _, _, _, _, e, _⟩ := q; exact ⟨_, e⟩
  | .dT _, q => by obtain ⟨_, _, _, _, _, _, _, e, _⟩ := q; exact ⟨_, e⟩
  | .set _ _, q => by obtain ⟨_, _, _, _, e, _⟩ := q; exact ⟨_, e⟩
  | .ins _ _ _, q => by obtain ⟨_, _, _, e, _⟩ := q; exact ⟨_, e⟩
  | .own _, q => q
  | .xd _, q => by obtain ⟨_, ⟨_, _, _, e, _⟩, _⟩ := q; exact ⟨_, e⟩
  | .met _ _, q => ⟨_, q⟩
  | .rng _ _, q => by obtain ⟨_, _, _, e⟩ := q; exact ⟨_, e⟩
  | .frz _ _, q => ⟨_, q.1⟩
  | .tbl _, q => ⟨_, q⟩
  | .ext _, q => q.2.1
theorem inv_news {X : Cx} {pins : List (Addr × Obj)} {σ : L2.St} {H : Hp} {s : Shared} {h' : Heap} {tk : Nat} {D : Addr} {m : Str → Option Value} {its : List Value} {xs : List V} (I : Inv X pins σ H s) (F : Fr X.base X.env.locals s.heap m) (F' : Fr X.base X.env.locals h' m)
    (N' : News X.base X.env.locals h' ((D, PySem.W.listOf its.toArray 0) :: allNews X.base s.heap X.env.locals)) (l1 : ∀ p ∈ allNews X.base s.heap X.env.locals, p.1 < D) (rv : Vals xs its) (hz : xs.length ≤ sizeLine) :
    H D = none ∧ Inv X pins σ (upd H D (.lst xs)) { s with heap := h', toks := tk } := by
  obtain ⟨d1, d2, d3⟩ := N' _ List.mem_cons_self
  have d2 : D ≠ X.env.locals := d2
  have d3 : X.base.get? D = none := d3
  have old : ∀ b o, b ≠ X.env.locals → s.heap.get? b = some o → h'.get? b = some o := fun b o hb e => by
    cases q : X.base.get? b with
    | some u =>
      have e2 := I.bk b u q
      rw [e] at e2
      cases e2
      exact F'.keep b _ q
    | none => exact (N' (b, o) (List.mem_cons_of_mem _ (mem_allNews hb q e))).1
  have hn : s.heap.get? D = none := by
    cases q : s.heap.get? D with
    | none => rfl
    | some o => exact absurd (l1 (D, o) (mem_allNews d2 d3 q)) (Nat.lt_irrefl _)
  have hD : H D = none := by
    cases q : H D with
    | none => rfl
    | some u =>
      obtain ⟨o, e⟩ := obj_ex (I.hok D u q)
      rw [hn] at e
      cases e
  have neD : ∀ b o, s.heap.get? b = some o → b ≠ D := fun b o e z => by rw [z, hn] at e; cases e
  have ntr : ∀ b u, H b = some u → b ≠ X.env.locals := fun b u e z => by rw [z, I.free] at e; cases e
  refine ⟨hD, I.step (g' := s.gens) (d' := s.drawn) (t' := tk) (ch := []) (fun _ z => nomatch z) (fun b o hb _ _ e _ => old b o hb e) (fun b o hb _ _ e _ => ⟨o.slots, old b o hb e⟩) (fun b o _ e q => by rw [upd_ne (neD b o e)]; exact q) (fun b o _ e => ?_)
    (fun b ys e => by rw [upd_ne (ne_of_none e hD)]; exact e) (fun b o u e => by rw [upd_ne (ne_of_none e hD)]; exact e) (fun b ps e => ⟨#[], by rw [upd_ne (ne_of_none e hD), e]; simp⟩) (fun m' hm => ?_) (fun a o e => ?_) I.bare⟩
  · by_cases hb : b = X.env.locals
    · subst hb
      obtain ⟨o', _, _, e', _⟩ := F'.ns
      exact ⟨o', e'⟩
    · exact ⟨o, old b o hb e⟩
  · rw [SlX.ns_only hm F.ns]
    exact F'.ns
  · by_cases ha : a = D
    · subst ha
      rw [upd_same] at e
      cases e
      exact ⟨hz, its, 0, rv, d1⟩
    · rw [upd_ne ha] at e
      refine (I.hok a o e).stay (fun c u hc q => old c u ?_ q) (fun c q => by rw [upd_ne (ne_of_none q hD)]; exact q) fun c ys q => by rw [upd_ne (ne_of_none q hD)]; exact q
      rcases hc with rfl | hc
      · exact ntr c o e
      · exact ntr c _ hc
theorem pg_star {X : Cx} {es : List Expr} {k n i : Nat} {t : TGs} {pos : Pos} (K : PySem.W.Frag) (hc : X.calm = true) (h : PGs X es t) (hi : i < n) (hK : X.K = K := by rfl) (hn : (assignEach es X.env).length = n := by rfl) (hst : (assignEach es X.env).findIdx? (·.1) = some i := by rfl) : PG X (.Tuple es k pos) (gStar K n i t) := by
  subst hK
  refine ⟨fun pins s σ H v u Q I r hw => ?_⟩
  obtain ⟨a, xs, e1, hq, hl, hz, hw⟩ := hw
  subst e1
  cases r
  obtain ⟨m, F⟩ := I.fr
  rcases hq with hq | hq
  · obtain ⟨its, rv, ht, _⟩ := I.list hq
    have e2 := rv.length
    refine PySem.W.kun_assignL F news_all ht.isList (I.ok.hd hc) hn hst hi (by simp only [List.size_toArray]; omega) (by simp only [List.size_toArray]; omega) rfl rfl rfl fun D h' tk F' N' l1 => ?_
    simp only [List.size_toArray] at N' ⊢
    have rm : Vals ((xs.drop i).take (xs.length + 1 - n)) ((its.drop i).take (its.length + 1 - n)) := by rw [e2]; exact (rv.drop i).take _
    obtain ⟨hD, I'⟩ := inv_news (tk := tk) I F F' N' l1 rm (by
      have h2 := List.length_take (i := xs.length + 1 - n) (l := xs.drop i)
      rw [List.length_drop] at h2
      rw [sizeLine_eq]
      omega)
    refine h.run pins _ σ _ _ _ Q I' ?_ (hw D hD)
    rw [e2]
    exact ((rv.take i).append (.cons (show RelV (.ref D) (Value.ref D) from rfl) .nil)).append ((rv.drop i).drop _)
  · obtain ⟨its, rv, ht, _⟩ := I.tuple hq
    have e2 := rv.length
    refine PySem.W.kun_assignT F news_all ht (I.ok.hd hc) hn hst hi (by simp only [List.size_toArray]; omega) (by simp only [List.size_toArray]; omega) rfl rfl rfl fun D h' tk F' N' l1 => ?_
    simp only [List.size_toArray] at N' ⊢
    have rm : Vals ((xs.drop i).take (xs.length + 1 - n)) ((its.drop i).take (its.length + 1 - n)) := by rw [e2]; exact (rv.drop i).take _
    obtain ⟨hD, I'⟩ := inv_news (tk := tk) I F F' N' l1 rm (by
      have h2 := List.length_take (i := xs.length + 1 - n) (l := xs.drop i)
      rw [List.length_drop] at h2
      rw [sizeLine_eq]
      omega)
    refine h.run pins _ σ _ _ _ Q I' ?_ (hw D hD)
    rw [e2]
    exact ((rv.take i).append (.cons (show RelV (.ref D) (Value.ref D) from rfl) .nil)).append ((rv.drop i).drop _)
theorem pgs_star {X : Cx} {e : Expr} {es : List Expr} {t : TG} {u : TGs} {p : Pos} (h1 : PG X e t) (h2 : PGs X es u) : PGs X (.Starred e p :: es) (gCons t u) := by
  refine ⟨fun pins s σ H vs us Q I r h => ?_⟩
  obtain ⟨v, vr, e1, h⟩ := h
  subst e1
  cases r with
  | cons r rr =>
    show wpAny _ _ (assignInOrder (assign e X.env :: (assignEach es X.env).map (·.2)) _) _ _ _
    refine assignInOrder_cons (thn (h1.run pins s σ H _ _ _ I r h) fun _ s1 ⟨σ1, H1, I1, q1⟩ => ?_)
    exact h2.run pins s1 σ1 H1 _ _ Q I1 rr q1
section
variable {K : PySem.W.Frag} {l l' : List Sl} {ds : List PyData} {n i : Nat} {t : TGs}
end
def keyD : Key → PyData
  | .inl i => .int i
  | .inr x => .str x
def putG {κ β : Type} [DecidableEq κ] (kvs : List (κ × β)) (k : κ) (v : β) : List (κ × β) := if (kvs.any fun kv => decide (kv.1 = k)) = true then kvs.map (fun kv => if kv.1 = k then (kv.1, v) else kv) else kvs ++ [(k, v)]
def valG {κ β : Type} [DecidableEq κ] (kvs : List (κ × β)) (k : κ) : Option β := (kvs.find? fun kv => decide (kv.1 = k)).map (·.2)
def dropG {κ β : Type} [DecidableEq κ] (kvs : List (κ × β)) (k : κ) : List (κ × β) := kvs.filter fun kv => decide (kv.1 ≠ k)
section
variable {K : PySem.W.Frag} {S S1 H H1 : Hp} {ws : List (Key × V)} {kvs : List (Key × PyData)} {k : Key} {v : V} {d : PyData}
theorem KvD.len (h : KvD K S ws kvs) : ws.length = kvs.length := by
  induction h with
  | nil => rfl
  | cons _ _ ih => simp [ih]
theorem KvD.val (h : KvD K S ws kvs) : (∀ d, valG kvs k = some d → ∃ v, valV ws k = some v ∧ Dp K S v d) ∧ (valG kvs k = none → valV ws k = none) := by
  induction h with
  | nil => exact ⟨fun d z => (by cases z), fun _ => rfl⟩
  | @cons w x ws kvs hq _ ih =>
    obtain ⟨e, hd⟩ := hq
    unfold valG valV at *
    rw [List.find?_cons, List.find?_cons]
    by_cases hk : x.1 = k
    · have hk' : w.1 = k := by rw [e]; exact hk
      rw [decide_eq_true hk, decide_eq_true hk']
      refine ⟨fun d z => ⟨w.2, rfl, ?_⟩, fun z => by cases z⟩
      cases z
      exact hd
    · have hk' : ¬ w.1 = k := by rw [e]; exact hk
      rw [decide_eq_false hk, decide_eq_false hk']
      exact ih
theorem KvD.anyK (h : KvD K S ws kvs) : (ws.any fun kv => decide (kv.1 = k)) = kvs.any fun kv => decide (kv.1 = k) := by
  induction h with
  | nil => rfl
  | cons hq _ ih => rw [List.any_cons, List.any_cons, ih, hq.1]
theorem KvD.app {ws' : List (Key × V)} {kvs' : List (Key × PyData)} (h : KvD K S ws kvs) (h' : KvD K S ws' kvs') : KvD K S (ws ++ ws') (kvs ++ kvs') := by
  induction h with
  | nil => exact h'
  | cons hq _ ih => exact .cons hq ih
theorem KvD.over (h : KvD K S ws kvs) (hd : Dp K S v d) : KvD K S (ws.map fun kv => if kv.1 = k then (kv.1, v) else kv) (kvs.map fun kv => if kv.1 = k then (kv.1, d) else kv) := by
  induction h with
  | nil => exact .nil
  | @cons w x ws kvs hq _ ih =>
    refine .cons ?_ ih
    show (if w.1 = k then (w.1, v) else w).1 = (if x.1 = k then (x.1, d) else x).1 ∧ Dp K S (if w.1 = k then (w.1, v) else w).2 (if x.1 = k then (x.1, d) else x).2
    rw [hq.1]
    split
    · exact ⟨rfl, hd⟩
    · exact hq
theorem KvD.put (h : KvD K S ws kvs) (hd : Dp K S v d) : KvD K S (putK ws k v) (putG kvs k d) := by
  unfold putK putG
  rw [h.anyK]
  split
  · exact h.over hd
  · exact h.app (.cons ⟨rfl, hd⟩ .nil)
theorem KvD.drop (h : KvD K S ws kvs) : KvD K S (dropK ws k) (dropG kvs k) := by
  unfold dropK dropG
  induction h with
  | nil => exact .nil
  | @cons w x ws kvs hq _ ih =>
    rw [List.filter_cons, List.filter_cons, hq.1]
    split
    · exact .cons hq ih
    · exact ih
theorem KvD.get {j : Nat} {x : Key × PyData} (h : KvD K S ws kvs) (e : kvs[j]? = some x) : ∃ v, ws[j]? = some (x.1, v) ∧ Dp K S v x.2 := by
  induction h generalizing j with
  | nil => simp at e
  | @cons w y ws kvs hq _ ih =>
    cases j with
    | zero =>
      simp at e
      subst e
      exact ⟨w.2, by rw [← hq.1]; rfl, hq.2⟩
    | succ j => simpa using ih (by simpa using e)
theorem key_dp (h : Dp K S v (keyD k)) : v = kV k := by
  cases k with
  | inl i => cases h; rfl
  | inr x => cases h; rfl
theorem dp_key : Dp K S (kV k) (keyD k) := by
  cases k with
  | inl i => exact .int i
  | inr x => exact .str x
theorem KvD.keys (h : KvD K S ws kvs) : DpAll K S (ws.map fun kv => kV kv.1) (kvs.map fun kv => keyD kv.1) := by
  induction h with
  | nil => exact .nil
  | @cons w x ws kvs hq _ ih =>
    refine .cons ?_ ih
    show Dp K S (kV w.1) (keyD x.1)
    rw [hq.1]
    exact dp_key
end
section
variable {K : PySem.W.Frag} {l : List Sl} {i : Nat} {o : Addr} {kvs : List (Key × PyData)} {k : Key} {ty tx : TE} {d : PyData}
theorem val_some {ws : List (Key × V)} {S : Hp} (h : KvD K S ws kvs) : (valV ws k).isSome = (valG kvs k).isSome := by
  cases hq : valG kvs k with
  | none => rw [h.val.2 hq]; rfl
  | some x => obtain ⟨v, hv, _⟩ := h.val.1 x hq; rw [hv]; rfl
def EvC (K : PySem.W.Frag) (te : TE) (l : List Sl) (kvs : List (Key × PyData)) : Prop := ∀ H0 S H s, Env K H0 S H s l → Same S H → ∀ Q : VK, (∀ p S' H' ws, Grow m0 S H S' H' → H p = none → S' p = none → H' p = some (.dK ws) → KvD K S' ws kvs → Q (.ref p) H') → te s H Q
end
section
variable {C : Cn} {l : List Sl} {i : Nat} {o : Addr} {kvs : List (Key × PyData)} {k : Key} {te ty : TE} {d : PyData} {s : L2.St} {H : Hp} {D : Ends}
theorem At.dct {S S' H' : Hp} {p : Addr} {ws : List (Key × V)} (h : At C l s H) (g : Grow C.m C.S0 C.H0 S H) (e : Env C.K C.H0 S H s l) (b : Same C.Sb S) (g1 : Grow m0 S H S' H') (hp : H p = none) (sp : S' p = none) (hx : H' p = some (.dK ws)) (hd : KvD C.K S' ws kvs) :
    At C (l.set i (.dct p kvs)) (s.set i (some (.ref p))) H' := by
  have e' := e.grow g1
  have h0 : C.H0 p = none := by
    cases hq : C.H0 p with
    | none => rfl
    | some u => exact absurd hp (g.d p (some_ne hq))
  have hm : p ∉ muts l := fun z => (e.there z).1 hp
  exact ⟨⟨S', g.trans g1.any, e'.fresh rfl hm ⟨rfl, h0, sp, ws, hx, hd⟩, b.trans g1.s⟩, tw_set h.tw fun _ _ z => nomatch z⟩
end
theorem putG_new {κ β : Type} [DecidableEq κ] {kvs : List (κ × β)} {k : κ} {v : β} (h : ∀ kv ∈ kvs, kv.1 ≠ k) : putG kvs k v = kvs ++ [(k, v)] := by
  unfold putG
  rw [if_neg]
  intro z
  obtain ⟨x, hx, e⟩ := List.any_eq_true.mp z
  exact h x hx (of_decide_eq_true e)
section
variable {K : PySem.W.Frag} {l : List Sl} {te tk : TE}
end
def zdel (S : Hp) (o : Addr) : Hp := fun a => if a = o then none else S a
theorem zdel_same {S : Hp} {o : Addr} : zdel S o o = none := by unfold zdel; rw [if_pos rfl]
theorem zdel_ne {S : Hp} {o a : Addr} (h : a ≠ o) : zdel S o a = S a := by unfold zdel; rw [if_neg h]
section
variable {K : PySem.W.Frag} {S : Hp} {o : Addr} {od : Obj} {ws : List (Key × V)}
theorem sql_del (h : S o = some (.frz od (.dK ws))) {a : Addr} {xs : List V} (q : SqL K S a xs) : SqL K (zdel S o) a xs := by
  rcases q with (q | ⟨o', q⟩) | q
  · refine .inl (.inl ?_)
    rw [zdel_ne (fun z => by rw [z, h] at q; cases q)]
    exact q
  · refine .inl (.inr ⟨o', ?_⟩)
    rw [zdel_ne (fun z => by rw [z, h] at q; cases q)]
    exact q
  · exact .inr q
theorem sqt_del (h : S o = some (.frz od (.dK ws))) {a : Addr} {xs : List V} (q : SqT K S a xs) : SqT K (zdel S o) a xs := by
  rcases q with (q | ⟨o', q⟩) | q
  · refine .inl (.inl ?_)
    rw [zdel_ne (fun z => by rw [z, h] at q; cases q)]
    exact q
  · refine .inl (.inr ⟨o', ?_⟩)
    rw [zdel_ne (fun z => by rw [z, h] at q; cases q)]
    exact q
  · exact .inr q
mutual
theorem dp_del (h : S o = some (.frz od (.dK ws))) : ∀ (d : PyData) (v : V), Dp K S v d → Dp K (zdel S o) v d
  | .none, _, q => by cases q; exact .non
  | .bool b, _, q => by cases q; exact .bl b
  | .int i, _, q => by cases q; exact .int i
  | .str x, _, q => by cases q; exact .str x
  | .list ds, _, q => by
    cases q with
    | lst hs ha => exact .lst (sql_del h hs) (dpAll_del h ds _ ha)
  | .tuple ds, _, q => by
    cases q with
    | tup hs ha => exact .tup (sqt_del h hs) (dpAll_del h ds _ ha)
  | .dict _, _, q => by cases q
theorem dpAll_del (h : S o = some (.frz od (.dK ws))) : ∀ (ds : List PyData) (vs : List V), DpAll K S vs ds → DpAll K (zdel S o) vs ds
  | [], _, q => by cases q; exact .nil
  | d :: ds, _, q => by
    cases q with
    | cons h1 h2 => exact .cons (dp_del h d _ h1) (dpAll_del h ds _ h2)
end
theorem kv_del (h : S o = some (.frz od (.dK ws))) {us : List (Key × V)} {kvs : List (Key × PyData)} (q : KvD K S us kvs) : KvD K (zdel S o) us kvs := Paired.mapP q fun _ _ z => ⟨z.1, dp_del h _ _ z.2⟩
theorem walkItems {kvs : List (Key × PyData)} (h : S o = some (.frz od (.dK ws))) (hkv : KvD K S ws kvs) : WalkD K (Iti o od ws) S (kvs.map fun kv => .tuple [keyD kv.1, kv.2]) := by
  have hl := hkv.len
  refine ⟨fun i H hi hs => ⟨hs _ _ h, by rw [List.length_map] at hi; omega⟩, fun H hs => ⟨hs _ _ h, by rw [List.length_map]; omega⟩, fun i H x H' d S2 e s1 s2 y => ?_⟩
  obtain ⟨T, k, v, hv, rfl, hT, rfl⟩ := y
  rw [List.getElem?_map] at e
  cases hq : kvs[i]? with
  | none => rw [hq] at e; cases e
  | some kv =>
    rw [hq] at e
    cases e
    obtain ⟨v', hv', hd⟩ := hkv.get hq
    rw [hv] at hv'
    cases hv'
    exact dp_pair s2 hT rfl dp_key (Dp_mono hd s1)
end
section
variable {C : Cn} {l : List Sl} {i j : Nat} {o : Addr} {kvs : List (Key × PyData)} {te : TE} {s : L2.St} {H : Hp} {D : Ends}
end
theorem un1 {k : Nat} {A : Around} (r : Room k A) : A.units + 1 < cLine := by have := r.un; omega
end Dz

namespace Dz
open PySem PySem.Spec PySem.SeqAt PyProof.Rows L2 RZ LamX
structure Tag where
  a : Str
  ln : Nat
  b : Str
def Tag.one (q : Str) : Tag := ⟨q, 0, q⟩
def Tag.at_ (t : Tag) (l : Nat) : Str := if l ≤ t.ln then t.a else t.b
theorem Tag.one_at {q : Str} {l : Nat} : (Tag.one q).at_ l = q := ite_self q
structure Kx where
  P : Program
  w : World
  K : PySem.W.Frag
  mg : Str → Option Value
  base : Heap
  lev : Nat
  T : List (Addr × Tag)
instance : Coe Kx PySem.W.Frag := ⟨Kx.K⟩
def isTab (S H : Hp) (a : Addr) : Prop := S a = none ∧ ∃ ps, H a = some (.tbl ps)
def nqS : Str := "least_paper.<locals>.<lambda>" ++ ".<locals>." ++ "<lambda>"
def CodeP (c : Addr) (q : Str) (P : Addr) (h : Heap) : Prop := (∃ (oc : Obj) (vs : Array Value) (t : Tok), h.get? c = some oc ∧ oc.data = .fields vs ∧ vs[1]? = some (.str q t)) ∧ PySem.W.CodeHd h c P
def CodeN (c : Addr) (q : Str) (P : Addr) : HO := .ext (CodeP c q P)
theorem CodeP.stay {c : Addr} {q : Str} {P : Addr} {h h' : Heap} (x : CodeP c q P h) (k : ∀ o, h.get? c = some o → h'.get? c = some o) : CodeP c q P h' := by
  obtain ⟨⟨oc, vs, t, e1, e2, e3⟩, o, us, file, tf, flags, tg, inF, text, tt, f1, f2⟩ := x
  exact ⟨⟨oc, vs, t, k _ e1, e2, e3⟩, o, us, file, tf, flags, tg, inF, text, tt, k _ f1, f2⟩
theorem CodeP.tab {c : Addr} {q q' : Str} {P P' : Addr} {h : Heap} (x : CodeP c q P h) (y : CodeP c q' P' h) : P = P' := by
  obtain ⟨_, o, us, file, tf, flags, tg, inF, text, tt, f1, f2, f3, f4, _⟩ := x
  obtain ⟨_, o', us', file', tf', flags', tg', inF', text', tt', g1, g2, g3, g4, _⟩ := y
  rw [f1] at g1
  cases g1
  rw [f3] at g3
  cases g3
  rw [f4] at g4
  cases g4
  rfl
structure TabsOk (K : Kx) (S H : Hp) : Prop where
  st : ∀ p ∈ K.T, S p.1 = none ∧ ∃ ps : Array Value, H p.1 = some (.tbl ps) ∧ TriplesOk ps.toList ∧
    ∀ (pos : Pos) (cv : Value), codeAmong pos ps.toList = some cv → ∃ c P, cv = .ref c ∧ S c = some (CodeN c (p.2.at_ pos.line) P)
  ne : ∀ c q P, S c = some (CodeN c q P) → (∀ p ∈ K.T, p.1 ≠ P) ∧ K.base.BuiltinsAt K.mg P ∧ mainGlobals ≠ P ∧ S P = none ∧ ∃ ps : Array Value, H P = some (.tbl ps) ∧ TriplesOk ps.toList ∧
    ∀ (pos : Pos) (cv : Value), codeAmong pos ps.toList = some cv → ∃ c2, cv = .ref c2 ∧ ∃ oc, S c2 = some (.frz oc (.own c2)) ∧ ∃ (vs : Array Value) (t : Tok), oc.data = .fields vs ∧ vs[1]? = some (.str nqS t)
def spL (K : Kx) (F : List PyData → Option PyData) : Sp := fun vs H Q _ => ∃ S ds d, Same S H ∧ TabsOk K S H ∧ DpAll K S vs ds ∧ F ds = some d ∧
  ∀ w S' H', GrowT (isTab S H) S H S' H' → TabsOk K S' H' → Dp K S' w d → Q w H'
def spLc (K : Kx) (F : List PyData → Option PyData) (c : Addr) (q : Str) (P : Addr) (vs : List V) (H : Hp) (Q : VK) : Prop := ∃ S ds d, S c = some (CodeN c q P) ∧ Same S H ∧ TabsOk K S H ∧ DpAll K S vs ds ∧ F ds = some d ∧
  ∀ w S' H', GrowT (isTab S H) S H S' H' → TabsOk K S' H' → Dp K S' w d → Q w H'
theorem spLc.plain {K : Kx} {F : List PyData → Option PyData} {c : Addr} {q : Str} {P : Addr} {vs : List V} {H : Hp} {Q : VK} (E : XK) (h : spLc K F c q P vs H Q) : spL K F vs H Q E := by
  obtain ⟨S, ds, d, _, r⟩ := h
  exact ⟨S, ds, d, r⟩
def spLP (K : Kx) (F : List PyData → Option PyData) (P : Hp → Prop) (vs : List V) (H : Hp) (Q : VK) : Prop := ∃ S ds d, P S ∧ Same S H ∧ TabsOk K S H ∧ DpAll K S vs ds ∧ F ds = some d ∧
  ∀ w S' H', GrowT (isTab S H) S H S' H' → TabsOk K S' H' → Dp K S' w d → Q w H'
def KeepAt (f : Addr) (h : Heap) : Prop := ∀ M : Model, ∃ k, (k = PySem.Keeper.frame ∨ k = PySem.Keeper.machine ∨ k = PySem.Keeper.boundFrame) ∧ PySem.W.Looks M h (PySem.keeperOf (.ref f)) k
theorem KeepAt.fn {f : Addr} {h : Heap} (x : PySem.W.FnAt f h) : KeepAt f h := fun _ => PySem.W.keeps_F h x
theorem callWith_P {M : Model} {A : Around} {E : Value → Shared → Prop} {s : Shared} {env : PySem.Env} {pos : Pos} {first : List Value} {Q : Value → Shared → Prop} {q : Addr} {e : Expr} {rest : List Expr} (h : wpAny M A (spliced (backTo pos (starEach (e :: rest) env))) (fun vs s₁ => KeepAt q s₁.heap ∧ wpAny M A (call (.ref q) (first ++ vs)) Q E s₁) E s)
    (he : starEach (e :: rest) env = (false, eval e env) :: starEach rest env := by rfl) (hplain : (backTo pos (starEach rest env)).any (·.1) = false := by rfl) :
    wpAny M A (callWith pos (.ref q) first (backTo pos (starEach (e :: rest) env)) []) Q E s := by
  rw [he] at h ⊢
  exact PySem.W.callWith_of (P := KeepAt q) (by show ((false || (backTo pos (starEach rest env)).any (·.1)) || false) = false; rw [hplain]; rfl) (fun h x => x M) (_root_.PySem.Calls.evalArgs_plain h)
structure FnP (K : Kx) (F : List PyData → Option PyData) (f : Addr) (P : Hp → Prop) : Prop where
  mono : ∀ S S1, Same S S1 → P S → P S1
  thaw : ∀ (S S1 : Hp) (o : Addr) (od : Obj) (ws : List (Key × V)), S o = some (.frz od (.dK ws)) → (∀ a, a ≠ o → S1 a = S a) → S1 o = none → P S → P S1
  at_ : ∀ (A : Around) (outer : List PySem.Env) (s : Shared) (H S : Hp), Env0 K.P K.w K.K K.mg K.base A outer s H → Same S H → P S → KeepAt f s.heap
  run : ∀ (A : Around) (outer : List PySem.Env) (s : Shared) (H : Hp) (us : List Value) (vs : List V) (Q : VK), Room K.lev A → Env0 K.P K.w K.K K.mg K.base A outer s H → Vals vs us → spLP K F P vs H Q →
    codeAny (model K.P K.w) A (.call (.ref f) ⟨us, []⟩) (CR C8.CX0 outer K.P K.w H s Q C8.E0) s
def FnV (K : Kx) (S : Hp) (v : V) (F : List PyData → Option PyData) : Prop := ∃ (f : Addr) (P : Hp → Prop), v = .ref f ∧ P S ∧ FnP K F f P
section
variable {K : Kx} {S S1 H H1 S2 H2 : Hp}
theorem FnV.mono {v : V} {F : List PyData → Option PyData} (h : FnV K S v F) (q : Same S S1) : FnV K S1 v F := by
  obtain ⟨f, P, e1, e2, e3⟩ := h
  exact ⟨f, P, e1, e3.mono _ _ q e2, e3⟩
theorem isTab.there {a : Addr} (q : isTab S H a) : H a ≠ none ∧ S a = none := ⟨by obtain ⟨_, ps, e⟩ := q; exact some_ne e, q.1⟩
theorem isTab.back {a : Addr} (q : isTab S1 H1 a) (s : Same S S1) (k : ∀ o, H a = some o → (∃ ps, o = .tbl ps) ∨ H1 a = some o) : isTab S H a ∨ H a = none := by
  cases e : H a with
  | none => exact .inr rfl
  | some o =>
    obtain ⟨q1, ps, q2⟩ := q
    have sa : S a = none := by
      cases es : S a with
      | none => rfl
      | some u => rw [s _ _ es] at q1; cases q1
    rcases k o e with ⟨ps', rfl⟩ | z
    · exact .inl ⟨sa, ps', e⟩
    · rw [z] at q2; cases q2; exact .inl ⟨sa, ps, e⟩
theorem TabsOk.there (_ : TabsOk K S H) {a : Addr} (q : isTab S H a) : H a ≠ none ∧ S a = none := q.there
theorem TabsOk.go (h : TabsOk K S H) (q : Same S S1) (n : ∀ a, isTab S H a → S1 a = none) (k : ∀ a o, isTab S H a → H a = some o → H1 a = some o) (x : ∀ a φ, S1 a = some (.ext φ) → S a = some (.ext φ) := by first | exact fun _ _ e => e | exact no_ext (by intro φ z; cases z)) : TabsOk K S1 H1 := by
  refine ⟨fun p hp => ?_, fun c q' P hc => ?_⟩
  · obtain ⟨h1, ps, h2, h3, h4⟩ := h.st p hp
    refine ⟨n _ ⟨h1, ps, h2⟩, ps, k _ _ ⟨h1, ps, h2⟩ h2, h3, fun pos cv hc => ?_⟩
    obtain ⟨c, P, e1, e2⟩ := h4 pos cv hc
    exact ⟨c, P, e1, q _ _ e2⟩
  · obtain ⟨h0, hb, hm, h1, ps, h2, h3, h4⟩ := h.ne c q' P (x _ _ hc)
    refine ⟨h0, hb, hm, n _ ⟨h1, ps, h2⟩, ps, k _ _ ⟨h1, ps, h2⟩ h2, h3, fun pos cv hc => ?_⟩
    obtain ⟨c2, e1, oc, e2, e3⟩ := h4 pos cv hc
    exact ⟨c2, e1, oc, q _ _ e2, e3⟩
theorem TabsOk.grow {m : Addr → Prop} (h : TabsOk K S H) (g : Grow m S H S1 H1) (hm : ∀ a, isTab S H a → ¬ m a) : TabsOk K S1 H1 :=
  h.go g.s (fun a ha => g.n a ha.there.2 ha.there.1) (fun a o ha e => g.k a o (hm a ha) e) g.x
theorem GrowT.refl (h : Same S H) : GrowT (isTab S H) S H S H := ⟨Same.refl S, h, fun _ e _ => e, fun _ _ _ e => e, fun _ e => e, fun _ ps e => ⟨ps, e⟩⟩
theorem GrowT.trans (a : GrowT (isTab S H) S H S1 H1) (b : GrowT (isTab S1 H1) S1 H1 S2 H2) : GrowT (isTab S H) S H S2 H2 :=
  ⟨a.s.trans b.s, b.f, fun x e q => b.n x (a.n x e q) (a.d x q), fun x u hm e => b.k x u (fun z => by
    rcases z.back a.s (fun o eo => by
      by_cases ht : ∃ ps, o = .tbl ps
      · exact .inl ht
      · exact .inr (a.k x o (fun z => by obtain ⟨_, ps, e2⟩ := z; rw [eo] at e2; exact ht ⟨ps, Option.some.inj e2⟩) eo)) with q | q
    · exact hm q
    · rw [q] at e; cases e) (a.k x u hm e), fun x e => b.d x (a.d x e), fun x ps e => by
    obtain ⟨p1, e1⟩ := a.t x ps e
    exact b.t x p1 e1⟩
end
end Dz

namespace Dz
open PySem PySem.Spec PySem.SeqAt PyProof.Rows L2 RZ LamX
def LamO (f : Addr) (q : Str) (ps : Arguments) (b : Expr) (sc : Scope) (cl : List (Str × Addr)) (pm : Value) (c : Addr) (ct : Value) : Heap → Prop := fun h => h.get? f = some (PySem.W.kla_obj "<lambda>" q ps b sc cl pm c ct)
section
variable {X : Cx} {K : Kx} {pins : List (Addr × Obj)} {σ : L2.St} {H S : Hp} {s : Shared}
theorem same_none (h : Same S H) {a : Addr} (e : H a = none) : S a = none := by
  cases q : S a with
  | none => rfl
  | some o => rw [h a o q] at e; cases e
theorem mk_new {M : Model} {A : Around} {E : Value → Shared → Prop} {Q : Value → Shared → Prop} {s : Shared} {nm q : Str} {ps : Arguments} {b : Expr} {sc : Scope} {env : PySem.Env} {c P : Addr} {tab : Array Value} {pos : Pos} {ln : Nat} {mg : Str → Option Value} {clos : List (Str × Addr)} (hcl : closureFor sc env = pure clos) (hg0 : env.globals = mainGlobals) (hg : s.heap.Ns mainGlobals mg) (hc : env.code = .ref c) (C : PySem.W.CodeHd s.heap c P) (hP : s.heap.get? P = some (PySem.W.tabObj tab)) (ht : TriplesOk tab.toList)
    (hn : codeAmong pos tab.toList = none) (hgP : mainGlobals ≠ P) (hb : s.heap.BuiltinsAt mg P)
    (h : ∀ c' P' ctv h' tk, Heap.ExtBut P s.heap h' → s.heap.objs.size ≤ c' → s.heap.objs.size ≤ P' → c' ≠ P' → c' < h'.objs.size → CodeP c' q P' h' → h'.get? P' = some (PySem.W.tabObj #[]) → h'.get? P = some (PySem.W.tabObj (tab ++ #[rawInt pos.line, rawInt pos.col, .ref c'])) →
      Q (.ref h'.objs.size) { s with heap := h'.push (PySem.W.kla_obj nm q ps b sc clos ((mg "__name__").getD .none) c' ctv), toks := tk }) : wpAny M A (makeFunction nm q ps (.expr b) sc env [] [] [] pos ln) Q E s := by
  obtain ⟨bm, ob, b1, b2, b3, b4, b5, b6, b7, b8⟩ := hb
  have mk : ∀ {h0 : Heap} {ctv : Value} (k0 : ∀ a o, s.heap.get? a = some o → h0.get? a = some o) (l0 : s.heap.objs.size ≤ h0.objs.size) (g0 : h0.Ns mainGlobals mg) (T : Heap → Tok → Shared) (eT : ∀ h' tk, T h' tk = { s with heap := h', toks := tk }) (c' : Addr) (h' : Heap) (tk : Tok), Heap.ExtBut P h0 h' → h0.objs.size ≤ c' → c' < h'.objs.size → h'.CodeRec (.ref c') q → h'.get? P = some (PySem.W.tabObj (tab ++ #[rawInt pos.line, rawInt pos.col, .ref c'])) → (∃ P', h0.objs.size ≤ P' ∧ h'.IsCode c' P' #[] ∧ h'.TableAt c' P' #[]) →
      Q (.ref h'.objs.size) { s with heap := h'.push (PySem.W.kla_obj nm q ps b sc clos ((mg "__name__").getD .none) c' ctv), toks := tk } := fun {h0 ctv} k0 l0 g0 T eT c' h' tk hx hge hlt hrec htb ⟨P', hP', i1, i2⟩ => by
    obtain ⟨c2, oc, us, t, e2, hoc, hd, hv⟩ := hrec
    cases e2
    have hd2 : PySem.W.CodeHd h' c' P' := PySem.W.CodeHd.of i1 i2
    have hne : c' ≠ P' := by obtain ⟨o, vs, f, tf, fl, tg, iF, tx, tt, z1, z2, z3, z4, z5, z6, z7, z8, z9, z10⟩ := hd2; exact z10
    exact h c' P' ctv h' tk (fun a o ha e => hx a o ha (k0 a o e)) (Nat.le_trans l0 hge) (Nat.le_trans l0 hP') hne hlt ⟨⟨oc, us, t, hoc, hd, hv⟩, hd2⟩ i2.2 htb
  rw [makeFunction_eq]
  simp only [List.zip_nil_right, List.filterMap_nil, List.isEmpty_nil, if_true, pure_bind]
  unfold makeTail
  rw [hcl, hg0]
  refine wpAny_bind (wpAny_pure (?_ : _))
  by_cases hcn : clos = []
  · subst hcn
    rw [show ([] : List (Str × Addr)).isEmpty = true from rfl, if_pos rfl]
    refine wpAny_bind (wpAny_pure (?_ : _))
    refine wpAny_bind (PySem.wpAny_functionCodeX hc (C.code hP ht) (C.tab hP) hn fun c' h' tk hx hge hlt _ hrec htb hnew => (?_ : _))
    refine wpAny_bind (wpAny_builtinsFor (hg.extBut hx hgP) b1 b2 (hx _ _ b4 b5) b6 b7 b8 (wpAny_bind (wpAny_nsGet (hg.extBut hx hgP) (wpAny_bind (wpAny_pure (wpAny_newObj_type (?_ : _) (by size_fits)))))))
    exact mk (fun _ _ e => e) (Nat.le_refl _) hg (fun h' tk => { s with heap := h', toks := tk }) (fun _ _ => rfl) c' h' tk hx hge hlt hrec htb.2 hnew
  · rw [if_neg (by simp [List.isEmpty_iff, hcn])]
    have kp : ∀ {o1 : Obj} (a : Addr) (o : Obj), s.heap.get? a = some o → (s.heap.push o1).get? a = some o := fun a o e => Heap.get?_push_of_some _ e
    refine wpAny_bind (wpAny_newTextTuple (?_ : _))
    refine wpAny_bind (PySem.wpAny_functionCodeX hc ((C.keeps kp).code (kp _ _ hP) ht) ((C.keeps kp).tab (kp _ _ hP)) hn fun c' h' tk hx hge hlt _ hrec htb hnew => (?_ : _))
    refine wpAny_bind (wpAny_builtinsFor ((hg.push _).extBut hx hgP) b1 b2 (hx _ _ b4 (kp _ _ b5)) b6 b7 b8 (wpAny_bind (wpAny_nsGet ((hg.push _).extBut hx hgP) (wpAny_bind (wpAny_pure (wpAny_newObj_type (?_ : _) (by size_fits)))))))
    exact mk kp (by rw [Heap.size_push]; exact Nat.le_succ _) (hg.push _) (fun h' tk => { s with heap := h', toks := tk }) (fun _ _ => rfl) c' h' tk hx hge hlt hrec htb.2 hnew
theorem inv_tabs {P : Addr} {ps more : Array Value} {h' : Heap} {t' : Nat} {H' : Hp} (I : Inv X pins σ H s) (hP : H P = some (.tbl ps)) (k : ∀ b o, b ≠ P → s.heap.get? b = some o → h'.get? b = some o) (hm : h'.get? P = some { cls := .none, data := .fields (ps ++ more) }) (hP' : H' P = some (.tbl (ps ++ more)))
    (old : ∀ b u, b ≠ P → H b = some u → H' b = some u) (new : ∀ b u, H' b = some u → b = P ∨ H b = some u ∨ (@LE.le Nat _ s.heap.objs.size b ∧ ObjOk X.prog X.w H' h' b u)) : Inv X pins σ H' { s with heap := h', toks := t' } := by
  have nP : ∀ b, H b = none → b ≠ P := fun b e z => by rw [z, hP] at e; cases e
  have oldT : ∀ b u, H b = some u → (∀ q, u ≠ .tbl q) → H' b = some u := fun b u e hu => old b u (fun z => by rw [z, hP] at e; exact hu ps (Option.some.inj e).symm) e
  refine I.step (g' := s.gens) (d' := s.drawn) (ch := []) (fun b hb => nomatch hb) (fun b o _ _ _ e n => k b o (nP b n) e) (fun b o _ _ _ e n => ⟨o.slots, k b o (nP b n) e⟩) (fun b o _ e n => ?_) (fun b o _ e => ?_)
    (fun b xs e => oldT b _ e fun q z => nomatch z) (fun b o u e => oldT b _ e fun q z => nomatch z) (fun b qs e => ?_) (fun m hn => ?_) (fun b u e => ?_) I.bare
  · cases q : H' b with
    | none => rfl
    | some u =>
      rcases new b u q with z | z | ⟨z, _⟩
      · exact absurd z (nP b n)
      · rw [n] at z; cases z
      · exact absurd (Nat.lt_of_lt_of_le (Heap.lt_size e) z) (Nat.lt_irrefl _)
  · by_cases hb : b = P
    · rw [hb]; exact ⟨_, hm⟩
    · exact ⟨o, k b o hb e⟩
  · by_cases hb : b = P
    · rw [hb] at e ⊢
      rw [hP] at e
      cases e
      exact ⟨more, hP'⟩
    · exact ⟨#[], by rw [old b _ hb e]; simp⟩
  · obtain ⟨ob, es, ep, ho, r⟩ := hn
    exact ⟨ob, es, ep, k _ ob (nP _ I.free) ho, r⟩
  · by_cases hb : b = P
    · rw [hb] at e ⊢
      rw [hP'] at e
      cases e
      exact hm
    · rcases new b u e with z | z | ⟨_, z⟩
      · exact absurd z hb
      · refine (I.hok b u z).stay (fun d v hd q => k d v ?_ q) (fun d q => oldT d _ q fun q z => nomatch z) fun d xs q => oldT d _ q fun q z => nomatch z
        rcases hd with hd | hd
        · rw [hd]; exact hb
        · exact fun z => by rw [z, hP] at hd; cases hd
      · exact z
theorem tabs_new {T0 c' P' : Addr} {q : Str} {tg : Tag} {tab : Array Value} {pos : Pos} (tb : TabsOk K S H) (hs : Same S H) (hm : (T0, tg) ∈ K.T) (hu : ∀ p ∈ K.T, p.1 = T0 → p.2 = tg) (hq : tg.at_ pos.line = q) (hP : H T0 = some (.tbl tab)) (nC : H c' = none) (nP : H P' = none) (hne : c' ≠ P') (hb : K.base.BuiltinsAt K.mg P') (hg : mainGlobals ≠ P')
    (one : ∀ q2 P2, CodeN c' q2 P2 = CodeN c' q P' → P2 = P') : GrowT (isTab S H) S H (upd S c' (CodeN c' q P')) (upd (upd (upd H T0 (.tbl (tab ++ #[rawInt pos.line, rawInt pos.col, .ref c']))) P' (.tbl #[])) c' (CodeN c' q P')) ∧
      TabsOk K (upd S c' (CodeN c' q P')) (upd (upd (upd H T0 (.tbl (tab ++ #[rawInt pos.line, rawInt pos.col, .ref c']))) P' (.tbl #[])) c' (CodeN c' q P')) := by
  have sC : S c' = none := same_none hs nC
  have sP : S P' = none := same_none hs nP
  obtain ⟨sT, tab2, hP2, ht, ha⟩ := tb.st _ hm
  have sT : S T0 = none := sT
  have hP2 : H T0 = some (.tbl tab2) := hP2
  rw [hP] at hP2
  cases hP2
  have nTc : T0 ≠ c' := ne_of_none hP nC
  have nTP : T0 ≠ P' := ne_of_none hP nP
  have at_ : ∀ a, a ≠ T0 → a ≠ P' → a ≠ c' → upd (upd (upd H T0 (.tbl (tab ++ #[rawInt pos.line, rawInt pos.col, .ref c']))) P' (.tbl #[])) c' (CodeN c' q P') a = H a := fun a h1 h2 h3 => by rw [upd_ne h3, upd_ne h2, upd_ne h1]
  have atT : upd (upd (upd H T0 (.tbl (tab ++ #[rawInt pos.line, rawInt pos.col, .ref c']))) P' (.tbl #[])) c' (CodeN c' q P') T0 = some (.tbl (tab ++ #[rawInt pos.line, rawInt pos.col, .ref c'])) := by rw [upd_ne nTc, upd_ne nTP, upd_same]
  have atP : upd (upd (upd H T0 (.tbl (tab ++ #[rawInt pos.line, rawInt pos.col, .ref c']))) P' (.tbl #[])) c' (CodeN c' q P') P' = some (.tbl #[]) := by rw [upd_ne hne.symm, upd_same]
  have atC : upd (upd (upd H T0 (.tbl (tab ++ #[rawInt pos.line, rawInt pos.col, .ref c']))) P' (.tbl #[])) c' (CodeN c' q P') c' = some (CodeN c' q P') := upd_same
  have nil : ∀ (pos : Pos) (cv : Value), codeAmong pos (#[] : Array Value).toList = some cv → False := fun pos cv z => by
    have z : codeAmong pos [] = some cv := z
    simp [codeAmong] at z
  generalize upd (upd (upd H T0 (.tbl (tab ++ #[rawInt pos.line, rawInt pos.col, .ref c']))) P' (.tbl #[])) c' (CodeN c' q P') = H1 at at_ atT atP atC ⊢
  refine ⟨⟨same_up sC, fun a o e => ?_, fun a e1 e2 => ?_, fun a o hn e => ?_, fun a e => ?_, fun a ps e => ?_⟩, fun p hp => ?_, fun c q2 P2 hc => ?_⟩
  · by_cases hac : a = c'
    · rw [hac, upd_same] at e; rw [hac, atC]; exact e
    · rw [upd_ne hac] at e
      rw [at_ a (fun z => by rw [z, sT] at e; cases e) (fun z => by rw [z, sP] at e; cases e) hac]
      exact hs a o e
  · rw [upd_ne fun z => e2 (by rw [z]; exact nC)]; exact e1
  · rw [at_ a (fun z => hn (by rw [z]; exact ⟨sT, _, hP⟩)) (ne_of_none e nP) (ne_of_none e nC)]; exact e
  · by_cases hac : a = c'
    · rw [hac, atC]; exact fun z => nomatch z
    · by_cases hap : a = T0
      · rw [hap, atT]; exact fun z => nomatch z
      · rw [at_ a hap (fun z => e (by rw [z]; exact nP)) hac]; exact e
  · by_cases hap : a = T0
    · rw [hap, atT]; exact ⟨_, rfl⟩
    · rw [at_ a hap (ne_of_none e nP) (ne_of_none e nC)]; exact ⟨_, e⟩
  · obtain ⟨p1, p2, p3, p4, p5⟩ := tb.st p hp
    have hpc : p.1 ≠ c' := ne_of_none p3 nC
    have hpP : p.1 ≠ P' := ne_of_none p3 nP
    refine ⟨by rw [upd_ne hpc]; exact p1, ?_⟩
    by_cases hpp : p.1 = T0
    · have eL : (tab ++ #[rawInt pos.line, rawInt pos.col, .ref c']).toList = tab.toList ++ [rawInt pos.line, rawInt pos.col, .ref c'] := by simp
      refine ⟨_, by rw [hpp]; exact atT, by rw [eL]; exact PySem.TriplesOk_snoc _ _ _ _ ht, fun pos' cv hcv => ?_⟩
      rw [eL] at hcv
      rw [hu p hp hpp]
      rcases NdefX.among_app2 _ ht hcv with z | ⟨z, zl, _⟩
      · obtain ⟨c0, P0, q1, q2⟩ := ha pos' cv z
        exact ⟨c0, P0, q1, same_up sC _ _ q2⟩
      · exact ⟨c', P', z, by rw [← zl, hq]; exact upd_same⟩
    · refine ⟨p2, by rw [at_ p.1 hpp hpP hpc]; exact p3, p4, fun pos' cv hcv => ?_⟩
      obtain ⟨c0, P0, q1, q2⟩ := p5 pos' cv hcv
      exact ⟨c0, P0, q1, same_up sC _ _ q2⟩
  · by_cases hcc : c = c'
    · subst hcc
      rw [upd_same] at hc
      obtain rfl := one q2 P2 (Option.some.inj hc).symm
      exact ⟨fun p hp z => (ne_of_none (tb.st p hp).2.choose_spec.1 nP) z, hb, hg, by rw [upd_ne hne.symm]; exact sP, #[], atP, True.intro, fun pos cv z => (nil pos cv z).elim⟩
    · rw [upd_ne hcc] at hc
      obtain ⟨n1, n2, n3, n4, ps, n5, n6, n7⟩ := tb.ne c q2 P2 hc
      have hPc : P2 ≠ c' := ne_of_none n5 nC
      refine ⟨n1, n2, n3, by rw [upd_ne hPc]; exact n4, ps, by rw [at_ P2 (fun z => n1 _ hm z.symm) (ne_of_none n5 nP) hPc]; exact n5, n6, fun pos cv hcv => ?_⟩
      obtain ⟨c2, q1, oc, q2, q3⟩ := n7 pos cv hcv
      exact ⟨c2, q1, oc, same_up sC _ _ q2, q3⟩
theorem lam_new {c T0 : Addr} {ps : Arguments} {b : Expr} {sc : Scope} {pos : Pos} {E : Value → Shared → Prop} {Q : Value → Shared → Prop} (I : Inv X pins σ H s) (hs : Same S H) (tb : TabsOk K S H) (hbs : X.base = K.base) (hmg : X.mg = K.mg) (TB : TabB X.base X.mg c T0) (hcode : X.env.code = .ref c)
    {tg : Tag} (hm : (T0, tg) ∈ K.T) (hu : ∀ p ∈ K.T, p.1 = T0 → p.2 = tg) (hq : tg.at_ pos.line = X.env.qual ++ "<lambda>") (hdef : defaultsOf ps X.env = ([], [])) (hfree : ∀ y ∈ sc.names, y.2 = .free → ∃ c, X.env.cells.lookup y.1 = some c)
    (h : ∀ (f c' P' : Addr) (pm ct : Value) (S1 H1 : Hp) (s' : Shared), Inv X pins σ H1 s' → GrowT (isTab S H) S H S1 H1 → TabsOk K S1 H1 → H f = none →
      S1 f = some (.ext (LamO f (X.env.qual ++ "<lambda>") ps b sc (cloFrom X.env.cells sc.names []) pm c' ct)) → S1 c' = some (CodeN c' (X.env.qual ++ "<lambda>") P') → Q (.ref f) s') :
    wpAny (model X.prog X.w) X.A (eval (.Lambda ps b sc pos) X.env) Q E s := by
  obtain ⟨nP, tab, hP, ht, ha⟩ := tb.st _ hm
  have nP : S T0 = none := nP
  have hP : H T0 = some (.tbl tab) := hP
  have bP : s.heap.BuiltinsAt X.mg T0 := TB.bm.keeps I.bk
  have hP' : s.heap.get? T0 = some { cls := .none, data := .fields tab } := I.hok T0 _ hP
  refine PySem.W.kla_eval hdef ?_
  -- the function object, behind the code object
  have fin : ∀ {S1 H1 : Hp} {h1 : Heap} {tk : Nat} {c' P' : Addr} {ct : Value}, Inv X pins σ H1 { s with heap := h1, toks := tk } → GrowT (isTab S H) S H S1 H1 → TabsOk K S1 H1 → S1 c' = some (CodeN c' (X.env.qual ++ "<lambda>") P') →
      Q (.ref h1.objs.size) { s with heap := h1.push (PySem.W.kla_obj "<lambda>" (X.env.qual ++ "<lambda>") ps b sc (cloFrom X.env.cells sc.names []) ((X.mg "__name__").getD .none) c' ct), toks := tk } := fun {S1 H1 h1 tk c' P' ct} I1 g1 tb1 sc' => by
    have hf : H1 h1.objs.size = none := I1.hok.fresh (Nat.le_refl _)
    have hf0 : H h1.objs.size = none := by
      cases z : H h1.objs.size with
      | none => rfl
      | some o => exact absurd hf (g1.d _ (some_ne z))
    have I2 := I1.laid (h' := h1.push (PySem.W.kla_obj "<lambda>" (X.env.qual ++ "<lambda>") ps b sc (cloFrom X.env.cells sc.names []) ((X.mg "__name__").getD .none) c' ct)) (t' := tk) (a := h1.objs.size) (o := .ext (LamO h1.objs.size (X.env.qual ++ "<lambda>") ps b sc (cloFrom X.env.cells sc.names []) ((X.mg "__name__").getD .none) c' ct))
      (fun z o e => Heap.get?_push_of_some _ e) (Nat.le_refl _) ⟨Heap.get?_push_size _ rfl, ⟨_, Heap.get?_push_size _ rfl⟩, fun h1 h2 q st => st _ q⟩
    have hg : (h1.push (PySem.W.kla_obj "<lambda>" (X.env.qual ++ "<lambda>") ps b sc (cloFrom X.env.cells sc.names []) ((X.mg "__name__").getD .none) c' ct)).get? h1.objs.size = some (PySem.W.kla_obj "<lambda>" (X.env.qual ++ "<lambda>") ps b sc (cloFrom X.env.cells sc.names []) ((X.mg "__name__").getD .none) c' ct) := Heap.get?_push_size _ rfl
    have ncd : ∀ q P, (HO.ext (LamO h1.objs.size (X.env.qual ++ "<lambda>") ps b sc (cloFrom X.env.cells sc.names []) ((X.mg "__name__").getD .none) c' ct)) = CodeN h1.objs.size q P → False := fun q P z => by
      have zz := congrFun (HO.ext.inj z) _ ▸ (show LamO h1.objs.size (X.env.qual ++ "<lambda>") ps b sc (cloFrom X.env.cells sc.names []) ((X.mg "__name__").getD .none) c' ct _ from hg)
      obtain ⟨_, o, us, file, tf, flags, tg, inF, text, tt, f1, f2, _⟩ := zz
      rw [hg] at f1
      cases f1
      exact absurd (show ("function" : String) = "code" from by injection f2) (by decide)
    have sf : S1 h1.objs.size = none := same_none g1.f hf
    refine h _ c' P' _ ct _ _ _ I2 (g1.trans ⟨same_up sf, same_upup g1.f, fun a e q => ?_, fun a u _ e => by rw [upd_ne (ne_of_none e hf)]; exact e, fun a e => ?_, fun a ps e => ⟨ps, by rw [upd_ne (ne_of_none e hf)]; exact e⟩⟩) ⟨fun p hp => ?_, fun c q P hc => ?_⟩ hf0 upd_same (by rw [upd_ne (ne_of_none sc' sf)]; exact sc')
    · rw [upd_ne fun z => q (by rw [z]; exact hf)]; exact e
    · by_cases z : a = h1.objs.size
      · rw [z, upd_same]; exact fun z => nomatch z
      · rw [upd_ne z]; exact e
    · obtain ⟨p1, p2, p3, p4, p5⟩ := tb1.st p hp
      have hpf := ne_of_none p3 hf
      refine ⟨by rw [upd_ne hpf]; exact p1, p2, by rw [upd_ne hpf]; exact p3, p4, fun pos cv hcv => ?_⟩
      obtain ⟨c0, P0, q1, q2⟩ := p5 pos cv hcv
      exact ⟨c0, P0, q1, same_up sf _ _ q2⟩
    · by_cases hcf : c = h1.objs.size
      · rw [hcf, upd_same] at hc
        exact (ncd q P (Option.some.inj hc)).elim
      · rw [upd_ne hcf] at hc
        obtain ⟨n1, n2, n3, n4, ps, n5, n6, n7⟩ := tb1.ne c q P hc
        have hPf := ne_of_none n5 hf
        refine ⟨n1, n2, n3, by rw [upd_ne hPf]; exact n4, ps, by rw [upd_ne hPf]; exact n5, n6, fun pos cv hcv => ?_⟩
        obtain ⟨c2, q1, oc, q2, q3⟩ := n7 pos cv hcv
        exact ⟨c2, q1, oc, same_up sf _ _ q2, q3⟩
  cases hc : codeAmong pos tab.toList with
  | some cv =>
    obtain ⟨c', P', rfl, hco⟩ := ha pos cv hc
    have hco : S c' = some (CodeN c' (tg.at_ pos.line) P') := hco
    rw [hq] at hco
    exact PySem.W.kla_makeFunctionHit (mg := X.mg) (c := c) (P := T0) (ps := tab) (closure_ok hfree) I.ok.glob (I.mod.glob.keeps I.bk) hcode (TB.code.keeps I.bk) hP' ht hc bP fun ct h' tk hx hsz => fin (I.kept hx) (GrowT.refl hs) tb hco
  | none =>
    refine mk_new (mg := X.mg) (c := c) (P := T0) (tab := tab) (closure_ok hfree) I.ok.glob (I.mod.glob.keeps I.bk) hcode (TB.code.keeps I.bk) hP' ht hc TB.gP bP fun c' P' ct h' tk hx hge hgp hne hlt hcp hnt htb => ?_
    have nC : H c' = none := I.hok.fresh hge
    have nN : H P' = none := I.hok.fresh hgp
    have hb : K.base.BuiltinsAt K.mg P' := by
      obtain ⟨bm, ob, b1, b2, b3, b4, b5, b6⟩ := TB.bm
      rw [← hbs, ← hmg]
      exact ⟨bm, ob, b1, b2, b3, Nat.ne_of_lt (Nat.lt_of_lt_of_le (Heap.lt_size (I.bk _ _ b5)) hgp), b5, b6⟩
    have hg : mainGlobals ≠ P' := by
      obtain ⟨o, es, ep, e, _⟩ := I.mod.glob.keeps I.bk
      exact Nat.ne_of_lt (Nat.lt_of_lt_of_le (Heap.lt_size e) hgp)
    obtain ⟨g1, tb1⟩ := tabs_new (pos := pos) tb hs hm hu hq hP nC nN hne hb hg fun q2 P2 z => CodeP.tab (congrFun (HO.ext.inj z) h' ▸ hcp) hcp
    refine fin (inv_tabs (more := #[rawInt pos.line, rawInt pos.col, .ref c']) (t' := tk) I hP hx htb ?_ (fun z u hz e => ?_) fun z u e => ?_) g1 tb1 upd_same
    · rw [upd_ne (ne_of_none hP nC), upd_ne (ne_of_none hP nN), upd_same]
    · rw [upd_ne (ne_of_none e nC), upd_ne (ne_of_none e nN), upd_ne hz]; exact e
    · by_cases z1 : z = c'
      · rw [z1, upd_same] at e
        cases e
        rw [z1]
        exact .inr (.inr ⟨hge, hcp, by obtain ⟨⟨o, _, _, e, _⟩, _⟩ := hcp; exact ⟨o, e⟩, fun h1 h2 x st => x.stay st⟩)
      · rw [upd_ne z1] at e
        by_cases z2 : z = P'
        · rw [z2, upd_same] at e
          cases e
          rw [z2]
          exact .inr (.inr ⟨hgp, hnt⟩)
        · rw [upd_ne z2] at e
          by_cases z3 : z = T0
          · exact .inl z3
          · rw [upd_ne z3] at e
            exact .inr (.inl e)
theorem lam_fn {F : List PyData → Option PyData} {f c' P' : Addr} {q : Str} {ps : Arguments} {b : Expr} {sc : Scope} {pm ct : Value} {N names : List Str} {k : Nat} (hf : S f = some (.ext (LamO f q ps b sc [] pm c' ct))) (hc : S c' = some (CodeN c' q P')) (SC : FnScope N names sc) (hlev : K.lev = k + 1)
    (hlen : ∀ ds d, F ds = some d → ds.length = names.length)
    (hbind : ∀ us : List Value, us.length = names.length → bindArgs (PySem.W.kla_fn "<lambda>" q ps b sc [] pm (.ref c') ct) ⟨us, []⟩ = pure (names.zip us))
    (hbody : ∀ (A : Around) (outer : List PySem.Env) (s : Shared) (H : Hp) (vs : List V) (Q : VK), Room k (A.deeper (envOfC q sc s.heap.objs.size f (.ref c'))) → spLc K F c' q P' vs H Q →
      ∃ t, PE (cxOf C8.CX0 K.P K.w K.K K.mg K.base N q sc f (.ref c') A outer s H C8.E0) b t ∧ t (L2.start N vs) H Q) : FnV K S (.ref f) F := by
  refine ⟨f, fun S => S f = some (.ext (LamO f q ps b sc [] pm c' ct)) ∧ S c' = some (CodeN c' q P'), rfl, ⟨hf, hc⟩, fun S S1 hs z => ⟨hs _ _ z.1, hs _ _ z.2⟩, fun S S1 o od ws hS hne _ z => ⟨(hne _ fun e => by rw [← e, z.1] at hS; cases hS).trans z.1, (hne _ fun e => by rw [← e, z.2] at hS; cases hS).trans z.2⟩, fun A outer s H S e0 hs z => .fn ⟨_, _, _, _, (e0.hok f _ (hs _ _ z.1)).1⟩, fun A outer s H us vs Q hr e0 rv hspP => ?_⟩
  obtain ⟨S2, ds2, d2, ⟨hf2, hc2⟩, hs2, tb2, hd2, he2, hQ2⟩ := hspP
  have h1 := hs2 _ _ hf2
  have h2 := hs2 _ _ hc2
  have hsp : spLc K F c' q P' vs H Q := ⟨S2, ds2, d2, hc2, hs2, tb2, hd2, he2, hQ2⟩
  rw [hlev] at hr
  obtain ⟨hl, _, _⟩ := e0.hok f _ h1
  obtain ⟨⟨⟨oc, us', t, hoc, hd, hv⟩, _⟩, _⟩ := e0.hok c' _ h2
  have hvl : vs.length = names.length := by
    obtain ⟨S2, ds, d, _, _, _, hdp, e, _⟩ := id hsp
    rw [DpAll_len hdp, hlen ds d e]
  have hul : us.length = names.length := by rw [← rv.length]; exact hvl
  have lim : s.heap.NoLimit := e0.mod.nolimit.keeps fun b o e => (e0.bs b o e).1
  have hkind : ∀ y ∈ names.zip us, sc.names.lookup y.1 = some .local ∨ (sc.names.lookup y.1 = some .cell ∧ ((cellsFrom (s.heap.objs.size + 1) sc.names []).lookup y.1).isSome = true) := fun ⟨n, v⟩ hy => by
    rcases SC.par n (List.of_mem_zip hy).1 with z | z
    · exact .inl z
    · exact .inr ⟨z, PySem.W.cellsFrom_some _ _ _ (.inl z)⟩
  refine PySem.W.kla_callFunE hr.depth hl rfl SC.co SC.gen rfl ⟨c', oc, us', t, rfl, hoc, hd, hv⟩ ?_
  rw [hbind us hul]
  refine wpAny_pure (wpAny_newFunctionEnv_cells SC.kind hkind fun env he s1 x => ?_)
  subst he
  refine ⟨lim.keeps x.toInCall.keep, ?_⟩
  obtain ⟨t, ht, hq⟩ := hbody A outer s H vs Q (hr.deeper _) hsp
  have I : Inv (cxOf C8.CX0 K.P K.w K.K K.mg K.base N q sc f (.ref c') A outer s H C8.E0) [] (L2.start N vs) H s1 := inv_start SC hr.hd e0 hvl rv x
  refine PySem.W.kla_codeExpr (wpAny_mono (ht.run [] s1 (L2.start N vs) H Q I hq) (fun v s' hs => ?_) fun e s' hs => hs)
  obtain ⟨w', H', J, rw', q'⟩ := hs
  exact ⟨w', H', J.os, J.bare, J.base, J.hok, rw', q'⟩
def tLamV (K : Kx) (F : List PyData → Option PyData) : TE := fun _ H Q => ∃ S, Same S H ∧ TabsOk K S H ∧ ∀ v S1 H1, GrowT (isTab S H) S H S1 H1 → TabsOk K S1 H1 → FnV K S1 v F → Q v H1
structure CxK (K : Kx) (X : Cx) : Prop where
  p : X.prog = K.P
  w : X.w = K.w
  k : X.K = K.K
  m : X.mg = K.mg
  b : X.base = K.base
structure TabAtT (K : Kx) (code : Value) (tg : Tag) : Prop where
  ex : ∃ c T0 : Addr, code = .ref c ∧ TabB K.base K.mg c T0 ∧ (T0, tg) ∈ K.T ∧ ∀ p ∈ K.T, p.1 = T0 → p.2 = tg
abbrev TabAt (K : Kx) (code : Value) (q : Str) : Prop := TabAtT K code (.one q)
theorem clo_nil {cells : List (Str × Addr)} {ns : List (Str × NameKind)} (h : ∀ y ∈ ns, y.2 ≠ .free) : cloFrom cells ns [] = [] := by
  cases e : cloFrom cells ns [] with
  | nil => rfl
  | cons a r =>
    have hm : a ∈ cloFrom cells ns [] := by rw [e]; exact List.mem_cons_self
    obtain ⟨y, c⟩ := a
    rcases cloFrom_mem hm with z | ⟨z, _⟩
    · cases z
    · exact absurd rfl (h _ z)
theorem pe_lamVc {F : List PyData → Option PyData} {ps : Arguments} {b : Expr} {sc : Scope} {pos : Pos} {N names : List Str} {k : Nat} (hX : CxK K X) (TA : TabAt K X.env.code (X.env.qual ++ "<lambda>")) (hdef : defaultsOf ps X.env = ([], [])) (SC : FnScope N names sc) (hlev : K.lev = k + 1)
    (hlen : ∀ ds d, F ds = some d → ds.length = names.length)
    (hbind : ∀ (q : Str) (pm cv ct : Value) (us : List Value), us.length = names.length → bindArgs (PySem.W.kla_fn "<lambda>" q ps b sc [] pm cv ct) ⟨us, []⟩ = pure (names.zip us))
    (hbody : ∀ (f c' P' : Addr) (A : Around) (outer : List PySem.Env) (s : Shared) (H : Hp) (vs : List V) (Q : VK), Room k (A.deeper (envOfC (X.env.qual ++ "<lambda>") sc s.heap.objs.size f (.ref c'))) → spLc K F c' (X.env.qual ++ "<lambda>") P' vs H Q →
      ∃ t, PE (cxOf C8.CX0 K.P K.w K.K K.mg K.base N (X.env.qual ++ "<lambda>") sc f (.ref c') A outer s H C8.E0) b t ∧ t (L2.start N vs) H Q) : PE X (.Lambda ps b sc pos) (tLamV K F) := by
  refine ⟨fun pins s σ H Q I h => ?_⟩
  obtain ⟨S, hs, tb, q⟩ := h
  obtain ⟨c, T0, e1, e2, e3, e4⟩ := TA.ex
  rw [← hX.b, ← hX.m] at e2
  refine lam_new I hs tb hX.b hX.m e2 e1 e3 e4 Tag.one_at hdef (fun y hy z => absurd z (SC.nofree y hy)) fun f c' P' pm ct S1 H1 s' I1 g tb1 hf0 hf hc => ?_
  rw [clo_nil SC.nofree] at hf
  exact ⟨.ref f, H1, I1, rfl, q _ S1 H1 g tb1 (lam_fn hf hc SC hlev hlen (fun us hl => hbind _ _ _ _ us hl) fun A outer s H vs Q hr hsp => hbody f c' P' A outer s H vs Q hr hsp)⟩
theorem pe_lamV {F : List PyData → Option PyData} {ps : Arguments} {b : Expr} {sc : Scope} {pos : Pos} {N names : List Str} {k : Nat} (hX : CxK K X) (TA : TabAt K X.env.code (X.env.qual ++ "<lambda>")) (hdef : defaultsOf ps X.env = ([], [])) (SC : FnScope N names sc) (hlev : K.lev = k + 1)
    (hlen : ∀ ds d, F ds = some d → ds.length = names.length)
    (hbind : ∀ (q : Str) (pm cv ct : Value) (us : List Value), us.length = names.length → bindArgs (PySem.W.kla_fn "<lambda>" q ps b sc [] pm cv ct) ⟨us, []⟩ = pure (names.zip us))
    (hbody : ∀ (f c' : Addr) (A : Around) (outer : List PySem.Env) (s : Shared) (H : Hp) (vs : List V) (Q : VK), Room k (A.deeper (envOfC (X.env.qual ++ "<lambda>") sc s.heap.objs.size f (.ref c'))) → spL K F vs H Q C8.E0 →
      ∃ t, PE (cxOf C8.CX0 K.P K.w K.K K.mg K.base N (X.env.qual ++ "<lambda>") sc f (.ref c') A outer s H C8.E0) b t ∧ t (L2.start N vs) H Q) : PE X (.Lambda ps b sc pos) (tLamV K F) :=
  pe_lamVc hX TA hdef SC hlev hlen hbind fun f c' _ A outer s H vs Q hr h => hbody f c' A outer s H vs Q hr (h.plain _)
def tCallF (K : Kx) (i : Nat) (ta : TA) : TE := fun σ H Q => ∃ v S F, σ[i]? = some (some v) ∧ FnV K S v F ∧ Same S H ∧ ta σ H fun vs H1 => ∃ S1, Same S S1 ∧ ∃ ds d, Same S1 H1 ∧ TabsOk K S1 H1 ∧ DpAll K S1 vs ds ∧ F ds = some d ∧ ∀ w S' H', GrowT (isTab S1 H1) S1 H1 S' H' → TabsOk K S' H' → Dp K S' w d → Q w H'
theorem pe_callF {i : Nat} {x : Str} {p pos : Pos} {e : Expr} {es : List Expr} {ta : TA} (hX : CxK K X) (hr : Room K.lev X.A) (hN : X.N[i]? = some x) (hv : Vis X.env.scope x) (ha : PA X (e :: es) ta)
    (hdb : (x == ("__debug__" : Str)) = false := by decide) (hcd : (x == ("__classdict__" : Str)) = false := by decide)
    (he : starEach (e :: es) X.env = (false, eval e X.env) :: starEach es X.env := by rfl) (hpl : (backTo pos (starEach es X.env)).any (·.1) = false := by rfl) : PE X (.Call (.Name x p) (e :: es) [] pos) (tCallF K i ta) := by
  refine ⟨fun pins s σ H Q I h => ?_⟩
  obtain ⟨v, S, F, hs, hF, hsm, ht⟩ := h
  refine wpAny_Call_Name_kw (thn ((pe_var (pos := p) hN hv hdb hcd).run pins s σ H (fun v' H1 => v' = v ∧ H1 = H) I ⟨v, hs, rfl, rfl⟩) fun u s1 ⟨v', H1, I1, r1, q1⟩ => ?_)
  obtain ⟨rfl, rfl⟩ := q1
  obtain ⟨f, P, rfl, hf, hmo, _, hfn, run⟩ := hF
  cases r1
  rw [← hX.p, ← hX.w, ← hX.k, ← hX.m, ← hX.b] at run hfn
  refine callWith_P (thn (ha.run pos pins s1 σ _ _ I1 ht) fun us s2 ⟨vs, H2, I2, r, q⟩ => ?_) he hpl
  obtain ⟨S1, hs2, ds, d, hs3, tb, hd, he, hQ⟩ := q
  refine ⟨hfn _ _ _ _ _ I2.env0 (fun a o e => hs3 _ _ (hs2 _ _ e)) hf, ?_⟩
  refine wpAny_call (codeAny_mono (run X.A X.stack s2 H2 us vs Q hr I2.env0 r ⟨S1, ds, d, hmo _ _ hs2 hf, hs3, tb, hd, he, hQ⟩) fun z s' hq => ?_)
  cases z with
  | error e => exact hq.elim
  | ok fl =>
    cases fl with
    | ret u => exact I2.after hq
    | next => exact hq.elim
    | brk => exact hq.elim
    | cont => exact hq.elim
structure KeyS (sc scope : Scope) (p : Str) : Prop where
  kind : scope.kind = .function
  co : scope.isCoroutine = false
  gen : scope.isGenerator = false
  par : scope.names.lookup p = some .local
  own : ∀ y ∈ scope.names, y.2 ≠ .cell
  free : ∀ y ∈ scope.names, y.2 = .free → sc.names.lookup y.1 = some .cell ∨ sc.names.lookup y.1 = some .free
  one : ∀ x, scope.names.lookup x = some .local → x = p
end
end Dz

namespace Dz
open PySem PySem.Spec PySem.SeqAt PySem.W PyProof.Rows L2 RZ LamX
section
variable {prog : Program} {w : World} {A : Around} {E : Value → Shared → Prop} {s : Shared}
theorem collect_at {Q : List Value → Shared → Prop} (it : Addr) {T : String} {o : Obj} {items : Array Value} {n : Nat} (hT : T = "list" ∨ T = "tuple") (ho : s.heap.get? it = some o) (hc : o.cls = .type T) (hd : o.data = .seq items n) (hz : items.size ≤ sizeLine)
    (hQ : Q items.toList { s with heap := (s.heap.push { cls := .type "list", data := .seq #[] }).update s.heap.objs.size (Obj.mapSeq (· ++ items)) }) : wpAny (model prog w) A (collect (.ref it)) Q E s := by
  unfold collect
  refine wpAny_bind (wpAny_runValue (codeAny_builtin F.entry_proto_collect (?_ : _)))
  rw [Around.under_plainId F.plain_proto_collect (_ : Args)]
  show wpAny _ A.in1 ((newList []) >>= fun l => again (.builtin "list.__iadd__" ⟨[l, .ref it], []⟩)) _ _ s
  refine wpAny_bind (wpAny_newObj_type (?_ : _))
  refine wpAny_pure ⟨plainId_quiet F.plain_list_iadd (_ : Args), codeAny_builtin F.entry_list_iadd (?_ : _)⟩
  rw [Around.under_plainId F.plain_list_iadd (_ : Args)]
  have hS : (s.heap.push { cls := .type "list", data := .seq #[] }).get? s.heap.objs.size = some { cls := .type "list", data := .seq #[] 0 } := Heap.get?_push_size _ rfl
  have hU := Heap.get?_update_self (Obj.mapSeq (· ++ items)) hS rfl
  have fin : wpAny (model prog w) A (match Value.ref s.heap.objs.size with
      | Value.ref a => do
        match (← load a).data with
          | Data.seq xs _ => pure xs.toList
          | _ => unsupported "internal:collect"
      | _ => unsupported "internal:collect") Q E { s with heap := (s.heap.push { cls := .type "list", data := .seq #[] }).update s.heap.objs.size (Obj.mapSeq (· ++ items)) } := by
    show wpAny _ A ((load s.heap.objs.size) >>= _) _ _ _
    refine wpAny_bind (wpAny_load hU (wpAny_pure (?_ : _)))
    show Q (((#[] : Array Value) ++ items).toList) _
    rw [show ((#[] : Array Value) ++ items).toList = items.toList by simp]
    exact hQ
  refine wpAny_mono (wpAny_extend_seq (hsz := hz) (A := A) (R := fun r s' => r = .ok (.ret (.ref s.heap.objs.size)) ∧ s' = { s with heap := (s.heap.push { cls := .type "list", data := .seq #[] }).update s.heap.objs.size (Obj.mapSeq (· ++ items)) })
    (s := { s with heap := s.heap.push { cls := .type "list", data := .seq #[] } }) _ it _ 0 hT hS (Heap.get?_push_of_some _ ho) hc hd ⟨rfl, rfl⟩) (fun r s' h => ?_) fun e s' h => ?_
  · cases r with
    | done f =>
      obtain ⟨e, rfl⟩ := h
      cases e
      exact fin
    | again c' =>
      refine ⟨h.1, codeAny_mono h.2 fun r s'' hr => ?_⟩
      obtain ⟨rfl, rfl⟩ := hr
      exact fin
  · exact absurd h.1 (by simp)
theorem sorted_seq {l : Addr} {o : Obj} {n : Nat} {us : List Value} {T : String} {kw : List (Str × Value)} {Q : Value → Shared → Prop} (hT : T = "list" ∨ T = "tuple") (ho : s.heap.get? l = some o) (hc : o.cls = .type T) (hd : o.data = .seq us.toArray n) (hL : us.length ≤ sizeLine)
    (ha1 : argsOk "sorted" ⟨[.ref l], kw⟩) (ha2 : ∀ x, argsOk "list.sort" ⟨[.ref x], kw⟩)
    (body : ∀ (h1 : Heap) (D : Addr) (E' : Value → Shared → Prop), (∀ b o, s.heap.get? b = some o → h1.get? b = some o) → s.heap.objs.size ≤ D → D < h1.objs.size → h1.get? D = some (seqObj "list" us.toArray 0) →
      wpAny (model prog w) A.in1.in1 (Builtin.«list.sort» ⟨[.ref D], kw⟩) (fun f s' => f = .done (.ret .none) ∧ Q (.ref D) s') E' { s with heap := h1 }) : wpAny (model prog w) A (call (.builtin "sorted") [.ref l] kw) Q E s := by
  refine call_function_entry_kw kind_sorted plain_sorted entry_sorted ha1 ?_
  unfold Builtin.«sorted»
  refine wpAny_bind (m := checkCount "sorted" 1 1 _) (wpAny_pure ?_)
  refine wpAny_bind (collect_at l hT ho hc hd (by rw [List.size_toArray]; exact hL) ?_)
  generalize hh : (s.heap.push { cls := .type "list", data := .seq #[] }).update s.heap.objs.size (Obj.mapSeq (· ++ us.toArray)) = h'
  have hk : ∀ b o, s.heap.get? b = some o → h'.get? b = some o := fun b o e => by
    rw [← hh]
    exact (Heap.get?_update_other _ _ (Nat.ne_of_gt (Heap.lt_size e))).trans (Heap.get?_push_of_some _ e)
  have hlt : s.heap.objs.size ≤ h'.objs.size := by
    rw [← hh, Heap.size_update, size_push']
    exact Nat.le_succ _
  refine wpAny_bind (wpAny_newList ?_ hL)
  have hat : (h'.push (seqObj "list" us.toArray 0)).get? h'.objs.size = some (seqObj "list" us.toArray 0) := Heap.get?_push_size _ rfl
  refine wpAny_bind (wpAny_holding (wpAny_call_entry_kw slot_list_sort ⟨_, hat, rfl⟩ entry_list_sort ?_ (ha2 _)))
  refine wpAny_mono (body _ h'.objs.size _ (fun b o e => Heap.get?_push_of_some _ (hk b o e)) hlt (by rw [size_push']; exact Nat.lt_succ_self _) hat) (fun f s' hf => ?_) fun _ _ e => e
  obtain ⟨rfl, hq⟩ := hf
  exact ⟨_, rfl, wpAny_pure ⟨_, rfl, hq⟩⟩
end
end Dz
namespace Dz
open PySem PySem.Spec PySem.SeqAt PySem.W PyProof.Rows L2 RZ LamX
section
variable {X : Cx} {pins : List (Addr × Obj)} {σ : L2.St} {H : Hp} {s : Shared}
inductive KeyV : V → PyData → Prop
  | int (n : Int) : KeyV (.int n) (.int n)
  | bl (b : Bool) : KeyV (.bl b) (.bool b)
theorem KeyV.reads {v : V} {u : Value} {d : PyData} (h : KeyV v d) (r : RelV v u) (hp : Heap) : Reads hp u d [] := by
  cases h with
  | int n => obtain ⟨t, rfl⟩ := r; exact .int n t
  | bl b => obtain rfl := r; exact .bool b
theorem off {a b d : Addr} {n : Nat} (h : @LT.lt Nat _ a n) (h1 : @LE.le Nat _ n b) (h2 : @LE.le Nat _ n d) : ¬ (a = b ∨ a = d) := fun z => by
  rcases z with rfl | rfl
  · exact Nat.lt_irrefl _ (Nat.lt_of_lt_of_le h h1)
  · exact Nat.lt_irrefl _ (Nat.lt_of_lt_of_le h h2)
def tLamK (K : Kx) (X : Cx) (ps : Arguments) (b : Expr) (sc : Scope) : TE := fun _ H Q => ∃ S, Same S H ∧ TabsOk K S H ∧ ∀ (f c' P' : Addr) (pm ct : Value) (S1 H1 : Hp), GrowT (isTab S H) S H S1 H1 → TabsOk K S1 H1 →
  S1 f = some (.ext (LamO f (X.env.qual ++ "<lambda>") ps b sc (cloFrom X.env.cells sc.names []) pm c' ct)) → S1 c' = some (CodeN c' (X.env.qual ++ "<lambda>") P') → Q (.ref f) H1
end
end Dz

namespace Dz
open PySem PySem.SeqAt PyProof.Rows L2 RZ
open AutoSeq1 (wpAny_loadPart')
theorem enum_made (t : Addr) (its : Array Value) (n : Nat) (dct : Option Addr) (sl : Array (Option Value)) :
    Meets (Builtin.«enumerate.__new__» ⟨[.type "enumerate", .ref t], []⟩) (fun _ R s => s.heap.get? t = some { cls := .type "tuple", dict := dct, data := .seq its n, slots := sl } ∧
      R (.ok (.ret (.ref (s.heap.push { cls := .type "tuple_iterator", data := .fields #[.ref t, .int 0 0] }).objs.size)))
        { s with heap := (s.heap.push { cls := .type "tuple_iterator", data := .fields #[.ref t, .int 0 0] }).push { cls := .type "enumerate", data := .fields #[.none, .bool false, .ref s.heap.objs.size, rawInt 0, .none, .none] } }) :=
  .of_wp fun prog w A R s q => by
    obtain ⟨hp, gg, dd, tk, os⟩ := s; obtain ⟨hl, q⟩ := q
    have hsb := sub_enumerate
    have hT : Heap.IsTuple (Shared.heap ⟨hp, gg, dd, tk, os⟩) t its := ⟨_, hl, rfl, n, rfl⟩
    wp_walk using wpAny_loadPart' hl
    refine wpAny_stack_any fun st => wpAny_pure ?_
    split
    · rename_i c _ _ _ _ _
      cases (c == Value.type "enumerate") <;> (wp_walk using wpAny_loadPart' hl, wpAny_pyIter_tuple hT) <;> exact ⟨_, rfl, q⟩
    · (wp_walk using wpAny_loadPart' hl, wpAny_pyIter_tuple hT) <;> exact ⟨_, rfl, q⟩
theorem enum_call {prog : Program} {w : World} {A : Around} {E : Value → Shared → Prop} {s : Shared} {t : Addr} {its : Array Value} {Q : Value → Shared → Prop} (hT : s.heap.IsTuple t its)
    (q : ∀ h', IsEnum h' (s.heap.objs.size + 1) s.heap.objs.size 0 .none → h'.IsTupleIter s.heap.objs.size t 0 → h'.objs.size = s.heap.objs.size + 2 → (∀ b o, s.heap.get? b = some o → h'.get? b = some o) → Q (.ref (s.heap.objs.size + 1)) { s with heap := h' }) :
    wpAny (model prog w) A (call (.type "enumerate") [.ref t]) Q E s := by
  obtain ⟨⟨cc, dct, dt, sl⟩, hl, hc, n, hd⟩ := hT
  replace hc : cc = .type "tuple" := hc
  replace hd : dt = .seq its n := hd
  subst hc hd
  refine callType_new F.called_enumerate (by decide) (F.typeCall_enumerate_1 _) (F.newCall_enumerate_1 _) (fun ob => F.args_object_init_2 ob _) F.entry_enumerate_new (enum_made t its n dct sl) ⟨hl, ?_⟩
  have hz : (s.heap.push { cls := .type "tuple_iterator", data := .fields #[.ref t, .int 0 0] }).objs.size = s.heap.objs.size + 1 := Heap.size_push ..
  show _ ∧ _
  rw [hz]
  have he : IsEnum ((s.heap.push { cls := .type "tuple_iterator", data := .fields #[.ref t, .int 0 0] }).push { cls := .type "enumerate", data := .fields #[.none, .bool false, .ref s.heap.objs.size, rawInt 0, .none, .none] }) (s.heap.objs.size + 1) s.heap.objs.size 0 .none := by
    have z := Heap.get?_push_size (s.heap.push { cls := .type "tuple_iterator", data := .fields #[.ref t, .int 0 0] }) (o := { cls := .type "enumerate", data := .fields #[.none, .bool false, .ref s.heap.objs.size, rawInt 0, .none, .none] }) rfl
    rw [hz] at z; exact z
  exact ⟨⟨_, he, rfl⟩, q _ he ⟨_, Heap.get?_push_of_some _ (Heap.get?_push_size _ rfl), rfl, rfl⟩ (by rw [Heap.size_push, hz]) fun b o z => Heap.get?_push_of_some _ (Heap.get?_push_of_some _ z)⟩
theorem wpAny_pyNext_enum_endT {prog : Program} {w : World} {A : Around} {E : Value → Shared → Prop} {s : Shared} {e it t : Addr} {i : Nat} {its : Array Value} {old : Value} {Q : Option Value → Shared → Prop} (hh : A.handled = none)
    (he : IsEnum s.heap e it i old) (hit : s.heap.IsTupleIter it t i) (hl : s.heap.IsTuple t its) (hx : its[i]? = none) (q : ∀ h', Heap.ExtBut it s.heap h' → Q none { s with heap := h' }) : wpAny (model prog w) A (pyNext (.ref e)) Q E s := by
  have hTy : s.TypeIs (.ref e) "enumerate" := ⟨_, he, rfl⟩
  unfold pyNext
  refine wpAny_bind (wpAny_attempt (wpAny_callSpecial?_slot (name := Str.ofString "__next__") hTy F.slot_enumerate_next (wpAny_call_entry F.slot_enumerate_next hTy F.entry_enumerate_next ?_ (F.args_enumerate_next_1 _))))
  show wpAny _ _ (field (.ref e) 2 >>= _) _ _ _
  refine wpAny_bind (wpAny_field he rfl (x := .ref it) rfl (wpAny_bind (wpAny_nextOf_tuple_end (by simpa using hh) hit hl hx fun h' x he' hx' => ?_)))
  obtain ⟨o, ho, hc⟩ := hx'
  exact wpAny_bind (wpAny_isInstance (T := "StopIteration") (b := true) ⟨o, ho, hc⟩ isSubtype_stop (wpAny_pure (q _ he')))
def IteT (K : PySem.W.Frag) (a : Addr) : It :=
  ⟨fun i H => ∃ (xs : List V) (x : V), SqT K H a xs ∧ xs[i]? = some x, fun i H v H' => ∃ T x, v = .ref T ∧ H T = none ∧ H' = upd H T (.tup [.int (i : Nat), x]) ∧ ∀ xs, SqT K H a xs → xs[i]? = some x, fun i H => ∃ xs : List V, SqT K H a xs ∧ xs.length ≤ i⟩
theorem turn_enumT {P : Program} {w : World} {K : PySem.W.Frag} {elts : List Expr} {kk : Nat} {tpos : Pos} (a e it : Addr) (hai : a ≠ it) (hae : a ≠ e) (hne : e ≠ it) :
    Turn P w K (.Tuple elts kk tpos) (IteT K a) [e, it] e (fun i h => (∃ old, IsEnum h e it ((i : Nat) : Int) old) ∧ h.IsTupleIter it a i) where
  mem := by simp
  obj := fun i h st b hb => by
    obtain ⟨⟨old, he⟩, ⟨o, ho, hc, hd⟩⟩ := st
    rcases (show b = e ∨ b = it by simpa using hb) with rfl | rfl
    · exact ⟨_, he, fun v q => nomatch q⟩
    · exact ⟨o, ho, fun v q => by rw [hd] at q; cases q⟩
  keep := fun i h h' st k => let ⟨⟨old, he⟩, hi⟩ := st; ⟨⟨old, k e (by simp) _ he⟩, hi.at fun o q => k it (by simp) o q⟩
  item := by
    intro X hP hw hK hc i pins s σ H E I hf st hg
    subst hP hw hK
    obtain ⟨⟨old, he⟩, hit⟩ := st
    obtain ⟨xs, x, hq, hx⟩ := hg
    obtain ⟨its, rv, p, hz⟩ := I.tuple hq
    obtain ⟨u, hu, ru⟩ := rv.get hx
    have hel : e < s.heap.objs.size := Heap.lt_size he
    have hil : it < s.heap.objs.size := by obtain ⟨_, q, _⟩ := hit; exact Heap.lt_size q
    have hlt : i < its.toArray.size := (Array.getElem?_eq_some_iff.mp (show its.toArray[i]? = some u by simpa using hu)).1
    refine wpAny_pyNext_enum_itemC (Draws.tuple (A := X.A.in1) (by have := I.ok.hd hc; simpa using this) it a hai its.toArray) he ⟨hit, p⟩ hlt hne (by simp [hne, Ne.symm hae]) fun y h' tk hy ho hst' hT hsz hk => ?_
    obtain ⟨hit', _⟩ := hst'
    have hyu : y = u := by
      have e1 : its.toArray[i]? = some u := by simpa using hu
      rw [e1] at hy
      exact (Option.some.inj hy).symm
    subst hyu
    refine ⟨_, rfl, wpAny_letOwnedTupleGo_enum (s := { s with heap := h', toks := tk + 1 }) ho fun h'' he' sb => ?_⟩
    have hT2 : h''.get? s.heap.objs.size = some { cls := .type "tuple", data := .seq #[.int i tk, y] } := (sb.2 _ (Nat.ne_of_gt hel)).trans hT
    have nw : ObjOk X.prog X.w (upd H s.heap.objs.size (.tup [.int (i : Nat), x])) h'' s.heap.objs.size (.tup [.int (i : Nat), x]) :=
      ⟨by show 2 ≤ sizeLine; decide, [.int i tk, y], .cons ⟨_, rfl⟩ (.cons ru .nil), ⟨_, hT2, rfl, _, rfl⟩⟩
    have I1 : Inv X pins σ (upd H s.heap.objs.size (.tup [.int (i : Nat), x])) { s with heap := h'', toks := tk + 1 } :=
      I.turnedNew (ch := [e, it]) (fun b ob hb q => (sb.2 b (fun z => hb (by simp [z]))).trans (hk b ob (fun z => hb (by simp [z])) (fun z => hb (by simp [z])) q)) hf (Nat.le_refl _) nw
    refine ⟨.ref s.heap.objs.size, _, I1, rfl, ⟨_, x, rfl, I.hok.fresh (Nat.le_refl _), rfl, fun ys hy => by rw [I.tuple_inj hy hq]; exact hx⟩, ⟨⟨y, ?_⟩, hit'.at fun o q => (sb.2 it (Ne.symm hne)).trans q⟩, fun b hb => ?_⟩
    · rw [show ((i + 1 : Nat) : Int) = (i : Int) + 1 by omega]; exact he'
    · have hbl : b < s.heap.objs.size := by
        rcases (show b = e ∨ b = it by simpa using hb) with rfl | rfl
        · exact hel
        · exact hil
      rw [upd_ne (Nat.ne_of_lt hbl)]
      exact (hf b hb).1
  done := by
    intro X hP hw hK hc i pins s σ H E I hf st hg
    subst hP hw hK
    obtain ⟨⟨old, he⟩, hit⟩ := st
    obtain ⟨xs, hq, hx⟩ := hg
    obtain ⟨its, rv, p, hz⟩ := I.tuple hq
    obtain ⟨f0, f1, f2, f3, f4, f5⟩ := hf it (by simp)
    have hl := rv.length
    have hit' := hit
    exact wpAny_pyNext_enum_endT (I.ok.hd hc) he hit p (by simp; omega) fun h' eb => ⟨rfl, I.turned (t' := s.toks) (fun b o hb q => eb b o hb q) f0 f1 f3 f4 f5⟩
  self := fun A i s Q E st h => let ⟨⟨_, he⟩, _⟩ := st; wpAny_pyIter_enum he h
def iEnumA (K : PySem.W.Frag) (ta : TA) : TI := fun σ H R => ta σ H fun vs H1 => ∃ a xs, vs = [.ref a] ∧ ((SqL K H1 a xs ∧ R (Ite K a) H1) ∨ (SqT K H1 a xs ∧ R (IteT K a) H1))
theorem pi_enumA {X : Cx} {e : Expr} {ta : TA} {p pos tpos : Pos} {elts : List Expr} {kk : Nat} (hg : Gl X "enumerate") (hm : X.mg "enumerate" = none) (ha : PA X [e] ta) (hs : starEach [e] X.env = [(false, eval e X.env)] := by rfl) :
    PI X (.Tuple elts kk tpos) (.Call (.Name "enumerate" p) [e] [] pos) (iEnumA X.K ta) := by
  refine ⟨fun pins s σ H R I h => Call_ (ld_blt I hg hm boot_enumerate (PyProof.Rows.callWith_type1 (thn (ha.run pos pins s σ H _ I h) fun us s1 ⟨vs, H1, I1, r1, q1⟩ => ?_) hs rfl))⟩
  obtain ⟨a, xs, rfl, q1⟩ := q1
  have key : ∀ b, b ∈ [s1.heap.objs.size + 1, s1.heap.objs.size] → FpOk X pins H1 b := fun b hb => by
    have hle : s1.heap.objs.size ≤ b := by
      rcases (show b = s1.heap.objs.size + 1 ∨ b = s1.heap.objs.size by simpa using hb) with z | z
      · rw [z]; exact Nat.le_succ _
      · rw [z]; exact Nat.le_refl _
    exact I1.fpOk hle (I1.hok.fresh hle)
  cases r1 with
  | cons r rr =>
    cases rr
    cases r
    rcases q1 with ⟨hq, q⟩ | ⟨hq, q⟩
    · obtain ⟨its, rv, p', hz⟩ := I1.list hq
      exact call_enumerate_list p'.isList fun h' he hit hsz hk => wpAny_pyIter_enum he ⟨s1.heap.objs.size + 1, [s1.heap.objs.size + 1, s1.heap.objs.size], _, _, H1, rfl, I1.kept (t' := s1.toks) hk, turn_enum a (s1.heap.objs.size + 1) s1.heap.objs.size, ⟨⟨.none, he⟩, hit, Nat.succ_ne_self _⟩, key, q⟩
    · obtain ⟨its, rv, p', hz⟩ := I1.tuple hq
      have hal : a < s1.heap.objs.size := by obtain ⟨_, z, _⟩ := p'; exact Heap.lt_size z
      exact enum_call p' fun h' he hit hsz hk => wpAny_pyIter_enum he ⟨s1.heap.objs.size + 1, [s1.heap.objs.size + 1, s1.heap.objs.size], _, _, H1, rfl, I1.kept (t' := s1.toks) hk, turn_enumT a (s1.heap.objs.size + 1) s1.heap.objs.size (Nat.ne_of_lt hal) (Nat.ne_of_lt (Nat.lt_succ_of_lt hal)) (Nat.succ_ne_self _), ⟨⟨.none, he⟩, hit⟩, key, q⟩
end Dz

namespace Dz
open PySem PySem.SeqAt PyProof.Rows L2 RZ PpSet
def uniqI : List Int → List Int
  | [] => []
  | x :: r => if x ∈ uniqI r then uniqI r else x :: uniqI r
theorem uniq_mem {x : Int} : ∀ {ns : List Int}, x ∈ uniqI ns ↔ x ∈ ns
  | [] => Iff.rfl
  | y :: r => by
    have ih := uniq_mem (x := x) (ns := r)
    rw [uniqI]
    split
    · rename_i h
      rw [ih, List.mem_cons]
      exact ⟨.inr, fun z => z.elim (fun e => by rw [e]; exact uniq_mem.mp h) id⟩
    · rw [List.mem_cons, ih, List.mem_cons]
theorem uniq_nodup : ∀ ns : List Int, (uniqI ns).Nodup
  | [] => List.nodup_nil
  | y :: r => by
    rw [uniqI]
    split
    · exact uniq_nodup r
    · rename_i h
      exact List.nodup_cons.mpr ⟨h, uniq_nodup r⟩
theorem nodup_same {a b : List Int} (ha : a.Nodup) (hb : b.Nodup) (h : ∀ x, x ∈ a ↔ x ∈ b) : a.Perm b := (List.perm_ext_iff_of_nodup ha hb).mpr h
theorem uniq_snoc (ns : List Int) (c : Int) : (uniqI (ns ++ [c])).length = if decide (c ∈ ns) = true then (uniqI ns).length else (uniqI ns).length + 1 := by
  by_cases h : c ∈ ns
  · rw [if_pos (decide_eq_true h)]
    exact (nodup_same (uniq_nodup _) (uniq_nodup _) fun x => by
      rw [uniq_mem, uniq_mem, List.mem_append, List.mem_singleton]
      exact ⟨fun z => z.elim id fun e => by rw [e]; exact h, .inl⟩).length_eq
  · rw [if_neg (by simpa using h)]
    have := (nodup_same (uniq_nodup (ns ++ [c])) (List.nodup_cons.mpr ⟨fun z => h (uniq_mem.mp z), uniq_nodup ns⟩) fun x => by
      rw [uniq_mem, List.mem_append, List.mem_singleton, List.mem_cons, uniq_mem]
      exact ⟨Or.symm, Or.symm⟩).length_eq
    rw [this, List.length_cons]
theorem uniq_le (ns : List Int) : (uniqI ns).length ≤ ns.length := (uniq_nodup ns).length_le_of_subset fun _ h => uniq_mem.mp h
def SetIO (w : World) (a : Addr) (S : Int → Bool) (n : Nat) : HO := .ext fun h => L2.SetR w h a S n
theorem setIO_ok {w : World} {P : Program} {H : Hp} {h : Heap} {a : Addr} {S : Int → Bool} {n : Nat} (R : L2.SetR w h a S n) : ObjOk P w H h a (SetIO w a S n) := by
  have ⟨o, _, _, _, ho, _⟩ := R
  exact ⟨R, ⟨o, ho⟩, fun h1 h2 p k => L2.SetR.at p k⟩
section
variable {X : Cx} {pins : List (Addr × Obj)} {σ : L2.St} {H : Hp} {s : Shared} {a D : Addr} {S : Int → Bool} {n : Nat}
theorem setIO_at (I : Inv X pins σ H s) (ha : H a = some (SetIO X.w a S n)) : L2.SetR X.w s.heap a S n := (I.hok a _ ha).1
theorem addI_ok {E : Value → Shared → Prop} {y : Int} {tk : Tok} {Q : Value → Shared → Prop} (I : Inv X pins σ H s) (hD : H D = some (SetIO X.w D S n)) (room : n + 1 < scanBound)
    (q : ∀ s', Inv X pins σ (upd H D (SetIO X.w D (fun j => S j || decide (j = y)) (if S y = true then n else n + 1))) s' → Q .none s') : wpAny (model X.prog X.w) X.A (call (.builtin "set.add") [.ref D, .int y tk]) Q E s := by
  refine L2.setR_add (setIO_at I hD) room fun h' sb nw => ?_
  have nw : L2.SetR X.w h' D (fun j => S j || decide (j = y)) (if S y = true then n else n + 1) := nw.congr fun j => by first | rfl | (simp [Bool.or_comm]) | (cases S j <;> simp [eq_comm])
  have he : ∃ u, h'.get? D = some u := by
    have ⟨o, _, _, _, ho, _⟩ := nw
    exact ⟨o, ho⟩
  exact q _ (I.write (e := D) (t' := s.toks + 1) (by rw [hD]; trivial) (.inl rfl) (fun b u hb hu => (sb.2 b hb).trans hu) he (setIO_ok nw))
end
def tScI (w : World) (wi : TI) (g : TG) (tt : TT) (te : TE) (vs : List Nat) : TE := fun σ H Q => wi σ H fun J H1 => ∀ D, H1 D = none → ∃ W : Nat → Nat → Hp → Prop, (∃ m, W 0 m (upd H1 D (SetIO w D (fun _ => false) 0))) ∧ ∀ i m H, W i m H →
  (J.stop i H ∧ Q (.ref D) H) ∨ (J.go i H ∧ ∃ Nx : Hp → Prop, (∀ H', Nx H' → ∃ m', m' < m ∧ W (i + 1) m' H') ∧ ∀ x H', J.yld i H x H' → g x (wipe σ vs) H' fun σ2 H2 => wipe σ2 vs = wipe σ vs ∧ tt σ2 H2 fun b H3 =>
    if b = true then te σ2 H3 fun y H4 => ∃ (c : Int) (S : Int → Bool) (n : Nat), y = .int c ∧ H4 D = some (SetIO w D S n) ∧ n + 1 < scanBound ∧ Nx (upd H4 D (SetIO w D (fun j => S j || decide (j = c)) (if S c = true then n else n + 1))) else Nx H3)
section
variable {X : Cx} {elt tg iter : Expr} {ifs : List Expr} {scope : Scope} {own : List (PySem.Str × Nat)} {wi : TI} {g : TG} {tt : TT} {te : TE}
theorem scI_core {pn : List (Addr × Obj)} {s : Shared} {σ : L2.St} {H : Hp} {Q : VK} {pos pos' : Pos} {use : Option (Value → Sem Unit)} {Qf : Value → Shared → Prop} (hc : X.calm = true) (hN : X.N.Nodup) (I : Inv X pn σ H s) (hi : PI X tg iter wi) (bok : BlkOk X.N X.env.scope scope own)
    (hg : ∀ (s : Shared) (H : Hp) (C : Addr) (cl : List (PySem.Str × Addr)) (fp : List Addr), PG (X.blk s H scope (compEnvC scope cl C X.env) fp) tg g) (ht : ∀ (s : Shared) (H : Hp) (C : Addr) (cl : List (PySem.Str × Addr)) (fp : List Addr), PTs (X.blk s H scope (compEnvC scope cl C X.env) fp) ifs tt)
    (he : ∀ (s : Shared) (H : Hp) (C : Addr) (cl : List (PySem.Str × Addr)) (fp : List Addr), PE (X.blk s H scope (compEnvC scope cl C X.env) fp) elt te) (hs : ∀ x, foldedSetIterable iter X.env x = pure x) (h : tScI X.w wi g tt te (own.map (·.2)) σ H Q)
    (fin : ∀ D C s' m H', Inv X pn σ H' s' → Q (.ref D) H' → s'.heap.Ns C m → FpOk X pn H' C → compPost (model X.prog X.w) X.A X.xe use Qf (.ref D) C (.ok .next) s') :
    wpAny (model X.prog X.w) X.A (comprehension (.SetComp elt [⟨tg, iter, ifs, 0⟩] scope pos) scope X.env pos' (newSet (.type "set")) false (eval iter X.env) use) Qf X.xe s := by
  have fr : ∀ y ∈ scope.names, y.2 = .free → ∃ c, X.env.cells.lookup y.1 = some c := fun y hy e => (bok.free y hy e).elim (fun k => I.ok.has _ (.inl k)) fun k => I.ok.has _ (.inr k)
  refine wpAny_comprehension_free (use := use) rfl hs (closure_ok fr) bok.kind (fun y hy e => by rw [bok.uniq y hy, e]) (thn (hi.run pn s σ H _ I h) fun xv s1 hx => thn hx fun itv z2 h2 => ?_)
  obtain ⟨it, fp, tn, J, H2, rfl, I2, T, st2, f2, q⟩ := h2
  refine newSet_ok (newEnv_comp ?_)
  generalize eD : z2.heap.objs.size = D
  obtain ⟨W, ⟨m0, w0⟩, turn⟩ := q D (I2.hok.fresh (Nat.le_of_eq eD))
  -- the new set, and the block around
  generalize e3 : ({ z2 with heap := z2.heap.push { cls := .type "set", dict := none, data := .set #[] 0 (.fresh 0 0 (!X.w.params.followText "set-order")) } } : Shared) = z3
  have hz3 : z3.heap = z2.heap.push { cls := .type "set", dict := none, data := .set #[] 0 (.fresh 0 0 (!X.w.params.followText "set-order")) } := by rw [← e3]
  have I3 : Inv X pn σ (upd H2 D (SetIO X.w D (fun _ => false) 0)) z3 := by
    rw [← e3]
    exact I2.laid (t' := z2.toks) (fun b o e => Heap.get?_push_of_some _ e) (Nat.le_of_eq eD) (by rw [← eD]; exact setIO_ok (L2.setR_fresh X.w))
  have f3 : ∀ b ∈ fp, FpOk X pn (upd H2 D (SetIO X.w D (fun _ => false) 0)) b ∧ b < z3.heap.objs.size := fun b hb => by
    obtain ⟨o, e, _⟩ := T.obj _ _ st2 b hb
    have hlt := Heap.lt_size e
    exact ⟨⟨by rw [upd_ne (by rw [← eD]; exact Nat.ne_of_lt hlt)]; exact (f2 b hb).1, (f2 b hb).2⟩, by rw [hz3, Heap.size_push]; exact Nat.lt_succ_of_lt hlt⟩
  have st3 : tn 0 z3.heap := T.keep _ _ _ st2 fun b _ o e => by rw [hz3]; exact Heap.get?_push_of_some _ e
  have I4 := block_start I3 bok hN f3
  generalize eH : upd H2 D (SetIO X.w D (fun _ => false) 0) = H3 at I3 I4 w0 f3
  have pg := hg z3 H3 z3.heap.objs.size (cellsFrom (z3.heap.objs.size + 1) scope.names (cloFrom X.env.cells scope.names [])) fp
  have pt := ht z3 H3 z3.heap.objs.size (cellsFrom (z3.heap.objs.size + 1) scope.names (cloFrom X.env.cells scope.names [])) fp
  have pe := he z3 H3 z3.heap.objs.size (cellsFrom (z3.heap.objs.size + 1) scope.names (cloFrom X.env.cells scope.names [])) fp
  show codeAny _ _ (.compStart (.SetComp elt [⟨tg, iter, ifs, 0⟩] scope pos) 0 (.ref it) (.ref D) (compEnvC scope (cellsFrom (z3.heap.objs.size + 1) scope.names (cloFrom X.env.cells scope.names [])) z3.heap.objs.size X.env)) (compPost (model X.prog X.w) X.A X.xe use Qf (.ref D) z3.heap.objs.size) { z3 with heap := pushCells (z3.heap.push { cls := .type "dict", data := .dict #[] }) scope.names }
  generalize ec : compEnvC scope (cellsFrom (z3.heap.objs.size + 1) scope.names (cloFrom X.env.cells scope.names [])) z3.heap.objs.size X.env = ce at I4 pg pt pe ⊢
  have cL : ce.locals = z3.heap.objs.size := by subst ec; rfl
  generalize e4 : ({ z3 with heap := pushCells (z3.heap.push { cls := .type "dict", data := .dict #[] }) scope.names } : Shared) = z4 at I4 ⊢
  have st4 : tn 0 z4.heap := T.keep _ _ _ st3 fun b _ o e => by rw [← e4]; exact pushCells_keeps _ _ _ _ (Heap.get?_push_of_some _ e)
  have pins : ∀ {σ' : L2.St} {H' : Hp} {s' : Shared}, Inv (X.blk z3 H3 scope ce fp) [] σ' H' s' → (∀ b ∈ fp, H' b = none) → ∀ b ∈ fp, FpOk (X.blk z3 H3 scope ce fp) [] H' b := fun {σ' H' s'} I' hn b hb =>
    ⟨hn b hb, (I'.ok.exf b hb).1, I'.ok.exfs b hb, .inl hb, fun x c e => (I'.ok.exf b hb).2 x c e, fun p hp => by cases (show p ∈ ([] : List (Addr × Obj)) from hp)⟩
  have loop : codeAny (model X.prog X.w) X.A (.compLoop (.SetComp elt [⟨tg, iter, ifs, 0⟩] scope pos) 0 (.ref it) (.ref D) ce) (compPost (model X.prog X.w) X.A X.xe use Qf (.ref D) z3.heap.objs.size) z4 := by
    refine compLoopS_any (fun n s' => ∃ i H', Inv (X.blk z3 H3 scope ce fp) [] (wipe σ (own.map (·.2))) H' s' ∧ tn i s'.heap ∧ (∀ b ∈ fp, H' b = none) ∧ W i n H') ?_ m0 ⟨0, H3, I4, st4, fun b hb => (f3 b hb).1.1, w0⟩
    rintro n z5 ⟨i, H5, I5, st5, n5, w5⟩
    rcases turn i n H5 w5 with ⟨stop, qq⟩ | ⟨go, Nx, hNx, step⟩
    · refine thnF (T.done (X.blk z3 H3 scope ce fp) rfl rfl rfl hc i [] z5 _ H5 (fun _ _ => False) I5 (pins I5 n5) st5 stop) fun r z6 ⟨er, I6⟩ => ?_
      subst er
      have I7 : Inv X pn σ H5 z6 := I3.call' (ch := fp) I6.os I6.base I6.hok I6.bare fun b hb => ⟨(f3 b hb).1.2.2.2.1, (f3 b hb).1.2.1, (f3 b hb).1.2.2.2.2.1, (f3 b hb).1.2.2.2.2.2⟩
      obtain ⟨m, hn, _⟩ := I6.loc
      have hn : z6.heap.Ns ce.locals m := hn
      have nC : H5 ce.locals = none := I6.free
      rw [cL] at hn nC
      exact fin D z3.heap.objs.size z6 m H5 I7 qq hn (I3.fpOk (Nat.le_refl _) nC)
    · refine thnF (T.item (X.blk z3 H3 scope ce fp) rfl rfl rfl hc i [] z5 _ H5 (fun _ _ => False) I5 (pins I5 n5) st5 go) fun r z6 ⟨u, er, h6⟩ => ?_
      subst er
      refine thnF h6 fun _ z7 ⟨x, H7, I7, r7, y7, st7, n7⟩ => ?_
      refine thnF (pg.run _ z7 _ H7 x u _ (I7.pinned (pins I7 n7) (T.obj _ _ st7)) r7 (step x H7 y7)) fun _ z8 ⟨σ8, H8, I8, hw8, q8⟩ => ?_
      refine thnF (pt.run _ z8 σ8 H8 _ I8 q8) fun b z9 ⟨H9, I9, q9⟩ => ?_
      have wend : ∀ {s' : Shared} {H' : Hp}, Inv (X.blk z3 H3 scope ce fp) ([] ++ pinsAt fp z7.heap) σ8 H' s' → Nx H' → ∃ m, m < n ∧ ∃ i H', Inv (X.blk z3 H3 scope ce fp) [] (wipe σ (own.map (·.2))) H' s' ∧ tn i s'.heap ∧ (∀ b ∈ fp, H' b = none) ∧ W i m H' := fun {s' H'} I' nx => by
        obtain ⟨m', hm, w'⟩ := hNx H' nx
        have pk : ∀ b ∈ fp, ∀ o, z7.heap.get? b = some o → s'.heap.get? b = some o ∧ H' b = none := fun b hb o e =>
          let z := I'.pin (b, o) (List.mem_append_right _ (List.mem_append_right _ (mem_pinsAt hb e))); ⟨z.1, z.2.1⟩
        refine ⟨m', hm, i + 1, H', (I'.unpinned (pins := [])).weak (by rw [← hw8, wipe_length]) (fun j v e => ?_), T.keep _ _ _ st7 fun b hb o e => (pk b hb o e).1, fun b hb => ?_, w'⟩
        · rw [← hw8] at e; exact (wipe_some e).1
        · obtain ⟨o, e, _⟩ := T.obj _ _ st7 b hb; exact (pk b hb o e).2
      cases b with
      | false => simp only [Bool.false_eq_true, if_false] at q9 ⊢; exact wend I9 q9
      | true =>
        simp only [if_true] at q9 ⊢
        refine thnF (pe.run _ z9 σ8 H9 _ I9 q9) fun z z10 ⟨yv, H10, I10, r10, cb, S0, n0, ey, hD10, hz10, nx⟩ => ?_
        subst ey
        obtain ⟨tk, rfl⟩ : ∃ tk, z = Value.int cb tk := r10
        exact addI_ok (X := X.blk z3 H3 scope ce fp) I10 hD10 hz10 fun z11 I11 => wend I11 nx
  exact codeAny_compStart_set loop (T.self X.A 0 _ _ _ st4 loop)
theorem pe_scI {pos : Pos} (hc : X.calm = true) (hN : X.N.Nodup) (hi : PI X tg iter wi) (bok : BlkOk X.N X.env.scope scope own)
    (hg : ∀ (s : Shared) (H : Hp) (C : Addr) (cl : List (PySem.Str × Addr)) (fp : List Addr), PG (X.blk s H scope (compEnvC scope cl C X.env) fp) tg g) (ht : ∀ (s : Shared) (H : Hp) (C : Addr) (cl : List (PySem.Str × Addr)) (fp : List Addr), PTs (X.blk s H scope (compEnvC scope cl C X.env) fp) ifs tt)
    (he : ∀ (s : Shared) (H : Hp) (C : Addr) (cl : List (PySem.Str × Addr)) (fp : List Addr), PE (X.blk s H scope (compEnvC scope cl C X.env) fp) elt te) (hs : ∀ x, foldedSetIterable iter X.env x = pure x := by intro _; rfl) :
    PE X (.SetComp elt [⟨tg, iter, ifs, 0⟩] scope pos) (tScI X.w wi g tt te (own.map (·.2))) := ⟨fun pn s σ H Q I h => by
  rw [eval_SetComp]
  refine scI_core hc hN I hi bok hg ht he hs h fun D C s' m H' I' q hn f => ⟨m, hn, fun h'' sb => ?_⟩
  obtain ⟨f0, f1, f2, f3, f4, f5⟩ := f
  exact ⟨.ref D, H', I'.turned (t' := s'.toks) (fun b o hb e => (sb.2 b hb).trans e) f0 f1 f3 f4 f5, rfl, q⟩⟩
end
section
variable {P : Program} {w : World} {A : Around} {E : Value → Shared → Prop} {s : Shared}
theorem set_list {l : Addr} {its : Array Value} (ns : List Int) {Q : Value → Shared → Prop} (hh : A.handled = none) (hl : s.heap.IsList l its) (hit : IntsAre its.toList ns) (hb : ns.length + 1 < scanBound)
    (q : ∀ (h' : Heap) (tk c : Nat), L2.SetR w h' s.heap.objs.size (fun j => decide (j ∈ ns)) c → c ≤ ns.length → (∀ b o, s.heap.get? b = some o → h'.get? b = some o) → Q (.ref s.heap.objs.size) { s with heap := h', toks := tk }) :
    wpAny (model P w) A (call (.type "set") [.ref l]) Q E s := by
  have hsz : its.size = ns.length := by rw [← Array.length_toList]; exact IntsAre.length hit
  obtain ⟨mc, mt, hmro⟩ := F.called_set.mro
  have hmade := F.called_set.made
  have hsb := F.called_set.sub
  have nT := F.called_set.notType
  have cCr := F.called_set.canCreate
  have hct := F.typeCall_set_1 (.ref l)
  refine wpAny_call (codeAny_of_tree ?_)
  show wpAny _ _ (callAny (.type "set") _) _ _ _
  refine wpAny_pure ⟨Code.quiet_builtin _ (by decide +kernel), codeAny_builtin F.entry_type_call ?_⟩
  rw [Around.under_plain (weight_type_call_type "set" [.ref l] []) rfl]
  repeat (any_goals (first | assumption | wp_step))
  refine codeAny_mono (code_set_led1 (.ref l) (E := E) (Q₁ := fun ob z => ob = .ref s.heap.objs.size ∧ z = { s with heap := s.heap.push { cls := .type "set", dict := none, data := .set #[] 0 (.fresh 0 0 (!w.params.followText "set-order")) } }) ⟨rfl, rfl⟩) fun r s₁ hr => ?_
  cases r with
  | error e => exact hr
  | ok fl =>
    cases fl with
    | ret ob =>
      obtain ⟨rfl, rfl⟩ := hr
      have hS : (s.heap.push { cls := .type "set", dict := none, data := .set #[] 0 (.fresh 0 0 (!w.params.followText "set-order")) }).get? s.heap.objs.size = some { cls := .type "set", dict := none, data := .set #[] 0 (.fresh 0 0 (!w.params.followText "set-order")) } := Heap.get?_push_size _ rfl
      have hT : Shared.TypeIs { s with heap := s.heap.push { cls := .type "set", dict := none, data := .set #[] 0 (.fresh 0 0 (!w.params.followText "set-order")) } } (.ref s.heap.objs.size) "set" := ⟨_, hS, rfl⟩
      have lk := F.called_set.init.lookup
      have bd := F.called_set.init.bind (.ref s.heap.objs.size)
      repeat (any_goals (first | assumption | wp_step))
      refine codeAny_mono (codeAny_call_builtin (R := wants (fun r z => r = .none ∧ ∃ h' tk c, z = { s with heap := h', toks := tk } ∧ L2.SetR w h' s.heap.objs.size (fun j => decide (j ∈ ns)) c ∧ c ≤ ns.length ∧ (∀ b o, s.heap.get? b = some o → h'.get? b = some o)) E) F.called_set.init.plain F.entry_set_init (check_set_init_1 hT ?_)) fun r₂ s₂ hr₂ => ?_
      · obtain ⟨⟨oc, od, odt, osl⟩, hol, hcl, nl, hdl⟩ := hl
        simp only at hcl hdl
        subst hcl; subst hdl
        have hol' : (s.heap.push { cls := .type "set", dict := none, data := .set #[] 0 (.fresh 0 0 (!w.params.followText "set-order")) }).get? l = some { cls := .type "list", dict := od, data := .seq its nl, slots := osl } := Heap.get?_push_of_some _ hol
        have s1 := F.sub_list_set
        have s2 := F.sub_list_frozenset
        have ne : (Value.type "list" == Value.type "dict") = false := by decide
        have hl1 : (s.heap.push { cls := .type "set", dict := none, data := .set #[] 0 (.fresh 0 0 (!w.params.followText "set-order")) }).IsList l its := ⟨_, hol', rfl, nl, rfl⟩
        unfold Builtin.«set.__init__» noKeywords Builtin.Frozenset.updateFrom
        generalize hPI : pyIter = PI
        wp_walk
        subst hPI
        refine wpAny_pyIter_list hl1 (wpAny_bind (wpAny_runValue ?_))
        have hlS : l < s.heap.objs.size := Heap.lt_size hol
        have h3 : A.in1.in1.in1.handled = none := by simp [hh]
        have nI : l ≠ (s.heap.push { cls := .type "set", dict := none, data := .set #[] 0 (.fresh 0 0 (!w.params.followText "set-order")) }).objs.size := by rw [Heap.size_push]; exact Nat.ne_of_lt (Nat.lt_succ_of_lt hlS)
        have nS : s.heap.objs.size ∉ [(s.heap.push { cls := .type "set", dict := none, data := .set #[] 0 (.fresh 0 0 (!w.params.followText "set-order")) }).objs.size, l] := by
          rw [Heap.size_push]; simp only [List.mem_cons, List.mem_singleton, List.not_mem_nil, or_false, not_or]; exact ⟨Nat.ne_of_lt (Nat.lt_succ_self _), Nat.ne_of_gt hlS⟩
        have hv : ∀ (i : Nat) (v : Value), its[i]? = some v → ∃ k t, ns[i]? = some k ∧ v = .int k t := fun i v hv => by
          have hi : i < ns.length := by rw [← hsz]; exact (Array.getElem?_eq_some_iff.mp hv).1
          obtain ⟨t, e⟩ := PyProof.Rows.IntsAre.int_at hit i v (by rw [Array.getElem?_toList]; exact hv)
          exact ⟨ns[i], t, List.getElem?_eq_getElem hi, by rw [e, List.getD_eq_getElem?_getD, List.getElem?_eq_getElem hi] <;> rfl⟩
        refine set_update_ints ((Walks.list h3 _ l nI its).toS) s.heap.objs.size nS ns hsz hb hv (its.size - 0) 0 _ (by omega) (Nat.zero_le _) ⟨⟨_, Heap.get?_push_size _ rfl, rfl, rfl⟩, (hl1.push _)⟩ ?h0 ?hR
        case h0 => exact ⟨0, Nat.le_refl 0, setR_new_at (Heap.get?_push_of_some _ hS)⟩
        case hR =>
          intro z c' hm hc' hS'
          obtain ⟨h', g2, d', tk', os'⟩ := z
          have eg : g2 = s.gens := hm.gens
          have ed : d' = s.drawn := hm.drawn
          have eo : os' = s.os := hm.os
          subst eg; subst ed; subst eo
          show wpAny _ _ _ _ _ _
          refine wpAny_pure ?_
          show wpAny _ _ (ret Value.none) _ _ _
          rw [hsz] at hc'
          refine wpAny_pure ⟨rfl, h', tk', c', rfl, hS', hc', fun b o e => ?_⟩
          have hb0 : b < s.heap.objs.size := Heap.lt_size e
          exact hm.heap b o (by rw [Heap.size_push]; simp only [List.mem_cons, List.mem_singleton, List.not_mem_nil, or_false, not_or]; exact ⟨Nat.ne_of_lt hb0, Nat.ne_of_lt (Nat.lt_succ_of_lt hb0)⟩) (Heap.get?_push_of_some _ (Heap.get?_push_of_some _ e))
      · cases r₂ with
        | error e => exact hr₂
        | ok fl₂ =>
          cases fl₂ with
          | ret r =>
            obtain ⟨rfl, h', tk, c', rfl, hS', hc', hk'⟩ := hr₂
            repeat (any_goals (first | assumption | wp_step))
            exact q _ _ _ hS' hc' hk'
          | _ => exact hr₂.elim
    | _ => exact hr.elim
end
def rLenS (w : World) : List V → Hp → VK → Prop := fun xs H Q => ∃ (a : Addr) (S : Int → Bool) (n : Nat), xs = [.ref a] ∧ H a = some (SetIO w a S n) ∧ n < 4000 ∧ Q (.int (n : Nat)) H
def rSetL (K : PySem.W.Frag) (w : World) : List V → Hp → VK → Prop := fun xs H Q => ∃ (a : Addr) (ns : List Int), xs = [.ref a] ∧ (SqL K H a (ns.map V.int) ∨ SqT K H a (ns.map V.int)) ∧ ns.length ≤ 4000 ∧ ∀ (p : Addr), H p = none → Q (.ref p) (upd H p (SetIO w p (fun j => decide (j ∈ ns)) (uniqI ns).length))
section
variable {X : Cx} {K : PySem.W.Frag} {w : World}
theorem k_lenS (h : X.w = w := by rfl) : CallR X (.builtin "len") (rLenS w) := by
  subst h
  rintro pn s σ H xs us Q I r ⟨a, S, n, rfl, ha, hn, q⟩
  obtain ⟨u, rfl, rx⟩ := vals1 r
  cases rx
  obtain ⟨o, es, ep, t, ho, hex, hd, _, _, _, _, hf, rfl, _⟩ := setIO_at I ha
  exact call_len_set ho hex hd hf (by omega) ⟨.int es.size, H, I.tok _, ⟨_, rfl⟩, q⟩
end
section
variable {X : Cx} {elt tg iter : Expr} {ifs : List Expr} {scope : Scope} {own : List (PySem.Str × Nat)} {wi : TI} {g : TG} {tt : TT} {te : TE}
theorem k_scI (w : World) {pos : Pos} (hc : X.calm = true) (hN : X.N.Nodup) (hi : PI X tg iter wi) (bok : BlkOk X.N X.env.scope scope own)
    (hg : ∀ (s : Shared) (H : Hp) (C : Addr) (cl : List (PySem.Str × Addr)) (fp : List Addr), PG (X.blk s H scope (compEnvC scope cl C X.env) fp) tg g) (ht : ∀ (s : Shared) (H : Hp) (C : Addr) (cl : List (PySem.Str × Addr)) (fp : List Addr), PTs (X.blk s H scope (compEnvC scope cl C X.env) fp) ifs tt)
    (he : ∀ (s : Shared) (H : Hp) (C : Addr) (cl : List (PySem.Str × Addr)) (fp : List Addr), PE (X.blk s H scope (compEnvC scope cl C X.env) fp) elt te) (hs : ∀ x, foldedSetIterable iter X.env x = pure x := by intro _; rfl) (h : X.w = w := by rfl) :
    PE X (.SetComp elt [⟨tg, iter, ifs, 0⟩] scope pos) (tScI w wi g tt te (own.map (·.2))) := h ▸ pe_scI hc hN hi bok hg ht he hs
theorem k_enumA (K : PySem.W.Frag) {e : Expr} {ta : TA} {p pos tpos : Pos} {elts : List Expr} {kk : Nat} (hg : Gl X "enumerate") (hm : X.mg "enumerate" = none) (ha : PA X [e] ta) (hs : starEach [e] X.env = [(false, eval e X.env)] := by rfl) (h : X.K = K := by rfl) :
    PI X (.Tuple elts kk tpos) (.Call (.Name "enumerate" p) [e] [] pos) (iEnumA K ta) := h ▸ pi_enumA hg hm ha hs
end
section
open PySem PySem.Spec PyProof.Rows L2
theorem call_sortedDIu {X : Cx} (hcalm : X.calm = true) : CallR X (.builtin "sorted") (fun xs H Q => ∃ (a : Addr) (kvs : List (Key × V)) (ks : List Int), xs = [.ref a] ∧ Rd H a (.dK kvs) ∧ kvs.map (·.1) = ks.map Sum.inl ∧ ks.length < 4000000 ∧
    ∀ (ys : List Int) (p : Addr), ys.Perm ks → ys.Pairwise (· ≤ ·) → H p = none → Q (.ref p) (upd H p (.lst (ys.map V.int)))) := by
  intro pins s σ H xs us Q I r q
  obtain ⟨a, kvs, ks, ex, hd, hks, h64, q⟩ := q
  subst ex
  obtain ⟨u, eu, rx⟩ := vals1 r
  subst eu
  cases rx
  obtain ⟨z, lo, vs, rel, dd⟩ := dk_rd I.hok hd
  obtain ⟨ep, hat⟩ := dd.dictAt
  have hkeys : vs.map (·.1) = ks.map Sum.inl := rel.keys.symm.trans hks
  have hl : vs.length = ks.length := by
    have e := congrArg List.length hkeys
    rw [List.length_map, List.length_map] at e
    exact e
  have h16 : vs.length ≤ sizeLine := by rw [hl, sizeLine_eq]; omega
  refine Calls.call_function_entry PyProof.Rows.kind_sorted PyProof.Rows.plain_sorted PyProof.Rows.entry_sorted (PyProof.Rows.args_sorted1 _) ?_
  unfold Builtin.«sorted»
  refine wpAny_bind (m := checkCount "sorted" 1 1 _) (wpAny_pure ?_)
  refine wpAny_bind (PySem.W.kdu_collect (A := X.A.in1) (PySem.W.kdl_dict (knd := mixKind X.prog X.w) (kvs := vs) (ep := ep) lo) (I.ok.hd hcalm) hat h16 fun h' tk acc hk hacc => ?_)
  have hal : acc.toList.length = ks.length := by rw [Array.length_toList, hacc.1, hl]
  have hS : IntsAre acc.toList ks := ints_each hal fun j v e => by
    obtain ⟨k, x, e1, e2⟩ := hacc.2 j v (by rw [← Array.getElem?_toList]; exact e)
    have e3 : (vs.map (·.1))[j]? = some k := by rw [List.getElem?_map, e1]; rfl
    rw [hkeys, List.getElem?_map] at e3
    cases e4 : ks[j]? with
    | none => rw [e4] at e3; cases e3
    | some y =>
      rw [e4] at e3
      have e5 : Sum.inl y = k := Option.some.inj e3
      subst e5
      rcases keyIs_shape (show keyIs (Sum.inl y) v = true from e2) with ⟨i, t, ek, ev⟩ | ⟨z, t, ek, ev⟩
      · cases ek
        exact ⟨y, t, rfl, ev⟩
      · cases ek
  have I1 : Inv X pins σ H { s with heap := h', toks := tk } := I.kept hk
  refine wpAny_bind (wpAny_newList ?_ (by rw [hal, sizeLine_eq]; omega))
  have hoL : (h'.push (seqObj "list" acc.toList.toArray 0)).get? h'.objs.size = some (seqObj "list" acc.toList.toArray 0) := Heap.get?_push_size _ rfl
  show wpAny _ _ _ _ _ { s with heap := h'.push (seqObj "list" acc.toList.toArray 0), toks := tk }
  refine wpAny_bind (wpAny_holding (wpAny_call_entry PyProof.Rows.slot_list_sort ⟨_, hoL, rfl⟩ PyProof.Rows.entry_list_sort
    (SrtO.list_sort_ord (s := { s with heap := h'.push (seqObj "list" acc.toList.toArray 0), toks := tk }) SrtO.swo_int hoL (by rw [hal, sizeLine_eq]; omega) (fun h2 => SrtO.ints_sortable hS h2) fun out h1 h2 => ⟨_, rfl, ?_⟩) (PyProof.Rows.args_list_sort _)))
  obtain ⟨g1, g2, g3⟩ := SrtO.ints_out hS h1 h2
  obtain ⟨e', he'⟩ := PyProof.Rows.sortedHeap_at (vs := acc.toList) (out := out.toArray) hoL
  have hlen : ((out.map SrtO.iv).map V.int).length ≤ sizeLine := by
    rw [List.length_map, g2.length_eq, sizeLine_eq]
    omega
  refine wpAny_pure ⟨_, rfl, .ref h'.objs.size, upd H h'.objs.size (.lst ((out.map SrtO.iv).map V.int)), I1.laid (t' := tk) (fun b u e => ?_) (Nat.le_refl _)
    (show ObjOk X.prog X.w _ _ _ (.lst ((out.map SrtO.iv).map V.int)) from ⟨hlen, out, e', vals_of_ints g1, he'⟩), rfl, q _ _ g2 g3 (I1.hok.fresh (Nat.le_refl _))⟩
  have hb : b < h'.objs.size := Heap.lt_size e
  rw [PyProof.Rows.sortedHeap_old (Nat.ne_of_lt hb) (by rw [PyProof.Rows.size_push']; exact Nat.lt_succ_of_lt hb)]
  exact Heap.get?_push_of_some _ e
end
end Dz

namespace Dz
open PySem PySem.Spec PySem.SeqAt PyProof.Rows L2 RZ LamX
def DnO (P : Program) (w : World) (a : Addr) (xs : List (NestedKey × Addr × Value)) : HO :=
  .ext fun h => (a == sysModules) = false ∧ xs.length ≤ sizeLine ∧ ∃ o es ep, h.get? a = some o ∧ o.ExactDict ∧ o.data = .dict es ep ∧ es.toList = xs.map (entryOfKey (nestedKind P w)) ∧ (xs.map (·.1)).Nodup
def Nk (K : Kx) (S : Hp) (b : Addr) (k : NestedKey) : Prop := k.depth ≤ 8 ∧ Dp K S (.ref b) k.data
def KnD (K : Kx) (S : Hp) : List (NestedKey × Addr × Value) → List (NestedKey × PyData) → Prop := Paired fun q p => q.1 = p.1 ∧ Nk K S q.2.1 q.1 ∧ ∃ v, RelV v q.2.2 ∧ Dp K S v p.2
section
variable {K : Kx} {S S1 H : Hp} {xs : List (NestedKey × Addr × Value)} {kvs : List (NestedKey × PyData)} {k : NestedKey} {a b : Addr}
theorem Nk.mono (h : Nk K S b k) (e : Same S S1) : Nk K S1 b k := ⟨h.1, Dp_mono h.2 e⟩
theorem KnD.mono (h : KnD K S xs kvs) (e : Same S S1) : KnD K S1 xs kvs := Paired.mapP h fun _ _ q => ⟨q.1, q.2.1.mono e, let ⟨v, r, d⟩ := q.2.2; ⟨v, r, Dp_mono d e⟩⟩
theorem KnD.len (h : KnD K S xs kvs) : xs.length = kvs.length := by
  induction h with
  | nil => rfl
  | cons _ _ ih => simp [ih]
theorem KnD.val (h : KnD K S xs kvs) : (∀ d, valG kvs k = some d → ∃ b u v, atKey xs k = some (b, u) ∧ RelV v u ∧ Dp K S v d) ∧ (valG kvs k = none → atKey xs k = none) := by
  induction h with
  | nil => exact ⟨fun d z => (by cases z), fun _ => rfl⟩
  | @cons q p xs kvs hq _ ih =>
    obtain ⟨e, _, v, r, hd⟩ := hq
    unfold valG atKey at *
    rw [List.find?_cons, List.find?_cons, e]
    by_cases hk : p.1 = k
    · rw [decide_eq_true hk]
      refine ⟨fun d z => ?_, fun z => ?_⟩
      · cases z
        exact ⟨q.2.1, q.2.2, v, rfl, r, hd⟩
      · cases z
    · rw [decide_eq_false hk]
      exact ih
theorem KnD.put {d : PyData} {v : V} {u : Value} (h : KnD K S xs kvs) (hk : Nk K S b k) (r : RelV v u) (hd : Dp K S v d) : KnD K S (storedH xs k b u) (putG kvs k d) := by
  have ha : (atKey xs k).isSome = kvs.any fun kv => decide (kv.1 = k) := by
    clear hk r hd
    induction h with
    | nil => rfl
    | @cons q p xs kvs hq _ ih =>
      unfold atKey at *
      rw [List.find?_cons, List.any_cons, hq.1]
      by_cases hk : p.1 = k
      · rw [decide_eq_true hk]; rfl
      · rw [decide_eq_false hk, Bool.false_or]; exact ih
  unfold storedH putG
  rw [ha]
  split
  · clear ha
    rename_i z
    clear z
    induction h with
    | nil => exact .nil
    | @cons q p xs kvs hq _ ih =>
      refine .cons ?_ ih
      show (putAt k u q).1 = (if p.1 = k then (p.1, d) else p).1 ∧ Nk K S (putAt k u q).2.1 (putAt k u q).1 ∧ ∃ v, RelV v (putAt k u q).2.2 ∧ Dp K S v (if p.1 = k then (p.1, d) else p).2
      have e1 : putAt k u q = if p.1 = k then (q.1, q.2.1, u) else q := by unfold putAt; rw [hq.1]
      by_cases e : p.1 = k
      · rw [e1, if_pos e, if_pos e]
        exact ⟨hq.1, hq.2.1, v, r, hd⟩
      · rw [e1, if_neg e, if_neg e]; exact hq
  · clear ha
    induction h with
    | nil => exact .cons ⟨rfl, hk, v, r, hd⟩ .nil
    | cons hq _ ih =>
      refine .cons hq (ih ?_)
      rename_i z
      intro z2
      refine z ?_
      rw [List.any_cons, z2, Bool.or_true]
end
section
variable {X : Cx} {K : Kx} {pins : List (Addr × Obj)} {σ : L2.St} {H S : Hp} {s : Shared}
mutual
theorem nest_of {h : Heap} : ∀ (k : NestedKey) (u : Value) (as : List Addr), Reads h u k.data as → NestedIs h k u
  | .none, u, as, r => by
    unfold NestedKey.data at r
    cases r
    exact .none
  | .num i, u, as, r => by
    unfold NestedKey.data at r
    cases r
    exact .int _ _
  | .text x, u, as, r => by
    unfold NestedKey.data at r
    cases r
    exact .text _ _
  | .tup ks, u, as, r => by
    unfold NestedKey.data at r
    cases r with
    | tuple h1 h2 h3 h4 => exact .tup h1 h2 h3 (nest_all ks _ _ h4)
theorem nest_all {h : Heap} : ∀ (ks : List NestedKey) (us : List Value) (as : List Addr), ReadsAll h us (NestedKey.datas ks) as → NestedAll h ks us
  | [], us, as, r => by
    unfold NestedKey.datas at r
    cases r
    exact .nil
  | k :: ks, us, as, r => by
    unfold NestedKey.datas at r
    cases r with
    | cons r1 r2 => exact .cons (nest_of k _ _ r1) (nest_all ks _ _ r2)
end
theorem Nk.is {k : NestedKey} {b : Addr} (hX : CxK K X) (I : Inv X pins σ H s) (hs : Same S H) (h : Nk K S b k) : (nestedKind X.prog X.w).is s.heap k b := by
  have hd : Dp X.K H (.ref b) k.data := by rw [hX.k]; exact Dp_mono h.2 hs
  obtain ⟨as, r⟩ := Dp.reads I _ _ (.ref b) hd rfl
  exact ⟨nest_of k _ as r, h.1⟩
theorem dn_of {a : Addr} {xs : List (NestedKey × Addr × Value)} {kvs : List (NestedKey × PyData)} (hX : CxK K X) (I : Inv X pins σ H s) (hs : Same S H) (e : H a = some (DnO K.P K.w a xs)) (h : KnD K S xs kvs) : (a == sysModules) = false ∧ xs.length ≤ sizeLine ∧ s.heap.DictOfH (nestedKind X.prog X.w) a xs := by
  obtain ⟨⟨h1, h2, o, es, ep, h3, h4, h5, h6, h7⟩, _, _⟩ := I.hok a _ e
  rw [hX.p, hX.w]
  refine ⟨h1, h2, o, es, ep, h3, h4, h5, h6, fun x hx => ?_, h7⟩
  have key : ∀ {xs : List (NestedKey × Addr × Value)} {kvs : List (NestedKey × PyData)}, KnD K S xs kvs → ∀ x ∈ xs, Nk K S x.2.1 x.1 := by
    intro xs kvs h
    induction h with
    | nil => intro x hx; cases hx
    | cons hq _ ih =>
      intro x hx
      rcases List.mem_cons.mp hx with rfl | hx
      · exact hq.2.1
      · exact ih x hx
  have := (key h x hx).is hX I hs
  rw [hX.p, hX.w] at this
  exact this
theorem dn_ok {P : Program} {w : World} {H : Hp} {h : Heap} {a : Addr} {xs : List (NestedKey × Addr × Value)} (h1 : (a == sysModules) = false) (h2 : xs.length ≤ sizeLine) (dd : h.DictOfH (nestedKind P w) a xs) : ObjOk P w H h a (DnO P w a xs) := by
  obtain ⟨o, es, ep, h3, h4, h5, h6, _, h7⟩ := dd
  exact ⟨⟨h1, h2, o, es, ep, h3, h4, h5, h6, h7⟩, ⟨o, h3⟩, fun g1 g2 ⟨q1, q2, o, es, ep, q3, q⟩ st => ⟨q1, q2, o, es, ep, st _ q3, q⟩⟩
def tNGet (K : Kx) (td ty : TE) : TE := fun σ H Q => td σ H fun x H1 => ty σ H1 fun y H2 => ∃ a b S xs kvs k d, x = .ref a ∧ y = .ref b ∧ Same S H2 ∧ H2 a = some (DnO K.P K.w a xs) ∧ KnD K S xs kvs ∧ Nk K S b k ∧ valG kvs k = some d ∧ ∀ v, Dp K S v d → Q v H2
def tNIn (K : Kx) (neg : Bool) (ty td : TE) : TE := fun σ H Q => ty σ H fun y H1 => td σ H1 fun x H2 => ∃ a b S xs kvs k, x = .ref a ∧ y = .ref b ∧ Same S H2 ∧ H2 a = some (DnO K.P K.w a xs) ∧ KnD K S xs kvs ∧ Nk K S b k ∧ Q (.bl (if neg = true then !(valG kvs k).isSome else (valG kvs k).isSome)) H2
def sNPut (K : Kx) (td ty tv : TE) : TS := fun D σ H => tv σ H fun v H1 => td σ H1 fun x H2 => ty σ H2 fun y H3 => ∃ a b S xs kvs k d, x = .ref a ∧ y = .ref b ∧ Same S H3 ∧ H3 a = some (DnO K.P K.w a xs) ∧ KnD K S xs kvs ∧ Nk K S b k ∧ Dp K S v d ∧ kvs.length < 4000000 ∧ ∀ xs', KnD K S xs' (putG kvs k d) → D.nx σ (upd H3 a (DnO K.P K.w a xs'))
variable {o i e value : Expr} {pos pos' tpos : Pos} {td ty tv : TE}
theorem room_n {A : Around} (hu : A.units + 65 < cLine) : A.in1.units + 8 < cLine := by
  have : A.in1.units = A.units + 1 := rfl
  omega
theorem pe_nget (hX : CxK K X) (hu : X.A.units + 65 < cLine) (ho : PE X o td) (hi : PE X i ty) (hs : NoSl i) : PE X (.Subscript o i pos) (tNGet K td ty) := by
  refine ⟨fun pins s σ H Q I h => ?_⟩
  refine subD_of PySem.F.slot_dict_getitem.lookup hs (thn (ho.run pins s σ H _ I h) fun u s1 ⟨x, H1, I1, rx, q1⟩ => thn (hi.run pins s1 σ H1 _ I1 q1) fun iv s2 ⟨y, H2, I2, ry, a, b, S, xs, kvs, k, d, ex, ey, hS, hH, hk, hn, hv, q2⟩ => ?_)
  subst ex ey
  obtain rfl : u = Value.ref a := rx
  obtain rfl : iv = Value.ref b := ry
  obtain ⟨_, _, dd⟩ := dn_of hX I2 hS hH hk
  obtain ⟨b', u', v, e1, e2, e3⟩ := hk.val.1 d hv
  exact ⟨dd.typeIs, wpAny_getItem_heap (room_n hu) (hn.is hX I2 hS) dd e1 ⟨v, H2, I2.tok _, e2, q2 v e3⟩⟩
theorem pc_nnotin (hX : CxK K X) (hu : X.A.units + 65 < cLine) (hi : PE X i ty) (ho : PE X o td) : PC X .NotIn i o (tNIn K true ty td) := by
  refine ⟨fun pins s σ H Q I h => ?_⟩
  refine thn (hi.run pins s σ H _ I h) fun iv s1 ⟨y, H1, I1, ry, q1⟩ => thn (ho.run pins s1 σ H1 _ I1 q1) fun u s2 ⟨x, H2, I2, rx, a, b, S, xs, kvs, k, ex, ey, hS, hH, hk, hn, q2⟩ => ?_
  subst ex ey
  obtain rfl : u = Value.ref a := rx
  obtain rfl : iv = Value.ref b := ry
  obtain ⟨hd, _, dd⟩ := dn_of hX I2 hS hH hk
  refine wpAny_notIn_heap (room_n hu) (hn.is hX I2 hS) hd dd ⟨.bl (!(valG kvs k).isSome), H2, I2.tok _, ?_, q2⟩
  cases hv : valG kvs k with
  | none => rw [hk.val.2 hv]; rfl
  | some d => obtain ⟨_, _, _, e1, _⟩ := hk.val.1 d hv; rw [e1]; rfl
theorem ps_nput (hX : CxK K X) (hu : X.A.units + 65 < cLine) (ho : PE X o td) (hi : PE X i ty) (hv : PE X value tv) (hs : swapsWith value (some (.Subscript o i pos')) pos.line X.env = pure false) :
    PS X (.Assign [.Subscript o i pos'] value pos) (sNPut K td ty tv) := by
  refine ⟨fun pins s σ H D I h => ?_⟩
  refine wpAny_Assign_Subscript (thn (hv.run pins s σ H _ I h) fun r s1 ⟨v, H1, I1, rv, q1⟩ => thn (ho.run pins s1 σ H1 _ I1 q1) fun u s2 ⟨x, H2, I2, rx, q2⟩ => thn (hi.run pins s2 σ H2 _ I2 q2) fun iv s3 ⟨y, H3, I3, ry, a, b, S, xs, kvs, k, d, ex, ey, hS, hH, hk, hn, hd, hz, q3⟩ => ?_) hs
  subst ex ey
  obtain rfl : u = Value.ref a := rx
  obtain rfl : iv = Value.ref b := ry
  obtain ⟨hm, hl, dd⟩ := dn_of hX I3 hS hH hk
  refine wpAny_setItem_heap (hsz := hl) (room_n hu) (hn.is hX I3 hS) dd fun h' dd' hsb => ?_
  have hl2 : (storedH xs k b r).length ≤ sizeLine := by
    have h1 := (hk.put hn rv hd).len
    have h2 : (putG kvs k d).length ≤ kvs.length + 1 := by
      unfold putG
      split
      · rw [List.length_map]; omega
      · rw [List.length_append]; exact Nat.le_refl _
    rw [sizeLine_eq]
    omega
  refine ⟨σ, _, ?_, q3 _ (hk.put hn rv hd)⟩
  have he : ∃ q, h'.get? a = some q := let ⟨q, _, _, hq, _⟩ := dd'; ⟨q, hq⟩
  refine d_write I3 (by rw [hH]; exact True.intro) hsb he ?_
  rw [← hX.p, ← hX.w]
  exact dn_ok hm hl2 dd'
end
end Dz

namespace Dz
open PySem PySem.Spec PySem.SeqAt PyProof.Rows L2 RZ LamX
section
variable {X : Cx} {o e : Expr} {f : Str} {pos p apos cpos : Pos} {to te : TE}
end
end Dz

namespace Dz
open PySem PySem.Spec PySem.SeqAt PyProof.Rows L2 RZ LamX
def tNDisp (K : Kx) (tk tv : TE) : TE := fun σ H Q => ∀ p, H p = none → tk σ (upd H p (DnO K.P K.w p [])) fun y H1 => tv σ H1 fun v H2 => H2 p = some (DnO K.P K.w p []) ∧ ∃ b S k d, y = .ref b ∧ Same S H2 ∧ Nk K S b k ∧ Dp K S v d ∧ ∀ xs, KnD K S xs [(k, d)] → Q (.ref p) (upd H2 p (DnO K.P K.w p xs))
theorem pe_ndisp {K : Kx} {X : Cx} {ke ve : Expr} {tk tv : TE} {pos : Pos} (hX : CxK K X) (hu : X.A.units + 65 < cLine) (hk : PE X ke tk) (hv : PE X ve tv) : PE X (.Dict [some ke] [ve] pos) (tNDisp K tk tv) := by
  refine ⟨fun pins s σ H Q I h => ?_⟩
  have hn := I.hok.fresh (Nat.le_refl s.heap.objs.size)
  have hok : ObjOk X.prog X.w (upd H s.heap.objs.size (DnO K.P K.w s.heap.objs.size [])) (s.heap.push { cls := .type "dict", data := .dict #[] }) s.heap.objs.size (DnO K.P K.w s.heap.objs.size []) := by
    rw [← hX.p, ← hX.w]
    exact dn_ok (beq_eq_false_iff_ne.mpr (Ne.symm (Nat.ne_of_lt I.big))) (Nat.zero_le _) (Heap.DictOfH.new _)
  have I1 := I.laid (a := s.heap.objs.size) (o := DnO K.P K.w s.heap.objs.size []) (h' := s.heap.push { cls := .type "dict", data := .dict #[] }) (t' := s.toks) (fun _ _ q => Heap.get?_push_of_some _ q) (Nat.le_refl _) hok
  refine wpAny_Dict_any rfl rfl (by simp) (show 1 ≤ 15 by decide) (pairTrees_cons_walk (thn (hk.run pins _ σ _ _ I1 (h _ hn)) fun u s1 ⟨y, H1, I1', ry, q1⟩ => thn (hv.run pins s1 σ H1 _ I1' q1) fun u2 s2 ⟨v, H2, I2, rv, e, b, S, k, d, ey, hS, hnk, hd, q2⟩ => pairTrees_nil_walk ?_))
  subst ey
  obtain rfl : u = Value.ref b := ry
  have hnil : KnD K S [] [] := .nil
  obtain ⟨hm, hl, dd⟩ := dn_of hX I2 hS e hnil
  unfold storeAll
  rw [List.forIn_cons]
  refine wpAny_bind (wpAny_bind (wpAny_dictSet_heap (hsz := Nat.zero_le _) (show X.A.units + 8 < cLine by omega) (hnk.is hX I2 hS) dd fun h' dd' hs' => wpAny_pure ?_))
  dsimp only
  rw [List.forIn_nil]
  refine wpAny_pure ?_
  have hk2 : KnD K S (storedH [] k b u2) (putG [] k d) := hnil.put hnk rv hd
  refine ⟨.ref s.heap.objs.size, _, ?_, rfl, q2 _ hk2⟩
  have he : ∃ q, h'.get? s.heap.objs.size = some q := let ⟨q, _, _, hq, _⟩ := dd'; ⟨q, hq⟩
  refine d_write I2 (by rw [e]; exact True.intro) hs' he ?_
  rw [← hX.p, ← hX.w]
  exact dn_ok hm (by have := hk2.len; rw [this, sizeLine_eq]; show 1 ≤ _; omega) dd'
end Dz

namespace L2
open PySem PySem.Spec PyProof.Rows
end L2

namespace Dz
open PySem PySem.Spec PySem.SeqAt PySem.W PyProof.Rows L2 RZ
section
variable {X : Cx}
def rSortD (K : PySem.W.Frag) : List V → Hp → VK → Prop := fun vs H Q => ∃ (a : Addr) (xs : List V) (ds : List PyData) (S : Hp), vs = [V.ref a] ∧ (SqL K H a xs ∨ SqT K H a xs) ∧ Same S H ∧ DpAll K S xs ds ∧ AllAlike ds ∧ Sortable ds ∧ (∀ d ∈ ds, d.depth ≤ 60) ∧
  ∀ (ys : List V) (p : Addr), DpAll K S ys (ds.mergeSort (dataLe false id)) → H p = none → Q (.ref p) (upd H p (.lst ys))
def SrtR (K : PySem.W.Frag) (S : Hp) (v : Value) (d : PyData) : Prop := ∃ x, RelV x v ∧ Dp K S x d
theorem srt_each {K : PySem.W.Frag} {S : Hp} : ∀ {xs : List V} {its : List Value} {ds : List PyData}, Vals xs its → DpAll K S xs ds → EachIs (SrtR K S) its ds
  | _, _, _, .nil, .nil => .nil
  | _, _, _, .cons h t, .cons d e => .cons ⟨_, h, d⟩ (srt_each t e)
theorem srt_back {K : PySem.W.Frag} {S : Hp} : ∀ {its : List Value} {ds : List PyData}, EachIs (SrtR K S) its ds → ∃ xs, Vals xs its ∧ DpAll K S xs ds
  | _, _, .nil => ⟨[], .nil, .nil⟩
  | _, _, .cons ⟨x, h, d⟩ t => by
    obtain ⟨xs, h1, h2⟩ := srt_back t
    exact ⟨x :: xs, .cons h h1, .cons d h2⟩
theorem srt_reads {h h' : Heap} (k : ∀ b o, h.get? b = some o → h'.get? b = some o) : ∀ {its : List Value} {ds : List PyData} {as : List Addr}, ReadsAll h its ds as → EachIs (fun v d => ∃ as, Reads h' v (id d) as) its ds
  | _, _, _, .nil => .nil
  | _, _, _, .cons r t => .cons ⟨_, PyProof.Rows.Reads.keeps k r⟩ (srt_reads k t)
theorem cr_sortD (hu : X.A.units + 65 < cLine) : CallR X (.builtin "sorted") (rSortD X.K) := by
  intro pins s σ H vs us Q I r h
  obtain ⟨a, xs, ds, S, rfl, hl, hS, hd, hal, hso, hdp, q⟩ := h
  obtain ⟨u, rfl, ru⟩ := vals1 r
  obtain rfl : u = Value.ref a := ru
  obtain ⟨its, T, o, n, rv, hT, ho, hc, hdat, hz⟩ : ∃ (its : List Value) (T : String) (o : Obj) (n : Nat), Vals xs its ∧ (T = "list" ∨ T = "tuple") ∧ s.heap.get? a = some o ∧ o.cls = .type T ∧ o.data = .seq its.toArray n ∧ xs.length ≤ sizeLine := by
    rcases hl with hl | hl
    · obtain ⟨its, rv, ⟨o, n, e1, e2, _, e3⟩, hz⟩ := I.list hl
      exact ⟨its, "list", o, n, rv, .inl rfl, e1, e2, e3, hz⟩
    · obtain ⟨its, rv, ⟨o, e1, e2, n, e3⟩, hz⟩ := I.tuple hl
      exact ⟨its, "tuple", o, n, rv, .inr rfl, e1, e2, e3, hz⟩
  have hlen : its.length = xs.length := rv.length.symm
  obtain ⟨as, hrd⟩ := Dp.readsAll I ds _ its (DpAll_mono hd hS) rv
  have e := srt_each rv hd
  have hmap : ds.map id = ds := List.map_id _
  refine sorted_seq hT ho hc hdat (by rw [hlen]; exact hz) (args_sorted1 _) (fun _ => args_list_sort _) fun h1 D E' hk hD1 hD2 hD => ?_
  have kp : ∀ b o, s.heap.get? b = some o → (sortingHeap h1 D its).get? b = some o := fun b o e => sortingHeap_old (Nat.ne_of_lt (Nat.lt_of_lt_of_le (Heap.lt_size e) hD1)) (hk b o e)
  have er := srt_reads kp hrd
  refine list_sort_vals (κ := dataKind (sortingHeap h1 D its) (ds.map id)) hD (SortsAt.data (s := { s with heap := sortingHeap h1 D its }) (each_map (R := fun v d => ∃ as, Reads (sortingHeap h1 D its) v d as) id er) (by rw [hmap]; exact hal) (by rw [hmap]; exact hso) fun d hdm => ?_) (by rw [hlen]; exact hz) ⟨rfl, ?_⟩
  · rw [hmap] at hdm
    have := hdp d hdm
    have h3 : X.A.in1.in1.units ≤ X.A.units + 2 := by
      show X.A.units + 1 + 1 ≤ _
      omega
    omega
  · have eo := sortVals_data (R := SrtR X.K S) (enc := id) false e er (by rw [hmap]; exact hal)
    generalize hout : sortVals (dataKind (sortingHeap h1 D its) (ds.map id)) false its its = out at eo
    obtain ⟨ys, hy1, hy2⟩ := srt_back eo
    have hol : out.length = its.length := by rw [← hout]; exact sortVals_length false rfl
    refine ⟨.ref D, upd H D (.lst ys), I.laid (t' := s.toks) (fun b o e => ?_) hD1 ⟨?_, out, ?_⟩, rfl, q ys D hy2 (I.hok.fresh hD1)⟩
    · rw [sortedHeap_old (Nat.ne_of_lt (Nat.lt_of_lt_of_le (Heap.lt_size e) hD1)) (Nat.lt_of_lt_of_le (Heap.lt_size (hk b o e)) (Nat.le_refl _))]
      exact hk b o e
    · rw [hy1.length, hol, hlen]
      exact hz
    · obtain ⟨n', hn⟩ : ∃ n', (sortedHeap h1 D its out.toArray).get? D = some (seqObj "list" out.toArray n') := by
        exact sortedHeap_at hD
      exact ⟨n', hy1, hn⟩
end
theorem k_sortD {X : Cx} (K : PySem.W.Frag) (hu : X.A.units + 65 < cLine) (h : X.K = K := by rfl) : CallR X (.builtin "sorted") (rSortD K) := h ▸ cr_sortD hu
end Dz

namespace Dz
open PySem PySem.Spec PySem.SeqAt PySem.W PyProof.Rows L2 RZ
section
variable {X : Cx}
end
end Dz

namespace L2
open PySem PySem.Spec PyProof.Rows
section
variable {X : Cx}
variable {o e : Expr} {es : List Expr} {to : TE} {t : TA} {name : Str} {apos cpos : Pos} {id : String} {r : V → List V → Hp → VK → Prop}
end
end L2

namespace Dz
open PySem PySem.Spec PySem.SeqAt PySem.W PyProof.Rows L2 RZ
section
variable {X : Cx}
end
end Dz

namespace Dz
open PySem PySem.Spec PySem.SeqAt PySem.W PyProof.Rows L2 RZ LamX
section
variable {X : Cx} {T : String} {name : Str} {id : String} {r : V → List V → Hp → VK → Prop} {o e : Expr} {es : List Expr} {apos cpos : Pos} {to : TE} {t : TA}
end
end Dz

namespace Dz
open PySem PySem.Spec PySem.SeqAt PySem.W PyProof.Rows L2 RZ LamX
def tGl (mg : Str → Option Value) (n : Str) : TE := fun _ H Q => ∀ f, mg n = some (.ref f) → Q (.ref f) H
section
variable {X : Cx} {k : Nat} {x n1 n2 : Str} {ps ps1 ps2 : List Str} {sp sp1 sp2 : Sp}
theorem pe_gl {p : Pos} (κ : Kx) (hX : CxK κ X) (c : Cal X.prog X.w X.K X.mg X.base k x ps sp) (hg : Gl X x := by rfl) (hdb : (x == ("__debug__" : Str)) = false := by decide) : PE X (.Name x p) (tGl κ.mg x) := by
  obtain ⟨f, fd, F, hm, hk, hb⟩ := c.ex
  refine ⟨fun pins s σ H Q I h => ld_glob I hg hm ⟨.ref f, H, I, rfl, h f ?_⟩ hdb⟩
  rw [← hX.m]; exact hm
end
end Dz

namespace Dz
open PySem PySem.Spec PySem.SeqAt PyProof.Rows L2 RZ HT
section
variable {prog : Program} {w : World} {A : Around} {E : Value → Shared → Prop} {s : Shared}
end
end Dz

namespace Dz
open PySem PySem.Spec PySem.SeqAt PySem.W PyProof.Rows L2 RZ
section
variable {X : Cx}
end
section
variable {X : Cx} {e : Expr} {f : Str} {ta : TE} {pos : Pos}
end
end Dz

namespace Dz
open PySem PySem.Spec PySem.SeqAt PySem.W PyProof.Rows L2 RZ LamX
section
variable {X : Cx} {K : Kx} {pins : List (Addr × Obj)} {σ : L2.St} {H S : Hp} {s : Shared}
end
end Dz

namespace Dz
open PySem PySem.Spec PySem.SeqAt PySem.W PyProof.Rows L2 RZ
section
variable {X : Cx}
end
end Dz

namespace Dz
open PySem PySem.Spec PySem.SeqAt PySem.W PyProof.Rows L2 RZ
section
variable {X : Cx}
end
end Dz

namespace Dz
open PySem PySem.Spec PySem.SeqAt PyProof.Rows L2 RZ LamX NdefX
theorem cellsFrom_app : ∀ (ns : List (Str × NameKind)) (n : Nat) (acc : List (Str × Addr)), cellsFrom n ns acc = cellsFrom n ns [] ++ acc
  | [], _, _ => rfl
  | (x, k) :: r, n, acc => by
    unfold cellsFrom
    split
    · rw [cellsFrom_app r (n + 1) ((x, n) :: acc), cellsFrom_app r (n + 1) [(x, n)], List.append_assoc]
      rfl
    · exact cellsFrom_app r n acc
section
variable {M : Model} {A : Around} {E : Value → Shared → Prop} {s₀ s : Shared} {m cm : Str → Option Value} {env : PySem.Env} {own : List (Str × Addr)}
theorem stLM {n : Str} {v : Value} {Q : Unit → Shared → Prop} (x : InCallC s₀ env.locals m own cm s) (hk : env.scope.kind = .function) (hl : env.kindOf n = some .local)
    (h : ∀ s', InCallC s₀ env.locals (fun y => if y = n then some v else m y) own cm s' → Q () s') : wpAny M A (storeName env n v) Q E s := by
  refine wpAny_storeName_local hl x.toInCall.ns (fun h' hn' hs' => h _ ⟨⟨?_, hn', fun b o e => ?_, x.toInCall.fresh⟩, fun k c hc => ?_, x.apart, x.above⟩) (by rw [hk]; rfl)
  · obtain ⟨h₁, tk, rfl⟩ := x.toInCall.same
    exact ⟨h', _, rfl⟩
  · exact hs'.extBut b o (Nat.ne_of_lt (Nat.lt_of_lt_of_le (Heap.lt_size e) x.toInCall.fresh)) (x.toInCall.keep b o e)
  · exact (x.cell k c hc).sameBut hs' (Nat.ne_of_gt (x.above k c (PySem.mem_of_lookup hc)))
theorem stCM {n : Str} {c : Addr} {v : Value} {Q : Unit → Shared → Prop} (x : InCallC s₀ env.locals m own cm s) (hk : env.scope.kind = .function) (hl : env.kindOf n = some .cell)
    (hc : own.lookup n = some c) (he : env.cells.lookup n = some c)
    (h : ∀ s', InCallC s₀ env.locals m own (fun y => if y = n then some v else cm y) s' → Q () s') : wpAny M A (storeName env n v) Q E s := by
  have hLc := x.above n c (PySem.mem_of_lookup hc)
  refine wpAny_storeName_cell hk hl he (x.cell n c hc) fun h' hc' hs' => h _ ⟨⟨?_, x.toInCall.ns.sameBut hs' (Nat.ne_of_lt hLc), fun b o e => ?_, x.toInCall.fresh⟩, fun k c' hk' => ?_, x.apart, x.above⟩
  · obtain ⟨h₁, tk, rfl⟩ := x.toInCall.same
    exact ⟨h', _, rfl⟩
  · exact hs'.extBut b o (Nat.ne_of_lt (Nat.lt_trans (Nat.lt_of_lt_of_le (Heap.lt_size e) x.toInCall.fresh) hLc)) (x.toInCall.keep b o e)
  · by_cases hkn : k = n
    · subst hkn
      rw [hc] at hk'; cases hk'
      simpa using hc'
    · rw [if_neg hkn]
      exact (x.cell k c' hk').sameBut hs' fun e => hkn (PySem.name_of_addr x.apart (PySem.mem_of_lookup hk') (e ▸ PySem.mem_of_lookup hc))
theorem bindM (f : Str × Value → PUnit → Sem (ForInStep PUnit)) (hf : ∀ n v u, f (n, v) u = (do storeName env n v; pure (.yield ⟨⟩))) (hk : env.scope.kind = .function) (hoe : ∀ n c, own.lookup n = some c → env.cells.lookup n = some c) :
    ∀ (binds : List (Str × Value)) (m cm : Str → Option Value) (s : Shared) (Q : PUnit → Shared → Prop), InCallC s₀ env.locals m own cm s →
      (∀ x ∈ binds, env.kindOf x.1 = some .local ∨ (env.kindOf x.1 = some .cell ∧ (own.lookup x.1).isSome = true)) →
      (∀ s', InCallC s₀ env.locals (bindL env.kindOf binds m) own (bindC env.kindOf binds cm) s' → Q ⟨⟩ s') → wpAny M A (forIn binds ⟨⟩ f) Q E s
  | [], m, cm, s, Q, x, _, h => by rw [List.forIn_nil]; exact wpAny_pure (h s x)
  | (n, v) :: r, m, cm, s, Q, x, hkind, h => by
    rw [List.forIn_cons, hf]
    have hr : ∀ y ∈ r, env.kindOf y.1 = some .local ∨ (env.kindOf y.1 = some .cell ∧ (own.lookup y.1).isSome = true) := fun y hy => hkind y (List.mem_cons_of_mem _ hy)
    rcases hkind (n, v) List.mem_cons_self with hl | ⟨hl, hc⟩
    · refine wpAny_bind (wpAny_bind (stLM x hk hl fun s' x' => wpAny_pure (bindM f hf hk hoe r _ _ s' Q x' hr fun s'' x'' => h s'' ?_)))
      unfold bindL bindC; rw [if_pos hl, if_pos hl]; exact x''
    · obtain ⟨c, hc⟩ := Option.isSome_iff_exists.mp hc
      have hnl : ¬ env.kindOf n = some .local := by rw [hl]; decide
      refine wpAny_bind (wpAny_bind (stCM x hk hl hc (hoe _ _ hc) fun s' x' => wpAny_pure (bindM f hf hk hoe r _ _ s' Q x' hr fun s'' x'' => h s'' ?_)))
      unfold bindL bindC; rw [if_neg hnl, if_neg hnl]; exact x''
theorem newEnv_mix {scope : Scope} {globals : Addr} {cl : List (Str × Addr)} {binds : List (Str × Value)} {qual : Str} {func : Option Addr} {code : Value} {builtins : Addr} {Q : PySem.Env → Shared → Prop}
    (hk : scope.kind = .function)
    (hkind : ∀ x ∈ binds, scope.names.lookup x.1 = some .local ∨ (scope.names.lookup x.1 = some .cell ∧ ((cellsFrom (s.heap.objs.size + 1) scope.names []).lookup x.1).isSome = true))
    (hQ : ∀ env, env = newEnv scope s.heap.objs.size globals (cellsFrom (s.heap.objs.size + 1) scope.names cl) qual func code none builtins →
      ∀ s', InCallC s env.locals (bindL env.kindOf binds fun _ => none) (cellsFrom (s.heap.objs.size + 1) scope.names []) (bindC env.kindOf binds fun _ => none) s' → Q env s') :
    wpAny M A (newFunctionEnv scope globals cl binds qual func code none builtins) Q E s := by
  simp only [newFunctionEnv, Option.isSome_none, Bool.false_eq_true, if_false]
  refine wpAny_bind (wpAny_alloc ?_)
  refine wpAny_bind (wpAny_layCells _ (fun name kind cells => by cases hkc : kind == NameKind.cell <;> simp [hkc]) _ _ _ _ ?_)
  have ok := cellsFrom_ok scope.names (s.heap.push { cls := .type "frame", data := .dict #[] }) (s.heap.objs.size + 1) [] ⟨fun _ _ hm => (nomatch hm), List.Pairwise.nil⟩ (by rw [Heap.size_push]; exact Nat.le_refl _)
  rw [Heap.size_push] at ok
  rw [show ({ s with heap := s.heap.push { cls := .type "frame", data := .dict #[] } } : Shared).heap.objs.size = s.heap.objs.size + 1 from Heap.size_push ..]
  refine wpAny_bind (bindM (s₀ := s) (own := cellsFrom (s.heap.objs.size + 1) scope.names []) (env := newEnv scope s.heap.objs.size globals (cellsFrom (s.heap.objs.size + 1) scope.names cl) qual func code none builtins)
    _ (fun _ _ _ => rfl) hk (fun n c e => ?_) binds (fun _ => none) (fun _ => none) _ _
    ⟨⟨⟨_, _, rfl⟩, (Heap.Ns.new s.heap (.type "frame")).keeps (pushCells_keeps _ _), fun b o e => pushCells_keeps _ _ b o (Heap.get?_push_of_some _ e), Nat.le_refl _⟩,
      fun n c hc => (ok.empty n c (PySem.mem_of_lookup hc)).1, ok.apart, fun n c hm => (ok.empty n c hm).2⟩
    hkind fun s' x => wpAny_pure (hQ _ rfl s' x))
  show (cellsFrom (s.heap.objs.size + 1) scope.names cl).lookup n = some c
  rw [cellsFrom_app, List.lookup_append, e]
  rfl
end
def envM (qual : Str) (sc : Scope) (L f : Addr) (cd : Value) (cl : List (Str × Addr)) : PySem.Env :=
  { scope := sc, locals := L, globals := mainGlobals, cells := cellsFrom (L + 1) sc.names cl, qual := qual ++ ".<locals>.", func := some f, code := cd, frame := some L, builtins := builtinsNs }
def cxM (P : Program) (w : World) (K : PySem.W.Frag) (mg : Str → Option Value) (base : Heap) (N : List Str) (qual : Str) (scope : Scope) (f : Addr) (cd : Value) (cl : List (Str × Addr)) (A : Around) (outer : List PySem.Env) (s : Shared) (H : Hp) : Cx where
  prog := P
  w := w
  K := K
  mg := mg
  base := base
  A := A.deeper (envM qual scope s.heap.objs.size f cd cl)
  N := N
  s_0 := s
  H_0 := H
  env := envM qual scope s.heap.objs.size f cd cl
  outer := outer
  stack := envM qual scope s.heap.objs.size f cd cl :: outer
  ex := []
  calm := true
  fn := fun x => !decide (scope.names.lookup x = some .free)
  pn := []
  xe := fun e s' => wpAny (model P w) (A.deeper (envM qual scope s.heap.objs.size f cd cl)) (leaving (envM qual scope s.heap.objs.size f cd cl) e) (fun _ s'' => C8.CX0 outer H s C8.E0 e s'') (fun e' s'' => C8.CX0 outer H s C8.E0 e' s'') s'
structure MScope (N ps fr : List Str) (sc : Scope) : Prop where
  kind : sc.kind = .function
  co : sc.isCoroutine = false
  gen : sc.isGenerator = false
  nd : N.Nodup
  pre : N.take (ps.length + fr.length) = ps ++ fr
  par : ∀ x ∈ ps, sc.names.lookup x = some .local ∨ sc.names.lookup x = some .cell
  free : ∀ y ∈ sc.names, y.2 = .free → y.1 ∈ fr
  frk : ∀ x ∈ fr, sc.names.lookup x = some .free
  ndn : (sc.names.map (·.1)).Nodup
theorem nd_lookup {α : Type} : ∀ {l : List (Str × α)} {x : Str} {a : α}, (l.map (·.1)).Nodup → (x, a) ∈ l → l.lookup x = some a
  | (y, b) :: r, x, a, nd, h => by
    rw [List.lookup_cons]
    rcases List.mem_cons.mp h with e | h
    · cases e
      rw [beq_self_eq_true]
    · rw [List.map_cons, List.nodup_cons] at nd
      have : (x == y) = false := beq_eq_false_iff_ne.mpr fun z => nd.1 (by rw [← z]; exact List.mem_map.mpr ⟨_, h, rfl⟩)
      rw [this]
      exact nd_lookup nd.2 h
theorem cellsFrom_names : ∀ {ns : List (Str × NameKind)} {n : Nat} {x : Str} {c : Addr}, (x, c) ∈ cellsFrom n ns [] → (x, NameKind.cell) ∈ ns
  | [], _, _, _, h => by cases h
  | (y, k) :: r, n, x, c, h => by
    unfold cellsFrom at h
    split at h
    · rename_i hk
      rw [cellsFrom_app] at h
      rcases List.mem_append.mp h with h | h
      · exact List.mem_cons_of_mem _ (cellsFrom_names h)
      · cases List.mem_singleton.mp h
        rw [beq_iff_eq.mp hk]
        exact List.mem_cons_self
    · exact List.mem_cons_of_mem _ (cellsFrom_names h)
structure CapAt (cl : List (Str × Addr)) (fr : List Str) (ws : List V) (h : Heap) : Prop where
  len : ws.length = fr.length
  all : ∀ y c, cl.lookup y = some c → ∃ v, h.IsCell c v
  inj : ∀ x y c, cl.lookup x = some c → cl.lookup y = some c → x = y
  sub : ∀ y c, cl.lookup y = some c → y ∈ fr
  has : ∀ (i : Nat) (y : Str), fr[i]? = some y → ∃ c, cl.lookup y = some c ∧ ∀ v, ws[i]? = some v → ∃ u, L2.RelV v u ∧ h.IsCell c (some u)
theorem inv_startM {P : Program} {w : World} {K : PySem.W.Frag} {mg : Str → Option Value} {base : Heap} {N ps fr : List Str} {qual : Str} {scope : Scope} {f : Addr} {cd : Value} {cl : List (Str × Addr)} {A : Around} {outer : List PySem.Env} {s s1 : Shared} {H : Hp} {us : List Value} {vs ws : List V}
    (S : MScope N ps fr scope) (hd : A.handled = none) (e0 : Env0 P w K mg base A outer s H) (hl : vs.length = ps.length) (r : Vals vs us) (C : CapAt cl fr ws base)
    (x : InCallC s s.heap.objs.size (bindL (envM qual scope s.heap.objs.size f cd cl).kindOf (ps.zip us) fun _ => none) (cellsFrom (s.heap.objs.size + 1) scope.names []) (bindC (envM qual scope s.heap.objs.size f cd cl).kindOf (ps.zip us) fun _ => none) s1) :
    Inv (cxM P w K mg base N qual scope f cd cl A outer s H) [] (L2.start N (vs ++ ws)) H s1 := by
  have hpl : ps.length + fr.length ≤ N.length := by
    have q := congrArg List.length S.pre
    rw [List.length_take, List.length_append] at q
    omega
  obtain ⟨h1, tk, rfl, hk⟩ := x.done
  have noA : ∀ b : Addr, b ∉ (cxM P w K mg base N qual scope f cd cl A outer s H).ex := fun b z => absurd (show b ∈ ([] : List Addr) from z) (by simp)
  have celle : (envM qual scope s.heap.objs.size f cd cl).cells = cellsFrom (s.heap.objs.size + 1) scope.names [] ++ cl := cellsFrom_app _ _ _
  have ownS : ∀ y c, (cellsFrom (s.heap.objs.size + 1) scope.names []).lookup y = some c → s.heap.objs.size < c ∧ scope.names.lookup y = some .cell := fun y c e => ⟨x.above y c (PySem.mem_of_lookup e), nd_lookup S.ndn (cellsFrom_names (PySem.mem_of_lookup e))⟩
  have capS : ∀ {c : Addr} {v : Option Value}, base.IsCell c v → s.heap.IsCell c v ∧ H c = none := fun {c v} ⟨o, ho, hd⟩ => ⟨⟨o, (e0.bs c o ho).1, hd⟩, (e0.bs c o ho).2⟩
  have cut : ∀ {y : Str} {c : Addr}, (envM qual scope s.heap.objs.size f cd cl).cells.lookup y = some c → ((cellsFrom (s.heap.objs.size + 1) scope.names []).lookup y = some c) ∨ cl.lookup y = some c := fun {y c} e => by
    rw [celle, List.lookup_append] at e
    cases e2 : (cellsFrom (s.heap.objs.size + 1) scope.names []).lookup y with
    | some c2 =>
      rw [e2] at e
      have e : some c2 = some c := e
      exact .inl e
    | none =>
      rw [e2] at e
      have e : cl.lookup y = some c := e
      exact .inr e
  have capOf : ∀ y c, cl.lookup y = some c → scope.names.lookup y = some .free ∧ c < s.heap.objs.size ∧ H c = none ∧ ∃ v, h1.IsCell c v := fun y c e => by
    obtain ⟨v, hv⟩ := C.all y c e
    obtain ⟨q1, q2⟩ := capS hv
    refine ⟨S.frk y (C.sub y c e), ?_, q2, v, q1.keeps hk⟩
    obtain ⟨o, ho, _⟩ := q1
    exact Heap.lt_size ho
  refine ⟨⟨e0.mod, S.kind, rfl, rfl, Nat.le_refl _, fun y z c k1 k2 => ?_, fun y hy => ?_, fun y c hf h => ?_, fun _ => hd, Around.frames_deeper e0.frames, .inr ⟨rfl, rfl⟩, fun b z => absurd z (noA b), e0.bs, e0.bsz, fun b _ _ => noA b, fun b z => absurd z (noA b), e0.funs, e0.frf⟩,
    rfl, e0.bare, Un.kept hk, ⟨_, x.toInCall.ns, fun i y v k1 k2 k3 => ?_⟩, fun y c h => ?_, e0.hok.fresh (Nat.le_refl _), fun y c h => ?_, fun p hp => absurd (show p ∈ ([] : List (Addr × Obj)) from hp) (by simp), e0.hok.kept hk, ?_⟩
  · rcases cut k1 with k1 | k1 <;> rcases cut k2 with k2 | k2
    · exact PySem.name_of_addr x.apart (PySem.mem_of_lookup k1) (PySem.mem_of_lookup k2)
    · exact absurd (Nat.lt_trans (ownS y c k1).1 (capOf z c k2).2.1) (Nat.lt_irrefl _)
    · exact absurd (Nat.lt_trans (ownS z c k2).1 (capOf y c k1).2.1) (Nat.lt_irrefl _)
    · exact C.inj y z c k1 k2
  · have hy : scope.names.lookup y = some .cell ∨ scope.names.lookup y = some .free := hy
    show ∃ c, (envM qual scope s.heap.objs.size f cd cl).cells.lookup y = some c
    rw [celle, List.lookup_append]
    rcases hy with hy | hy
    · obtain ⟨c, e⟩ := cell_has (n := s.heap.objs.size + 1) hy
      exact ⟨c, by rw [e]; rfl⟩
    · obtain ⟨i, hi⟩ := List.mem_iff_getElem?.mp (S.free _ (PySem.mem_of_lookup hy) rfl)
      obtain ⟨c, hc, _⟩ := C.has i y hi
      cases e2 : (cellsFrom (s.heap.objs.size + 1) scope.names []).lookup y with
      | some c2 => exact ⟨c2, rfl⟩
      | none => exact ⟨c, hc⟩
  · rcases cut h with h | h
    · exact Nat.le_of_lt (ownS y c h).1
    · have hf : (!decide (scope.names.lookup y = some .free)) = true := hf
      rw [(capOf y c h).1] at hf
      simp at hf
  · have k1 : N[i]? = some y := k1
    have hi : i < (vs ++ ws).length := by
      unfold L2.start at k2
      by_cases hi : i < (vs ++ ws).length
      · exact hi
      · rw [List.getElem?_append_right (by simpa using hi)] at k2
        rw [List.getElem?_replicate] at k2
        split at k2 <;> cases k2
    have ha : (vs ++ ws)[i]? = some v := by
      unfold L2.start at k2
      rw [List.getElem?_append_left (by simpa using hi), List.getElem?_map] at k2
      cases e : (vs ++ ws)[i]? with
      | none => rw [e] at k2; cases k2
      | some a => rw [e] at k2; cases k2; rfl
    have hwl := C.len
    rw [List.length_append] at hi
    have hq : (ps ++ fr)[i]? = some y := by
      rw [← S.pre, List.getElem?_take_of_lt (by omega)]
      exact k1
    by_cases hlt : i < ps.length
    · rw [List.getElem?_append_left (by omega)] at ha
      rw [List.getElem?_append_left hlt] at hq
      obtain ⟨u, hu, rv⟩ := r.get ha
      have ndP : ps.Nodup := by
        have q := S.nd.sublist (List.take_sublist (ps.length + fr.length) N)
        rw [S.pre] at q
        exact (List.nodup_append.mp q).1
      refine ⟨u, rv, ?_⟩
      rcases S.par y (List.mem_of_getElem? hq) with k | k
      · exact .inl ⟨k, bindL_get ndP hq hu k⟩
      · obtain ⟨c, e⟩ := cell_has (n := s.heap.objs.size + 1) k
        refine .inr ⟨.inl k, c, ?_, ?_⟩
        · show (envM qual scope s.heap.objs.size f cd cl).cells.lookup y = some c
          rw [celle, List.lookup_append, e]
          rfl
        · have q := x.cell y c e
          rw [bindC_get ndP hq hu (by show scope.names.lookup y ≠ _; rw [k]; decide)] at q
          exact q
    · rw [List.getElem?_append_right (by omega)] at ha
      rw [List.getElem?_append_right (by omega)] at hq
      obtain ⟨c, hc, hv⟩ := C.has (i - ps.length) y hq
      obtain ⟨u, ru, hu⟩ := hv v (by rw [← hl]; exact ha)
      have kf := S.frk y (List.mem_of_getElem? hq)
      refine ⟨u, ru, .inr ⟨.inr kf, c, ?_, (capS hu).1.keeps hk⟩⟩
      show (envM qual scope s.heap.objs.size f cd cl).cells.lookup y = some c
      rw [celle, List.lookup_append]
      cases e2 : (cellsFrom (s.heap.objs.size + 1) scope.names []).lookup y with
      | some c2 => rw [(ownS y c2 e2).2] at kf; cases kf
      | none => exact hc
  · rcases cut h with h | h
    · exact ⟨_, x.cell y c h⟩
    · obtain ⟨_, _, _, v, q⟩ := capOf y c h
      exact ⟨v, q⟩
  · rcases cut h with h | h
    · exact e0.hok.fresh (Nat.le_of_lt (ownS y c h).1)
    · exact (capOf y c h).2.2.1
  · have hwl := C.len
    unfold L2.start
    show _ = N.length
    rw [List.length_append, List.length_map, List.length_replicate, List.length_append]
    omega
def MProm (f c' P' : Addr) (q : Str) (ps : Arguments) (b : Expr) (sc : Scope) (cl : List (Str × Addr)) (pm ct : Value) (K : Kx) (ws : List V) (cds : List PyData) (S : Hp) : Prop :=
  S f = some (.ext (LamO f q ps b sc cl pm c' ct)) ∧ S c' = some (CodeN c' q P') ∧ DpAll K S ws cds
theorem dpAll_delS {K : Kx} {S S1 : Hp} {o : Addr} {od : Obj} {ws : List (Key × V)} (hS : S o = some (.frz od (.dK ws))) (hne : ∀ a, a ≠ o → S1 a = S a) (h0 : S1 o = none) {vs : List V} {ds : List PyData} (h : DpAll K S vs ds) : DpAll K S1 vs ds := by
  have e : S1 = zdel S o := by
    funext a
    by_cases ha : a = o
    · rw [ha, h0, zdel_same]
    · rw [hne a ha, zdel_ne ha]
  rw [e]
  exact dpAll_del hS _ _ h
theorem clo_fnP {K : Kx} {F : List PyData → Option PyData} {f c' P' : Addr} {q : Str} {ps : Arguments} {b : Expr} {sc : Scope} {cl : List (Str × Addr)} {pm ct : Value} {N names fr : List Str} {ws : List V} {cds : List PyData} {k : Nat} (SC : MScope N names fr sc) (C : CapAt cl fr ws K.base) (hlev : K.lev = k + 1)
    (hlen : ∀ ds d, F (ds ++ cds) = some d → ds.length = names.length)
    (hbind : ∀ us : List Value, us.length = names.length → bindArgs (PySem.W.kla_fn "<lambda>" q ps b sc cl pm (.ref c') ct) ⟨us, []⟩ = pure (names.zip us))
    (hbody : ∀ (A : Around) (outer : List PySem.Env) (s : Shared) (H : Hp) (vs : List V) (Q : VK), Room k (A.deeper (envM q sc s.heap.objs.size f (.ref c') cl)) → spL K F (vs ++ ws) H Q C8.E0 →
      ∃ t, PE (cxM K.P K.w K.K K.mg K.base N q sc f (.ref c') cl A outer s H) b t ∧ t (L2.start N (vs ++ ws)) H Q) : FnP K (fun ds => F (ds ++ cds)) f (MProm f c' P' q ps b sc cl pm ct K ws cds) := by
  refine ⟨fun S S1 hs z => ⟨hs _ _ z.1, hs _ _ z.2.1, DpAll_mono z.2.2 hs⟩, fun S S1 o od wz hS hne h0 z => ⟨(hne _ fun e => by rw [← e, z.1] at hS; cases hS).trans z.1, (hne _ fun e => by rw [← e, z.2.1] at hS; cases hS).trans z.2.1, dpAll_delS hS hne h0 z.2.2⟩,
    fun A outer s H S e0 hs z => .fn ⟨_, _, _, _, (e0.hok f _ (hs _ _ z.1)).1⟩, fun A outer s H us vs Q hr e0 rv hspP => ?_⟩
  obtain ⟨S2, ds2, d2, ⟨hf2, hc2, hw2⟩, hs2, tb2, hd2, he2, hQ2⟩ := hspP
  have h1 := hs2 _ _ hf2
  have h2 := hs2 _ _ hc2
  rw [hlev] at hr
  obtain ⟨hl, _, _⟩ := e0.hok f _ h1
  obtain ⟨⟨⟨oc, us', t, hoc, hd, hv⟩, _⟩, _⟩ := e0.hok c' _ h2
  have hvl : vs.length = names.length := by
    rw [DpAll_len hd2, hlen ds2 d2 he2]
  have hul : us.length = names.length := by rw [← rv.length]; exact hvl
  have lim : s.heap.NoLimit := e0.mod.nolimit.keeps fun b o e => (e0.bs b o e).1
  have hkind : ∀ y ∈ names.zip us, sc.names.lookup y.1 = some .local ∨ (sc.names.lookup y.1 = some .cell ∧ ((cellsFrom (s.heap.objs.size + 1) sc.names []).lookup y.1).isSome = true) := fun ⟨n, v⟩ hy => by
    rcases SC.par n (List.of_mem_zip hy).1 with z | z
    · exact .inl z
    · exact .inr ⟨z, PySem.W.cellsFrom_some _ _ _ (.inl z)⟩
  refine PySem.W.kla_callFunE hr.depth hl rfl SC.co SC.gen rfl ⟨c', oc, us', t, rfl, hoc, hd, hv⟩ ?_
  rw [hbind us hul]
  refine wpAny_pure (newEnv_mix SC.kind hkind fun env he s1 x => ?_)
  subst he
  refine ⟨lim.keeps x.toInCall.keep, ?_⟩
  obtain ⟨t, ht, hq⟩ := hbody A outer s H vs Q (hr.deeper _) ⟨S2, ds2 ++ cds, d2, hs2, tb2, DpAll_app hd2 hw2, he2, hQ2⟩
  have I : Inv (cxM K.P K.w K.K K.mg K.base N q sc f (.ref c') cl A outer s H) [] (L2.start N (vs ++ ws)) H s1 := inv_startM SC hr.hd e0 hvl rv C x
  refine PySem.W.kla_codeExpr (wpAny_mono (ht.run [] s1 (L2.start N (vs ++ ws)) H Q I hq) (fun v s' hs => ?_) fun e s' hs => hs)
  obtain ⟨w', H', J, rw', q'⟩ := hs
  exact ⟨w', H', J.os, J.bare, J.base, J.hok, rw', q'⟩
structure Gnd (K : Kx) (X : Cx) (σ : L2.St) (B : Heap) : Prop where
  kp : ∀ b o, K.base.get? b = some o → B.get? b = some o
  cells : ∀ x c, X.env.cells.lookup x = some c → ∃ v, B.IsCell c v
  inj : ∀ x y c, X.env.cells.lookup x = some c → X.env.cells.lookup y = some c → x = y
  has : ∀ x, X.env.scope.names.lookup x = some .cell ∨ X.env.scope.names.lookup x = some .free → ∃ c, X.env.cells.lookup x = some c
  val : ∀ (i : Nat) (x : Str) (v : V), X.N[i]? = some x → σ[i]? = some (some v) → X.env.scope.names.lookup x = some .cell ∨ X.env.scope.names.lookup x = some .free → ∃ c u, X.env.cells.lookup x = some c ∧ L2.RelV v u ∧ B.IsCell c (some u)
theorem restrict2 (h : Heap) (p : Addr → Bool) : ∃ G : Heap, (∀ b, p b = true → G.get? b = h.get? b) ∧ (∀ b, p b = false → G.get? b = none) ∧ G.objs.size = h.objs.size := by
  obtain ⟨l, hl⟩ : ∃ l : List Addr, l = (List.range h.objs.size).filter fun b => !p b := ⟨_, rfl⟩
  have m1 : ∀ b, b ∈ l → p b = false := fun b hb => by
    rw [hl] at hb
    have z := (List.mem_filter.mp hb).2
    simpa using z
  have m2 : ∀ b, b < h.objs.size → p b = false → b ∈ l := fun b h1 h2 => by
    rw [hl]
    exact List.mem_filter.mpr ⟨List.mem_range.mpr h1, by simp [h2]⟩
  refine ⟨PySem.W.hideAll h l, fun b hb => ?_, fun b hb => ?_, PySem.W.hideAll_size _ _⟩
  · cases e : h.get? b with
    | some o => exact PySem.W.hideAll_get l e fun hm => by rw [m1 b hm] at hb; cases hb
    | none =>
      cases q : (PySem.W.hideAll h l).get? b with
      | none => rfl
      | some o =>
        have z := PySem.W.of_hideAll l q
        rw [e] at z; cases z
  · cases q : (PySem.W.hideAll h l).get? b with
    | none => rfl
    | some o =>
      have z := PySem.W.of_hideAll l q
      rw [PySem.W.hideAll_none l (m2 b (Heap.lt_size z) hb)] at q; cases q
section
variable {X : Cx} {K : Kx} {pins : List (Addr × Obj)} {σ : L2.St} {H : Hp} {s : Shared}
open Classical in
theorem gnd_of (hX : CxK K X) (hfn : ∀ x, X.fn x = true) (I : Inv X pins σ H s) : ∃ B, Gnd K X σ B ∧ Env0 K.P K.w K.K K.mg B X.A X.stack s H := by
  obtain ⟨B, b1, b2, b3⟩ := restrict2 s.heap fun b => decide ((∃ o, X.base.get? b = some o) ∨ ∃ x, X.env.cells.lookup x = some b)
  have kp : ∀ b o, X.base.get? b = some o → B.get? b = some o := fun b o e => (b1 b (decide_eq_true (.inl ⟨o, e⟩))).trans (I.bk b o e)
  have cellB : ∀ {x : Str} {c : Addr} {v : Option Value}, X.env.cells.lookup x = some c → s.heap.IsCell c v → B.IsCell c v := fun {x c v} e ⟨o, ho, hd⟩ => ⟨o, (b1 c (decide_eq_true (.inr ⟨x, e⟩))).trans ho, hd⟩
  have inB : ∀ b o, B.get? b = some o → s.heap.get? b = some o ∧ ((∃ o, X.base.get? b = some o) ∨ ∃ x, X.env.cells.lookup x = some b) := fun b o e => by
    by_cases hp : (∃ o, X.base.get? b = some o) ∨ ∃ x, X.env.cells.lookup x = some b
    · exact ⟨(b1 b (decide_eq_true hp)).symm.trans e, hp⟩
    · rw [b2 b (decide_eq_false hp)] at e; cases e
  refine ⟨B, ⟨fun b o e => kp b o (by rw [hX.b]; exact e), fun x c e => ?_, I.ok.inj, fun x h => I.ok.has x h, fun i x v e1 e2 k => ?_⟩, ?_⟩
  · obtain ⟨v, z⟩ := I.cell x c e
    exact ⟨v, cellB e z⟩
  · obtain ⟨m, hn, hl⟩ := I.loc
    obtain ⟨u, r, l⟩ := hl i x v e1 e2 (k.elim (fun z => .inr (.inl z)) fun z => .inr (.inr z))
    rcases l with ⟨z, _⟩ | ⟨_, c, hc, hcell⟩
    · have z' : X.env.scope.names.lookup x = some .local := z
      rcases k with k | k <;> rw [k] at z' <;> cases z'
    · exact ⟨c, u, hc, r, cellB hc hcell⟩
  · have M := I.ok.mod
    obtain ⟨mb, m1, m2⟩ := M.blt
    have e0 := I.env0
    rw [← hX.p, ← hX.w, ← hX.k, ← hX.m]
    refine ⟨e0.frames, ⟨M.kin.keeps kp, M.glob.keeps kp, ⟨mb, m1.keeps kp, m2⟩, M.nolimit.keeps kp⟩, fun b o e => ?_, Nat.le_of_eq b3, funFrames_none e0.funs fun L hL => ?_, e0.frf, e0.hok, e0.bare⟩
    · obtain ⟨q1, q2⟩ := inB b o e
      refine ⟨q1, ?_⟩
      rcases q2 with ⟨o', q⟩ | ⟨x, q⟩
      · exact (I.bs b o' q).2
      · exact I.freeC x b q
    · cases hb : B.get? L with
      | none => rfl
      | some o =>
        obtain ⟨q1, q2⟩ := inB L o hb
        rcases q2 with ⟨o', q⟩ | ⟨x, q⟩
        · have := (e0.funs.mem hL).1
          rw [q] at this; cases this
        · rcases List.mem_cons.mp (I.stkSub L hL) with z | z
          · exact absurd z (I.cne x L q)
          · obtain ⟨_, o2, ho2, _⟩ := I.ok.funs.mem z
            exact absurd (Nat.lt_of_lt_of_le (Heap.lt_size ho2) (I.ok.cab x L (hfn x) q)) (Nat.lt_irrefl _)
theorem capAt_of {sc : Scope} {N ps fr : List Str} {js : List Nat} {ws : List V} {B : Heap} (g : Gnd K X σ B) (hfree : ∀ y ∈ sc.names, y.2 = .free → X.env.scope.names.lookup y.1 = some .cell ∨ X.env.scope.names.lookup y.1 = some .free) (SC : MScope N ps fr sc)
    (hjs : js.map (fun j => X.N[j]?) = fr.map some) (hws : js.map (fun j => σ[j]?) = ws.map fun v => some (some v)) : CapAt (cloFrom X.env.cells sc.names []) fr ws B := by
  have hf : ∀ y ∈ sc.names, y.2 = .free → ∃ c, X.env.cells.lookup y.1 = some c := fun y hy e => g.has _ (hfree y hy e)
  have hl1 : js.length = fr.length := by have q := congrArg List.length hjs; rw [List.length_map, List.length_map] at q; exact q
  have hl2 : js.length = ws.length := by have q := congrArg List.length hws; rw [List.length_map, List.length_map] at q; exact q
  refine ⟨by omega, fun y c e => g.cells y c (clo_cm hf e), fun x y c e1 e2 => g.inj x y c (clo_cm hf e1) (clo_cm hf e2), fun y c e => ?_, fun i y e => ?_⟩
  · rcases cloFrom_mem (PySem.mem_of_lookup e) with z | ⟨z, _⟩
    · cases z
    · exact SC.free _ z rfl
  · have hi : i < fr.length := (List.getElem?_eq_some_iff.mp e).1
    have hj : js[i]? = some js[i] := List.getElem?_eq_getElem (by omega)
    generalize js[i] = j at hj
    have q1 : (js.map (fun j => X.N[j]?))[i]? = some (some y) := by rw [hjs, List.getElem?_map, e]; rfl
    rw [List.getElem?_map, hj] at q1
    have q1 : X.N[j]? = some y := Option.some.inj q1
    have hw : ws[i]? = some ws[i] := List.getElem?_eq_getElem (by omega)
    generalize ws[i] = w at hw
    have q2 : (js.map (fun j => σ[j]?))[i]? = some (some (some w)) := by rw [hws, List.getElem?_map, hw]; rfl
    rw [List.getElem?_map, hj] at q2
    have q2 : σ[j]? = some (some w) := Option.some.inj q2
    have hy := PySem.mem_of_lookup (SC.frk y (List.mem_of_getElem? e))
    obtain ⟨c, u, k1, k2, k3⟩ := g.val j y w q1 q2 (hfree _ hy rfl)
    refine ⟨c, clo_has hf hy k1, fun v ev => ?_⟩
    rw [hw] at ev
    cases ev
    exact ⟨u, k2, k3⟩
def tCallB (K : Kx) (X : Cx) (sp : Heap → Sp) (t : TA) : TE := fun σ H Q => t σ H fun vs H1 => ∀ B, Gnd K X σ B → sp B vs H1 Q C8.E0
theorem pe_callB {k : Nat} {x : Str} {ps : List Str} {sp : Heap → Sp} {p pos : Pos} {e : Expr} {es : List Expr} {t : TA} (hX : CxK K X) (hfn : ∀ x, X.fn x = true) (c : ∀ B, (∀ b o, K.base.get? b = some o → B.get? b = some o) → Cal K.P K.w K.K K.mg B k x ps (sp B)) (hr : Room k X.A) (ha : PA X (e :: es) t) (hg : Gl X x := by rfl)
    (hdb : (x == ("__debug__" : Str)) = false := by decide) (he : starEach (e :: es) X.env = (false, eval e X.env) :: starEach es X.env := by rfl) (hpl : (backTo pos (starEach es X.env)).any (·.1) = false := by rfl) :
    PE X (.Call (.Name x p) (e :: es) [] pos) (tCallB K X sp t) := by
  obtain ⟨f, fd, F, hm, hk, hb⟩ := (c K.base fun _ _ e => e).ex
  refine ⟨fun pins s σ H Q I h => ?_⟩
  refine wpAny_Call_Name_kw (ld_glob I hg (by rw [hX.m]; exact hm) ?_ hdb)
  refine PySem.W.callWith_K (h₀ := X.base) (K := X.K) I.ok.mod.kin (by rw [hX.k]; exact hk) (thn (ha.run pos pins s σ H _ I h) fun us s1 ⟨vs, H1, I1, r, q⟩ => ⟨I1.kIn, ?_⟩) he hpl
  obtain ⟨B, g, e0⟩ := gnd_of hX hfn I1
  obtain ⟨f', fd', F', hm', hk', hb'⟩ := (c B g.kp).ex
  rw [hm] at hm'
  cases hm'
  have hsp := q B g
  have hl : us.length = ps.length := by rw [← r.length]; exact F'.len _ _ _ _ hsp
  have run := F'.run X.A X.stack s1 H1 ⟨us, []⟩ us vs Q C8.E0 hr e0 (by
    have := hb' s1 us (by rw [← hX.k]; exact I1.kIn) (by simpa using hl)
    simpa using this) r hsp
  rw [← hX.p, ← hX.w] at run
  refine wpAny_call (codeAny_mono run fun z s' hq => ?_)
  cases z with
  | error e => exact hq.elim
  | ok fl =>
    cases fl with
    | ret u => exact I1.after hq
    | next => exact hq.elim
    | brk => exact hq.elim
    | cont => exact hq.elim
theorem pe_lamG {ps : Arguments} {b : Expr} {sc : Scope} {pos : Pos} (hX : CxK K X) (TA : TabAt K X.env.code (X.env.qual ++ "<lambda>")) (hdef : defaultsOf ps X.env = ([], [])) (hfree : ∀ y ∈ sc.names, y.2 = .free → X.env.scope.names.lookup y.1 = some .cell ∨ X.env.scope.names.lookup y.1 = some .free) : PE X (.Lambda ps b sc pos) (tLamK K X ps b sc) := by
  refine ⟨fun pins s σ H Q I h => ?_⟩
  obtain ⟨S, hs, tb, q⟩ := h
  obtain ⟨c, T0, e1, e2, e3, e4⟩ := TA.ex
  rw [← hX.b, ← hX.m] at e2
  exact lam_new I hs tb hX.b hX.m e2 e1 e3 e4 Tag.one_at hdef (fun y hy z => I.ok.has _ (hfree y hy z)) fun f c' P' pm ct S1 H1 s' I1 g tb1 hf0 hf hc => ⟨.ref f, H1, I1, rfl, q f c' P' pm ct S1 H1 g tb1 hf hc⟩
end
def Kx.on (K : Kx) (B : Heap) : Kx := ⟨K.P, K.w, K.K, K.mg, B, K.lev, K.T⟩
theorem TabsOk.on {K : Kx} {B : Heap} {S H : Hp} (tb : TabsOk K S H) (k : ∀ b o, K.base.get? b = some o → B.get? b = some o) : TabsOk (K.on B) S H :=
  ⟨tb.st, fun c q P h => let ⟨n1, n2, r⟩ := tb.ne c q P h; ⟨n1, n2.keeps k, r⟩⟩
theorem TabsOk.off {K : Kx} {B : Heap} {S H : Hp} {T0 : Addr} (tb : TabsOk (K.on B) S H) (bm : K.base.BuiltinsAt K.mg T0) : TabsOk K S H :=
  ⟨tb.st, fun c q P h => by
    obtain ⟨n1, ⟨a, o, m1, m2, m3, m4, _⟩, r⟩ := tb.ne c q P h
    obtain ⟨a', o', k1, k2, k3, k4, k5, k6⟩ := bm
    have m1 : K.mg "__builtins__" = some (.ref a) := m1
    rw [m1] at k1
    cases k1
    exact ⟨n1, ⟨a, o', m1, k2, k3, m4, k5, k6⟩, r⟩⟩
end Dz

namespace Dz
open PySem PySem.Spec PySem.SeqAt PyProof.Rows L2 RZ LamX NdefX
section
variable {X : Cx} {K : Kx} {pins : List (Addr × Obj)} {σ : L2.St} {S H : Hp} {s : Shared}
end
def MPromD (f c' P' : Addr) (F : NF) (K : Kx) (ws : List V) (cds : List PyData) (S : Hp) : Prop :=
  S f = some (FnO f F) ∧ S c' = some (CodeN c' F.qual P') ∧ DpAll K S ws cds
theorem clo_fnPD {K : Kx} {F : List PyData → Option PyData} {f c' P' : Addr} {nm q : Str} {ps : Arguments} {b : List Stmt} {sc : Scope} {cl : List (Str × Addr)} {N names fr : List Str} {ws : List V} {cds : List PyData} {k : Nat} (SC : MScope N names fr sc) (C : CapAt cl fr ws K.base) (hlev : K.lev = k + 1)
    (hlen : ∀ ds d, F (ds ++ cds) = some d → ds.length = names.length)
    (hbind : ∀ (doc pm ctv : Value) (us : List Value), us.length = names.length → bindArgs ((⟨nm, q, ps, b, sc, cl, c'⟩ : NF).fd doc pm ctv) ⟨us, []⟩ = pure (names.zip us))
    (hbody : ∀ (A : Around) (outer : List PySem.Env) (s : Shared) (H : Hp) (vs : List V) (Q : VK), Room k (A.deeper (envM q sc s.heap.objs.size f (.ref c') cl)) → spL K F (vs ++ ws) H Q C8.E0 →
      ∃ t, PSs (cxM K.P K.w K.K K.mg K.base N q sc f (.ref c') cl A outer s H) b t ∧ t { nx := fun _ H' => Q .non H', rt := Q } (L2.start N (vs ++ ws)) H) : FnP K (fun ds => F (ds ++ cds)) f (MPromD f c' P' ⟨nm, q, ps, b, sc, cl, c'⟩ K ws cds) := by
  refine ⟨fun S S1 hs z => ⟨hs _ _ z.1, hs _ _ z.2.1, DpAll_mono z.2.2 hs⟩, fun S S1 o od wz hS hne h0 z => ⟨(hne _ fun e => by rw [← e, z.1] at hS; cases hS).trans z.1, (hne _ fun e => by rw [← e, z.2.1] at hS; cases hS).trans z.2.1, dpAll_delS hS hne h0 z.2.2⟩,
    fun A outer s H S e0 hs z => by
      obtain ⟨⟨od, sl, doc, pm, ctv, e⟩, _, _⟩ := e0.hok f _ (hs _ _ z.1)
      exact .fn ⟨_, _, _, _, e⟩, fun A outer s H us vs Q hr e0 rv hspP => ?_⟩
  obtain ⟨S2, ds2, d2, ⟨hf2, hc2, hw2⟩, hs2, tb2, hd2, he2, hQ2⟩ := hspP
  have h1 := hs2 _ _ hf2
  have h2 := hs2 _ _ hc2
  rw [hlev] at hr
  obtain ⟨⟨od, sl, doc, pm, ctv, hl⟩, _, _⟩ := e0.hok f _ h1
  obtain ⟨⟨⟨oc, us', t, hoc, hd, hv⟩, _⟩, _⟩ := e0.hok c' _ h2
  have hvl : vs.length = names.length := by
    rw [DpAll_len hd2, hlen ds2 d2 he2]
  have hul : us.length = names.length := by rw [← rv.length]; exact hvl
  have lim : s.heap.NoLimit := e0.mod.nolimit.keeps fun b o e => (e0.bs b o e).1
  have hkind : ∀ y ∈ names.zip us, sc.names.lookup y.1 = some .local ∨ (sc.names.lookup y.1 = some .cell ∧ ((cellsFrom (s.heap.objs.size + 1) sc.names []).lookup y.1).isSome = true) := fun ⟨n, v⟩ hy => by
    rcases SC.par n (List.of_mem_zip hy).1 with z | z
    · exact .inl z
    · exact .inr ⟨z, PySem.W.cellsFrom_some _ _ _ (.inl z)⟩
  refine codeAny_call_function hr.depth hl rfl SC.co SC.gen rfl ⟨c', oc, us', t, rfl, hoc, hd, hv⟩ ?_
  rw [hbind _ _ _ us hul]
  refine wpAny_pure (newEnv_mix SC.kind hkind fun env he s1 x => ?_)
  subst he
  refine ⟨lim.keeps x.toInCall.keep, codeAny_func ?_⟩
  obtain ⟨t, ht, hq⟩ := hbody A outer s H vs Q (hr.deeper _) ⟨S2, ds2 ++ cds, d2, hs2, tb2, DpAll_app hd2 hw2, he2, hQ2⟩
  have I : Inv (cxM K.P K.w K.K K.mg K.base N q sc f (.ref c') cl A outer s H) [] (L2.start N (vs ++ ws)) H s1 := inv_startM SC hr.hd e0 hvl rv C x
  refine wpAny_mono (ht.run [] s1 (L2.start N (vs ++ ws)) H _ I hq) (fun fl s' hs => ?_) fun e s' hs => hs
  have fin : ∀ {σ' : L2.St} {H' : Hp} {v : V} {u : Value}, Inv (cxM K.P K.w K.K K.mg K.base N q sc f (.ref c') cl A outer s H) [] σ' H' s' → RelV v u → Q v H' → CE outer K.P K.w H s Q u s' :=
    fun {σ' H' v u} J rv q => ⟨v, H', J.os, J.bare, J.base, J.hok, rv, q⟩
  cases fl with
  | ret u =>
    obtain ⟨v, σ', H', J, rv, q⟩ := hs
    exact fin J rv q
  | next =>
    obtain ⟨σ', H', J, q⟩ := hs
    exact fin (v := V.non) (u := Value.none) J rfl q
  | brk =>
    obtain ⟨_, _, _, q⟩ := hs
    exact False.elim q
  | cont =>
    obtain ⟨_, _, _, q⟩ := hs
    exact False.elim q
end Dz

namespace Dz
open PySem PySem.Spec PyProof.Rows L2

section
variable {elt t0 i0 t1 i1 t2 i2 : Expr} {f0 f1 f2 : List Expr} {scope : Scope} {pos : Pos} {it acc : Value} {env : PySem.Env}
end
section
variable {prog : Program} {w : World} {A : Around} {R : Result → Shared → Prop} {s : Shared} {elt tg iter : Expr} {gens : List Comprehension} {scope : Scope} {pos : Pos} {ifs : List Expr} {B : Sem Fin} {k : Nat} {it acc : Value} {env : PySem.Env}
end
section
variable {prog : Program} {w : World} {A : Around} {R : Result → Shared → Prop} {s : Shared} {elt t0 i0 t1 i1 t2 i2 : Expr} {f0 f1 f2 : List Expr} {scope : Scope} {pos : Pos} {it acc : Value} {env : PySem.Env}
end

abbrev TBd := Addr → L2.St → Hp → (Hp → Prop) → Prop
section
variable {X : Cx} {elt : Expr} {te : TE} {e : Expr} {k : Nat}
end

section
variable {X : Cx}
end
section
variable {X : Cx} {elt t0 i0 t1 i1 t2 i2 : Expr} {f0 f1 f2 : List Expr} {scope : Scope} {pos : Pos} {own : List (Str × Nat)} {v1 v2 : List Nat} {wi0 wi1 wi2 : TI} {g0 g1 g2 : TG} {tt0 tt1 tt2 : TT} {te : TE}
end
end Dz

namespace Sm
open PySem L2 RZ Dz

inductive Ov where
  | ref (j : Nat)
  | pr (d : PyData) (j : Nat)
inductive Vl where
  | no
  | dat (d : PyData)
  | own (ds : List PyData)
  | dct (kvs : List (Key × PyData))
  | dnk (kvs : List (NestedKey × PyData))
  | ref (j : Nat)
  | fn (F : List PyData → Option PyData)
  | xt (ds : List PyData)
  | os (tup : Bool) (xs : List Ov)
inductive Fv where
  | dat (d : PyData)
  | ref (j : Nat)
inductive Ob where
  | lst (ds : List PyData)
  | dct (kvs : List (Key × PyData))
  | dnk (kvs : List (NestedKey × PyData))
  | ins (C : Str) (fs : List (Str × Fv))
abbrev Lo := List Vl
abbrev Sg := List Ob
abbrev M (α : Type) := Lo → Sg → Option (α × Lo × Sg)
def mb {α β : Type} (m : M α) (f : α → M β) : M β := fun l g => match m l g with
  | none => none
  | some (a, l', g') => f a l' g'
def mp {α : Type} (a : α) : M α := fun l g => some (a, l, g)
def mo {α : Type} (o : Option α) : M α := fun l g => match o with
  | none => none
  | some a => some (a, l, g)
theorem mb_some {α β : Type} {m : M α} {f : α → M β} {l l' : Lo} {g g' : Sg} {b : β} (h : mb m f l g = some (b, l', g')) : ∃ a l1 g1, m l g = some (a, l1, g1) ∧ f a l1 g1 = some (b, l', g') := by
  unfold mb at h
  split at h
  · cases h
  · rename_i a l1 g1 e
    exact ⟨a, l1, g1, e, h⟩
theorem mo_some {α : Type} {o : Option α} {l l' : Lo} {g g' : Sg} {b : α} (h : mo o l g = some (b, l', g')) : o = some b ∧ l' = l ∧ g' = g := by
  unfold mo at h
  split at h
  · cases h
  · cases h
    exact ⟨rfl, rfl, rfl⟩
theorem mp_some {α : Type} {a : α} {l l' : Lo} {g g' : Sg} {b : α} (h : mp a l g = some (b, l', g')) : b = a ∧ l' = l ∧ g' = g := by
  unfold mp at h
  cases h
  exact ⟨rfl, rfl, rfl⟩

def FvOk (K : Kx) (S : Hp) (r : List Addr) : Fv → V → Prop
  | .dat d, v => Dp K S v d
  | .ref j, v => ∃ a, r[j]? = some a ∧ v = .ref a
def FsOk (K : Kx) (S : Hp) (r : List Addr) : List (Str × V) → List (Str × Fv) → Prop := Paired fun x y => x.1 = y.1 ∧ FvOk K S r y.2 x.2
def ObOk (K : Kx) (S H : Hp) (r : List Addr) (a : Addr) : Ob → Prop
  | .lst ds => ∃ xs, H a = some (.lst xs) ∧ DpAll K S xs ds
  | .dct kvs => ∃ ws, H a = some (.dK ws) ∧ KvD K S ws kvs
  | .dnk kvs => ∃ xs, H a = some (DnO K.P K.w a xs) ∧ KnD K S xs kvs
  | .ins C fs => ∃ (cls dx : Addr) (vs : List (Str × V)), K.mg C = some (.ref cls) ∧ H a = some (.ins cls dx vs) ∧ H dx = some (.own a) ∧ FsOk K S r vs fs
def XtV (K : Kx) (S : Hp) (v : V) (ds : List PyData) : Prop := ∃ (a : Addr) (o : Obj) (xs : List V), v = .ref a ∧ S a = some (.frz o (.tup xs)) ∧ o.cls = .type "tuple" ∧ o.dict = none ∧ DpAll K S xs ds
theorem XtV.mono {K : Kx} {S S1 : Hp} {v : V} {ds : List PyData} (h : XtV K S v ds) (e : Same S S1) : XtV K S1 v ds := by
  obtain ⟨a, o, xs, h1, h2, h3, h4, h5⟩ := h
  exact ⟨a, o, xs, h1, e _ _ h2, h3, h4, DpAll_mono h5 e⟩
theorem XtV.dp {K : Kx} {S : Hp} {v : V} {ds : List PyData} (h : XtV K S v ds) : Dp K S v (.tuple ds) := by
  obtain ⟨a, o, xs, rfl, h2, h3, h4, h5⟩ := h
  exact .tup (.inl (.inr ⟨o, h2⟩)) h5
def OvOk (K : Kx) (S : Hp) (r : List Addr) : Ov → V → Prop
  | .ref j, v => ∃ a, r[j]? = some a ∧ v = .ref a
  | .pr d j, v => ∃ (t : Addr) (w : V) (a : Addr), v = .ref t ∧ S t = some (.tup [w, .ref a]) ∧ Dp K S w d ∧ r[j]? = some a
def OsV (K : Kx) (S : Hp) (r : List Addr) (tup : Bool) (xs : List Ov) (v : V) : Prop := ∃ (a : Addr) (ys : List V), v = .ref a ∧ S a = some (if tup = true then .tup ys else .lst ys) ∧ Paired (fun y x => OvOk K S r x y) ys xs
theorem OvOk.go {K : Kx} {S S1 : Hp} {r r1 : List Addr} {x : Ov} {v : V} (h : OvOk K S r x v) (hs : Same S S1) (hr : ∃ q, r1 = r ++ q) : OvOk K S1 r1 x v := by
  obtain ⟨q, rfl⟩ := hr
  cases x with
  | ref j =>
    obtain ⟨a, e2, e3⟩ := h
    exact ⟨a, by rw [List.getElem?_append_left (List.getElem?_eq_some_iff.mp e2).1]; exact e2, e3⟩
  | pr d j =>
    obtain ⟨t, w, a, e0, e1, e2, e3⟩ := h
    exact ⟨t, w, a, e0, hs _ _ e1, Dp_mono e2 hs, by rw [List.getElem?_append_left (List.getElem?_eq_some_iff.mp e3).1]; exact e3⟩
theorem OsV.go {K : Kx} {S S1 : Hp} {r r1 : List Addr} {b : Bool} {xs : List Ov} {v : V} (h : OsV K S r b xs v) (hs : Same S S1) (hr : ∃ q, r1 = r ++ q) : OsV K S1 r1 b xs v :=
  let ⟨a, ys, e1, e2, e3⟩ := h
  ⟨a, ys, e1, hs _ _ e2, Paired.mapP e3 fun _ _ q => q.go hs hr⟩
def SOk (K : Kx) (S H : Hp) (r : List Addr) : Vl → Option Addr → Option V → Prop
  | .no, o, _ => o = none
  | .dat d, o, x => o = none ∧ ∃ v, x = some v ∧ Dp K S v d
  | .own ds, o, x => ∃ a, o = some a ∧ x = some (.ref a) ∧ S a = none ∧ ∃ xs, H a = some (.lst xs) ∧ DpAll K S xs ds
  | .dct kvs, o, x => ∃ a, o = some a ∧ x = some (.ref a) ∧ S a = none ∧ ∃ ws, H a = some (.dK ws) ∧ KvD K S ws kvs
  | .dnk kvs, o, x => ∃ a, o = some a ∧ x = some (.ref a) ∧ S a = none ∧ ∃ xs, H a = some (DnO K.P K.w a xs) ∧ KnD K S xs kvs
  | .ref j, o, x => o = none ∧ ∃ a, r[j]? = some a ∧ x = some (.ref a)
  | .fn F, o, x => o = none ∧ ∃ v, x = some v ∧ FnV K S v F
  | .xt ds, o, x => o = none ∧ ∃ v, x = some v ∧ XtV K S v ds
  | .os b xs, o, x => o = none ∧ ∃ v, x = some v ∧ OsV K S r b xs v
structure StOk (K : Kx) (l : Lo) (g : Sg) (s : L2.St) (H S : Hp) (r : List Addr) (A : List (Option Addr)) : Prop where
  hs : Same S H
  la : A.length = l.length
  ls : s.length = l.length
  ok : ∀ (i : Nat) (x : Vl), l[i]? = some x → ∃ o v, A[i]? = some o ∧ s[i]? = some v ∧ SOk K S H r x o v
  ij : ∀ (i j : Nat) (a : Addr), A[i]? = some (some a) → A[j]? = some (some a) → i = j
  dr : ∀ a, some a ∈ A → a ∉ r
  rn : r.Nodup
  lg : r.length = g.length
  st : ∀ (j : Nat) (a : Addr) (o : Ob), r[j]? = some a → g[j]? = some o → S a = none ∧ ObOk K S H r a o
  tb : TabsOk K S H
def inR (S H : Hp) (r : List Addr) (a : Addr) : Prop := a ∈ r ∨ isTab S H a
def tr (S H : Hp) (A : List (Option Addr)) (r : List Addr) : Addr → Prop := fun a => some a ∈ A ∨ inR S H r a
structure Mv (K : Kx) (S H : Hp) (r : List Addr) (A : List (Option Addr)) (S' H' : Hp) (r' : List Addr) (A' : List (Option Addr)) : Prop where
  s : Same S S'
  h : Same S' H'
  n : ∀ a, S a = none → H a ≠ none → ¬ tr S H A r a → S' a = none
  k : ∀ a o, ¬ tr S H A r a → H a = some o → H' a = some o
  d : ∀ a, H a ≠ none → H' a ≠ none
  p : ∃ q, r' = r ++ q
  f : ∀ a, tr S' H' A' r' a → tr S H A r a ∨ H a = none
  t : ∀ a, isTab S H a → isTab S' H' a
theorem tKeep {S H : Hp} : ∀ a, isTab S H a → isTab S H a := fun _ e => e
theorem tUpd {S H : Hp} {b : Addr} {o : HO} (hb : ∀ ps, H b ≠ some (.tbl ps)) : ∀ a, isTab S H a → isTab S (upd H b o) a := fun a ⟨e1, ps, e⟩ => ⟨e1, ps, by rw [upd_ne fun z => hb ps (by rw [← z]; exact e)]; exact e⟩
theorem tUpS {S H : Hp} {b : Addr} {o : HO} (hb : ∀ ps, H b ≠ some (.tbl ps)) : ∀ a, isTab S H a → isTab (upd S b o) H a := fun a ⟨e1, ps, e⟩ => ⟨by rw [upd_ne fun z => hb ps (by rw [← z]; exact e)]; exact e1, ps, e⟩
theorem tGrow {m : Addr → Prop} {S H S1 H1 : Hp} (q : GrowT m S H S1 H1) : ∀ a, isTab S H a → isTab S1 H1 a := fun a ⟨e1, ps, e⟩ => ⟨q.n a e1 (some_ne e), q.t a ps e⟩
theorem nodup_inj {α : Type} {xs : List α} (h : xs.Nodup) {i j : Nat} {a : α} (h1 : xs[i]? = some a) (h2 : xs[j]? = some a) : i = j := by
  obtain ⟨l1, e1⟩ := List.getElem?_eq_some_iff.mp h1
  obtain ⟨l2, e2⟩ := List.getElem?_eq_some_iff.mp h2
  rcases Nat.lt_trichotomy i j with q | q | q
  · exact absurd (e1.trans e2.symm) (List.pairwise_iff_getElem.mp h i j l1 l2 q)
  · exact q
  · exact absurd (e2.trans e1.symm) (List.pairwise_iff_getElem.mp h j i l2 l1 q)
section
variable {K : Kx} {l l' : Lo} {g g' : Sg} {s : L2.St} {H S H1 S1 H2 S2 : Hp} {r r1 r2 : List Addr} {A A1 A2 : List (Option Addr)} {x : Vl} {o : Option Addr} {v : Option V}
theorem Mv.refl (h : Same S H) : Mv K S H r A S H r A := ⟨Same.refl S, h, fun _ e _ _ => e, fun _ _ _ e => e, fun _ e => e, ⟨[], by simp⟩, fun _ h => .inl h, tKeep⟩
theorem Mv.trans (a : Mv K S H r A S1 H1 r1 A1) (b : Mv K S1 H1 r1 A1 S2 H2 r2 A2) : Mv K S H r A S2 H2 r2 A2 := by
  obtain ⟨q1, e1⟩ := a.p
  obtain ⟨q2, e2⟩ := b.p
  have nn : ∀ x, H1 x = none → H x = none := fun x h => by
    cases q : H x with
    | none => rfl
    | some u => exact absurd h (a.d x (some_ne q))
  refine ⟨a.s.trans b.s, b.h, fun x e q hm => b.n x (a.n x e q hm) (a.d x q) (fun z => (a.f x z).elim hm q), fun x u hm e => ?_, fun x e => b.d x (a.d x e), ⟨q1 ++ q2, by rw [e2, e1, List.append_assoc]⟩, fun x h => ?_, fun x e => b.t x (a.t x e)⟩
  · refine b.k x u (fun z => ?_) (a.k x u hm e)
    rcases a.f x z with q | q
    · exact hm q
    · rw [q] at e; cases e
  · rcases b.f x h with q | q
    · exact a.f x q
    · exact .inr (nn x q)
theorem tr_back {a : Addr} (h : tr S1 H1 A r a) (s : Same S S1) (k : ∀ o, H a = some o → (∃ ps, o = .tbl ps) ∨ H1 a = some o) : tr S H A r a ∨ H a = none := by
  rcases h with h | h | h
  · exact .inl (.inl h)
  · exact .inl (.inr (.inl h))
  · exact (h.back s k).imp (fun z => .inr (.inr z)) id
theorem isTab_upd {S H : Hp} {a b : Addr} {o : HO} (ho : ∀ ps, o ≠ .tbl ps) (h : isTab S (upd H b o) a) : isTab S H a := by
  obtain ⟨h1, ps, h2⟩ := h
  by_cases z : a = b
  · subst z; rw [upd_same] at h2; exact absurd (Option.some.inj h2) (ho ps)
  · rw [upd_ne z] at h2; exact ⟨h1, ps, h2⟩
theorem tr_upd {S H : Hp} {A : List (Option Addr)} {r : List Addr} {a b : Addr} {o : HO} (h : tr S (upd H b o) A r a) (ho : ∀ ps, o ≠ .tbl ps := by intro ps z; cases z) : tr S H A r a := h.imp id fun z => z.imp id (isTab_upd ho)
theorem dnO_tbl {P : Program} {w : World} {a : Addr} {xs : List (NestedKey × Addr × Value)} (ps : Array Value) : DnO P w a xs ≠ .tbl ps := fun z => by unfold DnO at z; cases z
theorem tr_upup {S H : Hp} {A : List (Option Addr)} {r : List Addr} {a b : Addr} {o : HO} (h : tr (upd S b o) (upd H b o) A r a) : tr S H A r a := h.imp id fun z => z.imp id fun ⟨e1, ps, e2⟩ => by
  have hab : a ≠ b := fun z => by rw [z, upd_same] at e1; cases e1
  rw [upd_ne hab] at e1 e2
  exact ⟨e1, ps, e2⟩
theorem tab_upup {S H : Hp} {a b : Addr} {o : HO} (hab : a ≠ b) (h : isTab S H a) : isTab (upd S b o) (upd H b o) a := by
  obtain ⟨e1, ps, e2⟩ := h
  exact ⟨by rw [upd_ne hab]; exact e1, ps, by rw [upd_ne hab]; exact e2⟩
theorem Mv.grow (q : Grow m0 S H S1 H1) : Mv K S H r A S1 H1 r A := ⟨q.s, q.f, fun a e1 e2 _ => q.n a e1 e2, fun a o _ e => q.all a o e, q.d, ⟨[], by simp⟩, fun _ h => tr_back h q.s fun o e => .inr (q.all _ o e), fun a ⟨e1, ps, e⟩ => ⟨q.n a e1 (some_ne e), ps, q.all a _ e⟩⟩
theorem SOk.go (h : SOk K S H r x o v) (hs : Same S S1) (hk : ∀ a, o = some a → S1 a = none ∧ ∀ u, H a = some u → H1 a = some u) (hr : ∃ q, r1 = r ++ q) : SOk K S1 H1 r1 x o v := by
  cases x with
  | no => exact h
  | dat d => obtain ⟨e, w, e2, q⟩ := h; exact ⟨e, w, e2, Dp_mono q hs⟩
  | own ds => obtain ⟨a, e1, e2, e3, xs, e4, e5⟩ := h; exact ⟨a, e1, e2, (hk a e1).1, xs, (hk a e1).2 _ e4, DpAll_mono e5 hs⟩
  | dct ds => obtain ⟨a, e1, e2, e3, xs, e4, e5⟩ := h; exact ⟨a, e1, e2, (hk a e1).1, xs, (hk a e1).2 _ e4, e5.mono hs⟩
  | dnk ds => obtain ⟨a, e1, e2, e3, xs, e4, e5⟩ := h; exact ⟨a, e1, e2, (hk a e1).1, xs, (hk a e1).2 _ e4, e5.mono hs⟩
  | ref j =>
    obtain ⟨e, a, e2, e3⟩ := h
    obtain ⟨q, rfl⟩ := hr
    exact ⟨e, a, by rw [List.getElem?_append_left (List.getElem?_eq_some_iff.mp e2).1]; exact e2, e3⟩
  | fn F => obtain ⟨e, w, e2, q⟩ := h; exact ⟨e, w, e2, q.mono hs⟩
  | xt ds => obtain ⟨e, w, e2, q⟩ := h; exact ⟨e, w, e2, q.mono hs⟩
  | os b ds => obtain ⟨e, w, e2, q⟩ := h; exact ⟨e, w, e2, q.go hs hr⟩
theorem FvOk.go {x : Fv} {v : V} (h : FvOk K S r x v) (hs : Same S S1) (hr : ∃ q, r1 = r ++ q) : FvOk K S1 r1 x v := by
  cases x with
  | dat d => exact Dp_mono h hs
  | ref j =>
    obtain ⟨a, e2, e3⟩ := h
    obtain ⟨q, rfl⟩ := hr
    exact ⟨a, by rw [List.getElem?_append_left (List.getElem?_eq_some_iff.mp e2).1]; exact e2, e3⟩
theorem FsOk.go {vs : List (Str × V)} {fs : List (Str × Fv)} (h : FsOk K S r vs fs) (hs : Same S S1) (hr : ∃ q, r1 = r ++ q) : FsOk K S1 r1 vs fs := Paired.mapP h fun _ _ q => ⟨q.1, q.2.go hs hr⟩
def ItsO (H H1 : Hp) (a : Addr) : Prop := ∀ b z, (b = a ∨ z = .own a) → H b = some z → H1 b = some z
theorem ItsO.of {a : Addr} (h : ∀ b z, H b = some z → H1 b = some z) : ItsO H H1 a := fun b z _ e => h b z e
theorem ItsO.upd {a b : Addr} {o u : HO} (hb : b ≠ a) (ho : H a = some o) (hn : ∀ c, o ≠ .own c) : ItsO H (upd H a u) b := fun c z hc e => by
  have : c ≠ a := by
    rcases hc with rfl | rfl
    · exact hb
    · exact fun q => by rw [q, ho] at e; exact hn b (Option.some.inj e)
  rw [upd_ne this]
  exact e
theorem ObOk.go {a : Addr} {u : Ob} (h : ObOk K S H r a u) (hs : Same S S1) (hk : ItsO H H1 a) (hr : ∃ q, r1 = r ++ q) : ObOk K S1 H1 r1 a u := by
  cases u with
  | lst ds => obtain ⟨xs, e1, e2⟩ := h; exact ⟨xs, hk _ _ (.inl rfl) e1, DpAll_mono e2 hs⟩
  | dct ds => obtain ⟨xs, e1, e2⟩ := h; exact ⟨xs, hk _ _ (.inl rfl) e1, e2.mono hs⟩
  | dnk ds => obtain ⟨xs, e1, e2⟩ := h; exact ⟨xs, hk _ _ (.inl rfl) e1, e2.mono hs⟩
  | ins C fs => obtain ⟨cls, dx, vs, e0, e1, e2, e3⟩ := h; exact ⟨cls, dx, vs, e0, hk _ _ (.inl rfl) e1, hk _ _ (.inr rfl) e2, e3.go hs hr⟩
theorem ObOk.there {a : Addr} {u : Ob} (h : ObOk K S H r a u) : H a ≠ none := by
  cases u with
  | lst ds => obtain ⟨xs, e1, e2⟩ := h; exact some_ne e1
  | dct ds => obtain ⟨xs, e1, e2⟩ := h; exact some_ne e1
  | dnk ds => obtain ⟨xs, e1, e2⟩ := h; exact some_ne e1
  | ins C fs => obtain ⟨cls, dx, vs, e0, e1, e2, e3⟩ := h; exact some_ne e1
theorem ObOk.noOwn {a : Addr} {u : Ob} (h : ObOk K S H r a u) : ∃ o, H a = some o ∧ ∀ c, o ≠ .own c := by
  cases u with
  | lst ds => obtain ⟨xs, e1, e2⟩ := h; exact ⟨_, e1, fun _ z => nomatch z⟩
  | dct ds => obtain ⟨xs, e1, e2⟩ := h; exact ⟨_, e1, fun _ z => nomatch z⟩
  | dnk ds => obtain ⟨xs, e1, e2⟩ := h; exact ⟨_, e1, fun _ z => nomatch z⟩
  | ins C fs => obtain ⟨cls, dx, vs, e0, e1, e2, e3⟩ := h; exact ⟨_, e1, fun _ z => nomatch z⟩
theorem SOk.noOwn {a : Addr} (h : SOk K S H r x (some a) v) : ∃ o, H a = some o ∧ ∀ c, o ≠ .own c := by
  cases x with
  | no => cases h
  | dat d => cases h.1
  | own ds => obtain ⟨a, e1, e2, e3, xs, e4, e5⟩ := h; cases e1; exact ⟨_, e4, fun _ z => nomatch z⟩
  | dct ds => obtain ⟨a, e1, e2, e3, xs, e4, e5⟩ := h; cases e1; exact ⟨_, e4, fun _ z => nomatch z⟩
  | dnk ds => obtain ⟨a, e1, e2, e3, xs, e4, e5⟩ := h; cases e1; exact ⟨_, e4, fun _ z => nomatch z⟩
  | ref j => cases h.1
  | fn F => cases h.1
  | xt ds => cases h.1
  | os b ds => cases h.1
theorem SOk.there {a : Addr} (h : SOk K S H r x (some a) v) : H a ≠ none ∧ S a = none := by
  cases x with
  | no => cases h
  | dat d => cases h.1
  | own ds => obtain ⟨a, e1, e2, e3, xs, e4, e5⟩ := h; cases e1; exact ⟨some_ne e4, e3⟩
  | dct ds => obtain ⟨a, e1, e2, e3, xs, e4, e5⟩ := h; cases e1; exact ⟨some_ne e4, e3⟩
  | dnk ds => obtain ⟨a, e1, e2, e3, xs, e4, e5⟩ := h; cases e1; exact ⟨some_ne e4, e3⟩
  | ref j => cases h.1
  | fn F => cases h.1
  | xt ds => cases h.1
  | os b ds => cases h.1
theorem StOk.thereA (h : StOk K l g s H S r A) {a : Addr} (e : some a ∈ A) : H a ≠ none ∧ S a = none := by
  obtain ⟨i, hi⟩ := List.mem_iff_getElem?.mp e
  have hl : i < l.length := by rw [← h.la]; exact (List.getElem?_eq_some_iff.mp hi).1
  obtain ⟨o, v, e1, e2, e3⟩ := h.ok i _ (List.getElem?_eq_getElem hl)
  rw [hi] at e1
  cases e1
  exact e3.there
theorem StOk.thereR (h : StOk K l g s H S r A) {a : Addr} (e : a ∈ r) : H a ≠ none ∧ S a = none := by
  obtain ⟨j, hj⟩ := List.mem_iff_getElem?.mp e
  have hl : j < g.length := by rw [← h.lg]; exact (List.getElem?_eq_some_iff.mp hj).1
  obtain ⟨q1, q2⟩ := h.st j a _ hj (List.getElem?_eq_getElem hl)
  exact ⟨q2.there, q1⟩
theorem StOk.there (h : StOk K l g s H S r A) {a : Addr} (e : tr S H A r a) : H a ≠ none ∧ S a = none := e.elim h.thereA fun e => e.elim h.thereR isTab.there
theorem SOk.noT {a : Addr} (h : SOk K S H r x (some a) v) (ps : Array Value) : H a ≠ some (.tbl ps) := by
  cases x with
  | no => cases h
  | dat d => cases h.1
  | own ds => obtain ⟨a, e1, e2, e3, xs, e4, e5⟩ := h; cases e1; rw [e4]; exact fun z => nomatch z
  | dct ds => obtain ⟨a, e1, e2, e3, xs, e4, e5⟩ := h; cases e1; rw [e4]; exact fun z => nomatch z
  | dnk ds => obtain ⟨a, e1, e2, e3, xs, e4, e5⟩ := h; cases e1; rw [e4]; exact fun z => nomatch z
  | ref j => cases h.1
  | fn F => cases h.1
  | xt ds => cases h.1
  | os b ds => cases h.1
theorem ObOk.noT {a : Addr} {u : Ob} (h : ObOk K S H r a u) (ps : Array Value) : H a ≠ some (.tbl ps) := by
  cases u with
  | lst ds => obtain ⟨xs, e1, e2⟩ := h; rw [e1]; exact fun z => nomatch z
  | dct ds => obtain ⟨xs, e1, e2⟩ := h; rw [e1]; exact fun z => nomatch z
  | dnk ds => obtain ⟨xs, e1, e2⟩ := h; rw [e1]; exact fun z => nomatch z
  | ins C fs => obtain ⟨cls, dx, vs, e0, e1, e2, e3⟩ := h; rw [e1]; exact fun z => nomatch z
theorem StOk.apartA (h : StOk K l g s H S r A) {a : Addr} (e : some a ∈ A) : ¬ isTab S H a := fun z => by
  obtain ⟨i, hi⟩ := List.mem_iff_getElem?.mp e
  have hl : i < l.length := by rw [← h.la]; exact (List.getElem?_eq_some_iff.mp hi).1
  obtain ⟨o, v, e1, e2, e3⟩ := h.ok i _ (List.getElem?_eq_getElem hl)
  rw [hi] at e1
  cases e1
  obtain ⟨_, ps, q⟩ := z
  exact e3.noT ps q
theorem StOk.apartR (h : StOk K l g s H S r A) {a : Addr} (e : a ∈ r) : ¬ isTab S H a := fun z => by
  obtain ⟨j, hj⟩ := List.mem_iff_getElem?.mp e
  have hl : j < g.length := by rw [← h.lg]; exact (List.getElem?_eq_some_iff.mp hj).1
  obtain ⟨q1, q2⟩ := h.st j a _ hj (List.getElem?_eq_getElem hl)
  obtain ⟨_, ps, q⟩ := z
  exact q2.noT ps q
theorem StOk.noOwnA (h : StOk K l g s H S r A) {a : Addr} (e : some a ∈ A) : ∃ o, H a = some o ∧ ∀ c, o ≠ .own c := by
  obtain ⟨i, hi⟩ := List.mem_iff_getElem?.mp e
  have hl : i < l.length := by rw [← h.la]; exact (List.getElem?_eq_some_iff.mp hi).1
  obtain ⟨o, v, e1, e2, e3⟩ := h.ok i _ (List.getElem?_eq_getElem hl)
  rw [hi] at e1
  cases e1
  exact e3.noOwn
theorem StOk.noOwnR (h : StOk K l g s H S r A) {a : Addr} (e : a ∈ r) : ∃ o, H a = some o ∧ ∀ c, o ≠ .own c := by
  obtain ⟨j, hj⟩ := List.mem_iff_getElem?.mp e
  have hl : j < g.length := by rw [← h.lg]; exact (List.getElem?_eq_some_iff.mp hj).1
  obtain ⟨q1, q2⟩ := h.st j a _ hj (List.getElem?_eq_getElem hl)
  exact q2.noOwn
theorem StOk.move (h : StOk K l g s H S r A) (hs : Same S S1) (hf : Same S1 H1) (hk : ∀ a, some a ∈ A → S1 a = none ∧ ∀ u, H a = some u → H1 a = some u) (hr : ∃ q, r1 = r ++ q) (rn : r1.Nodup) (dr : ∀ a, some a ∈ A → a ∉ r1) (lg : r1.length = g'.length)
    (st : ∀ (j : Nat) (a : Addr) (o : Ob), r1[j]? = some a → g'[j]? = some o → S1 a = none ∧ ObOk K S1 H1 r1 a o) (tb : TabsOk K S1 H1) : StOk K l g' s H1 S1 r1 A :=
  ⟨hf, h.la, h.ls, fun i x e => by
    obtain ⟨o, v, e1, e2, e3⟩ := h.ok i x e
    exact ⟨o, v, e1, e2, e3.go hs (fun a ea => hk a (by rw [← ea]; exact List.mem_of_getElem? e1)) hr⟩, h.ij, dr, rn, lg, st, tb⟩
theorem StOk.grow (h : StOk K l g s H S r A) (q : Grow m0 S H S1 H1) : StOk K l g s H1 S1 r A :=
  h.move q.s q.f (fun a ha => ⟨q.n a (h.thereA ha).2 (h.thereA ha).1, fun u e => q.all a u e⟩) ⟨[], by simp⟩ h.rn h.dr h.lg (fun j a o e1 e2 => by
    obtain ⟨q1, q2⟩ := h.st j a o e1 e2
    exact ⟨q.n a q1 q2.there, q2.go q.s (.of fun b z e => q.all b z e) ⟨[], by simp⟩⟩) (h.tb.grow q fun _ _ z => z)
theorem StOk.call (h : StOk K l g s H S r A) (q : GrowT (inR S H r) S H S1 H1) (hr : ∃ q, r1 = r ++ q) (rn : r1.Nodup) (hn : ∀ a, a ∈ r1 → a ∈ r ∨ H a = none) (lg : r1.length = g'.length)
    (st : ∀ (j : Nat) (a : Addr) (o : Ob), r1[j]? = some a → g'[j]? = some o → S1 a = none ∧ ObOk K S1 H1 r1 a o) (tb : TabsOk K S1 H1) : StOk K l g' s H1 S1 r1 A ∧ Mv K S H r A S1 H1 r1 A :=
  ⟨h.move q.s q.f (fun a ha => ⟨q.n a (h.thereA ha).2 (h.thereA ha).1, fun u e => q.k a u (fun z => z.elim (h.dr a ha) (h.apartA ha)) e⟩) hr rn (fun a ha z => (hn a z).elim (h.dr a ha) fun e => (h.thereA ha).1 e) lg st tb,
    ⟨q.s, q.f, fun a e1 e2 _ => q.n a e1 e2, fun a o hm e => q.k a o (fun z => hm (.inr z)) e, q.d, hr, fun a z => z.elim (fun z => .inl (.inl z)) fun z => z.elim (fun z => (hn a z).elim (fun z => .inl (.inr (.inl z))) .inr) fun z => by
      by_cases hm : inR S H r a
      · exact .inl (.inr hm)
      · exact (z.back q.s fun o e => .inr (q.k a o hm e)).imp (fun z => .inr (.inr z)) id, tGrow q⟩⟩
theorem StOk.set {i : Nat} {y : Vl} {w : V} (h : StOk K l g s H S r A) (ok : SOk K S H r y none (some w)) : StOk K (l.set i y) g (s.set i (some w)) H S r (A.set i none) :=
  ⟨h.hs, by rw [List.length_set, List.length_set]; exact h.la, by rw [List.length_set, List.length_set]; exact h.ls, fun j z e => by
    by_cases hij : i = j
    · subst hij
      have hl : i < l.length := by
        have := (List.getElem?_eq_some_iff.mp e).1
        rwa [List.length_set] at this
      rw [List.getElem?_set_self hl] at e
      cases e
      exact ⟨none, some w, List.getElem?_set_self (by rw [h.la]; exact hl), List.getElem?_set_self (by rw [h.ls]; exact hl), ok⟩
    · rw [List.getElem?_set_ne hij] at e ⊢
      rw [List.getElem?_set_ne hij]
      exact h.ok j z e, fun j k a e1 e2 => by
    by_cases hij : i = j
    · subst hij
      have hl : i < A.length := by
        have := (List.getElem?_eq_some_iff.mp e1).1
        rwa [List.length_set] at this
      rw [List.getElem?_set_self hl] at e1
      cases e1
    · by_cases hik : i = k
      · subst hik
        have hl : i < A.length := by
          have := (List.getElem?_eq_some_iff.mp e2).1
          rwa [List.length_set] at this
        rw [List.getElem?_set_self hl] at e2
        cases e2
      · rw [List.getElem?_set_ne hij] at e1
        rw [List.getElem?_set_ne hik] at e2
        exact h.ij j k a e1 e2, fun a ha => by
    rcases List.mem_or_eq_of_mem_set ha with q | q
    · exact h.dr a q
    · exact absurd q (by simp), h.rn, h.lg, h.st, h.tb⟩
theorem trset {i : Nat} {a : Addr} (h : tr S H (A.set i none) r a) : tr S H A r a := by
  rcases h with q | q
  · rcases List.mem_or_eq_of_mem_set q with q | q
    · exact .inl q
    · cases q
  · exact .inr q
theorem Mv.set {i : Nat} (h : Mv K S H r A S1 H1 r1 A1) : Mv K S H r A S1 H1 r1 (A1.set i none) := ⟨h.s, h.h, h.n, h.k, h.d, h.p, fun a z => h.f a (trset z), h.t⟩
theorem StOk.fresh {i : Nat} {y : Vl} {p : Addr} (h : StOk K l g s H S r A) (hA : some p ∉ A) (hr : p ∉ r) (ok : SOk K S H r y (some p) (some (.ref p))) : StOk K (l.set i y) g (s.set i (some (.ref p))) H S r (A.set i (some p)) :=
  ⟨h.hs, by rw [List.length_set, List.length_set]; exact h.la, by rw [List.length_set, List.length_set]; exact h.ls, fun j z e => by
    by_cases hij : i = j
    · subst hij
      have hl : i < l.length := by
        have := (List.getElem?_eq_some_iff.mp e).1
        rwa [List.length_set] at this
      rw [List.getElem?_set_self hl] at e
      cases e
      exact ⟨some p, some (.ref p), List.getElem?_set_self (by rw [h.la]; exact hl), List.getElem?_set_self (by rw [h.ls]; exact hl), ok⟩
    · rw [List.getElem?_set_ne hij] at e ⊢
      rw [List.getElem?_set_ne hij]
      exact h.ok j z e, fun j k a e1 e2 => by
    have key : ∀ m : Nat, (A.set i (some p))[m]? = some (some a) → (m = i ∧ a = p) ∨ (m ≠ i ∧ A[m]? = some (some a)) := fun m e => by
      by_cases him : i = m
      · subst him
        have hl : i < A.length := by
          have := (List.getElem?_eq_some_iff.mp e).1
          rwa [List.length_set] at this
        rw [List.getElem?_set_self hl] at e
        cases e
        exact .inl ⟨rfl, rfl⟩
      · rw [List.getElem?_set_ne him] at e
        exact .inr ⟨fun z => him z.symm, e⟩
    rcases key j e1 with ⟨q1, q2⟩ | ⟨q1, q2⟩
    · rcases key k e2 with ⟨q3, q4⟩ | ⟨q3, q4⟩
      · rw [q1, q3]
      · rw [q2] at q4; exact absurd (List.mem_of_getElem? q4) hA
    · rcases key k e2 with ⟨q3, q4⟩ | ⟨q3, q4⟩
      · rw [q4] at q2; exact absurd (List.mem_of_getElem? q2) hA
      · exact h.ij j k a q2 q4, fun a ha => by
    rcases List.mem_or_eq_of_mem_set ha with q | q
    · exact h.dr a q
    · exact (Option.some.inj q) ▸ hr, h.rn, h.lg, h.st, h.tb⟩
theorem Mv.fresh {i : Nat} {p : Addr} (h : Mv K S H r A S1 H1 r1 A1) (hp : H p = none) : Mv K S H r A S1 H1 r1 (A1.set i (some p)) := ⟨h.s, h.h, h.n, h.k, h.d, h.p, fun a z => by
  rcases z with q | q
  · rcases List.mem_or_eq_of_mem_set q with q | q
    · exact h.f a (.inl q)
    · cases q; exact .inr hp
  · exact h.f a (.inr q), h.t⟩
theorem StOk.putO {i : Nat} {y : Vl} {a : Addr} {u : HO} {w : Option V} (h : StOk K l g s H S r A) (hx : l[i]? = some x) (ha : A[i]? = some (some a)) (hw : s[i]? = some w) (ok : SOk K S (upd H a u) r y (some a) w) : StOk K (l.set i y) g s (upd H a u) S r A ∧ Mv K S H r A S (upd H a u) r A := by
  have ht := h.thereA (List.mem_of_getElem? ha)
  have hne : ∀ b, some b ∈ A → ∀ j, A[j]? = some (some b) → j ≠ i → b ≠ a := fun b _ j e z q => z (h.ij j i a (by rw [← q]; exact e) ha)
  have hs : Same S (upd H a u) := fun b z e => by rw [upd_ne (ne_of_none e ht.2)]; exact h.hs b z e
  have hu : ∀ ps, u ≠ .tbl ps := fun ps z => ok.noT ps (by rw [upd_same, z])
  refine ⟨⟨hs, by rw [List.length_set]; exact h.la, by rw [List.length_set]; exact h.ls, fun j z e => ?_, h.ij, h.dr, h.rn, h.lg, fun j b o e1 e2 => ?_, h.tb.go (Same.refl S) (fun b hb => (h.tb.there hb).2) fun b o hb e => ?_⟩, ⟨Same.refl S, hs, fun _ e _ _ => e, fun b z hm e => ?_, fun b e => ?_, ⟨[], by simp⟩, fun _ z => .inl (tr_upd z hu), tUpd fun ps z => h.apartA (List.mem_of_getElem? ha) ⟨ht.2, ps, z⟩⟩⟩
  · by_cases hij : i = j
    · subst hij
      have hl : i < l.length := (List.getElem?_eq_some_iff.mp hx).1
      rw [List.getElem?_set_self hl] at e
      cases e
      exact ⟨some a, w, ha, hw, ok⟩
    · rw [List.getElem?_set_ne hij] at e
      obtain ⟨o, v, e1, e2, e3⟩ := h.ok j z e
      refine ⟨o, v, e1, e2, e3.go (Same.refl S) (fun b eb => ?_) ⟨[], by simp⟩⟩
      subst eb
      refine ⟨e3.there.2, fun z e => ?_⟩
      rw [upd_ne (hne b (List.mem_of_getElem? e1) j e1 fun q => hij q.symm)]
      exact e
  · obtain ⟨q1, q2⟩ := h.st j b o e1 e2
    have hb : b ≠ a := fun z => h.dr a (List.mem_of_getElem? ha) (by rw [← z]; exact List.mem_of_getElem? e1)
    obtain ⟨oo, ho, hn⟩ := h.noOwnA (List.mem_of_getElem? ha)
    exact ⟨q1, q2.go (Same.refl S) (.upd hb ho hn) ⟨[], by simp⟩⟩
  · have hba : b ≠ a := fun q => h.apartA (List.mem_of_getElem? ha) (by rw [← q]; exact hb)
    rw [upd_ne hba]; exact e
  · have hb : b ≠ a := fun q => hm (.inl (by rw [q]; exact List.mem_of_getElem? ha))
    rw [upd_ne hb]; exact e
  · by_cases hb : b = a
    · subst hb; rw [upd_same]; exact fun q => nomatch q
    · rw [upd_ne hb]; exact e
theorem StOk.putR {j : Nat} {a : Addr} {u : HO} {o' : Ob} (h : StOk K l g s H S r A) (ha : r[j]? = some a) (ok : ObOk K S (upd H a u) r a o') : StOk K l (g.set j o') s (upd H a u) S r A ∧ Mv K S H r A S (upd H a u) r A := by
  have ht := h.thereR (List.mem_of_getElem? ha)
  have hs : Same S (upd H a u) := fun b z e => by rw [upd_ne (ne_of_none e ht.2)]; exact h.hs b z e
  have hu : ∀ ps, u ≠ .tbl ps := fun ps z => ok.noT ps (by rw [upd_same, z])
  refine ⟨h.move (Same.refl S) hs (fun b hb => ⟨(h.thereA hb).2, fun z e => ?_⟩) ⟨[], by simp⟩ h.rn h.dr (by rw [List.length_set]; exact h.lg) (fun k b o e1 e2 => ?_) (h.tb.go (Same.refl S) (fun b hb => (h.tb.there hb).2) fun b o hb e => ?_), ⟨Same.refl S, hs, fun _ e _ _ => e, fun b z hm e => ?_, fun b e => ?_, ⟨[], by simp⟩, fun _ z => .inl (tr_upd z hu), tUpd fun ps z => h.apartR (List.mem_of_getElem? ha) ⟨ht.2, ps, z⟩⟩⟩
  · rw [upd_ne fun q => h.dr b hb (by rw [q]; exact List.mem_of_getElem? ha)]; exact e
  · by_cases hjk : j = k
    · subst hjk
      have hl : j < g.length := by rw [← h.lg]; exact (List.getElem?_eq_some_iff.mp ha).1
      rw [List.getElem?_set_self hl] at e2
      rw [ha] at e1
      cases e1
      cases e2
      exact ⟨ht.2, ok⟩
    · rw [List.getElem?_set_ne hjk] at e2
      obtain ⟨q1, q2⟩ := h.st k b o e1 e2
      have hb : b ≠ a := fun q => by
        subst q
        exact hjk (nodup_inj h.rn ha e1)
      obtain ⟨oo, ho, hn⟩ := h.noOwnR (List.mem_of_getElem? ha)
      exact ⟨q1, q2.go (Same.refl S) (.upd hb ho hn) ⟨[], by simp⟩⟩
  · have hba : b ≠ a := fun q => h.apartR (List.mem_of_getElem? ha) (by rw [← q]; exact hb)
    rw [upd_ne hba]; exact e
  · have hb : b ≠ a := fun q => hm (.inr (.inl (by rw [q]; exact List.mem_of_getElem? ha)))
    rw [upd_ne hb]; exact e
  · by_cases hb : b = a
    · subst hb; rw [upd_same]; exact fun q => nomatch q
    · rw [upd_ne hb]; exact e
theorem StOk.freeze {i : Nat} {ds : List PyData} (h : StOk K l g s H S r A) (hx : l[i]? = some (.own ds)) : ∃ S1, StOk K (l.set i (.dat (.list ds))) g s H S1 r (A.set i none) ∧ Mv K S H r A S1 H r (A.set i none) := by
  obtain ⟨o, v, e1, e2, a, rfl, rfl, e3, xs, e4, e5⟩ := h.ok i _ hx
  have hm : Same S (upd S a (.lst xs)) := same_up e3
  have hil : i < l.length := (List.getElem?_eq_some_iff.mp hx).1
  have hf : Same (upd S a (.lst xs)) H := fun b z e => by
    by_cases hb : b = a
    · subst hb; rw [upd_same] at e; cases e; exact e4
    · rw [upd_ne hb] at e; exact h.hs b z e
  refine ⟨upd S a (.lst xs), ⟨hf, by rw [List.length_set, List.length_set]; exact h.la, by rw [List.length_set]; exact h.ls, fun j z e => ?_, fun j k b q1 q2 => ?_, fun b hb => ?_, h.rn, h.lg, fun j b o q1 q2 => ?_, h.tb.go hm (fun b hb => ?_) fun b o _ e => e⟩, ⟨hm, hf, fun b q1 q2 q3 => ?_, fun b z _ e => e, fun b e => e, ⟨[], by simp⟩, fun b z => tr_back (trset z) hm fun o e => .inr e, tUpS fun ps z => by rw [e4] at z; cases z⟩⟩
  · by_cases hij : i = j
    · subst hij
      rw [List.getElem?_set_self hil] at e
      cases e
      exact ⟨none, _, List.getElem?_set_self (by rw [h.la]; exact hil), e2, rfl, _, rfl, .lst (.inl (.inl upd_same)) (DpAll_mono e5 hm)⟩
    · rw [List.getElem?_set_ne hij] at e ⊢
      obtain ⟨o, v, q1, q2, q3⟩ := h.ok j z e
      refine ⟨o, v, q1, q2, q3.go hm (fun b eb => ?_) ⟨[], by simp⟩⟩
      subst eb
      have hb : b ≠ a := fun q => hij (h.ij i j a e1 (by rw [← q]; exact q1))
      exact ⟨by rw [upd_ne hb]; exact q3.there.2, fun z e => e⟩
  · have key : ∀ m : Nat, (A.set i none)[m]? = some (some b) → A[m]? = some (some b) := fun m e => by
      by_cases him : i = m
      · subst him
        rw [List.getElem?_set_self (by rw [h.la]; exact hil)] at e
        cases e
      · rw [List.getElem?_set_ne him] at e
        exact e
    exact h.ij j k b (key j q1) (key k q2)
  · rcases List.mem_or_eq_of_mem_set hb with q | q
    · exact h.dr b q
    · cases q
  · obtain ⟨q3, q4⟩ := h.st j b o q1 q2
    have hb : b ≠ a := fun z => h.dr a (List.mem_of_getElem? e1) (by rw [← z]; exact List.mem_of_getElem? q1)
    exact ⟨by rw [upd_ne hb]; exact q3, q4.go hm (.of fun _ z e => e) ⟨[], by simp⟩⟩
  · have hba : b ≠ a := fun q => h.apartA (List.mem_of_getElem? e1) (by rw [← q]; exact hb)
    rw [upd_ne hba]; exact (h.tb.there hb).2
  · have hb : b ≠ a := fun z => q3 (.inl (by rw [z]; exact List.mem_of_getElem? e1))
    rw [upd_ne hb]; exact q1
end
end Sm

namespace Sm
open PySem L2 RZ Dz

def EvS (K : Kx) (te : TE) (e : M PyData) : Prop := ∀ l g d l' g' s H S r A, e l g = some (d, l', g') → StOk K l g s H S r A → ∀ Q : VK, (∀ v H' S' r' A', Mv K S H r A S' H' r' A' → StOk K l' g' s H' S' r' A' → Dp K S' v d → Q v H') → te s H Q
def EvT (K : Kx) (tt : TT) (e : M Bool) : Prop := ∀ l g b l' g' s H S r A, e l g = some (b, l', g') → StOk K l g s H S r A → ∀ Q : Bool → Hp → Prop, (∀ H' S' r' A', Mv K S H r A S' H' r' A' → StOk K l' g' s H' S' r' A' → Q b H') → tt s H Q
def EvA (K : Kx) (ta : TA) (e : M (List PyData)) : Prop := ∀ l g ds l' g' s H S r A, e l g = some (ds, l', g') → StOk K l g s H S r A → ∀ Q : List V → Hp → Prop, (∀ vs H' S' r' A', Mv K S H r A S' H' r' A' → StOk K l' g' s H' S' r' A' → DpAll K S' vs ds → Q vs H') → ta s H Q
def EvO (K : Kx) (to : TO) (e : M (Option Int)) : Prop := ∀ l g o l' g' s H S r A, e l g = some (o, l', g') → StOk K l g s H S r A → ∀ Q : Option Int → Hp → Prop, (∀ H' S' r' A', Mv K S H r A S' H' r' A' → StOk K l' g' s H' S' r' A' → Q o H') → to s H Q
def EvL (K : Kx) (te : TE) (e : M (List PyData)) : Prop := ∀ l g ds l' g' s H S r A, e l g = some (ds, l', g') → StOk K l g s H S r A → ∀ Q : VK, (∀ p xs H' S' r' A', Mv K S H r A S' H' r' A' → StOk K l' g' s H' S' r' A' → H p = none → ¬ tr S' H' A' r' p → S' p = none → H' p = some (.lst xs) → DpAll K S' xs ds → Q (.ref p) H') → te s H Q
def EvC (K : Kx) (te : TE) (e : M (List (Key × PyData))) : Prop := ∀ l g ds l' g' s H S r A, e l g = some (ds, l', g') → StOk K l g s H S r A → ∀ Q : VK, (∀ p xs H' S' r' A', Mv K S H r A S' H' r' A' → StOk K l' g' s H' S' r' A' → H p = none → ¬ tr S' H' A' r' p → S' p = none → H' p = some (.dK xs) → KvD K S' xs ds → Q (.ref p) H') → te s H Q
def EvI (K : Kx) (wi : TI) (e : M (List PyData)) : Prop := ∀ l g ds l' g' s H S r A, e l g = some (ds, l', g') → StOk K l g s H S r A → ∀ R : It → Hp → Prop, (∀ J H' S' r' A', Mv K S H r A S' H' r' A' → StOk K l' g' s H' S' r' A' → WalkD K J S' ds → R J H') → wi s H R
def VOk (K : Kx) (S : Hp) (r : List Addr) (v : V) : Vl → Prop
  | .dat d => Dp K S v d
  | .ref j => ∃ a, r[j]? = some a ∧ v = .ref a
  | .fn F => FnV K S v F
  | .xt ds => XtV K S v ds
  | .os b xs => OsV K S r b xs v
  | _ => False
def VsOk (K : Kx) (S : Hp) (r : List Addr) : List V → List Vl → Prop := Paired (VOk K S r)
def EvV (K : Kx) (te : TE) (e : M Vl) : Prop := ∀ l g d l' g' s H S r A, e l g = some (d, l', g') → StOk K l g s H S r A → ∀ Q : VK, (∀ v H' S' r' A', Mv K S H r A S' H' r' A' → StOk K l' g' s H' S' r' A' → VOk K S' r' v d → Q v H') → te s H Q
def EvVA (K : Kx) (ta : TA) (e : M (List Vl)) : Prop := ∀ l g ds l' g' s H S r A, e l g = some (ds, l', g') → StOk K l g s H S r A → ∀ Q : List V → Hp → Prop, (∀ vs H' S' r' A', Mv K S H r A S' H' r' A' → StOk K l' g' s H' S' r' A' → VsOk K S' r' vs ds → Q vs H') → ta s H Q
theorem VOk.go {K : Kx} {S S1 : Hp} {r r1 : List Addr} {v : V} {x : Vl} (h : VOk K S r v x) (hs : Same S S1) (hr : ∃ q, r1 = r ++ q) : VOk K S1 r1 v x := by
  cases x with
  | dat d => exact Dp_mono h hs
  | ref j =>
    obtain ⟨a, e2, e3⟩ := h
    obtain ⟨q, rfl⟩ := hr
    exact ⟨a, by rw [List.getElem?_append_left (List.getElem?_eq_some_iff.mp e2).1]; exact e2, e3⟩
  | no => exact h
  | own ds => exact h
  | dct ds => exact h
  | dnk ds => exact h
  | fn F => exact FnV.mono h hs
  | xt ds => exact XtV.mono h hs
  | os b ds => exact OsV.go h hs hr
theorem VsOk.go {K : Kx} {S S1 : Hp} {r r1 : List Addr} {v : List V} {x : List Vl} (h : VsOk K S r v x) (hs : Same S S1) (hr : ∃ q, r1 = r ++ q) : VsOk K S1 r1 v x := Paired.mapP h fun _ _ q => q.go hs hr

def fail {α : Type} : M α := fun _ _ => none
def eVar (i : Nat) : M PyData := fun l g => match l[i]? with
  | some (.dat d) => some (d, l, g)
  | some (.xt ds) => some (.tuple ds, l, g)
  | _ => none
def eC (d : PyData) : M PyData := mp d
def eOp (f : PyData → PyData → Option PyData) (a b : M PyData) : M PyData := mb a fun x => mb b fun y => mo (f x y)
def eUn (f : PyData → Option PyData) (a : M PyData) : M PyData := mb a fun x => mo (f x)
def aNil : M (List PyData) := mp []
def aCons (a : M PyData) (r : M (List PyData)) : M (List PyData) := mb a fun x => mb r fun xs => mp (x :: xs)
def eCB (f : List PyData → Option PyData) (a : M (List PyData)) : M PyData := mb a fun xs => mo (f xs)
def smallO {α : Type} (n : Nat) (a : α) : Option α := if n ≤ 4000000 then some a else none
def eTup (a : M (List PyData)) : M PyData := mb a fun xs => mo (smallO xs.length (.tuple xs))
def eL (m : M (List PyData)) : M PyData := mb m fun xs => mp (.list xs)
def lLst (a : M (List PyData)) : M (List PyData) := mb a fun xs => mo (smallO xs.length xs)
def eIf (t : M Bool) (a b : M PyData) : M PyData := mb t fun c => if c = true then a else b
def truO : PyData → Option Bool
  | .str y => if y.length ≤ 4000000 then some ((y.length : Int) != 0) else none
  | d => some (truD d)
def eAnd (a b : M PyData) : M PyData := mb a fun x => mb (mo (truO x)) fun c => if c = true then b else mp x
def eOr (a b : M PyData) : M PyData := mb a fun x => mb (mo (truO x)) fun c => if c = true then mp x else b
def eNot (a : M PyData) : M PyData := mb a fun x => mo ((truO x).map fun c => .bool (!c))
def eIsN (a : M PyData) : M PyData := mb a fun x => mp (.bool (isN x))
def eNotN (a : M PyData) : M PyData := mb a fun x => mp (.bool (!isN x))
def asB : PyData → Option Bool
  | .bool b => some b
  | _ => none
def asI : PyData → Option Int
  | .int b => some b
  | _ => none
def eChain (f f' : PyData → PyData → Option PyData) (a b c : M PyData) : M PyData := mb a fun x => mb b fun y => mb (mo ((f x y).bind asB)) fun z => if z = true then mb c fun w => mo (f' y w) else mp (.bool false)
def bTest (a : M PyData) : M Bool := mb a fun x => mo (asB x)
def bTru (a : M PyData) : M Bool := mb a fun x => mo (truO x)
def bNot (t : M Bool) : M Bool := mb t fun b => mp (!b)
def bAnd (t u : M Bool) : M Bool := mb t fun b => if b = true then u else mp false
def bOr (t u : M Bool) : M Bool := mb t fun b => if b = true then mp true else u
def bYes : M Bool := mp true
def oNone : M (Option Int) := mp none
def oSome (a : M PyData) : M (Option Int) := mb a fun x => mb (mo (asI x)) fun i => mp (some i)
def slD (d : PyData) (lo hi : Option Int) : Option PyData := match d with
  | .list ds => some (.list (cutD ds lo hi))
  | .tuple ds => some (.tuple (cutD ds lo hi))
  | _ => none
def eSl (a : M PyData) (lo hi : M (Option Int)) : M PyData := mb a fun x => mb lo fun i => mb hi fun j => mo (slD x i j)

def RDO (K : Kx) (r : R2) (f : PyData → PyData → Option PyData) : Prop := ∀ a b c, f a b = some c → RD K r a b c
def RUO (K : Kx) (r : V → Hp → VK → Prop) (f : PyData → Option PyData) : Prop := ∀ a c, f a = some c → RUD K r a c
def RCO (K : Kx) (r : List V → Hp → VK → Prop) (f : List PyData → Option PyData) : Prop := ∀ a c, f a = some c → RCD K r a c
def iOp (h : Int → Int → PyData) : PyData → PyData → Option PyData
  | .int i, .int j => some (h i j)
  | _, _ => none
def iOpC (C : Int → Int → Bool) (h : Int → Int → PyData) : PyData → PyData → Option PyData
  | .int i, .int j => if C i j = true then some (h i j) else none
  | _, _ => none
def subD := iOp fun i j => .int (i - j)
def ltD := iOp fun i j => .bool (decide (i < j))
def leD := iOp fun i j => .bool (decide (i ≤ j))
def gtD := iOp fun i j => .bool (decide (j < i))
def geD := iOp fun i j => .bool (decide (j ≤ i))
def modD := iOpC (fun _ j => decide (0 < j)) fun i j => .int (i % j)
def fdivD := iOpC (fun _ j => decide (0 < j) && decide (j < 1073741824)) fun i j => .int (i / j)
def mulD := iOpC (fun i j => (decide (-(2 ^ 64) < i) && decide (i < 2 ^ 64)) || (decide (-(2 ^ 64) < j) && decide (j < 2 ^ 64))) fun i j => .int (i * j)
def plusD : PyData → PyData → Option PyData
  | .int i, .int j => some (.int (i + j))
  | .list xs, .list ys => if xs.length + ys.length ≤ 4000000 then some (.list (xs ++ ys)) else none
  | .tuple xs, .tuple ys => if xs.length + ys.length ≤ 4000000 then some (.tuple (xs ++ ys)) else none
  | .str i, .str j => if i.length + j.length ≤ 4000000 then some (.str (i ++ j)) else none
  | _, _ => none
def negD : PyData → Option PyData
  | .int i => some (.int (-i))
  | _ => none
def eqD (a b : PyData) : Option PyData := if SeqAt.shaped a = true ∧ SeqAt.shaped b = true then some (.bool (PyData.eqv a b)) else match a, b with
  | .str x, .str y => some (.bool (decide (x = y)))
  | .str _, .int _ => some (.bool false)
  | .int _, .str _ => some (.bool false)
  | _, _ => none
def neD (a b : PyData) : Option PyData := (eqD a b).map fun x => match x with
  | .bool c => .bool (!c)
  | x => x
def ixD (a b : PyData) : Option PyData := match a, b with
  | .tuple ds, .int i => atI ds i
  | .list ds, .int i => atI ds i
  | _, _ => none
def inFD (neg : Bool) (a b : PyData) : Option PyData := if flatD a = true then match b with
  | .list ds => if ds.all flatD = true then some (.bool (if neg then !inF a ds else inF a ds)) else none
  | .tuple ds => if ds.all flatD = true then some (.bool (if neg then !inF a ds else inF a ds)) else none
  | _ => none
  else none
def inDD (neg : Bool) (a b : PyData) : Option PyData := match b with
  | .list ds => if SeqAt.shaped a = true ∧ SeqAt.shaped (.list ds) = true then some (.bool (if neg then !ds.any fun z => PyData.eqv z a else ds.any fun z => PyData.eqv z a)) else none
  | _ => none
section
variable {K : Kx}
theorem ro_I0 {g : Int → Int → V} {h : Int → Int → PyData} (q : ∀ S i j, Dp K S (g i j) (h i j)) : RDO K (rI0 g) (iOp h) := fun a b c e => by
  unfold iOp at e
  split at e
  · cases e; exact rd_I0 fun S => q S _ _
  · cases e
theorem ro_IC {C : Int → Int → Prop} {C' : Int → Int → Bool} {g : Int → Int → V} {h : Int → Int → PyData} (q : ∀ S i j, Dp K S (g i j) (h i j)) (hc : ∀ i j, C' i j = true → C i j) : RDO K (rI C g) (iOpC C' h) := fun a b c e => by
  unfold iOpC at e
  split at e
  · split at e
    · rename_i hq
      cases e; exact rd_I (hc _ _ hq) fun S => q S _ _
    · cases e
  · cases e
theorem ro_sub : RDO K (rI0 fun i j => .int (i - j)) subD := ro_I0 fun _ _ _ => .int _
theorem ro_lt : RDO K (rI0 fun i j => .bl (decide (i < j))) ltD := ro_I0 fun _ _ _ => .bl _
theorem ro_le : RDO K (rI0 fun i j => .bl (decide (i ≤ j))) leD := ro_I0 fun _ _ _ => .bl _
theorem ro_gt : RDO K (rI0 fun i j => .bl (decide (j < i))) gtD := ro_I0 fun _ _ _ => .bl _
theorem ro_ge : RDO K (rI0 fun i j => .bl (decide (j ≤ i))) geD := ro_I0 fun _ _ _ => .bl _
theorem ro_mod : RDO K (rI (fun _ j => 0 < j) fun i j => .int (i % j)) modD := ro_IC (fun _ _ _ => .int _) fun i j h => by simpa using h
theorem ro_fdiv : RDO K (rI CDiv fun i j => .int (i / j)) fdivD := ro_IC (fun _ _ _ => .int _) fun i j h => by
  simp at h
  exact ⟨h.1, h.2⟩
theorem ro_times : RDO K rTimes mulD := fun a b c e => rd_l (ro_IC (C := CMul) (g := fun i j => .int (i * j)) (fun _ _ _ => .int _) (fun i j h => by
  simp only [Bool.or_eq_true, Bool.and_eq_true, decide_eq_true_eq] at h
  exact h) a b c e)
theorem ro_plus : RDO K (rPlus K) plusD := fun a b c e => by
  unfold plusD at e
  split at e
  · cases e; exact rd_plusI
  · split at e
    · cases e; exact rd_plusL (by assumption)
    · cases e
  · split at e
    · cases e; exact rd_plusT (by assumption)
    · cases e
  · split at e
    · cases e; exact rd_plusS (by assumption)
    · cases e
  · cases e
theorem ro_neg : RUO K (rU fun i => .int (-i)) negD := fun a c e => by
  unfold negD at e
  split at e
  · cases e; exact rud_U fun _ => .int _
  · cases e
theorem ro_eq : RDO K (rEqA K) eqD := fun a b c e => by
  unfold eqD at e
  split at e
  · rename_i h
    cases e; exact rd_eqD h.1 h.2
  · split at e
    · cases e; exact rd_eqA rd_eqS
    · cases e; exact rd_eqA rd_eqSI
    · cases e; exact rd_eqA rd_eqIS
    · cases e
theorem ro_ne : RDO K (rNeA K) neD := fun a b c e => by
  unfold neD eqD at e
  split at e
  · rename_i h
    cases e; exact rd_neD h.1 h.2
  · split at e
    · cases e; exact rd_neA rd_neS
    · cases e; exact rd_neA rd_neSI
    · cases e; exact rd_neA rd_neIS
    · cases e
theorem ro_ix : RDO K (rIx K) ixD := fun a b c e => by
  unfold ixD at e
  split at e
  · exact rd_ixT e
  · exact rd_ixL e
  · cases e
theorem ro_in {neg : Bool} : RDO K (rIn K neg) (inFD neg) := fun a b c e => by
  unfold inFD at e
  split at e
  · rename_i hf
    split at e
    · split at e
      · rename_i hq; cases e; exact rd_inL hf hq
      · cases e
    · split at e
      · rename_i hq; cases e; exact rd_inT hf hq
      · cases e
    · cases e
  · cases e
end
section
variable {K : Kx} {ta tb te tc : TE} {tt tu : TT} {a b c : M PyData} {t u : M Bool} {r0 : R2}
theorem s_var {i : Nat} : EvS K (tVar i) (eVar i) := fun l g d l' g' s H S r A e h Q q => by
  unfold eVar at e
  split at e
  · rename_i d' hl
    cases e
    obtain ⟨o, v, e1, e2, e3, w, rfl, e4⟩ := h.ok i _ hl
    exact ⟨w, e2, q w H S r A (Mv.refl h.hs) h e4⟩
  · rename_i d' hl
    cases e
    obtain ⟨o, v, e1, e2, e3, w, rfl, e4⟩ := h.ok i _ hl
    exact ⟨w, e2, q w H S r A (Mv.refl h.hs) h e4.dp⟩
  · cases e
theorem s_int {i : Int} : EvS K (tC (.int i)) (eC (.int i)) := fun l g d l' g' s H S r A e h Q q => by
  obtain ⟨rfl, rfl, rfl⟩ := mp_some e
  exact q _ H S r A (Mv.refl h.hs) h (.int i)
theorem s_bl {i : Bool} : EvS K (tC (.bl i)) (eC (.bool i)) := fun l g d l' g' s H S r A e h Q q => by
  obtain ⟨rfl, rfl, rfl⟩ := mp_some e
  exact q _ H S r A (Mv.refl h.hs) h (.bl i)
theorem s_str {i : Str} : EvS K (tC (.str i)) (eC (.str i)) := fun l g d l' g' s H S r A e h Q q => by
  obtain ⟨rfl, rfl, rfl⟩ := mp_some e
  exact q _ H S r A (Mv.refl h.hs) h (.str i)
theorem s_non : EvS K (tC .non) (eC .none) := fun l g d l' g' s H S r A e h Q q => by
  obtain ⟨rfl, rfl, rfl⟩ := mp_some e
  exact q _ H S r A (Mv.refl h.hs) h .non
theorem s_op {f : PyData → PyData → Option PyData} (hr : RDO K r0 f) (ha : EvS K ta a) (hb : EvS K tb b) : EvS K (tOp r0 ta tb) (eOp f a b) := fun l g d l' g' s H S r A e h Q q => by
  replace e := mb_some e; obtain ⟨x, l1, g1, e1, e⟩ := e
  replace e := mb_some e; obtain ⟨y, l2, g2, e2, e⟩ := e
  replace e := mo_some e; obtain ⟨e, rfl, rfl⟩ := e
  refine ha _ _ _ _ _ s H S r A e1 h _ fun v1 H1 S1 r1 A1 m1 h1 d1 => hb _ _ _ _ _ s H1 S1 r1 A1 e2 h1 _ fun v2 H2 S2 r2 A2 m2 h2 d2 => ?_
  exact hr x y d e v1 v2 S2 H2 Q h2.hs (Dp_mono d1 m2.s) d2 fun v S3 H3 g3 d3 => q v H3 S3 r2 A2 ((m1.trans m2).trans (Mv.grow g3)) (h2.grow g3) d3
theorem s_un {r : V → Hp → VK → Prop} {f : PyData → Option PyData} (hr : RUO K r f) (ha : EvS K ta a) : EvS K (tUn r ta) (eUn f a) := fun l g d l' g' s H S r A e h Q q => by
  replace e := mb_some e; obtain ⟨x, l1, g1, e1, e⟩ := e
  replace e := mo_some e; obtain ⟨e, rfl, rfl⟩ := e
  refine ha _ _ _ _ _ s H S r A e1 h _ fun v1 H1 S1 r1 A1 m1 h1 d1 => ?_
  exact hr x d e v1 S1 H1 Q h1.hs d1 fun v S3 H3 g3 d3 => q v H3 S3 r1 A1 (m1.trans (Mv.grow g3)) (h1.grow g3) d3
theorem s_nil : EvA K tNil aNil := fun l g d l' g' s H S r A e h Q q => by
  obtain ⟨rfl, rfl, rfl⟩ := mp_some e
  exact q _ H S r A (Mv.refl h.hs) h .nil
theorem s_cons {tr : TA} {m : M (List PyData)} (ha : EvS K ta a) (hb : EvA K tr m) : EvA K (tCons ta tr) (aCons a m) := fun l g d l' g' s H S r A e h Q q => by
  replace e := mb_some e; obtain ⟨x, l1, g1, e1, e⟩ := e
  replace e := mb_some e; obtain ⟨y, l2, g2, e2, e⟩ := e
  obtain ⟨rfl, rfl, rfl⟩ := mp_some e
  exact ha _ _ _ _ _ s H S r A e1 h _ fun v1 H1 S1 r1 A1 m1 h1 d1 => hb _ _ _ _ _ s H1 S1 r1 A1 e2 h1 _ fun v2 H2 S2 r2 A2 m2 h2 d2 => q _ H2 S2 r2 A2 (m1.trans m2) h2 (.cons (Dp_mono d1 m2.s) d2)
theorem s_cb {rr : List V → Hp → VK → Prop} {tr : TA} {m : M (List PyData)} {f : List PyData → Option PyData} (hr : RCO K rr f) (ha : EvA K tr m) : EvS K (tCB rr tr) (eCB f m) := fun l g d l' g' s H S r A e h Q q => by
  replace e := mb_some e; obtain ⟨x, l1, g1, e1, e⟩ := e
  replace e := mo_some e; obtain ⟨e, rfl, rfl⟩ := e
  refine ha _ _ _ _ _ s H S r A e1 h _ fun v1 H1 S1 r1 A1 m1 h1 d1 => ?_
  exact hr x d e v1 S1 H1 Q h1.hs d1 fun v S3 H3 g3 d3 => q v H3 S3 r1 A1 (m1.trans (Mv.grow g3)) (h1.grow g3) d3
theorem smallO_some {α : Type} {n : Nat} {a b : α} (h : smallO n a = some b) : n ≤ 4000000 ∧ b = a := by
  unfold smallO at h
  split at h
  · cases h; exact ⟨by assumption, rfl⟩
  · cases h
theorem s_tup {tr : TA} {m : M (List PyData)} (ha : EvA K tr m) : EvS K (tTup tr) (eTup m) := fun l g d l' g' s H S r A e h Q q => by
  replace e := mb_some e; obtain ⟨x, l1, g1, e1, e⟩ := e
  replace e := mo_some e; obtain ⟨e, rfl, rfl⟩ := e
  obtain ⟨hz, rfl⟩ := smallO_some e
  exact ha _ _ _ _ _ s H S r A e1 h _ fun v1 H1 S1 r1 A1 m1 h1 d1 => ⟨szl (by rw [DpAll_len d1]; exact hz), new_tup h1.hs d1 fun v S3 H3 g3 d3 => q v H3 S3 r1 A1 (m1.trans (Mv.grow g3)) (h1.grow g3) d3⟩
theorem StOk.take {l : Lo} {g : Sg} {s : L2.St} {H S : Hp} {r : List Addr} {A : List (Option Addr)} {D : Addr} {o : HO} (h : StOk K l g s H S r A) (ht : ¬ tr S H A r D) (hS : S D = none) (hx : H D = some o) (ho : ∀ φ, o ≠ .ext φ := by intro φ z; cases z) : StOk K l g s H (upd S D o) r A := by
  have hm : Same S (upd S D o) := same_up hS
  refine h.move hm (fun b z e => ?_) (fun b hb => ⟨?_, fun u e => e⟩) ⟨[], by simp⟩ h.rn h.dr h.lg (fun j b u e1 e2 => ?_) (h.tb.go hm (fun b hb => ?_) (fun _ _ _ e => e) (no_ext ho))
  · by_cases hb : b = D
    · subst hb; rw [upd_same] at e; cases e; exact hx
    · rw [upd_ne hb] at e; exact h.hs b z e
  · have : b ≠ D := fun z => ht (.inl (by rw [← z]; exact hb))
    rw [upd_ne this]; exact (h.thereA hb).2
  · obtain ⟨q1, q2⟩ := h.st j b u e1 e2
    have : b ≠ D := fun z => ht (.inr (.inl (by rw [← z]; exact List.mem_of_getElem? e1)))
    exact ⟨by rw [upd_ne this]; exact q1, q2.go hm (.of fun _ z e => e) ⟨[], by simp⟩⟩
  · have : b ≠ D := fun z => ht (.inr (.inr (by rw [← z]; exact hb)))
    rw [upd_ne this]; exact (h.tb.there hb).2
theorem Mv.take {S H S1 H1 : Hp} {r r1 : List Addr} {A A1 : List (Option Addr)} {D : Addr} {o : HO} (h : Mv K S H r A S1 H1 r1 A1) (h0 : H D = none) (hS : S1 D = none) (hx : H1 D = some o) (ho : ∀ ps, o ≠ .tbl ps := by intro ps z; cases z) : Mv K S H r A (upd S1 D o) H1 r1 A1 :=
  ⟨h.s.trans (same_up hS), fun b z e => by
    by_cases hb : b = D
    · subst hb; rw [upd_same] at e; cases e; exact hx
    · rw [upd_ne hb] at e; exact h.h b z e, fun b q1 q2 q3 => by
    have : b ≠ D := fun z => q2 (by rw [z]; exact h0)
    rw [upd_ne this]; exact h.n b q1 q2 q3, h.k, h.d, h.p, fun a z => (tr_back z (same_up hS) fun o e => .inr e).elim (h.f a) fun e => .inr (by
      cases q : H a with
      | none => rfl
      | some u => exact absurd e (h.d a (some_ne q))), fun a e => tUpS (fun ps z => ho ps (Option.some.inj (hx.symm.trans z))) a (h.t a e)⟩
theorem s_ofL {m : M (List PyData)} (h : EvL K te m) : EvS K te (eL m) := fun l g d l' g' s H S r A e hA Q q => by
  replace e := mb_some e; obtain ⟨x, l1, g1, e1, e⟩ := e
  obtain ⟨rfl, rfl, rfl⟩ := mp_some e
  exact h _ _ _ _ _ s H S r A e1 hA _ fun p xs H1 S1 r1 A1 m1 h1 hp ht sp hx hd => q _ H1 _ r1 A1 (m1.take hp sp hx) (h1.take ht sp hx) (.lst (.inl (.inl upd_same)) (DpAll_mono hd (same_up sp)))
theorem new_l {l : Lo} {g : Sg} {s : L2.St} {H S H1 S1 : Hp} {r r1 : List Addr} {A A1 : List (Option Addr)} {xs : List V} {ds : List PyData} {Q : VK} (m1 : Mv K S H r A S1 H1 r1 A1) (h1 : StOk K l g s H1 S1 r1 A1) (hd : DpAll K S1 xs ds)
    (q : ∀ p xs H' S' r' A', Mv K S H r A S' H' r' A' → StOk K l g s H' S' r' A' → H p = none → ¬ tr S' H' A' r' p → S' p = none → H' p = some (.lst xs) → DpAll K S' xs ds → Q (.ref p) H') : ∀ p, H1 p = none → Q (.ref p) (upd H1 p (.lst xs)) := fun p hp => by
  have g2 : Grow m0 S1 H1 S1 (upd H1 p (.lst xs)) := Grow.out h1.hs hp
  refine q p xs _ S1 r1 A1 (m1.trans (Mv.grow g2)) (h1.grow g2) ?_ (fun z => (h1.there (tr_upd z)).1 hp) (h1.hs.free hp) upd_same hd
  cases hq : H p with
  | none => rfl
  | some u => exact absurd hp (m1.d p (some_ne hq))
theorem s_lst {tr : TA} {m : M (List PyData)} (ha : EvA K tr m) : EvL K (tLst tr) (lLst m) := fun l g d l' g' s H S r A e h Q q => by
  replace e := mb_some e; obtain ⟨x, l1, g1, e1, e⟩ := e
  replace e := mo_some e; obtain ⟨e, rfl, rfl⟩ := e
  obtain ⟨hz, rfl⟩ := smallO_some e
  exact ha _ _ _ _ _ s H S r A e1 h _ fun v1 H1 S1 r1 A1 m1 h1 d1 => ⟨szl (by rw [DpAll_len d1]; exact hz), new_l m1 h1 d1 q⟩
theorem s_if (ht : EvT K tt t) (ha : EvS K ta a) (hb : EvS K tb b) : EvS K (tIf tt ta tb) (eIf t a b) := fun l g d l' g' s H S r A e h Q q => by
  replace e := mb_some e; obtain ⟨x, l1, g1, e1, e⟩ := e
  refine ht _ _ _ _ _ s H S r A e1 h _ fun H1 S1 r1 A1 m1 h1 => ?_
  cases x with
  | true => exact ha _ _ _ _ _ s H1 S1 r1 A1 e h1 _ fun v2 H2 S2 r2 A2 m2 h2 d2 => q v2 H2 S2 r2 A2 (m1.trans m2) h2 d2
  | false => exact hb _ _ _ _ _ s H1 S1 r1 A1 e h1 _ fun v2 H2 S2 r2 A2 m2 h2 d2 => q v2 H2 S2 r2 A2 (m1.trans m2) h2 d2
theorem truO_ok {S H : Hp} {v : V} {d : PyData} {c : Bool} (e : truO d = some c) (hs : Same S H) (h : Dp K S v d) : TruV K v H c := by
  cases d with
  | str y =>
    by_cases hy : y.length ≤ 4000000
    · have : truO (.str y) = some ((y.length : Int) != 0) := by show (if _ then _ else _) = _; rw [if_pos hy]
      rw [this] at e
      cases e
      exact truV_of hs h fun y' e => by cases e; exact hy
    · have : truO (.str y) = none := by show (if _ then _ else _) = _; rw [if_neg hy]
      rw [this] at e
      cases e
  | none => cases e; exact truV_of hs h fun y e => by cases e
  | bool b => cases e; exact truV_of hs h fun y e => by cases e
  | int b => cases e; exact truV_of hs h fun y e => by cases e
  | list b => cases e; exact truV_of hs h fun y e => by cases e
  | tuple b => cases e; exact truV_of hs h fun y e => by cases e
  | dict b => cases h
theorem s_and (ha : EvS K ta a) (hb : EvS K tb b) : EvS K (tAndT K ta tb) (eAnd a b) := fun l g d l' g' s H S r A e h Q q => by
  replace e := mb_some e; obtain ⟨x, l1, g1, e1, e⟩ := e
  replace e := mb_some e; obtain ⟨k, l2, g2, e2, e⟩ := e
  replace e2 := mo_some e2; obtain ⟨e2, rfl, rfl⟩ := e2
  refine ha _ _ _ _ _ s H S r A e1 h _ fun v1 H1 S1 r1 A1 m1 h1 d1 => ⟨k, truO_ok e2 h1.hs d1, ?_⟩
  cases k with
  | true => exact hb _ _ _ _ _ s H1 S1 r1 A1 e h1 _ fun v2 H2 S2 r2 A2 m2 h2 d2 => q v2 H2 S2 r2 A2 (m1.trans m2) h2 d2
  | false =>
    obtain ⟨rfl, rfl, rfl⟩ := mp_some e
    exact q v1 H1 S1 r1 A1 m1 h1 d1
theorem s_or (ha : EvS K ta a) (hb : EvS K tb b) : EvS K (tOrT K ta tb) (eOr a b) := fun l g d l' g' s H S r A e h Q q => by
  replace e := mb_some e; obtain ⟨x, l1, g1, e1, e⟩ := e
  replace e := mb_some e; obtain ⟨k, l2, g2, e2, e⟩ := e
  replace e2 := mo_some e2; obtain ⟨e2, rfl, rfl⟩ := e2
  refine ha _ _ _ _ _ s H S r A e1 h _ fun v1 H1 S1 r1 A1 m1 h1 d1 => ⟨k, truO_ok e2 h1.hs d1, ?_⟩
  cases k with
  | false => exact hb _ _ _ _ _ s H1 S1 r1 A1 e h1 _ fun v2 H2 S2 r2 A2 m2 h2 d2 => q v2 H2 S2 r2 A2 (m1.trans m2) h2 d2
  | true =>
    obtain ⟨rfl, rfl, rfl⟩ := mp_some e
    exact q v1 H1 S1 r1 A1 m1 h1 d1
theorem s_not (ha : EvS K ta a) : EvS K (tNotT K ta) (eNot a) := fun l g d l' g' s H S r A e h Q q => by
  replace e := mb_some e; obtain ⟨x, l1, g1, e1, e⟩ := e
  replace e := mo_some e; obtain ⟨e, rfl, rfl⟩ := e
  obtain ⟨k, ek, rfl⟩ := Option.map_eq_some_iff.mp e
  exact ha _ _ _ _ _ s H S r A e1 h _ fun v1 H1 S1 r1 A1 m1 h1 d1 => ⟨k, truO_ok ek h1.hs d1, q _ H1 S1 r1 A1 m1 h1 (.bl _)⟩
theorem s_isN (ha : EvS K ta a) : EvS K (tIsN ta) (eIsN a) := fun l g d l' g' s H S r A e h Q q => by
  replace e := mb_some e; obtain ⟨x, l1, g1, e1, e⟩ := e
  obtain ⟨rfl, rfl, rfl⟩ := mp_some e
  exact ha _ _ _ _ _ s H S r A e1 h _ fun v1 H1 S1 r1 A1 m1 h1 d1 => q _ H1 S1 r1 A1 m1 h1 (by rw [dp_isN d1]; exact .bl _)
theorem s_notN (ha : EvS K ta a) : EvS K (tNotN ta) (eNotN a) := fun l g d l' g' s H S r A e h Q q => by
  replace e := mb_some e; obtain ⟨x, l1, g1, e1, e⟩ := e
  obtain ⟨rfl, rfl, rfl⟩ := mp_some e
  exact ha _ _ _ _ _ s H S r A e1 h _ fun v1 H1 S1 r1 A1 m1 h1 d1 => q _ H1 S1 r1 A1 m1 h1 (by rw [dp_isN d1]; exact .bl _)
theorem asB_some {d : PyData} {b : Bool} (h : asB d = some b) : d = .bool b := by
  cases d <;> first | cases h | skip
  rfl
theorem asI_some {d : PyData} {b : Int} (h : asI d = some b) : d = .int b := by
  cases d <;> first | cases h | skip
  rfl
theorem s_chain {r1 r2 : R2} {f f' : PyData → PyData → Option PyData} (hr : RDO K r1 f) (hr' : RDO K r2 f') (ha : EvS K ta a) (hb : EvS K tb b) (hc : EvS K tc c) : EvS K (tChain r1 r2 ta tb tc) (eChain f f' a b c) := fun l g d l' g' s H S r A e h Q q => by
  replace e := mb_some e; obtain ⟨x, l1, g1, e1, e⟩ := e
  replace e := mb_some e; obtain ⟨y, l2, g2, e2, e⟩ := e
  replace e := mb_some e; obtain ⟨k, l3, g3, e3, e⟩ := e
  replace e3 := mo_some e3; obtain ⟨e3, rfl, rfl⟩ := e3
  obtain ⟨z, e3, e4⟩ := Option.bind_eq_some_iff.mp e3
  cases asB_some e4
  refine ha _ _ _ _ _ s H S r A e1 h _ fun v1 H1 S1 r1 A1 m1 h1 d1 => hb _ _ _ _ _ s H1 S1 r1 A1 e2 h1 _ fun v2 H2 S2 r2 A2 m2 h2 d2 => ?_
  refine hr x y _ e3 v1 v2 S2 H2 _ h2.hs (Dp_mono d1 m2.s) d2 fun v S3 H3 g3 d3 => ?_
  cases d3
  refine ⟨k, rfl, ?_⟩
  have h3 := h2.grow g3
  have m3 := (m1.trans m2).trans (Mv.grow g3)
  cases k with
  | false =>
    obtain ⟨rfl, rfl, rfl⟩ := mp_some e
    exact q _ H3 S3 r2 A2 m3 h3 (.bl _)
  | true =>
    replace e := mb_some e; obtain ⟨w, l4, g4, e5, e⟩ := e
    replace e := mo_some e; obtain ⟨e, rfl, rfl⟩ := e
    refine hc _ _ _ _ _ s H3 S3 r2 A2 e5 h3 _ fun v4 H4 S4 r4 A4 m4 h4 d4 => ?_
    exact hr' y w d e v2 v4 S4 H4 Q h4.hs (Dp_mono d2 (g3.s.trans m4.s)) d4 fun v S5 H5 g5 d5 => q v H5 S5 r4 A4 ((m3.trans m4).trans (Mv.grow g5)) (h4.grow g5) d5
theorem s_test (ha : EvS K ta a) : EvT K (tTest ta) (bTest a) := fun l g d l' g' s H S r A e h Q q => by
  replace e := mb_some e; obtain ⟨x, l1, g1, e1, e⟩ := e
  replace e := mo_some e; obtain ⟨e, rfl, rfl⟩ := e
  cases asB_some e
  exact ha _ _ _ _ _ s H S r A e1 h _ fun v1 H1 S1 r1 A1 m1 h1 d1 => by cases d1; exact ⟨_, rfl, q H1 S1 r1 A1 m1 h1⟩
theorem s_B (ha : EvS K ta a) : EvT K (tB ta) (bTest a) := fun l g d l' g' s H S r A e h Q q => by
  replace e := mb_some e; obtain ⟨x, l1, g1, e1, e⟩ := e
  replace e := mo_some e; obtain ⟨e, rfl, rfl⟩ := e
  cases asB_some e
  exact ha _ _ _ _ _ s H S r A e1 h _ fun v1 H1 S1 r1 A1 m1 h1 d1 => by cases d1; exact ⟨_, rfl, q H1 S1 r1 A1 m1 h1⟩
theorem s_tru (ha : EvS K ta a) : EvT K (fun σ H Q => ta σ H fun x H' => ∃ k, TruV K x H' k ∧ Q k H') (bTru a) := fun l g d l' g' s H S r A e h Q q => by
  replace e := mb_some e; obtain ⟨x, l1, g1, e1, e⟩ := e
  replace e := mo_some e; obtain ⟨e, rfl, rfl⟩ := e
  exact ha _ _ _ _ _ s H S r A e1 h _ fun v1 H1 S1 r1 A1 m1 h1 d1 => ⟨_, truO_ok e h1.hs d1, q H1 S1 r1 A1 m1 h1⟩
theorem s_bnot (ht : EvT K tt t) : EvT K (tNot tt) (bNot t) := fun l g d l' g' s H S r A e h Q q => by
  replace e := mb_some e; obtain ⟨x, l1, g1, e1, e⟩ := e
  obtain ⟨rfl, rfl, rfl⟩ := mp_some e
  exact ht _ _ _ _ _ s H S r A e1 h _ fun H1 S1 r1 A1 m1 h1 => q H1 S1 r1 A1 m1 h1
theorem s_band (ht : EvT K tt t) (hu : EvT K tu u) : EvT K (tAnd tt tu) (bAnd t u) := fun l g d l' g' s H S r A e h Q q => by
  replace e := mb_some e; obtain ⟨x, l1, g1, e1, e⟩ := e
  refine ht _ _ _ _ _ s H S r A e1 h _ fun H1 S1 r1 A1 m1 h1 => ?_
  cases x with
  | true => exact hu _ _ _ _ _ s H1 S1 r1 A1 e h1 _ fun H2 S2 r2 A2 m2 h2 => q H2 S2 r2 A2 (m1.trans m2) h2
  | false =>
    obtain ⟨rfl, rfl, rfl⟩ := mp_some e
    exact q H1 S1 r1 A1 m1 h1
theorem s_bor (ht : EvT K tt t) (hu : EvT K tu u) : EvT K (tOr tt tu) (bOr t u) := fun l g d l' g' s H S r A e h Q q => by
  replace e := mb_some e; obtain ⟨x, l1, g1, e1, e⟩ := e
  refine ht _ _ _ _ _ s H S r A e1 h _ fun H1 S1 r1 A1 m1 h1 => ?_
  cases x with
  | false => exact hu _ _ _ _ _ s H1 S1 r1 A1 e h1 _ fun H2 S2 r2 A2 m2 h2 => q H2 S2 r2 A2 (m1.trans m2) h2
  | true =>
    obtain ⟨rfl, rfl, rfl⟩ := mp_some e
    exact q H1 S1 r1 A1 m1 h1
theorem s_yes : EvT K tYes bYes := fun l g d l' g' s H S r A e h Q q => by
  obtain ⟨rfl, rfl, rfl⟩ := mp_some e
  exact q H S r A (Mv.refl h.hs) h
theorem s_onone : EvO K tNoPart oNone := fun l g d l' g' s H S r A e h Q q => by
  obtain ⟨rfl, rfl, rfl⟩ := mp_some e
  exact q H S r A (Mv.refl h.hs) h
theorem s_osome (ha : EvS K ta a) : EvO K (tPart ta) (oSome a) := fun l g d l' g' s H S r A e h Q q => by
  replace e := mb_some e; obtain ⟨x, l1, g1, e1, e⟩ := e
  replace e := mb_some e; obtain ⟨y, l2, g2, e2, e⟩ := e
  replace e2 := mo_some e2; obtain ⟨e2, rfl, rfl⟩ := e2
  obtain ⟨rfl, rfl, rfl⟩ := mp_some e
  cases asI_some e2
  exact ha _ _ _ _ _ s H S r A e1 h _ fun v1 H1 S1 r1 A1 m1 h1 d1 => by cases d1; exact ⟨_, rfl, q H1 S1 r1 A1 m1 h1⟩
theorem s_sl {tl th : TO} {lo hi : M (Option Int)} (ha : EvS K ta a) (hl : EvO K tl lo) (hh : EvO K th hi) : EvS K (tSl (rSlAny K) ta tl th) (eSl a lo hi) := fun l g d l' g' s H S r A e h Q q => by
  replace e := mb_some e; obtain ⟨x, l1, g1, e1, e⟩ := e
  replace e := mb_some e; obtain ⟨y, l2, g2, e2, e⟩ := e
  replace e := mb_some e; obtain ⟨z, l3, g3, e3, e⟩ := e
  replace e := mo_some e; obtain ⟨e, rfl, rfl⟩ := e
  refine ha _ _ _ _ _ s H S r A e1 h _ fun v1 H1 S1 r1 A1 m1 h1 d1 => hl _ _ _ _ _ s H1 S1 r1 A1 e2 h1 _ fun H2 S2 r2 A2 m2 h2 => hh _ _ _ _ _ s H2 S2 r2 A2 e3 h2 _ fun H3 S3 r3 A3 m3 h3 => ?_
  have d3 := Dp_mono d1 (m2.s.trans m3.s)
  have m4 := (m1.trans m2).trans m3
  have fin : ∀ v S4 H4, Grow m0 S3 H3 S4 H4 → Dp K S4 v d → Q v H4 := fun v S4 H4 g4 d4 => q v H4 S4 r3 A3 (m4.trans (Mv.grow g4)) (h3.grow g4) d4
  unfold slD at e
  split at e
  · cases e
    cases d3 with
    | lst q1 q2 => exact .inl ⟨_, _, rfl, h3.hs.seq q1, new_lst h3.hs (cut_dp q2 y z) fin⟩
  · cases e
    rename_i ds
    cases d3 with
    | @tup a xs _ q1 q2 =>
      refine .inr ⟨_, _, rfl, same_seqT h3.hs q1, fun hw => fin _ S3 H3 (Grow.refl h3.hs) ?_, fun _ => new_tup h3.hs (cut_dp q2 y z) fin⟩
      have hl := DpAll_len q2
      rw [hl] at hw
      have ec : cutD ds y z = ds := by
        unfold cutD
        rw [hw.1, hw.2]
        simp
      rw [ec]
      exact .tup q1 q2
  · cases e
end
end Sm

namespace Sm
open PySem L2 RZ Dz

def lsV (l : Lo) (g : Sg) (i : Nat) : Option (List PyData) := match l[i]? with
  | some (.own ds) => some ds
  | some (.ref j) => (match g[j]? with
    | some (.lst ds) => some ds
    | _ => none)
  | some (.dat (.list ds)) => some ds
  | _ => none
def lsM (l : Lo) (g : Sg) (i : Nat) : Option (List PyData) := match l[i]? with
  | some (.own ds) => some ds
  | some (.ref j) => (match g[j]? with
    | some (.lst ds) => some ds
    | _ => none)
  | _ => none
def ptV (l : Lo) (g : Sg) (i : Nat) (ds : List PyData) : Lo × Sg := match l[i]? with
  | some (.own _) => (l.set i (.own ds), g)
  | some (.ref j) => (l, g.set j (.lst ds))
  | _ => (l, g)
section
variable {K : Kx} {l : Lo} {g : Sg} {s : L2.St} {H S : Hp} {r : List Addr} {A : List (Option Addr)} {i : Nat} {ds : List PyData}
theorem rd_ls (h : StOk K l g s H S r A) (e : lsV l g i = some ds) : ∃ a xs, s[i]? = some (some (.ref a)) ∧ SqL K H a xs ∧ DpAll K S xs ds := by
  unfold lsV at e
  split at e
  · rename_i ds' hl
    cases e
    obtain ⟨o, v, e1, e2, a, rfl, rfl, e3, xs, e4, e5⟩ := h.ok i _ hl
    exact ⟨a, xs, e2, .inl (.inl e4), e5⟩
  · rename_i j hl
    obtain ⟨o, v, e1, e2, e3, a, e4, rfl⟩ := h.ok i _ hl
    split at e
    · rename_i ds' hj
      cases e
      obtain ⟨_, xs, q1, q2⟩ := h.st j a _ e4 hj
      exact ⟨a, xs, e2, .inl (.inl q1), q2⟩
    · cases e
  · rename_i ds' hl
    cases e
    obtain ⟨o, v, e1, e2, e3, w, rfl, e4⟩ := h.ok i _ hl
    cases e4 with
    | lst q1 q2 => exact ⟨_, _, e2, h.hs.seq q1, q2⟩
  · cases e
theorem wr_ls (h : StOk K l g s H S r A) (e : lsM l g i = some ds) : ∃ a xs, s[i]? = some (some (.ref a)) ∧ H a = some (.lst xs) ∧ DpAll K S xs ds ∧
    ∀ ys es, DpAll K S ys es → StOk K (ptV l g i es).1 (ptV l g i es).2 s (upd H a (.lst ys)) S r A ∧ Mv K S H r A S (upd H a (.lst ys)) r A := by
  unfold lsM at e
  split at e
  · rename_i ds' hl
    cases e
    obtain ⟨o, v, e1, e2, a, rfl, rfl, e3, xs, e4, e5⟩ := h.ok i _ hl
    refine ⟨a, xs, e2, e4, e5, fun ys es hd => ?_⟩
    have : ptV l g i es = (l.set i (.own es), g) := by unfold ptV; rw [hl]
    rw [this]
    exact h.putO hl e1 e2 ⟨a, rfl, rfl, e3, ys, upd_same, hd⟩
  · rename_i j hl
    obtain ⟨o, v, e1, e2, e3, a, e4, rfl⟩ := h.ok i _ hl
    split at e
    · rename_i ds' hj
      cases e
      obtain ⟨_, xs, q1, q2⟩ := h.st j a _ e4 hj
      refine ⟨a, xs, e2, q1, q2, fun ys es hd => ?_⟩
      have : ptV l g i es = (l, g.set j (.lst es)) := by unfold ptV; rw [hl]
      rw [this]
      exact h.putR e4 ⟨ys, upd_same, hd⟩
    · cases e
  · cases e
end
def mg {α : Type} (f : Lo → Sg → Option α) : M α := fun l g => match f l g with
  | none => none
  | some a => some (a, l, g)
theorem mg_some {α : Type} {f : Lo → Sg → Option α} {l l' : Lo} {g g' : Sg} {a : α} (h : mg f l g = some (a, l', g')) : f l g = some a ∧ l' = l ∧ g' = g := by
  unfold mg at h
  split at h
  · cases h
  · rename_i a' e
    cases h
    exact ⟨e, rfl, rfl⟩
def eIxV (i : Nat) (b : M PyData) : M PyData := mb (mg fun l g => lsV l g i) fun _ => mb b fun y => mg fun l g => (lsV l g i).bind fun ds => (asI y).bind fun k => atI ds k
def eLenV (i : Nat) : M PyData := mg fun l g => (lsV l g i).map fun ds => .int ds.length
def bTruV (i : Nat) : M Bool := mg fun l g => (lsV l g i).map fun ds => !ds.isEmpty
def eTupleV (i : Nat) : M PyData := mg fun l g => (lsV l g i).map fun ds => .tuple ds
def popAtO (i : Nat) (y : PyData) : M PyData := fun l g => match lsM l g i, asI y with
  | some ds, some k => (match seqIndex? k ds.length with
    | some j => if k < 2 ^ 62 ∧ -(2 ^ 62) < k then (match ds[j]? with
      | some d => some (d, (ptV l g i (ds.eraseIdx j)).1, (ptV l g i (ds.eraseIdx j)).2)
      | none => none) else none
    | none => none)
  | _, _ => none
def ePopAt (i : Nat) (b : M PyData) : M PyData := mb (mg fun l g => lsM l g i) fun _ => mb b fun y => popAtO i y
def ePop (i : Nat) : M PyData := fun l g => match lsM l g i with
  | some ds => (match ds[ds.length - 1]? with
    | some d => some (d, (ptV l g i ds.dropLast).1, (ptV l g i ds.dropLast).2)
    | none => none)
  | none => none
section
variable {K : Kx} {ta tb te : TE} {a b : M PyData} {i : Nat}
theorem s_ixV (hb : EvS K tb b) : EvS K (tOp (rIx K) (tVar i) tb) (eIxV i b) := fun l g d l' g' s H S r A e h Q q => by
  replace e := mb_some e; obtain ⟨y0, l0, g0, e0, e⟩ := e
  replace e0 := mg_some e0; obtain ⟨e0, rfl, rfl⟩ := e0
  replace e := mb_some e; obtain ⟨y, l1, g1, e1, e⟩ := e
  replace e := mg_some e; obtain ⟨e, rfl, rfl⟩ := e
  replace e := Option.bind_eq_some_iff.mp e; obtain ⟨ds, e2, e⟩ := e
  replace e := Option.bind_eq_some_iff.mp e; obtain ⟨k, e3, e⟩ := e
  cases asI_some e3
  obtain ⟨a, xs, q1, _⟩ := rd_ls h e0
  refine ⟨_, q1, hb _ _ _ _ _ s H S r A e1 h _ fun v1 H1 S1 r1 A1 m1 h1 d1 => ?_⟩
  cases d1
  obtain ⟨a', xs, q2, q3, q4⟩ := rd_ls h1 e2
  rw [q1] at q2
  cases q2
  obtain ⟨w, hw, hdw⟩ := atI_map q4 e
  exact .inl ⟨a, xs, k, w, rfl, rfl, q3, hw, q w H1 S1 r1 A1 m1 h1 hdw⟩
theorem s_lenV : EvS K (tCB (rLenK K) (tCons (tVar i) tNil)) (eLenV i) := fun l g d l' g' s H S r A e h Q q => by
  replace e := mg_some e; obtain ⟨e, rfl, rfl⟩ := e
  obtain ⟨ds, e2, rfl⟩ := Option.map_eq_some_iff.mp e
  obtain ⟨a, xs, q1, q2, q3⟩ := rd_ls h e2
  exact ⟨_, q1, a, xs, rfl, .inl q2, q _ H S r A (Mv.refl h.hs) h (by rw [DpAll_len q3]; exact .int _)⟩
theorem s_truV : EvT K (fun σ H Q => tVar i σ H fun x H' => ∃ k, TruV K x H' k ∧ Q k H') (bTruV i) := fun l g d l' g' s H S r A e h Q q => by
  replace e := mg_some e; obtain ⟨e, rfl, rfl⟩ := e
  obtain ⟨ds, e2, rfl⟩ := Option.map_eq_some_iff.mp e
  obtain ⟨a, xs, q1, q2, q3⟩ := rd_ls h e2
  exact ⟨_, q1, _, .inl ⟨xs, q2, by rw [isEmpty_dp q3]⟩, q H S r A (Mv.refl h.hs) h⟩
theorem s_tupleV : EvS K (tCB (rTupleK K) (tCons (tVar i) tNil)) (eTupleV i) := fun l g d l' g' s H S r A e h Q q => by
  replace e := mg_some e; obtain ⟨e, rfl, rfl⟩ := e
  obtain ⟨ds, e2, rfl⟩ := Option.map_eq_some_iff.mp e
  obtain ⟨a, xs, q1, q2, q3⟩ := rd_ls h e2
  exact ⟨_, q1, a, xs, rfl, .inl ⟨q2, new_tup h.hs q3 fun v S4 H4 g4 d4 => q v H4 S4 r A (Mv.grow g4) (h.grow g4) d4⟩⟩
theorem s_pop : EvS K (tBM0 K "list" rPop (tVar i)) (ePop i) := fun l g d l' g' s H S r A e h Q q => by
  unfold ePop at e
  split at e
  · rename_i ds hm
    split at e
    · rename_i d' hd'
      cases e
      obtain ⟨a', xs, q4, q5, q6, q7⟩ := wr_ls h hm
      obtain ⟨w, hw, hdw⟩ := DpAll_get q6 hd'
      have hdl : DpAll K S xs.dropLast ds.dropLast := by
        rw [List.dropLast_eq_take, List.dropLast_eq_take, DpAll_len q6]
        exact DpAll_take _ q6
      obtain ⟨z1, z2⟩ := q7 _ _ hdl
      exact ⟨_, q4, .inl ⟨rfl, xs, .inl (.inl q5)⟩, a', xs, w, rfl, rfl, q5, by rw [DpAll_len q6]; exact hw, q w _ S r A z2 z1 hdw⟩
    · cases e
  · cases e
end

def seqD : PyData → Option (List PyData)
  | .list ds => some ds
  | .tuple ds => some ds
  | _ => none
def rgO (n : Int) : Bool := decide (n ≤ 4000000) && decide (-4000000 ≤ n)
def iSq (a : M PyData) : M (List PyData) := mb a fun x => mo (seqD x)
def iRg1 (a : M PyData) : M (List PyData) := mb a fun x => mo ((asI x).bind fun n => if rgO n = true then some (rng 0 n.toNat) else none)
def iRg2 (a b : M PyData) : M (List PyData) := mb a fun x => mb b fun y => mo ((asI x).bind fun m => (asI y).bind fun n => if rgO m = true ∧ rgO n = true then some (rng m (n - m).toNat) else none)
section
variable {K : Kx} {ta tb te : TE} {a b : M PyData} {i : Nat}
theorem s_iseq (ha : EvS K ta a) : EvI K (iSeq K ta) (iSq a) := fun l g d l' g' s H S r A e h Q q => by
  replace e := mb_some e; obtain ⟨x, l1, g1, e1, e⟩ := e
  replace e := mo_some e; obtain ⟨e, rfl, rfl⟩ := e
  unfold seqD at e
  split at e
  · cases e
    exact .inl (ha _ _ _ _ _ s H S r A e1 h _ fun v1 H1 S1 r1 A1 m1 h1 d1 => by
      cases d1 with
      | lst h3 h4 => exact ⟨_, rfl, ⟨_, h1.hs.seq h3⟩, q _ H1 S1 r1 A1 m1 h1 (walkL h3 h4)⟩)
  · cases e
    exact .inr (ha _ _ _ _ _ s H S r A e1 h _ fun v1 H1 S1 r1 A1 m1 h1 d1 => by
      cases d1 with
      | tup h3 h4 => exact ⟨_, rfl, ⟨_, same_seqT h1.hs h3⟩, q _ H1 S1 r1 A1 m1 h1 (walkT h3 h4)⟩)
  · cases e
theorem rgO_ok {n : Int} (h : rgO n = true) : n ≤ 4000000 ∧ -4000000 ≤ n := by
  unfold rgO at h
  simpa using h
theorem s_irg1 (ha : EvS K ta a) : EvI K (iRng1 (tCons ta tNil)) (iRg1 a) := fun l g d l' g' s H S r A e h Q q => by
  replace e := mb_some e; obtain ⟨x, l1, g1, e1, e⟩ := e
  replace e := mo_some e; obtain ⟨e, rfl, rfl⟩ := e
  replace e := Option.bind_eq_some_iff.mp e; obtain ⟨n, e2, e⟩ := e
  cases asI_some e2
  split at e
  · rename_i hz
    have hz := rgO_ok hz
    cases e
    refine ha _ _ _ _ _ s H S r A e1 h _ fun v1 H1 S1 r1 A1 m1 h1 d1 => ?_
    cases d1
    exact ⟨n, rfl, by omega, by omega, q _ H1 S1 r1 A1 m1 h1 walkR⟩
  · cases e
theorem s_irg2 (ha : EvS K ta a) (hb : EvS K tb b) : EvI K (iRng2 (tCons ta (tCons tb tNil))) (iRg2 a b) := fun l g d l' g' s H S r A e h Q q => by
  replace e := mb_some e; obtain ⟨x, l1, g1, e1, e⟩ := e
  replace e := mb_some e; obtain ⟨y, l2, g2, e2, e⟩ := e
  replace e := mo_some e; obtain ⟨e, rfl, rfl⟩ := e
  replace e := Option.bind_eq_some_iff.mp e; obtain ⟨m, e3, e⟩ := e
  replace e := Option.bind_eq_some_iff.mp e; obtain ⟨n, e4, e⟩ := e
  cases asI_some e3
  cases asI_some e4
  split at e
  · rename_i hz
    have hz1 := rgO_ok hz.1
    have hz2 := rgO_ok hz.2
    cases e
    refine ha _ _ _ _ _ s H S r A e1 h _ fun v1 H1 S1 r1 A1 m1 h1 d1 => hb _ _ _ _ _ s H1 S1 r1 A1 e2 h1 _ fun v2 H2 S2 r2 A2 m2 h2 d2 => ?_
    cases d1
    cases d2
    exact ⟨m, n, rfl, ⟨by omega, by omega, by omega, by omega⟩, q _ H2 S2 r2 A2 (m1.trans m2) h2 walkR⟩
  · cases e
end
end Sm

namespace Sm
open PySem L2 RZ Dz

abbrev G := PyData → Lo → Option Lo
abbrev Gs := List PyData → Lo → Option Lo
def gNm (i : Nat) : G := fun d l => some (l.set i (.dat d))
def gTp (n : Nat) (gs : Gs) : G := fun d l => match d with
  | .tuple ds => if ds.length = n then gs ds l else none
  | _ => none
def gSt (n i : Nat) (gs : Gs) : G := fun d l => match seqD d with
  | some ds => if n ≤ ds.length + 1 ∧ ds.length ≤ 16384 then gs (ds.take i ++ [.list ((ds.drop i).take (ds.length + 1 - n))] ++ (ds.drop i).drop (ds.length + 1 - n)) l else none
  | none => none
def gsNil : Gs := fun ds l => match ds with
  | [] => some l
  | _ => none
def gsCons (g : G) (gs : Gs) : Gs := fun ds l => match ds with
  | [] => none
  | d :: r => (g d l).bind fun l1 => gs r l1
def BdS (K : Kx) (tg : TG) (G : G) : Prop := ∀ l g d l' s H S r A v (Q : L2.St → Hp → Prop), G d l = some l' → StOk K l g s H S r A → Dp K S v d → (∀ s' H' S' A', Mv K S H r A S' H' r A' → StOk K l' g s' H' S' r A' → Q s' H') → tg v s H Q
def BdsS (K : Kx) (tg : TGs) (G : Gs) : Prop := ∀ l g d l' s H S r A v (Q : L2.St → Hp → Prop), G d l = some l' → StOk K l g s H S r A → DpAll K S v d → (∀ s' H' S' A', Mv K S H r A S' H' r A' → StOk K l' g s' H' S' r A' → Q s' H') → tg v s H Q
section
variable {K : Kx}
theorem b_name {i : Nat} : BdS K (gName i) (gNm i) := fun l g d l' s H S r A v Q e h hd q => by
  cases e
  exact q _ H S _ (Mv.refl h.hs).set (h.set ⟨rfl, v, rfl, hd⟩)
theorem bs_nil : BdsS K gNil gsNil := fun l g d l' s H S r A v Q e h hd q => by
  unfold gsNil at e
  split at e
  · cases e
    cases hd
    exact ⟨rfl, q _ H S A (Mv.refl h.hs) h⟩
  · cases e
theorem bs_cons {tg : TG} {tgs : TGs} {g : G} {gs : Gs} (h1 : BdS K tg g) (h2 : BdsS K tgs gs) : BdsS K (gCons tg tgs) (gsCons g gs) := fun l g d l' s H S r A v Q e h hd q => by
  unfold gsCons at e
  split at e
  · cases e
  · obtain ⟨l1, e1, e2⟩ := Option.bind_eq_some_iff.mp e
    cases hd with
    | cons a b => exact ⟨_, _, rfl, h1 _ _ _ _ _ _ _ _ _ _ _ e1 h a fun s1 H1 S1 A1 m1 h1 => h2 _ _ _ _ _ _ _ _ _ _ _ e2 h1 (DpAll_mono b m1.s) fun s2 H2 S2 A2 m2 h2 => q _ _ _ _ (m1.trans m2) h2⟩
theorem b_tup {tgs : TGs} {gs : Gs} {n : Nat} (h1 : BdsS K tgs gs) : BdS K (gTup K n tgs) (gTp n gs) := fun l g d l' s H S r A v Q e h hd q => by
  unfold gTp at e
  split at e
  · split at e
    · cases hd with
      | tup a b => exact ⟨_, _, rfl, same_seqT h.hs a, (DpAll_len b).trans (by assumption), h1 _ _ _ _ _ _ _ _ _ _ _ e h b q⟩
    · cases e
  · cases e
theorem b_star {tgs : TGs} {gs : Gs} {n i : Nat} (h1 : BdsS K tgs gs) : BdS K (gStar K n i tgs) (gSt n i gs) := fun l g d l' s H S r A v Q e h hd q => by
  unfold gSt at e
  split at e
  · rename_i ds hq
    split at e
    · rename_i hz
      have key : ∀ xs, DpAll K S xs ds → ∀ p, H p = none → tgs (xs.take i ++ [.ref p] ++ (xs.drop i).drop (xs.length + 1 - n)) s (upd H p (.lst ((xs.drop i).take (xs.length + 1 - n)))) Q := fun xs hd p hp => by
        have g2 : Grow m0 S H (upd S p (.lst ((xs.drop i).take (xs.length + 1 - n)))) (upd H p (.lst ((xs.drop i).take (xs.length + 1 - n)))) := Grow.new h.hs hp
        have hl := DpAll_len hd
        have d2 := DpAll_mono hd g2.s
        refine h1 _ _ _ _ s _ _ r A _ Q e (h.grow g2) ?_ fun s2 H2 S2 A2 m2 h2 => q _ _ _ _ ((Mv.grow g2).trans m2) h2
        rw [← hl]
        exact DpAll_app (DpAll_app (DpAll_take i d2) (.cons (.lst (.inl (.inl upd_same)) (DpAll_take _ (DpAll_drop i d2))) .nil)) (DpAll_drop _ (DpAll_drop i d2))
      unfold seqD at hq
      split at hq
      · cases hq
        cases hd with
        | lst a b =>
          have hl := DpAll_len b
          exact ⟨_, _, rfl, .inl (h.hs.seq a), by omega, by omega, fun p hp => key _ b p hp⟩
      · cases hq
        cases hd with
        | tup a b =>
          have hl := DpAll_len b
          exact ⟨_, _, rfl, .inr (same_seqT h.hs a), by omega, by omega, fun p hp => key _ b p hp⟩
      · cases hq
    · cases e
  · cases e
end

def plainV : Vl → Bool
  | .own _ => false
  | .dct _ => false
  | .dnk _ => false
  | _ => true
def wipeV (l : Lo) : List Nat → Lo
  | [] => l
  | v :: vs => (wipeV l vs).set v .no
def backV (l0 l : Lo) : List Nat → Lo
  | [] => l
  | v :: vs => (backV l0 l vs).set v (l0.getD v .no)
def lcL (vs : List Nat) (tg : G) (t : M Bool) (e : M PyData) : List PyData → M (List PyData)
  | [] => mp []
  | d :: ds => fun l g => match tg d (wipeV l vs) with
    | none => none
    | some l1 => match t l1 g with
      | none => none
      | some (true, l2, g2) => (match e l2 g2 with
        | none => none
        | some (y, l3, g3) => mb (lcL vs tg t e ds) (fun ys => mp (y :: ys)) (backV l l3 vs) g3)
      | some (false, l2, g2) => lcL vs tg t e ds (backV l l2 vs) g2
def plainAt (vs : List Nat) (l : Lo) : Bool := vs.all fun v => plainV (l.getD v .no)
def lLc (vs : List Nat) (it : M (List PyData)) (tg : G) (t : M Bool) (e : M PyData) : M (List PyData) := mb it fun ds => fun l g => if (plainAt vs l && decide (ds.length ≤ 4000000)) = true then lcL vs tg t e ds l g else none
theorem wipeV_len (l : Lo) : ∀ vs, (wipeV l vs).length = l.length
  | [] => rfl
  | v :: vs => by show ((wipeV l vs).set v .no).length = _; rw [List.length_set, wipeV_len l vs]
theorem backV_len (l0 l : Lo) : ∀ vs, (backV l0 l vs).length = l.length
  | [] => rfl
  | v :: vs => by show ((backV l0 l vs).set v _).length = _; rw [List.length_set, backV_len l0 l vs]
theorem wipeV_get {l : Lo} {j : Nat} : ∀ {vs : List Nat}, (wipeV l vs)[j]? = if j ∈ vs then (if j < l.length then some .no else none) else l[j]?
  | [] => by simp [wipeV]
  | v :: vs => by
    show ((wipeV l vs).set v .no)[j]? = _
    rw [List.getElem?_set]
    by_cases h : v = j
    · subst h
      rw [if_pos rfl, wipeV_len, if_pos List.mem_cons_self]
    · rw [if_neg h, wipeV_get]
      have : (j ∈ v :: vs) ↔ j ∈ vs := by
        rw [List.mem_cons]
        exact ⟨fun z => z.elim (fun q => absurd q.symm h) id, .inr⟩
      by_cases hj : j ∈ vs
      · rw [if_pos hj, if_pos (this.mpr hj)]
      · rw [if_neg hj, if_neg fun z => hj (this.mp z)]
theorem backV_get {l0 l : Lo} {j : Nat} : ∀ {vs : List Nat}, (backV l0 l vs)[j]? = if j ∈ vs then (if j < l.length then some (l0.getD j .no) else none) else l[j]?
  | [] => by simp [backV]
  | v :: vs => by
    show ((backV l0 l vs).set v (l0.getD v .no))[j]? = _
    rw [List.getElem?_set]
    by_cases h : v = j
    · subst h
      rw [if_pos rfl, backV_len, if_pos List.mem_cons_self]
    · rw [if_neg h, backV_get]
      have : (j ∈ v :: vs) ↔ j ∈ vs := by
        rw [List.mem_cons]
        exact ⟨fun z => z.elim (fun q => absurd q.symm h) id, .inr⟩
      by_cases hj : j ∈ vs
      · rw [if_pos hj, if_pos (this.mpr hj)]
      · rw [if_neg hj, if_neg fun z => hj (this.mp z)]
section
variable {K : Kx} {l l' : Lo} {g g' : Sg} {s s' : L2.St} {H S H1 S1 : Hp} {r r1 : List Addr} {A A1 : List (Option Addr)} {vs : List Nat}
theorem plainAt_of (h : plainAt vs l = true) {v : Nat} (hv : v ∈ vs) {x : Vl} (hx : l[v]? = some x) : plainV x = true := by
  unfold plainAt at h
  have := List.all_eq_true.mp h v hv
  rw [List.getD_eq_getElem?_getD, hx] at this
  exact this
def cutA (A : List (Option Addr)) : List Nat → List (Option Addr)
  | [] => A
  | v :: vs => (cutA A vs).set v none
theorem cutA_len (A : List (Option Addr)) : ∀ vs, (cutA A vs).length = A.length
  | [] => rfl
  | v :: vs => by show ((cutA A vs).set v none).length = _; rw [List.length_set, cutA_len A vs]
theorem cutA_get {A : List (Option Addr)} {j : Nat} : ∀ {vs : List Nat}, (cutA A vs)[j]? = if j ∈ vs then (if j < A.length then some none else none) else A[j]?
  | [] => by simp [cutA]
  | v :: vs => by
    show ((cutA A vs).set v none)[j]? = _
    rw [List.getElem?_set]
    by_cases h : v = j
    · subst h
      rw [if_pos rfl, cutA_len, if_pos List.mem_cons_self]
    · rw [if_neg h, cutA_get]
      have : (j ∈ v :: vs) ↔ j ∈ vs := by
        rw [List.mem_cons]
        exact ⟨fun z => z.elim (fun q => absurd q.symm h) id, .inr⟩
      by_cases hj : j ∈ vs
      · rw [if_pos hj, if_pos (this.mpr hj)]
      · rw [if_neg hj, if_neg fun z => hj (this.mp z)]
theorem cutA_some {A : List (Option Addr)} {j : Nat} {a : Addr} {vs : List Nat} (h : (cutA A vs)[j]? = some (some a)) : A[j]? = some (some a) := by
  rw [cutA_get] at h
  split at h
  · split at h <;> cases h
  · exact h
theorem cutA_mem {A : List (Option Addr)} {a : Addr} {vs : List Nat} (h : some a ∈ cutA A vs) : some a ∈ A := by
  obtain ⟨j, hj⟩ := List.mem_iff_getElem?.mp h
  exact List.mem_of_getElem? (cutA_some hj)
theorem trcut {a : Addr} (h : tr S H (cutA A vs) r a) : tr S H A r a := h.elim (fun q => .inl (cutA_mem q)) .inr
theorem Mv.cut (h : Mv K S H r A S1 H1 r1 A1) : Mv K S H r A S1 H1 r1 (cutA A1 vs) := ⟨h.s, h.h, h.n, h.k, h.d, h.p, fun a z => h.f a (trcut z), h.t⟩
theorem StOk.wipe (h : StOk K l g s H S r A) : StOk K (wipeV l vs) g (L2.wipe s vs) H S r (cutA A vs) :=
  ⟨h.hs, by rw [cutA_len, wipeV_len]; exact h.la, by rw [wipe_length, wipeV_len]; exact h.ls, fun j x e => by
    rw [wipeV_get] at e
    rw [cutA_get, wipe_get]
    by_cases hj : j ∈ vs
    · rw [if_pos hj] at e ⊢
      rw [if_pos hj]
      split at e
      · rename_i hl
        cases e
        exact ⟨none, none, by rw [if_pos (by rw [h.la]; exact hl)], by rw [if_pos (by rw [h.ls]; exact hl)], rfl⟩
      · cases e
    · rw [if_neg hj] at e ⊢
      rw [if_neg hj]
      exact h.ok j x e, fun i j a e1 e2 => h.ij i j a (cutA_some e1) (cutA_some e2), fun a ha => h.dr a (cutA_mem ha), h.rn, h.lg, h.st, h.tb⟩
theorem StOk.back (h : StOk K l g s H S r A) (hp : plainAt vs l = true) (h1 : StOk K l' g' s' H1 S1 r1 A1) (hw : L2.wipe s' vs = L2.wipe s vs) (hll : l'.length = l.length) (hs : Same S S1) (hr : ∃ q, r1 = r ++ q) : StOk K (backV l l' vs) g' s H1 S1 r1 (cutA A1 vs) :=
  ⟨h1.hs, by rw [cutA_len, backV_len]; exact h1.la, by rw [backV_len, hll]; exact h.ls, fun j x e => by
    rw [backV_get] at e
    rw [cutA_get]
    by_cases hj : j ∈ vs
    · rw [if_pos hj] at e ⊢
      split at e
      · rename_i hl
        have hl0 : j < l.length := by rw [← hll]; exact hl
        have hx : l[j]? = some x := by
          rw [List.getD_eq_getElem?_getD, List.getElem?_eq_getElem hl0] at e
          rw [List.getElem?_eq_getElem hl0]
          exact e
        obtain ⟨o, v, q1, q2, q3⟩ := h.ok j x hx
        have po : o = none := by
          have := plainAt_of hp hj hx
          cases x with
          | no => exact q3
          | dat d => exact q3.1
          | own ds => cases this
          | dct ds => cases this
          | dnk ds => cases this
          | ref k => exact q3.1
          | fn F => exact q3.1
          | xt ds => exact q3.1
          | os b ds => exact q3.1
        subst po
        exact ⟨none, v, by rw [if_pos (by rw [h1.la]; exact hl)], q2, q3.go hs (fun a z => by cases z) hr⟩
      · cases e
    · rw [if_neg hj] at e ⊢
      obtain ⟨o, v, q1, q2, q3⟩ := h1.ok j x e
      refine ⟨o, v, q1, ?_, q3⟩
      have hg := congrArg (fun (z : L2.St) => z[j]?) hw
      simp only [wipe_get] at hg
      rw [if_neg hj, if_neg hj] at hg
      rw [← hg]
      exact q2, fun i j a e1 e2 => h1.ij i j a (cutA_some e1) (cutA_some e2), fun a ha => h1.dr a (cutA_mem ha), h1.rn, h1.lg, h1.st, h1.tb⟩
end
theorem lcL_step {vs : List Nat} {tg : G} {t : M Bool} {e : M PyData} {d : PyData} {ds ys : List PyData} {l l' : Lo} {g g' : Sg} (h : lcL vs tg t e (d :: ds) l g = some (ys, l', g')) :
    ∃ l1 b l2 g2, tg d (wipeV l vs) = some l1 ∧ t l1 g = some (b, l2, g2) ∧ ((b = true ∧ ∃ y l3 g3 zs, e l2 g2 = some (y, l3, g3) ∧ lcL vs tg t e ds (backV l l3 vs) g3 = some (zs, l', g') ∧ ys = y :: zs) ∨ (b = false ∧ lcL vs tg t e ds (backV l l2 vs) g2 = some (ys, l', g'))) := by
  unfold lcL at h
  split at h
  · cases h
  · rename_i l1 e1
    split at h
    · cases h
    · rename_i l2 g2 e2
      split at h
      · cases h
      · rename_i y l3 g3 e3
        obtain ⟨zs, l4, g4, e4, e5⟩ := mb_some h
        obtain ⟨rfl, rfl, rfl⟩ := mp_some e5
        exact ⟨l1, true, l2, g2, e1, e2, .inl ⟨rfl, y, l3, g3, zs, e3, e4, rfl⟩⟩
    · rename_i l2 g2 e2
      exact ⟨l1, false, l2, g2, e1, e2, .inr ⟨rfl, h⟩⟩
section
variable {K : Kx} {tt : TT} {te : TE} {t : M Bool} {e0 : M PyData} {wi : TI} {it : M (List PyData)} {tg : TG} {gg : G} {vs : List Nat}
theorem plain_back {l l' : Lo} (h : plainAt vs l = true) (hl : l'.length = l.length) : plainAt vs (backV l l' vs) = true := by
  unfold plainAt
  refine List.all_eq_true.mpr fun v hv => ?_
  rw [List.getD_eq_getElem?_getD, backV_get, if_pos hv]
  split
  · exact List.all_eq_true.mp h v hv
  · rfl
theorem lc_run {l1 l' : Lo} {g1 g' : Sg} {s : L2.St} {H S : Hp} {r : List Addr} {A : List (Option Addr)} {ds d : List PyData} (hi : ∀ R : It → Hp → Prop, (∀ J H' S' r' A', Mv K S H r A S' H' r' A' → StOk K l1 g1 s H' S' r' A' → WalkD K J S' ds → R J H') → wi s H R) (hg : GIn tg vs) (hm : ∀ v s H (Q Q' : L2.St → Hp → Prop), (∀ s' H', Q s' H' → Q' s' H') → tg v s H Q → tg v s H Q') (hb : BdS K tg gg) (ht : EvT K tt t) (he : EvS K te e0)
    (hpl : plainAt vs l1 = true) (hz : ds.length ≤ 4000000) (e : lcL vs gg t e0 ds l1 g1 = some (d, l', g')) (Q : VK) (q : ∀ p xs H' S' r' A', Mv K S H r A S' H' r' A' → StOk K l' g' s H' S' r' A' → H p = none → ¬ tr S' H' A' r' p → S' p = none → H' p = some (.lst xs) → DpAll K S' xs d → Q (.ref p) H') : tLc wi tg tt te vs s H Q := by
  refine hi _ fun J H1 S1 r1 A1 m1 h1 w => ?_
  intro D hD
  have hDH : H D = none := by
    cases hq : H D with
    | none => rfl
    | some u => exact absurd hD (m1.d D (some_ne hq))
  have gD : Grow m0 S1 H1 S1 (upd H1 D (.lst [])) := Grow.out h1.hs hD
  have hDt : ¬ tr S1 H1 A1 r1 D := fun z => (h1.there z).1 hD
  refine ⟨fun i m H2 => m = ds.length - i ∧ i ≤ ds.length ∧ ∃ li gi Si ri Ai acc ac rest, StOk K li gi s H2 Si ri Ai ∧ Mv K S1 H1 r1 A1 Si H2 ri Ai ∧ ¬ tr Si H2 Ai ri D ∧ Si D = none ∧ H2 D = some (.lst acc) ∧ DpAll K Si acc ac ∧ ac.length ≤ i ∧ plainAt vs li = true ∧ lcL vs gg t e0 (ds.drop i) li gi = some (rest, l', g') ∧ d = ac ++ rest,
    ⟨ds.length, by simp, Nat.zero_le _, l1, g1, S1, r1, A1, [], [], d, h1.grow gD, Mv.grow gD, fun z => hDt (tr_upd z), h1.hs.free hD, upd_same, .nil, Nat.le_refl _, hpl, e, rfl⟩, ?_⟩
  rintro i m H2 ⟨rfl, hle, li, gi, Si, ri, Ai, acc, ac, rest, hst, mi, hDi, sDi, hacc, hdacc, hal, hpi, hrun, hd⟩
  by_cases hlt : i < ds.length
  · have mw := m1.trans mi
    refine .inr ⟨w.go i H2 hlt (mi.s.trans hst.hs), fun H3 => i + 1 ≤ ds.length ∧ ∃ li gi Si ri Ai acc ac rest, StOk K li gi s H3 Si ri Ai ∧ Mv K S1 H1 r1 A1 Si H3 ri Ai ∧ ¬ tr Si H3 Ai ri D ∧ Si D = none ∧ H3 D = some (.lst acc) ∧ DpAll K Si acc ac ∧ ac.length ≤ i + 1 ∧ plainAt vs li = true ∧ lcL vs gg t e0 (ds.drop (i + 1)) li gi = some (rest, l', g') ∧ d = ac ++ rest, fun H3 ⟨q1, q2⟩ => ⟨ds.length - (i + 1), by omega, rfl, q1, q2⟩, fun x H3 y => ?_⟩
    have hdi : ds[i]? = some ds[i] := List.getElem?_eq_getElem hlt
    obtain ⟨S3, g3, d3⟩ := w.yld i H2 x H3 ds[i] Si hdi mi.s hst.hs y
    have h3 := hst.grow g3
    have hdrop : ds.drop i = ds[i] :: ds.drop (i + 1) := List.drop_eq_getElem_cons hlt
    rw [hdrop] at hrun
    obtain ⟨lb, b, l2, g2, k1, k2, k3⟩ := lcL_step hrun
    have sD3 : S3 D = none := g3.n D sDi (some_ne hacc)
    have hD3 : H3 D = some (.lst acc) := g3.all D _ hacc
    have bnd := hb _ _ _ _ _ _ _ _ _ x (fun s4 H4 => ∃ S4 A4, Mv K S3 H3 ri (cutA Ai vs) S4 H4 ri A4 ∧ StOk K lb gi s4 H4 S4 ri A4) k1 (h3.wipe (vs := vs)) d3 fun s4 H4 S4 A4 m4 h4 => ⟨S4, A4, m4, h4⟩
    refine hm _ _ _ _ _ ?_ (hg x (wipe s vs) H3 _ bnd)
    rintro s4 H4 ⟨hw, S4, A4, m4, h4⟩
    have hw' : wipe s4 vs = wipe s vs := by
      rw [hw]
      apply List.ext_getElem?
      intro j
      rw [wipe_get, wipe_get, wipe_length]
      by_cases hj : j ∈ vs
      · rw [if_pos hj, if_pos hj]
      · rw [if_neg hj, if_neg hj]
    refine ⟨hw', ?_⟩
    have hDc : ¬ tr S3 H3 (cutA Ai vs) ri D := fun z => (tr_back (trcut z) g3.s fun o e => .inr (g3.all _ o e)).elim hDi (some_ne hacc)
    have sD4 : S4 D = none := m4.n D sD3 (some_ne hD3) hDc
    have hD4 : H4 D = some (.lst acc) := m4.k D _ hDc hD3
    have hD4t : ¬ tr S4 H4 A4 ri D := fun z => (m4.f D z).elim hDc (some_ne hD3)
    have mc : Mv K Si H2 ri Ai S4 H4 ri A4 := by
      have := (Mv.grow (r := ri) (A := Ai) g3).trans (Mv.trans (A1 := cutA Ai vs) (A2 := A4) (r1 := ri) (r2 := ri) ⟨Same.refl S3, h3.hs, fun _ e _ _ => e, fun _ _ _ e => e, fun _ e => e, ⟨[], by simp⟩, fun a z => .inl (trcut z), tKeep⟩ m4)
      exact this
    have hlen4 : lb.length = li.length := by
      have e1 := h4.ls
      have e2 := hst.ls
      have e3 := congrArg List.length hw'
      rw [wipe_length, wipe_length] at e3
      omega
    refine ht _ _ _ _ _ s4 H4 S4 ri A4 k2 h4 _ fun H5 S5 r5 A5 m5 h5 => ?_
    have sD5 : S5 D = none := m5.n D sD4 (some_ne hD4) hD4t
    have hD5 : H5 D = some (.lst acc) := m5.k D _ hD4t hD4
    have hD5t : ¬ tr S5 H5 A5 r5 D := fun z => (m5.f D z).elim hD4t (some_ne hD4)
    have hlen5 : l2.length = li.length := by
      have e1 := h5.ls
      have e2 := h4.ls
      omega
    rcases k3 with ⟨rfl, y2, l3, g3', zs, k4, k5, k6⟩ | ⟨rfl, k4⟩
    · rw [if_pos rfl]
      refine he _ _ _ _ _ s4 H5 S5 r5 A5 k4 h5 _ fun v6 H6 S6 r6 A6 m6 h6 d6 => ?_
      have sD6 : S6 D = none := m6.n D sD5 (some_ne hD5) hD5t
      have hD6 : H6 D = some (.lst acc) := m6.k D _ hD5t hD5
      have hD6t : ¬ tr S6 H6 A6 r6 D := fun z => (m6.f D z).elim hD5t (some_ne hD5)
      have hlen6 : l3.length = li.length := by
        have e1 := h6.ls
        have e2 := h4.ls
        omega
      have mall := (mc.trans m5).trans m6
      have hb6 := hst.back hpi h6 hw' hlen6 mall.s mall.p
      have hl := DpAll_len hdacc
      have hDcut : ¬ tr S6 H6 (cutA A6 vs) r6 D := fun z => hD6t (trcut z)
      -- the new list grows
      have hput : StOk K (backV li l3 vs) g3' s (upd H6 D (.lst (acc ++ [v6]))) S6 r6 (cutA A6 vs) := by
        refine hb6.move (Same.refl S6) (fun b z e => ?_) (fun b hb => ⟨(hb6.thereA hb).2, fun u e => ?_⟩) ⟨[], by simp⟩ hb6.rn hb6.dr hb6.lg (fun j b o e1 e2 => ?_) (hb6.tb.go (Same.refl S6) (fun b hb => (hb6.tb.there hb).2) fun b u hb e => by rw [upd_ne fun z => hDcut (.inr (.inr (by rw [← z]; exact hb)))]; exact e)
        · rw [upd_ne (ne_of_none e sD6)]; exact hb6.hs b z e
        · rw [upd_ne fun z => hDcut (.inl (by rw [← z]; exact hb))]; exact e
        · obtain ⟨p1, p2⟩ := hb6.st j b o e1 e2
          exact ⟨p1, p2.go (Same.refl S6) (.upd (fun z => hDcut (.inr (.inl (by rw [← z]; exact List.mem_of_getElem? e1)))) hD6 (fun _ z => nomatch z)) ⟨[], by simp⟩⟩
      have mnew : Mv K S1 H1 r1 A1 S6 (upd H6 D (.lst (acc ++ [v6]))) r6 (cutA A6 vs) := by
        have mm := mi.trans mall
        refine ⟨mm.s, hput.hs, mm.n, fun b o hb e => ?_, fun b e => ?_, mm.p, fun b z => mm.f b (trcut (tr_upd z)), fun a e => tUpd (fun ps z => by rw [hD6] at z; cases z) a (mm.t a e)⟩
        · have hbD : b ≠ D := fun z => by rw [z, hD] at e; cases e
          rw [upd_ne hbD]; exact mm.k b o hb e
        · by_cases hbD : b = D
          · subst hbD; rw [upd_same]; exact fun z => nomatch z
          · rw [upd_ne hbD]; exact mm.d b e
      refine ⟨acc, hD6, szt (by omega), hlt, backV li l3 vs, g3', S6, r6, cutA A6 vs, acc ++ [v6], ac ++ [y2], zs, hput, mnew, fun z => hDcut (tr_upd z), sD6, upd_same, DpAll_app (DpAll_mono hdacc mall.s) (.cons d6 .nil), by rw [List.length_append]; simp; omega, plain_back hpi hlen6, k5, by rw [hd, k6]; simp⟩
    · rw [if_neg Bool.false_ne_true]
      have mall := mc.trans m5
      have hb5 := hst.back hpi h5 hw' hlen5 mall.s mall.p
      exact ⟨hlt, backV li l2 vs, g2, S5, r5, cutA A5 vs, acc, ac, rest, hb5, (mi.trans mall).cut, fun z => hD5t (trcut z), sD5, hD5, DpAll_mono hdacc mall.s, by omega, plain_back hpi hlen5, k4, hd⟩
  · have ei : i = ds.length := by omega
    subst ei
    rw [List.drop_length] at hrun
    obtain ⟨rfl, rfl, rfl⟩ := mp_some hrun
    rw [List.append_nil] at hd
    subst hd
    have mw := m1.trans mi
    exact .inl ⟨w.stop H2 (mi.s.trans hst.hs), q D acc H2 Si ri Ai mw hst hDH hDi sDi hacc hdacc⟩
theorem s_lc (hi : EvI K wi it) (hg : GIn tg vs) (hm : ∀ v s H (Q Q' : L2.St → Hp → Prop), (∀ s' H', Q s' H' → Q' s' H') → tg v s H Q → tg v s H Q') (hb : BdS K tg gg) (ht : EvT K tt t) (he : EvS K te e0) : EvL K (tLc wi tg tt te vs) (lLc vs it gg t e0) := fun l g d l' g' s H S r A e h Q q => by
  replace e := mb_some e; obtain ⟨ds, l1, g1, e1, e⟩ := e
  split at e
  case isFalse => cases e
  rename_i hz
  rw [Bool.and_eq_true, decide_eq_true_eq] at hz
  exact lc_run (fun R k => hi _ _ _ _ _ s H S r A e1 h R k) hg hm hb ht he hz.1 hz.2 e Q q
end
end Sm

namespace Sm
open PySem L2 RZ Dz

abbrev FS := List Vl → Sg → Option (Vl × Sg)
def StoOk (K : Kx) (S H : Hp) (r : List Addr) (g : Sg) : Prop := r.Nodup ∧ r.length = g.length ∧ (∀ (j : Nat) (a : Addr) (o : Ob), r[j]? = some a → g[j]? = some o → S a = none ∧ ObOk K S H r a o) ∧ TabsOk K S H
def spG (K : Kx) (n : Nat) (F : FS) : Sp := fun vs H Q _ => ∃ S r g as v g', as.length = n ∧ Same S H ∧ StoOk K S H r g ∧ VsOk K S r vs as ∧ F as g = some (v, g') ∧
  ∀ w S' H' r', GrowT (inR S H r) S H S' H' → (∃ q, r' = r ++ q) → (∀ a, a ∈ r' → a ∈ r ∨ H a = none) → StoOk K S' H' r' g' → VOk K S' r' w v → Q w H'
def vE (e : M PyData) : M Vl := mb e fun d => mp (.dat d)
def vR (i : Nat) : M Vl := mg fun l _ => match l[i]? with
  | some (.ref j) => some (.ref j)
  | _ => none
def vNil : M (List Vl) := mp []
def vCons (v : M Vl) (r : M (List Vl)) : M (List Vl) := mb v fun x => mb r fun xs => mp (x :: xs)
def vCall (F : FS) (a : M (List Vl)) : M Vl := mb a fun xs => fun l g => match F xs g with
  | none => none
  | some (v, g') => some (v, l, g')
def asD : Vl → Option PyData
  | .dat d => some d
  | .xt ds => some (.tuple ds)
  | _ => none
def eD (v : M Vl) : M PyData := mb v fun x => mo (asD x)
def eCall (F : FS) (a : M (List Vl)) : M PyData := eD (vCall F a)
section
variable {K : Kx} {ta te : TE} {e0 : M PyData}
theorem s_vE (h : EvS K te e0) : EvV K te (vE e0) := fun l g d l' g' s H S r A e hA Q q => by
  replace e := mb_some e; obtain ⟨x, l1, g1, e1, e⟩ := e
  obtain ⟨rfl, rfl, rfl⟩ := mp_some e
  exact h _ _ _ _ _ s H S r A e1 hA _ fun v H1 S1 r1 A1 m1 h1 d1 => q v H1 S1 r1 A1 m1 h1 d1
theorem s_vR {i : Nat} : EvV K (tVar i) (vR i) := fun l g d l' g' s H S r A e h Q q => by
  replace e := mg_some e; obtain ⟨e, rfl, rfl⟩ := e
  split at e
  · rename_i j hl
    cases e
    obtain ⟨o, v, e1, e2, e3, a, e4, rfl⟩ := h.ok i _ hl
    exact ⟨_, e2, q _ H S r A (Mv.refl h.hs) h ⟨a, e4, rfl⟩⟩
  · cases e
theorem s_vnil : EvVA K tNil vNil := fun l g d l' g' s H S r A e h Q q => by
  obtain ⟨rfl, rfl, rfl⟩ := mp_some e
  exact q _ H S r A (Mv.refl h.hs) h .nil
theorem s_vcons {tr : TA} {v : M Vl} {m : M (List Vl)} (ha : EvV K ta v) (hb : EvVA K tr m) : EvVA K (tCons ta tr) (vCons v m) := fun l g d l' g' s H S r A e h Q q => by
  replace e := mb_some e; obtain ⟨x, l1, g1, e1, e⟩ := e
  replace e := mb_some e; obtain ⟨y, l2, g2, e2, e⟩ := e
  obtain ⟨rfl, rfl, rfl⟩ := mp_some e
  exact ha _ _ _ _ _ s H S r A e1 h _ fun v1 H1 S1 r1 A1 m1 h1 d1 => hb _ _ _ _ _ s H1 S1 r1 A1 e2 h1 _ fun v2 H2 S2 r2 A2 m2 h2 d2 => q _ H2 S2 r2 A2 (m1.trans m2) h2 (.cons (d1.go m2.s m2.p) d2)
theorem call_at {F : FS} {n : Nat} {l : Lo} {g g' : Sg} {s : L2.St} {H S : Hp} {r : List Addr} {A : List (Option Addr)} {vs : List V} {as : List Vl} {v : Vl} {Q : VK} {E : XK} (h : StOk K l g s H S r A) (hv : VsOk K S r vs as) (hn : as.length = n) (e : F as g = some (v, g'))
    (q : ∀ w H1 S1 r1, Mv K S H r A S1 H1 r1 A → StOk K l g' s H1 S1 r1 A → VOk K S1 r1 w v → Q w H1) : spG K n F vs H Q E :=
  ⟨S, r, g, as, v, g', hn, h.hs, ⟨h.rn, h.lg, h.st, h.tb⟩, hv, e, fun w S1 H1 r1 gr hp hf ⟨s1, s2, s3, s4⟩ hw => by
    obtain ⟨h1, m1⟩ := h.call gr hp s1 hf s2 s3 s4
    exact q w H1 S1 r1 m1 h1 hw⟩
theorem paired_len {α β : Type} {R : α → β → Prop} {xs : List α} {ys : List β} (h : Paired R xs ys) : xs.length = ys.length := by
  induction h with
  | nil => rfl
  | cons _ _ ih => simp [ih]
theorem s_vcall {F : FS} {n : Nat} {E : XK} {tr : TA} {m : M (List Vl)} (ha : EvVA K tr m) (hn : ∀ l g xs l' g', m l g = some (xs, l', g') → xs.length = n) : EvV K (tCall (spG K n F) [] E tr) (vCall F m) := fun l g d l' g' s H S r A e h Q q => by
  replace e := mb_some e; obtain ⟨x, l1, g1, e1, e⟩ := e
  split at e
  · cases e
  · rename_i v g2 e2
    cases e
    refine ha _ _ _ _ _ s H S r A e1 h _ fun vs H1 S1 r1 A1 m1 h1 d1 => ?_
    show spG K n F (vs ++ []) H1 Q E
    rw [List.append_nil]
    exact call_at h1 d1 (hn _ _ _ _ _ e1) e2 fun w H2 S2 r2 m2 h2 d2 => q w H2 S2 r2 A1 (m1.trans m2) h2 d2
theorem s_eD {v : M Vl} (h : EvV K te v) : EvS K te (eD v) := fun l g d l' g' s H S r A e hA Q q => by
  replace e := mb_some e; obtain ⟨x, l1, g1, e1, e⟩ := e
  replace e := mo_some e; obtain ⟨e, rfl, rfl⟩ := e
  cases x <;> first | cases e | skip
  · exact h _ _ _ _ _ s H S r A e1 hA _ fun v H1 S1 r1 A1 m1 h1 d1 => q v H1 S1 r1 A1 m1 h1 d1
  · exact h _ _ _ _ _ s H S r A e1 hA _ fun v H1 S1 r1 A1 m1 h1 d1 => q v H1 S1 r1 A1 m1 h1 (XtV.dp d1)
theorem s_call {F : FS} {n : Nat} {E : XK} {tr : TA} {m : M (List Vl)} (ha : EvVA K tr m) (hn : ∀ l g xs l' g', m l g = some (xs, l', g') → xs.length = n) : EvS K (tCall (spG K n F) [] E tr) (eCall F m) := s_eD (s_vcall ha hn)
theorem vn_nil : ∀ l g xs l' g', vNil l g = some (xs, l', g') → xs.length = 0 := fun l g xs l' g' e => by
  obtain ⟨rfl, _⟩ := mp_some e
  rfl
theorem vn_cons {v : M Vl} {m : M (List Vl)} {n : Nat} (h : ∀ l g xs l' g', m l g = some (xs, l', g') → xs.length = n) : ∀ l g xs l' g', vCons v m l g = some (xs, l', g') → xs.length = n + 1 := fun l g xs l' g' e => by
  replace e := mb_some e; obtain ⟨x, l1, g1, e1, e⟩ := e
  replace e := mb_some e; obtain ⟨y, l2, g2, e2, e⟩ := e
  obtain ⟨rfl, _⟩ := mp_some e
  simp [h _ _ _ _ _ e2]
end

theorem StOk.freshL {K : Kx} {l : Lo} {g : Sg} {s : L2.St} {H S : Hp} {r : List Addr} {A : List (Option Addr)} {i : Nat} {p : Addr} {xs : List V} {ds : List PyData} (h : StOk K l g s H S r A) (hA : some p ∉ A) (hr : p ∉ r) (sp : S p = none) (hx : H p = some (.lst xs)) (hd : DpAll K S xs ds) : StOk K (l.set i (.own ds)) g (s.set i (some (.ref p))) H S r (A.set i (some p)) := h.fresh hA hr ⟨p, rfl, rfl, sp, xs, hx, hd⟩
theorem StOk.freshC {K : Kx} {l : Lo} {g : Sg} {s : L2.St} {H S : Hp} {r : List Addr} {A : List (Option Addr)} {i : Nat} {p : Addr} {xs : List (Key × V)} {ds : List (Key × PyData)} (h : StOk K l g s H S r A) (hA : some p ∉ A) (hr : p ∉ r) (sp : S p = none) (hx : H p = some (.dK xs)) (hd : KvD K S xs ds) : StOk K (l.set i (.dct ds)) g (s.set i (some (.ref p))) H S r (A.set i (some p)) := h.fresh hA hr ⟨p, rfl, rfl, sp, xs, hx, hd⟩
inductive Out where
  | nx
  | bk
  | ct
  | ret (v : Vl)
abbrev X := M Out
def OutOk (K : Kx) (D : Ends) (S : Hp) (r : List Addr) (s : L2.St) (H : Hp) : Out → Prop
  | .nx => D.nx s H
  | .bk => D.bk s H
  | .ct => D.ct s H
  | .ret v => ∀ w, VOk K S r w v → D.rt w H
def ExS (K : Kx) (ts : TS) (x : X) : Prop := ∀ l g o l' g' s H S r A, x l g = some (o, l', g') → StOk K l g s H S r A → ∀ D : Ends, (∀ s' H' S' r' A', Mv K S H r A S' H' r' A' → StOk K l' g' s' H' S' r' A' → OutOk K D S' r' s' H' o) → ts D s H
def xNext : X := mp .nx
def xSeq (x y : X) : X := mb x fun o => match o with
  | .nx => y
  | o => mp o
def xAsg (i : Nat) (e : M PyData) : X := mb e fun d => fun l g => some (.nx, l.set i (.dat d), g)
def xAsgG (G : G) (e : M PyData) : X := mb e fun d => fun l g => match G d l with
  | none => none
  | some l' => some (.nx, l', g)
def xAsgL (i : Nat) (m : M (List PyData)) : X := mb m fun ds => fun l g => some (.nx, l.set i (.own ds), g)
def xAsgC (i : Nat) (m : M (List (Key × PyData))) : X := mb m fun ds => fun l g => some (.nx, l.set i (.dct ds), g)
def xIf (t : M Bool) (a b : X) : X := mb t fun c => if c = true then a else b
def xRet (e : M PyData) : X := mb e fun d => mp (.ret (.dat d))
def appO (i : Nat) (d : PyData) : X := fun l g => match lsM l g i with
  | some ds => if ds.length < 4000000 then some (.nx, (ptV l g i (ds ++ [d])).1, (ptV l g i (ds ++ [d])).2) else none
  | none => none
def xApp (i : Nat) (e : M PyData) : X := mb (mg fun l g => lsM l g i) fun _ => mb e fun d => appO i d
def setO (i : Nat) (k d : PyData) : X := fun l g => match lsM l g i, asI k with
  | some ds, some n => (match ixN ds.length n with
    | some j => some (.nx, (ptV l g i (ds.set j d)).1, (ptV l g i (ds.set j d)).2)
    | none => none)
  | _, _ => none
def xSetI (i : Nat) (k e : M PyData) : X := mb e fun d => mb (mg fun l g => lsM l g i) fun _ => mb k fun y => setO i y d
def xAug (i : Nat) (f : PyData → PyData → Option PyData) (e : M PyData) : X := mb (eVar i) fun x => mb e fun y => mb (mo (f x y)) fun z => fun l g => some (.nx, l.set i (.dat z), g)
def xForL (G : G) (b : X) : List PyData → X
  | [] => mp .nx
  | d :: ds => fun l g => match G d l with
    | none => none
    | some l1 => match b l1 g with
      | none => none
      | some (.nx, l2, g2) => xForL G b ds l2 g2
      | some (.ct, l2, g2) => xForL G b ds l2 g2
      | some (.bk, l2, g2) => some (.nx, l2, g2)
      | some (.ret v, l2, g2) => some (.ret v, l2, g2)
def xFor (it : M (List PyData)) (G : G) (b : X) : X := mb it fun ds => xForL G b ds
def whF (t : M Bool) (b : X) : Nat → X
  | 0 => fail
  | n + 1 => fun l g => match t l g with
    | none => none
    | some (false, l1, g1) => some (.nx, l1, g1)
    | some (true, l1, g1) => match b l1 g1 with
      | none => none
      | some (.nx, l2, g2) => whF t b n l2 g2
      | some (.ct, l2, g2) => whF t b n l2 g2
      | some (.bk, l2, g2) => some (.nx, l2, g2)
      | some (.ret v, l2, g2) => some (.ret v, l2, g2)
def wFuel : Nat := 4000000
def xWhile (t : M Bool) (b : X) : X := whF t b wFuel
def xFrz (i : Nat) (x : X) : X := fun l g => match l[i]? with
  | some (.own ds) => x (l.set i (.dat (.list ds))) g
  | _ => x l g
def xParCL (i j : Nat) (a : M (List (Key × PyData))) (b : M (List PyData)) : X := mb a fun x => mb b fun y => fun l g => some (.nx, (l.set i (.dct x)).set j (.own y), g)
section
variable {K : Kx} {ta tb te : TE} {tt : TT} {tu tv : TS} {a b e0 : M PyData} {t : M Bool} {x y : X} {i j k : Nat}
theorem x_next : ExS K tNext xNext := fun l g o l' g' s H S r A e h D q => by
  obtain ⟨rfl, rfl, rfl⟩ := mp_some e
  exact q s H S r A (Mv.refl h.hs) h
theorem x_seq (h1 : ExS K tu x) (h2 : ExS K tv y) : ExS K (tSeq tu tv) (xSeq x y) := fun l g o l' g' s H S r A e h D q => by
  replace e := mb_some e; obtain ⟨o1, l1, g1, e1, e⟩ := e
  refine h1 _ _ _ _ _ s H S r A e1 h _ fun s1 H1 S1 r1 A1 m1 h1' => ?_
  cases o1 with
  | nx => exact h2 _ _ _ _ _ s1 H1 S1 r1 A1 e h1' D fun s2 H2 S2 r2 A2 m2 h2' => q s2 H2 S2 r2 A2 (m1.trans m2) h2'
  | bk => obtain ⟨rfl, rfl, rfl⟩ := mp_some e; exact q s1 H1 S1 r1 A1 m1 h1'
  | ct => obtain ⟨rfl, rfl, rfl⟩ := mp_some e; exact q s1 H1 S1 r1 A1 m1 h1'
  | ret v => obtain ⟨rfl, rfl, rfl⟩ := mp_some e; exact q s1 H1 S1 r1 A1 m1 h1'
theorem x_asg (he : EvS K te e0) : ExS K (tAsg te (gName i)) (xAsg i e0) := fun l g o l' g' s H S r A e h D q => by
  replace e := mb_some e; obtain ⟨d, l1, g1, e1, e⟩ := e
  cases e
  exact he _ _ _ _ _ s H S r A e1 h _ fun v H1 S1 r1 A1 m1 h1 d1 => q _ H1 S1 r1 _ m1.set (h1.set ⟨rfl, v, rfl, d1⟩)
theorem x_asgG {tg : TG} {gg : G} (he : EvS K te e0) (hb : BdS K tg gg) : ExS K (tAsg te tg) (xAsgG gg e0) := fun l g o l' g' s H S r A e h D q => by
  replace e := mb_some e; obtain ⟨d, l1, g1, e1, e⟩ := e
  split at e
  · cases e
  · rename_i l2 e2
    cases e
    exact he _ _ _ _ _ s H S r A e1 h _ fun v H1 S1 r1 A1 m1 h1 d1 => hb _ _ _ _ s H1 S1 r1 A1 v _ e2 h1 d1 fun s2 H2 S2 A2 m2 h2 => q s2 H2 S2 r1 A2 (m1.trans m2) h2
theorem x_asgL {m : M (List PyData)} (he : EvL K te m) : ExS K (tAsg te (gName i)) (xAsgL i m) := fun l g o l' g' s H S r A e h D q => by
  replace e := mb_some e; obtain ⟨d, l1, g1, e1, e⟩ := e
  cases e
  exact he _ _ _ _ _ s H S r A e1 h _ fun p xs H1 S1 r1 A1 m1 h1 hp ht sp hx hd => q _ H1 S1 r1 _ (m1.fresh hp) (h1.fresh (fun z => ht (.inl z)) (fun z => ht (.inr (.inl z))) ⟨p, rfl, rfl, sp, xs, hx, hd⟩)
theorem x_asgC {m : M (List (Key × PyData))} (he : EvC K te m) : ExS K (tAsg te (gName i)) (xAsgC i m) := fun l g o l' g' s H S r A e h D q => by
  replace e := mb_some e; obtain ⟨d, l1, g1, e1, e⟩ := e
  cases e
  exact he _ _ _ _ _ s H S r A e1 h _ fun p xs H1 S1 r1 A1 m1 h1 hp ht sp hx hd => q _ H1 S1 r1 _ (m1.fresh hp) (h1.fresh (fun z => ht (.inl z)) (fun z => ht (.inr (.inl z))) ⟨p, rfl, rfl, sp, xs, hx, hd⟩)
theorem x_if (ht : EvT K tt t) (h1 : ExS K tu x) (h2 : ExS K tv y) : ExS K (tIfS tt tu tv) (xIf t x y) := fun l g o l' g' s H S r A e h D q => by
  replace e := mb_some e; obtain ⟨c, l1, g1, e1, e⟩ := e
  refine ht _ _ _ _ _ s H S r A e1 h _ fun H1 S1 r1 A1 m1 h1' => ?_
  cases c with
  | true => exact h1 _ _ _ _ _ s H1 S1 r1 A1 e h1' D fun s2 H2 S2 r2 A2 m2 h2' => q s2 H2 S2 r2 A2 (m1.trans m2) h2'
  | false => exact h2 _ _ _ _ _ s H1 S1 r1 A1 e h1' D fun s2 H2 S2 r2 A2 m2 h2' => q s2 H2 S2 r2 A2 (m1.trans m2) h2'
theorem x_ret (he : EvS K te e0) : ExS K (tRet te) (xRet e0) := fun l g o l' g' s H S r A e h D q => by
  replace e := mb_some e; obtain ⟨d, l1, g1, e1, e⟩ := e
  obtain ⟨rfl, rfl, rfl⟩ := mp_some e
  exact he _ _ _ _ _ s H S r A e1 h _ fun v H1 S1 r1 A1 m1 h1 d1 => q s H1 S1 r1 A1 m1 h1 v d1
theorem x_app (he : EvS K te e0) : ExS K (tDrop (tBM K "list" rAppend (tVar i) (tCons te tNil))) (xApp i e0) := fun l g o l' g' s H S r A e h D q => by
  replace e := mb_some e; obtain ⟨y0, l0, g0, e0, e⟩ := e
  replace e0 := mg_some e0; obtain ⟨e0, rfl, rfl⟩ := e0
  replace e := mb_some e; obtain ⟨d, l1, g1, e1, e⟩ := e
  obtain ⟨a, xs, q1, q2, q3, _⟩ := wr_ls h e0
  refine ⟨_, q1, .inl ⟨rfl, xs, .inl (.inl q2)⟩, he _ _ _ _ _ s H S r A e1 h _ fun v1 H1 S1 r1 A1 m1 h1 d1 => ?_⟩
  unfold appO at e
  split at e
  · rename_i ds hm
    split at e
    · rename_i hz
      cases e
      obtain ⟨a', xs, q4, q5, q6, q7⟩ := wr_ls h1 hm
      rw [q1] at q4
      cases q4
      obtain ⟨z1, z2⟩ := q7 _ _ (DpAll_app q6 (.cons d1 .nil))
      exact ⟨a, xs, v1, rfl, rfl, q5, szt (by rw [DpAll_len q6]; exact hz), q s _ S1 r1 A1 (m1.trans z2) z1⟩
    · cases e
  · cases e
theorem x_setI (hk : EvS K tb b) (he : EvS K te e0) : ExS K (tAsg te (gSub (tVar i) tb rSetL)) (xSetI i b e0) := fun l g o l' g' s H S r A e h D q => by
  replace e := mb_some e; obtain ⟨d, l1, g1, e1, e⟩ := e
  replace e := mb_some e; obtain ⟨y0, l0, g0, e0, e⟩ := e
  replace e0 := mg_some e0; obtain ⟨e0, rfl, rfl⟩ := e0
  replace e := mb_some e; obtain ⟨y, l2, g2, e2, e⟩ := e
  refine he _ _ _ _ _ s H S r A e1 h _ fun v1 H1 S1 r1 A1 m1 h1 d1 => ?_
  obtain ⟨a, xs, q1, q2, q3, _⟩ := wr_ls h1 e0
  refine ⟨_, q1, hk _ _ _ _ _ s H1 S1 r1 A1 e2 h1 _ fun v2 H2 S2 r2 A2 m2 h2 d2 => ?_⟩
  unfold setO at e
  split at e
  · rename_i ds n hm hn
    cases asI_some hn
    cases d2
    split at e
    · rename_i jj hj
      cases e
      obtain ⟨a', xs, q4, q5, q6, q7⟩ := wr_ls h2 hm
      rw [q1] at q4
      cases q4
      obtain ⟨z1, z2⟩ := q7 _ _ (DpAll_set (Dp_mono d1 m2.s) jj q6)
      exact ⟨a, xs, n, jj, rfl, rfl, q5, by rw [DpAll_len q6]; exact hj, q s _ S2 r2 A2 ((m1.trans m2).trans z2) z1⟩
    · cases e
  · cases e
theorem x_aug {f : Int → Int → Int} {fd : PyData → PyData → Option PyData} (hf : ∀ x y z, fd x y = some z → ∀ n m, x = .int n → y = .int m → z = .int (f n m)) (hi : ∀ x y z, fd x y = some z → (∃ n, x = .int n) ∧ ∃ m, y = .int m) (he : EvS K te e0) : ExS K (tAug i te (ipI f)) (xAug i fd e0) := fun l g o l' g' s H S r A e h D q => by
  replace e := mb_some e; obtain ⟨d, l0, g0, e0, e⟩ := e
  replace e := mb_some e; obtain ⟨y, l1, g1, e1, e⟩ := e
  replace e := mb_some e; obtain ⟨z, l2, g2, e2, e⟩ := e
  replace e2 := mo_some e2; obtain ⟨e2, rfl, rfl⟩ := e2
  cases e
  unfold eVar at e0
  split at e0
  · rename_i d' hl
    cases e0
    obtain ⟨o, v, p1, p2, p3, w, rfl, p4⟩ := h.ok i _ hl
    obtain ⟨⟨n, rfl⟩, m, rfl⟩ := hi _ _ _ e2
    cases hf _ _ _ e2 n m rfl rfl
    cases p4
    refine ⟨_, p2, he _ _ _ _ _ s H S r A e1 h _ fun v H1 S1 r1 A1 m1 h1 d1 => ?_⟩
    cases d1
    exact ⟨n, m, rfl, rfl, q _ H1 S1 r1 _ m1.set (h1.set ⟨rfl, _, rfl, .int _⟩)⟩
  · cases e0
    obtain ⟨⟨n, hn⟩, _⟩ := hi _ _ _ e2
    cases hn
  · cases e0
def addI := iOp fun i j => .int (i + j)
theorem x_augA (he : EvS K te e0) : ExS K (tAug i te (ipI fun i j => i + j)) (xAug i addI e0) := x_aug (fun x y z e n m e1 e2 => by subst e1 e2; cases e; rfl) (fun x y z e => by
  unfold addI iOp at e
  split at e
  · exact ⟨⟨_, rfl⟩, _, rfl⟩
  · cases e) he
theorem x_for {wi : TI} {it : M (List PyData)} {tg : TG} {gg : G} (hi : EvI K wi it) (hb : BdS K tg gg) (hx : ExS K tu x) : ExS K (tFor wi tg tu) (xFor it gg x) := fun l g o l' g' s H S r A e h D q => by
  replace e := mb_some e; obtain ⟨ds, l1, g1, e1, e⟩ := e
  refine hi _ _ _ _ _ s H S r A e1 h _ fun J H1 S1 r1 A1 m1 h1 w => ?_
  refine ⟨fun i m s' H' => m = ds.length - i ∧ i ≤ ds.length ∧ ∃ li gi Si ri Ai, StOk K li gi s' H' Si ri Ai ∧ Mv K S1 H1 r1 A1 Si H' ri Ai ∧ xForL gg x (ds.drop i) li gi = some (o, l', g'), ⟨ds.length, by simp, Nat.zero_le _, l1, g1, S1, r1, A1, h1, Mv.refl h1.hs, e⟩, ?_⟩
  rintro i m s' H' ⟨rfl, hle, li, gi, Si, ri, Ai, hst, mi, hrun⟩
  by_cases hlt : i < ds.length
  · refine .inr ⟨w.go i H' hlt (mi.s.trans hst.hs), fun s' H' => i + 1 ≤ ds.length ∧ ∃ li gi Si ri Ai, StOk K li gi s' H' Si ri Ai ∧ Mv K S1 H1 r1 A1 Si H' ri Ai ∧ xForL gg x (ds.drop (i + 1)) li gi = some (o, l', g'), fun s3 H3 ⟨q1, q2⟩ => ⟨ds.length - (i + 1), by omega, rfl, q1, q2⟩, fun v H3 y => ?_⟩
    have hdi : ds[i]? = some ds[i] := List.getElem?_eq_getElem hlt
    obtain ⟨S3, g3, d3⟩ := w.yld i H' v H3 ds[i] Si hdi mi.s hst.hs y
    have h3 := hst.grow g3
    have hdrop : ds.drop i = ds[i] :: ds.drop (i + 1) := List.drop_eq_getElem_cons hlt
    rw [hdrop] at hrun
    unfold xForL at hrun
    split at hrun
    · cases hrun
    · rename_i lb hlb
      refine hb _ _ _ _ s' H3 S3 ri Ai v _ hlb h3 d3 fun s4 H4 S4 A4 m4 h4 => ?_
      have m34 := (mi.trans (Mv.grow g3)).trans m4
      split at hrun
      · cases hrun
      · rename_i l2 g2 e2
        exact hx _ _ _ _ _ s4 H4 S4 ri A4 e2 h4 _ fun s5 H5 S5 r5 A5 m5 h5 => ⟨hlt, l2, g2, S5, r5, A5, h5, m34.trans m5, hrun⟩
      · rename_i l2 g2 e2
        exact hx _ _ _ _ _ s4 H4 S4 ri A4 e2 h4 _ fun s5 H5 S5 r5 A5 m5 h5 => ⟨hlt, l2, g2, S5, r5, A5, h5, m34.trans m5, hrun⟩
      · rename_i l2 g2 e2
        cases hrun
        exact hx _ _ _ _ _ s4 H4 S4 ri A4 e2 h4 _ fun s5 H5 S5 r5 A5 m5 h5 => q s5 H5 S5 r5 A5 (m1.trans (m34.trans m5)) h5
      · rename_i v l2 g2 e2
        cases hrun
        exact hx _ _ _ _ _ s4 H4 S4 ri A4 e2 h4 _ fun s5 H5 S5 r5 A5 m5 h5 => q s5 H5 S5 r5 A5 (m1.trans (m34.trans m5)) h5
  · have ei : i = ds.length := by omega
    subst ei
    rw [List.drop_length] at hrun
    obtain ⟨rfl, rfl, rfl⟩ := mp_some hrun
    exact .inl ⟨w.stop H' (mi.s.trans hst.hs), q s' H' Si ri Ai (m1.trans mi) hst⟩
theorem x_while (ht : EvT K tt t) (hx : ExS K tu x) : ExS K (tWhile tt tu) (xWhile t x) := fun l g o l' g' s H S r A e h D q => by
  refine ⟨fun m s' H' => ∃ li gi Si ri Ai, StOk K li gi s' H' Si ri Ai ∧ Mv K S H r A Si H' ri Ai ∧ whF t x m li gi = some (o, l', g'), ⟨wFuel, l, g, S, r, A, h, Mv.refl h.hs, e⟩, ?_⟩
  rintro m s' H' ⟨li, gi, Si, ri, Ai, hst, mi, hrun⟩
  cases m with
  | zero => cases hrun
  | succ m =>
    unfold whF at hrun
    split at hrun
    · cases hrun
    · rename_i l1 g1 e1
      cases hrun
      refine ht _ _ _ _ _ s' H' Si ri Ai e1 hst _ fun H1 S1 r1 A1 m1 h1 => ?_
      rw [if_neg Bool.false_ne_true]
      exact q s' H1 S1 r1 A1 (mi.trans m1) h1
    · rename_i l1 g1 e1
      refine ht _ _ _ _ _ s' H' Si ri Ai e1 hst _ fun H1 S1 r1 A1 m1 h1 => ?_
      rw [if_pos rfl]
      refine ⟨fun s' H' => ∃ li gi Si ri Ai, StOk K li gi s' H' Si ri Ai ∧ Mv K S H r A Si H' ri Ai ∧ whF t x m li gi = some (o, l', g'), fun s3 H3 q3 => ⟨m, by omega, q3⟩, ?_⟩
      have m2 := mi.trans m1
      split at hrun
      · cases hrun
      · rename_i l2 g2 e2
        exact hx _ _ _ _ _ s' H1 S1 r1 A1 e2 h1 _ fun s5 H5 S5 r5 A5 m5 h5 => ⟨l2, g2, S5, r5, A5, h5, m2.trans m5, hrun⟩
      · rename_i l2 g2 e2
        exact hx _ _ _ _ _ s' H1 S1 r1 A1 e2 h1 _ fun s5 H5 S5 r5 A5 m5 h5 => ⟨l2, g2, S5, r5, A5, h5, m2.trans m5, hrun⟩
      · rename_i l2 g2 e2
        cases hrun
        exact hx _ _ _ _ _ s' H1 S1 r1 A1 e2 h1 _ fun s5 H5 S5 r5 A5 m5 h5 => q s5 H5 S5 r5 A5 (m2.trans m5) h5
      · rename_i v l2 g2 e2
        cases hrun
        exact hx _ _ _ _ _ s' H1 S1 r1 A1 e2 h1 _ fun s5 H5 S5 r5 A5 m5 h5 => q s5 H5 S5 r5 A5 (m2.trans m5) h5
theorem x_frz (hx : ExS K tu x) : ExS K tu (xFrz i x) := fun l g o l' g' s H S r A e h D q => by
  unfold xFrz at e
  split at e
  · rename_i ds hl
    obtain ⟨S1, h1, m1⟩ := h.freeze hl
    exact hx _ _ _ _ _ s H S1 r _ e h1 D fun s2 H2 S2 r2 A2 m2 h2 => q s2 H2 S2 r2 A2 (m1.trans m2) h2
  · exact hx _ _ _ _ _ s H S r A e h D q
theorem x_parCL {m : M (List (Key × PyData))} {m' : M (List PyData)} (ha : EvC K ta m) (hb : EvL K tb m') : ExS K (tPar i j (tCons ta (tCons tb tNil))) (xParCL i j m m') := fun l g o l' g' s H S r A e h D q => by
  replace e := mb_some e; obtain ⟨x, l1, g1, e1, e⟩ := e
  replace e := mb_some e; obtain ⟨y, l2, g2, e2, e⟩ := e
  cases e
  refine ha _ _ _ _ _ s H S r A e1 h _ fun p xs H1 S1 r1 A1 m1 h1 hp ht sp hx hd => hb _ _ _ _ _ s H1 S1 r1 A1 e2 h1 _ fun p2 xs2 H2 S2 r2 A2 m2 h2 hp2 ht2 sp2 hx2 hd2 => ⟨_, _, rfl, q _ H2 S2 r2 _ (((m1.trans m2).fresh hp).fresh ?_) ((h2.freshC (fun z => ?_) (fun z => ?_) ?_ ?_ (hd.mono m2.s)).freshL ?_ (fun z => ht2 (.inr (.inl z))) sp2 hx2 hd2)⟩
  · cases hq : H p2 with
    | none => rfl
    | some u => exact absurd hp2 (m1.d p2 (some_ne hq))
  · exact (m2.f p (.inl z)).elim ht (some_ne hx)
  · exact (m2.f p (.inr (.inl z))).elim ht (some_ne hx)
  · exact m2.n p sp (some_ne hx) ht
  · exact m2.k p _ ht hx
  · intro z
    rcases List.mem_or_eq_of_mem_set z with z | z
    · exact ht2 (.inl z)
    · cases z; rw [hp2] at hx; cases hx
end

def fnS (n : Nat) (x : X) : FS := fun as g => match x (as ++ List.replicate (n - as.length) .no) g with
  | some (.ret v, _, g') => some (v, g')
  | some (.nx, _, g') => some (.dat .none, g')
  | _ => none
theorem start_ok {K : Kx} {S H : Hp} {r : List Addr} {g : Sg} {N : List Str} {vs : List V} {as : List Vl} (hs : Same S H) (so : StoOk K S H r g) (hv : VsOk K S r vs as) : StOk K (as ++ List.replicate (N.length - as.length) .no) g (start N vs) H S r (List.replicate (as ++ List.replicate (N.length - as.length) Vl.no).length none) := by
  have hl := paired_len hv
  have key : ∀ {vs : List V} {as : List Vl}, VsOk K S r vs as → ∀ (i : Nat) (x : Vl), as[i]? = some x → ∃ w, (vs.map some)[i]? = some (some w) ∧ SOk K S H r x none (some w) := by
    intro vs as h
    induction h with
    | nil => intro i x e; simp at e
    | @cons v a vs as hva _ ih =>
      intro i x e
      cases i with
      | zero =>
        simp at e
        subst e
        refine ⟨v, rfl, ?_⟩
        cases a with
        | dat d => exact ⟨rfl, v, rfl, hva⟩
        | ref j => obtain ⟨a, e1, rfl⟩ := hva; exact ⟨rfl, a, e1, rfl⟩
        | no => cases hva
        | own ds => cases hva
        | dct ds => cases hva
        | dnk ds => cases hva
        | fn F => exact ⟨rfl, v, rfl, hva⟩
        | xt ds => exact ⟨rfl, v, rfl, hva⟩
        | os b ds => exact ⟨rfl, v, rfl, hva⟩
      | succ i => simpa using ih i x (by simpa using e)
  refine ⟨hs, by simp, ?_, fun i x e => ?_, fun i j a e => ?_, fun a ha => ?_, so.1, so.2.1, so.2.2.1, so.2.2.2⟩
  · unfold L2.start
    simp [hl]
  · have hi : i < (as ++ List.replicate (N.length - as.length) Vl.no).length := (List.getElem?_eq_some_iff.mp e).1
    have hA : (List.replicate (as ++ List.replicate (N.length - as.length) Vl.no).length (none : Option Addr))[i]? = some none := by
      rw [List.getElem?_replicate, if_pos hi]
    by_cases hia : i < as.length
    · rw [List.getElem?_append_left hia] at e
      obtain ⟨w, e1, e2⟩ := key hv i x e
      refine ⟨none, some w, hA, ?_, e2⟩
      unfold L2.start
      rw [List.getElem?_append_left (by simp [hl]; exact hia)]
      exact e1
    · rw [List.getElem?_append_right (by omega), List.getElem?_replicate] at e
      split at e
      · rename_i hj
        cases e
        refine ⟨none, none, hA, ?_, rfl⟩
        unfold L2.start
        rw [List.getElem?_append_right (by simp [hl]; omega), List.getElem?_replicate, if_pos (by simp [hl]; exact hj)]
      · cases e
  · rw [List.getElem?_replicate] at e
    split at e <;> cases e
  · exact absurd (List.eq_of_mem_replicate ha) (by simp)
theorem run_fn {K : Kx} {ts : TS} {x : X} {N : List Str} {n m : Nat} {vs : List V} {H : Hp} {Q : VK} {E : XK} (hx : ExS K ts x) (hN : N.length = n) (h : spG K m (fnS n x) vs H Q E) : ts { nx := fun _ H' => Q .non H', rt := Q } (start N vs) H := by
  obtain ⟨S, r, g, as, v, g', hm, hs, so, hv, e, q⟩ := h
  subst hN
  have st := start_ok (N := N) hs so hv
  have tr0 : ∀ a, tr S H (List.replicate (as ++ List.replicate (N.length - as.length) Vl.no).length (none : Option Addr)) r a → inR S H r a := fun a z => z.elim (fun z => absurd (List.eq_of_mem_replicate z) (by simp)) id
  have gr : ∀ {S' H' : Hp} {r' : List Addr} {A' : List (Option Addr)} {l : Lo} {g : Sg} {s : L2.St}, Mv K S H r (List.replicate (as ++ List.replicate (N.length - as.length) Vl.no).length none) S' H' r' A' → StOk K l g s H' S' r' A' → GrowT (inR S H r) S H S' H' ∧ (∃ q, r' = r ++ q) ∧ (∀ a, a ∈ r' → a ∈ r ∨ H a = none) ∧ StoOk K S' H' r' g := fun m st' => by
    refine ⟨⟨m.s, m.h, fun a e1 e2 => ?_, fun a o hm e => m.k a o (fun z => hm (tr0 a z)) e, m.d, fun a ps e => ?_⟩, m.p, fun a ha => (m.f a (.inr (.inl ha))).elim (fun z => (tr0 a z).elim .inl fun z => absurd (m.t a z) (st'.apartR ha)) .inr, st'.rn, st'.lg, st'.st, st'.tb⟩
    by_cases ha : inR S H r a
    · rcases ha with ha | ha
      · obtain ⟨q, rfl⟩ := m.p
        exact (st'.thereR (List.mem_append_left _ ha)).2
      · exact (m.t a ha).1
    · exact m.n a e1 e2 fun z => ha (tr0 a z)
    · by_cases ht : S a = none
      · exact (m.t a ⟨ht, ps, e⟩).2
      · obtain ⟨u, hu⟩ := ne_some ht
        have e2 := hs a u hu
        rw [e] at e2
        cases e2
        exact ⟨ps, m.h a _ (m.s a _ hu)⟩
  unfold fnS at e
  split at e
  · rename_i v2 l2 g2 e2
    cases e
    refine hx _ _ _ _ _ _ H S r _ e2 st _ fun s' H' S' r' A' m' st' => ?_
    intro w hw
    obtain ⟨p1, p2, p3, p4⟩ := gr m' st'
    exact q w S' H' r' p1 p2 p3 p4 hw
  · rename_i l2 g2 e2
    cases e
    refine hx _ _ _ _ _ _ H S r _ e2 st _ fun s' H' S' r' A' m' st' => ?_
    obtain ⟨p1, p2, p3, p4⟩ := gr m' st'
    exact q .non S' H' r' p1 p2 p3 p4 .non
  · cases e
theorem spG_len {K : Kx} {n : Nat} {F : FS} {vs : List V} {H : Hp} {Q : VK} {E : XK} (h : spG K n F vs H Q E) : vs.length = n := by
  obtain ⟨S, r, g, as, v, g', hm, hs, so, hv, e, q⟩ := h
  rw [paired_len hv, hm]
end Sm

namespace Sm
open PySem PySem.Spec PyProof.Rows L2 RZ SrtO Dz

def intsO : List PyData → Option (List Int)
  | [] => some []
  | .int i :: r => (intsO r).map (i :: ·)
  | _ => none
def boolsO : List PyData → Option (List Bool)
  | [] => some []
  | .bool i :: r => (boolsO r).map (i :: ·)
  | _ => none
theorem intsO_some : ∀ {ds : List PyData} {ns : List Int}, intsO ds = some ns → ds = ns.map .int
  | [], ns, h => by cases h; rfl
  | .int i :: r, ns, h => by
    obtain ⟨ms, e, rfl⟩ := Option.map_eq_some_iff.mp (show (intsO r).map (i :: ·) = some ns from h)
    rw [intsO_some e]; rfl
  | .none :: r, ns, h => by cases h
  | .bool _ :: r, ns, h => by cases h
  | .str _ :: r, ns, h => by cases h
  | .list _ :: r, ns, h => by cases h
  | .tuple _ :: r, ns, h => by cases h
  | .dict _ :: r, ns, h => by cases h
theorem boolsO_some : ∀ {ds : List PyData} {ns : List Bool}, boolsO ds = some ns → ds = ns.map .bool
  | [], ns, h => by cases h; rfl
  | .bool i :: r, ns, h => by
    obtain ⟨ms, e, rfl⟩ := Option.map_eq_some_iff.mp (show (boolsO r).map (i :: ·) = some ns from h)
    rw [boolsO_some e]; rfl
  | .none :: r, ns, h => by cases h
  | .int _ :: r, ns, h => by cases h
  | .str _ :: r, ns, h => by cases h
  | .list _ :: r, ns, h => by cases h
  | .tuple _ :: r, ns, h => by cases h
  | .dict _ :: r, ns, h => by cases h
theorem intsO_map : ∀ ns : List Int, intsO (ns.map .int) = some ns
  | [] => rfl
  | n :: ns => by show (intsO (ns.map .int)).map (n :: ·) = _; rw [intsO_map ns]; rfl
theorem boolsO_map : ∀ ns : List Bool, boolsO (ns.map .bool) = some ns
  | [] => rfl
  | n :: ns => by show (boolsO (ns.map .bool)).map (n :: ·) = _; rw [boolsO_map ns]; rfl
def lenD : List PyData → Option PyData
  | [.list ds] => some (.int ds.length)
  | [.tuple ds] => some (.int ds.length)
  | _ => none
def tupleD : List PyData → Option PyData
  | [.list ds] => some (.tuple ds)
  | [.tuple ds] => some (.tuple ds)
  | _ => none
def absD : List PyData → Option PyData
  | [.int i] => some (.int (if i < 0 then -i else i))
  | _ => none
def ofInts (f : List Int → Option PyData) : List PyData → Option PyData
  | [.list ds] => (intsO ds).bind f
  | _ => none
def ofBools (f : List Bool → Option PyData) : List PyData → Option PyData
  | [.list ds] => (boolsO ds).bind f
  | _ => none
def maxD := ofInts fun ns => if ns.isEmpty = true then none else some (.int (maxI ns))
def minD := ofInts fun ns => if ns.isEmpty = true then none else some (.int (minI ns))
def sortedD := ofInts fun ns => some (.list ((sortI ns).map .int))
def allD := ofBools fun bs => some (.bool (bs.all id))
def eIsi (T : String) (a : M PyData) : M PyData := mb a fun x => mo ((kitB (tyN x) T).map .bool)
section
variable {K : Kx} {ta te : TE} {a : M PyData}
theorem rc_len : RCO K (rLenK K) lenD := fun as c e => by
  unfold lenD at e
  split at e
  · cases e; exact rc_lenL
  · cases e; exact rc_lenT
  · cases e
theorem rc_tuple : RCO K (rTupleK K) tupleD := fun as c e => by
  unfold tupleD at e
  split at e
  · cases e; exact rc_tupleL
  · cases e; exact rc_tupleT
  · cases e
theorem rc_absD : RCO K (fun xs H Q => ∃ i, xs = [.int i] ∧ Q (.int (if i < 0 then -i else i)) H) absD := fun as c e => by
  unfold absD at e
  split at e
  · cases e; exact rc_abs
  · cases e
theorem ofInts_some {f : List Int → Option PyData} {as : List PyData} {c : PyData} (e : ofInts f as = some c) : ∃ ns, as = [.list (ns.map .int)] ∧ f ns = some c := by
  unfold ofInts at e
  split at e
  · obtain ⟨ns, e1, e2⟩ := Option.bind_eq_some_iff.mp e
    exact ⟨ns, by rw [intsO_some e1], e2⟩
  · cases e
theorem ofBools_some {f : List Bool → Option PyData} {as : List PyData} {c : PyData} (e : ofBools f as = some c) : ∃ ns, as = [.list (ns.map .bool)] ∧ f ns = some c := by
  unfold ofBools at e
  split at e
  · obtain ⟨ns, e1, e2⟩ := Option.bind_eq_some_iff.mp e
    exact ⟨ns, by rw [boolsO_some e1], e2⟩
  · cases e
theorem rc_maxD : RCO K (rMax K) maxD := fun as c e => by
  replace e := ofInts_some e; obtain ⟨ns, rfl, e⟩ := e
  split at e
  · cases e
  · rename_i h; cases e; exact rc_max fun z => h (by rw [z]; rfl)
theorem rc_minD : RCO K (rMin K) minD := fun as c e => by
  replace e := ofInts_some e; obtain ⟨ns, rfl, e⟩ := e
  split at e
  · cases e
  · rename_i h; cases e; exact rc_min fun z => h (by rw [z]; rfl)
theorem rc_sortedD : RCO K (rSortedI K) sortedD := fun as c e => by
  replace e := ofInts_some e; obtain ⟨ns, rfl, e⟩ := e
  cases e; exact rc_sorted
theorem rc_allD : RCO K (rAll K) allD := fun as c e => by
  replace e := ofBools_some e; obtain ⟨ns, rfl, e⟩ := e
  cases e; exact rc_all
theorem s_isi {T : String} (ha : EvS K ta a) : EvS K (tCB (rIsi K) (tCons ta (tCons (tC (.ty T)) tNil))) (eIsi T a) := fun l g d l' g' s H S r A e h Q q => by
  replace e := mb_some e; obtain ⟨x, l1, g1, e1, e⟩ := e
  replace e := mo_some e; obtain ⟨e, rfl, rfl⟩ := e
  obtain ⟨k, hk, rfl⟩ := Option.map_eq_some_iff.mp e
  exact ha _ _ _ _ _ s H S r A e1 h _ fun v1 H1 S1 r1 A1 m1 h1 d1 => ⟨v1, .ty T, .type (tyN x), .type T, k, rfl, .ty T, tyX_of h1.hs d1, kit_ty hk, q _ H1 S1 r1 A1 m1 h1 (.bl k)⟩
end
def xNewL (i : Nat) (m : M (List PyData)) : X := mb m fun ds => fun l g => some (.nx, l.set i (.ref g.length), g ++ [.lst ds])
section
variable {K : Kx} {te : TE} {l : Lo} {g : Sg} {s : L2.St} {H S H0 S0 : Hp} {r r0 : List Addr} {A A0 : List (Option Addr)} {p : Addr} {o : Ob}
theorem StOk.newR (h : StOk K l g s H S r A) (ht : ¬ tr S H A r p) (sp : S p = none) (ok : ObOk K S H (r ++ [p]) p o) : StOk K l (g ++ [o]) s H S (r ++ [p]) A :=
  h.move (Same.refl S) h.hs (fun a ha => ⟨(h.thereA ha).2, fun u e => e⟩) ⟨[p], rfl⟩ (by
    rw [List.nodup_append]
    refine ⟨h.rn, by simp, fun a ha b hb => ?_⟩
    simp at hb
    subst hb
    intro z
    subst z
    exact ht (.inr (.inl ha))) (fun a ha z => by
    rcases List.mem_append.mp z with z | z
    · exact h.dr a ha z
    · simp at z
      subst z
      exact ht (.inl ha)) (by simp [h.lg]) (fun j a u e1 e2 => by
    by_cases hj : j < r.length
    · rw [List.getElem?_append_left hj] at e1
      rw [List.getElem?_append_left (by rw [← h.lg]; exact hj)] at e2
      obtain ⟨z1, z2⟩ := h.st j a u e1 e2
      exact ⟨z1, z2.go (Same.refl S) (.of fun _ z e => e) ⟨[p], rfl⟩⟩
    · have hj2 : j = r.length := by
        have := (List.getElem?_eq_some_iff.mp e1).1
        simp at this
        omega
      subst hj2
      rw [List.getElem?_append_right (Nat.le_refl _)] at e1
      rw [h.lg, List.getElem?_append_right (Nat.le_refl _)] at e2
      simp at e1 e2
      subst e1 e2
      exact ⟨sp, ok⟩) h.tb
theorem Mv.newR (h : Mv K S0 H0 r0 A0 S H r A) (hp : H0 p = none) : Mv K S0 H0 r0 A0 S H (r ++ [p]) A :=
  ⟨h.s, h.h, h.n, h.k, h.d, by obtain ⟨q, e⟩ := h.p; exact ⟨q ++ [p], by rw [e, List.append_assoc]⟩, fun a z => by
    rcases z with z | z
    · exact h.f a (.inl z)
    · rcases z with z | z
      · rcases List.mem_append.mp z with z | z
        · exact h.f a (.inr (.inl z))
        · simp at z
          subst z
          exact .inr hp
      · exact h.f a (.inr (.inr z)), h.t⟩
theorem x_newL {i : Nat} {m : M (List PyData)} (he : EvL K te m) : ExS K (tAsg te (gName i)) (xNewL i m) := fun l g o l' g' s H S r A e h D q => by
  replace e := mb_some e; obtain ⟨d, l1, g1, e1, e⟩ := e
  cases e
  refine he _ _ _ _ _ s H S r A e1 h _ fun p xs H1 S1 r1 A1 m1 h1 hp ht sp hx hd => ?_
  have h2 := h1.newR (o := .lst d) ht sp ⟨xs, hx, hd⟩
  refine q _ H1 S1 (r1 ++ [p]) _ (m1.newR hp).set (h2.set (y := .ref g1.length) ⟨rfl, p, ?_, rfl⟩)
  rw [← h1.lg, List.getElem?_append_right (Nat.le_refl _)]
  simp
end
section
variable {K : Kx}
end
section
variable {K : Kx}
end
def ConAt (K : PySem.W.Frag) (x : Str) (i : Int) : Prop := ∃ t, PySem.W.nsIn K mainGlobals x = some (some (.int i t))
def QCon (mg : Str → Option Value) (x : Str) (i : Int) : Prop := ∃ t, mg x = some (.int i t)
theorem ConAt.q {K : PySem.W.Frag} {x : Str} {i : Int} {h : Heap} {mg : Str → Option Value} (c : ConAt K x i) (X : K.In h) (G : h.Ns mainGlobals mg) : QCon mg x i := by
  obtain ⟨t, q⟩ := c
  exact ⟨t, PySem.W.mg_of X G q⟩
noncomputable def justA (a : Addr) (H : Hp) : Hp := fun b => open Classical in if b = a then H b else none
theorem justA_same {a : Addr} {H : Hp} : Same (justA a H) H := fun b o e => by
  unfold justA at e
  split at e
  · exact e
  · cases e
def kTab (K : Kx) (a : Addr) : Prop := ∃ p ∈ K.T, p.1 = a
def spLaw (K : Kx) : Sp := fun vs H Q _ => ∃ (a : Addr) (ns : List Int), vs = [.ref a] ∧ SqL K H a (ns.map V.int) ∧ ns.length ≤ 63 ∧ (∀ b, kTab K b → H b = some (.tbl #[])) ∧ ∀ H', Q (.bl true) H'
theorem law_of {P : Program} {w : World} {K : Kx} {mg : Str → Option Value} {base : Heap} {k : Nat} {f : Addr} {fd : FuncData} {ps : List Str} {F : FS} (h : FnOk P w K mg base CX0 k f fd ps (spG K 1 F)) (hF : ∀ ns : List Int, ns.length ≤ 63 → ∃ g, F [.dat (.list (ns.map .int))] [] = some (.dat (.bool true), g)) : FnOk P w K mg base CX0 k f fd ps (spLaw K) :=
  h.imp fun vs H Q E ⟨a, ns, e, hS, hl, ht, q⟩ => by
    subst e
    obtain ⟨g, hg⟩ := hF ns hl
    have key : ∀ S : Hp, Same S H → SqL K S a (ns.map V.int) → (∀ c o, S c = some o → (∃ xs, o = .lst xs) ∨ ∃ ob xs, o = .frz ob (.lst xs)) → spG K 1 F [.ref a] H Q E := fun S hS2 hq hk => by
      have no : ∀ c ps, H c = some (.tbl ps) → S c = none := fun c ps e => by
        cases z : S c with
        | none => rfl
        | some o =>
          have e2 := hS2 c o z
          rw [e] at e2
          cases e2
          rcases hk c _ z with ⟨xs, z⟩ | ⟨ob, xs, z⟩ <;> cases z
      refine ⟨S, [], [], [.dat (.list (ns.map .int))], _, g, rfl, hS2, ⟨List.nodup_nil, rfl, fun j a o e => by simp at e, fun p hp => ⟨no _ _ (ht _ ⟨p, hp, rfl⟩), #[], ht _ ⟨p, hp, rfl⟩, True.intro, fun pos cv hc => ?_⟩, fun c q P hc => ?_⟩, .cons (.lst hq (DpAll_ints ns)) .nil, hg, fun w S' H' r' _ _ _ _ hw => ?_⟩
      · have z : codeAmong pos [] = some cv := hc
        simp [codeAmong] at z
      · rcases hk c _ hc with ⟨xs, z⟩ | ⟨ob, xs, z⟩ <;> cases z
      · cases hw
        exact q H'
    rcases hS with z | z
    · have at_ : justA a H a = H a := if_pos rfl
      refine key (justA a H) justA_same (.inl ?_) fun c o e => ?_
      · unfold Rd
        rw [at_]
        exact z
      · unfold justA at e
        split at e
        · rename_i hc
          subst hc
          rcases z with z | ⟨ob, z⟩
          · rw [z] at e; cases e; exact .inl ⟨_, rfl⟩
          · rw [z] at e; cases e; exact .inr ⟨_, _, rfl⟩
        · cases e
    · exact key (fun _ => none) (fun _ _ e => nomatch e) (.inr z) fun _ _ e => nomatch e
abbrev kX (P : Program) (w : World) (K : PySem.W.Frag) (mg : Str → Option Value) (base : Heap) (lv : Nat) (tb : List (Addr × Tag)) : Kx := ⟨P, w, K, mg, base, lv, tb⟩
end Sm

namespace Sm
open PySem PySem.Spec PyProof.Rows L2 RZ SrtO Dz
section
variable {K : Kx}
end
end Sm

namespace Sm
open PySem PySem.Spec PyProof.Rows L2 RZ SrtO Dz
section
variable {α β γ : Type}
def ob (o : Option (α × Lo × Sg)) (f : α → Lo → Sg → Option β) : Option β := match o with
  | none => none
  | some (a, l, g) => f a l g
def oo (o : Option α) (f : α → Option β) : Option β := match o with
  | none => none
  | some a => f a
def os (o : Option (Out × Lo × Sg)) (f : Lo → Sg → Option (Out × Lo × Sg)) : Option (Out × Lo × Sg) := match o with
  | none => none
  | some (.nx, l, g) => f l g
  | some (o, l, g) => some (o, l, g)
def ol (o : Option (Out × Lo × Sg)) (f : Lo → Sg → Option (Out × Lo × Sg)) : Option (Out × Lo × Sg) := match o with
  | none => none
  | some (.nx, l, g) => f l g
  | some (.ct, l, g) => f l g
  | some (.bk, l, g) => some (.nx, l, g)
  | some (.ret v, l, g) => some (.ret v, l, g)
def of (o : Option (Out × Lo × Sg)) : Option (Vl × Sg) := match o with
  | some (.ret v, _, g) => some (v, g)
  | some (.nx, _, g) => some (.dat .none, g)
  | _ => none
def oc (o : Option (Vl × Sg)) (f : Vl → Sg → Option β) : Option β := match o with
  | none => none
  | some (v, g) => f v g
theorem ob_some {a : α} {l : Lo} {g : Sg} {f : α → Lo → Sg → Option β} : ob (some (a, l, g)) f = f a l g := rfl
theorem oo_some {a : α} {f : α → Option β} : oo (some a) f = f a := rfl
theorem os_nx {l : Lo} {g : Sg} {f : Lo → Sg → Option (Out × Lo × Sg)} : os (some (.nx, l, g)) f = f l g := rfl
theorem ol_nx {l : Lo} {g : Sg} {f : Lo → Sg → Option (Out × Lo × Sg)} : ol (some (.nx, l, g)) f = f l g := rfl
theorem ol_ct {l : Lo} {g : Sg} {f : Lo → Sg → Option (Out × Lo × Sg)} : ol (some (.ct, l, g)) f = f l g := rfl
theorem ol_bk {l : Lo} {g : Sg} {f : Lo → Sg → Option (Out × Lo × Sg)} : ol (some (.bk, l, g)) f = some (.nx, l, g) := rfl
theorem ol_ret {v : Vl} {l : Lo} {g : Sg} {f : Lo → Sg → Option (Out × Lo × Sg)} : ol (some (.ret v, l, g)) f = some (.ret v, l, g) := rfl
theorem of_ret {v : Vl} {l : Lo} {g : Sg} : of (some (.ret v, l, g)) = some (v, g) := rfl
variable {l : Lo} {g : Sg} {i j k : Nat} {f f' : PyData → PyData → Option PyData} {a b c e : M PyData} {t u v : M Bool} {m m' : M (List PyData)}
theorem mb_ob {p : M α} {q : α → M β} : mb p q l g = ob (p l g) fun x l1 g1 => q x l1 g1 := by
  unfold mb ob
  rfl
theorem mo_at {o : Option α} : mo o l g = oo o fun x => some (x, l, g) := by unfold mo oo; rfl
theorem mg_at {p : Lo → Sg → Option α} : mg p l g = oo (p l g) fun x => some (x, l, g) := by unfold mg oo; rfl
theorem eVar_at : eVar i l g = oo (l[i]?) fun x => oo (asD x) fun d => some (d, l, g) := by
  unfold eVar oo asD
  cases h : l[i]? with
  | none => rfl
  | some x => cases x <;> rfl
theorem eOp_at : eOp f a b l g = ob (a l g) fun x l1 g1 => ob (b l1 g1) fun y l2 g2 => oo (f x y) fun z => some (z, l2, g2) := rfl
theorem aCons_at : aCons a m l g = ob (a l g) fun x l1 g1 => ob (m l1 g1) fun xs l2 g2 => some (x :: xs, l2, g2) := rfl
theorem eCB_at {f : List PyData → Option PyData} : eCB f m l g = ob (m l g) fun xs l1 g1 => oo (f xs) fun z => some (z, l1, g1) := rfl
theorem eL_at : eL m l g = ob (m l g) fun xs l1 g1 => some (.list xs, l1, g1) := rfl
theorem lLst_at : lLst m l g = ob (m l g) fun xs l1 g1 => if xs.length ≤ 4000000 then some (xs, l1, g1) else none := by
  unfold lLst mb ob
  cases m l g with
  | none => rfl
  | some x =>
    obtain ⟨xs, l1, g1⟩ := x
    show mo (smallO xs.length xs) l1 g1 = if xs.length ≤ 4000000 then some (xs, l1, g1) else none
    unfold smallO mo
    split <;> split <;> simp_all
theorem eIf_at : eIf t a b l g = ob (t l g) fun c l1 g1 => if c = true then a l1 g1 else b l1 g1 := by
  unfold eIf mb ob
  cases t l g with
  | none => rfl
  | some x => obtain ⟨c, l1, g1⟩ := x; cases c <;> rfl
theorem eAnd_at : eAnd a b l g = ob (a l g) fun x l1 g1 => oo (truO x) fun c => if c = true then b l1 g1 else some (x, l1, g1) := by
  show ob (a l g) (fun x l1 g1 => mb (mo (truO x)) (fun c => if c = true then b else mp x) l1 g1) = _
  refine congrArg (ob (a l g)) (funext fun x => funext fun l1 => funext fun g1 => ?_)
  cases h : truO x with
  | none => simp [mb, mo, oo]
  | some c => cases c <;> simp [mb, mo, oo, mp]
theorem eNot_at : eNot a l g = ob (a l g) fun x l1 g1 => oo (truO x) fun c => some (.bool (!c), l1, g1) := by
  show ob (a l g) (fun x l1 g1 => mo ((truO x).map fun c => PyData.bool (!c)) l1 g1) = _
  refine congrArg (ob (a l g)) (funext fun x => funext fun l1 => funext fun g1 => ?_)
  cases h : truO x with
  | none => simp [mo, oo]
  | some c => simp [mo, oo]
theorem bTest_at : bTest a l g = ob (a l g) fun x l1 g1 => oo (asB x) fun z => some (z, l1, g1) := rfl
theorem bTru_at : bTru a l g = ob (a l g) fun x l1 g1 => oo (truO x) fun z => some (z, l1, g1) := rfl
theorem bNot_at : bNot t l g = ob (t l g) fun x l1 g1 => some (!x, l1, g1) := rfl
theorem oSome_at : oSome a l g = ob (a l g) fun x l1 g1 => oo (asI x) fun z => some (some z, l1, g1) := by
  show ob (a l g) (fun x l1 g1 => mb (mo (asI x)) (fun i => mp (some i)) l1 g1) = _
  refine congrArg (ob (a l g)) (funext fun x => funext fun l1 => funext fun g1 => ?_)
  cases h : asI x with
  | none => simp [mb, mo, oo]
  | some c => simp [mb, mo, oo, mp]
variable {lo hi : M (Option Int)}
theorem eIxV_at : eIxV i b l g = oo (lsV l g i) fun _ => ob (b l g) fun y l1 g1 => oo (lsV l1 g1 i) fun ds => oo (asI y) fun n => oo (atI ds n) fun d => some (d, l1, g1) := by
  show mb (mg fun l g => lsV l g i) (fun _ => mb b fun y => mg fun l g => (lsV l g i).bind fun ds => (asI y).bind fun k => atI ds k) l g = _
  rw [mb_ob, mg_at]
  cases h : lsV l g i with
  | none => rfl
  | some x =>
    show mb b _ l g = ob (b l g) _
    rw [mb_ob]
    refine congrArg (ob (b l g)) (funext fun y => funext fun l1 => funext fun g1 => ?_)
    rw [mg_at]
    cases h2 : lsV l1 g1 i with
    | none => simp [oo]
    | some ds =>
      cases h3 : asI y with
      | none => simp [oo]
      | some n => simp [oo]
theorem eLenV_at : eLenV i l g = oo (lsV l g i) fun ds => some (.int ds.length, l, g) := by
  cases h : lsV l g i <;> simp [eLenV, mg, oo, h]
theorem bTruV_at : bTruV i l g = oo (lsV l g i) fun ds => some (!ds.isEmpty, l, g) := by
  cases h : lsV l g i <;> simp [bTruV, mg, oo, h]
theorem eTupleV_at : eTupleV i l g = oo (lsV l g i) fun ds => some (.tuple ds, l, g) := by
  cases h : lsV l g i <;> simp [eTupleV, mg, oo, h]
theorem ePopAt_at : ePopAt i b l g = oo (lsM l g i) fun _ => ob (b l g) fun y l1 g1 => popAtO i y l1 g1 := by
  show mb (mg fun l g => lsM l g i) (fun _ => mb b fun y => popAtO i y) l g = _
  rw [mb_ob, mg_at]
  cases h : lsM l g i with
  | none => rfl
  | some x => rfl
theorem iSq_at : iSq a l g = ob (a l g) fun x l1 g1 => oo (seqD x) fun z => some (z, l1, g1) := rfl
theorem rg1_at {x : PyData} : ((asI x).bind fun n => if rgO n = true then some (rng 0 n.toNat) else none) = oo (asI x) fun n => if rgO n = true then some (rng 0 n.toNat) else none := by cases asI x <;> rfl
theorem rg2_at {x y : PyData} : ((asI x).bind fun m => (asI y).bind fun n => if rgO m = true ∧ rgO n = true then some (rng m (n - m).toNat) else none) = oo (asI x) fun m => oo (asI y) fun n => if rgO m = true ∧ rgO n = true then some (rng m (n - m).toNat) else none := by
  cases asI x with
  | none => rfl
  | some m => cases asI y <;> rfl
theorem iRg1_at : iRg1 a l g = ob (a l g) fun x l1 g1 => oo (oo (asI x) fun n => if rgO n = true then some (rng 0 n.toNat) else none) fun z => some (z, l1, g1) := by
  show ob (a l g) (fun x l1 g1 => mo _ l1 g1) = _
  refine congrArg (ob (a l g)) (funext fun x => funext fun l1 => funext fun g1 => ?_)
  rw [mo_at, rg1_at]
theorem iRg2_at : iRg2 a b l g = ob (a l g) fun x l1 g1 => ob (b l1 g1) fun y l2 g2 => oo (oo (asI x) fun m => oo (asI y) fun n => if rgO m = true ∧ rgO n = true then some (rng m (n - m).toNat) else none) fun z => some (z, l2, g2) := by
  show ob (a l g) (fun x l1 g1 => ob (b l1 g1) fun y l2 g2 => mo _ l2 g2) = _
  refine congrArg (ob (a l g)) (funext fun x => funext fun l1 => funext fun g1 => congrArg (ob (b l1 g1)) (funext fun y => funext fun l2 => funext fun g2 => ?_))
  rw [mo_at, rg2_at]
def lcO (vs : List Nat) (tg : G) (t : M Bool) (e : M PyData) (ds : List PyData) (l : Lo) (g : Sg) : Option (List PyData × Lo × Sg) := if (plainAt vs l && decide (ds.length ≤ 4000000)) = true then lcL vs tg t e ds l g else none
theorem lLc_at {vs : List Nat} {tg : G} : lLc vs m tg t e l g = ob (m l g) fun ds l1 g1 => lcO vs tg t e ds l1 g1 := rfl
theorem eCall_at {F : FS} {q : M (List Vl)} : eCall F q l g = ob (q l g) fun xs l1 g1 => oc (F xs g1) fun v g2 => oo (asD v) fun d => some (d, l1, g2) := by
  cases hq : q l g with
  | none => simp [eCall, eD, vCall, mb, ob, hq]
  | some x =>
    obtain ⟨xs, l1, g1⟩ := x
    cases hF : F xs g1 with
    | none => simp [eCall, eD, vCall, mb, ob, oc, hq, hF]
    | some y => obtain ⟨v, g2⟩ := y; cases hv : asD v <;> simp [eCall, eD, vCall, mb, ob, oc, oo, mo, hq, hF, hv]
def refO : Vl → Option Nat
  | .ref j => some j
  | _ => none
theorem vR_at : vR i l g = oo (l[i]?) fun x => oo (refO x) fun j => some (.ref j, l, g) := by
  cases h : l[i]? with
  | none => simp [vR, mg, oo, h]
  | some x => cases x <;> simp [vR, mg, oo, h, refO]
theorem vCons_at {x : M Vl} {q : M (List Vl)} : vCons x q l g = ob (x l g) fun y l1 g1 => ob (q l1 g1) fun ys l2 g2 => some (y :: ys, l2, g2) := rfl
theorem eIsi_at {T : String} : eIsi T a l g = ob (a l g) fun x l1 g1 => oo (kitB (tyN x) T) fun c => some (.bool c, l1, g1) := by
  show ob (a l g) (fun x l1 g1 => mo _ l1 g1) = _
  refine congrArg (ob (a l g)) (funext fun x => funext fun l1 => funext fun g1 => ?_)
  unfold mo oo
  cases kitB (tyN x) T <;> rfl
variable {x y : X}
theorem xSeq_at : xSeq x y l g = os (x l g) fun l1 g1 => y l1 g1 := by
  unfold xSeq mb os
  cases x l g with
  | none => rfl
  | some o => obtain ⟨o, l1, g1⟩ := o; cases o <;> rfl
theorem xAsg_at : xAsg i e l g = ob (e l g) fun d l1 g1 => some (.nx, l1.set i (.dat d), g1) := rfl
theorem xAsgG_at {G : G} : xAsgG G e l g = ob (e l g) fun d l1 g1 => oo (G d l1) fun l2 => some (.nx, l2, g1) := by
  show ob (e l g) _ = _
  refine congrArg (ob (e l g)) (funext fun x => funext fun l1 => funext fun g1 => ?_)
  unfold oo
  cases G x l1 <;> rfl
theorem xAsgL_at : xAsgL i m l g = ob (m l g) fun ds l1 g1 => some (.nx, l1.set i (.own ds), g1) := rfl
theorem xNewL_at : xNewL i m l g = ob (m l g) fun ds l1 g1 => some (.nx, l1.set i (.ref g1.length), g1 ++ [.lst ds]) := rfl
theorem xIf_at : xIf t x y l g = ob (t l g) fun c l1 g1 => if c = true then x l1 g1 else y l1 g1 := by
  unfold xIf mb ob
  cases t l g with
  | none => rfl
  | some x => obtain ⟨c, l1, g1⟩ := x; cases c <;> rfl
theorem xRet_at : xRet e l g = ob (e l g) fun d l1 g1 => some (.ret (.dat d), l1, g1) := rfl
theorem xApp_at : xApp i e l g = oo (lsM l g i) fun _ => ob (e l g) fun d l1 g1 => appO i d l1 g1 := by
  show mb (mg fun l g => lsM l g i) (fun _ => mb e fun y => appO i y) l g = _
  rw [mb_ob, mg_at]
  cases h : lsM l g i with
  | none => rfl
  | some x => rfl
theorem xSetI_at {k : M PyData} : xSetI i k e l g = ob (e l g) fun d l1 g1 => oo (lsM l1 g1 i) fun _ => ob (k l1 g1) fun y l2 g2 => setO i y d l2 g2 := by
  show ob (e l g) (fun d l1 g1 => mb (mg fun l g => lsM l g i) (fun _ => mb k fun y => setO i y d) l1 g1) = _
  refine congrArg (ob (e l g)) (funext fun d => funext fun l1 => funext fun g1 => ?_)
  rw [mb_ob, mg_at]
  cases h : lsM l1 g1 i with
  | none => rfl
  | some x => rfl
theorem xAug_at : xAug i f e l g = oo (l[i]?) fun z => oo (asD z) fun x => ob (e l g) fun y l1 g1 => oo (f x y) fun z => some (.nx, l1.set i (.dat z), g1) := by
  cases h : l[i]? with
  | none => simp [xAug, mb, eVar, oo, h]
  | some z =>
    cases h2 : z with
    | dat d =>
      subst h2
      cases he : e l g with
      | none => simp [xAug, mb, eVar, oo, ob, asD, h, he]
      | some y =>
        obtain ⟨y, l1, g1⟩ := y
        cases hf : f d y <;> simp [xAug, mb, mo, eVar, oo, ob, asD, h, he, hf]
    | no => subst h2; simp [xAug, mb, eVar, oo, asD, h]
    | own ds => subst h2; simp [xAug, mb, eVar, oo, asD, h]
    | dct ds => subst h2; simp [xAug, mb, eVar, oo, asD, h]
    | dnk ds => subst h2; simp [xAug, mb, eVar, oo, asD, h]
    | fn F => subst h2; simp [xAug, mb, eVar, oo, asD, h]
    | xt ds =>
      subst h2
      cases he : e l g with
      | none => simp [xAug, mb, eVar, oo, ob, asD, h, he]
      | some y =>
        obtain ⟨y, l1, g1⟩ := y
        cases hf : f (.tuple ds) y <;> simp [xAug, mb, mo, eVar, oo, ob, asD, h, he, hf]
    | ref ds => subst h2; simp [xAug, mb, eVar, oo, asD, h]
    | os b ds => subst h2; simp [xAug, mb, eVar, oo, asD, h]
theorem xFor_at {G : G} : xFor m G x l g = ob (m l g) fun ds l1 g1 => xForL G x ds l1 g1 := rfl
theorem xForL_cons {G : G} {d : PyData} {ds : List PyData} : xForL G x (d :: ds) l g = oo (G d l) fun l1 => ol (x l1 g) fun l2 g2 => xForL G x ds l2 g2 := by
  rw [xForL]
  cases h : G d l with
  | none => simp [oo, h]
  | some l1 =>
    cases hx : x l1 g with
    | none => simp [oo, ol, h, hx]
    | some o => obtain ⟨o, l2, g2⟩ := o; cases o <;> simp [oo, ol, h, hx]
theorem whF_at {n : Nat} : whF t x (n + 1) l g = ob (t l g) fun c l1 g1 => if c = true then ol (x l1 g1) fun l2 g2 => whF t x n l2 g2 else some (.nx, l1, g1) := by
  rw [whF]
  cases h : t l g with
  | none => simp [ob, h]
  | some c =>
    obtain ⟨c, l1, g1⟩ := c
    cases c with
    | false => simp [ob, h]
    | true =>
      cases hx : x l1 g1 with
      | none => simp [ob, ol, h, hx]
      | some o => obtain ⟨o, l2, g2⟩ := o; cases o <;> simp [ob, ol, h, hx]
theorem whF_mono : ∀ {n n' : Nat} {l : Lo} {g : Sg} {r : Out × Lo × Sg}, whF t x n l g = some r → n ≤ n' → whF t x n' l g = some r
  | 0, _, _, _, _, h, _ => by cases h
  | n + 1, 0, _, _, _, h, hn => by omega
  | n + 1, n' + 1, l, g, r, h, hn => by
    rw [whF_at] at h ⊢
    unfold ob at h ⊢
    cases ht : t l g with
    | none => rw [ht] at h; cases h
    | some c =>
      obtain ⟨c, l1, g1⟩ := c
      rw [ht] at h
      cases c with
      | false => exact h
      | true =>
        simp only [if_true] at h ⊢
        unfold ol at h ⊢
        cases hx : x l1 g1 with
        | none => rw [hx] at h; cases h
        | some o =>
          obtain ⟨o, l2, g2⟩ := o
          rw [hx] at h
          cases o with
          | nx => exact whF_mono (n := n) (n' := n') h (by omega)
          | ct => exact whF_mono (n := n) (n' := n') h (by omega)
          | bk => exact h
          | ret v => exact h
theorem xWhile_of {n : Nat} {r : Out × Lo × Sg} (h : whF t x n l g = some r) (hn : n ≤ 4000000) : xWhile t x l g = some r := whF_mono h hn
theorem fnS_at {n : Nat} {as : List Vl} : fnS n x as g = of (x (as ++ List.replicate (n - as.length) .no) g) := by
  unfold fnS of
  rfl
variable {d : PyData} {ds : List PyData} {G : G} {gs : Gs}
end
end Sm

namespace Sm
open PySem PySem.Spec PyProof.Rows L2 RZ SrtO Dz
theorem eqD_ii {i j : Int} : eqD (.int i) (.int j) = some (.bool (decide (i = j))) := by
  unfold eqD
  rw [if_pos ⟨rfl, rfl⟩]
  show some (PyData.bool (i == j)) = _
  rw [Bool.beq_eq_decide_eq]
theorem eqD_bb {i j : Bool} : eqD (.bool i) (.bool j) = some (.bool (decide (i = j))) := by
  unfold eqD
  rw [if_pos ⟨rfl, rfl⟩]
  cases i <;> cases j <;> rfl
theorem eqD_ss {i j : Str} : eqD (.str i) (.str j) = some (.bool (decide (i = j))) := by
  unfold eqD
  split
  · show some (PyData.bool (i == j)) = _
    rw [Bool.beq_eq_decide_eq]
  · rfl
theorem eqD_is {i : Int} {j : Str} : eqD (.int i) (.str j) = some (.bool false) := by
  unfold eqD
  split <;> rfl
theorem eqD_si {i : Int} {j : Str} : eqD (.str j) (.int i) = some (.bool false) := by
  unfold eqD
  split <;> rfl
theorem eqD_sh {a b : PyData} (h1 : SeqAt.shaped a = true) (h2 : SeqAt.shaped b = true) : eqD a b = some (.bool (PyData.eqv a b)) := by
  unfold eqD
  rw [if_pos ⟨h1, h2⟩]
theorem neD_of {a b : PyData} {c : Bool} (h : eqD a b = some (.bool c)) : neD a b = some (.bool (!c)) := by unfold neD; rw [h]; rfl
theorem neD_ii {i j : Int} : neD (.int i) (.int j) = some (.bool (!decide (i = j))) := neD_of eqD_ii
theorem neD_ss {i j : Str} : neD (.str i) (.str j) = some (.bool (!decide (i = j))) := neD_of eqD_ss
theorem neD_is {i : Int} {j : Str} : neD (.int i) (.str j) = some (.bool true) := neD_of eqD_is
theorem truO_b {b : Bool} : truO (.bool b) = some b := rfl
theorem truO_l {ds : List PyData} : truO (.list ds) = some (!ds.isEmpty) := rfl
theorem truO_t {ds : List PyData} : truO (.tuple ds) = some (!ds.isEmpty) := rfl
theorem maxD_i {ns : List Int} (h : ns ≠ []) : maxD [.list (ns.map .int)] = some (.int (maxI ns)) := by
  show (intsO (ns.map .int)).bind _ = _
  rw [intsO_map]
  show (if _ then _ else _) = _
  rw [if_neg (by cases ns with | nil => exact absurd rfl h | cons => simp)]
theorem minD_i {ns : List Int} (h : ns ≠ []) : minD [.list (ns.map .int)] = some (.int (minI ns)) := by
  show (intsO (ns.map .int)).bind _ = _
  rw [intsO_map]
  show (if _ then _ else _) = _
  rw [if_neg (by cases ns with | nil => exact absurd rfl h | cons => simp)]
theorem sortedD_i {ns : List Int} : sortedD [.list (ns.map .int)] = some (.list ((sortI ns).map .int)) := by
  show (intsO (ns.map .int)).bind _ = _
  rw [intsO_map]; rfl
theorem allD_b {ns : List Bool} : allD [.list (ns.map .bool)] = some (.bool (ns.all id)) := by
  show (boolsO (ns.map .bool)).bind _ = _
  rw [boolsO_map]; rfl
theorem backV_id {l l' : Lo} {vs : List Nat} (hl : l'.length = l.length) (h : ∀ j, j ∉ vs → l'[j]? = l[j]?) : backV l l' vs = l := by
  apply List.ext_getElem?
  intro j
  rw [backV_get]
  by_cases hj : j ∈ vs
  · rw [if_pos hj]
    by_cases hlt : j < l.length
    · rw [if_pos (by omega), List.getD_eq_getElem?_getD, List.getElem?_eq_getElem hlt]
      rfl
    · rw [if_neg (by omega), List.getElem?_eq_none (by omega)]
  · rw [if_neg hj]
    exact h j hj
theorem lcL_cons {vs : List Nat} {tg : G} {t : M Bool} {e : M PyData} {d : PyData} {ds : List PyData} {l : Lo} {g : Sg} : lcL vs tg t e (d :: ds) l g = oo (tg d (wipeV l vs)) fun l1 => ob (t l1 g) fun b l2 g2 => if b = true then ob (e l2 g2) fun y l3 g3 => ob (lcL vs tg t e ds (backV l l3 vs) g3) fun ys l4 g4 => some (y :: ys, l4, g4) else lcL vs tg t e ds (backV l l2 vs) g2 := by
  rw [lcL]
  cases h1 : tg d (wipeV l vs) with
  | none => simp [oo, h1]
  | some l1 =>
    cases h2 : t l1 g with
    | none => simp [oo, ob, h1, h2]
    | some b =>
      obtain ⟨b, l2, g2⟩ := b
      cases b with
      | false => simp [oo, ob, h1, h2]
      | true =>
        cases h3 : e l2 g2 with
        | none => simp [oo, ob, h1, h2, h3]
        | some y => simp [oo, ob, h1, h2, h3, mb, mp] <;> rfl
theorem lcL_pure {vs : List Nat} {tg : G} {t : M Bool} {e : M PyData} {l : Lo} {g : Sg} {q : PyData → Bool} {f : PyData → PyData} : ∀ {ds : List PyData}, (∀ d ∈ ds, ∃ l1, tg d (wipeV l vs) = some l1 ∧ backV l l1 vs = l ∧ t l1 g = some (q d, l1, g) ∧ (q d = true → e l1 g = some (f d, l1, g))) →
    lcL vs tg t e ds l g = some ((ds.filter q).map f, l, g)
  | [], _ => rfl
  | d :: ds, h => by
    obtain ⟨l1, e1, e2, e3, e4⟩ := h d List.mem_cons_self
    have ih := lcL_pure (ds := ds) fun d hd => h d (List.mem_cons_of_mem _ hd)
    rw [lcL_cons, e1, oo_some, e3, ob_some]
    cases hq : q d with
    | true =>
      rw [if_pos rfl, e4 hq, ob_some, e2, ih, ob_some, List.filter_cons, if_pos hq]
      rfl
    | false => rw [if_neg Bool.false_ne_true, e2, ih, List.filter_cons, if_neg (by rw [hq]; exact Bool.false_ne_true)]
theorem lcO_of {vs : List Nat} {tg : G} {t : M Bool} {e : M PyData} {l : Lo} {g : Sg} {ds : List PyData} {r : List PyData × Lo × Sg} (hp : plainAt vs l = true) (hz : ds.length ≤ 4000000) (h : lcL vs tg t e ds l g = some r) : lcO vs tg t e ds l g = some r := by
  unfold lcO
  rw [if_pos (by rw [hp, decide_eq_true hz]; rfl), h]
theorem lcO_one {v : Nat} {t : M Bool} {e : M PyData} {l : Lo} {g : Sg} {α : Type} {xs : List α} {h : α → PyData} {q : α → Bool} {f : α → PyData} (hp : plainV (l.getD v .no) = true) (hz : xs.length ≤ 4000000)
    (ht : ∀ x ∈ xs, t (l.set v (.dat (h x))) g = some (q x, l.set v (.dat (h x)), g)) (he : ∀ x ∈ xs, q x = true → e (l.set v (.dat (h x))) g = some (f x, l.set v (.dat (h x)), g)) : lcO [v] (gNm v) t e (xs.map h) l g = some ((xs.filter q).map f, l, g) := by
  refine lcO_of (by unfold plainAt; rw [List.all_cons, hp]; rfl) (by simpa using hz) ?_
  have hb : ∀ x : Vl, backV l (l.set v x) [v] = l := fun x => backV_id (by simp) fun j hj => List.getElem?_set_ne fun z => hj (by simp [z])
  have hw : ∀ d, gNm v d (wipeV l [v]) = some (l.set v (.dat d)) := fun d => by
    show some ((l.set v .no).set v (.dat d)) = _
    rw [List.set_set]
  induction xs with
  | nil => rfl
  | cons x xs ih =>
    have ih := ih (by simp at hz; omega) (fun x hx => ht x (List.mem_cons_of_mem _ hx)) (fun x hx => he x (List.mem_cons_of_mem _ hx))
    rw [List.map_cons, lcL_cons, hw, oo_some, ht x List.mem_cons_self, ob_some]
    cases hq : q x with
    | true =>
      rw [if_pos rfl, he x List.mem_cons_self hq, ob_some, hb, ih, ob_some, List.filter_cons, if_pos hq]
      rfl
    | false => rw [if_neg Bool.false_ne_true, hb, ih, List.filter_cons, if_neg (by rw [hq]; exact Bool.false_ne_true)]
theorem lcO_map {v : Nat} {e : M PyData} {l : Lo} {g : Sg} {α : Type} {xs : List α} {h : α → PyData} {f : α → PyData} (hp : plainV (l.getD v .no) = true) (hz : xs.length ≤ 4000000)
    (he : ∀ x ∈ xs, e (l.set v (.dat (h x))) g = some (f x, l.set v (.dat (h x)), g)) : lcO [v] (gNm v) bYes e (xs.map h) l g = some (xs.map f, l, g) := by
  have := lcO_one (t := bYes) (q := fun _ => true) (f := f) (h := h) hp hz (fun x _ => rfl) (fun x hx _ => he x hx)
  rwa [List.filter_eq_self.mpr fun _ _ => rfl] at this
theorem xWhile_inv {t : M Bool} {x : X} {l : Lo} {g : Sg} {α : Type} (lf : α → Lo) (gf : α → Sg) (I : α → Prop) (mu : α → Nat) (P : Out → Lo → Sg → Prop) (x0 : α) (h0 : I x0) (el : l = lf x0) (eg : g = gf x0) (hm : mu x0 < 4000000)
    (hs : ∀ a, I a → (∃ l1 g1, t (lf a) (gf a) = some (false, l1, g1) ∧ P .nx l1 g1) ∨ (∃ l1 g1, t (lf a) (gf a) = some (true, l1, g1) ∧ ((∃ b, (x l1 g1 = some (.nx, lf b, gf b) ∨ x l1 g1 = some (.ct, lf b, gf b)) ∧ I b ∧ mu b < mu a) ∨ (∃ l2 g2, x l1 g1 = some (.bk, l2, g2) ∧ P .nx l2 g2) ∨ (∃ v l2 g2, x l1 g1 = some (.ret v, l2, g2) ∧ P (.ret v) l2 g2)))) :
    ∃ o l' g', xWhile t x l g = some (o, l', g') ∧ P o l' g' := by
  subst el eg
  have key : ∀ n a, mu a < n → I a → ∃ o l' g', whF t x n (lf a) (gf a) = some (o, l', g') ∧ P o l' g' := by
    intro n
    induction n with
    | zero => intro a h; omega
    | succ n ih =>
      intro a hn hI
      rw [whF_at]
      rcases hs a hI with ⟨l1, g1, e1, e2⟩ | ⟨l1, g1, e1, e2⟩
      · exact ⟨.nx, l1, g1, by rw [e1]; rfl, e2⟩
      · rw [e1, ob_some, if_pos rfl]
        rcases e2 with ⟨b, e3, e4, e5⟩ | ⟨l2, g2, e3, e4⟩ | ⟨v, l2, g2, e3, e4⟩
        · obtain ⟨o, l', g', q1, q2⟩ := ih b (by omega) e4
          rcases e3 with e3 | e3
          · exact ⟨o, l', g', by rw [e3, ol_nx]; exact q1, q2⟩
          · exact ⟨o, l', g', by rw [e3, ol_ct]; exact q1, q2⟩
        · exact ⟨.nx, l2, g2, by rw [e3, ol_bk], e4⟩
        · exact ⟨.ret v, l2, g2, by rw [e3, ol_ret], e4⟩
  obtain ⟨o, l', g', q1, q2⟩ := key (mu x0 + 1) x0 (Nat.lt_succ_self _) h0
  exact ⟨o, l', g', xWhile_of q1 (by omega), q2⟩
section
variable {β : Type} {l : Lo} {g : Sg} {i j : Nat} {ds es : List PyData} {f : Lo → Sg → β} {x : X}
def pk (o : Option Vl) (l : Lo) (g : Sg) (i : Nat) (ds : List PyData) (f : Lo → Sg → β) : β := match o with
  | some (.own _) => f (l.set i (.own ds)) g
  | some (.ref j) => f l (g.set j (.lst ds))
  | _ => f l g
def fz (o : Option Vl) (i : Nat) (x : X) (l : Lo) (g : Sg) : Option (Out × Lo × Sg) := match o with
  | some (.own ds) => x (l.set i (.dat (.list ds))) g
  | _ => x l g
theorem xFrz_at : xFrz i x l g = fz (l[i]?) i x l g := rfl
end
section
variable {α : Type} {x y : α}
theorem c_rgO {n : Int} (h : n ≤ 4000000 ∧ -4000000 ≤ n) : rgO n = true := by unfold rgO; simp [h]
theorem atI_in {ds : List PyData} {k : Int} (h : 0 ≤ k) : atI ds k = ds[k.toNat]? := by
  unfold atI ixN
  rw [if_pos h]
  by_cases hk : k < ds.length
  · rw [if_pos hk]; rfl
  · rw [if_neg hk, List.getElem?_eq_none (by omega)]; rfl
theorem ixN_in {n : Nat} {k : Int} (h : 0 ≤ k ∧ k < n) : ixN n k = some k.toNat := by
  unfold ixN
  rw [if_pos h.1, if_pos h.2]
end
theorem seq_step {x y : X} {l l1 : Lo} {g g1 : Sg} {R : Option (Out × Lo × Sg)} (h : x l g = some (.nx, l1, g1)) (h2 : y l1 g1 = R) : xSeq x y l g = R := by
  rw [xSeq_at, h, os_nx]; exact h2
def Rt (x : X) (l : Lo) (g : Sg) (v : Vl) (g' : Sg) : Prop := ∃ l1, x l g = some (.ret v, l1, g')
theorem fn_ret {n : Nat} {x : X} {as : List Vl} {g g1 : Sg} {v : Vl} {l : Lo} (hl : as ++ List.replicate (n - as.length) .no = l) (h : Rt x l g v g1) : fnS n x as g = some (v, g1) := by
  obtain ⟨l1, h⟩ := h
  rw [fnS_at, hl, h, of_ret]
theorem rt_seq {x y : X} {l l1 : Lo} {g g1 g' : Sg} {v : Vl} (h : x l g = some (.nx, l1, g1)) (h2 : Rt y l1 g1 v g') : Rt (xSeq x y) l g v g' := by
  obtain ⟨l2, h2⟩ := h2
  exact ⟨l2, seq_step h h2⟩
theorem rt_ret {e : M PyData} {l l1 : Lo} {g g' : Sg} {d : PyData} (h : e l g = some (d, l1, g')) : Rt (xRet e) l g (.dat d) g' := ⟨l1, by rw [xRet_at, h, ob_some]⟩
theorem rt_is {x : X} {l : Lo} {g g1 g2 : Sg} {v w : Vl} (h : Rt x l g v g1) (e : v = w) (eg : g1 = g2) : Rt x l g w g2 := by subst e eg; exact h
end Sm

namespace Sm
open PySem PySem.Spec PyProof.Rows L2 RZ SrtO Dz
section
variable {α β : Type} {l l1 l2 l3 : Lo} {g g1 g2 g3 : Sg} {i j k : Nat} {f f' : PyData → PyData → Option PyData} {a b c e : M PyData} {t u v : M Bool} {m m' : M (List PyData)} {d d1 d2 d3 : PyData} {ds es : List PyData} {p q : Bool}
theorem eVar_ev (h : l[i]? = some (.dat d)) : eVar i l g = some (d, l, g) := by rw [eVar_at, h]; rfl
theorem eC_ev : eC d l g = some (d, l, g) := rfl
theorem eOp_ev (h1 : a l g = some (d1, l1, g1)) (h2 : b l1 g1 = some (d2, l2, g2)) (h3 : f d1 d2 = some d) : eOp f a b l g = some (d, l2, g2) := by rw [eOp_at, h1, ob_some, h2, ob_some, h3]; rfl
theorem aNil_ev : aNil l g = some ([], l, g) := rfl
theorem aCons_ev (h1 : a l g = some (d1, l1, g1)) (h2 : m l1 g1 = some (ds, l2, g2)) : aCons a m l g = some (d1 :: ds, l2, g2) := by rw [aCons_at, h1, ob_some, h2]; rfl
theorem eCB_ev {f : List PyData → Option PyData} (h1 : m l g = some (ds, l1, g1)) (h3 : f ds = some d) : eCB f m l g = some (d, l1, g1) := by rw [eCB_at, h1, ob_some, h3]; rfl
theorem eL_ev (h1 : m l g = some (ds, l1, g1)) : eL m l g = some (.list ds, l1, g1) := by rw [eL_at, h1]; rfl
theorem lLst_ev (h1 : m l g = some (ds, l1, g1)) (h : ds.length ≤ 4000000) : lLst m l g = some (ds, l1, g1) := by rw [lLst_at, h1, ob_some, if_pos h]
theorem eAnd_B (h : a l g = some (.bool p, l1, g1)) (h2 : p = true → b l1 g1 = some (.bool q, l1, g1)) : eAnd a b l g = some (.bool (p && q), l1, g1) := by
  rw [eAnd_at, h, ob_some]
  cases p with
  | true => exact h2 rfl
  | false => rfl
theorem eNot_ev (h : a l g = some (d1, l1, g1)) (ht : truO d1 = some p) : eNot a l g = some (.bool (!p), l1, g1) := by rw [eNot_at, h, ob_some, ht]; rfl
theorem bTest_ev (h : a l g = some (.bool p, l1, g1)) : bTest a l g = some (p, l1, g1) := by rw [bTest_at, h]; rfl
theorem bTru_ev (h : a l g = some (d1, l1, g1)) (ht : truO d1 = some p) : bTru a l g = some (p, l1, g1) := by rw [bTru_at, h, ob_some, ht]; rfl
theorem bNot_ev (h : t l g = some (p, l1, g1)) : bNot t l g = some (!p, l1, g1) := by rw [bNot_at, h]; rfl
theorem bYes_ev : bYes l g = some (true, l, g) := rfl
theorem oSome_ev {n : Int} (h : a l g = some (.int n, l1, g1)) : oSome a l g = some (some n, l1, g1) := by rw [oSome_at, h]; rfl
variable {lo hi : M (Option Int)} {x y : Option Int}
theorem eIxV_ev {n : Int} (h0 : lsV l g i = some es) (h1 : b l g = some (.int n, l1, g1)) (h2 : lsV l1 g1 i = some ds) (h3 : atI ds n = some d) : eIxV i b l g = some (d, l1, g1) := by rw [eIxV_at, h0, oo_some, h1, ob_some, h2, oo_some]; show oo (atI ds n) _ = _; rw [h3]; rfl
theorem eLenV_ev (h : lsV l g i = some ds) : eLenV i l g = some (.int ds.length, l, g) := by rw [eLenV_at, h]; rfl
theorem bTruV_ev (h : lsV l g i = some ds) : bTruV i l g = some (!ds.isEmpty, l, g) := by rw [bTruV_at, h]; rfl
theorem eTupleV_ev (h : lsV l g i = some ds) : eTupleV i l g = some (.tuple ds, l, g) := by rw [eTupleV_at, h]; rfl
theorem ePopAt_ev {n : Int} (h0 : lsM l g i = some es) (h1 : b l g = some (.int n, l1, g1)) (h2 : lsM l1 g1 i = some ds) (h3 : seqIndex? n ds.length = some j) (hn : n < 2 ^ 62 ∧ -(2 ^ 62) < n) (h4 : ds[j]? = some d) : ePopAt i b l g = some (d, (ptV l1 g1 i (ds.eraseIdx j)).1, (ptV l1 g1 i (ds.eraseIdx j)).2) := by
  rw [ePopAt_at, h0, oo_some, h1, ob_some]
  unfold popAtO
  rw [h2]
  show (match seqIndex? n ds.length with | some j => _ | none => none) = _
  rw [h3]
  show (if _ then _ else _) = _
  rw [if_pos hn, h4]
theorem ePop_ev (h2 : lsM l g i = some ds) (h4 : ds[ds.length - 1]? = some d) : ePop i l g = some (d, (ptV l g i ds.dropLast).1, (ptV l g i ds.dropLast).2) := by
  unfold ePop
  rw [h2]
  show (match ds[ds.length - 1]? with | some d => _ | none => none) = _
  rw [h4]
theorem iSq_ev (h : a l g = some (d1, l1, g1)) (h2 : seqD d1 = some ds) : iSq a l g = some (ds, l1, g1) := by rw [iSq_at, h, ob_some, h2]; rfl
theorem iRg1_ev {n : Int} (h : a l g = some (.int n, l1, g1)) (hn : n ≤ 4000000 ∧ -4000000 ≤ n) : iRg1 a l g = some (rng 0 n.toNat, l1, g1) := by
  rw [iRg1_at, h, ob_some]
  show oo (if rgO n = true then _ else _) _ = _
  rw [if_pos (c_rgO hn)]; rfl
theorem iRg2_ev {n n' : Int} (h : a l g = some (.int n, l1, g1)) (h' : b l1 g1 = some (.int n', l2, g2)) (hn : n ≤ 4000000 ∧ -4000000 ≤ n) (hn' : n' ≤ 4000000 ∧ -4000000 ≤ n') : iRg2 a b l g = some (rng n (n' - n).toNat, l2, g2) := by
  rw [iRg2_at, h, ob_some, h', ob_some]
  show oo (if rgO n = true ∧ rgO n' = true then _ else _) _ = _
  rw [if_pos ⟨c_rgO hn, c_rgO hn'⟩]; rfl
theorem lLc_ev {vs : List Nat} {tg : G} (h : m l g = some (ds, l1, g1)) (h2 : lcO vs tg t e ds l1 g1 = some (es, l2, g2)) : lLc vs m tg t e l g = some (es, l2, g2) := by rw [lLc_at, h, ob_some]; exact h2
variable {F : FS} {w z : M (List Vl)} {xs ys : List Vl} {s : Vl} {r : M Vl}
theorem eCall_ev (h1 : w l g = some (xs, l1, g1)) (h2 : F xs g1 = some (.dat d, g2)) : eCall F w l g = some (d, l1, g2) := by rw [eCall_at, h1, ob_some, h2]; rfl
theorem vR_ev (h : l[i]? = some (.ref j)) : vR i l g = some (.ref j, l, g) := by rw [vR_at, h]; rfl
theorem vCons_ev (h1 : r l g = some (s, l1, g1)) (h2 : w l1 g1 = some (xs, l2, g2)) : vCons r w l g = some (s :: xs, l2, g2) := by rw [vCons_at, h1, ob_some, h2]; rfl
theorem eIsi_ev {T : String} (h : a l g = some (d, l1, g1)) (h2 : kitB (tyN d) T = some p) : eIsi T a l g = some (.bool p, l1, g1) := by rw [eIsi_at, h, ob_some, h2]; rfl
variable {A B : Sm.X} {o : Out}
theorem xNext_ev : xNext l g = some (.nx, l, g) := rfl
theorem xAsg_ev (h : e l g = some (d, l1, g1)) : xAsg i e l g = some (.nx, l1.set i (.dat d), g1) := by rw [xAsg_at, h]; rfl
theorem xAsgG_ev {G : G} (h : e l g = some (d, l1, g1)) (h2 : G d l1 = some l2) : xAsgG G e l g = some (.nx, l2, g1) := by rw [xAsgG_at, h, ob_some, h2]; rfl
theorem xAsgL_ev (h : m l g = some (ds, l1, g1)) : xAsgL i m l g = some (.nx, l1.set i (.own ds), g1) := by rw [xAsgL_at, h]; rfl
theorem xNewL_ev (h : m l g = some (ds, l1, g1)) : xNewL i m l g = some (.nx, l1.set i (.ref g1.length), g1 ++ [.lst ds]) := by rw [xNewL_at, h]; rfl
theorem xApp_ev (h0 : lsM l g i = some es) (h : e l g = some (d, l1, g1)) (h2 : lsM l1 g1 i = some ds) (hz : ds.length < 4000000) : xApp i e l g = some (.nx, (ptV l1 g1 i (ds ++ [d])).1, (ptV l1 g1 i (ds ++ [d])).2) := by
  rw [xApp_at, h0, oo_some, h, ob_some]
  unfold appO
  rw [h2]
  show (if _ then _ else _) = _
  rw [if_pos hz]
theorem xSetI_ev {n : Int} (h : e l g = some (d, l1, g1)) (h0 : lsM l1 g1 i = some es) (h1 : b l1 g1 = some (.int n, l2, g2)) (h2 : lsM l2 g2 i = some ds) (h3 : ixN ds.length n = some j) : xSetI i b e l g = some (.nx, (ptV l2 g2 i (ds.set j d)).1, (ptV l2 g2 i (ds.set j d)).2) := by
  rw [xSetI_at, h, ob_some, h0, oo_some, h1, ob_some]
  unfold setO
  rw [h2]
  show (match ixN ds.length n with | some j => _ | none => none) = _
  rw [h3]
theorem xAug_ev (h0 : l[i]? = some (.dat d1)) (h : e l g = some (d2, l1, g1)) (h3 : f d1 d2 = some d) : xAug i f e l g = some (.nx, l1.set i (.dat d), g1) := by rw [xAug_at, h0, oo_some]; show ob (e l g) _ = _; rw [h, ob_some, h3]; rfl
theorem xFor_ev {G : G} (h : m l g = some (ds, l1, g1)) (h2 : xForL G A ds l1 g1 = some (o, l2, g2)) : xFor m G A l g = some (o, l2, g2) := by rw [xFor_at, h, ob_some]; exact h2
theorem xFrz_O (h : l[i]? = some (.own ds)) (h2 : A (l.set i (.dat (.list ds))) g = some (o, l1, g1)) : xFrz i A l g = some (o, l1, g1) := by rw [xFrz_at, h]; exact h2
end
theorem mulD_ev {i j : Int} (h : (-(2 ^ 64) < i ∧ i < 2 ^ 64) ∨ (-(2 ^ 64) < j ∧ j < 2 ^ 64)) : mulD (.int i) (.int j) = some (.int (i * j)) := by
  show (if _ then _ else _) = _
  rw [if_pos (by simpa using h)]
theorem modD_ev {i j : Int} (h : 0 < j) : modD (.int i) (.int j) = some (.int (i % j)) := by
  show (if _ then _ else _) = _
  rw [if_pos (by simpa using h)]
theorem fdivD_ev {i j : Int} (h : 0 < j ∧ j < 1073741824) : fdivD (.int i) (.int j) = some (.int (i / j)) := by
  show (if _ then _ else _) = _
  rw [if_pos (by simpa using h)]
theorem plusD_l {xs ys : List PyData} (h : xs.length + ys.length ≤ 4000000) : plusD (.list xs) (.list ys) = some (.list (xs ++ ys)) := by
  show (if _ then _ else _) = _
  rw [if_pos h]
theorem plusD_t {xs ys : List PyData} (h : xs.length + ys.length ≤ 4000000) : plusD (.tuple xs) (.tuple ys) = some (.tuple (xs ++ ys)) := by
  show (if _ then _ else _) = _
  rw [if_pos h]
theorem ixD_t {ds : List PyData} {k : Int} {d : PyData} (h0 : 0 ≤ k) (h : ds[k.toNat]? = some d) : ixD (.tuple ds) (.int k) = some d := by
  show atI ds k = _
  rw [atI_in h0, h]
theorem ixD_l {ds : List PyData} {k : Int} {d : PyData} (h0 : 0 ≤ k) (h : ds[k.toNat]? = some d) : ixD (.list ds) (.int k) = some d := by
  show atI ds k = _
  rw [atI_in h0, h]
theorem ixD_tN {ds : List PyData} {k : Nat} {d : PyData} (h : ds[k]? = some d) : ixD (.tuple ds) (.int (k : Int)) = some d := ixD_t (Int.natCast_nonneg k) (by simpa using h)
theorem ixD_lN {ds : List PyData} {k : Nat} {d : PyData} (h : ds[k]? = some d) : ixD (.list ds) (.int (k : Int)) = some d := ixD_l (Int.natCast_nonneg k) (by simpa using h)
theorem atI_N {ds : List PyData} {k : Nat} {d : PyData} (h : ds[k]? = some d) : atI ds (k : Int) = some d := by rw [atI_in (Int.natCast_nonneg k)]; simpa using h
theorem plusD_ii {i j : Int} : plusD (.int i) (.int j) = some (.int (i + j)) := rfl
theorem subD_ii {i j : Int} : subD (.int i) (.int j) = some (.int (i - j)) := rfl
theorem addI_ii {i j : Int} : addI (.int i) (.int j) = some (.int (i + j)) := rfl
theorem ltD_ii {i j : Int} : ltD (.int i) (.int j) = some (.bool (decide (i < j))) := rfl
theorem leD_ii {i j : Int} : leD (.int i) (.int j) = some (.bool (decide (i ≤ j))) := rfl
theorem gtD_ii {i j : Int} : gtD (.int i) (.int j) = some (.bool (decide (j < i))) := rfl
theorem geD_ii {i j : Int} : geD (.int i) (.int j) = some (.bool (decide (j ≤ i))) := rfl
theorem atI_z {ds : List PyData} {d : PyData} (h : ds[0]? = some d) : atI ds 0 = some d := atI_N h
theorem ixD_t0 {ds : List PyData} {d : PyData} (h : ds[0]? = some d) : ixD (.tuple ds) (.int 0) = some d := atI_N h
theorem k_bb {x : Bool} : kitB (tyN (.bool x)) "bool" = some true := by show kitB "bool" "bool" = _; decide +kernel
theorem k_bt {x : Bool} : kitB (tyN (.bool x)) "tuple" = some false := by show kitB "bool" "tuple" = _; decide +kernel
theorem k_bs {x : Bool} : kitB (tyN (.bool x)) "str" = some false := by show kitB "bool" "str" = _; decide +kernel
theorem k_bi {x : Bool} : kitB (tyN (.bool x)) "int" = some true := by show kitB "bool" "int" = _; decide +kernel
theorem k_tt {x : List PyData} : kitB (tyN (.tuple x)) "tuple" = some true := by show kitB "tuple" "tuple" = _; decide +kernel
theorem k_ts {x : List PyData} : kitB (tyN (.tuple x)) "str" = some false := by show kitB "tuple" "str" = _; decide +kernel
theorem k_ti {x : List PyData} : kitB (tyN (.tuple x)) "int" = some false := by show kitB "tuple" "int" = _; decide +kernel
theorem k_st {x : Str} : kitB (tyN (.str x)) "tuple" = some false := by show kitB "str" "tuple" = _; decide +kernel
theorem k_ss {x : Str} : kitB (tyN (.str x)) "str" = some true := by show kitB "str" "str" = _; decide +kernel
theorem k_si {x : Str} : kitB (tyN (.str x)) "int" = some false := by show kitB "str" "int" = _; decide +kernel
theorem k_ib {x : Int} : kitB (tyN (.int x)) "bool" = some false := by show kitB "int" "bool" = _; decide +kernel
theorem k_it {x : Int} : kitB (tyN (.int x)) "tuple" = some false := by show kitB "int" "tuple" = _; decide +kernel
theorem k_is {x : Int} : kitB (tyN (.int x)) "str" = some false := by show kitB "int" "str" = _; decide +kernel
theorem k_ii {x : Int} : kitB (tyN (.int x)) "int" = some true := by show kitB "int" "int" = _; decide +kernel
theorem k_nt  : kitB (tyN (.none)) "tuple" = some false := by show kitB "NoneType" "tuple" = _; decide +kernel
theorem k_ns  : kitB (tyN (.none)) "str" = some false := by show kitB "NoneType" "str" = _; decide +kernel
theorem k_ni  : kitB (tyN (.none)) "int" = some false := by show kitB "NoneType" "int" = _; decide +kernel
theorem k_lt {x : List PyData} : kitB (tyN (.list x)) "tuple" = some false := by show kitB "list" "tuple" = _; decide +kernel
theorem k_ls {x : List PyData} : kitB (tyN (.list x)) "str" = some false := by show kitB "list" "str" = _; decide +kernel
theorem k_li {x : List PyData} : kitB (tyN (.list x)) "int" = some false := by show kitB "list" "int" = _; decide +kernel
section
variable {α : Type} {l l1 l2 : Lo} {g g1 g2 : Sg} {a b : M PyData} {t u : M Bool} {p : Bool} {r : Option (PyData × Lo × Sg)} {rb : Option (Bool × Lo × Sg)} {rx : Option (Out × Lo × Sg)} {A B : X}
theorem cd_T {x y z : α} (h : p = true) (h2 : x = z) : cond p x y = z := by subst h; exact h2
theorem cd_F {x y z : α} (h : p = false) (h2 : y = z) : cond p x y = z := by subst h; exact h2
theorem eIf_D (h : t l g = some (p, l1, g1)) (h2 : cond p (a l1 g1) (b l1 g1) = r) : eIf t a b l g = r := by
  rw [eIf_at, h, ob_some, ← h2]
  cases p <;> rfl
theorem xIf_D (h : t l g = some (p, l1, g1)) (h2 : cond p (A l1 g1) (B l1 g1) = rx) : xIf t A B l g = rx := by
  rw [xIf_at, h, ob_some, ← h2]
  cases p <;> rfl
end
end Sm

namespace L2
open PySem PySem.Spec PyProof.Rows
section
variable {X : Cx}
theorem ps_setDc {i : Nat} {y : Str} {py : Pos} {kx vx tg iter : Expr} {ifs : List Expr} {scope : Scope} {own : List (Str × Nat)} {pos spos : Pos} {wi : TI} {g : TG} {tt : TT} {tk tv : TE} (hc : X.calm = true) (hN : X.N.Nodup) (hy : X.N[i]? = some y) (hyl : X.env.scope.names.lookup y = some .local)
    (hsw : swapsWith (.DictComp kx vx [⟨tg, iter, ifs, 0⟩] scope pos) (some (.Name y py)) spos.line X.env = pure true) (hi : PI X tg iter wi) (ok : BlkOk X.N X.env.scope scope own)
    (hg : ∀ (s : Shared) (H : Hp) (C : Addr) (cl : List (Str × Addr)) (fp : List Addr), PG (X.blk s H scope (compEnvC scope cl C X.env) fp) tg g) (ht : ∀ (s : Shared) (H : Hp) (C : Addr) (cl : List (Str × Addr)) (fp : List Addr), PTs (X.blk s H scope (compEnvC scope cl C X.env) fp) ifs tt)
    (hk : ∀ (s : Shared) (H : Hp) (C : Addr) (cl : List (Str × Addr)) (fp : List Addr), PE (X.blk s H scope (compEnvC scope cl C X.env) fp) kx tk)
    (he : ∀ (s : Shared) (H : Hp) (C : Addr) (cl : List (Str × Addr)) (fp : List Addr), PE (X.blk s H scope (compEnvC scope cl C X.env) fp) vx tv) (hs : ∀ x, foldedSetIterable iter X.env x = pure x := by intro _; rfl) :
    PS X (.Assign [.Name y py] (.DictComp kx vx [⟨tg, iter, ifs, 0⟩] scope pos) spos) (tAsg (tDc wi g tt tk tv (own.map (·.2))) (gName i)) := by
  refine ⟨fun pins s σ H D I h => ?_⟩
  rw [exec_Assign_Name_used _ _ _ _ hsw]
  refine wpAny_bind (wpAny_standAt (wpAny_bind ?_))
  show wpAny _ X.A (do let _ ← comprehension (.DictComp kx vx [⟨tg, iter, ifs, 0⟩] scope pos) scope X.env (firstIterPos [⟨tg, iter, ifs, 0⟩] pos) newDict false (eval iter X.env) (some (assign (.Name y py) X.env))) _ _ s
  have h : tDc wi g tt tk tv (own.map (·.2)) σ H (fun x H1 => gName i x σ H1 D.nx) := h
  refine wpAny_bind (thn (dc_core (Qf := fun _ s' => SP X pins D .next s') hc hN I hi ok hg ht hk he hs h fun L C s' m H' I' q hn f => ?_) fun _ s' hq => wpAny_pure (wpAny_pure hq))
  show wpAny _ _ (assign (.Name y py) X.env (.ref L)) _ _ _
  refine wpAny_assign_Name (store_ok2 (v := V.ref L) I' hN hy (.inl hyl) rfl (fun s2 I2 ⟨a, sb, ha⟩ => ?_) (.inr hyl))
  obtain ⟨f0, f1, f2, f3, f4, f5⟩ := f
  have haC : C ≠ a := by
    rcases ha with z | z
    · rw [z]; exact f1
    · exact fun e => f4 y a z e.symm
  refine ⟨m, hn.sameBut sb haC, fun h3 sb3 => ?_⟩
  exact ⟨_, H', I2.turned (t' := s2.toks) (fun b o hb e => (sb3.2 b hb).trans e) f0 f1 f3 f4 f5, q⟩
theorem sw_trueD {kx vx : Expr} {gs : List Comprehension} {scope : Scope} {pos py : Pos} {y : Str} {l : Nat} {env : Env} (hk : env.scope.kind = .function) (hy : env.scope.names.lookup y = some .local) (hl : (py.line == pos.line) = true)
    (ha : (scope.names.any fun (n, k) => n == y && (k == .local || k == .cell)) = false) : swapsWith (.DictComp kx vx gs scope pos) (some (.Name y py)) l env = pure true := by
  have ky : env.kindOf y = some .local := hy
  have hb : env.blockKind = .function := by unfold Env.blockKind; rw [hk]; rfl
  unfold swapsWith
  simp only [hb, ky, ha, Expr.pos, hl]
  rfl
end
end L2
namespace Sm
open PySem PySem.Spec PyProof.Rows L2 RZ Dz
def keyO : PyData → Option Key
  | .int i => some (.inl i)
  | .str x => some (.inr x)
  | _ => none
theorem keyO_some {d : PyData} {k : Key} (h : keyO d = some k) : d = keyD k := by
  unfold keyO at h
  split at h
  · cases h; rfl
  · cases h; rfl
  · cases h
def dcV (l : Lo) (g : Sg) (i : Nat) : Option (List (Key × PyData)) := match l[i]? with
  | some (.dct kvs) => some kvs
  | some (.ref j) => (match g[j]? with
    | some (.dct kvs) => some kvs
    | _ => none)
  | _ => none
def ptD (l : Lo) (g : Sg) (i : Nat) (kvs : List (Key × PyData)) : Lo × Sg := match l[i]? with
  | some (.dct _) => (l.set i (.dct kvs), g)
  | some (.ref j) => (l, g.set j (.dct kvs))
  | _ => (l, g)
section
variable {K : Kx} {l : Lo} {g : Sg} {s : L2.St} {H S : Hp} {r : List Addr} {A : List (Option Addr)} {i : Nat} {kvs : List (Key × PyData)}
theorem rd_dc (h : StOk K l g s H S r A) (e : dcV l g i = some kvs) : ∃ a ws, s[i]? = some (some (.ref a)) ∧ H a = some (.dK ws) ∧ KvD K S ws kvs ∧
    ∀ ys es, KvD K S ys es → StOk K (ptD l g i es).1 (ptD l g i es).2 s (upd H a (.dK ys)) S r A ∧ Mv K S H r A S (upd H a (.dK ys)) r A := by
  unfold dcV at e
  split at e
  · rename_i ds' hl
    cases e
    obtain ⟨o, v, e1, e2, a, rfl, rfl, e3, xs, e4, e5⟩ := h.ok i _ hl
    refine ⟨a, xs, e2, e4, e5, fun ys es hd => ?_⟩
    have : ptD l g i es = (l.set i (.dct es), g) := by unfold ptD; rw [hl]
    rw [this]
    exact h.putO hl e1 e2 ⟨a, rfl, rfl, e3, ys, upd_same, hd⟩
  · rename_i j hl
    obtain ⟨o, v, e1, e2, e3, a, e4, rfl⟩ := h.ok i _ hl
    split at e
    · rename_i ds' hj
      cases e
      obtain ⟨_, xs, q1, q2⟩ := h.st j a _ e4 hj
      refine ⟨a, xs, e2, q1, q2, fun ys es hd => ?_⟩
      have : ptD l g i es = (l, g.set j (.dct es)) := by unfold ptD; rw [hl]
      rw [this]
      exact h.putR e4 ⟨ys, upd_same, hd⟩
    · cases e
  · cases e
end
def eDget (i : Nat) (b : M PyData) : M PyData := mb (mg fun l g => dcV l g i) fun _ => mb b fun y => mg fun l g => (dcV l g i).bind fun kvs => (keyO y).bind fun k => valG kvs k
def eDin (neg : Bool) (a : M PyData) (i : Nat) : M PyData := mb a fun y => mg fun l g => (dcV l g i).bind fun kvs => (keyO y).map fun k => .bool (if neg = true then !(valG kvs k).isSome else (valG kvs k).isSome)
def bTruD (i : Nat) : M Bool := mg fun l g => (dcV l g i).map fun kvs => !kvs.isEmpty
def lKeys (i : Nat) : M (List PyData) := mg fun l g => (dcV l g i).map fun kvs => kvs.map fun kv => keyD kv.1
def lDnew : M (List (Key × PyData)) := mp []
def xDput (i : Nat) (b a : M PyData) : X := mb a fun x => mb (mg fun l g => dcV l g i) fun _ => mb b fun y => fun l g => match dcV l g i, keyO y with
  | some kvs, some k => if kvs.length < 4000000 then some (.nx, (ptD l g i (putG kvs k x)).1, (ptD l g i (putG kvs k x)).2) else none
  | _, _ => none
def xDpop (i : Nat) (b : M PyData) : X := mb (mg fun l g => dcV l g i) fun _ => mb b fun y => fun l g => match dcV l g i, keyO y with
  | some kvs, some k => if (valG kvs k).isSome = true then some (.nx, (ptD l g i (dropG kvs k)).1, (ptD l g i (dropG kvs k)).2) else none
  | _, _ => none
section
variable {K : Kx} {ta tb tc : TE} {a b c : M PyData} {i : Nat}
theorem s_dget (hb : EvS K tb b) : EvS K (tDGet (tVar i) tb) (eDget i b) := fun l g d l' g' s H S r A e h Q q => by
  replace e := mb_some e; obtain ⟨y0, l0, g0, e0, e⟩ := e
  replace e0 := mg_some e0; obtain ⟨e0, rfl, rfl⟩ := e0
  replace e := mb_some e; obtain ⟨y, l1, g1, e1, e⟩ := e
  replace e := mg_some e; obtain ⟨e, rfl, rfl⟩ := e
  replace e := Option.bind_eq_some_iff.mp e; obtain ⟨kvs, e2, e⟩ := e
  replace e := Option.bind_eq_some_iff.mp e; obtain ⟨k, e3, e⟩ := e
  cases keyO_some e3
  obtain ⟨a, ws, q1, _⟩ := rd_dc h e0
  refine ⟨_, q1, hb _ _ _ _ _ s H S r A e1 h _ fun v1 H1 S1 r1 A1 m1 h1 d1 => ?_⟩
  obtain ⟨a', ws, q2, q3, q4, _⟩ := rd_dc h1 e2
  rw [q1] at q2
  cases q2
  obtain ⟨v, hv, hd⟩ := q4.val.1 d e
  exact ⟨a, v, rfl, .inl ⟨ws, k, .inl q3, key_dp d1, hv.symm⟩, q v H1 S1 r1 A1 m1 h1 hd⟩
theorem s_dnotin (ha : EvS K ta a) : EvS K (tDNotIn ta (tVar i)) (eDin true a i) := fun l g d l' g' s H S r A e h Q q => by
  replace e := mb_some e; obtain ⟨y, l1, g1, e1, e⟩ := e
  replace e := mg_some e; obtain ⟨e, rfl, rfl⟩ := e
  replace e := Option.bind_eq_some_iff.mp e; obtain ⟨kvs, e2, e⟩ := e
  obtain ⟨k, e3, rfl⟩ := Option.map_eq_some_iff.mp e
  cases keyO_some e3
  refine ha _ _ _ _ _ s H S r A e1 h _ fun v1 H1 S1 r1 A1 m1 h1 d1 => ?_
  obtain ⟨a, ws, q1, q2, q3, _⟩ := rd_dc h1 e2
  refine ⟨_, q1, a, _, rfl, .inl ⟨ws, k, .inl q2, key_dp d1, rfl⟩, q _ H1 S1 r1 A1 m1 h1 ?_⟩
  rw [if_pos rfl, ← val_some q3]
  exact .bl _
theorem s_truD : EvT K (fun σ H Q => tVar i σ H fun x H' => ∃ k, TruV K x H' k ∧ Q k H') (bTruD i) := fun l g d l' g' s H S r A e h Q q => by
  replace e := mg_some e; obtain ⟨e, rfl, rfl⟩ := e
  obtain ⟨kvs, e2, rfl⟩ := Option.map_eq_some_iff.mp e
  obtain ⟨a, ws, q1, q2, q3, _⟩ := rd_dc h e2
  refine ⟨_, q1, !kvs.isEmpty, .inr (.inr ⟨ws, q2, ?_⟩), q H S r A (Mv.refl h.hs) h⟩
  have := q3.len
  cases ws <;> cases kvs <;> simp at this ⊢
theorem s_keys : EvL K (tCB rListD (tCons (tVar i) tNil)) (lKeys i) := fun l g d l' g' s H S r A e h Q q => by
  replace e := mg_some e; obtain ⟨e, rfl, rfl⟩ := e
  obtain ⟨kvs, e2, rfl⟩ := Option.map_eq_some_iff.mp e
  obtain ⟨a, ws, q1, q2, q3, _⟩ := rd_dc h e2
  exact ⟨_, q1, a, ws, rfl, q2, new_l (Mv.refl h.hs) h q3.keys q⟩
theorem s_dnew : EvC K tDNewK lDnew := fun l g d l' g' s H S r A e h Q q => by
  obtain ⟨rfl, rfl, rfl⟩ := mp_some e
  intro p hp
  have gr : Grow m0 S H S (upd H p (.dK [])) := Grow.out h.hs hp
  exact q p [] _ S r A (Mv.grow gr) (h.grow gr) hp (fun z => (h.there (tr_upd z)).1 hp) (h.hs.free hp) upd_same .nil
theorem x_dput (hb : EvS K tb b) (ha : EvS K ta a) : ExS K (sDPut (tVar i) tb ta) (xDput i b a) := fun l g o l' g' s H S r A e h D q => by
  replace e := mb_some e; obtain ⟨x, l1, g1, e1, e⟩ := e
  replace e := mb_some e; obtain ⟨y0, l2, g2, e2, e⟩ := e
  replace e2 := mg_some e2; obtain ⟨e2, rfl, rfl⟩ := e2
  replace e := mb_some e; obtain ⟨y, l3, g3, e3, e⟩ := e
  split at e
  · rename_i kvs k e4 e5
    split at e
    · rename_i hz
      cases e
      cases keyO_some e5
      refine ha _ _ _ _ _ s H S r A e1 h _ fun v1 H1 S1 r1 A1 m1 h1 d1 => ?_
      obtain ⟨ad, ws, q1, _⟩ := rd_dc h1 e2
      refine ⟨_, q1, hb _ _ _ _ _ s H1 S1 r1 A1 e3 h1 _ fun v2 H2 S2 r2 A2 m2 h2 d2 => ?_⟩
      obtain ⟨ad', ws, q2, q3, q4, q5⟩ := rd_dc h2 e4
      rw [q1] at q2
      cases q2
      obtain ⟨h3, m3⟩ := q5 _ _ (q4.put (k := k) (Dp_mono d1 m2.s))
      exact ⟨ad, _, rfl, .inl ⟨ws, k, q3, key_dp d2, szt (by rw [q4.len]; exact hz), rfl⟩, q s _ S2 r2 A2 ((m1.trans m2).trans m3) h3⟩
    · cases e
  · cases e
theorem x_dpop (hb : EvS K tb b) : ExS K (tDrop (tDPop1 (tVar i) tb)) (xDpop i b) := fun l g o l' g' s H S r A e h D q => by
  replace e := mb_some e; obtain ⟨y0, l2, g2, e2, e⟩ := e
  replace e2 := mg_some e2; obtain ⟨e2, rfl, rfl⟩ := e2
  replace e := mb_some e; obtain ⟨y, l3, g3, e3, e⟩ := e
  split at e
  · rename_i kvs k e4 e5
    split at e
    · rename_i hk
      cases e
      cases keyO_some e5
      obtain ⟨ad, ws, q1, q1', _⟩ := rd_dc h e2
      refine ⟨_, q1, ad, rfl, .inl ⟨ws, .inl q1'⟩, hb _ _ _ _ _ s H S r A e3 h _ fun v2 H2 S2 r2 A2 m2 h2 d2 => ?_⟩
      obtain ⟨ad', ws, q2, q3, q4, q5⟩ := rd_dc h2 e4
      rw [q1] at q2
      cases q2
      obtain ⟨x, hx⟩ := Option.isSome_iff_exists.mp hk
      obtain ⟨v, hv, _⟩ := q4.val.1 x hx
      obtain ⟨h3, m3⟩ := q5 _ _ (q4.drop (k := k))
      exact ⟨ws, k, v, q3, key_dp d2, hv, q s _ S2 r2 A2 (m2.trans m3) h3⟩
    · cases e
  · cases e
end
def pairD (kv : Key × PyData) : PyData := .tuple [keyD kv.1, kv.2]
def xItems (i j : Nat) (vs : List Nat) (tg : G) (t : M Bool) (e : M PyData) : X := fun l g => match l[i]? with
  | some (.dct kvs) => if (plainAt vs (l.set i .no) && decide (kvs.length ≤ 4000000)) = true then (match lcL vs tg t e (kvs.map pairD) (l.set i .no) g with
    | some (ys, l1, g1) => (match l1[i]? with
      | some .no => if j < l1.length then some (.nx, (l1.set i (.dct kvs)).set j (.dat (.list ys)), g1) else none
      | _ => none)
    | none => none) else none
  | _ => none
section
variable {K : Kx} {l : Lo} {g : Sg} {s : L2.St} {H S : Hp} {r : List Addr} {A : List (Option Addr)} {i : Nat}
theorem StOk.drop (h : StOk K l g s H S r A) : StOk K (l.set i .no) g s H S r (A.set i none) :=
  ⟨h.hs, by rw [List.length_set, List.length_set]; exact h.la, by rw [List.length_set]; exact h.ls, fun j z e => by
    by_cases hij : i = j
    · subst hij
      have hl : i < l.length := by
        have := (List.getElem?_eq_some_iff.mp e).1
        rwa [List.length_set] at this
      rw [List.getElem?_set_self hl] at e
      cases e
      obtain ⟨o, v, e1, e2, e3⟩ := h.ok i _ (List.getElem?_eq_getElem hl)
      exact ⟨none, v, List.getElem?_set_self (by rw [h.la]; exact hl), e2, rfl⟩
    · rw [List.getElem?_set_ne hij] at e ⊢
      exact h.ok j z e, fun j k a e1 e2 => by
    have key : ∀ m : Nat, (A.set i none)[m]? = some (some a) → A[m]? = some (some a) := fun m e => by
      by_cases him : i = m
      · subst him
        have hl : i < A.length := by
          have := (List.getElem?_eq_some_iff.mp e).1
          rwa [List.length_set] at this
        rw [List.getElem?_set_self hl] at e
        cases e
      · rw [List.getElem?_set_ne him] at e
        exact e
    exact h.ij j k a (key j e1) (key k e2), fun a ha => by
    rcases List.mem_or_eq_of_mem_set ha with q | q
    · exact h.dr a q
    · exact absurd q (by simp), h.rn, h.lg, h.st, h.tb⟩
theorem kn_del {o : Addr} {od : Obj} {ws : List (Key × V)} {xs : List (NestedKey × Addr × Value)} {kvs : List (NestedKey × PyData)} (h : S o = some (.frz od (.dK ws))) (q : KnD K S xs kvs) : KnD K (zdel S o) xs kvs := Paired.mapP q fun _ _ z => ⟨z.1, ⟨z.2.1.1, dp_del h _ _ z.2.1.2⟩, let ⟨v, r, d⟩ := z.2.2; ⟨v, r, dp_del h _ _ d⟩⟩
theorem fv_del {o : Addr} {od : Obj} {ws : List (Key × V)} {x : Fv} {v : V} (h : S o = some (.frz od (.dK ws))) (q : FvOk K S r x v) : FvOk K (zdel S o) r x v := by
  cases x with
  | dat d => exact dp_del h _ _ q
  | ref j => exact q
theorem SOk.del {o : Addr} {od : Obj} {ws : List (Key × V)} {x : Vl} {oa : Option Addr} {w : Option V} {H' : Hp} (hS : S o = some (.frz od (.dK ws))) (na : ∀ a, oa = some a → a ≠ o) (hk : ∀ a u, a ≠ o → H a = some u → H' a = some u) (q : SOk K S H r x oa w) : SOk K (zdel S o) H' r x oa w := by
  cases x with
  | no => exact q
  | dat d => obtain ⟨e1, v, e2, e3⟩ := q; exact ⟨e1, v, e2, dp_del hS _ _ e3⟩
  | own ds => obtain ⟨a, e1, e2, e3, xs, e4, e5⟩ := q; exact ⟨a, e1, e2, by rw [zdel_ne (na a e1)]; exact e3, xs, hk _ _ (na a e1) e4, dpAll_del hS _ _ e5⟩
  | dct ds => obtain ⟨a, e1, e2, e3, xs, e4, e5⟩ := q; exact ⟨a, e1, e2, by rw [zdel_ne (na a e1)]; exact e3, xs, hk _ _ (na a e1) e4, kv_del hS e5⟩
  | dnk ds => obtain ⟨a, e1, e2, e3, xs, e4, e5⟩ := q; exact ⟨a, e1, e2, by rw [zdel_ne (na a e1)]; exact e3, xs, hk _ _ (na a e1) e4, kn_del hS e5⟩
  | ref j => exact q
  | fn F =>
    obtain ⟨e1, v, e2, f, P, e3, e4, e5⟩ := q
    exact ⟨e1, v, e2, f, P, e3, e5.thaw S (Dz.zdel S o) o od ws hS (fun a ha => Dz.zdel_ne ha) Dz.zdel_same e4, e5⟩
  | xt ds =>
    obtain ⟨e1, v, e2, a, o', xs, e3, e4, e5, e6, e7⟩ := q
    have na : a ≠ o := fun z => by rw [z, hS] at e4; cases e4
    exact ⟨e1, v, e2, a, o', xs, e3, by rw [zdel_ne na]; exact e4, e5, e6, dpAll_del hS _ _ e7⟩
  | os b ds =>
    obtain ⟨e1, v, e2, a, ys, e3, e4, e5⟩ := q
    have na : a ≠ o := fun z => by rw [z, hS] at e4; split at e4 <;> cases e4
    refine ⟨e1, v, e2, a, ys, e3, by rw [zdel_ne na]; exact e4, Paired.mapP e5 fun y x z => ?_⟩
    cases x with
    | ref j => exact z
    | pr d j =>
      obtain ⟨t, w, a, f0, f1, f2, f3⟩ := z
      exact ⟨t, w, a, f0, by rw [zdel_ne fun z => by rw [z, hS] at f1; cases f1]; exact f1, dp_del hS _ _ f2, f3⟩
theorem StOk.thaw {o : Addr} {od : Obj} {ws : List (Key × V)} (h : StOk K l g s H S r A) (hS : S o = some (.frz od (.dK ws))) : StOk K l g s (upd H o (.dK ws)) (zdel S o) r A := by
  have nt : ∀ a, tr S H A r a → a ≠ o := fun a ha z => by
    have := (h.there ha).2
    rw [z, hS] at this
    cases this
  have hk : ∀ a u, a ≠ o → H a = some u → upd H o (.dK ws) a = some u := fun a u ha hu => by rw [upd_ne ha]; exact hu
  refine ⟨fun a u hu => ?_, h.la, h.ls, fun j z e => ?_, h.ij, h.dr, h.rn, h.lg, fun j a ob e1 e2 => ?_, fun p hp => ?_, fun c q P hc => ?_⟩
  · have ha : a ≠ o := fun z => by rw [z, zdel_same] at hu; cases hu
    rw [zdel_ne ha] at hu
    exact hk a u ha (h.hs a u hu)
  · obtain ⟨oa, v, e1, e2, e3⟩ := h.ok j z e
    exact ⟨oa, v, e1, e2, e3.del hS (fun a ea => nt a (.inl (by rw [← ea]; exact List.mem_of_getElem? e1))) hk⟩
  · have ha := nt a (.inr (.inl (List.mem_of_getElem? e1)))
    obtain ⟨q1, q2⟩ := h.st j a ob e1 e2
    refine ⟨by rw [zdel_ne ha]; exact q1, ?_⟩
    cases ob with
    | lst ds => obtain ⟨xs, p1, p2⟩ := q2; exact ⟨xs, hk _ _ ha p1, dpAll_del hS _ _ p2⟩
    | dct ds => obtain ⟨xs, p1, p2⟩ := q2; exact ⟨xs, hk _ _ ha p1, kv_del hS p2⟩
    | dnk ds => obtain ⟨xs, p1, p2⟩ := q2; exact ⟨xs, hk _ _ ha p1, kn_del hS p2⟩
    | ins C fs =>
      obtain ⟨cls, dx, vs, p0, p1, p2, p3⟩ := q2
      have hdx : dx ≠ o := fun z => by rw [z, h.hs _ _ hS] at p2; cases p2
      exact ⟨cls, dx, vs, p0, hk _ _ ha p1, hk _ _ hdx p2, Paired.mapP p3 fun _ _ q => ⟨q.1, fv_del hS q.2⟩⟩
  · obtain ⟨p1, ps, p2, p3, p4⟩ := h.tb.st p hp
    have ha : p.1 ≠ o := fun z => by rw [z, h.hs _ _ hS] at p2; cases p2
    refine ⟨by rw [zdel_ne ha]; exact p1, ps, hk _ _ ha p2, p3, fun pos cv hc => ?_⟩
    obtain ⟨c, P, c1, c2⟩ := p4 pos cv hc
    exact ⟨c, P, c1, by rw [zdel_ne fun z => by rw [z, hS] at c2; cases c2]; exact c2⟩
  · have hco : c ≠ o := fun z => by rw [z, zdel_same] at hc; cases hc
    rw [zdel_ne hco] at hc
    obtain ⟨n1, n2, n3, n4, ps, n5, n6, n7⟩ := h.tb.ne c q P hc
    have hP : P ≠ o := fun z => by rw [z, h.hs _ _ hS] at n5; cases n5
    refine ⟨n1, n2, n3, by rw [zdel_ne hP]; exact n4, ps, hk _ _ hP n5, n6, fun pos cv hcv => ?_⟩
    obtain ⟨c2, q1, oc, q2, q3⟩ := n7 pos cv hcv
    exact ⟨c2, q1, oc, by rw [zdel_ne fun z => by rw [z, hS] at q2; cases q2]; exact q2, q3⟩
end
section
variable {K : Kx} {tt : TT} {te : TE} {t : M Bool} {e0 : M PyData} {tg : TG} {gg : G} {vs : List Nat} {i j : Nat}
theorem x_items (hij : i ≠ j) (hg : GIn tg vs) (hm : ∀ v s H (Q Q' : L2.St → Hp → Prop), (∀ s' H', Q s' H' → Q' s' H') → tg v s H Q → tg v s H Q') (hb : BdS K tg gg) (ht : EvT K tt t) (he : EvS K te e0) : ExS K (tLock (tAsg (tLc (iItems (tVar i)) tg tt te vs) (gName j))) (xItems i j vs gg t e0) := fun l g o l' g' s H S r A e h D q => by
  unfold xItems at e
  split at e
  case h_2 => cases e
  rename_i kvs hi
  split at e
  case isFalse => cases e
  rename_i hz
  rw [Bool.and_eq_true, decide_eq_true_eq] at hz
  split at e
  case h_2 => cases e
  rename_i ys l1 g1 e1
  split at e
  case h_2 => cases e
  rename_i hno
  split at e
  case isFalse => cases e
  rename_i hjl
  cases e
  obtain ⟨oo, v, a1, a2, a, rfl, rfl, hS, ws, hw, hkv⟩ := h.ok i _ hi
  have hil : i < l.length := (List.getElem?_eq_some_iff.mp hi).1
  have haA : some a ∈ A := List.mem_of_getElem? a1
  have ntr : ¬ tr S H (A.set i none) r a := fun z => by
    rcases z with z | z
    · obtain ⟨m, hmm⟩ := List.mem_iff_getElem?.mp z
      by_cases him : i = m
      · subst him
        have hl : i < A.length := by
          have := (List.getElem?_eq_some_iff.mp hmm).1
          rwa [List.length_set] at this
        rw [List.getElem?_set_self hl] at hmm
        cases hmm
      · rw [List.getElem?_set_ne him] at hmm
        exact him (h.ij i m a a1 hmm)
    · exact z.elim (h.dr a haA) (h.apartA haA)
  refine ⟨a, .dK ws, hw, trivial, fun od => ?_⟩
  have hSS : Same S (upd S a (.frz od (.dK ws))) := same_up hS
  have h0 := h.drop (i := i)
  have h1 : StOk K (l.set i .no) g s (upd H a (.frz od (.dK ws))) (upd S a (.frz od (.dK ws))) r (A.set i none) := by
    refine h0.move hSS (same_upup h.hs) (fun b hb => ?_) ⟨[], by simp⟩ h0.rn h0.dr h0.lg (fun m b ob e1 e2 => ?_) (h0.tb.go hSS (fun b hb => ?_) fun b u hb hu => ?_)
    · have hba : b ≠ a := fun z => ntr (.inl (z ▸ hb))
      exact ⟨by rw [upd_ne hba]; exact (h0.thereA hb).2, fun u hu => by rw [upd_ne hba]; exact hu⟩
    · have hba : b ≠ a := fun z => ntr (.inr (.inl (z ▸ List.mem_of_getElem? e1)))
      obtain ⟨p1, p2⟩ := h0.st m b ob e1 e2
      exact ⟨by rw [upd_ne hba]; exact p1, p2.go hSS (.upd hba hw (fun _ z => nomatch z)) ⟨[], by simp⟩⟩
    · have hba : b ≠ a := fun z => ntr (.inr (.inr (z ▸ hb)))
      rw [upd_ne hba]; exact (h0.tb.there hb).2
    · have hba : b ≠ a := fun z => ntr (.inr (.inr (z ▸ hb)))
      rw [upd_ne hba]; exact hu
  refine lc_run (S := upd S a (.frz od (.dK ws))) (r := r) (A := A.set i none) (ds := kvs.map pairD) (fun R k => ⟨_, a2, a, od, ws, rfl, upd_same, k _ _ _ _ _ (Mv.refl h1.hs) h1 (walkItems upd_same (hkv.mono hSS))⟩) hg hm hb ht he hz.1 (by rw [List.length_map]; exact hz.2) e1 _ fun p xs H2 S2 r2 A2 m2 h2 hp ht2 sp hx hd => ?_
  have ho2 : H2 a = some (.frz od (.dK ws)) := m2.k a _ (fun z => ntr (tr_upup z)) upd_same
  have so2 : S2 a = some (.frz od (.dK ws)) := m2.s a _ upd_same
  refine ⟨ho2, ?_⟩
  have hpa : p ≠ a := fun z => by rw [z, upd_same] at hp; cases hp
  have hpH : H p = none := by rw [upd_ne hpa] at hp; exact hp
  have nt2 : ¬ tr S2 H2 A2 r2 a := fun z => by
    have := (h2.there z).2
    rw [so2] at this
    cases this
  have h3 := h2.thaw so2
  have kv3 : KvD K (zdel S2 a) ws kvs := kv_del so2 ((hkv.mono hSS).mono m2.s)
  have hsi : s.set i (some (V.ref a)) = s := by
    apply List.ext_getElem?
    intro m
    by_cases him : i = m
    · subst him
      rw [List.getElem?_set_self (by rw [h.ls]; exact hil), a2]
    · rw [List.getElem?_set_ne him]
  have h4 := h3.fresh (i := i) (y := .dct kvs) (p := a) (fun z => nt2 (.inl z)) (fun z => nt2 (.inr (.inl z))) ⟨a, rfl, rfl, zdel_same, ws, upd_same, kv3⟩
  rw [hsi] at h4
  have h5 := h4.freshL (i := j) (p := p) (xs := xs) (ds := ys) (fun z => by
    rcases List.mem_or_eq_of_mem_set z with z | z
    · exact ht2 (.inl z)
    · cases z; exact hpa rfl) (fun z => ht2 (.inr (.inl z))) (by rw [zdel_ne hpa]; exact sp) (by rw [upd_ne hpa]; exact hx) (dpAll_del so2 _ _ hd)
  have m5 : Mv K S H r A (zdel S2 a) (upd H2 a (.dK ws)) r2 ((A2.set i (some a)).set j (some p)) := by
    have sS : Same S (zdel S2 a) := fun b u hu => by
      have hba : b ≠ a := fun z => by rw [z, hS] at hu; cases hu
      rw [zdel_ne hba]
      exact m2.s b u (by rw [upd_ne hba]; exact hu)
    have tN : ∀ b, isTab S H b → b ≠ a := fun b ⟨_, ps, e⟩ z => by rw [z, hw] at e; cases e
    refine ⟨sS, h3.hs, fun b hb1 hb2 hb3 => ?_, fun b u hb1 hb2 => ?_, fun b hb => ?_, m2.p, fun b hb => ?_, fun b hb => ?_⟩
    · have hba : b ≠ a := fun z => hb3 (.inl (z ▸ haA))
      rw [zdel_ne hba]
      exact m2.n b (by rw [upd_ne hba]; exact hb1) (by rw [upd_ne hba]; exact hb2) fun z => hb3 (trset (tr_upup z))
    · have hba : b ≠ a := fun z => hb1 (.inl (z ▸ haA))
      rw [upd_ne hba]
      exact m2.k b u (fun z => hb1 (trset (tr_upup z))) (by rw [upd_ne hba]; exact hb2)
    · by_cases hba : b = a
      · rw [hba, upd_same]; exact fun z => nomatch z
      · rw [upd_ne hba]
        exact m2.d b (by rw [upd_ne hba]; exact hb)
    · have key : tr S2 H2 A2 r2 b → tr S H A r b ∨ H b = none := fun z => by
        rcases m2.f b z with z | z
        · exact .inl (trset (tr_upup z))
        · by_cases hba : b = a
          · rw [hba, upd_same] at z; cases z
          · rw [upd_ne hba] at z; exact .inr z
      rcases hb with hb | hb
      · rcases List.mem_or_eq_of_mem_set hb with hb | hb
        · rcases List.mem_or_eq_of_mem_set hb with hb | hb
          · exact key (.inl hb)
          · cases hb; exact .inl (.inl haA)
        · cases hb; exact .inr hpH
      · refine key (.inr (hb.imp id fun ⟨e1, ps, e2⟩ => ?_))
        have hba : b ≠ a := fun z => by rw [z, upd_same] at e2; cases e2
        rw [zdel_ne hba] at e1
        rw [upd_ne hba] at e2
        exact ⟨e1, ps, e2⟩
    · have hba := tN b hb
      obtain ⟨e1, ps, e2⟩ := m2.t b (tab_upup hba hb)
      exact ⟨by rw [zdel_ne hba]; exact e1, ps, by rw [upd_ne hba]; exact e2⟩
  obtain ⟨S6, h6, m6⟩ := h5.freeze (i := j) (ds := ys) (by
    rw [List.getElem?_set_self (by rw [List.length_set]; exact hjl)])
  rw [List.set_set] at h6
  exact q _ _ S6 _ _ (m5.trans m6) h6
end
def lcD (vs : List Nat) (tg : G) (t : M Bool) (k e : M PyData) : List PyData → List (Key × PyData) → M (List (Key × PyData))
  | [], acc => mp acc
  | d :: ds, acc => fun l g => match tg d (wipeV l vs) with
    | none => none
    | some l1 => match t l1 g with
      | none => none
      | some (true, l2, g2) => (match k l2 g2 with
        | none => none
        | some (y, l3, g3) => (match e l3 g3 with
          | none => none
          | some (z, l4, g4) => (match keyO y with
            | none => none
            | some kk => lcD vs tg t k e ds (putG acc kk z) (backV l l4 vs) g4)))
      | some (false, l2, g2) => lcD vs tg t k e ds acc (backV l l2 vs) g2
def lDc (vs : List Nat) (it : M (List PyData)) (tg : G) (t : M Bool) (k e : M PyData) : M (List (Key × PyData)) := mb it fun ds => fun l g => if (plainAt vs l && decide (ds.length ≤ 4000000)) = true then lcD vs tg t k e ds [] l g else none
theorem lcD_step {vs : List Nat} {tg : G} {t : M Bool} {k e : M PyData} {d : PyData} {ds : List PyData} {acc ys : List (Key × PyData)} {l l' : Lo} {g g' : Sg} (h : lcD vs tg t k e (d :: ds) acc l g = some (ys, l', g')) :
    ∃ l1 b l2 g2, tg d (wipeV l vs) = some l1 ∧ t l1 g = some (b, l2, g2) ∧ ((b = true ∧ ∃ y l3 g3 z l4 g4 kk, k l2 g2 = some (y, l3, g3) ∧ e l3 g3 = some (z, l4, g4) ∧ keyO y = some kk ∧ lcD vs tg t k e ds (putG acc kk z) (backV l l4 vs) g4 = some (ys, l', g')) ∨ (b = false ∧ lcD vs tg t k e ds acc (backV l l2 vs) g2 = some (ys, l', g'))) := by
  unfold lcD at h
  split at h
  · cases h
  · rename_i l1 e1
    split at h
    · cases h
    · rename_i l2 g2 e2
      split at h
      · cases h
      · rename_i y l3 g3 e3
        split at h
        · cases h
        · rename_i z l4 g4 e4
          split at h
          · cases h
          · rename_i kk e5
            exact ⟨l1, true, l2, g2, e1, e2, .inl ⟨rfl, y, l3, g3, z, l4, g4, kk, e3, e4, e5, h⟩⟩
    · rename_i l2 g2 e2
      exact ⟨l1, false, l2, g2, e1, e2, .inr ⟨rfl, h⟩⟩
theorem putG_len {kvs : List (Key × PyData)} {k : Key} {v : PyData} : (putG kvs k v).length ≤ kvs.length + 1 := by
  unfold putG
  split
  · rw [List.length_map]; omega
  · rw [List.length_append]; simp
section
variable {K : Kx} {tt : TT} {tk te : TE} {t : M Bool} {k0 e0 : M PyData} {wi : TI} {it : M (List PyData)} {tg : TG} {gg : G} {vs : List Nat}
theorem s_dc (hi : EvI K wi it) (hg : GIn tg vs) (hm : ∀ v s H (Q Q' : L2.St → Hp → Prop), (∀ s' H', Q s' H' → Q' s' H') → tg v s H Q → tg v s H Q') (hb : BdS K tg gg) (ht : EvT K tt t) (hk : EvS K tk k0) (he : EvS K te e0) : EvC K (tDc wi tg tt tk te vs) (lDc vs it gg t k0 e0) := fun l g d l' g' s H S r A e h Q q => by
  replace e := mb_some e; obtain ⟨ds, l1, g1, e1, e⟩ := e
  split at e
  case isFalse => cases e
  rename_i hz
  rw [Bool.and_eq_true, decide_eq_true_eq] at hz
  obtain ⟨hpl, hz⟩ := hz
  refine hi _ _ _ _ _ s H S r A e1 h _ fun J H1 S1 r1 A1 m1 h1 w => ?_
  intro D hD
  have hDH : H D = none := by
    cases hq : H D with
    | none => rfl
    | some u => exact absurd hD (m1.d D (some_ne hq))
  have gD : Grow m0 S1 H1 S1 (upd H1 D (.dK [])) := Grow.out h1.hs hD
  have hDt : ¬ tr S1 H1 A1 r1 D := fun z => (h1.there z).1 hD
  refine ⟨fun i m H2 => m = ds.length - i ∧ i ≤ ds.length ∧ ∃ li gi Si ri Ai acc ac, StOk K li gi s H2 Si ri Ai ∧ Mv K S1 H1 r1 A1 Si H2 ri Ai ∧ ¬ tr Si H2 Ai ri D ∧ Si D = none ∧ H2 D = some (.dK acc) ∧ KvD K Si acc ac ∧ ac.length ≤ i ∧ plainAt vs li = true ∧ lcD vs gg t k0 e0 (ds.drop i) ac li gi = some (d, l', g'),
    ⟨ds.length, by simp, Nat.zero_le _, l1, g1, S1, r1, A1, [], [], h1.grow gD, Mv.grow gD, fun z => hDt (tr_upd z), h1.hs.free hD, upd_same, .nil, Nat.le_refl _, hpl, e⟩, ?_⟩
  rintro i m H2 ⟨rfl, hle, li, gi, Si, ri, Ai, acc, ac, hst, mi, hDi, sDi, hacc, hdacc, hal, hpi, hrun⟩
  by_cases hlt : i < ds.length
  · have mw := m1.trans mi
    refine .inr ⟨w.go i H2 hlt (mi.s.trans hst.hs), fun H3 => i + 1 ≤ ds.length ∧ ∃ li gi Si ri Ai acc ac, StOk K li gi s H3 Si ri Ai ∧ Mv K S1 H1 r1 A1 Si H3 ri Ai ∧ ¬ tr Si H3 Ai ri D ∧ Si D = none ∧ H3 D = some (.dK acc) ∧ KvD K Si acc ac ∧ ac.length ≤ i + 1 ∧ plainAt vs li = true ∧ lcD vs gg t k0 e0 (ds.drop (i + 1)) ac li gi = some (d, l', g'), fun H3 ⟨q1, q2⟩ => ⟨ds.length - (i + 1), by omega, rfl, q1, q2⟩, fun x H3 y => ?_⟩
    have hdi : ds[i]? = some ds[i] := List.getElem?_eq_getElem hlt
    obtain ⟨S3, g3, d3⟩ := w.yld i H2 x H3 ds[i] Si hdi mi.s hst.hs y
    have h3 := hst.grow g3
    have hdrop : ds.drop i = ds[i] :: ds.drop (i + 1) := List.drop_eq_getElem_cons hlt
    rw [hdrop] at hrun
    obtain ⟨lb, b, l2, g2, k1, k2, k3⟩ := lcD_step hrun
    have sD3 : S3 D = none := g3.n D sDi (some_ne hacc)
    have hD3 : H3 D = some (.dK acc) := g3.all D _ hacc
    have bnd := hb _ _ _ _ _ _ _ _ _ x (fun s4 H4 => ∃ S4 A4, Mv K S3 H3 ri (cutA Ai vs) S4 H4 ri A4 ∧ StOk K lb gi s4 H4 S4 ri A4) k1 (h3.wipe (vs := vs)) d3 fun s4 H4 S4 A4 m4 h4 => ⟨S4, A4, m4, h4⟩
    refine hm _ _ _ _ _ ?_ (hg x (wipe s vs) H3 _ bnd)
    rintro s4 H4 ⟨hw, S4, A4, m4, h4⟩
    have hw' : wipe s4 vs = wipe s vs := by
      rw [hw]
      apply List.ext_getElem?
      intro j
      rw [wipe_get, wipe_get, wipe_length]
      by_cases hj : j ∈ vs
      · rw [if_pos hj, if_pos hj]
      · rw [if_neg hj, if_neg hj]
    refine ⟨hw', ?_⟩
    have hDc : ¬ tr S3 H3 (cutA Ai vs) ri D := fun z => (tr_back (trcut z) g3.s fun o e => .inr (g3.all _ o e)).elim hDi (some_ne hacc)
    have sD4 : S4 D = none := m4.n D sD3 (some_ne hD3) hDc
    have hD4 : H4 D = some (.dK acc) := m4.k D _ hDc hD3
    have hD4t : ¬ tr S4 H4 A4 ri D := fun z => (m4.f D z).elim hDc (some_ne hD3)
    have mc : Mv K Si H2 ri Ai S4 H4 ri A4 := by
      have := (Mv.grow (r := ri) (A := Ai) g3).trans (Mv.trans (A1 := cutA Ai vs) (A2 := A4) (r1 := ri) (r2 := ri) ⟨Same.refl S3, h3.hs, fun _ e _ _ => e, fun _ _ _ e => e, fun _ e => e, ⟨[], by simp⟩, fun a z => .inl (trcut z), tKeep⟩ m4)
      exact this
    have hlen4 : lb.length = li.length := by
      have e1 := h4.ls
      have e2 := hst.ls
      have e3 := congrArg List.length hw'
      rw [wipe_length, wipe_length] at e3
      omega
    refine ht _ _ _ _ _ s4 H4 S4 ri A4 k2 h4 _ fun H5 S5 r5 A5 m5 h5 => ?_
    have sD5 : S5 D = none := m5.n D sD4 (some_ne hD4) hD4t
    have hD5 : H5 D = some (.dK acc) := m5.k D _ hD4t hD4
    have hD5t : ¬ tr S5 H5 A5 r5 D := fun z => (m5.f D z).elim hD4t (some_ne hD4)
    have hlen5 : l2.length = li.length := by
      have e1 := h5.ls
      have e2 := h4.ls
      omega
    rcases k3 with ⟨rfl, y2, l3, g3', z2, l4, g4', kk, k4, k5, k6, k7⟩ | ⟨rfl, k4⟩
    · rw [if_pos rfl]
      cases keyO_some k6
      refine hk _ _ _ _ _ s4 H5 S5 r5 A5 k4 h5 _ fun v55 H55 S55 r55 A55 m55 h55 d55 => ?_
      have sD55 : S55 D = none := m55.n D sD5 (some_ne hD5) hD5t
      have hD55 : H55 D = some (.dK acc) := m55.k D _ hD5t hD5
      have hD55t : ¬ tr S55 H55 A55 r55 D := fun z => (m55.f D z).elim hD5t (some_ne hD5)
      refine he _ _ _ _ _ s4 H55 S55 r55 A55 k5 h55 _ fun v6 H6 S6 r6 A6 m6 h6 d6 => ?_
      have sD6 : S6 D = none := m6.n D sD55 (some_ne hD55) hD55t
      have hD6 : H6 D = some (.dK acc) := m6.k D _ hD55t hD55
      have hD6t : ¬ tr S6 H6 A6 r6 D := fun z => (m6.f D z).elim hD55t (some_ne hD55)
      have hlen6 : l4.length = li.length := by
        have e1 := h6.ls
        have e2 := h4.ls
        omega
      have mall := ((mc.trans m5).trans m55).trans m6
      have hb6 := hst.back hpi h6 hw' hlen6 mall.s mall.p
      have hl := hdacc.len
      have hDcut : ¬ tr S6 H6 (cutA A6 vs) r6 D := fun z => hD6t (trcut z)
      have hput : StOk K (backV li l4 vs) g4' s (upd H6 D (.dK (putK acc kk v6))) S6 r6 (cutA A6 vs) := by
        refine hb6.move (Same.refl S6) (fun b z e => ?_) (fun b hb => ⟨(hb6.thereA hb).2, fun u e => ?_⟩) ⟨[], by simp⟩ hb6.rn hb6.dr hb6.lg (fun j b o e1 e2 => ?_) (hb6.tb.go (Same.refl S6) (fun b hb => (hb6.tb.there hb).2) fun b u hb e => by rw [upd_ne fun z => hDcut (.inr (.inr (by rw [← z]; exact hb)))]; exact e)
        · rw [upd_ne (ne_of_none e sD6)]; exact hb6.hs b z e
        · rw [upd_ne fun z => hDcut (.inl (by rw [← z]; exact hb))]; exact e
        · obtain ⟨p1, p2⟩ := hb6.st j b o e1 e2
          exact ⟨p1, p2.go (Same.refl S6) (.upd (fun z => hDcut (.inr (.inl (by rw [← z]; exact List.mem_of_getElem? e1)))) hD6 (fun _ z => nomatch z)) ⟨[], by simp⟩⟩
      have mnew : Mv K S1 H1 r1 A1 S6 (upd H6 D (.dK (putK acc kk v6))) r6 (cutA A6 vs) := by
        have mm := mi.trans mall
        refine ⟨mm.s, hput.hs, mm.n, fun b o hb e => ?_, fun b e => ?_, mm.p, fun b z => mm.f b (trcut (tr_upd z)), fun a e => tUpd (fun ps z => by rw [hD6] at z; cases z) a (mm.t a e)⟩
        · have hbD : b ≠ D := fun z => by rw [z, hD] at e; cases e
          rw [upd_ne hbD]; exact mm.k b o hb e
        · by_cases hbD : b = D
          · subst hbD; rw [upd_same]; exact fun z => nomatch z
          · rw [upd_ne hbD]; exact mm.d b e
      have hpl2 := putG_len (kvs := ac) (k := kk) (v := z2)
      exact ⟨acc, kk, key_dp d55, hD6, szt (by omega), hlt, backV li l4 vs, g4', S6, r6, cutA A6 vs, _, putG ac kk z2, hput, mnew, fun z => hDcut (tr_upd z), sD6, upd_same, (hdacc.mono mall.s).put d6, by omega, plain_back hpi hlen6, k7⟩
    · rw [if_neg Bool.false_ne_true]
      have mall := mc.trans m5
      have hb5 := hst.back hpi h5 hw' hlen5 mall.s mall.p
      exact ⟨hlt, backV li l2 vs, g2, S5, r5, cutA A5 vs, acc, ac, hb5, (mi.trans mall).cut, fun z => hD5t (trcut z), sD5, hD5, hdacc.mono mall.s, by omega, plain_back hpi hlen5, k4⟩
  · have ei : i = ds.length := by omega
    subst ei
    rw [List.drop_length] at hrun
    obtain ⟨rfl, rfl, rfl⟩ := mp_some hrun
    have mw := m1.trans mi
    exact .inl ⟨w.stop H2 (mi.s.trans hst.hs), q D acc H2 Si ri Ai mw hst hDH hDi sDi hacc hdacc⟩
end
inductive NAll (K : Kx) (S H : Hp) (r : List Addr) : List V → List Vl → List (Option Addr) → Prop
  | nil : NAll K S H r [] [] []
  | cons {v : V} {x : Vl} {o : Option Addr} {vs : List V} {xs : List Vl} {os : List (Option Addr)} : SOk K S H r x o (some v) → NAll K S H r vs xs os → NAll K S H r (v :: vs) (x :: xs) (o :: os)
def Apart : List (Option Addr) → Prop := List.Pairwise fun o o' => ∀ a, o = some a → o' ≠ some a
def EvN (K : Kx) (ta : TA) (e : M (List Vl)) : Prop := ∀ l g xs l' g' s H S r A, e l g = some (xs, l', g') → StOk K l g s H S r A → ∀ Q : List V → Hp → Prop,
  (∀ vs os H' S' r' A', Mv K S H r A S' H' r' A' → StOk K l' g' s H' S' r' A' → NAll K S' H' r' vs xs os → (∀ a, some a ∈ os → ¬ tr S' H' A' r' a ∧ H a = none) → Apart os → Q vs H') → ta s H Q
theorem NAll.go {K : Kx} {S H S1 H1 : Hp} {r r1 : List Addr} {vs : List V} {xs : List Vl} {os : List (Option Addr)} (h : NAll K S H r vs xs os) (hs : Same S S1) (hk : ∀ a, some a ∈ os → S1 a = none ∧ ∀ u, H a = some u → H1 a = some u) (hr : ∃ q, r1 = r ++ q) : NAll K S1 H1 r1 vs xs os := by
  induction h with
  | nil => exact .nil
  | cons h1 _ ih => exact .cons (h1.go hs (fun a ea => hk a (by rw [ea]; exact List.mem_cons_self)) hr) (ih fun a ha => hk a (List.mem_cons_of_mem _ ha))
def uNil : M (List Vl) := mp []
def uD (a : M PyData) (m : M (List Vl)) : M (List Vl) := mb a fun x => mb m fun xs => mp (.dat x :: xs)
def uL (a : M (List PyData)) (m : M (List Vl)) : M (List Vl) := mb a fun x => mb m fun xs => mp (.own x :: xs)
def setsV : Lo → List Nat → List Vl → Lo
  | l, i :: is, x :: xs => setsV (l.set i x) is xs
  | l, _, _ => l
def xTup (is : List Nat) (m : M (List Vl)) : X := mb m fun xs => fun l g => if xs.length = is.length ∧ xs.length ≤ 4000000 then some (.nx, setsV l is xs, g) else none
def gNames : List Nat → TGs
  | [] => gNil
  | i :: is => gCons (gName i) (gNames is)
section
variable {K : Kx} {te : TE} {ta : TA} {m : M (List Vl)}
theorem u_nil : EvN K tNil uNil := fun l g d l' g' s H S r A e h Q q => by
  obtain ⟨rfl, rfl, rfl⟩ := mp_some e
  exact q [] [] H S r A (Mv.refl h.hs) h .nil (fun a ha => nomatch ha) .nil
theorem u_D {a : M PyData} (h1 : EvS K te a) (h2 : EvN K ta m) : EvN K (tCons te ta) (uD a m) := fun l g d l' g' s H S r A e h Q q => by
  replace e := mb_some e; obtain ⟨x, l1, g1, e1, e⟩ := e
  replace e := mb_some e; obtain ⟨xs, l2, g2, e2, e⟩ := e
  obtain ⟨rfl, rfl, rfl⟩ := mp_some e
  refine h1 _ _ _ _ _ s H S r A e1 h _ fun v H1 S1 r1 A1 m1 k1 d1 => h2 _ _ _ _ _ s H1 S1 r1 A1 e2 k1 _ fun vs os H2 S2 r2 A2 m2 k2 n2 f2 p2 => q _ (none :: os) H2 S2 r2 A2 (m1.trans m2) k2 (.cons ⟨rfl, v, rfl, Dp_mono d1 m2.s⟩ n2) (fun a ha => ?_) (.cons (fun o _ a z => nomatch z) p2)
  rcases List.mem_cons.mp ha with z | z
  · cases z
  · refine ⟨(f2 a z).1, ?_⟩
    cases hq : H a with
    | none => rfl
    | some u => exact absurd (f2 a z).2 (m1.d a (some_ne hq))
theorem u_new {Y : V → Hp → Hp → Prop} {l1 l2 : Lo} {g1 g2 : Sg} {s : L2.St} {H S H1 S1 : Hp} {r r1 : List Addr} {A A1 : List (Option Addr)} {x : Vl} {xs : List Vl} {p : Addr} {Q : List V → Hp → Prop} (h2 : EvN K ta m) (e2 : m l1 g1 = some (xs, l2, g2)) (m1 : Mv K S H r A S1 H1 r1 A1) (k1 : StOk K l1 g1 s H1 S1 r1 A1) (hp : H p = none) (ht : ¬ tr S1 H1 A1 r1 p) (ok : SOk K S1 H1 r1 x (some p) (some (.ref p)))
    (q : ∀ vs os H' S' r' A', Mv K S H r A S' H' r' A' → StOk K l2 g2 s H' S' r' A' → NAll K S' H' r' vs (x :: xs) os → (∀ a, some a ∈ os → ¬ tr S' H' A' r' a ∧ H a = none) → Apart os → Q vs H') : ta s H1 fun vs H' => Q (.ref p :: vs) H' := by
  obtain ⟨ex, sp⟩ := ok.there
  refine h2 _ _ _ _ _ s H1 S1 r1 A1 e2 k1 _ fun vs os H2 S2 r2 A2 m2 k2 n2 f2 p2 => q _ (some p :: os) H2 S2 r2 A2 (m1.trans m2) k2 (.cons (ok.go m2.s (fun a ea => ?_) m2.p) n2) (fun a ha => ?_) (.cons (fun o ho a z z2 => ?_) p2)
  · cases ea
    exact ⟨m2.n p sp ex ht, fun u hu => m2.k p u ht hu⟩
  · rcases List.mem_cons.mp ha with z | z
    · cases z
      exact ⟨fun z => (m2.f p z).elim ht ex, hp⟩
    · refine ⟨(f2 a z).1, ?_⟩
      cases hq : H a with
      | none => rfl
      | some u => exact absurd (f2 a z).2 (m1.d a (some_ne hq))
  · cases z
    subst z2
    exact ex (f2 p ho).2
theorem u_L {a : M (List PyData)} (h1 : EvL K te a) (h2 : EvN K ta m) : EvN K (tCons te ta) (uL a m) := fun l g d l' g' s H S r A e h Q q => by
  replace e := mb_some e; obtain ⟨x, l1, g1, e1, e⟩ := e
  replace e := mb_some e; obtain ⟨xs, l2, g2, e2, e⟩ := e
  obtain ⟨rfl, rfl, rfl⟩ := mp_some e
  exact h1 _ _ _ _ _ s H S r A e1 h _ fun p ys H1 S1 r1 A1 m1 k1 hp ht sp hx hd => u_new (x := .own x) (Y := fun _ _ _ => True) h2 e2 m1 k1 hp ht ⟨p, rfl, rfl, sp, ys, hx, hd⟩ q
theorem names_run {vs : List V} {xs : List Vl} {os : List (Option Addr)} {S0 H0 : Hp} {r0 : List Addr} {A0 : List (Option Addr)} {H S : Hp} {r : List Addr} {Q : L2.St → Hp → Prop} {g : Sg} (hn : NAll K S H r vs xs os) : ∀ {is : List Nat} {l : Lo} {s : L2.St} {A : List (Option Addr)}, xs.length = is.length → Mv K S0 H0 r0 A0 S H r A → StOk K l g s H S r A → (∀ a, some a ∈ os → ¬ tr S H A r a ∧ H0 a = none) → Apart os →
    (∀ s' A', Mv K S0 H0 r0 A0 S H r A' → StOk K (setsV l is xs) g s' H S r A' → Q s' H) → gNames is vs s H Q := by
  induction hn with
  | nil =>
    intro is l s A hl mv st hf hp q
    cases is with
    | nil => exact ⟨rfl, q s A mv st⟩
    | cons i is => cases hl
  | @cons v x o vs xs os h1 _ ih =>
    intro is l s A hl mv st hf hp q
    cases is with
    | nil => cases hl
    | cons i is =>
      refine ⟨_, _, rfl, ?_⟩
      show gNames is vs (s.set i (some v)) H Q
      cases hp with
      | cons hp1 hp2 =>
        cases o with
        | none => exact ih (by simpa using hl) mv.set (st.set h1) (fun a ha => ⟨fun z => (hf a (List.mem_cons_of_mem _ ha)).1 (trset z), (hf a (List.mem_cons_of_mem _ ha)).2⟩) hp2 q
        | some p =>
          have ev : v = .ref p := by
            cases x with
            | no => cases h1
            | dat d => cases h1.1
            | own ds => obtain ⟨a, e1, e2, _⟩ := h1; cases e1; cases e2; rfl
            | dct ds => obtain ⟨a, e1, e2, _⟩ := h1; cases e1; cases e2; rfl
            | dnk ds => obtain ⟨a, e1, e2, _⟩ := h1; cases e1; cases e2; rfl
            | ref j => cases h1.1
            | fn F => cases h1.1
            | xt ds => cases h1.1
            | os b ds => cases h1.1
          subst ev
          obtain ⟨f1, f2⟩ := hf p List.mem_cons_self
          refine ih (by simpa using hl) (mv.fresh f2) (st.fresh (fun z => f1 (.inl z)) (fun z => f1 (.inr (.inl z))) h1) (fun a ha => ⟨fun z => ?_, (hf a (List.mem_cons_of_mem _ ha)).2⟩) hp2 q
          rcases z with z | z
          · rcases List.mem_or_eq_of_mem_set z with z | z
            · exact (hf a (List.mem_cons_of_mem _ ha)).1 (.inl z)
            · cases z; exact hp1 _ ha _ rfl rfl
          · exact (hf a (List.mem_cons_of_mem _ ha)).1 (.inr z)
theorem NAll.len {S H : Hp} {r : List Addr} {vs : List V} {xs : List Vl} {os : List (Option Addr)} (h : NAll K S H r vs xs os) : vs.length = xs.length := by
  induction h with
  | nil => rfl
  | cons _ _ ih => simp [ih]
theorem x_tup {is : List Nat} {n : Nat} (ha : EvN K ta m) (hn : is.length = n) : ExS K (tAsg (tTup ta) (gTup K n (gNames is))) (xTup is m) := fun l g o l' g' s H S r A e h D q => by
  replace e := mb_some e; obtain ⟨xs, l1, g1, e1, e⟩ := e
  split at e
  case isFalse => cases e
  rename_i hz
  cases e
  refine ha _ _ _ _ _ s H S r A e1 h _ fun vs os H1 S1 r1 A1 m1 k1 n1 f1 p1 => ⟨szl (by rw [n1.len]; exact hz.2), fun p hp => ⟨p, vs, rfl, .inl (.inl upd_same), by rw [n1.len, hz.1, hn], ?_⟩⟩
  have gr : Grow m0 S1 H1 (upd S1 p (.tup vs)) (upd H1 p (.tup vs)) := Grow.new k1.hs hp
  have n2 := n1.go gr.s (fun a ha => by
    have key : ∀ {vs : List V} {xs : List Vl} {os : List (Option Addr)}, NAll K S1 H1 r1 vs xs os → some a ∈ os → H1 a ≠ none ∧ S1 a = none := by
      intro vs xs os h
      induction h with
      | nil => intro z; cases z
      | cons h1 _ ih =>
        intro z
        rcases List.mem_cons.mp z with z | z
        · subst z; exact h1.there
        · exact ih z
    obtain ⟨q1, q2⟩ := key n1 ha
    exact ⟨gr.n a q2 q1, fun u hu => gr.all a u hu⟩) (r1 := r1) ⟨[], by simp⟩
  exact names_run n2 hz.1 (m1.trans (Mv.grow gr)) (k1.grow gr) (fun a ha => ⟨fun z => (f1 a ha).1 (tr_upup z), (f1 a ha).2⟩) p1 fun s' A' m' h' => q s' _ _ _ _ m' h'
end
end Sm

namespace Sm
open PySem PySem.Spec PyProof.Rows L2 RZ SrtO Dz
section
variable {l l1 l2 l3 : Lo} {g g1 g2 g3 : Sg} {i j n : Nat} {a b c e : M PyData} {t : M Bool} {m : M (List PyData)} {w : M (List Vl)} {d d1 d2 d3 y x z : PyData} {ds es : List PyData} {p q : Bool} {kvs kvs0 : List (Key × PyData)} {k : Key} {vs : List Nat} {tg : G} {xs : List Vl}
theorem keyO_i {v : Int} : keyO (.int v) = some (.inl v) := rfl
theorem dcV_own (h : l[i]? = some (.dct kvs)) : dcV l g i = some kvs := by unfold dcV; rw [h]
theorem ptD_own (h : l[i]? = some (.dct kvs0)) : ptD l g i kvs = (l.set i (.dct kvs), g) := by unfold ptD; rw [h]
theorem mb_ev {α β : Type} {A : M α} {f : α → M β} {v : α} {r : Option (β × Lo × Sg)} (h : A l g = some (v, l1, g1)) (h2 : f v l1 g1 = r) : mb A f l g = r := by unfold mb; rw [h]; exact h2
theorem mg_ev {α : Type} {f : Lo → Sg → Option α} {v : α} (h : f l g = some v) : mg f l g = some (v, l, g) := by unfold mg; rw [h]
theorem eDget_ev (h0 : l[i]? = some (.dct kvs0)) (h1 : b l g = some (y, l1, g1)) (h2 : l1[i]? = some (.dct kvs)) (h3 : keyO y = some k) (h4 : valG kvs k = some d) : eDget i b l g = some (d, l1, g1) := by
  unfold eDget
  refine mb_ev (mg_ev (dcV_own h0)) (mb_ev h1 (mg_ev ?_))
  rw [dcV_own h2, Option.bind_some, h3, Option.bind_some, h4]
theorem eDnot_ev (h1 : a l g = some (y, l1, g1)) (h2 : l1[i]? = some (.dct kvs)) (h3 : keyO y = some k) : eDin true a i l g = some (.bool (!(valG kvs k).isSome), l1, g1) := by
  unfold eDin
  refine mb_ev h1 (mg_ev ?_)
  rw [dcV_own h2, Option.bind_some, h3]
  rfl
theorem bTruD_ev (h : l[i]? = some (.dct kvs)) : bTruD i l g = some (!kvs.isEmpty, l, g) := mg_ev (by rw [dcV_own h]; rfl)
theorem lKeys_ev (h : l[i]? = some (.dct kvs)) : lKeys i l g = some (kvs.map fun kv => keyD kv.1, l, g) := mg_ev (by rw [dcV_own h]; rfl)
theorem xAsgC_ev {q : M (List (Key × PyData))} (h : q l g = some (kvs, l1, g1)) : xAsgC i q l g = some (.nx, l1.set i (.dct kvs), g1) := mb_ev h rfl
theorem xDput_ev (h1 : a l g = some (x, l1, g1)) (h2 : l1[i]? = some (.dct kvs0)) (h3 : b l1 g1 = some (y, l2, g2)) (h4 : l2[i]? = some (.dct kvs)) (h5 : keyO y = some k) (hz : kvs.length < 4000000) : xDput i b a l g = some (.nx, l2.set i (.dct (putG kvs k x)), g2) := by
  unfold xDput
  refine mb_ev h1 (mb_ev (mg_ev (dcV_own h2)) (mb_ev h3 ?_))
  simp only [dcV_own h4, h5, if_pos hz, ptD_own h4]
theorem xDpop_ev (h2 : l[i]? = some (.dct kvs0)) (h3 : b l g = some (y, l2, g2)) (h4 : l2[i]? = some (.dct kvs)) (h5 : keyO y = some k) (hk : (valG kvs k).isSome = true) : xDpop i b l g = some (.nx, l2.set i (.dct (dropG kvs k)), g2) := by
  unfold xDpop
  refine mb_ev (mg_ev (dcV_own h2)) (mb_ev h3 ?_)
  simp only [dcV_own h4, h5, if_pos hk, ptD_own h4]
theorem set_back {x : Vl} (h : l[i]? = some x) {y : Vl} : (l.set i y).set i x = l := by
  rw [List.set_set]
  apply List.ext_getElem?
  intro m
  by_cases him : i = m
  · subst him
    rw [List.getElem?_set_self (List.getElem?_eq_some_iff.mp h).1, h]
  · rw [List.getElem?_set_ne him]
theorem xItems_ev (h : l[i]? = some (.dct kvs)) (hp : plainAt vs (l.set i .no) = true) (hz : kvs.length ≤ 4000000) (h1 : lcL vs tg t e (kvs.map pairD) (l.set i .no) g = some (ds, l.set i .no, g)) (hj : j < l.length) : xItems i j vs tg t e l g = some (.nx, l.set j (.dat (.list ds)), g) := by
  have hil := (List.getElem?_eq_some_iff.mp h).1
  unfold xItems
  simp only [h]
  rw [if_pos (by rw [hp, decide_eq_true hz]; rfl), h1]
  simp only [List.getElem?_set_self hil, List.length_set]
  rw [if_pos hj, set_back h]
theorem xTup_ev {is : List Nat} (h : w l g = some (xs, l1, g1)) (hl : xs.length = is.length) (hz : xs.length ≤ 4000000) : xTup is w l g = some (.nx, setsV l1 is xs, g1) := mb_ev h (if_pos ⟨hl, hz⟩)
theorem lDc_ev {kx : M PyData} (h : m l g = some (ds, l1, g1)) (hp : plainAt vs l1 = true) (hz : ds.length ≤ 4000000) (h2 : lcD vs tg t kx e ds [] l1 g1 = some (kvs, l2, g2)) : lDc vs m tg t kx e l g = some (kvs, l2, g2) := mb_ev h (by rw [if_pos (by rw [hp, decide_eq_true hz]; rfl)]; exact h2)
theorem fold_put {α : Type} {kf : α → Key} {f : α → PyData} : ∀ {xs : List α} {acc : List (Key × PyData)}, (xs.map kf).Nodup → (∀ x ∈ xs, ∀ kv ∈ acc, kv.1 ≠ kf x) → xs.foldl (fun acc d => putG acc (kf d) (f d)) acc = acc ++ xs.map fun x => (kf x, f x)
  | [], acc, _, _ => by simp
  | x :: xs, acc, hn, ha => by
    rw [List.map_cons, List.nodup_cons] at hn
    rw [List.foldl_cons, putG_new fun kv hkv => ha x List.mem_cons_self kv hkv, fold_put hn.2 fun y hy kv hkv => ?_]
    · simp
    · rcases List.mem_append.mp hkv with z | z
      · exact ha y (List.mem_cons_of_mem _ hy) kv z
      · rw [List.mem_singleton] at z
        subst z
        exact fun z => hn.1 (by have z : kf x = kf y := z; rw [z]; exact List.mem_map.mpr ⟨y, hy, rfl⟩)
end
end Sm

namespace Sm
open PySem PySem.Spec PyProof.Rows L2 RZ SrtO Dz
def iWipe (vs : List Nat) (it : M (List PyData)) : M (List PyData) := mb it fun ds => fun l g => some (ds, wipeV l vs, g)
def xKeep (vs : List Nat) (x : X) : X := mb x fun o => fun l g => some (o, wipeV l vs, g)
def xPre (vs : List Nat) (x : X) : X := fun l g => x (wipeV l vs) g
section
variable {K : Kx} {l : Lo} {g : Sg} {s : L2.St} {H S H1 S1 : Hp} {r r1 : List Addr} {A A1 : List (Option Addr)} {vs : List Nat}
theorem StOk.forget (h : StOk K l g s H S r A) : StOk K (wipeV l vs) g s H S r (cutA A vs) :=
  ⟨h.hs, by rw [cutA_len, wipeV_len]; exact h.la, by rw [wipeV_len]; exact h.ls, fun j x e => by
    rw [wipeV_get] at e
    rw [cutA_get]
    by_cases hj : j ∈ vs
    · rw [if_pos hj] at e ⊢
      split at e
      · rename_i hl
        cases e
        obtain ⟨o, v, e1, e2, e3⟩ := h.ok j _ (List.getElem?_eq_getElem hl)
        exact ⟨none, v, by rw [if_pos (by rw [h.la]; exact hl)], e2, rfl⟩
      · cases e
    · rw [if_neg hj] at e ⊢
      exact h.ok j x e, fun i j a e1 e2 => h.ij i j a (cutA_some e1) (cutA_some e2), fun a ha => h.dr a (cutA_mem ha), h.rn, h.lg, h.st, h.tb⟩
theorem s_iwipe {wi : TI} {it : M (List PyData)} (hi : EvI K wi it) : EvI K wi (iWipe vs it) := fun l g d l' g' s H S r A e h R q => by
  replace e := mb_some e; obtain ⟨ds, l1, g1, e1, e⟩ := e
  cases e
  exact hi _ _ _ _ _ s H S r A e1 h _ fun J H1 S1 r1 A1 m1 h1 w => q J H1 S1 r1 _ m1.cut h1.forget w
theorem x_keep {tu : TS} {x : X} (hx : ExS K tu x) : ExS K tu (xKeep vs x) := fun l g o l' g' s H S r A e h D q => by
  replace e := mb_some e; obtain ⟨o1, l1, g1, e1, e⟩ := e
  cases e
  exact hx _ _ _ _ _ s H S r A e1 h D fun s2 H2 S2 r2 A2 m2 h2 => q s2 H2 S2 r2 _ m2.cut h2.forget
theorem x_pre {tu : TS} {x : X} (hx : ExS K tu x) : ExS K tu (xPre vs x) := fun l g o l' g' s H S r A e h D q => by
  exact hx _ _ _ _ _ s H S r _ e (h.forget (vs := vs)) D fun s2 H2 S2 r2 A2 m2 h2 => q s2 H2 S2 r2 A2 (((Mv.refl h.hs).cut (vs := vs)).trans m2) h2
end
def Wp {α : Type} (m : M α) (l : Lo) (g : Sg) (Q : α → Lo → Sg → Prop) : Prop := ∃ a l' g', m l g = some (a, l', g') ∧ Q a l' g'
def Has {α : Type} (o : Option α) (Q : α → Prop) : Prop := ∃ a, o = some a ∧ Q a
def Br (p : Bool) (A B : Prop) : Prop := (p = true → A) ∧ (p = false → B)
def FOk (F : FS) (as : List Vl) (g : Sg) (Q : Vl → Sg → Prop) : Prop := ∃ v g', F as g = some (v, g') ∧ Q v g'
inductive SetR : Lo → Nat → Vl → Lo → Prop
  | z {x v : Vl} {l : Lo} : SetR (x :: l) 0 v (v :: l)
  | s {x v : Vl} {l l' : Lo} {i : Nat} (h : SetR l i v l') : SetR (x :: l) (i + 1) v (x :: l')
theorem SetR.eq {l l' : Lo} {i : Nat} {v : Vl} (h : SetR l i v l') : l' = l.set i v := by
  induction h with
  | z => rfl
  | s _ ih => rw [List.set_cons_succ, ih]
section
variable {α β : Type} {l l1 l2 l3 : Lo} {g g1 g2 g3 : Sg} {i j k : Nat} {p : Bool} {P R : Prop}
theorem br_T (h : p = true) (a : P) : Br p P R := ⟨fun _ => a, fun z => by rw [h] at z; cases z⟩
theorem br_F (h : p = false) (a : R) : Br p P R := ⟨fun z => by (rw [h] at z; cases z), fun _ => a⟩
theorem br_C (a : p = true → P) (b : p = false → R) : Br p P R := ⟨a, b⟩
section
variable {l l1 l2 l3 l4 l5 l6 : Lo} {g : Sg} {i j k m : Nat} {x y z u : PyData} {v vx vy vz vu : Vl} {ds es : List PyData} {kvs : List (Key × PyData)} {kk : Key} {n n' a b c d : Int}
theorem ex_set {Q : Lo → Prop} (h : SetR l i v l1) (q : Q l1) : ∃ l2, SetR l i v l2 ∧ Q l2 := ⟨l1, h, q⟩
theorem ex_rng {Q : Int → Prop} (h : n ≤ a ∧ b ≤ n) (q : Q n) : ∃ n', PyData.int n = .int n' ∧ (n' ≤ a ∧ b ≤ n') ∧ Q n' := ⟨n, rfl, h, q⟩
theorem ex_rng2 {Q : Int → Int → Prop} (h : n ≤ a ∧ b ≤ n) (h' : n' ≤ c ∧ d ≤ n') (q : Q n n') : ∃ m1 m2, PyData.int n = .int m1 ∧ PyData.int n' = .int m2 ∧ (m1 ≤ a ∧ b ≤ m1) ∧ (m2 ≤ c ∧ d ≤ m2) ∧ Q m1 m2 := ⟨n, n', rfl, rfl, h, h', q⟩
theorem ex_bool {p : Bool} {Q : Bool → Prop} (q : Q p) : ∃ p', PyData.bool p = .bool p' ∧ Q p' := ⟨p, rfl, q⟩
theorem ex_int {Q : Int → Prop} (q : Q n) : ∃ n', PyData.int n = .int n' ∧ Q n' := ⟨n, rfl, q⟩
theorem ex_dat {Q : PyData → Prop} (q : Q x) : ∃ y, Vl.dat x = .dat y ∧ Q y := ⟨x, rfl, q⟩
theorem ex_ix {Q : List PyData → Int → Prop} (h : lsV l g i = some es) (q : Q es n) : ∃ es' n', lsV l g i = some es' ∧ PyData.int n = .int n' ∧ Q es' n' := ⟨es, n, h, rfl, q⟩
theorem ex_key {Q : List (Key × PyData) → Key → Prop} (h : l[i]? = some (.dct kvs)) (h2 : keyO y = some kk) (q : Q kvs kk) : ∃ kvs' k', l[i]? = some (.dct kvs') ∧ keyO y = some k' ∧ Q kvs' k' := ⟨kvs, kk, h, h2, q⟩
theorem ex_app {Q : Lo → Prop} (h : l[i]? = some (.own ds)) (hz : ds.length < j) (hs : SetR l i (.own (ds ++ [x])) l1) (q : Q l1) : ∃ ds' l2, l[i]? = some (.own ds') ∧ ds'.length < j ∧ SetR l i (.own (ds' ++ [x])) l2 ∧ Q l2 := ⟨ds, l1, h, hz, hs, q⟩
theorem ex_dct {P : Prop} (h : l[i]? = some (.dct kvs)) (q : P) : (∃ es, l[i]? = some (.dct es)) ∧ P := ⟨⟨kvs, h⟩, q⟩
theorem ex_dput {Q : Lo → Prop} (h : l[i]? = some (.dct kvs)) (h2 : keyO y = some kk) (hz : kvs.length < j) (hs : SetR l i (.dct (putG kvs kk x)) l1) (q : Q l1) : ∃ kvs' k' l3, l[i]? = some (.dct kvs') ∧ keyO y = some k' ∧ kvs'.length < j ∧ SetR l i (.dct (putG kvs' k' x)) l3 ∧ Q l3 := ⟨kvs, kk, l1, h, h2, hz, hs, q⟩
theorem ex_dpop {Q : Lo → Prop} (h : l[i]? = some (.dct kvs)) (h2 : keyO y = some kk) (hz : (valG kvs kk).isSome = true) (hs : SetR l i (.dct (dropG kvs kk)) l1) (q : Q l1) : ∃ kvs' k' l3, l[i]? = some (.dct kvs') ∧ keyO y = some k' ∧ (valG kvs' k').isSome = true ∧ SetR l i (.dct (dropG kvs' k')) l3 ∧ Q l3 := ⟨kvs, kk, l1, h, h2, hz, hs, q⟩
theorem ex_par {Q : Lo → Prop} (h : SetR l i v l1) (h2 : SetR l1 j vx l2) (q : Q l2) : ∃ l3 l4, SetR l i v l3 ∧ SetR l3 j vx l4 ∧ Q l4 := ⟨l1, l2, h, h2, q⟩
theorem ex_tup2 {Q : Lo → Prop} (h : SetR l i vx l1) (h2 : SetR l1 j vy l2) (q : Q l2) : ∃ x' y' l3 l4, [vx, vy] = [x', y'] ∧ SetR l i x' l3 ∧ SetR l3 j y' l4 ∧ Q l4 := ⟨vx, vy, l1, l2, rfl, h, h2, q⟩
theorem ex_tup3 {Q : Lo → Prop} (h : SetR l i vx l1) (h2 : SetR l1 j vy l2) (h3 : SetR l2 k vz l3) (q : Q l3) : ∃ x' y' z' l3 l4 l5, [vx, vy, vz] = [x', y', z'] ∧ SetR l i x' l3 ∧ SetR l3 j y' l4 ∧ SetR l4 k z' l5 ∧ Q l5 := ⟨vx, vy, vz, l1, l2, l3, rfl, h, h2, h3, q⟩
theorem ex_kit {t T : String} {p : Bool} {Q : Bool → Prop} (h : kitB t T = some p) (q : Q p) : ∃ p', kitB t T = some p' ∧ Q p' := ⟨p, h, q⟩
theorem ex_chain {o : Option PyData} {p p' : Bool} {R : Bool → Prop} {Q : Bool → Bool → Prop} (h : o = some (.bool p)) (h2 : p = true → R p') (q : Q p p') : ∃ p1 p2, o = some (.bool p1) ∧ (p1 = true → R p2) ∧ Q p1 p2 := ⟨p, p', h, h2, q⟩
end
theorem ex_ls {l : Lo} {g : Sg} {i : Nat} {es : List PyData} {Q : List PyData → Prop} (h : lsV l g i = some es) (q : Q es) : ∃ es, lsV l g i = some es ∧ Q es := ⟨es, h, q⟩
theorem and_le {a b : Nat} (h : a ≤ b) (q : P) : a ≤ b ∧ P := ⟨h, q⟩
theorem and_bk {l0 l1 l2 : Lo} {vs : List Nat} (h : backV l0 l1 vs = l2) (q : P) : backV l0 l1 vs = l2 ∧ P := ⟨h, q⟩
theorem has_of {o : Option α} {a : α} {Q : α → Prop} (h : o = some a) (q : Q a) : Has o Q := ⟨a, h, q⟩
theorem fok_eq {F : FS} {as : List Vl} {v : Vl} {Q : Vl → Sg → Prop} (h : F as g = some (v, g1)) (q : Q v g1) : FOk F as g Q := ⟨v, g1, h, q⟩
theorem fok_is {F : FS} {as : List Vl} {v : Vl} (h : FOk F as g fun v' g' => v' = v ∧ g' = g1) : F as g = some (v, g1) := by
  obtain ⟨v', g', e, rfl, rfl⟩ := h
  exact e
theorem wp_eq {m : M α} {Q : α → Lo → Sg → Prop} {a : α} (h : m l g = some (a, l1, g1)) (q : Q a l1 g1) : Wp m l g Q := ⟨a, l1, g1, h, q⟩
theorem wp_is {m : M α} {a : α} (h : Wp m l g fun a' l' g' => a' = a ∧ l' = l1 ∧ g' = g1) : m l g = some (a, l1, g1) := by
  obtain ⟨a', l', g', e, rfl, rfl, rfl⟩ := h
  exact e
theorem wp_mono {m : M α} {Q Q' : α → Lo → Sg → Prop} (h : Wp m l g Q) (q : ∀ a l' g', Q a l' g' → Q' a l' g') : Wp m l g Q' := by
  obtain ⟨a, l', g', e, hq⟩ := h
  exact ⟨a, l', g', e, q a l' g' hq⟩
theorem wp_mb {m : M α} {f : α → M β} {Q : β → Lo → Sg → Prop} (h : Wp m l g fun a l1 g1 => Wp (f a) l1 g1 Q) : Wp (mb m f) l g Q := by
  obtain ⟨a, l1, g1, e, b, l2, g2, e2, q⟩ := h
  exact ⟨b, l2, g2, by unfold mb; rw [e]; exact e2, q⟩
theorem wp_mp {a : α} {Q : α → Lo → Sg → Prop} (q : Q a l g) : Wp (mp a) l g Q := ⟨a, l, g, rfl, q⟩
theorem wp_mo {o : Option α} {Q : α → Lo → Sg → Prop} (h : Has o fun a => Q a l g) : Wp (mo o) l g Q := by
  obtain ⟨a, e, q⟩ := h
  exact ⟨a, l, g, by unfold mo; rw [e], q⟩
theorem wp_mg {f : Lo → Sg → Option α} {Q : α → Lo → Sg → Prop} (h : Has (f l g) fun a => Q a l g) : Wp (mg f) l g Q := by
  obtain ⟨a, e, q⟩ := h
  exact ⟨a, l, g, mg_ev e, q⟩
variable {a b c e : M PyData} {t u v : M Bool} {m m' : M (List PyData)} {d : PyData} {ds : List PyData} {f f' : PyData → PyData → Option PyData}
section
variable {Q : PyData → Lo → Sg → Prop}
theorem wp_eVar (h : l[i]? = some (.dat d)) (q : Q d l g) : Wp (eVar i) l g Q := wp_eq (eVar_ev h) q
theorem wp_eC (q : Q d l g) : Wp (eC d) l g Q := wp_eq eC_ev q
theorem wp_eOp (h : Wp a l g fun x l1 g1 => Wp b l1 g1 fun y l2 g2 => Has (f x y) fun z => Q z l2 g2) : Wp (eOp f a b) l g Q := wp_mb (wp_mono h fun _ _ _ h => wp_mb (wp_mono h fun _ _ _ h => wp_mo h))
theorem wp_eUn {f : PyData → Option PyData} (h : Wp a l g fun x l1 g1 => Has (f x) fun z => Q z l1 g1) : Wp (eUn f a) l g Q := wp_mb (wp_mono h fun _ _ _ h => wp_mo h)
theorem wp_eCB {f : List PyData → Option PyData} (h : Wp m l g fun x l1 g1 => Has (f x) fun z => Q z l1 g1) : Wp (eCB f m) l g Q := wp_mb (wp_mono h fun _ _ _ h => wp_mo h)
theorem wp_eTup (h : Wp m l g fun xs l1 g1 => xs.length ≤ 4000000 ∧ Q (.tuple xs) l1 g1) : Wp (eTup m) l g Q := wp_mb (wp_mono h fun _ _ _ h => wp_mo ⟨_, if_pos h.1, h.2⟩)
theorem wp_eL (h : Wp m l g fun xs l1 g1 => Q (.list xs) l1 g1) : Wp (eL m) l g Q := wp_mb (wp_mono h fun _ _ _ h => wp_mp h)
theorem wp_ite {A B : M α} {Q : α → Lo → Sg → Prop} (h : Br p (Wp A l g Q) (Wp B l g Q)) : Wp (if p = true then A else B) l g Q := by
  cases p with
  | true => rw [if_pos rfl]; exact h.1 rfl
  | false => rw [if_neg Bool.false_ne_true]; exact h.2 rfl
theorem wp_eIf (h : Wp t l g fun p l1 g1 => Br p (Wp a l1 g1 Q) (Wp b l1 g1 Q)) : Wp (eIf t a b) l g Q := wp_mb (wp_mono h fun _ _ _ h => wp_ite h)
theorem wp_eAnd (h : Wp a l g fun x l1 g1 => Has (truO x) fun p => Br p (Wp b l1 g1 Q) (Q x l1 g1)) : Wp (eAnd a b) l g Q := wp_mb (wp_mono h fun _ _ _ h => wp_mb (wp_mo (h.imp fun _ h => ⟨h.1, wp_ite ⟨h.2.1, fun z => wp_mp (h.2.2 z)⟩⟩)))
theorem wp_eOr (h : Wp a l g fun x l1 g1 => Has (truO x) fun p => Br p (Q x l1 g1) (Wp b l1 g1 Q)) : Wp (eOr a b) l g Q := wp_mb (wp_mono h fun _ _ _ h => wp_mb (wp_mo (h.imp fun _ h => ⟨h.1, wp_ite ⟨fun z => wp_mp (h.2.1 z), h.2.2⟩⟩)))
theorem wp_eAndB (h : Wp a l g fun x l1 g1 => ∃ p q, x = .bool p ∧ (p = true → Wp b l1 g1 fun y l2 g2 => y = .bool q ∧ l2 = l1 ∧ g2 = g1) ∧ Q (.bool (p && q)) l1 g1) : Wp (eAnd a b) l g Q := by
  obtain ⟨x, l1, g1, e, p, q, rfl, h, hq⟩ := h
  exact ⟨_, l1, g1, eAnd_B e fun z => wp_is (h z), hq⟩
theorem wp_eNot (h : Wp a l g fun x l1 g1 => Has (truO x) fun p => Q (.bool (!p)) l1 g1) : Wp (eNot a) l g Q := by
  obtain ⟨x, l1, g1, e, p, hp, q⟩ := h
  exact ⟨_, l1, g1, eNot_ev e hp, q⟩
theorem wp_eIsN (h : Wp a l g fun x l1 g1 => Q (.bool (isN x)) l1 g1) : Wp (eIsN a) l g Q := wp_mb (wp_mono h fun _ _ _ h => wp_mp h)
theorem wp_eNotN (h : Wp a l g fun x l1 g1 => Q (.bool (!isN x)) l1 g1) : Wp (eNotN a) l g Q := wp_mb (wp_mono h fun _ _ _ h => wp_mp h)
theorem wp_eChain (h : Wp a l g fun x l1 g1 => Wp b l1 g1 fun y l2 g2 => ∃ p q, f x y = some (.bool p) ∧ (p = true → Wp c l2 g2 fun w l3 g3 => l3 = l2 ∧ g3 = g2 ∧ f' y w = some (.bool q)) ∧ Q (.bool (p && q)) l2 g2) : Wp (eChain f f' a b c) l g Q := by
  refine wp_mb (wp_mono h fun x l1 g1 h => wp_mb (wp_mono h fun y l2 g2 h => ?_))
  obtain ⟨p, q, e, h, hq⟩ := h
  refine wp_mb (wp_mo ⟨p, by rw [e]; rfl, ?_⟩)
  cases p with
  | true =>
    rw [if_pos rfl]
    refine wp_mb (wp_mono (h rfl) fun w l3 g3 h => ?_)
    obtain ⟨rfl, rfl, e2⟩ := h
    exact wp_mo ⟨_, e2, hq⟩
  | false =>
    rw [if_neg Bool.false_ne_true]
    exact wp_mp hq
theorem wp_eSl {lo hi : M (Option Int)} (h : Wp a l g fun x l1 g1 => Wp lo l1 g1 fun i l2 g2 => Wp hi l2 g2 fun j l3 g3 => Has (slD x i j) fun z => Q z l3 g3) : Wp (eSl a lo hi) l g Q := wp_mb (wp_mono h fun _ _ _ h => wp_mb (wp_mono h fun _ _ _ h => wp_mb (wp_mono h fun _ _ _ h => wp_mo h)))
theorem wp_eIxV (h0 : lsV l g i = some ds) (h : Wp b l g fun y l1 g1 => ∃ es n, lsV l1 g1 i = some es ∧ y = .int n ∧ Has (atI es n) fun z => Q z l1 g1) : Wp (eIxV i b) l g Q := by
  obtain ⟨y, l1, g1, e, es, n, h1, rfl, z, hz, q⟩ := h
  exact ⟨z, l1, g1, eIxV_ev h0 e h1 hz, q⟩
theorem wp_eLenV (h : lsV l g i = some ds) (q : Q (.int ds.length) l g) : Wp (eLenV i) l g Q := wp_eq (eLenV_ev h) q
theorem wp_eTupleV (h : lsV l g i = some ds) (q : Q (.tuple ds) l g) : Wp (eTupleV i) l g Q := wp_eq (eTupleV_ev h) q
theorem wp_ePopO (h : l[i]? = some (.own ds)) (h2 : ds[ds.length - 1]? = some d) (hs : SetR l i (.own ds.dropLast) l1) (q : Q d l1 g) : Wp (ePop i) l g Q := by
  have e : lsM l g i = some ds := by unfold lsM; rw [h]
  have e2 : ptV l g i ds.dropLast = (l.set i (.own ds.dropLast), g) := by unfold ptV; rw [h]
  refine ⟨d, l1, g, ?_, q⟩
  rw [hs.eq, ePop_ev e h2, e2]
theorem wp_eDget (h0 : ∃ kvs, l[i]? = some (.dct kvs)) (h : Wp b l g fun y l1 g1 => ∃ kvs k, l1[i]? = some (.dct kvs) ∧ keyO y = some k ∧ Has (valG kvs k) fun z => Q z l1 g1) : Wp (eDget i b) l g Q := by
  obtain ⟨kv0, h0⟩ := h0
  obtain ⟨y, l1, g1, e, kvs, k, h1, h2, z, hz, q⟩ := h
  exact ⟨z, l1, g1, eDget_ev h0 e h1 h2 hz, q⟩
theorem wp_eDnot (h : Wp a l g fun y l1 g1 => ∃ kvs k, l1[i]? = some (.dct kvs) ∧ keyO y = some k ∧ Q (.bool (!(valG kvs k).isSome)) l1 g1) : Wp (eDin true a i) l g Q := by
  obtain ⟨y, l1, g1, e, kvs, k, h1, h2, q⟩ := h
  exact ⟨_, l1, g1, eDnot_ev e h1 h2, q⟩
theorem wp_eIsi {T : String} (h : Wp a l g fun x l1 g1 => ∃ p, kitB (tyN x) T = some p ∧ Q (.bool p) l1 g1) : Wp (eIsi T a) l g Q := by
  obtain ⟨x, l1, g1, e, p, hp, q⟩ := h
  exact ⟨_, l1, g1, eIsi_ev e hp, q⟩
theorem wp_eCall {F : FS} {w : M (List Vl)} (h : Wp w l g fun xs l1 g1 => FOk F xs g1 fun v g2 => ∃ d, v = .dat d ∧ Q d l1 g2) : Wp (eCall F w) l g Q := by
  obtain ⟨xs, l1, g1, e, v, g2, e2, d, rfl, q⟩ := h
  exact ⟨d, l1, g2, eCall_ev e e2, q⟩
end
section
variable {Q : List Vl → Lo → Sg → Prop}
theorem wp_vNil (q : Q [] l g) : Wp vNil l g Q := wp_mp q
theorem wp_vE {w : M (List Vl)} (h : Wp a l g fun d l1 g1 => Wp w l1 g1 fun xs l2 g2 => Q (.dat d :: xs) l2 g2) : Wp (vCons (vE a) w) l g Q := wp_mb (wp_mb (wp_mono h fun _ _ _ h => wp_mp (wp_mb (wp_mono h fun _ _ _ h => wp_mp h))))
theorem wp_vR {w : M (List Vl)} (h0 : l[i]? = some (.ref j)) (h : Wp w l g fun xs l2 g2 => Q (.ref j :: xs) l2 g2) : Wp (vCons (vR i) w) l g Q := by
  obtain ⟨xs, l2, g2, e, q⟩ := h
  exact ⟨_, l2, g2, vCons_ev (vR_ev h0) e, q⟩
end
section
variable {Q : List PyData → Lo → Sg → Prop}
theorem wp_aNil (q : Q [] l g) : Wp aNil l g Q := wp_mp q
theorem wp_aCons (h : Wp a l g fun x l1 g1 => Wp m l1 g1 fun xs l2 g2 => Q (x :: xs) l2 g2) : Wp (aCons a m) l g Q := wp_mb (wp_mono h fun _ _ _ h => wp_mb (wp_mono h fun _ _ _ h => wp_mp h))
theorem wp_lLst (h : Wp m l g fun xs l1 g1 => xs.length ≤ 4000000 ∧ Q xs l1 g1) : Wp (lLst m) l g Q := wp_mb (wp_mono h fun _ _ _ h => wp_mo ⟨_, if_pos h.1, h.2⟩)
theorem wp_iSq (h : Wp a l g fun x l1 g1 => Has (seqD x) fun ds => Q ds l1 g1) : Wp (iSq a) l g Q := wp_mb (wp_mono h fun _ _ _ h => wp_mo h)
theorem wp_iRg1 (h : Wp a l g fun x l1 g1 => ∃ n, x = .int n ∧ (n ≤ 4000000 ∧ -4000000 ≤ n) ∧ Q (rng 0 n.toNat) l1 g1) : Wp (iRg1 a) l g Q := by
  obtain ⟨x, l1, g1, e, n, rfl, hn, q⟩ := h
  exact ⟨_, l1, g1, iRg1_ev e hn, q⟩
theorem wp_iRg2 (h : Wp a l g fun x l1 g1 => Wp b l1 g1 fun y l2 g2 => ∃ m n, x = .int m ∧ y = .int n ∧ (m ≤ 4000000 ∧ -4000000 ≤ m) ∧ (n ≤ 4000000 ∧ -4000000 ≤ n) ∧ Q (rng m (n - m).toNat) l2 g2) : Wp (iRg2 a b) l g Q := by
  obtain ⟨x, l1, g1, e, y, l2, g2, e2, m, n, rfl, rfl, hm, hn, q⟩ := h
  exact ⟨_, l2, g2, iRg2_ev e e2 hm hn, q⟩
theorem wp_lKeys {kvs : List (Key × PyData)} (h : l[i]? = some (.dct kvs)) (q : Q (kvs.map fun kv => keyD kv.1) l g) : Wp (lKeys i) l g Q := wp_eq (lKeys_ev h) q
theorem wp_iWipe {vs : List Nat} (h : Wp m l g fun ds l1 g1 => Q ds (wipeV l1 vs) g1) : Wp (iWipe vs m) l g Q := by
  obtain ⟨ds, l1, g1, e, q⟩ := h
  exact ⟨ds, wipeV l1 vs, g1, by unfold iWipe mb; rw [e], q⟩
def LcW (vs : List Nat) (tg : G) (t : M Bool) (e : M PyData) (ds : List PyData) (l : Lo) (g : Sg) (Q : List PyData → Lo → Sg → Prop) : Prop := ∃ es l' g', lcO vs tg t e ds l g = some (es, l', g') ∧ Q es l' g'
theorem wp_lLc {vs : List Nat} {tg : G} (h : Wp m l g fun ds l1 g1 => LcW vs tg t e ds l1 g1 Q) : Wp (lLc vs m tg t e) l g Q := by
  obtain ⟨ds, l1, g1, e1, es, l2, g2, e2, q⟩ := h
  exact ⟨es, l2, g2, lLc_ev e1 e2, q⟩
end
section
variable {Q : Bool → Lo → Sg → Prop}
theorem wp_bYes (q : Q true l g) : Wp bYes l g Q := wp_mp q
theorem wp_bTest (h : Wp a l g fun x l1 g1 => ∃ p, x = .bool p ∧ Q p l1 g1) : Wp (bTest a) l g Q := by
  obtain ⟨x, l1, g1, e, p, rfl, q⟩ := h
  exact ⟨p, l1, g1, bTest_ev e, q⟩
theorem wp_bTru (h : Wp a l g fun x l1 g1 => Has (truO x) fun p => Q p l1 g1) : Wp (bTru a) l g Q := wp_mb (wp_mono h fun _ _ _ h => wp_mo h)
theorem wp_bTruV (h : lsV l g i = some ds) (q : Q (!ds.isEmpty) l g) : Wp (bTruV i) l g Q := wp_eq (bTruV_ev h) q
theorem wp_bTruD {kvs : List (Key × PyData)} (h : l[i]? = some (.dct kvs)) (q : Q (!kvs.isEmpty) l g) : Wp (bTruD i) l g Q := wp_eq (bTruD_ev h) q
theorem wp_bNot (h : Wp t l g fun p l1 g1 => Q (!p) l1 g1) : Wp (bNot t) l g Q := wp_mb (wp_mono h fun _ _ _ h => wp_mp h)
theorem wp_bAnd (h : Wp t l g fun p l1 g1 => Br p (Wp u l1 g1 Q) (Q false l1 g1)) : Wp (bAnd t u) l g Q := wp_mb (wp_mono h fun _ _ _ h => wp_ite ⟨h.1, fun z => wp_mp (h.2 z)⟩)
theorem wp_bOr (h : Wp t l g fun p l1 g1 => Br p (Q true l1 g1) (Wp u l1 g1 Q)) : Wp (bOr t u) l g Q := wp_mb (wp_mono h fun _ _ _ h => wp_ite ⟨fun z => wp_mp (h.1 z), h.2⟩)
end
section
variable {Q : Option Int → Lo → Sg → Prop}
theorem wp_oNone (q : Q none l g) : Wp oNone l g Q := wp_mp q
theorem wp_oSome (h : Wp a l g fun x l1 g1 => ∃ n, x = .int n ∧ Q (some n) l1 g1) : Wp (oSome a) l g Q := by
  obtain ⟨x, l1, g1, e, n, rfl, q⟩ := h
  exact ⟨_, l1, g1, oSome_ev e, q⟩
end
section
variable {Q : List (Key × PyData) → Lo → Sg → Prop}
theorem wp_lDnew (q : Q [] l g) : Wp lDnew l g Q := wp_mp q
def DcW (vs : List Nat) (tg : G) (t : M Bool) (k e : M PyData) (ds : List PyData) (l : Lo) (g : Sg) (Q : List (Key × PyData) → Lo → Sg → Prop) : Prop := plainAt vs l = true ∧ ds.length ≤ 4000000 ∧ ∃ es l' g', lcD vs tg t k e ds [] l g = some (es, l', g') ∧ Q es l' g'
theorem wp_lDc {vs : List Nat} {tg : G} {k : M PyData} (h : Wp m l g fun ds l1 g1 => DcW vs tg t k e ds l1 g1 Q) : Wp (lDc vs m tg t k e) l g Q := by
  obtain ⟨ds, l1, g1, e1, h1, h2, es, l2, g2, e2, q⟩ := h
  exact ⟨es, l2, g2, lDc_ev e1 h1 h2 e2, q⟩
end
def seqK (B : X) (Q : Out → Lo → Sg → Prop) : Out → Lo → Sg → Prop
  | .nx, l, g => Wp B l g Q
  | o, l, g => Q o l g
def retK (Q : Vl → Sg → Prop) : Out → Lo → Sg → Prop
  | .ret v, _, g => Q v g
  | .nx, _, g => Q (.dat .none) g
  | _, _, _ => False
def bodyK (N : Lo → Sg → Prop) (Q : Out → Lo → Sg → Prop) : Out → Lo → Sg → Prop
  | .nx, l, g => N l g
  | .ct, l, g => N l g
  | .bk, l, g => Q .nx l g
  | .ret v, l, g => Q (.ret v) l g
section
variable {Q : Out → Lo → Sg → Prop} {A B : Sm.X} {o : Out} {N : Lo → Sg → Prop} {w : Vl}
theorem seqK_nx (h : Wp B l g Q) : seqK B Q .nx l g := h
theorem seqK_ret (h : Q (.ret w) l g) : seqK B Q (.ret w) l g := h
theorem retK_ret {Q : Vl → Sg → Prop} (h : Q w g) : retK Q (.ret w) l g := h
theorem bodyK_nx (h : N l g) : bodyK N Q .nx l g := h
theorem bodyK_ret (h : Q (.ret w) l g) : bodyK N Q (.ret w) l g := h
theorem wp_seq (h : Wp A l g (seqK B Q)) : Wp (xSeq A B) l g Q := by
  refine wp_mb (wp_mono h fun o l1 g1 h => ?_)
  cases o with
  | nx => exact h
  | bk => exact wp_mp h
  | ct => exact wp_mp h
  | ret w => exact wp_mp h
theorem wp_next (h : Q .nx l g) : Wp xNext l g Q := wp_mp h
theorem wp_asg (h : Wp e l g fun d l1 g1 => ∃ l2, SetR l1 i (.dat d) l2 ∧ Q .nx l2 g1) : Wp (xAsg i e) l g Q := by
  obtain ⟨d, l1, g1, e1, l2, hs, q⟩ := h
  exact ⟨_, l2, g1, by rw [hs.eq]; exact xAsg_ev e1, q⟩
theorem wp_asgG {G : G} (h : Wp e l g fun d l1 g1 => Has (G d l1) fun l2 => Q .nx l2 g1) : Wp (xAsgG G e) l g Q := by
  obtain ⟨d, l1, g1, e1, l2, hs, q⟩ := h
  exact ⟨_, l2, g1, xAsgG_ev e1 hs, q⟩
theorem wp_asgL (h : Wp m l g fun ds l1 g1 => ∃ l2, SetR l1 i (.own ds) l2 ∧ Q .nx l2 g1) : Wp (xAsgL i m) l g Q := by
  obtain ⟨d, l1, g1, e1, l2, hs, q⟩ := h
  exact ⟨_, l2, g1, by rw [hs.eq]; exact xAsgL_ev e1, q⟩
theorem wp_asgC {z : M (List (Key × PyData))} (h : Wp z l g fun ds l1 g1 => ∃ l2, SetR l1 i (.dct ds) l2 ∧ Q .nx l2 g1) : Wp (xAsgC i z) l g Q := by
  obtain ⟨d, l1, g1, e1, l2, hs, q⟩ := h
  exact ⟨_, l2, g1, by rw [hs.eq]; exact xAsgC_ev e1, q⟩
theorem wp_newL (h : Wp m l g fun ds l1 g1 => ∃ l2, SetR l1 i (.ref g1.length) l2 ∧ Q .nx l2 (g1 ++ [.lst ds])) : Wp (xNewL i m) l g Q := by
  obtain ⟨d, l1, g1, e1, l2, hs, q⟩ := h
  exact ⟨_, l2, _, by rw [hs.eq]; exact xNewL_ev e1, q⟩
theorem wp_if (h : Wp t l g fun p l1 g1 => Br p (Wp A l1 g1 Q) (Wp B l1 g1 Q)) : Wp (xIf t A B) l g Q := wp_mb (wp_mono h fun _ _ _ h => wp_ite h)
theorem wp_ret (h : Wp e l g fun d l1 g1 => Q (.ret (.dat d)) l1 g1) : Wp (xRet e) l g Q := wp_mb (wp_mono h fun _ _ _ h => wp_mp h)
theorem wp_app (h0 : ∃ es, l[i]? = some (.own es)) (h : Wp e l g fun d l1 g1 => ∃ ds l2, l1[i]? = some (.own ds) ∧ ds.length < 4000000 ∧ SetR l1 i (.own (ds ++ [d])) l2 ∧ Q .nx l2 g1) : Wp (xApp i e) l g Q := by
  obtain ⟨es, h0⟩ := h0
  obtain ⟨d, l1, g1, e1, ds, l2, h1, hz, hs, q⟩ := h
  refine ⟨_, l2, g1, ?_, q⟩
  have a1 : lsM l g i = some es := by unfold lsM; rw [h0]
  have a2 : lsM l1 g1 i = some ds := by unfold lsM; rw [h1]
  have a3 : ptV l1 g1 i (ds ++ [d]) = (l1.set i (.own (ds ++ [d])), g1) := by unfold ptV; rw [h1]
  rw [hs.eq, xApp_ev a1 e1 a2 hz, a3]
theorem wp_aug (h0 : l[i]? = some (.dat d)) (h : Wp e l g fun y l1 g1 => Has (f d y) fun z => ∃ l2, SetR l1 i (.dat z) l2 ∧ Q .nx l2 g1) : Wp (xAug i f e) l g Q := by
  obtain ⟨y, l1, g1, e1, z, hz, l2, hs, q⟩ := h
  exact ⟨_, l2, g1, by rw [hs.eq]; exact xAug_ev h0 e1 hz, q⟩
theorem wp_frzO (h0 : l[i]? = some (.own ds)) (hs : SetR l i (.dat (.list ds)) l1) (h : Wp A l1 g Q) : Wp (xFrz i A) l g Q := by
  obtain ⟨o, l2, g2, e, q⟩ := h
  exact ⟨o, l2, g2, xFrz_O h0 (by rw [← hs.eq]; exact e), q⟩
theorem wp_dput {bb : M PyData} (h : Wp a l g fun x l1 g1 => (∃ kvs, l1[i]? = some (.dct kvs)) ∧ Wp bb l1 g1 fun y l2 g2 => ∃ kvs k l3, l2[i]? = some (.dct kvs) ∧ keyO y = some k ∧ kvs.length < 4000000 ∧ SetR l2 i (.dct (putG kvs k x)) l3 ∧ Q .nx l3 g2) : Wp (xDput i bb a) l g Q := by
  obtain ⟨x, l1, g1, e1, ⟨kv0, h0⟩, y, l2, g2, e2, kvs, k, l3, h1, hk, hz, hs, q⟩ := h
  exact ⟨_, l3, g2, by rw [hs.eq]; exact xDput_ev e1 h0 e2 h1 hk hz, q⟩
theorem wp_dpop {bb : M PyData} (h0 : ∃ kvs, l[i]? = some (.dct kvs)) (h : Wp bb l g fun y l2 g2 => ∃ kvs k l3, l2[i]? = some (.dct kvs) ∧ keyO y = some k ∧ (valG kvs k).isSome = true ∧ SetR l2 i (.dct (dropG kvs k)) l3 ∧ Q .nx l3 g2) : Wp (xDpop i bb) l g Q := by
  obtain ⟨kv0, h0⟩ := h0
  obtain ⟨y, l2, g2, e2, kvs, k, l3, h1, hk, hz, hs, q⟩ := h
  exact ⟨_, l3, g2, by rw [hs.eq]; exact xDpop_ev h0 e2 h1 hk hz, q⟩
theorem wp_tup2 {ww : M (List Vl)} (h : Wp ww l g fun xs l1 g1 => ∃ x y l3 l4, xs = [x, y] ∧ SetR l1 i x l3 ∧ SetR l3 j y l4 ∧ Q .nx l4 g1) : Wp (xTup [i, j] ww) l g Q := by
  obtain ⟨xs, l1, g1, e1, x, y, l3, l4, rfl, s1, s2, q⟩ := h
  exact ⟨_, l4, g1, by rw [s2.eq, s1.eq]; exact xTup_ev (is := [i, j]) e1 rfl (by simp), q⟩
theorem wp_tup3 {ww : M (List Vl)} (h : Wp ww l g fun xs l1 g1 => ∃ x y z l3 l4 l5, xs = [x, y, z] ∧ SetR l1 i x l3 ∧ SetR l3 j y l4 ∧ SetR l4 k z l5 ∧ Q .nx l5 g1) : Wp (xTup [i, j, k] ww) l g Q := by
  obtain ⟨xs, l1, g1, e1, x, y, z, l3, l4, l5, rfl, s1, s2, s3, q⟩ := h
  exact ⟨_, l5, g1, by rw [s3.eq, s2.eq, s1.eq]; exact xTup_ev (is := [i, j, k]) e1 rfl (by simp), q⟩
section
variable {Q : List Vl → Lo → Sg → Prop} {ww : M (List Vl)}
theorem wp_uNil (q : Q [] l g) : Wp uNil l g Q := wp_mp q
theorem wp_uD (h : Wp a l g fun d l1 g1 => Wp ww l1 g1 fun xs l2 g2 => Q (.dat d :: xs) l2 g2) : Wp (uD a ww) l g Q := wp_mb (wp_mono h fun _ _ _ h => wp_mb (wp_mono h fun _ _ _ h => wp_mp h))
theorem wp_uL (h : Wp m l g fun d l1 g1 => Wp ww l1 g1 fun xs l2 g2 => Q (.own d :: xs) l2 g2) : Wp (uL m ww) l g Q := wp_mb (wp_mono h fun _ _ _ h => wp_mb (wp_mono h fun _ _ _ h => wp_mp h))
end
theorem wp_keep {vs : List Nat} (h : Wp A l g fun o l1 g1 => Q o (wipeV l1 vs) g1) : Wp (xKeep vs A) l g Q := by
  obtain ⟨o, l1, g1, e, q⟩ := h
  exact ⟨o, wipeV l1 vs, g1, by unfold xKeep mb; rw [e], q⟩
theorem wp_pre {vs : List Nat} (h : Wp A (wipeV l vs) g Q) : Wp (xPre vs A) l g Q := h
theorem wp_for {G : G} (h : Wp m l g fun ds l1 g1 => Wp (xForL G A ds) l1 g1 Q) : Wp (xFor m G A) l g Q := by
  obtain ⟨ds, l1, g1, e, o, l2, g2, e2, q⟩ := h
  exact ⟨o, l2, g2, xFor_ev e e2, q⟩
theorem wp_forNil {G : G} (h : Q .nx l g) : Wp (xForL G A []) l g Q := ⟨.nx, l, g, rfl, h⟩
theorem wp_forCons {G : G} (h : Has (G d l) fun l1 => Wp A l1 g (bodyK (fun l g => Wp (xForL G A ds) l g Q) Q)) : Wp (xForL G A (d :: ds)) l g Q := by
  obtain ⟨l1, e1, o, l2, g2, e2, q⟩ := h
  unfold Wp
  rw [xForL_cons, e1, oo_some, e2]
  cases o with
  | nx => rw [ol_nx]; exact q
  | ct => rw [ol_ct]; exact q
  | bk => rw [ol_bk]; exact ⟨_, _, _, rfl, q⟩
  | ret v => rw [ol_ret]; exact ⟨_, _, _, rfl, q⟩
theorem wp_forI {G : G} (I : Nat → Lo → Sg → Prop) (h0 : I 0 l g) (hs : ∀ i d l g, ds[i]? = some d → I i l g → Has (G d l) fun l1 => Wp A l1 g (bodyK (I (i + 1)) Q)) (hq : ∀ l g, I ds.length l g → Q .nx l g) : Wp (xForL G A ds) l g Q := by
  have key : ∀ (n i : Nat) l g, n = ds.length - i → i ≤ ds.length → I i l g → Wp (xForL G A (ds.drop i)) l g Q := by
    intro n
    induction n with
    | zero =>
      intro i l g hn hi hI
      have : i = ds.length := by omega
      subst this
      rw [List.drop_length]
      exact wp_forNil (hq l g hI)
    | succ n ih =>
      intro i l g hn hi hI
      have hlt : i < ds.length := by omega
      rw [List.drop_eq_getElem_cons hlt]
      refine wp_forCons ((hs i ds[i] l g (List.getElem?_eq_getElem hlt) hI).imp fun l1 h => ⟨h.1, wp_mono h.2 fun o l2 g2 h => ?_⟩)
      cases o with
      | nx => exact ih (i + 1) l2 g2 (by omega) hlt h
      | ct => exact ih (i + 1) l2 g2 (by omega) hlt h
      | bk => exact h
      | ret v => exact h
  simpa using key ds.length 0 l g (by omega) (Nat.zero_le _) h0
theorem wp_forS {G : G} {σ : Type} (xs : List α) (h : α → PyData) (lf : σ → Lo) (gf : σ → Sg) (I : List α → σ → Prop) (s0 : σ) (h0 : I [] s0) (hs : ∀ pre x post s, xs = pre ++ x :: post → I pre s → Has (G (h x) (lf s)) fun l1 => Wp A l1 (gf s) (bodyK (fun l g => ∃ s', l = lf s' ∧ g = gf s' ∧ I (pre ++ [x]) s') Q)) (hq : ∀ s, I xs s → Q .nx (lf s) (gf s)) : Wp (xForL G A (xs.map h)) (lf s0) (gf s0) Q := by
  have key : ∀ (post pre : List α) (s : σ), xs = pre ++ post → I pre s → Wp (xForL G A (post.map h)) (lf s) (gf s) Q := by
    intro post
    induction post with
    | nil =>
      intro pre s e hI
      rw [List.append_nil] at e
      subst e
      exact wp_forNil (hq s hI)
    | cons x post ih =>
      intro pre s e hI
      refine wp_forCons ((hs pre x post s e hI).imp fun l1 hh => ⟨hh.1, wp_mono hh.2 fun o l2 g2 hk => ?_⟩)
      have nxt : (∃ s', l2 = lf s' ∧ g2 = gf s' ∧ I (pre ++ [x]) s') → Wp (xForL G A (post.map h)) l2 g2 Q := by
        rintro ⟨s', rfl, rfl, hI'⟩
        exact ih (pre ++ [x]) s' (by rw [e, List.append_assoc]; rfl) hI'
      cases o with
      | nx => exact nxt hk
      | ct => exact nxt hk
      | bk => exact hk
      | ret v => exact hk
  exact key xs [] s0 rfl h0
theorem wp_while {σ : Type} (lf : σ → Lo) (gf : σ → Sg) (I : σ → Prop) (mu : σ → Nat) (s0 : σ) (h0 : I s0) (hm : mu s0 < 4000000)
    (hs : ∀ s, I s → Wp t (lf s) (gf s) fun p l1 g1 => Br p (Wp A l1 g1 (bodyK (fun l g => ∃ s', l = lf s' ∧ g = gf s' ∧ I s' ∧ mu s' < mu s) Q)) (Q .nx l1 g1)) : Wp (xWhile t A) (lf s0) (gf s0) Q := by
  obtain ⟨o, l', g', e, q⟩ := xWhile_inv (t := t) (x := A) lf gf I mu Q s0 h0 rfl rfl hm (fun s hI => by
    obtain ⟨p, l1, g1, e, q⟩ := hs s hI
    cases p with
    | false => exact .inl ⟨l1, g1, e, q.2 rfl⟩
    | true =>
      obtain ⟨o, l2, g2, e2, q2⟩ := q.1 rfl
      refine .inr ⟨l1, g1, e, ?_⟩
      cases o with
      | nx =>
        obtain ⟨s', rfl, rfl, h1, h2⟩ := q2
        exact .inl ⟨s', .inl e2, h1, h2⟩
      | ct =>
        obtain ⟨s', rfl, rfl, h1, h2⟩ := q2
        exact .inl ⟨s', .inr e2, h1, h2⟩
      | bk => exact .inr (.inl ⟨l2, g2, e2, q2⟩)
      | ret v => exact .inr (.inr ⟨v, l2, g2, e2, q2⟩))
  exact ⟨o, l', g', e, q⟩
end
theorem fok_fn {n : Nat} {x : X} {as : List Vl} {Q : Vl → Sg → Prop} (hl : as ++ List.replicate (n - as.length) .no = l) (h : Wp x l g (retK Q)) : FOk (fnS n x) as g Q := by
  obtain ⟨o, l1, g1, e, q⟩ := h
  unfold FOk fnS
  rw [hl, e]
  cases o with
  | ret v => exact ⟨v, g1, rfl, q⟩
  | nx => exact ⟨_, g1, rfl, q⟩
  | bk => exact q.elim
  | ct => exact q.elim
theorem hasG_nm {Q : Lo → Prop} (hs : SetR l i (.dat d) l1) (q : Q l1) : Has (gNm i d l) Q := ⟨l1, by rw [hs.eq]; rfl, q⟩
theorem hasG_tp {n : Nat} {gs : Gs} {Q : Lo → Prop} (hd : d = .tuple ds) (hn : ds.length = n) (h : Has (gs ds l) Q) : Has (gTp n gs d l) Q := by
  subst hd hn
  obtain ⟨l1, e, q⟩ := h
  exact ⟨l1, by show (if ds.length = ds.length then gs ds l else none) = _; rw [if_pos rfl, e], q⟩
theorem hasG_nil {Q : Lo → Prop} (q : Q l) : Has (gsNil [] l) Q := ⟨l, rfl, q⟩
theorem hasG_cons {G : G} {gs : Gs} {Q : Lo → Prop} (h : Has (G d l) fun l1 => Has (gs ds l1) Q) : Has (gsCons G gs (d :: ds) l) Q := by
  obtain ⟨l1, e1, l2, e2, q⟩ := h
  exact ⟨l2, by show (G d l).bind _ = _; rw [e1]; exact e2, q⟩
theorem lcw_pure {vs : List Nat} {tg : G} {Q : List PyData → Lo → Sg → Prop} {l0 : Lo} {xs : List α} (h : α → PyData) (q : α → Bool) (f : α → PyData) (hd : ds = xs.map h) (hp : plainAt vs l = true) (hz : xs.length ≤ 4000000) (hw : wipeV l vs = l0)
    (he : ∀ x ∈ xs, Has (tg (h x) l0) fun l1 => backV l l1 vs = l ∧ Wp t l1 g fun p l2 g2 => (p = q x ∧ l2 = l1 ∧ g2 = g) ∧ (q x = true → Wp e l1 g fun y l3 g3 => y = f x ∧ l3 = l1 ∧ g3 = g))
    (hq : Q ((xs.filter q).map f) l g) : LcW vs tg t e ds l g Q := by
  subst hd hw
  refine ⟨_, l, g, lcO_of hp (by rw [List.length_map]; exact hz) ?_, hq⟩
  clear hq hz
  induction xs with
  | nil => rfl
  | cons x xs ih =>
    obtain ⟨l1, e1, e2, p, l2, g2, e3, ⟨rfl, rfl, rfl⟩, e4⟩ := he x List.mem_cons_self
    have ih := ih fun y hy => he y (List.mem_cons_of_mem _ hy)
    rw [List.map_cons, lcL_cons, e1, oo_some, e3, ob_some]
    by_cases hx : q x = true
    · obtain ⟨y, l3, g3, e5, rfl, rfl, rfl⟩ := e4 hx
      rw [if_pos hx, e5, ob_some, e2, ih, ob_some, List.filter_cons_of_pos hx, List.map_cons]
    · rw [if_neg hx, e2, ih, List.filter_cons_of_neg hx]
theorem lcw_map {vs : List Nat} {tg : G} {Q : List PyData → Lo → Sg → Prop} {l0 : Lo} {xs : List α} (h : α → PyData) (f : α → PyData) (hd : ds = xs.map h) (hp : plainAt vs l = true) (hz : xs.length ≤ 4000000) (hw : wipeV l vs = l0)
    (he : ∀ x ∈ xs, Has (tg (h x) l0) fun l1 => backV l l1 vs = l ∧ Wp e l1 g fun y l3 g3 => y = f x ∧ l3 = l1 ∧ g3 = g)
    (hq : Q (xs.map f) l g) : LcW vs tg bYes e ds l g Q :=
  lcw_pure h (fun _ => true) f hd hp hz hw (fun x hx => (he x hx).imp fun l1 hh => ⟨hh.1, hh.2.1, wp_bYes ⟨⟨rfl, rfl, rfl⟩, fun _ => hh.2.2⟩⟩) (by rw [List.filter_eq_self.mpr fun _ _ => rfl]; exact hq)
theorem lcw_inv {vs : List Nat} {tg : G} {Q : List PyData → Lo → Sg → Prop} {l0 : Lo} {xs : List α} (h : α → PyData) (I : Nat → List PyData → Sg → Prop) (hd : ds = xs.map h) (hp : plainAt vs l = true) (hz : xs.length ≤ 4000000) (hw : wipeV l vs = l0) (h0 : I 0 [] g)
    (he : ∀ i x es g, xs[i]? = some x → I i es g → Has (tg (h x) l0) fun l1 => backV l l1 vs = l ∧ Wp e l1 g fun y l3 g3 => l3 = l1 ∧ I (i + 1) (es ++ [y]) g3)
    (hq : ∀ es g, I xs.length es g → Q es l g) : LcW vs tg bYes e ds l g Q := by
  subst hd hw
  have key : ∀ (n i : Nat) (acc : List PyData) (g : Sg), n = xs.length - i → i ≤ xs.length → I i acc g → ∃ es g', lcL vs tg bYes e ((xs.drop i).map h) l g = some (es, l, g') ∧ I xs.length (acc ++ es) g' := by
    intro n
    induction n with
    | zero =>
      intro i acc g hn hi hI
      have : i = xs.length := by omega
      subst this
      rw [List.drop_length]
      exact ⟨[], g, rfl, by rw [List.append_nil]; exact hI⟩
    | succ n ih =>
      intro i acc g hn hi hI
      have hlt : i < xs.length := by omega
      obtain ⟨l1, e1, e2, y, l3, g3, e3, rfl, e4⟩ := he i xs[i] acc g (List.getElem?_eq_getElem hlt) hI
      obtain ⟨es, g', e5, e6⟩ := ih (i + 1) (acc ++ [y]) g3 (by omega) hlt e4
      refine ⟨y :: es, g', ?_, by rw [List.append_assoc] at e6; exact e6⟩
      rw [List.drop_eq_getElem_cons hlt, List.map_cons, lcL_cons, e1, oo_some, bYes_ev, ob_some, if_pos rfl, e3, ob_some, e2, e5, ob_some]
  obtain ⟨es, g', e1, e2⟩ := key xs.length 0 [] g (by omega) (Nat.zero_le _) h0
  exact ⟨es, l, g', lcO_of hp (by rw [List.length_map]; exact hz) (by simpa using e1), hq _ _ (by simpa using e2)⟩
theorem dcw_pure {vs : List Nat} {tg : G} {k : M PyData} {Q : List (Key × PyData) → Lo → Sg → Prop} {l0 : Lo} {xs : List α} (h : α → PyData) (kf : α → Key) (q : α → Bool) (f : α → PyData) (hd : ds = xs.map h) (hp : plainAt vs l = true) (hz : xs.length ≤ 4000000) (hw : wipeV l vs = l0)
    (he : ∀ x ∈ xs, Has (tg (h x) l0) fun l1 => backV l l1 vs = l ∧ Wp t l1 g fun p l2 g2 => (p = q x ∧ l2 = l1 ∧ g2 = g) ∧ (q x = true → Wp k l1 g fun y l3 g3 => (keyO y = some (kf x) ∧ l3 = l1 ∧ g3 = g) ∧ Wp e l1 g fun z l4 g4 => z = f x ∧ l4 = l1 ∧ g4 = g))
    (hn : ((xs.filter q).map kf).Nodup) (hq : Q ((xs.filter q).map fun x => (kf x, f x)) l g) : DcW vs tg t k e ds l g Q := by
  subst hd hw
  refine ⟨hp, by rw [List.length_map]; exact hz, _, l, g, ?_, hq⟩
  have e1 := fold_put (kf := kf) (f := f) (acc := []) hn fun _ _ kv hkv => by cases hkv
  rw [List.nil_append] at e1
  rw [← e1]
  clear hq hz e1 hn
  have key : ∀ acc, lcD vs tg t k e (xs.map h) acc l g = some ((xs.filter q).foldl (fun acc d => putG acc (kf d) (f d)) acc, l, g) := by
    induction xs with
    | nil => intro acc; rfl
    | cons x xs ih =>
      intro acc
      obtain ⟨l1, e1, e2, p, l2, g2, e3, ⟨rfl, rfl, rfl⟩, e4⟩ := he x List.mem_cons_self
      have ih := ih fun y hy => he y (List.mem_cons_of_mem _ hy)
      rw [List.map_cons]
      unfold lcD
      simp only [e1, e3]
      cases hx : q x with
      | true =>
        obtain ⟨y, l3, g3, e5, ⟨e6, rfl, rfl⟩, z, l4, g4, e7, rfl, rfl, rfl⟩ := e4 hx
        simp only [e5, e7, e6, e2, ih, List.filter_cons, hx, if_true, List.foldl_cons]
      | false => simp only [e2, ih, List.filter_cons, hx, Bool.false_eq_true, if_false]
  exact key []
end
end Sm

namespace Sm
open PySem PySem.Spec PyProof.Rows L2 RZ SrtO Dz
def iEnA (a : M PyData) : M (List PyData) := mb a fun x => mo ((seqD x).map enumD)
section
variable {K : Kx} {ta : TE} {a : M PyData}
theorem walkET {ds : List PyData} {S : Hp} {p : Addr} {xs : List V} (h : SqT K S p xs) (hd : DpAll K S xs ds) : WalkD K (IteT K p) S (enumD ds) := by
  have hl := DpAll_len hd
  refine ⟨fun i H hi hs => ?_, fun H hs => ?_, fun i H x H' d S2 e s1 s2 y => ?_⟩
  · rw [enumD_len, ← hl] at hi
    exact ⟨xs, xs[i], same_seqT hs h, List.getElem?_eq_getElem hi⟩
  · rw [enumD_len]
    exact ⟨xs, same_seqT hs h, by omega⟩
  · obtain ⟨e', he, rfl⟩ := enumD_get e
    obtain ⟨T, x1, rfl, hn, e2, q2⟩ := y
    obtain ⟨v, hv, hdv⟩ := DpAll_get hd he
    have q3 := q2 xs (same_seqT (s1.trans s2) h)
    rw [hv] at q3
    cases q3
    exact dp_pair s2 hn e2 (.int _) (Dp_mono hdv s1)
theorem s_ienA (ha : EvS K ta a) : EvI K (iEnumA K (tCons ta tNil)) (iEnA a) := fun l g d l' g' s H S r A e h Q q => by
  replace e := mb_some e; obtain ⟨x, l1, g1, e1, e⟩ := e
  replace e := mo_some e; obtain ⟨e, rfl, rfl⟩ := e
  refine ha _ _ _ _ _ s H S r A e1 h _ fun v1 H1 S1 r1 A1 m1 h1 d1 => ?_
  cases d1 with
  | lst h3 h4 => cases e; exact ⟨_, _, rfl, .inl ⟨h1.hs.seq h3, q _ H1 S1 r1 A1 m1 h1 (walkE h3 h4)⟩⟩
  | tup h3 h4 => cases e; exact ⟨_, _, rfl, .inr ⟨same_seqT h1.hs h3, q _ H1 S1 r1 A1 m1 h1 (walkET h3 h4)⟩⟩
  | _ => cases e
end
def SO (w : World) (D : Addr) (ac : List Int) : HO := SetIO w D (fun j => decide (j ∈ ac)) (uniqI ac).length
theorem so_nil {w : World} {D : Addr} : SO w D [] = SetIO w D (fun _ => false) 0 := by
  unfold SO
  have e : (fun j : Int => decide (j ∈ ([] : List Int))) = fun _ => false := by funext j; simp
  rw [e]
  rfl
theorem so_snoc {w : World} {D : Addr} {ac : List Int} {c : Int} : SO w D (ac ++ [c]) = SetIO w D (fun j => decide (j ∈ ac) || decide (j = c)) (if decide (c ∈ ac) = true then (uniqI ac).length else (uniqI ac).length + 1) := by
  unfold SO
  rw [uniq_snoc]
  congr 1
  funext j
  simp [List.mem_append]
def EvSt (K : Kx) (w : World) (te : TE) (e : M (List Int)) : Prop := ∀ l g ns l' g' s H S r A, e l g = some (ns, l', g') → StOk K l g s H S r A → ∀ Q : VK, (∀ p H' S' r' A', Mv K S H r A S' H' r' A' → StOk K l' g' s H' S' r' A' → H p = none → ¬ tr S' H' A' r' p → S' p = none → H' p = some (SO w p ns) → Q (.ref p) H') → te s H Q
def fewI (ns : List Int) : Option (List Int) := if ns.length ≤ 4000 then some ns else none
def kSc (vs : List Nat) (it : M (List PyData)) (tg : G) (t : M Bool) (e : M PyData) : M (List Int) := mb (lLc vs it tg t e) fun ds => mo ((intsO ds).bind fewI)
def eLenS (m : M (List Int)) : M PyData := mb m fun ns => mo (if (uniqI ns).length < 4000 then some (.int ((uniqI ns).length : Nat)) else none)
theorem intsO_is : ∀ {ds : List PyData} {ns : List Int}, intsO ds = some ns → ds = ns.map .int := fun h => intsO_some h
theorem fewI_some {ns ms : List Int} (h : fewI ns = some ms) : ms = ns ∧ ns.length ≤ 4000 := by
  unfold fewI at h
  split at h
  · cases h; exact ⟨rfl, by assumption⟩
  · cases h
section
variable {K : Kx} {tt : TT} {te : TE} {t : M Bool} {e0 : M PyData} {wi : TI} {it : M (List PyData)} {tg : TG} {gg : G} {vs : List Nat} {w : World} {ta : TE} {a : M PyData} {m : M (List Int)}
theorem lcS_run {w : World} {ns : List Int} {l1 l' : Lo} {g1 g' : Sg} {s : L2.St} {H S : Hp} {r : List Addr} {A : List (Option Addr)} {ds d : List PyData} (hi : ∀ R : It → Hp → Prop, (∀ J H' S' r' A', Mv K S H r A S' H' r' A' → StOk K l1 g1 s H' S' r' A' → WalkD K J S' ds → R J H') → wi s H R) (hg : GIn tg vs) (hm : ∀ v s H (Q Q' : L2.St → Hp → Prop), (∀ s' H', Q s' H' → Q' s' H') → tg v s H Q → tg v s H Q') (hb : BdS K tg gg) (ht : EvT K tt t) (he : EvS K te e0)
    (hpl : plainAt vs l1 = true) (hz : ds.length ≤ 4000000) (e : lcL vs gg t e0 ds l1 g1 = some (d, l', g')) (hns : d = ns.map PyData.int) (hnl : ns.length ≤ 4000) (Q : VK) (q : ∀ p H' S' r' A', Mv K S H r A S' H' r' A' → StOk K l' g' s H' S' r' A' → H p = none → ¬ tr S' H' A' r' p → S' p = none → H' p = some (SO w p ns) → Q (.ref p) H') : tScI w wi tg tt te vs s H Q := by
  refine hi _ fun J H1 S1 r1 A1 m1 h1 w' => ?_
  intro D hD
  have hDH : H D = none := by
    cases hq : H D with
    | none => rfl
    | some u => exact absurd hD (m1.d D (some_ne hq))
  have gD : Grow m0 S1 H1 S1 (upd H1 D (SetIO w D (fun _ => false) 0)) := Grow.out h1.hs hD
  have hDt : ¬ tr S1 H1 A1 r1 D := fun z => (h1.there z).1 hD
  refine ⟨fun i m H2 => m = ds.length - i ∧ i ≤ ds.length ∧ ∃ li gi Si ri Ai ac rest, StOk K li gi s H2 Si ri Ai ∧ Mv K S1 H1 r1 A1 Si H2 ri Ai ∧ ¬ tr Si H2 Ai ri D ∧ Si D = none ∧ H2 D = some (SO w D ac) ∧ ac.length ≤ i ∧ plainAt vs li = true ∧ lcL vs gg t e0 (ds.drop i) li gi = some (rest, l', g') ∧ d = ac.map PyData.int ++ rest,
    ⟨ds.length, by simp, Nat.zero_le _, l1, g1, S1, r1, A1, [], d, h1.grow gD, Mv.grow gD, fun z => hDt (tr_upd z), h1.hs.free hD, by rw [upd_same]; exact congrArg some so_nil.symm, Nat.le_refl _, hpl, e, rfl⟩, ?_⟩
  rintro i m H2 ⟨rfl, hle, li, gi, Si, ri, Ai, ac, rest, hst, mi, hDi, sDi, hacc, hal, hpi, hrun, hd⟩
  by_cases hlt : i < ds.length
  · have mw := m1.trans mi
    refine .inr ⟨w'.go i H2 hlt (mi.s.trans hst.hs), fun H3 => i + 1 ≤ ds.length ∧ ∃ li gi Si ri Ai ac rest, StOk K li gi s H3 Si ri Ai ∧ Mv K S1 H1 r1 A1 Si H3 ri Ai ∧ ¬ tr Si H3 Ai ri D ∧ Si D = none ∧ H3 D = some (SO w D ac) ∧ ac.length ≤ i + 1 ∧ plainAt vs li = true ∧ lcL vs gg t e0 (ds.drop (i + 1)) li gi = some (rest, l', g') ∧ d = ac.map PyData.int ++ rest, fun H3 ⟨q1, q2⟩ => ⟨ds.length - (i + 1), by omega, rfl, q1, q2⟩, fun x H3 y => ?_⟩
    have hdi : ds[i]? = some ds[i] := List.getElem?_eq_getElem hlt
    obtain ⟨S3, g3, d3⟩   := w'.yld i H2 x H3 ds[i] Si hdi mi.s hst.hs y
    have h3 := hst.grow g3
    have hdrop : ds.drop i = ds[i] :: ds.drop (i + 1) := List.drop_eq_getElem_cons hlt
    rw [hdrop] at hrun
    obtain ⟨lb, b, l2, g2, k1, k2, k3⟩ := lcL_step hrun
    have sD3 : S3 D = none := g3.n D sDi (some_ne hacc)
    have hD3 : H3 D = some (SO w D ac) := g3.all D _ hacc
    have bnd := hb _ _ _ _ _ _ _ _ _ x (fun s4 H4 => ∃ S4 A4, Mv K S3 H3 ri (cutA Ai vs) S4 H4 ri A4 ∧ StOk K lb gi s4 H4 S4 ri A4) k1 (h3.wipe (vs := vs)) d3 fun s4 H4 S4 A4 m4 h4 => ⟨S4, A4, m4, h4⟩
    refine hm _ _ _ _ _ ?_ (hg x (wipe s vs) H3 _ bnd)
    rintro s4 H4 ⟨hw, S4, A4, m4, h4⟩
    have hw' : wipe s4 vs = wipe s vs := by
      rw [hw]
      apply List.ext_getElem?
      intro j
      rw [wipe_get, wipe_get, wipe_length]
      by_cases hj : j ∈ vs
      · rw [if_pos hj, if_pos hj]
      · rw [if_neg hj, if_neg hj]
    refine ⟨hw', ?_⟩
    have hDc : ¬ tr S3 H3 (cutA Ai vs) ri D := fun z => (tr_back (trcut z) g3.s fun o e => .inr (g3.all _ o e)).elim hDi (some_ne hacc)
    have sD4 : S4 D = none := m4.n D sD3 (some_ne hD3) hDc
    have hD4 : H4 D = some (SO w D ac) := m4.k D _ hDc hD3
    have hD4t : ¬ tr S4 H4 A4 ri D := fun z => (m4.f D z).elim hDc (some_ne hD3)
    have mc : Mv K Si H2 ri Ai S4 H4 ri A4 := by
      have := (Mv.grow (r := ri) (A := Ai) g3).trans (Mv.trans (A1 := cutA Ai vs) (A2 := A4) (r1 := ri) (r2 := ri) ⟨Same.refl S3, h3.hs, fun _ e _ _ => e, fun _ _ _ e => e, fun _ e => e, ⟨[], by simp⟩, fun a z => .inl (trcut z), tKeep⟩ m4)
      exact this
    have hlen4 : lb.length = li.length := by
      have e1 := h4.ls
      have e2 := hst.ls
      have e3 := congrArg List.length hw'
      rw [wipe_length, wipe_length] at e3
      omega
    refine ht _ _ _ _ _ s4 H4 S4 ri A4 k2 h4 _ fun H5 S5 r5 A5 m5 h5 => ?_
    have sD5 : S5 D = none := m5.n D sD4 (some_ne hD4) hD4t
    have hD5 : H5 D = some (SO w D ac) := m5.k D _ hD4t hD4
    have hD5t : ¬ tr S5 H5 A5 r5 D := fun z => (m5.f D z).elim hD4t (some_ne hD4)
    have hlen5 : l2.length = li.length := by
      have e1 := h5.ls
      have e2 := h4.ls
      omega
    rcases k3 with ⟨rfl, y2, l3, g3', zs, k4, k5, k6⟩ | ⟨rfl, k4⟩
    · rw [if_pos rfl]
      refine he _ _ _ _ _ s4 H5 S5 r5 A5 k4 h5 _ fun v6 H6 S6 r6 A6 m6 h6 d6 => ?_
      have sD6 : S6 D = none := m6.n D sD5 (some_ne hD5) hD5t
      have hD6 : H6 D = some (SO w D ac) := m6.k D _ hD5t hD5
      have hD6t : ¬ tr S6 H6 A6 r6 D := fun z => (m6.f D z).elim hD5t (some_ne hD5)
      have hlen6 : l3.length = li.length := by
        have e1 := h6.ls
        have e2 := h4.ls
        omega
      have mall := (mc.trans m5).trans m6
      have hb6 := hst.back hpi h6 hw' hlen6 mall.s mall.p
      have hDcut : ¬ tr S6 H6 (cutA A6 vs) r6 D := fun z => hD6t (trcut z)
      -- the element is an int of ns
      have hyz : (ac.map PyData.int).length < (ns.map PyData.int).length := by
        rw [← hns, hd, k6, List.length_append]
        simp
      have hyi : ∃ c, y2 = .int c := by
        have e1 : (ns.map PyData.int)[(ac.map PyData.int).length]? = some y2 := by rw [← hns, hd, k6]; simp
        rw [List.getElem?_map] at e1
        cases hq : ns[(ac.map PyData.int).length]? with
        | none => rw [hq] at e1; cases e1
        | some c => rw [hq] at e1; exact ⟨c, (Option.some.inj e1).symm⟩
      obtain ⟨c, rfl⟩ := hyi
      cases d6
      have hal2 : (uniqI ac).length ≤ 4000 := by
        have := uniq_le ac
        rw [List.length_map, List.length_map] at hyz
        omega
      -- the set grows
      have hput : StOk K (backV li l3 vs) g3' s (upd H6 D (SO w D (ac ++ [c]))) S6 r6 (cutA A6 vs) := by
        refine hb6.move (Same.refl S6) (fun b z e => ?_) (fun b hb => ⟨(hb6.thereA hb).2, fun u e => ?_⟩) ⟨[], by simp⟩ hb6.rn hb6.dr hb6.lg (fun j b o e1 e2 => ?_) (hb6.tb.go (Same.refl S6) (fun b hb => (hb6.tb.there hb).2) fun b u hb e => by rw [upd_ne fun z => hDcut (.inr (.inr (by rw [← z]; exact hb)))]; exact e)
        · rw [upd_ne (ne_of_none e sD6)]; exact hb6.hs b z e
        · rw [upd_ne fun z => hDcut (.inl (by rw [← z]; exact hb))]; exact e
        · obtain ⟨p1, p2⟩ := hb6.st j b o e1 e2
          exact ⟨p1, p2.go (Same.refl S6) (.upd (fun z => hDcut (.inr (.inl (by rw [← z]; exact List.mem_of_getElem? e1)))) hD6 (fun _ z => nomatch z)) ⟨[], by simp⟩⟩
      have mnew : Mv K S1 H1 r1 A1 S6 (upd H6 D (SO w D (ac ++ [c]))) r6 (cutA A6 vs) := by
        have mm := mi.trans mall
        refine ⟨mm.s, hput.hs, mm.n, fun b o hb e => ?_, fun b e => ?_, mm.p, fun b z => mm.f b (trcut (tr_upd z)), fun a e => tUpd (fun ps z => by rw [hD6] at z; cases z) a (mm.t a e)⟩
        · have hbD : b ≠ D := fun z => by rw [z, hD] at e; cases e
          rw [upd_ne hbD]; exact mm.k b o hb e
        · by_cases hbD : b = D
          · subst hbD; rw [upd_same]; exact fun z => nomatch z
          · rw [upd_ne hbD]; exact mm.d b e
      refine ⟨c, _, _, rfl, hD6, by unfold scanBound; omega, ?_⟩
      rw [← so_snoc]
      exact ⟨hlt, backV li l3 vs, g3', S6, r6, cutA A6 vs, ac ++ [c], zs, hput, mnew, fun z => hDcut (tr_upd z), sD6, upd_same, by rw [List.length_append]; simp; omega, plain_back hpi hlen6, k5, by rw [hd, k6]; simp⟩
    · rw [if_neg Bool.false_ne_true]
      have mall := mc.trans m5
      have hb5 := hst.back hpi h5 hw' hlen5 mall.s mall.p
      exact ⟨hlt, backV li l2 vs, g2, S5, r5, cutA A5 vs, ac, rest, hb5, (mi.trans mall).cut, fun z => hD5t (trcut z), sD5, hD5, by omega, plain_back hpi hlen5, k4, hd⟩
  · have ei : i = ds.length := by omega
    subst ei
    rw [List.drop_length] at hrun
    obtain ⟨rfl, rfl, rfl⟩ := mp_some hrun
    rw [List.append_nil] at hd
    have hac : ac = ns := by
      have e1 : ac.map PyData.int = ns.map PyData.int := by rw [← hd]; exact hns
      exact List.map_inj_right (fun _ _ z => PyData.int.inj z) |>.mp e1
    subst hac
    have mw := m1.trans mi
    exact .inl ⟨w'.stop H2 (mi.s.trans hst.hs), q D H2 Si ri Ai mw hst hDH hDi sDi hacc⟩
theorem s_sc (hi : EvI K wi it) (hg : GIn tg vs) (hm : ∀ v s H (Q Q' : L2.St → Hp → Prop), (∀ s' H', Q s' H' → Q' s' H') → tg v s H Q → tg v s H Q') (hb : BdS K tg gg) (ht : EvT K tt t) (he : EvS K te e0) : EvSt K w (tScI w wi tg tt te vs) (kSc vs it gg t e0) := fun l g d l' g' s H S r A e h Q q => by
  replace e := mb_some e; obtain ⟨dl, l2, g2, e, e2⟩ := e
  replace e2 := mo_some e2; obtain ⟨e2, rfl, rfl⟩ := e2
  obtain ⟨ns, e3, e4⟩ := Option.bind_eq_some_iff.mp e2
  obtain ⟨rfl, hl⟩ := fewI_some e4
  replace e := mb_some e; obtain ⟨ds, l1, g1, e1, e⟩ := e
  split at e
  case isFalse => cases e
  rename_i hz
  rw [Bool.and_eq_true, decide_eq_true_eq] at hz
  exact lcS_run (fun R k => hi _ _ _ _ _ s H S r A e1 h R k) hg hm hb ht he hz.1 hz.2 e (intsO_is e3) hl Q q
theorem s_lenS (hm : EvSt K w te m) : EvS K (tCB (rLenS w) (tCons te tNil)) (eLenS m) := fun l g d l' g' s H S r A e h Q q => by
  replace e := mb_some e; obtain ⟨ns, l1, g1, e1, e⟩ := e
  replace e := mo_some e; obtain ⟨e, rfl, rfl⟩ := e
  split at e
  case isFalse => cases e
  rename_i h64
  cases e
  exact hm _ _ _ _ _ s H S r A e1 h _ fun p H1 S1 r1 A1 m1 h1 hp ht sp hx => ⟨p, _, _, rfl, hx, h64, q _ H1 S1 r1 A1 m1 h1 (.int _)⟩
end
section
variable {l : Lo} {g : Sg} {a : M PyData} {m : M (List Int)} {Q : List PyData → Lo → Sg → Prop}
theorem wp_iEnA (h : Wp a l g fun x l1 g1 => Has (seqD x) fun ds => Q (enumD ds) l1 g1) : Wp (iEnA a) l g Q := wp_mb (wp_mono h fun _ _ _ h => wp_mo (by obtain ⟨ds, e, q⟩ := h; exact ⟨enumD ds, by rw [e]; rfl, q⟩))
theorem wp_kSc {Q : List Int → Lo → Sg → Prop} {vs : List Nat} {it : M (List PyData)} {tg : G} {t : M Bool} {e : M PyData} (h : Wp (lLc vs it tg t e) l g fun ds l1 g1 => ∃ ns : List Int, ds = ns.map .int ∧ ns.length ≤ 4000 ∧ Q ns l1 g1) : Wp (kSc vs it tg t e) l g Q := wp_mb (wp_mono h fun _ _ _ h => wp_mo (by
  obtain ⟨ns, rfl, hl, q⟩ := h
  exact ⟨ns, by rw [intsO_map, Option.bind_some, fewI, if_pos hl], q⟩))
theorem wp_lenS {Q : PyData → Lo → Sg → Prop} (h : Wp m l g fun ns l1 g1 => (uniqI ns).length < 4000 ∧ Q (.int ((uniqI ns).length : Nat)) l1 g1) : Wp (eLenS m) l g Q := wp_mb (wp_mono h fun _ _ _ h => wp_mo ⟨_, if_pos h.1, h.2⟩)
end
end Sm

namespace Dz
open PySem PySem.SeqAt PyProof.Rows L2 RZ
section
variable {X : Cx} {K : Kx}
end
end Dz
namespace Sm
open PySem PySem.Spec PyProof.Rows L2 RZ SrtO Dz
section
variable {K : Kx} {l : Lo} {g : Sg} {s : L2.St} {H S H0 S0 : Hp} {r r0 : List Addr} {A A0 : List (Option Addr)} {p : Addr} {o : HO}
theorem StOk.putN (h : StOk K l g s H S r A) (hp : ¬ tr S H A r p) (sp : S p = none) {ou : HO} (hu : H p = some ou) (hno : ∀ c, ou ≠ .own c) : StOk K l g s (upd H p o) S r A :=
  h.move (Same.refl S) (fun b z e => by rw [upd_ne (ne_of_none e sp)]; exact h.hs b z e) (fun b hb => ⟨(h.thereA hb).2, fun u e => by rw [upd_ne fun z => hp (.inl (by rw [← z]; exact hb))]; exact e⟩) ⟨[], by simp⟩ h.rn h.dr h.lg (fun j b u e1 e2 => by
    obtain ⟨p1, p2⟩ := h.st j b u e1 e2
    exact ⟨p1, p2.go (Same.refl S) (.upd (fun z => hp (.inr (.inl (by rw [← z]; exact List.mem_of_getElem? e1)))) hu hno) ⟨[], by simp⟩⟩) (h.tb.go (Same.refl S) (fun b hb => (h.tb.there hb).2) fun b u hb e => by rw [upd_ne fun z => hp (.inr (.inr (by rw [← z]; exact hb)))]; exact e)
theorem Mv.putN (m : Mv K S0 H0 r0 A0 S H r A) (h0 : H0 p = none) (sp : S p = none) (ho : ∀ ps, o ≠ .tbl ps := by intro ps z; cases z) : Mv K S0 H0 r0 A0 S (upd H p o) r A :=
  ⟨m.s, fun b z e => by rw [upd_ne (ne_of_none e sp)]; exact m.h b z e, m.n, fun b u hb e => by
    have hbp : b ≠ p := fun z => by rw [z, h0] at e; cases e
    rw [upd_ne hbp]; exact m.k b u hb e, fun b e => by
    by_cases hbp : b = p
    · subst hbp; rw [upd_same]; exact fun z => nomatch z
    · rw [upd_ne hbp]; exact m.d b e, m.p, fun a z => m.f a (tr_upd z ho), fun a e => by
    have hap : a ≠ p := fun z => by obtain ⟨_, ps, e2⟩ := e; rw [z, h0] at e2; cases e2
    obtain ⟨e1, ps, e2⟩ := m.t a e
    exact ⟨e1, ps, by rw [upd_ne hap]; exact e2⟩⟩
end
def lDone (k v : M PyData) : M (List (Key × PyData)) := mb k fun x => mb v fun y => mo ((keyO x).map fun kk => [(kk, y)])
section
variable {K : Kx} {tk tv ta tb : TE} {k v a b : M PyData}
theorem s_done (hk : EvS K tk k) (hv : EvS K tv v) : EvC K (tDisp [(tk, tv)]) (lDone k v) := fun l g d l' g' s H S r A e h Q q => by
  replace e := mb_some e; obtain ⟨x, l1, g1, e1, e⟩ := e
  replace e := mb_some e; obtain ⟨y, l2, g2, e2, e⟩ := e
  replace e := mo_some e; obtain ⟨e, rfl, rfl⟩ := e
  obtain ⟨kk, ek, rfl⟩ := Option.map_eq_some_iff.mp e
  cases keyO_some ek
  intro p hp
  have g0 : Grow m0 S H S (upd H p (.dK [])) := Grow.out h.hs hp
  have hpt : ¬ tr S (upd H p (.dK [])) A r p := fun z => (h.there (tr_upd z)).1 hp
  refine hk _ _ _ _ _ s _ S r A e1 (h.grow g0) _ fun v1 H1 S1 r1 A1 m1 h1 d1 => ?_
  have p1 : H1 p = some (.dK []) := m1.k p _ hpt upd_same
  have s1 : S1 p = none := m1.n p (h.hs.free hp) (some_ne upd_same) hpt
  have t1 : ¬ tr S1 H1 A1 r1 p := fun z => (m1.f p z).elim hpt (some_ne upd_same)
  refine hv _ _ _ _ _ s H1 S1 r1 A1 e2 h1 _ fun v2 H2 S2 r2 A2 m2 h2 d2 => ?_
  have p2 : H2 p = some (.dK []) := m2.k p _ t1 p1
  have s2 : S2 p = none := m2.n p s1 (some_ne p1) t1
  have t2 : ¬ tr S2 H2 A2 r2 p := fun z => (m2.f p z).elim t1 (some_ne p1)
  have ev : v1 = kV kk := by
    cases kk with
    | inl i => cases d1; rfl
    | inr i => cases d1; rfl
  refine ⟨p2, [(kk, v2)], by rw [ev]; rfl, by simp, ?_⟩
  have em : mergeK [] [(kk, v2)] = [(kk, v2)] := rfl
  rw [em]
  exact q p [(kk, v2)] _ S2 r2 A2 (((Mv.grow g0).trans (m1.trans m2)).putN hp s2) (h2.putN t2 s2 p2 (fun _ z => nomatch z)) hp (fun z => t2 (tr_upd z)) s2 upd_same (.cons ⟨rfl, d2⟩ .nil)
def intKeys : List (Key × PyData) → Option (List Int)
  | [] => some []
  | (.inl i, _) :: r => (intKeys r).map (i :: ·)
  | (.inr _, _) :: _ => none
theorem intKeys_some : ∀ {kvs : List (Key × PyData)} {ks : List Int}, intKeys kvs = some ks → kvs.map (·.1) = ks.map Sum.inl
  | [], ks, h => by cases h; rfl
  | (.inl i, x) :: r, ks, h => by
    obtain ⟨ks', e, rfl⟩ := Option.map_eq_some_iff.mp h
    rw [List.map_cons, List.map_cons, intKeys_some e]
  | (.inr i, x) :: r, ks, h => by cases h
def lSortK (i : Nat) : M (List PyData) := mg fun l g => (dcV l g i).bind fun kvs => (intKeys kvs).bind fun ks => if ks.length < 4000000 then some ((sortI ks).map .int) else none
theorem kvd_keys {S : Hp} {ws : List (Key × V)} {kvs : List (Key × PyData)} (h : KvD K S ws kvs) : ws.map (·.1) = kvs.map (·.1) := by
  induction h with
  | nil => rfl
  | cons q _ ih => rw [List.map_cons, List.map_cons, ih, q.1]
theorem s_sortK {i : Nat} : EvL K (tCB (fun xs H Q => ∃ (a : Addr) (kvs : List (Key × V)) (ks : List Int), xs = [.ref a] ∧ Rd H a (.dK kvs) ∧ kvs.map (·.1) = ks.map Sum.inl ∧ ks.length < 4000000 ∧ ∀ (ys : List Int) (p : Addr), ys.Perm ks → ys.Pairwise (· ≤ ·) → H p = none → Q (.ref p) (upd H p (.lst (ys.map V.int)))) (tCons (tVar i) tNil)) (lSortK i) := fun l g d l' g' s H S r A e h Q q => by
  replace e := mg_some e; obtain ⟨e, rfl, rfl⟩ := e
  obtain ⟨kvs, e2, e⟩ := Option.bind_eq_some_iff.mp e
  obtain ⟨ks, e3, e⟩ := Option.bind_eq_some_iff.mp e
  split at e
  case isFalse => cases e
  rename_i h64
  cases e
  obtain ⟨a, ws, q1, q2, q3, _⟩ := rd_dc h e2
  refine ⟨_, q1, a, ws, ks, rfl, Rd.of q2, by rw [kvd_keys q3, intKeys_some e3], h64, fun ys p hp hs hn => ?_⟩
  rw [sortI_is hp hs]
  exact new_l (Mv.refl h.hs) h (DpAll_ints _) q p hn
end
section
variable {l : Lo} {g : Sg} {a b k v : M PyData}
theorem wp_lDone {Q : List (Key × PyData) → Lo → Sg → Prop} (h : Wp k l g fun x l1 g1 => Wp v l1 g1 fun y l2 g2 => Has (keyO x) fun kk => Q [(kk, y)] l2 g2) : Wp (lDone k v) l g Q := wp_mb (wp_mono h fun _ _ _ h => wp_mb (wp_mono h fun _ _ _ h => wp_mo (by obtain ⟨kk, e, q⟩ := h; exact ⟨_, by rw [e]; rfl, q⟩)))
theorem wp_lSortK {i : Nat} {kvs : List (Key × PyData)} {Q : List PyData → Lo → Sg → Prop} (h : l[i]? = some (.dct kvs)) (h2 : ∃ ks, intKeys kvs = some ks ∧ ks.length < 4000000 ∧ Q ((sortI ks).map .int) l g) : Wp (lSortK i) l g Q := by
  obtain ⟨ks, e, hl, q⟩ := h2
  exact wp_mg ⟨_, by rw [dcV_own h, Option.bind_some, e, Option.bind_some, if_pos hl], q⟩
theorem wp_parCL {i j : Nat} {m : M (List (Key × PyData))} {m' : M (List PyData)} {Q : Out → Lo → Sg → Prop} (h : Wp m l g fun x l1 g1 => Wp m' l1 g1 fun y l2 g2 => ∃ l3 l4, SetR l2 i (.dct x) l3 ∧ SetR l3 j (.own y) l4 ∧ Q .nx l4 g2) : Wp (xParCL i j m m') l g Q := wp_mb (wp_mono h fun _ _ _ h => wp_mb (wp_mono h fun _ _ _ h => by
  obtain ⟨l3, l4, s1, s2, q⟩ := h
  exact ⟨_, l4, _, by rw [s2.eq, s1.eq], q⟩))
end
end Sm

namespace Dz
open PySem PySem.Spec PySem.SeqAt PyProof.Rows L2 RZ
inductive F2 {α β : Type} (R : α → β → Prop) : List α → List β → Prop
  | nil : F2 R [] []
  | cons {x : α} {y : β} {xs : List α} {ys : List β} : R x y → F2 R xs ys → F2 R (x :: xs) (y :: ys)
def lexLe (p q : Int × Int) : Prop := p.1 < q.1 ∨ (p.1 = q.1 ∧ p.2 ≤ q.2)
instance (p q : Int × Int) : Decidable (lexLe p q) := inferInstanceAs (Decidable (_ ∨ _))
section
variable {X : Cx}
end
end Dz
namespace Sm
open PySem PySem.Spec PyProof.Rows L2 RZ SrtO Dz
section
variable {K : Kx} {S : Hp}
end
end Sm

namespace Dz
open PySem PySem.Spec PyProof.Rows L2 RZ LamX
end Dz
namespace Sm
open PySem PySem.Spec PyProof.Rows L2 RZ SrtO Dz
section
variable {K : Kx} {l : Lo} {g : Sg} {s : L2.St} {H S H1 S1 : Hp} {r : List Addr} {A : List (Option Addr)} {i : Nat}
theorem StOk.gTab (h : StOk K l g s H S r A) (q : GrowT (isTab S H) S H S1 H1) (tb : TabsOk K S1 H1) : StOk K l g s H1 S1 r A ∧ Mv K S H r A S1 H1 r A :=
  h.call (q.mono fun _ z => .inr z) ⟨[], by simp⟩ h.rn (fun _ z => .inl z) h.lg (fun j a o e1 e2 => by
    obtain ⟨q1, q2⟩ := h.st j a o e1 e2
    exact ⟨q.n a q1 q2.there, q2.go q.s (fun b z hb e => q.k b z (by
      rcases hb with rfl | rfl
      · exact h.apartR (List.mem_of_getElem? e1)
      · intro z
        obtain ⟨_, ps, hz⟩ := z
        rw [e] at hz
        cases hz) e) ⟨[], by simp⟩⟩) tb
theorem StOk.any (h : StOk K l g s H S r A) (e : l[i]? = some .no) (x : Option V) : StOk K l g (s.set i x) H S r A :=
  ⟨h.hs, h.la, by rw [List.length_set]; exact h.ls, fun j z ej => by
    obtain ⟨o, v, q1, q2, q3⟩ := h.ok j z ej
    by_cases hij : i = j
    · subst hij
      rw [e] at ej
      cases ej
      exact ⟨o, x, q1, by rw [List.getElem?_set_self (List.getElem?_eq_some_iff.mp q2).1], q3⟩
    · exact ⟨o, v, q1, by rw [List.getElem?_set_ne hij]; exact q2, q3⟩, h.ij, h.dr, h.rn, h.lg, h.st, h.tb⟩
end
def vLam (F : List PyData → Option PyData) : M Vl := mp (.fn F)
def eCallF (i : Nat) (a : M (List PyData)) : M PyData := fun l g => match l[i]? with
  | some (.fn F) => mb a (fun xs => mo (F xs)) l g
  | _ => none
section
variable {K : Kx} {ta : TA} {a : M (List PyData)} {i : Nat}
theorem s_lam {F : List PyData → Option PyData} : EvV K (tLamV K F) (vLam F) := fun l g d l' g' s H S r A e h Q q => by
  obtain ⟨rfl, rfl, rfl⟩ := mp_some e
  refine ⟨S, h.hs, h.tb, fun v S1 H1 gr tb hv => ?_⟩
  obtain ⟨h1, m1⟩ := h.gTab gr tb
  exact q v H1 S1 r A m1 h1 hv
theorem s_callF (ha : EvA K ta a) : EvS K (tCallF K i ta) (eCallF i a) := fun l g d l' g' s H S r A e h Q q => by
  unfold eCallF at e
  split at e
  · rename_i F hl
    obtain ⟨o, v, e1, e2, e3, w, rfl, e4⟩ := h.ok i _ hl
    replace e := mb_some e; obtain ⟨xs, l1, g1, k1, e⟩ := e
    replace e := mo_some e; obtain ⟨e, rfl, rfl⟩ := e
    refine ⟨w, S, F, e2, e4, h.hs, ha _ _ _ _ _ s H S r A k1 h _ fun vs H1 S1 r1 A1 m1 h1 d1 => ⟨S1, m1.s, xs, d, h1.hs, h1.tb, d1, e, fun w S2 H2 gr tb2 dp => ?_⟩⟩
    obtain ⟨h2, m2⟩ := h1.gTab gr tb2
    exact q w H2 S2 r1 A1 (m1.trans m2) h2 dp
  · cases e
def lamF (n m : Nat) (b : M PyData) : List PyData → Option PyData := fun ds => if ds.length = m then (b (ds.map .dat ++ List.replicate (n - ds.length) .no) []).map (·.1) else none
theorem lamF_len {n m : Nat} {b : M PyData} : ∀ ds d, lamF n m b ds = some d → ds.length = m := fun ds d e => by
  unfold lamF at e
  split at e
  · rename_i h; exact h
  · cases e
end
theorem vs_of {K : Kx} {S : Hp} {r : List Addr} : ∀ (ds : List PyData) (vs : List V), DpAll K S vs ds → VsOk K S r vs (ds.map .dat)
  | [], _, .nil => .nil
  | d :: ds, _, .cons h1 h2 => .cons h1 (vs_of ds _ h2)
theorem lam_body {K : Kx} {te : TE} {b : M PyData} {N : List Str} {n m : Nat} {vs : List V} {H : Hp} {Q : VK} {E : XK} (hb : EvS K te b) (hN : N.length = n) (h : spL K (lamF n m b) vs H Q E) : te (L2.start N vs) H Q := by
  obtain ⟨S, ds, d, hs, tb, hd, e, q⟩ := h
  subst hN
  unfold lamF at e
  split at e
  · rename_i hn
    obtain ⟨⟨d', l', g'⟩, e1, rfl⟩ := Option.map_eq_some_iff.mp e
    have hv : VsOk K S [] vs (ds.map .dat) := vs_of ds vs hd
    have st := start_ok (N := N) (g := []) hs ⟨List.nodup_nil, rfl, fun j a o e => by simp at e, tb⟩ hv
    rw [List.length_map] at st
    refine hb _ _ _ _ _ _ H S [] _ e1 st _ fun v H1 S1 r1 A1 m1 h1 d1 => q v S1 H1 ⟨m1.s, m1.h, fun a e1 e2 => ?_, fun a o hn e => m1.k a o (fun z => ?_) e, m1.d, fun a ps e => ?_⟩ h1.tb d1
    · by_cases ht : isTab S H a
      · exact (m1.t a ht).1
      · refine m1.n a e1 e2 fun z => ?_
        rcases z with z | z | z
        · exact absurd (List.eq_of_mem_replicate z) (by simp)
        · cases z
        · exact ht z
    · rcases z with z | z | z
      · exact absurd (List.eq_of_mem_replicate z) (by simp)
      · cases z
      · exact hn z
    · by_cases ht : S a = none
      · exact (m1.t a ⟨ht, ps, e⟩).2
      · obtain ⟨u, hu⟩ := ne_some ht
        have e2 := hs a u hu
        rw [e] at e2
        cases e2
        exact ⟨ps, m1.h a _ (m1.s a _ hu)⟩
  · cases e
def spLawT (K : PySem.W.Frag) (ts : List Addr) : Sp := fun vs H Q _ => ∃ (a : Addr) (ns : List Int), vs = [.ref a] ∧ SqL K H a (ns.map V.int) ∧ ns.length ≤ 63 ∧ (∀ b ∈ ts, H b = some (.tbl #[])) ∧ ∀ H', Q (.bl true) H'
theorem law_ofT {P : Program} {w : World} {K : PySem.W.Frag} {mg : Str → Option Value} {base : Heap} {lv k : Nat} {tb : List (Addr × Tag)} {f : Addr} {fd : FuncData} {ps : List Str} {F : FS} (h : FnOk P w K mg base CX0 k f fd ps (spG (kX P w K mg base lv tb) 1 F)) (hF : ∀ ns : List Int, ns.length ≤ 63 → ∃ g, F [.dat (.list (ns.map .int))] [] = some (.dat (.bool true), g)) : FnOk P w K mg base CX0 k f fd ps (spLawT K (tb.map (·.1))) :=
  (law_of (K := kX P w K mg base lv tb) h hF).imp fun vs H Q E ⟨a, ns, e, hS, hl, ht, q⟩ => ⟨a, ns, e, hS, hl, fun b ⟨p, hp, e⟩ => ht b (List.mem_map.mpr ⟨p, hp, e⟩), q⟩
def qLam (x : Str) : Str := x ++ ".<locals>." ++ "<lambda>"
def tabsOfT (f : Str → Tag) (cs : List (Str × Addr × Addr)) : List (Addr × Tag) := cs.map fun p => (p.2.2, f p.1)
def tabsOf (cs : List (Str × Addr × Addr)) : List (Addr × Tag) := tabsOfT (fun x => .one (qLam x)) cs
theorem tabAt_ofT {P : Program} {w : World} {K : PySem.W.Frag} {mg : Str → Option Value} {base : Heap} {lv : Nat} {f : Str → Tag} {cs : List (Str × Addr × Addr)} (h : ∀ p ∈ cs, LamX.TabB base mg p.2.1 p.2.2) (nd : (cs.map (·.2.2)).Nodup) {p : Str × Addr × Addr} (hp : p ∈ cs) : TabAtT (kX P w K mg base lv (tabsOfT f cs)) (.ref p.2.1) (f p.1) := by
  refine ⟨p.2.1, p.2.2, rfl, h p hp, List.mem_map.mpr ⟨p, hp, rfl⟩, fun z hz e => ?_⟩
  obtain ⟨p', hp', rfl⟩ := List.mem_map.mp hz
  have e : p'.2.2 = p.2.2 := e
  have key : ∀ {cs : List (Str × Addr × Addr)}, (cs.map (·.2.2)).Nodup → p ∈ cs → p' ∈ cs → p' = p := by
    intro cs
    induction cs with
    | nil => intro _ h; cases h
    | cons c cs ih =>
      intro nd h1 h2
      rw [List.map_cons, List.nodup_cons] at nd
      rcases List.mem_cons.mp h1 with rfl | h1
      · rcases List.mem_cons.mp h2 with h2 | h2
        · exact h2
        · exact absurd (List.mem_map.mpr ⟨p', h2, e⟩) nd.1
      · rcases List.mem_cons.mp h2 with h3 | h2
        · rw [← h3] at nd
          exact absurd (List.mem_map.mpr ⟨p, h1, e.symm⟩) nd.1
        · exact ih nd.2 h1 h2
  rw [key nd hp hp']
theorem tabAt_of {P : Program} {w : World} {K : PySem.W.Frag} {mg : Str → Option Value} {base : Heap} {lv : Nat} {cs : List (Str × Addr × Addr)} (h : ∀ p ∈ cs, LamX.TabB base mg p.2.1 p.2.2) (nd : (cs.map (·.2.2)).Nodup) {p : Str × Addr × Addr} (hp : p ∈ cs) : TabAt (kX P w K mg base lv (tabsOf cs)) (.ref p.2.1) (qLam p.1) := tabAt_ofT (f := fun x => .one (qLam x)) h nd hp
theorem walkT {l : PySem.W.OpenLaw} {k : Nat} {q : Program} {loose : List Str} {XP : (Str → Option Value) → Heap → Prop} {YP : World → Heap → Prop} {d : DefRec} {K : Params → PySem.W.Frag} {x : Str} (hn : l.most = some 63) (hdf : d.params.defaults = []) (hr : Room k callerA) (hY : ∀ (w : World) (h : Heap), YP w h → (K w.params).In h)
    (F : ∀ (w : World) (mg : Str → Option Value) (fa : Addr) (h : Heap), (K w.params).In h → h.Ns mainGlobals mg → mg d.name = some (.ref fa) →
      ∃ (fd : FuncData) (cs : List (Str × Addr × Addr)), PySem.W.noTabs (K w.params) = true ∧ (∀ p ∈ cs, PySem.W.tabIn (K w.params) p.1 = some p.2 ∧ ∃ dr, (recsOf q).find? (fun e => e.name == p.1) = some dr) ∧ (∀ (s : Shared) (u : Value), BindsTo s fd ⟨[u], []⟩ [(x, u)]) ∧
        ∀ base : Heap, (K w.params).In base → base.Ns mainGlobals mg → (∀ p ∈ cs, LamX.TabB base mg p.2.1 p.2.2) → FnOk l.prog w (K w.params) mg base CX0 k fa fd [x] (spLawT (K w.params) (cs.map (·.2.2)))) :
    PySem.W.WalkO q loose XP YP l.row.toRowW d [] (fun f vs => PySem.call f vs) := by
  refine Att.attach_callB hn hdf fun w s₀ s₁ mg mb fa o pm cd doc a vs ns G Y ho hd hcd hmg hobj hints hlen hbits hg => ?_
  have KX := hY w _ Y
  obtain ⟨fd, cs, hno, hcs, hb, hF⟩ := F w mg fa _ KX G.T.g hmg
  have hall : ∀ p ∈ cs, PySem.W.CodeHd s₁.heap p.2.1 p.2.2 ∧ s₁.heap.get? p.2.2 = some (PySem.W.tabObj #[]) := fun p hp => by
    obtain ⟨h1, dr, h2⟩ := hcs p hp
    exact PySem.W.tab_of G.T KX h2 h1
  have hmem : ∀ p ∈ cs.map (·.2), ∃ z ∈ cs, z.2 = p := fun p hp => List.mem_map.mp hp
  refine LamX.law_callTs (cs := cs.map (·.2)) KX G.T.g G.T.b G.T.builtins G.T.nolimit hg (fun p hp => ?_) (fun p hp => ?_) (fun p hp => ?_) G.T.bmain hobj hints (Nat.le_trans hlen (by decide)) hr (fun base h1 h2 h3 => hF base h1 h2 fun p hp => h3 _ (List.mem_map.mpr ⟨p, hp, rfl⟩)) hb (fun H hH hS => ⟨a, ns, rfl, hS, hlen, fun b hb => ?_, fun _ => rfl⟩) fun H e s' h => h
  · obtain ⟨z, hz, rfl⟩ := hmem p hp
    exact (hall z hz).2
  · obtain ⟨z, hz, rfl⟩ := hmem p hp
    cases e : (K w.params).lookup z.2.2 with
    | none => rfl
    | some o =>
      have e2 := KX _ _ e
      rw [(hall z hz).2] at e2
      have h2 := List.all_eq_true.mp hno _ (PySem.W.mem_of_lookupK e)
      cases e2
      exact absurd (show false = true from h2) Bool.false_ne_true
  · obtain ⟨z, hz, rfl⟩ := hmem p hp
    exact (hall z hz).1
  · obtain ⟨z, hz, rfl⟩ := List.mem_map.mp hb
    exact hH z.2 (List.mem_map.mpr ⟨z, hz, rfl⟩)
end Sm

namespace Sm
open PySem PySem.Spec PyProof.Rows L2 RZ SrtO Dz
def xRetD (i : Nat) : X := fun l g => match l[i]? with
  | some (.dct kvs) => some (.ret (.ref g.length), l.set i .no, g ++ [.dct kvs])
  | _ => none
open Classical in
noncomputable def eCallDg (F : FS) (a : M (List Vl)) (i : Nat) : M PyData := mb a fun xs => fun l g => match F xs g, l[i]? with
  | some (.ref j, g1), some (.dat d) => (match g1[j]?, keyO d with
    | some (.dct kvs), some k => if j + 1 = g1.length ∧ g1.take j = g then (valG kvs k).map fun z => (z, l, g1.take j) else none
    | _, _ => none)
  | _, _ => none
section
variable {K : Kx} {i : Nat}
theorem x_retD : ExS K (tRet (tVar i)) (xRetD i) := fun l g o l' g' s H S r A e h D q => by
  unfold xRetD at e
  split at e
  case h_2 => cases e
  rename_i kvs hl
  cases e
  obtain ⟨oo, v, e1, e2, a, rfl, rfl, hS, ws, hw, hkv⟩ := h.ok i _ hl
  have hil : i < l.length := (List.getElem?_eq_some_iff.mp hl).1
  have haA : some a ∈ A := List.mem_of_getElem? e1
  have ntr : ¬ tr S H (A.set i none) r a := fun z => by
    rcases z with z | z | z
    · obtain ⟨m, hm⟩ := List.mem_iff_getElem?.mp z
      by_cases him : i = m
      · subst him
        rw [List.getElem?_set_self (by rw [h.la]; exact hil)] at hm
        cases hm
      · rw [List.getElem?_set_ne him] at hm
        exact him (h.ij i m a e1 hm)
    · exact h.dr a haA z
    · exact h.apartA haA z
  have h2 := (h.drop (i := i)).newR (o := .dct kvs) ntr hS ⟨ws, hw, hkv⟩
  refine ⟨_, e2, ?_⟩
  refine q s H S (r ++ [a]) (A.set i none) ⟨Same.refl S, h.hs, fun _ e _ _ => e, fun _ _ _ e => e, fun _ e => e, ⟨[a], rfl⟩, fun b z => ?_, tKeep⟩ h2 (.ref a) ⟨a, by rw [← h.lg, List.getElem?_append_right (Nat.le_refl _)]; simp, rfl⟩
  rcases z with z | z | z
  · exact .inl (trset (.inl z))
  · rcases List.mem_append.mp z with z | z
    · exact .inl (.inr (.inl z))
    · rw [List.mem_singleton.mp z]
      exact .inl (.inl haA)
  · exact .inl (.inr (.inr z))
theorem s_callDg {F : FS} {n : Nat} {E : XK} {ta : TA} {m : M (List Vl)} (ha : EvVA K ta m) (hn : ∀ l g xs l' g', m l g = some (xs, l', g') → xs.length = n) : EvS K (tDGet (tCall (spG K n F) [] E ta) (tVar i)) (eCallDg F m i) := fun l g d l' g' s H S r A e h Q q => by
  replace e := mb_some e; obtain ⟨xs, l1, g1, k1, e⟩ := e
  split at e
  case h_2 => cases e
  rename_i j g2 kd eF hl
  split at e
  case h_2 => cases e
  rename_i kvs kk hj hk
  split at e
  case isFalse => cases e
  rename_i hlen
  obtain ⟨z, ez, e⟩ := Option.map_eq_some_iff.mp e
  cases e
  refine ha _ _ _ _ _ s H S r A k1 h _ fun vs H1 S1 r1 A1 m1 h1 d1 => ?_
  show spG K n F (vs ++ []) H1 _ E
  rw [List.append_nil]
  refine call_at h1 d1 (hn _ _ _ _ _ k1) eF fun w H2 S2 r2 m2 h2 hw => ?_
  obtain ⟨a, hra, rfl⟩ := hw
  obtain ⟨o, v, e1, e2, e3, w, rfl, e4⟩ := h2.ok i _ hl
  obtain ⟨hSa, ws, hws, hkv⟩ := h2.st j a _ hra hj
  cases keyO_some hk
  obtain ⟨u, hu, hd⟩ := hkv.val.1 _ ez
  refine ⟨_, e2, a, u, rfl, .inl ⟨ws, kk, .inl hws, key_dp e4, hu.symm⟩, ?_⟩
  have hr2 : r2.length = j + 1 := by rw [h2.lg]; omega
  have hp1 : ∃ q, r2.take j = r1 ++ q := by
    obtain ⟨q2, e5⟩ := m2.p
    have hle : r1.length ≤ j := by rw [h1.lg, ← hlen.2, List.length_take]; omega
    exact ⟨q2.take (j - r1.length), by rw [e5, List.take_append, List.take_of_length_le hle]⟩
  have htk : ∃ q, r2.take j = r ++ q := by
    obtain ⟨q1, e6⟩ := m1.p
    obtain ⟨q2, e5⟩ := hp1
    exact ⟨q1 ++ q2, by rw [e5, e6, List.append_assoc]⟩
  have sub : ∀ b, b ∈ r2.take j → b ∈ r2 := fun b hb => List.mem_of_mem_take hb
  have h3 : StOk K l' (g2.take j) s H2 S2 (r2.take j) A1 := by
    refine ⟨h2.hs, h2.la, h2.ls, fun y x ex => ?_, h2.ij, fun b hb z => h2.dr b hb (sub b z), h2.rn.sublist (List.take_sublist _ _), ?_, fun y b o f1 f2 => ?_, h2.tb⟩
    · obtain ⟨o, v, f1, f2, f3⟩ := h2.ok y x ex
      refine ⟨o, v, f1, f2, ?_⟩
      cases x with
      | ref t =>
        obtain ⟨o', v', f7, f8, f4, b, f5, f6⟩ := h1.ok y _ ex
        rw [f1] at f7
        rw [f2] at f8
        cases f7
        cases f8
        obtain ⟨q2, e5⟩ := hp1
        exact ⟨f4, b, by rw [e5, List.getElem?_append_left (List.getElem?_eq_some_iff.mp f5).1]; exact f5, f6⟩
      | no => exact f3
      | dat d => exact f3
      | own ds => exact f3
      | dct ds => exact f3
      | dnk ds => exact f3
      | fn F => exact f3
      | xt ds => exact f3
      | os b0 ds =>
        obtain ⟨o', v', f7, f8, f4, w', f5, f6⟩ := h1.ok y _ ex
        rw [f1] at f7
        rw [f2] at f8
        cases f7
        cases f8
        exact ⟨f4, w', f5, f6.go m2.s hp1⟩
    · rw [List.length_take, List.length_take, h2.lg]
    · have hy : y < j := by
        have := (List.getElem?_eq_some_iff.mp f1).1
        rw [List.length_take] at this
        omega
      rw [List.getElem?_take_of_lt hy] at f1 f2
      refine ⟨(h2.st y b o f1 f2).1, ?_⟩
      have f3 := (h2.st y b o f1 f2).2
      have hg1 : g1[y]? = some o := by rw [← hlen.2, List.getElem?_take_of_lt hy]; exact f2
      cases o with
      | lst ds => exact f3
      | dct ds => exact f3
      | dnk ds => exact f3
      | ins C fs =>
        obtain ⟨cls, dx, vs, p0, p1, p2, p3⟩ := f3
        refine ⟨cls, dx, vs, p0, p1, p2, ?_⟩
        obtain ⟨q2, e5⟩ := hp1
        obtain ⟨q3, e7⟩ := m2.p
        have hyr : y < r1.length := by rw [h1.lg]; exact (List.getElem?_eq_some_iff.mp hg1).1
        have hb1 : r1[y]? = some b := by rw [e7, List.getElem?_append_left hyr] at f1; exact f1
        obtain ⟨_, cls', dx', vs', _, _, _, p4⟩ := h1.st y b _ hb1 hg1
        have key : ∀ {vs vs' : List (Str × V)} {fs : List (Str × Fv)}, FsOk K S2 r2 vs fs → FsOk K S1 r1 vs' fs → FsOk K S2 (r2.take j) vs fs := by
          intro vs vs' fs a
          induction a generalizing vs' with
          | nil => intro _; exact .nil
          | @cons x w xs ws hq _ ih =>
            intro c
            cases c with
            | cons hq' c' =>
              refine .cons ⟨hq.1, ?_⟩ (ih c')
              obtain ⟨n, w2⟩ := w
              cases w2 with
              | dat d => exact hq.2
              | ref t =>
                obtain ⟨b1, k1, k2⟩ := hq.2
                obtain ⟨b2, k3, k4⟩ := hq'.2
                have ht : t < r1.length := (List.getElem?_eq_some_iff.mp k3).1
                refine ⟨b1, ?_, k2⟩
                rw [e5, List.getElem?_append_left ht]
                rw [e7, List.getElem?_append_left ht] at k1
                exact k1
        exact key p3 p4
  refine q u H2 S2 (r2.take j) A1 ?_ h3 hd
  have mm := m1.trans m2
  exact ⟨mm.s, mm.h, mm.n, mm.k, mm.d, htk, fun b z => mm.f b (z.imp id fun z => z.imp (sub b) id), mm.t⟩
end
section
variable {l l1 : Lo} {g g1 : Sg} {i : Nat}
theorem wp_vLam {F : List PyData → Option PyData} {m : M (List Vl)} {Q : List Vl → Lo → Sg → Prop} (q : Wp m l g fun xs l2 g2 => Q (.fn F :: xs) l2 g2) : Wp (vCons (vLam F) m) l g Q := wp_mb (wp_mp (wp_mb (wp_mono q fun _ _ _ h => wp_mp h)))
theorem wp_eCallF {F : List PyData → Option PyData} {a : M (List PyData)} {Q : PyData → Lo → Sg → Prop} (h : l[i]? = some (.fn F)) (h2 : Wp a l g fun xs l1 g1 => Has (F xs) fun z => Q z l1 g1) : Wp (eCallF i a) l g Q := by
  obtain ⟨xs, l1, g1, e, z, hz, q⟩ := h2
  refine ⟨z, l1, g1, ?_, q⟩
  unfold eCallF
  rw [h]
  show mb a (fun xs => mo (F xs)) l g = _
  unfold mb
  rw [e]
  show mo (F xs) l1 g1 = _
  unfold mo
  rw [hz]
theorem wp_retD {kvs : List (Key × PyData)} {Q : Out → Lo → Sg → Prop} (h : l[i]? = some (.dct kvs)) (q : Q (.ret (.ref g.length)) (l.set i .no) (g ++ [.dct kvs])) : Wp (xRetD i) l g Q := ⟨_, _, _, by unfold xRetD; rw [h], q⟩
theorem wp_callDg {F : FS} {a : M (List Vl)} {Q : PyData → Lo → Sg → Prop} (h : Wp a l g fun xs l1 g1 => FOk F xs g1 fun v g2 => ∃ kvs kd k z, v = .ref g1.length ∧ g2 = g1 ++ [.dct kvs] ∧ l1[i]? = some (.dat kd) ∧ keyO kd = some k ∧ valG kvs k = some z ∧ Q z l1 g1) : Wp (eCallDg F a i) l g Q := by
  obtain ⟨xs, l1, g1, e, v, g2, eF, kvs, kd, k, z, rfl, rfl, h1, h2, h3, q⟩ := h
  refine ⟨z, l1, g1, ?_, q⟩
  unfold eCallDg mb
  rw [e]
  dsimp only
  rw [eF, h1]
  dsimp only
  have e2 : (g1 ++ [Ob.dct kvs])[g1.length]? = some (.dct kvs) := by rw [List.getElem?_append_right (Nat.le_refl _)]; simp
  rw [e2, h2]
  dsimp only
  rw [if_pos ⟨by simp, by rw [List.take_left']; rfl⟩, h3, Option.map_some, List.take_left']
  rfl
end
theorem lamF_wp {n m : Nat} {b : M PyData} {ds : List PyData} {d : PyData} {l : Lo} (hm : ds.length = m) (hl : ds.map .dat ++ List.replicate (n - ds.length) .no = l) (h : Wp b l [] fun z _ _ => z = d) : lamF n m b ds = some d := by
  obtain ⟨z, l', g', e, rfl⟩ := h
  unfold lamF
  rw [if_pos hm, hl, e]
  rfl
end Sm

namespace Dz
open PySem PySem.Spec PySem.SeqAt PyProof.Rows L2 RZ LamX
structure CalM (P : Program) (w : World) (K : PySem.W.Frag) (mg : Str → Option Value) (base : Heap) (k : Nat) (C m : Str) (ps : List Str) (dv : List V) (sp : Sp) : Prop where
  ex : ∃ cls f fd ds, mg C = some (.ref cls) ∧ Cls K cls ∧ Meth K cls m f ∧ FnOk P w K mg base CX0 k f fd ps sp ∧ Vals dv ds ∧ Binds K fd ps ds
structure CalMK (P : Program) (w : World) (K : PySem.W.Frag) (mg : Str → Option Value) (base : Heap) (k : Nat) (C m : Str) (ps : List Str) (n : Nat) (ks : List Str) (gV : List V → List V → List V) (sp : Sp) : Prop where
  ex : ∃ cls f fd g, mg C = some (.ref cls) ∧ Cls K cls ∧ Meth K cls m f ∧ FnOk P w K mg base CX0 k f fd ps sp ∧ KBn K fd ps (n + 1) ks g gV
structure CalI (P : Program) (w : World) (K : PySem.W.Frag) (mg : Str → Option Value) (base : Heap) (k : Nat) (C : Str) (ps : List Str) (dv : List V) (sp : Sp) : Prop where
  ex : ∃ cls f fd ds, mg C = some (.ref cls) ∧ Mk K cls f ∧ FnOk P w K mg base CX0 k f fd ps sp ∧ Vals dv ds ∧ Binds K fd ps ds
structure CalIK (P : Program) (w : World) (K : PySem.W.Frag) (mg : Str → Option Value) (base : Heap) (k : Nat) (C : Str) (ps : List Str) (n : Nat) (ks : List Str) (gV : List V → List V → List V) (sp : Sp) : Prop where
  ex : ∃ cls f fd g, mg C = some (.ref cls) ∧ Mk K cls f ∧ FnOk P w K mg base CX0 k f fd ps sp ∧ KBn K fd ps (n + 1) ks g gV
section
variable {P : Program} {w : World} {K : PySem.W.Frag} {mg : Str → Option Value} {base : Heap} {j k n : Nat} {C m : Str} {ps ks : List Str} {dv : List V} {sp : Sp} {gV : List V → List V → List V}
theorem CalM.mono (c : CalM P w K mg base j C m ps dv sp) (h : j ≤ k) : CalM P w K mg base k C m ps dv sp := let ⟨cls, f, fd, ds, a, b, d, e, q⟩ := c.ex; ⟨cls, f, fd, ds, a, b, d, e.mono h, q⟩
theorem CalMK.mono (c : CalMK P w K mg base j C m ps n ks gV sp) (h : j ≤ k) : CalMK P w K mg base k C m ps n ks gV sp := let ⟨cls, f, fd, ds, a, b, d, e, q⟩ := c.ex; ⟨cls, f, fd, ds, a, b, d, e.mono h, q⟩
theorem CalI.mono (c : CalI P w K mg base j C ps dv sp) (h : j ≤ k) : CalI P w K mg base k C ps dv sp := let ⟨cls, f, fd, ds, a, b, e, q⟩ := c.ex; ⟨cls, f, fd, ds, a, b, e.mono h, q⟩
theorem CalIK.mono (c : CalIK P w K mg base j C ps n ks gV sp) (h : j ≤ k) : CalIK P w K mg base k C ps n ks gV sp := let ⟨cls, f, fd, ds, a, b, e, q⟩ := c.ex; ⟨cls, f, fd, ds, a, b, e.mono h, q⟩
end
section
variable {X : Cx} {κ : Kx} {k n : Nat} {C m : Str} {ps ks : List Str} {dv : List V} {sp : Sp} {gV : List V → List V → List V} {p pos apos : Pos} {o e : Expr} {es : List Expr} {kws : List Keyword} {ta : TE} {t tk : TA} {pl : Sem Bool}
end
end Dz
namespace Sm
open PySem PySem.Spec PyProof.Rows L2 RZ SrtO Dz
def fsO (C : Str) : Ob → Option (List (Str × Fv))
  | .ins D fs => if D = C then some fs else none
  | _ => none
def fsAt (g : Sg) (j : Nat) (C : Str) : Option (List (Str × Fv)) := (g[j]?).bind (fsO C)
def fvR : Option Fv → Option Nat
  | some (.ref k) => some k
  | _ => none
def hF (h : M Nat) (C f : Str) : M Nat := mb h fun j => mg fun _ g => (fsAt g j C).bind fun fs => fvR (fs.lookup f)
def putFv (f : Str) (v : Fv) : List (Str × Fv) → List (Str × Fv)
  | [] => [(f, v)]
  | (k, x) :: r => if k = f then (k, v) :: r else (k, x) :: putFv f v r
section
variable {K : Kx} {te ta tb tc : TE} {h h2 h3 : M Nat} {C f f2 f3 : Str} {a b c : M PyData}
theorem fsAt_some {g : Sg} {j : Nat} {fs : List (Str × Fv)} (e : fsAt g j C = some fs) : g[j]? = some (.ins C fs) := by
  unfold fsAt at e
  replace e := Option.bind_eq_some_iff.mp e; obtain ⟨o, e1, e⟩ := e
  cases o with
  | ins D gs =>
    have e : (if D = C then some gs else none) = some fs := e
    by_cases hD : D = C
    · rw [if_pos hD] at e
      cases e
      rw [e1, hD]
    · rw [if_neg hD] at e
      cases e
  | lst ds => cases e
  | dct ds => cases e
  | dnk ds => cases e
theorem FsOk.put {S : Hp} {r : List Addr} {vs : List (Str × V)} {fs : List (Str × Fv)} {x : Fv} {v : V} (q : FsOk K S r vs fs) (hx : FvOk K S r x v) : FsOk K S r (putF f v vs) (putFv f x fs) := by
  unfold FsOk at q
  induction q with
  | nil => exact .cons ⟨rfl, hx⟩ .nil
  | @cons w y vs fs hq q0 ih =>
    show FsOk K S r (if w.1 = f then (w.1, v) :: vs else (w.1, w.2) :: putF f v vs) (if y.1 = f then (y.1, x) :: fs else (y.1, y.2) :: putFv f x fs)
    rw [hq.1]
    split
    · exact .cons ⟨rfl, hx⟩ q0
    · exact .cons ⟨rfl, hq.2⟩ ih
theorem FsOk.len {S : Hp} {r : List Addr} {vs : List (Str × V)} {fs : List (Str × Fv)} (q : FsOk K S r vs fs) : vs.length = fs.length := paired_len q
theorem StOk.obj {l : Lo} {g : Sg} {s : L2.St} {H S : Hp} {r : List Addr} {A : List (Option Addr)} {j : Nat} {ad : Addr} {fs : List (Str × Fv)} (h : StOk K l g s H S r A) (hr : r[j]? = some ad) (hf : fsAt g j C = some fs) :
    ∃ (cls dx : Addr) (vs : List (Str × V)), K.mg C = some (.ref cls) ∧ H ad = some (.ins cls dx vs) ∧ FsOk K S r vs fs ∧
      ∀ (f : Str) (x : Fv) (v : V), FvOk K S r x v → StOk K l (g.set j (.ins C (putFv f x fs))) s (upd H ad (.ins cls dx (putF f v vs))) S r A ∧ Mv K S H r A S (upd H ad (.ins cls dx (putF f v vs))) r A := by
  obtain ⟨hS, cls, dx, vs, h1, h2, h3, h4⟩ := h.st j ad _ hr (fsAt_some hf)
  refine ⟨cls, dx, vs, h1, h2, h4, fun f x v hx => h.putR hr ⟨cls, dx, putF f v vs, h1, upd_same, ?_, h4.put hx⟩⟩
  rw [upd_ne fun z => by rw [z, h2] at h3; cases h3]
  exact h3
end
end Sm

namespace Sm
open PySem PySem.Spec PyProof.Rows L2 RZ SrtO Dz
section
variable {K : Kx} {te ta tb tc : TE} {h : M Nat} {a b c : M PyData} {l : Lo} {g : Sg} {s : L2.St} {H S H1 S1 : Hp} {r r1 : List Addr} {A A1 : List (Option Addr)} {j : Nat} {ad : Addr} {kvs : List (Key × PyData)} {ds : List PyData}
theorem Mv.at_ (m : Mv K S H r A S1 H1 r1 A1) (e : r[j]? = some ad) : r1[j]? = some ad := by
  obtain ⟨q, rfl⟩ := m.p
  rw [List.getElem?_append_left (List.getElem?_eq_some_iff.mp e).1]
  exact e
end
section
variable {K : Kx} {te : TE} {ta tk : TA} {h : M Nat} {a k : M (List Vl)} {C m : Str} {F : FS} {n c q : Nat} {dv : List V} {ds : List PyData} {gv : List V → List V → List V} {gs : List Vl → List Vl → List Vl}
end
end Sm

namespace Sm
open PySem PySem.Spec PyProof.Rows L2 RZ SrtO Dz
section
variable {l l1 : Lo} {g g1 : Sg} {i j k : Nat} {h h2 h3 : M Nat} {C f f2 f3 : Str} {a b c : M PyData}
section
variable {Q : Out → Lo → Sg → Prop}
end
section
variable {Q : PyData → Lo → Sg → Prop}
end
section
variable {F : FS} {m : Str} {ds : List PyData} {a k : M (List Vl)} {gs : List Vl → List Vl → List Vl} {Q : Vl → Lo → Sg → Prop}
end
end
section
variable {K : Kx} {te : TE} {ta : TA} {m : M (List Vl)}
end
section
variable {K : Kx} {ta tb : TE} {i j : Nat}
theorem VOk.so {S H : Hp} {r : List Addr} {v : V} {x : Vl} (h : VOk K S r v x) : SOk K S H r x none (some v) := by
  cases x with
  | dat d => exact ⟨rfl, v, rfl, h⟩
  | ref j => obtain ⟨a, e3, rfl⟩ := h; exact ⟨rfl, a, e3, rfl⟩
  | fn F => exact ⟨rfl, v, rfl, h⟩
  | xt ds => exact ⟨rfl, v, rfl, h⟩
  | os b ds => exact ⟨rfl, v, rfl, h⟩
  | no => cases h
  | own ds => cases h
  | dct ds => cases h
  | dnk ds => cases h
end
section
variable {l : Lo} {g : Sg} {t : M Bool}
end
section
variable {l : Lo} {g : Sg} {i j : Nat} {Q : Out → Lo → Sg → Prop}
end
end Sm

namespace Sm
open PySem PySem.Spec PyProof.Rows L2 RZ SrtO Dz
section
variable {P : Program} {w : World} {K : PySem.W.Frag} {mg : Str → Option Value} {base h : Heap}
theorem okCD {x qual : Str} {params : Arguments} {body : List Stmt} {scope : Scope} {dvs : List V} {kws : List (Str × V)} {f : Addr} {fd : FuncData} {cd : Value} {N ps : List Str} {k : Nat} {sp : Sp} (F : FunD K x qual params body scope dvs kws f fd) (hc : fd.code = cd) (S : FnScope N ps scope) (len : ∀ vs H Q E, sp vs H Q E → vs.length = ps.length)
    (hbody : ∀ (A : Around) (outer : List PySem.Env) (s : Shared) (H : Hp) (vs : List V) (Q : VK) (E : XK), Room k (A.deeper (envOfC qual scope s.heap.objs.size f cd)) → sp vs H Q E →
      ∃ t, PSs (cxOf CX0 P w K mg base N qual scope f cd A outer s H E).nox body t ∧ t { nx := fun _ H' => Q .non H', rt := Q } (start N vs) H) : FnOk P w K mg base CX0 (k + 1) f fd ps sp := by
  obtain ⟨oc, od, dV, kV, doc, pm, an, cdv, ct, osl, rfl, lk, hcd, _⟩ := F.ex
  obtain rfl : cdv = cd := hc
  exact fn_of lk hcd S len fun A outer s H vs Q E hr hsp => let ⟨t, h, q⟩ := hbody A outer s H vs Q E hr hsp; ⟨t, h.nox, q⟩
theorem okD {x qual : Str} {params : Arguments} {body : List Stmt} {scope : Scope} {dvs : List V} {kws : List (Str × V)} {f : Addr} {fd : FuncData} {N ps : List Str} {k : Nat} {sp : Sp} (F : FunD K x qual params body scope dvs kws f fd) (S : FnScope N ps scope) (len : ∀ vs H Q E, sp vs H Q E → vs.length = ps.length)
    (hbody : ∀ (cdv : Value) (A : Around) (outer : List PySem.Env) (s : Shared) (H : Hp) (vs : List V) (Q : VK) (E : XK), Room k (A.deeper (envOfC qual scope s.heap.objs.size f cdv)) → sp vs H Q E →
      ∃ t, PSs (cxOf CX0 P w K mg base N qual scope f cdv A outer s H E).nox body t ∧ t { nx := fun _ H' => Q .non H', rt := Q } (start N vs) H) : FnOk P w K mg base CX0 (k + 1) f fd ps sp :=
  F.ok S len fun cdv A outer s H vs Q E hr hsp => let ⟨t, h, q⟩ := hbody cdv A outer s H vs Q E hr hsp; ⟨t, h.nox, q⟩
theorem codeD {x qual : Str} {params : Arguments} {body : List Stmt} {scope : Scope} {dvs : List V} {kws : List (Str × V)} {fd : FuncData} {p : He.Defn} (F : FunD K x qual params body scope dvs kws (He.fAd K p) fd) : fd.code = .ref (He.cT K p).1 := by
  obtain ⟨oc, od, dV, kV, doc, pm, an, cdv, ct, osl, rfl, lk, hcd, _⟩ := F.ex
  obtain ⟨c, hc⟩ := He.codeIn_ref hcd
  have e : (PySem.W.fnOf x qual params body scope dV kV doc pm an cdv ct).code = .ref c := hc
  have := He.codeOf_eq lk e
  rw [e]
  show _ = Value.ref (He.codeOf K p)
  rw [this]
end
section
variable {P : Program} {w : World} {K : PySem.W.Frag} {mg : Str → Option Value} {base h : Heap}
theorem con_ok {x : Str} {i : Int} (X : K.In h) (G : h.Ns mainGlobals mg) (c : (He.Fa.int x i).ok K = true) : QCon mg x i := He.int_ok X G c
theorem walkX {l : PySem.W.OpenLaw} {k : Nat} {q : Program} {loose : List Str} {XP : (Str → Option Value) → Heap → Prop} {fas : List He.Fa} {fn : List He.DefD} {tf : List He.Defn} {ex : PySem.W.Frag → Bool} {d : DefRec} {x : Str} (hn : l.most = some 63) (hdf : d.params.defaults = []) (hr : Room k callerA)
    (F : ∀ (w : World) (mg : Str → Option Value) (fa : Addr) (h : Heap) (K : PySem.W.Frag), K.In h → h.Ns mainGlobals mg → mg d.name = some (.ref fa) → He.SaysX fas fn [] tf ex w h K →
      ∃ fd : FuncData, (∀ (s : Shared) (u : Value), BindsTo s fd ⟨[u], []⟩ [(x, u)]) ∧
        ∀ base : Heap, K.In base → base.Ns mainGlobals mg → (∀ p ∈ tf, LamX.TabB base mg (He.cT K p).1 (He.cT K p).2) → FnOk l.prog w K mg base CX0 k fa fd [x] (spLawT K (tf.map fun p => (He.cT K p).2))) :
    PySem.W.WalkO q loose XP (fun w h => ∃ K : PySem.W.Frag, K.In h ∧ He.SaysX fas fn [] tf ex w h K) l.row.toRowW d [] (fun f vs => PySem.call f vs) := by
  refine LamX.walk_ofTsE (CX := fun _ => CX0) (x := x) hn (by decide) hdf hr (fun w mg fa h Y G hmg => ?_) (fun _ _ _ _ _ z => z)
  obtain ⟨K, KX, c⟩ := Y
  obtain ⟨fd, hb, hF⟩ := F w mg fa h K KX G hmg c
  have hm : ∀ p ∈ tf.map (He.cT K), ∃ z ∈ tf, He.cT K z = p := fun p hp => List.mem_map.mp hp
  refine ⟨K, KX, fd, tf.map (He.cT K), spLawT K (tf.map fun p => (He.cT K p).2), fun p hp => ?_, fun p hp => ?_, fun p hp => ?_, hb, fun H a ns hl _ hH hS => ⟨a, ns, rfl, hS, hl, fun b hb => ?_, fun _ => rfl⟩, fun base h1 h2 h3 => hF base h1 h2 fun p hp => h3 _ (List.mem_map.mpr ⟨p, hp, rfl⟩)⟩
  · obtain ⟨z, hz, rfl⟩ := hm p hp
    exact c.empty z hz
  · obtain ⟨z, hz, rfl⟩ := hm p hp
    exact c.out z hz
  · obtain ⟨z, hz, rfl⟩ := hm p hp
    exact PySem.W.codeHd_of_K KX (c.hd z hz)
  · obtain ⟨z, hz, rfl⟩ := List.mem_map.mp hb
    exact hH _ (List.mem_map.mpr ⟨z, hz, rfl⟩)
end
end Sm

namespace Sm
open PySem PySem.Spec PyProof.Rows L2 RZ SrtO Dz
end Sm

namespace Sm
open PySem PySem.Spec PyProof.Rows L2 RZ SrtO Dz
mutual
def nkO : PyData → Option NestedKey
  | .none => some .none
  | .int i => some (.num i)
  | .str x => some (.text x)
  | .tuple ds => (nkL ds).map .tup
  | _ => none
def nkL : List PyData → Option (List NestedKey)
  | [] => some []
  | d :: ds => (nkO d).bind fun k => (nkL ds).map fun ks => k :: ks
end
mutual
theorem nkO_data : ∀ (d : PyData) (k : NestedKey), nkO d = some k → k.data = d
  | .none, k, e => by simp only [nkO] at e; cases e; rfl
  | .int i, k, e => by simp only [nkO] at e; cases e; rfl
  | .str x, k, e => by simp only [nkO] at e; cases e; rfl
  | .tuple ds, k, e => by
    simp only [nkO] at e
    obtain ⟨ks, e1, rfl⟩ := Option.map_eq_some_iff.mp e
    simp only [NestedKey.data, nkL_datas ds ks e1]
  | .bool b, k, e => by simp only [nkO] at e; cases e
  | .list ds, k, e => by simp only [nkO] at e; cases e
  | .dict ds, k, e => by simp only [nkO] at e; cases e
theorem nkL_datas : ∀ (ds : List PyData) (ks : List NestedKey), nkL ds = some ks → NestedKey.datas ks = ds
  | [], ks, e => by simp only [nkL] at e; cases e; rfl
  | d :: ds, ks, e => by
    simp only [nkL] at e
    obtain ⟨k, e1, e⟩ := Option.bind_eq_some_iff.mp e
    obtain ⟨ks', e2, rfl⟩ := Option.map_eq_some_iff.mp e
    simp only [NestedKey.datas, nkO_data d k e1, nkL_datas ds ks' e2]
end
def keyN : PyData → Option NestedKey
  | .tuple ds => (nkL ds).bind fun ks => if (NestedKey.tup ks).depth ≤ 8 then some (.tup ks) else none
  | _ => none
theorem keyN_some {K : Kx} {S : Hp} {v : V} {d : PyData} {k : NestedKey} (e : keyN d = some k) (h : Dp K S v d) : ∃ b, v = .ref b ∧ Nk K S b k := by
  unfold keyN at e
  split at e
  · rename_i ds
    replace e := Option.bind_eq_some_iff.mp e; obtain ⟨ks, e1, e⟩ := e
    split at e
    · rename_i hd
      cases e
      have e2 : (NestedKey.tup ks).data = .tuple ds := by simp only [NestedKey.data, nkL_datas ds ks e1]
      have hr : ∃ b, v = .ref b := by cases h <;> exact ⟨_, rfl⟩
      obtain ⟨b, rfl⟩ := hr
      exact ⟨b, rfl, hd, by rw [e2]; exact h⟩
    · cases e
  · cases e
abbrev KNs := List (NestedKey × PyData)
def dnV (l : Lo) (i : Nat) : Option KNs := match l[i]? with
  | some (.dnk kvs) => some kvs
  | _ => none
theorem dnV_some {l : Lo} {i : Nat} {kvs : KNs} (e : dnV l i = some kvs) : l[i]? = some (.dnk kvs) := by
  unfold dnV at e
  split at e
  · rename_i h; cases e; exact h
  · cases e
def EvCN (K : Kx) (te : TE) (e : M KNs) : Prop := ∀ l g ds l' g' s H S r A, e l g = some (ds, l', g') → StOk K l g s H S r A → ∀ Q : VK, (∀ p xs H' S' r' A', Mv K S H r A S' H' r' A' → StOk K l' g' s H' S' r' A' → H p = none → ¬ tr S' H' A' r' p → S' p = none → H' p = some (DnO K.P K.w p xs) → KnD K S' xs ds → Q (.ref p) H') → te s H Q
def eNget (i : Nat) (b : M PyData) : M PyData := mb (mg fun l _ => dnV l i) fun _ => mb b fun y => mg fun l _ => (dnV l i).bind fun kvs => (keyN y).bind fun k => valG kvs k
def eNin (neg : Bool) (a : M PyData) (i : Nat) : M PyData := mb a fun y => mg fun l _ => (dnV l i).bind fun kvs => (keyN y).map fun k => .bool (if neg = true then !(valG kvs k).isSome else (valG kvs k).isSome)
def xNput (i : Nat) (b a : M PyData) : X := mb a fun x => mb (mg fun l _ => dnV l i) fun _ => mb b fun y => fun l g => match dnV l i, keyN y with
  | some kvs, some k => if kvs.length < 4000000 then some (.nx, l.set i (.dnk (putG kvs k x)), g) else none
  | _, _ => none
def lNone (b a : M PyData) : M KNs := mb b fun y => mb a fun x => mb (mo (keyN y)) fun k => mp [(k, x)]
def uN (a : M KNs) (m : M (List Vl)) : M (List Vl) := mb a fun x => mb m fun xs => mp (.dnk x :: xs)
section
variable {K : Kx} {te ta tb : TE} {a b : M PyData} {i j : Nat} {l : Lo} {g : Sg} {s : L2.St} {H S : Hp} {r : List Addr} {A : List (Option Addr)} {kvs : KNs} {ad : Addr} {h : M Nat}
theorem rd_dn (h : StOk K l g s H S r A) (e : dnV l i = some kvs) : ∃ a xs, s[i]? = some (some (.ref a)) ∧ H a = some (DnO K.P K.w a xs) ∧ KnD K S xs kvs ∧
    ∀ ys es, KnD K S ys es → StOk K (l.set i (.dnk es)) g s (upd H a (DnO K.P K.w a ys)) S r A ∧ Mv K S H r A S (upd H a (DnO K.P K.w a ys)) r A := by
  have hl := dnV_some e
  obtain ⟨o, v, e1, e2, a, rfl, rfl, e3, xs, e4, e5⟩ := h.ok i _ hl
  exact ⟨a, xs, e2, e4, e5, fun ys es hd => h.putO hl e1 e2 ⟨a, rfl, rfl, e3, ys, upd_same, hd⟩⟩
theorem s_nget (hb : EvS K tb b) : EvS K (tNGet K (tVar i) tb) (eNget i b) := fun l g d l' g' s H S r A e h Q q => by
  replace e := mb_some e; obtain ⟨y0, l0, g0, e0, e⟩ := e
  replace e0 := mg_some e0; obtain ⟨e0, rfl, rfl⟩ := e0
  replace e := mb_some e; obtain ⟨y, l1, g1, e1, e⟩ := e
  replace e := mg_some e; obtain ⟨e, rfl, rfl⟩ := e
  replace e := Option.bind_eq_some_iff.mp e; obtain ⟨kvs, e2, e⟩ := e
  replace e := Option.bind_eq_some_iff.mp e; obtain ⟨k, e3, e⟩ := e
  obtain ⟨a, ws, q1, _⟩ := rd_dn h e0
  refine ⟨_, q1, hb _ _ _ _ _ s H S r A e1 h _ fun v1 H1 S1 r1 A1 m1 h1 d1 => ?_⟩
  obtain ⟨a', ws, q2, q3, q4, _⟩ := rd_dn h1 e2
  rw [q1] at q2
  cases q2
  obtain ⟨bb, rfl, hk⟩ := keyN_some e3 d1
  exact ⟨a, bb, S1, ws, kvs, k, d, rfl, rfl, h1.hs, q3, q4, hk, e, fun v hv => q v H1 S1 r1 A1 m1 h1 hv⟩
theorem s_nin {neg : Bool} (ha : EvS K ta a) : EvS K (tNIn K neg ta (tVar i)) (eNin neg a i) := fun l g d l' g' s H S r A e h Q q => by
  replace e := mb_some e; obtain ⟨y, l1, g1, e1, e⟩ := e
  replace e := mg_some e; obtain ⟨e, rfl, rfl⟩ := e
  replace e := Option.bind_eq_some_iff.mp e; obtain ⟨kvs, e2, e⟩ := e
  obtain ⟨k, e3, rfl⟩ := Option.map_eq_some_iff.mp e
  refine ha _ _ _ _ _ s H S r A e1 h _ fun v1 H1 S1 r1 A1 m1 h1 d1 => ?_
  obtain ⟨a, ws, q1, q2, q3, _⟩ := rd_dn h1 e2
  obtain ⟨bb, rfl, hk⟩ := keyN_some e3 d1
  exact ⟨_, q1, a, bb, S1, ws, kvs, k, rfl, rfl, h1.hs, q2, q3, hk, q _ H1 S1 r1 A1 m1 h1 (.bl _)⟩
theorem x_nput (hb : EvS K tb b) (ha : EvS K ta a) : ExS K (sNPut K (tVar i) tb ta) (xNput i b a) := fun l g o l' g' s H S r A e h D q => by
  replace e := mb_some e; obtain ⟨x, l1, g1, e1, e⟩ := e
  replace e := mb_some e; obtain ⟨y0, l2, g2, e2, e⟩ := e
  replace e2 := mg_some e2; obtain ⟨e2, rfl, rfl⟩ := e2
  replace e := mb_some e; obtain ⟨y, l3, g3, e3, e⟩ := e
  split at e
  · rename_i kvs k e4 e5
    split at e
    · rename_i hz
      cases e
      refine ha _ _ _ _ _ s H S r A e1 h _ fun v1 H1 S1 r1 A1 m1 h1 d1 => ?_
      obtain ⟨ad, ws, q1, _⟩ := rd_dn h1 e2
      refine ⟨_, q1, hb _ _ _ _ _ s H1 S1 r1 A1 e3 h1 _ fun v2 H2 S2 r2 A2 m2 h2 d2 => ?_⟩
      obtain ⟨ad', ws, q2, q3, q4, q5⟩ := rd_dn h2 e4
      rw [q1] at q2
      cases q2
      obtain ⟨bb, rfl, hk⟩ := keyN_some e5 d2
      exact ⟨ad, bb, S2, ws, kvs, k, x, rfl, rfl, h2.hs, q3, q4, hk, Dp_mono d1 m2.s, hz, fun xs' hx => (q5 _ _ hx).elim fun h3 m3 => q s _ S2 r2 A2 ((m1.trans m2).trans m3) h3⟩
    · cases e
  · cases e
theorem s_none (hb : EvS K tb b) (ha : EvS K ta a) : EvCN K (tNDisp K tb ta) (lNone b a) := fun l g d l' g' s H S r A e h Q q => by
  replace e := mb_some e; obtain ⟨y, l1, g1, e1, e⟩ := e
  replace e := mb_some e; obtain ⟨x, l2, g2, e2, e⟩ := e
  replace e := mb_some e; obtain ⟨k, l3, g3, e3, e⟩ := e
  replace e3 := mo_some e3; obtain ⟨e3, rfl, rfl⟩ := e3
  obtain ⟨rfl, rfl, rfl⟩ := mp_some e
  intro p hp
  have gr : Grow m0 S H S (upd H p (DnO K.P K.w p [])) := Grow.out h.hs hp
  have ht : ¬ tr S (upd H p (DnO K.P K.w p [])) A r p := fun z => (h.there (tr_upd z dnO_tbl)).1 hp
  refine hb _ _ _ _ _ s _ S r A e1 (h.grow gr) _ fun v1 H1 S1 r1 A1 m1 h1 d1 => ha _ _ _ _ _ s H1 S1 r1 A1 e2 h1 _ fun v2 H2 S2 r2 A2 m2 h2 d2 => ?_
  have m12 := m1.trans m2
  have hp2 : H2 p = some (DnO K.P K.w p []) := m12.k p _ ht upd_same
  have sp2 : S2 p = none := m12.n p (h.hs.free hp) (some_ne upd_same) ht
  have ht2 : ¬ tr S2 H2 A2 r2 p := fun z => by
    rcases m12.f p z with z | z
    · exact ht z
    · rw [upd_same] at z; cases z
  obtain ⟨bb, rfl, hk⟩ := keyN_some e3 (Dp_mono d1 m2.s)
  refine ⟨hp2, bb, S2, k, x, rfl, h2.hs, hk, d2, fun xs hx => ?_⟩
  have mm := (Mv.grow (K := K) (r := r) (A := A) gr).trans m12
  have hput : StOk K l' g' s (upd H2 p (DnO K.P K.w p xs)) S2 r2 A2 := by
    refine h2.move (Same.refl S2) (fun b z e => ?_) (fun b hb => ⟨(h2.thereA hb).2, fun u e => ?_⟩) ⟨[], by simp⟩ h2.rn h2.dr h2.lg (fun j b o e1 e2 => ?_) (h2.tb.go (Same.refl S2) (fun b hb => (h2.tb.there hb).2) fun b u hb e => by rw [upd_ne fun z => ht2 (.inr (.inr (by rw [← z]; exact hb)))]; exact e)
    · rw [upd_ne (ne_of_none e sp2)]; exact h2.hs b z e
    · rw [upd_ne fun z => ht2 (.inl (by rw [← z]; exact hb))]; exact e
    · obtain ⟨p1, p2⟩ := h2.st j b o e1 e2
      exact ⟨p1, p2.go (Same.refl S2) (.upd (fun z => ht2 (.inr (.inl (by rw [← z]; exact List.mem_of_getElem? e1)))) hp2 (fun _ z => nomatch z)) ⟨[], by simp⟩⟩
  have mnew : Mv K S H r A S2 (upd H2 p (DnO K.P K.w p xs)) r2 A2 := by
    refine ⟨mm.s, hput.hs, mm.n, fun b o hb e => ?_, fun b e => ?_, mm.p, fun b z => mm.f b (tr_upd z dnO_tbl), fun b e => tUpd (fun ps z => dnO_tbl ps (Option.some.inj (hp2.symm.trans z))) b (mm.t b e)⟩
    · have hbD : b ≠ p := fun z => by rw [z, hp] at e; cases e
      rw [upd_ne hbD]; exact mm.k b o hb e
    · by_cases hbD : b = p
      · subst hbD; rw [upd_same]; exact fun z => nomatch z
      · rw [upd_ne hbD]; exact mm.d b e
  exact q p xs _ S2 r2 A2 mnew hput hp (fun z => ht2 (tr_upd z dnO_tbl)) sp2 upd_same hx
theorem u_N {m : M (List Vl)} {tm : TA} {a : M KNs} (h1 : EvCN K te a) (h2 : EvN K tm m) : EvN K (tCons te tm) (uN a m) := fun l g d l' g' s H S r A e h Q q => by
  replace e := mb_some e; obtain ⟨x, l1, g1, e1, e⟩ := e
  replace e := mb_some e; obtain ⟨xs, l2, g2, e2, e⟩ := e
  obtain ⟨rfl, rfl, rfl⟩ := mp_some e
  exact h1 _ _ _ _ _ s H S r A e1 h _ fun p ys H1 S1 r1 A1 m1 k1 hp ht sp hx hd => u_new (x := .dnk x) (Y := fun _ _ _ => True) h2 e2 m1 k1 hp ht ⟨p, rfl, rfl, sp, ys, hx, hd⟩ q
end
section
variable {l : Lo} {g : Sg} {i j : Nat} {a b : M PyData} {h : M Nat} {kvs : KNs} {k : NestedKey} {y : PyData}
theorem dnV_of (e : l[i]? = some (.dnk kvs)) : dnV l i = some kvs := by unfold dnV; rw [e]
theorem wp_eNget {Q : PyData → Lo → Sg → Prop} (h0 : ∃ kvs, l[i]? = some (.dnk kvs)) (h : Wp b l g fun y l1 g1 => ∃ kvs k, l1[i]? = some (.dnk kvs) ∧ keyN y = some k ∧ Has (valG kvs k) fun z => Q z l1 g1) : Wp (eNget i b) l g Q := by
  obtain ⟨kv0, h0⟩ := h0
  refine wp_mb (wp_mg ⟨kv0, dnV_of h0, wp_mb (wp_mono h fun y l1 g1 hh => ?_)⟩)
  obtain ⟨kvs, k, e1, e2, z, e3, q⟩ := hh
  exact wp_mg ⟨z, by rw [dnV_of e1, Option.bind_some, e2, Option.bind_some, e3], q⟩
theorem wp_eNnot {Q : PyData → Lo → Sg → Prop} (h : Wp a l g fun y l1 g1 => ∃ kvs k, l1[i]? = some (.dnk kvs) ∧ keyN y = some k ∧ Q (.bool (!(valG kvs k).isSome)) l1 g1) : Wp (eNin true a i) l g Q := by
  refine wp_mb (wp_mono h fun y l1 g1 hh => ?_)
  obtain ⟨kvs, k, e1, e2, q⟩ := hh
  exact wp_mg ⟨_, by rw [dnV_of e1, Option.bind_some, e2, Option.map_some]; rfl, q⟩
theorem wp_nput {Q : Out → Lo → Sg → Prop} (h : Wp a l g fun x l1 g1 => (∃ kvs, l1[i]? = some (.dnk kvs)) ∧ Wp b l1 g1 fun y l2 g2 => ∃ kvs k l3, l2[i]? = some (.dnk kvs) ∧ keyN y = some k ∧ kvs.length < 4000000 ∧ SetR l2 i (.dnk (putG kvs k x)) l3 ∧ Q .nx l3 g2) : Wp (xNput i b a) l g Q := by
  refine wp_mb (wp_mono h fun x l1 g1 hh => ?_)
  obtain ⟨⟨kv0, h0⟩, hh⟩ := hh
  refine wp_mb (wp_mg ⟨kv0, dnV_of h0, wp_mb (wp_mono hh fun y l2 g2 hh => ?_)⟩)
  obtain ⟨kvs, k, l3, e1, e2, e3, s, q⟩ := hh
  refine ⟨_, _, _, ?_, q⟩
  (try dsimp only)
  rw [dnV_of e1, e2]
  show (if kvs.length < 4000000 then _ else _) = _
  rw [if_pos e3, s.eq]
theorem wp_lNone {Q : KNs → Lo → Sg → Prop} (hh : Wp b l g fun y l1 g1 => Wp a l1 g1 fun x l2 g2 => Has (keyN y) fun k => Q [(k, x)] l2 g2) : Wp (lNone b a) l g Q := by
  refine wp_mb (wp_mono hh fun y l1 g1 hh => wp_mb (wp_mono hh fun x l2 g2 hh => wp_mb (wp_mo ?_)))
  obtain ⟨k, e, q⟩ := hh
  exact ⟨k, e, wp_mp q⟩
theorem wp_uN {ww : M (List Vl)} {z : M KNs} {Q : List Vl → Lo → Sg → Prop} (h : Wp z l g fun d l1 g1 => Wp ww l1 g1 fun xs l2 g2 => Q (.dnk d :: xs) l2 g2) : Wp (uN z ww) l g Q := wp_mb (wp_mono h fun _ _ _ h => wp_mb (wp_mono h fun _ _ _ h => wp_mp h))
theorem ex_keyN {Q : KNs → NestedKey → Prop} (h : l[i]? = some (.dnk kvs)) (hk : keyN y = some k) (q : Q kvs k) : ∃ kvs k, l[i]? = some (.dnk kvs) ∧ keyN y = some k ∧ Q kvs k := ⟨kvs, k, h, hk, q⟩
theorem ex_nput {l2 : Lo} {n : Nat} {Q : Lo → Prop} {x : PyData} (h : l[i]? = some (.dnk kvs)) (hk : keyN y = some k) (hz : kvs.length < n) (hs : SetR l i (.dnk (putG kvs k x)) l2) (q : Q l2) : ∃ kvs k l3, l[i]? = some (.dnk kvs) ∧ keyN y = some k ∧ kvs.length < n ∧ SetR l i (.dnk (putG kvs k x)) l3 ∧ Q l3 := ⟨kvs, k, l2, h, hk, hz, hs, q⟩
theorem ex_dnk {P : Prop} (h : l[i]? = some (.dnk kvs)) (q : P) : (∃ kvs, l[i]? = some (.dnk kvs)) ∧ P := ⟨⟨kvs, h⟩, q⟩
end
end Sm

namespace Sm
open PySem PySem.SeqAt PySem.Spec PyProof.Rows L2 RZ SrtO Dz
end Sm

namespace Sm
open PySem PySem.SeqAt PySem.Spec PyProof.Rows L2 RZ SrtO Dz
def eInDV (neg : Bool) (a : M PyData) (i : Nat) : M PyData := mb a fun x => mg fun l g => (lsV l g i).bind fun ds => inDD neg x (.list ds)
section
variable {K : Kx} {ta tb : TE} {a b : M PyData} {i : Nat}
theorem s_notinDV (ha : EvS K ta a) : EvS K (tOp (rNotInD K) ta (tVar i)) (eInDV true a i) := fun l g d l' g' s H S r A e h Q q => by
  replace e := mb_some e; obtain ⟨y, l1, g1, e1, e⟩ := e
  replace e := mg_some e; obtain ⟨e, rfl, rfl⟩ := e
  replace e := Option.bind_eq_some_iff.mp e; obtain ⟨ds, e3, e⟩ := e
  refine ha _ _ _ _ _ s H S r A e1 h _ fun v1 H1 S1 r1 A1 m1 h1 d1 => ?_
  obtain ⟨a', xs, q2, q3, q4⟩ := rd_ls h1 e3
  unfold inDD at e
  simp only at e
  split at e
  · rename_i hq
    cases e
    exact ⟨_, q2, _, _, Dp_mono d1 h1.hs, .lst q3 (DpAll_mono q4 h1.hs), hq.1, hq.2, q _ H1 S1 r1 A1 m1 h1 (.bl _)⟩
  · cases e
end
section
variable {l : Lo} {g : Sg} {a b : M PyData} {i : Nat} {ds : List PyData} {Q : PyData → Lo → Sg → Prop}
theorem wp_eInDV {n : Bool} (h : Wp a l g fun x l1 g1 => ∃ es, lsV l1 g1 i = some es ∧ Has (inDD n x (.list es)) fun z => Q z l1 g1) : Wp (eInDV n a i) l g Q :=
  wp_mb (wp_mono h fun x l1 g1 ⟨es, h1, z, hz, q⟩ => wp_mg ⟨z, by rw [h1]; exact hz, q⟩)
end
end Sm

namespace Sm
open PySem PySem.SeqAt PySem.Spec PySem.W PyProof.Rows L2 RZ SrtO Dz
noncomputable def sortDD : List PyData → Option PyData
  | [x] => (seqD x).bind fun ds => @ite _ (AllAlike ds ∧ Sortable ds ∧ ∀ d ∈ ds, d.depth ≤ 60) (Classical.propDecidable _) (some (.list (ds.mergeSort (dataLe false id)))) none
  | _ => none
theorem rc_sortDD {K : Kx} : RCO K (rSortD K) sortDD := fun as c e => by
  unfold sortDD at e
  split at e
  · rename_i x
    obtain ⟨ds, e1, e2⟩ := Option.bind_eq_some_iff.mp e
    split at e2
    · rename_i hq
      cases e2
      intro vs S H Q hs hx q
      cases hx with
      | cons h1 h2 =>
        cases h2
        cases h1 with
        | lst h3 h4 =>
          cases e1
          exact ⟨_, _, _, S, rfl, .inl (hs.seq h3), hs, h4, hq.1, hq.2.1, hq.2.2, fun ys p hy hn => new_lst hs hy q p hn⟩
        | tup h3 h4 =>
          cases e1
          exact ⟨_, _, _, S, rfl, .inr (same_seqT hs h3), hs, h4, hq.1, hq.2.1, hq.2.2, fun ys p hy hn => new_lst hs hy q p hn⟩
        | _ => cases e1
    · cases e2
  · cases e
theorem sortDD_of {x : PyData} {ds es : List PyData} (h : seqD x = some ds) (h1 : AllAlike ds) (h2 : Sortable ds) (h3 : ∀ d ∈ ds, d.depth ≤ 60) (h4 : ds.mergeSort (dataLe false id) = es) : sortDD [x] = some (.list es) := by
  show (seqD x).bind _ = _
  rw [h, Option.bind_some, if_pos ⟨h1, h2, h3⟩, h4]
end Sm

namespace Sm
open PySem PySem.SeqAt PySem.Spec PyProof.Rows L2 RZ SrtO Dz
mutual
def nl : PyData → Bool
  | .list _ => false
  | .tuple xs => nlA xs
  | _ => true
def nlA : List PyData → Bool
  | [] => true
  | x :: xs => nl x && nlA xs
end
def delS (S : Hp) (a : Addr) : Hp := fun b => if b = a then none else S b
section
variable {K : Kx} {S : Hp} {a : Addr} {ys : List V}
theorem zdel_ne {b : Addr} (h : b ≠ a) : delS S a b = S b := if_neg h
theorem rd_del (ha : S a = some (.lst ys)) {b : Addr} {u : HO} (hu : ∀ zs, u ≠ .lst zs) (h : Rd S b u) : Rd (delS S a) b u := by
  have hb : b ≠ a := fun z => by
    subst z
    rcases h with h | ⟨o, h⟩
    · rw [ha] at h; cases h; exact hu _ rfl
    · rw [ha] at h; cases h
  rcases h with h | ⟨o, h⟩
  · exact .inl (by rw [zdel_ne hb]; exact h)
  · exact .inr ⟨o, by rw [zdel_ne hb]; exact h⟩
theorem sqT_del (ha : S a = some (.lst ys)) {b : Addr} {xs : List V} (h : SqT K S b xs) : SqT K (delS S a) b xs := h.imp (rd_del ha fun zs z => by cases z) id
mutual
theorem dp_del (ha : S a = some (.lst ys)) : ∀ (d : PyData) (v : V), nl d = true → Dp K S v d → Dp K (delS S a) v d
  | .none, _, _, h => by cases h; exact .non
  | .bool b, _, _, h => by cases h; exact .bl b
  | .int i, _, _, h => by cases h; exact .int i
  | .str x, _, _, h => by cases h; exact .str x
  | .list xs, _, h0, _ => by simp [nl] at h0
  | .tuple xs, _, h0, h => by
    cases h with
    | tup h1 h2 => exact .tup (sqT_del ha h1) (dpA_del ha xs _ (by simpa [nl] using h0) h2)
  | .dict _, _, _, h => nomatch h
theorem dpA_del (ha : S a = some (.lst ys)) : ∀ (ds : List PyData) (vs : List V), nlA ds = true → DpAll K S vs ds → DpAll K (delS S a) vs ds
  | [], _, _, h => by cases h; exact .nil
  | d :: ds, _, h0, h => by
    cases h with
    | cons h1 h2 =>
      rw [nlA, Bool.and_eq_true] at h0
      exact .cons (dp_del ha d _ h0.1 h1) (dpA_del ha ds _ h0.2 h2)
end
end
section
variable {K : Kx} {l l' : Lo} {g g' : Sg} {s : L2.St} {H S H1 S1 H2 S2 : Hp} {r r1 r2 : List Addr} {A A1 A2 : List (Option Addr)}
theorem kv_del {a : Addr} {ys : List V} (ha : S a = some (.lst ys)) : ∀ {ws : List (Key × V)} {kvs : List (Key × PyData)}, (kvs.all fun p => nl p.2) = true → KvD K S ws kvs → KvD K (delS S a) ws kvs := fun {ws kvs} h0 h => by
  unfold KvD at h ⊢
  induction h with
  | nil => exact .nil
  | cons h1 h2 ih =>
    rw [List.all_cons, Bool.and_eq_true] at h0
    exact .cons ⟨h1.1, dp_del ha _ _ h0.1 h1.2⟩ (ih h0.2)
end
end Sm

namespace Sm
open PySem PySem.SeqAt PySem.Spec PyProof.Rows L2 RZ SrtO Dz
section
variable {K : Kx} {ta te tb : TE} {a b : M PyData} {i : Nat}
end
section
variable {l : Lo} {g : Sg} {a b : M PyData} {i : Nat}
end
end Sm

namespace Sm
open PySem PySem.SeqAt PySem.Spec PyProof.Rows L2 RZ SrtO Dz
section
variable {K : Kx} {ta tb : TE} {a b : M PyData} {i : Nat}
end
section
variable {l : Lo} {g : Sg} {a b : M PyData} {i : Nat} {ds : List PyData} {d : PyData}
end
end Sm

namespace Sm
open PySem PySem.SeqAt PySem.Spec PyProof.Rows L2 RZ SrtO Dz
end Sm

namespace Sm
open PySem PySem.Spec PyProof.Rows L2 RZ SrtO Dz
section
variable {K : Kx} {te : TE} {ta : TA} {i : Nat}
end
section
variable {l : Lo} {g : Sg} {i : Nat} {kvs : KNs}
end
end Sm

namespace Sm
open PySem PySem.SeqAt PySem.Spec PyProof.Rows L2 RZ SrtO Dz
mutual
theorem nl_key : ∀ k : NestedKey, nl k.data = true
  | .none => by simp only [NestedKey.data, nl]
  | .num i => by simp only [NestedKey.data, nl]
  | .text x => by simp only [NestedKey.data, nl]
  | .tup ks => by simp only [NestedKey.data, nl]; exact nl_keys ks
theorem nl_keys : ∀ ks : List NestedKey, nlA (NestedKey.datas ks) = true
  | [] => by simp only [NestedKey.datas, nlA]
  | k :: ks => by simp only [NestedKey.datas, nlA, nl_key k, nl_keys ks, Bool.and_self]
end
section
variable {K : Kx} {S H : Hp} {r : List Addr}
end
end Sm

namespace Sm
open PySem PySem.SeqAt PySem.Spec PyProof.Rows L2 RZ SrtO Dz
def eTupRg (a : M PyData) : M PyData := mb a fun x => mo ((asI x).bind fun n => if rgO n = true then some (.tuple (rng 0 n.toNat)) else none)
section
variable {K : Kx} {ta tb : TE} {a b : M PyData} {l : Lo} {g : Sg}
theorem s_tupRg (ha : EvS K ta a) : EvS K (tTupRg (tRg1 ta)) (eTupRg a) := fun l g d l' g' s H S r A e h Q q => by
  replace e := mb_some e; obtain ⟨x, l1, g1, e1, e⟩ := e
  replace e := mo_some e; obtain ⟨e, rfl, rfl⟩ := e
  replace e := Option.bind_eq_some_iff.mp e; obtain ⟨n, e2, e⟩ := e
  cases asI_some e2
  split at e
  · rename_i hz
    have hz := rgO_ok hz
    cases e
    refine ha _ _ _ _ _ s H S r A e1 h _ fun v1 H1 S1 r1 A1 m1 h1 d1 => ?_
    cases d1
    refine ⟨n, rfl, ⟨by omega, by omega, by omega, by omega, by omega⟩, new_tup h1.hs ?_ fun v S3 H3 g3 d3 => q v H3 S3 r1 A1 (m1.trans (Mv.grow g3)) (h1.grow g3) d3⟩
    have := rgV_dp (K := K) (S := S1) 0 n
    rwa [Int.sub_zero] at this
  · cases e
theorem wp_eTupRg {Q : PyData → Lo → Sg → Prop} (h : Wp a l g fun x l1 g1 => ∃ n, x = .int n ∧ (n ≤ 4000000 ∧ -4000000 ≤ n) ∧ Q (.tuple (rng 0 n.toNat)) l1 g1) : Wp (eTupRg a) l g Q := by
  obtain ⟨x, l1, g1, e, n, rfl, hn, q⟩ := h
  exact ⟨_, l1, g1, by unfold eTupRg mb; rw [e]; simp [mo, asI, rgO, hn.1, hn.2], q⟩
end
end Sm

namespace Sm
open PySem PySem.SeqAt PySem.Spec PyProof.Rows L2 RZ SrtO Dz
section
variable {K : Kx} {ta tb : TE} {tm : TA} {a b : M Vl} {m : M (List Vl)} {Fd F1 F2 : FS} {n1 n2 : Str} {c1 c2 : Nat}
end
end Sm

namespace Sm
open PySem PySem.SeqAt PySem.Spec PyProof.Rows L2 RZ SrtO Dz
section
variable {K : Kx}
end
end Sm

namespace Sm
open PySem PySem.SeqAt PySem.Spec PyProof.Rows L2 RZ SrtO Dz
section
variable {K : Kx} {ta : TE} {a : M PyData} {l : Lo} {g : Sg}
end
end Sm

namespace Sm
open PySem PySem.SeqAt PySem.Spec PyProof.Rows L2 RZ SrtO Dz
end Sm

namespace Sm
open PySem PySem.SeqAt PySem.Spec PyProof.Rows L2 RZ SrtO Dz
section
variable {K : Kx} {ta tb : TE} {a b : M PyData} {l : Lo} {g : Sg}
end
end Sm

namespace Sm
open PySem PySem.SeqAt PySem.Spec PyProof.Rows L2 RZ SrtO Dz
section
variable {K : Kx} {ta te : TE} {a : M PyData} {h : M Nat}
end
section
variable {l : Lo} {g : Sg} {a : M PyData} {h : M Nat} {Q : PyData → Lo → Sg → Prop}
end
end Sm

namespace Sm
open PySem PySem.SeqAt PySem.Spec PyProof.Rows L2 RZ SrtO Dz
section
variable {K : Kx} {ta tb tc : TE} {m : M (List PyData)} {b c : M PyData} {i j k : Nat}
end
theorem nselfI (x : Int) : (!decide (x = x)) = false := by simp
end Sm

namespace Dz
open PySem
end Dz
namespace Sm
open PySem PySem.Spec PyProof.Rows L2 RZ SrtO Dz
end Sm

namespace Sm
open PySem PySem.SeqAt PySem.Spec PySem.W PyProof.Rows L2 RZ SrtO Dz
end Sm

namespace Sm
open PySem PySem.SeqAt PySem.Spec PySem.W PyProof.Rows L2 RZ SrtO Dz
section
variable {K : Kx} {ta tb tc : TE} {a b c : M Vl} {i j k : Nat}
end
end Sm

namespace Dz
open PySem PySem.Spec PySem.SeqAt PyProof.Rows L2 RZ LamX
structure ExcC (K : PySem.W.Frag) (mg : Str → Option Value) (x : Str) : Prop where
  ex : ∃ C, mg x = some (.ref C) ∧ PySem.W.excIn K C He.veBase "ValueError.__new__" = true ∧ PySem.W.keepIn K (.ref C) = true ∧ PySem.W.subIn K (.ref C) (.type "BaseException") = some true ∧ PySem.W.typeIn K (.ref C) = some (.type "type") ∧ PySem.W.exmOne K (.ref C) (.ref C) = some true
section
variable {X : Cx} {κ : Kx} {k n : Nat} {x C m : Str} {ps ks : List Str} {dv : List V} {ds : List Value} {sp : Sp} {W : WX} {gV : List V → List V → List V} {p pos apos : Pos} {o e : Expr} {es : List Expr} {kws : List Keyword} {ta : TE} {t tk : TA} {pl : Sem Bool}
structure CalX (P : Program) (w : World) (K : PySem.W.Frag) (mg : Str → Option Value) (base : Heap) (k : Nat) (x : Str) (ps : List Str) (sp : Sp) : Prop where
  ex : ∃ f fd, FnOk P w K mg base (L2.CX P w) k f fd ps sp ∧ mg x = some (.ref f) ∧ PySem.W.keepIn K (.ref f) = true ∧ Binds K fd ps []
structure CalMX (P : Program) (w : World) (K : PySem.W.Frag) (mg : Str → Option Value) (base : Heap) (k : Nat) (C m : Str) (ps : List Str) (dv : List V) (sp : Sp) : Prop where
  ex : ∃ cls f fd ds, mg C = some (.ref cls) ∧ Cls K cls ∧ Meth K cls m f ∧ FnOk P w K mg base (L2.CX P w) k f fd ps sp ∧ Vals dv ds ∧ Binds K fd ps ds
structure CalMKX (P : Program) (w : World) (K : PySem.W.Frag) (mg : Str → Option Value) (base : Heap) (k : Nat) (C m : Str) (ps : List Str) (n : Nat) (ks : List Str) (gV : List V → List V → List V) (sp : Sp) : Prop where
  ex : ∃ cls f fd g, mg C = some (.ref cls) ∧ Cls K cls ∧ Meth K cls m f ∧ FnOk P w K mg base (L2.CX P w) k f fd ps sp ∧ KBn K fd ps (n + 1) ks g gV
theorem CalX.mono {P : Program} {w : World} {K : PySem.W.Frag} {mg : Str → Option Value} {base : Heap} {j : Nat} (c : CalX P w K mg base j x ps sp) (h : j ≤ k) : CalX P w K mg base k x ps sp := let ⟨f, fd, a, b⟩ := c.ex; ⟨f, fd, a.mono h, b⟩
theorem CalMX.mono {P : Program} {w : World} {K : PySem.W.Frag} {mg : Str → Option Value} {base : Heap} {j : Nat} (c : CalMX P w K mg base j C m ps dv sp) (h : j ≤ k) : CalMX P w K mg base k C m ps dv sp := let ⟨cls, f, fd, ds, a, b, d, e, q⟩ := c.ex; ⟨cls, f, fd, ds, a, b, d, e.mono h, q⟩
theorem CalMKX.mono {P : Program} {w : World} {K : PySem.W.Frag} {mg : Str → Option Value} {base : Heap} {j : Nat} (c : CalMKX P w K mg base j C m ps n ks gV sp) (h : j ≤ k) : CalMKX P w K mg base k C m ps n ks gV sp := let ⟨cls, f, fd, ds, a, b, d, e, q⟩ := c.ex; ⟨cls, f, fd, ds, a, b, d, e.mono h, q⟩
end
section
variable {P : Program} {w : World} {K : PySem.W.Frag} {mg : Str → Option Value} {base : Heap}
end
end Dz
namespace Sm
open PySem PySem.Spec PyProof.Rows L2 RZ SrtO Dz
def ExcR (K : Kx) (S H : Hp) : List PyData → Value → Option Addr → Prop
  | [.str n], c, d => ∃ C, K.mg n = some (.ref C) ∧ c = .ref C ∧ d = none
  | [.str n, .str f, x], c, d => ∃ C dx v, K.mg n = some (.ref C) ∧ c = .ref C ∧ d = some dx ∧ H dx = some (.xd [(f, v)]) ∧ S dx = none ∧ Dp K S v x
  | _, _, _ => False
def spGX (K : Kx) (n : Nat) (F : FS) : Sp := fun vs H Q E => ∃ S r g as v g', as.length = n ∧ Same S H ∧ StoOk K S H r g ∧ VsOk K S r vs as ∧ F as g = some (v, g') ∧
  ∀ S' H' r', GrowT (inR S H r) S H S' H' → (∃ q, r' = r ++ q) → (∀ a, a ∈ r' → a ∈ r ∨ H a = none) → StoOk K S' H' r' g' → (∀ w, VOk K S' r' w v → Q w H') ∧ ∀ x, v = .own x → ∀ c d, ExcR K S' H' x c d → E c d H'
section
variable {K : Kx} {W : WX} {te ta tb : TE} {tu tv ts : TS} {tt : TT} {x y b h : X} {v a : M Vl} {t : M Bool} {i : Nat}
end
end Sm

namespace Dz
open PySem PySem.Spec PySem.SeqAt PyProof.Rows L2 RZ LamX
structure ExcF (K : PySem.W.Frag) (mg : Str → Option Value) (x f : Str) : Prop where
  ex : ∃ C fI, mg x = some (.ref C) ∧ OexC K C ∧ XfC K C ∧ PySem.W.findIn K (.ref C) "__init__" = some (some (.ref fI)) ∧ PySem.W.typeIn K (.ref fI) = some (.type "function") ∧ PySem.W.findIn K (.ref C) f = some none ∧ PySem.W.exmOne K (.ref C) (.ref C) = some true
structure SeC (K : PySem.W.Frag) (mg : Str → Option Value) (x : Str) : Prop where
  ex : ∃ C, mg x = some (.ref C) ∧ PySem.W.readsIn K C (.type "type") = true ∧ PySem.W.specialIn K (.ref C) "__getattribute__" = some (some (.builtin "type.__getattribute__")) ∧ PySem.W.findCls K (.ref C) (.type "type") "__init__" = some (.val (.builtin "ValueError.__init__"))
def spE (K : PySem.W.Frag) (f : Str) : Sp := fun vs H Q _ => ∃ a C y, vs = [.ref a, y] ∧ OexC K C ∧ PySem.W.findIn K (.ref C) f = some none ∧ H a = some (exo a C none) ∧ ∀ dx, H dx = none → dx ≠ a → Q .non (upd (upd H dx (exd dx [(f, y)])) a (exo a C (some dx)))
structure CalE (P : Program) (w : World) (K : PySem.W.Frag) (mg : Str → Option Value) (base : Heap) (k : Nat) (x f : Str) (ps : List Str) : Prop where
  ex : ∃ C fI fd, mg x = some (.ref C) ∧ PySem.W.findIn K (.ref C) "__init__" = some (some (.ref fI)) ∧ FnOk P w K mg base CX0 k fI fd ps (spE K f) ∧ Binds K fd ps []
theorem CalE.mono {P : Program} {w : World} {K : PySem.W.Frag} {mg : Str → Option Value} {base : Heap} {j k : Nat} {x f : Str} {ps : List Str} (c : CalE P w K mg base j x f ps) (h : j ≤ k) : CalE P w K mg base k x f ps := let ⟨C, fI, fd, a, b, F, q⟩ := c.ex; ⟨C, fI, fd, a, b, F.mono h, q⟩
section
variable {X : Cx} {κ : Kx} {k : Nat} {x f : Str} {ps : List Str} {W : WX} {e : Expr} {es : List Expr} {te : TE} {ta : TA} {p p1 p2 pos : Pos}
end
end Dz
namespace Sm
open PySem PySem.Spec PyProof.Rows L2 RZ SrtO Dz
theorem StOk.noxd {K : Kx} {l : Lo} {g : Sg} {s : L2.St} {H S : Hp} {r : List Addr} {A : List (Option Addr)} {dx : Addr} {fs : List (Str × V)} (h : StOk K l g s H S r A) (e : H dx = some (.xd fs)) : ¬ tr S H A r dx := by
  rintro (z | z | ⟨_, ps, z⟩)
  · obtain ⟨i, hi⟩ := List.mem_iff_getElem?.mp z
    have hil : i < l.length := by rw [← h.la]; exact (List.getElem?_eq_some_iff.mp hi).1
    obtain ⟨o, v, e1, e2, e3⟩ := h.ok i _ (List.getElem?_eq_getElem hil)
    rw [hi] at e1
    cases e1
    revert e3
    generalize l[i] = x
    intro e3
    cases x with
    | no => cases e3
    | dat d => cases e3.1
    | own ds => obtain ⟨a, ea, _, _, xs, e4, _⟩ := e3; cases ea; rw [e] at e4; cases e4
    | dct ds => obtain ⟨a, ea, _, _, xs, e4, _⟩ := e3; cases ea; rw [e] at e4; cases e4
    | dnk ds => obtain ⟨a, ea, _, _, xs, e4, _⟩ := e3; cases ea; rw [e] at e4; cases e4
    | ref j => cases e3.1
    | fn F => cases e3.1
    | xt ds => cases e3.1
    | os b ds => cases e3.1
  · obtain ⟨j, hj⟩ := List.mem_iff_getElem?.mp z
    have hjl : j < g.length := by rw [← h.lg]; exact (List.getElem?_eq_some_iff.mp hj).1
    obtain ⟨_, e3⟩ := h.st j dx _ hj (List.getElem?_eq_getElem hjl)
    revert e3
    generalize g[j] = x
    intro e3
    cases x with
    | lst ds => obtain ⟨xs, e4, _⟩ := e3; rw [e] at e4; cases e4
    | dct ds => obtain ⟨xs, e4, _⟩ := e3; rw [e] at e4; cases e4
    | dnk ds => obtain ⟨xs, e4, _⟩ := e3; rw [e] at e4; cases e4
    | ins C fs => obtain ⟨_, _, _, _, e4, _⟩ := e3; rw [e] at e4; cases e4
  · rw [e] at z; cases z
theorem ExcR.go {K : Kx} {l : Lo} {g : Sg} {s : L2.St} {H S H1 S1 : Hp} {r r1 : List Addr} {A A1 : List (Option Addr)} (h : StOk K l g s H S r A) (m : Mv K S H r A S1 H1 r1 A1) : ∀ {x : List PyData} {c : Value} {d : Option Addr}, ExcR K S H x c d → ExcR K S1 H1 x c d := fun {x c d} e => by
  unfold ExcR at e ⊢
  split at e
  · exact e
  · obtain ⟨C, dx, v, e1, e2, e3, e4, e5, e6⟩ := e
    have nt := h.noxd e4
    exact ⟨C, dx, v, e1, e2, e3, m.k dx _ nt e4, m.n dx e5 (some_ne e4) nt, Dp_mono e6 m.s⟩
  · exact e.elim
def noX (F : FS) : FS := fun as g => match F as g with
  | some (.own _, _) => none
  | r => r
theorem noX_some {F : FS} {as : List Vl} {g g' : Sg} {v : Vl} (h : noX F as g = some (v, g')) : F as g = some (v, g') ∧ ∀ x, v ≠ .own x := by
  unfold noX at h
  split at h
  · cases h
  · rename_i hn
    exact ⟨h, fun x e => hn x g' (by rw [h, e])⟩
section
variable {K : Kx} {W : WX} {te ta tb : TE} {tu tv ts tf tfs : TS} {tt : TT} {x y b h : X} {v a : M Vl} {e0 : M PyData} {t : M Bool} {i j : Nat} {vs : List Nat}
end
theorem fnok_no {P : Program} {w : World} {K : PySem.W.Frag} {κ : Kx} {mg : Str → Option Value} {base : Heap} {k n : Nat} {f : Addr} {fd : FuncData} {ps : List Str} {F : FS} (h : FnOk P w K mg base (L2.CX P w) k f fd ps (spGX κ n F)) : FnOk P w K mg base CX0 k f fd ps (spG κ n (noX F)) := by
  have key : ∀ vs H Q E, spG κ n (noX F) vs H Q E → spGX κ n F vs H Q (fun _ _ _ => False) := fun vs H Q E ⟨S, r, g, as, v, g', hm, hs, so, hv, e, q⟩ => by
    obtain ⟨e1, e2⟩ := noX_some e
    exact ⟨S, r, g, as, v, g', hm, hs, so, hv, e1, fun S' H' r' g1 g2 g3 g4 => ⟨fun w hw => q w S' H' r' g1 g2 g3 g4 hw, fun x hx => absurd hx (e2 x)⟩⟩
  refine ⟨fun vs H Q E q => h.len vs H Q _ (key vs H Q E q), fun A outer s H args us vs Q E hr he hb hv q => ?_⟩
  refine codeAny_mono (h.run A outer s H args us vs Q (fun _ _ _ => False) hr he hb hv (key vs H Q E q)) fun r s' hq => ?_
  cases r with
  | ok fl => cases fl <;> exact hq
  | error er =>
    obtain ⟨_, _, _, _, _, _, _, _, _, _, _, _, z⟩ := hq
    exact z.elim
section
variable {P : Program} {w : World} {K : PySem.W.Frag} {κ : Kx} {mg : Str → Option Value} {base : Heap} {k n c : Nat} {C m x : Str} {ps ks : List Str} {dv : List V} {gV : List V → List V → List V} {F : FS}
theorem _root_.Dz.CalX.no (h : CalX P w K mg base k x ps (spGX κ n F)) : Cal P w K mg base k x ps (spG κ n (noX F)) := let ⟨f, fd, a, b⟩ := h.ex; ⟨f, fd, fnok_no a, b⟩
theorem _root_.Dz.CalMX.no (h : CalMX P w K mg base k C m ps dv (spGX κ n F)) : CalM P w K mg base k C m ps dv (spG κ n (noX F)) := let ⟨cls, f, fd, ds, a, b, d, e, q⟩ := h.ex; ⟨cls, f, fd, ds, a, b, d, fnok_no e, q⟩
theorem _root_.Dz.CalMKX.no (h : CalMKX P w K mg base k C m ps c ks gV (spGX κ n F)) : CalMK P w K mg base k C m ps c ks gV (spG κ n (noX F)) := let ⟨cls, f, fd, g, a, b, d, e, q⟩ := h.ex; ⟨cls, f, fd, g, a, b, d, fnok_no e, q⟩
end
end Sm
namespace Dz
open PySem PySem.Spec PySem.SeqAt PyProof.Rows L2 RZ LamX
end Dz

namespace Dz
open PySem PySem.Spec PySem.SeqAt PyProof.Rows L2 RZ LamX
section
variable {X : Cx} {e o value : Expr} {f : Str} {ta tv : TE} {pos pos' tpos : Pos}
end
end Dz
namespace Sm
open PySem PySem.Spec PyProof.Rows L2 RZ SrtO Dz
section
variable {K : Kx}
end
section
variable {K : Kx} {ts tu tv : TS} {te ta : TE} {tt : TT} {x y : X} {v : M Vl} {e0 : M PyData} {t : M Bool} {i j : Nat}
end
end Sm

namespace Dz
open PySem PySem.Spec PySem.SeqAt PyProof.Rows L2 RZ
section
variable {prog : Program} {w : World} {A : Around} {s : Shared} {E : Value → Shared → Prop}
def IsPairU (h : Heap) (v : Value) (x : Int) : Prop := ∃ a o t u n, v = .ref a ∧ h.get? a = some o ∧ o.cls = .type "tuple" ∧ o.data = .seq #[.int x t, u] n
theorem IsPairU.keeps {h h' : Heap} {v : Value} {x : Int} (p : IsPairU h v x) (k : ∀ b o, h.get? b = some o → o.cls = .type "tuple" → h'.get? b = some o) : IsPairU h' v x := by
  obtain ⟨a, o, t, u, n, e, ho, hc, hd⟩ := p
  exact ⟨a, o, t, u, n, e, k _ _ ho hc, hc, hd⟩
end
theorem F2.mem {α β : Type} {R : α → β → Prop} : ∀ {xs : List α} {ys : List β}, F2 R xs ys → F2 (fun x y => R x y ∧ y ∈ ys) xs ys
  | [], _, .nil => .nil
  | x :: xs, y :: ys, .cons h t => .cons ⟨h, List.mem_cons_self⟩ (by
    have := F2.mem t
    clear h t
    generalize hy : ys = zs at this ⊢
    have hs : ∀ z, z ∈ ys → z ∈ y :: zs := fun z hz => List.mem_cons_of_mem _ (hy ▸ hz)
    subst hy
    generalize hq : ys = qs at this hs
    have key : ∀ {as : List α} {bs : List β}, F2 (fun x y => R x y ∧ y ∈ qs) as bs → F2 (fun x z => R x z ∧ z ∈ y :: qs) as bs := fun {as bs} h => by
      induction h with
      | nil => exact .nil
      | cons h _ ih => exact .cons ⟨h.1, List.mem_cons_of_mem _ h.2⟩ ih
    subst hq
    exact key this)
section
variable {X : Cx}
end
end Dz

namespace Sm
open PySem PySem.Spec PyProof.Rows L2 RZ SrtO Dz
section
variable {K : Kx} {ta : TE} {a : M PyData} {w : M (List Str)} {ts : List TE}
end
section
variable {l : Lo} {g : Sg} {a : M PyData} {w : M (List Str)}
end
section
variable {K : Kx} {tt : TT} {te : TE} {t : M Bool} {e0 : M PyData} {tg : TG} {gg : G} {vs : List Nat} {i : Nat}
end
section
variable {K : Kx} {ta tb tc : TE} {m : M (List (Key × PyData))} {b c : M PyData} {i j k : Nat}
end
end Sm

namespace Sm
open PySem PySem.Spec PyProof.Rows L2 RZ SrtO Dz
section
variable {K : Kx} {ta tb : TE} {a b : M PyData}
end
section
variable {K : Kx} {S : Hp}
end
end Sm

namespace Sm
open PySem PySem.SeqAt PySem.Spec PyProof.Rows L2 RZ SrtO Dz
abbrev IRel (ι : Type) := Hp → List Addr → V → ι → Prop
structure MonoR {ι : Type} (R : IRel ι) : Prop where
  go : ∀ {S S1 : Hp} {r r1 : List Addr} {v : V} {x : ι}, R S r v x → Same S S1 → (∃ q, r1 = r ++ q) → R S1 r1 v x
structure WalkG {ι : Type} (J : It) (S : Hp) (r : List Addr) (R : IRel ι) (xs : List ι) : Prop where
  go : ∀ i H, i < xs.length → Same S H → J.go i H
  stop : ∀ H, Same S H → J.stop xs.length H
  yld : ∀ i H x H' d S2, xs[i]? = some d → Same S S2 → Same S2 H → J.yld i H x H' → ∃ S', Grow m0 S2 H S' H' ∧ R S' r x d
section
variable {K : Kx} {ta tb te : TE} {tr : TA}
end
section
variable {K : Kx} {tt : TT} {te : TE} {t : M Bool} {wi : TI} {vs : List Nat}
end
section
variable {K : Kx} {tu : TS} {x : X}
end

section
variable {l : Lo} {g : Sg} {ι κ : Type}
end
end Sm

namespace Dz
open PySem PySem.Spec PySem.SeqAt PyProof.Rows L2 RZ LamX
structure CalIX (P : Program) (w : World) (K : PySem.W.Frag) (mg : Str → Option Value) (base : Heap) (k : Nat) (C : Str) (ps : List Str) (dv : List V) (sp : Sp) : Prop where
  ex : ∃ cls f fd ds, mg C = some (.ref cls) ∧ Mk K cls f ∧ FnOk P w K mg base (L2.CX P w) k f fd ps sp ∧ Vals dv ds ∧ Binds K fd ps ds
structure CalIKX (P : Program) (w : World) (K : PySem.W.Frag) (mg : Str → Option Value) (base : Heap) (k : Nat) (C : Str) (ps : List Str) (n : Nat) (ks : List Str) (gV : List V → List V → List V) (sp : Sp) : Prop where
  ex : ∃ cls f fd g, mg C = some (.ref cls) ∧ Mk K cls f ∧ FnOk P w K mg base (L2.CX P w) k f fd ps sp ∧ KBn K fd ps (n + 1) ks g gV
section
variable {P : Program} {w : World} {K : PySem.W.Frag} {mg : Str → Option Value} {base : Heap} {j k n : Nat} {C : Str} {ps ks : List Str} {dv : List V} {sp : Sp} {gV : List V → List V → List V}
theorem CalIX.mono (c : CalIX P w K mg base j C ps dv sp) (h : j ≤ k) : CalIX P w K mg base k C ps dv sp := let ⟨cls, f, fd, ds, a, b, e, q⟩ := c.ex; ⟨cls, f, fd, ds, a, b, e.mono h, q⟩
theorem CalIKX.mono (c : CalIKX P w K mg base j C ps n ks gV sp) (h : j ≤ k) : CalIKX P w K mg base k C ps n ks gV sp := let ⟨cls, f, fd, ds, a, b, e, q⟩ := c.ex; ⟨cls, f, fd, ds, a, b, e.mono h, q⟩
end
section
variable {X : Cx} {κ : Kx} {k n : Nat} {C : Str} {ps ks : List Str} {dv dvs : List V} {ds : List Value} {sp : Sp} {W : WX} {p pos : Pos} {e : Expr} {es : List Expr} {t : TA}
end
end Dz
namespace Sm
open PySem PySem.SeqAt PySem.Spec PyProof.Rows L2 RZ SrtO Dz
section
variable {K : Kx} {W : WX} {ta : TA} {a : M (List Vl)} {C : Str} {F : FS} {n c : Nat} {dv : List V} {ds : List PyData}
end
end Sm

namespace Sm
open PySem PySem.SeqAt PySem.Spec PyProof.Rows L2 RZ SrtO Dz
section
variable {K : Kx} {te tb : TE}
end
section
variable {K : Kx} {ta tb : TE} {tu : TS} {x : X} {tg : TG} {gg : G} {h1 h2 : M Nat} {vs : List Nat}
end
section
variable {l : Lo} {g : Sg}
end
end Sm

namespace Sm
open PySem PySem.Spec PyProof.Rows L2 RZ SrtO Dz
def defD (F : FS) (n : Nat) : List PyData → Option PyData := fun ds => if ds.length = n then (match F (ds.map .dat) [] with
  | some (.dat d, _) => some d
  | _ => none) else none
theorem inR_nil {S H S1 H1 : Hp} (gr : GrowT (inR S H []) S H S1 H1) : GrowT (isTab S H) S H S1 H1 := gr.mono fun a z => z.elim (fun z => nomatch z) id
theorem sto_nil {K : Kx} {S H : Hp} (tb : TabsOk K S H) : StoOk K S H [] [] := ⟨List.nodup_nil, rfl, fun j a o e => by simp at e, tb⟩
theorem fnP_def {K : Kx} {k n : Nat} {x : Str} {ps : List Str} {F : FS} (c : Cal K.P K.w K.K K.mg K.base k x ps (spG K n F)) (hk : k ≤ K.lev) : ∃ f, K.mg x = some (.ref f) ∧ FnP K (defD F n) f (fun _ => True) := by
  obtain ⟨f, fd, Fn, hm, hkp, hb⟩ := c.ex
  refine ⟨f, hm, fun _ _ _ _ => trivial, fun _ _ _ _ _ _ _ _ _ => trivial, fun A outer s H S e0 hs _ M => PySem.W.keeps_K hkp _ (e0.mod.kin.keeps fun b o e => (e0.bs b o e).1), fun A outer s H us vs Q hr e0 rv hsp => ?_⟩
  obtain ⟨S, ds, d, _, hs, tb, hd, he, hQ⟩ := hsp
  unfold defD at he
  split at he
  case isFalse => cases he
  rename_i hl
  split at he
  case h_2 => cases he
  rename_i d' g' hF
  obtain rfl : d' = d := Option.some.inj he
  have sp : spG K n F vs H Q C8.E0 := ⟨S, [], [], ds.map .dat, .dat d', g', by rw [List.length_map]; exact hl, hs, sto_nil tb, vs_of ds vs hd, hF, fun w S' H' r' gr _ _ sto hw => hQ w S' H' (inR_nil gr) sto.2.2.2 hw⟩
  have hl2 : us.length = ps.length := by rw [← rv.length]; exact Fn.len _ _ _ _ sp
  exact Fn.run A outer s H ⟨us, []⟩ us vs Q C8.E0 (hr.mono hk) e0 (by
    have := hb s us (e0.mod.kin.keeps fun b o e => (e0.bs b o e).1) (by simpa using hl2)
    simpa using this) rv sp
def vDef (F : FS) (n : Nat) : M Vl := mp (.fn (defD F n))
theorem s_vDef {K : Kx} {k n : Nat} {x : Str} {ps : List Str} {F : FS} (c : Cal K.P K.w K.K K.mg K.base k x ps (spG K n F)) (hk : k ≤ K.lev) : EvV K (tGl K.mg x) (vDef F n) := fun l g d l' g' s H S r A e h Q q => by
  obtain ⟨rfl, rfl, rfl⟩ := mp_some e
  obtain ⟨f, hm, hF⟩ := fnP_def c hk
  intro f' hm'
  rw [hm] at hm'
  cases hm'
  exact q _ H S r A (Mv.refl h.hs) h ⟨f, _, rfl, trivial, hF⟩
def Pb (K : Kx) (X : Cx) (s : L2.St) (S : Hp) (v : V) (x : Vl) : Prop := ∀ B, Gnd K X s B → ∀ S', Same S S' → VOk (K.on B) S' [] v x
theorem Pb.go {K : Kx} {X : Cx} {s : L2.St} {S S1 : Hp} {v : V} {x : Vl} (h : Pb K X s S v x) (hs : Same S S1) : Pb K X s S1 v x := fun B g S' h' => h B g S' fun a o e => h' _ _ (hs _ _ e)
def EvB (K : Kx) (X : Cx) (te : TE) (m : M Vl) : Prop := ∀ l g d l' g' s H S r A, m l g = some (d, l', g') → StOk K l g s H S r A → ∀ Q : VK, (∀ v H' S' r' A', Mv K S H r A S' H' r' A' → StOk K l' g' s H' S' r' A' → Pb K X s S' v d → Q v H') → te s H Q
def EvBs (K : Kx) (X : Cx) (ta : TA) (m : M (List Vl)) : Prop := ∀ l g ds l' g' s H S r A, m l g = some (ds, l', g') → StOk K l g s H S r A → ∀ Q : List V → Hp → Prop, (∀ vs H' S' r' A', Mv K S H r A S' H' r' A' → StOk K l' g' s H' S' r' A' → Paired (Pb K X s S') vs ds → Q vs H') → ta s H Q
section
variable {K : Kx} {X : Cx} {te : TE} {ta : TA}
theorem s_bE {e : M PyData} (he : EvS K te e) : EvB K X te (vE e) := fun l g d l' g' s H S r A e h Q q => by
  replace e := mb_some e; obtain ⟨y, l1, g1, e1, e⟩ := e
  obtain ⟨rfl, rfl, rfl⟩ := mp_some e
  exact he _ _ _ _ _ s H S r A e1 h _ fun v H1 S1 r1 A1 m1 h1 d1 => q v H1 S1 r1 A1 m1 h1 fun B g S' hs => Dp_mono d1 hs
theorem s_bDef {k n : Nat} {x : Str} {ps : List Str} {F : FS} (c : ∀ B, (∀ b o, K.base.get? b = some o → B.get? b = some o) → Cal K.P K.w K.K K.mg B k x ps (spG (K.on B) n F)) (hk : k ≤ K.lev) : EvB K X (tGl K.mg x) (vDef F n) := fun l g d l' g' s H S r A e h Q q => by
  obtain ⟨rfl, rfl, rfl⟩ := mp_some e
  intro f' hm'
  refine q _ H S r A (Mv.refl h.hs) h fun B gB S' hs => ?_
  obtain ⟨f, hm, hF⟩ := fnP_def (K := K.on B) (c B gB.kp) hk
  have hm : K.mg x = some (.ref f) := hm
  rw [hm] at hm'
  obtain rfl : f = f' := by injection Option.some.inj hm'
  exact ⟨f, _, rfl, trivial, hF⟩
theorem s_bnil : EvBs K X tNil vNil := fun l g d l' g' s H S r A e h Q q => by
  obtain ⟨rfl, rfl, rfl⟩ := mp_some e
  exact q [] H S r A (Mv.refl h.hs) h .nil
theorem s_bcons {v : M Vl} {m : M (List Vl)} (hv : EvB K X te v) (hm : EvBs K X ta m) : EvBs K X (tCons te ta) (vCons v m) := fun l g d l' g' s H S r A e h Q q => by
  replace e := mb_some e; obtain ⟨y, l1, g1, e1, e⟩ := e
  replace e := mb_some e; obtain ⟨ys, l2, g2, e2, e⟩ := e
  obtain ⟨rfl, rfl, rfl⟩ := mp_some e
  exact hv _ _ _ _ _ s H S r A e1 h _ fun v H1 S1 r1 A1 m1 h1 p1 => hm _ _ _ _ _ s H1 S1 r1 A1 e2 h1 _ fun vs H2 S2 r2 A2 m2 h2 p2 => q (v :: vs) H2 S2 r2 A2 (m1.trans m2) h2 (.cons (p1.go m2.s) p2)
def eCallB (F : FS) (m : M (List Vl)) : M PyData := mb m fun xs => mo (match F xs [] with
  | some (.dat d, _) => some d
  | _ => none)
theorem s_callB {F : FS} {n : Nat} {code : Value} {qq : PySem.Str} {m : M (List Vl)} (TA : TabAt K code qq) (ha : EvBs K X ta m) (hn : ∀ l g xs l' g', m l g = some (xs, l', g') → xs.length = n) : EvS K (tCallB K X (fun B => spG (K.on B) n F) ta) (eCallB F m) := fun l g d l' g' s H S r A e h Q q => by
  obtain ⟨_, T0, _, tbb, _⟩ := TA.ex
  have bm := tbb.bm
  replace e := mb_some e; obtain ⟨xs, l1, g1, e1, e⟩ := e
  replace e := mo_some e; obtain ⟨e, rfl, rfl⟩ := e
  split at e
  case h_2 => cases e
  rename_i d' gx hF
  obtain rfl : d' = d := Option.some.inj e
  refine ha _ _ _ _ _ s H S r A e1 h _ fun vs H1 S1 r1 A1 m1 h1 p1 => fun B gB => ?_
  refine ⟨S1, [], [], xs, .dat d', gx, hn _ _ _ _ _ e1, h1.hs, sto_nil (h1.tb.on gB.kp), Paired.mapP p1 fun v x z => z B gB S1 fun _ _ e => e, hF, fun w S2 H2 r2 gr _ _ sto hw => ?_⟩
  obtain ⟨h2, m2⟩ := h1.gTab (inR_nil gr) (sto.2.2.2.off bm)
  exact q w H2 S2 r1 A1 (m1.trans m2) h2 hw
def freeB (sc sc' : Scope) : Bool := sc.names.all fun y => !(decide (y.2 = .free)) || decide (sc'.names.lookup y.1 = some .cell) || decide (sc'.names.lookup y.1 = some .free)
theorem free_by {sc sc' : Scope} (h : freeB sc sc' = true) : ∀ y ∈ sc.names, y.2 = .free → sc'.names.lookup y.1 = some .cell ∨ sc'.names.lookup y.1 = some .free := fun y hy e => by
  have := List.all_eq_true.mp h y hy
  simp only [Bool.or_eq_true, Bool.not_eq_true', decide_eq_true_eq, decide_eq_false_iff_not] at this
  rcases this with (z | z) | z
  · exact absurd e z
  · exact .inl z
  · exact .inr z
def mscB (N ps fr : List PySem.Str) (sc : Scope) : Bool := decide (sc.kind = .function) && (!sc.isCoroutine && (!sc.isGenerator && (decide N.Nodup && (decide (N.take (ps.length + fr.length) = ps ++ fr) && (ps.all (fun x => decide (sc.names.lookup x = some .local) || decide (sc.names.lookup x = some .cell)) && (sc.names.all (fun y => !decide (y.2 = .free) || decide (y.1 ∈ fr)) && (fr.all (fun x => decide (sc.names.lookup x = some .free)) && decide ((sc.names.map (·.1)).Nodup))))))))
theorem mscope_by {N ps fr : List PySem.Str} {sc : Scope} (h : mscB N ps fr sc = true) : MScope N ps fr sc := by
  unfold mscB at h
  simp only [Bool.and_eq_true, Bool.not_eq_true', decide_eq_true_eq, List.all_eq_true, Bool.or_eq_true, decide_eq_false_iff_not] at h
  obtain ⟨h1, h2, h3, h4, h5, h6, h7, h8, h9⟩ := h
  exact ⟨h1, h2, h3, h4, h5, h6, fun y hy e => (h7 y hy).elim (fun z => absurd e z) id, h8, h9⟩
def datV : Option Vl → Option PyData
  | some (.dat d) => some d
  | _ => none
def datsAt (l : Lo) : List Nat → Option (List PyData)
  | [] => some []
  | j :: js => (datV l[j]?).bind fun d => (datsAt l js).map (d :: ·)
def vLamC (n m : Nat) (b : M PyData) (js : List Nat) : M Vl := mg fun l _ => (datsAt l js).map fun cds => .fn fun ds => lamF n m b (ds ++ cds)
theorem datsAt_ok {l : Lo} {g : Sg} {s : L2.St} {H S : Hp} {r : List Addr} {A : List (Option Addr)} (h : StOk K l g s H S r A) : ∀ {js : List Nat} {cds : List PyData}, datsAt l js = some cds → ∃ ws : List V, js.map (fun j => s[j]?) = ws.map (fun v => some (some v)) ∧ DpAll K S ws cds
  | [], _, e => by
    cases e
    exact ⟨[], rfl, .nil⟩
  | j :: js, cds, e => by
    unfold datsAt at e
    obtain ⟨d, e1, e⟩ := Option.bind_eq_some_iff.mp e
    obtain ⟨ds, e2, rfl⟩ := Option.map_eq_some_iff.mp e
    obtain ⟨ws, k1, k2⟩ := datsAt_ok h e2
    have hl : l[j]? = some (.dat d) := by
      cases e3 : l[j]? with
      | none => rw [e3] at e1; cases e1
      | some x =>
        rw [e3] at e1
        cases x <;> first | (cases e1; rfl) | cases e1
    obtain ⟨o, v, q1, q2, _, w, rfl, q3⟩ := h.ok j _ hl
    exact ⟨w :: ws, by rw [List.map_cons, List.map_cons, k1, q2], .cons q3 k2⟩
theorem DpAll_len' {K : Kx} {S : Hp} {vs : List V} {ds : List PyData} (h : DpAll K S vs ds) : vs.length = ds.length := DpAll_len h
theorem s_bLam {ps : Arguments} {b : Expr} {sc : Scope} {N names fr : List Str} {js : List Nat} {n m k : Nat} {body : M PyData} (SC : MScope N names fr sc) (hlev : K.lev = k + 1) (hfree : ∀ y ∈ sc.names, y.2 = .free → X.env.scope.names.lookup y.1 = some .cell ∨ X.env.scope.names.lookup y.1 = some .free)
    (hjs : js.map (fun j => X.N[j]?) = fr.map some) (hN : N.length = n) (hm : m = names.length + fr.length) (hbind : ∀ (q : Str) (cl : List (Str × Addr)) (pm cv ct : Value) (us : List Value), us.length = names.length → bindArgs (PySem.W.kla_fn "<lambda>" q ps b sc cl pm cv ct) ⟨us, []⟩ = pure (names.zip us))
    (hbody : ∀ (B : Heap), (∀ b o, K.base.get? b = some o → B.get? b = some o) → ∀ (f c' : Addr) (cl : List (Str × Addr)) (A : Around) (outer : List PySem.Env) (s : Shared) (H : Hp), Room k (A.deeper (envM (X.env.qual ++ "<lambda>") sc s.heap.objs.size f (.ref c') cl)) →
      ∃ te, PE (cxM K.P K.w K.K K.mg B N (X.env.qual ++ "<lambda>") sc f (.ref c') cl A outer s H) b te ∧ EvS (K.on B) te body) : EvB K X (tLamK K X ps b sc) (vLamC n m body js) := fun l g d l' g' s H S r A e h Q q => by
  replace e := mg_some e; obtain ⟨e, rfl, rfl⟩ := e
  obtain ⟨cds, e1, rfl⟩ := Option.map_eq_some_iff.mp e
  obtain ⟨ws, k1, k2⟩ := datsAt_ok h e1
  have hfl : fr.length = cds.length := by
    have a1 := congrArg List.length hjs
    have a2 := congrArg List.length k1
    rw [List.length_map, List.length_map] at a1 a2
    have := DpAll_len' k2
    omega
  refine ⟨S, h.hs, h.tb, fun f c' P' pm ct S1 H1 gr tb hf hc => ?_⟩
  obtain ⟨h1, m1⟩ := h.gTab gr tb
  refine q (.ref f) H1 S1 r A m1 h1 fun B gB S' hs => ?_
  refine ⟨f, MProm f c' P' (X.env.qual ++ "<lambda>") ps b sc (cloFrom X.env.cells sc.names []) pm ct (K.on B) ws cds, rfl, ⟨hs _ _ hf, hs _ _ hc, DpAll_mono k2 fun a o e => hs _ _ (m1.s _ _ e)⟩, ?_⟩
  refine clo_fnP (K := K.on B) SC (capAt_of gB hfree SC hjs k1) hlev (fun ds d e => ?_) (fun us hl => hbind _ _ _ _ _ us hl) fun A outer s H vs Q hr hsp => ?_
  · have := lamF_len _ _ e
    rw [List.length_append] at this
    omega
  · obtain ⟨te, p1, p2⟩ := hbody B gB.kp f c' _ A outer s H hr
    exact ⟨te, p1, lam_body p2 hN hsp⟩
end
section
variable {l : Lo} {g : Sg}
theorem wp_eCallB {F : FS} {m : M (List Vl)} {Q : PyData → Lo → Sg → Prop} (h : Wp m l g fun xs l1 g1 => FOk F xs [] fun v _ => ∃ d, v = .dat d ∧ Q d l1 g1) : Wp (eCallB F m) l g Q := wp_mb (wp_mono h fun xs l1 g1 ⟨v, g2, e, d, ev, q⟩ => by
  subst ev
  exact wp_mo ⟨d, by rw [e], q⟩)
theorem wp_vDefC {F : FS} {n : Nat} {m : M (List Vl)} {Q : List Vl → Lo → Sg → Prop} (q : Wp m l g fun xs l2 g2 => Q (.fn (defD F n) :: xs) l2 g2) : Wp (vCons (vDef F n) m) l g Q := wp_mb (wp_mp (wp_mb (wp_mono q fun xs l2 g2 q => wp_mp q)))
theorem wp_vLamC {n k : Nat} {b : M PyData} {js : List Nat} {cds : List PyData} {m : M (List Vl)} {Q : List Vl → Lo → Sg → Prop} (e : datsAt l js = some cds) (q : Wp m l g fun xs l2 g2 => Q (.fn (fun ds => lamF n k b (ds ++ cds)) :: xs) l2 g2) : Wp (vCons (vLamC n k b js) m) l g Q :=
  wp_mb (wp_mg ⟨_, by rw [e]; rfl, wp_mb (wp_mono q fun xs l2 g2 q => wp_mp q)⟩)
end
end Sm

namespace Sm
open PySem PySem.Spec PyProof.Rows L2 RZ SrtO Dz
structure DefsOk (K : Kx) (Y : Cx) (i : Nat) (nm : PySem.Str) (ps : Arguments) (b : List Stmt) (sc : Scope) (N names fr : List PySem.Str) (js : List Nat) (n : Nat) (body : X) : Prop where
  hsc : MScope N names fr sc
  hfr : ∀ y ∈ sc.names, y.2 = .free → Y.env.scope.names.lookup y.1 = some .cell ∨ Y.env.scope.names.lookup y.1 = some .free
  hjs : js.map (fun j => Y.N[j]?) = fr.map some
  ni : i ∉ js
  hN : N.length = n
  bind : ∀ (q : PySem.Str) (cl : List (PySem.Str × Addr)) (c' : Addr) (doc pm ctv : Value) (us : List Value), us.length = names.length → bindArgs ((⟨nm, q, ps, b, sc, cl, c'⟩ : NdefX.NF).fd doc pm ctv) ⟨us, []⟩ = pure (names.zip us)
  hbd : ∀ (B : Heap), (∀ b o, K.base.get? b = some o → B.get? b = some o) → ∀ (k : Nat), K.lev = k + 1 → ∀ (f c' : Addr) (cl : List (PySem.Str × Addr)) (A : Around) (outer : List PySem.Env) (s : Shared) (H : Hp), Room k (A.deeper (envM (Y.env.qual ++ nm) sc s.heap.objs.size f (.ref c') cl)) →
      ∃ t, PSs (cxM K.P K.w K.K K.mg B N (Y.env.qual ++ nm) sc f (.ref c') cl A outer s H) b t ∧ ExS (K.on B) t body
theorem defD_len {F : FS} {n : Nat} {ds : List PyData} {d : PyData} (e : defD F n ds = some d) : ds.length = n := by
  unfold defD at e
  split at e
  · rename_i h; exact h
  · cases e
theorem spG_of {K : Kx} {F : FS} {n : Nat} {vs : List V} {H : Hp} {Q : VK} {E : XK} (h : spL K (defD F n) vs H Q E) : spG K n F vs H Q E := by
  obtain ⟨S, ds, d, hs, tb, hd, he, hQ⟩ := h
  unfold defD at he
  split at he
  case isFalse => cases he
  rename_i hl
  split at he
  case h_2 => cases he
  rename_i d' g' hF
  obtain rfl : d' = d := Option.some.inj he
  exact ⟨S, [], [], ds.map .dat, .dat d', g', by rw [List.length_map]; exact hl, hs, sto_nil tb, vs_of ds vs hd, hF, fun w S' H' r' gr _ _ sto hw => hQ w S' H' (inR_nil gr) sto.2.2.2 hw⟩
section
variable {K : Kx} {Y : Cx}
theorem DefsOk.fn {i : Nat} {nm : PySem.Str} {ps : Arguments} {b : List Stmt} {sc : Scope} {N names fr : List PySem.Str} {js : List Nat} {n k m : Nat} {body : X} {σ : L2.St} {B : Heap} {S : Hp} {f c' P' : Addr} {ws : List V} {cds : List PyData} (D : DefsOk K Y i nm ps b sc N names fr js n body) (hlev : K.lev = k + 1) (hm : m = names.length + fr.length) (g : Gnd K Y σ B)
    (hf : S f = some (NdefX.FnO f ⟨nm, Y.env.qual ++ nm, ps, b, sc, cloFrom Y.env.cells sc.names [], c'⟩)) (hc : S c' = some (CodeN c' (Y.env.qual ++ nm) P')) (hw : DpAll K S ws cds) (hws : js.map (fun j => σ[j]?) = ws.map fun v => some (some v)) : FnV (K.on B) S (.ref f) (fun ds => defD (fnS n body) m (ds ++ cds)) := by
  have hfl : fr.length = cds.length := by
    have a1 := congrArg List.length D.hjs
    have a2 := congrArg List.length hws
    rw [List.length_map, List.length_map] at a1 a2
    have := DpAll_len' hw
    omega
  refine ⟨f, MPromD f c' P' ⟨nm, Y.env.qual ++ nm, ps, b, sc, cloFrom Y.env.cells sc.names [], c'⟩ (K.on B) ws cds, rfl, ⟨hf, hc, hw⟩, ?_⟩
  refine clo_fnPD (K := K.on B) (F := defD (fnS n body) m) D.hsc (capAt_of g D.hfr D.hsc D.hjs hws) hlev (fun ds d e => ?_) (fun doc pm ctv us hl => D.bind _ _ _ doc pm ctv us hl) fun A outer s H vs Q hr hsp => ?_
  · have := defD_len e
    rw [List.length_append] at this
    omega
  · obtain ⟨t, p1, p2⟩ := D.hbd B g.kp k hlev f c' _ A outer s H hr
    exact ⟨t, p1, run_fn p2 D.hN (spG_of hsp)⟩
end
section
variable {l : Lo} {g : Sg}
end
end Sm

namespace Sm
open PySem L2 RZ Dz
section
variable {K : Kx} {tt : TT} {te : TE} {t : M Bool} {e0 : M PyData} {wi : TI} {it : M (List PyData)} {tg : TG} {gg : G} {vs : List Nat} {tb : TBd} {B : M (List PyData)}
end

section
variable {α : Type} {l : Lo} {g : Sg} {vs : List Nat} {tg : G} {t : M Bool} {e : M PyData} {m : M (List PyData)} {B : M (List PyData)} {ds : List PyData} {Q : List PyData → Lo → Sg → Prop}
end

section
variable {K : Kx} {ta tb : TE} {a b : M PyData}
end
section
variable {l : Lo} {g : Sg} {a b : M PyData}
end
end Sm

namespace Sm
open PySem PySem.Spec PyProof.Rows L2 RZ SrtO Dz
section
variable {X : Cx}
def rNotB : V → V → Hp → VK → Prop := fun x y H Q => ∃ c d, x = .bl c ∧ y = .bl d ∧ Q (.bl (!(c == d))) H
theorem op_notB : OpR X (compareOp .IsNot) rNotB := by
  intro pins s σ H x y v u Q I rx ry h
  obtain ⟨c, d, rfl, rfl, q⟩ := h
  cases rx; cases ry
  cases c <;> cases d <;> exact wpAny_pure ⟨.bl _, H, I, rfl, q⟩
end
def isBD (a b : PyData) : Option PyData := match a, b with
  | .bool c, .bool d => some (.bool (c == d))
  | _, _ => none
def notBD (a b : PyData) : Option PyData := match a, b with
  | .bool c, .bool d => some (.bool (!(c == d)))
  | _, _ => none
section
variable {K : Kx}
theorem ro_notB : RDO K rNotB notBD := fun a b c e => by
  unfold notBD at e
  split at e
  · cases e
    intro x y S H Q hs hx hy q
    cases hx; cases hy
    exact ⟨_, _, rfl, rfl, q _ S H (Grow.refl hs) (.bl _)⟩
  · cases e
end
end Sm

namespace Sm
open PySem PySem.Spec PyProof.Rows L2 RZ SrtO Dz
section
variable {K : Kx} {te : TE} {v : M Vl}
end
section
variable {l : Lo} {g : Sg} {v : M Vl}
end
end Sm

namespace Sm
open PySem PySem.Spec PyProof.Rows L2 RZ SrtO Dz
local macro_rules | `(tactic| walk_at "tr") => `(tactic| first | rfl | exact decide_eq_true (by omega) | exact decide_eq_false (by omega) | with_reducible assumption | (simp only [Bool.and_eq_true, Bool.and_eq_false_iff, Bool.or_eq_true, Bool.or_eq_false_iff, Bool.not_eq_true', Bool.not_eq_false', decide_eq_true_eq, decide_eq_false_iff_not]; omega) | (simp; done) | with_reducible exact nselfI _)
local macro_rules | `(tactic| walk_at "le") => `(tactic| first | omega | (simp only [List.length_cons, List.length_nil, List.length_append, List.length_map]; omega) | decide)
local macro_rules | `(tactic| walk_at "gt") => `(tactic| first | with_reducible assumption | with_reducible rfl | rfl)
local macro_rules | `(tactic| walk_at "op") => `(tactic| first
  | with_reducible exact plusD_ii | with_reducible exact subD_ii | with_reducible exact addI_ii | with_reducible exact ltD_ii | with_reducible exact leD_ii | with_reducible exact gtD_ii | with_reducible exact geD_ii
  | with_reducible exact eqD_ii | with_reducible exact eqD_ss | with_reducible exact eqD_is | with_reducible exact eqD_si | with_reducible exact eqD_bb | with_reducible exact neD_ii | with_reducible exact neD_ss | with_reducible exact neD_is | with_reducible exact neD_si | with_reducible exact neD_bb
  | with_reducible assumption
  | ((with_reducible apply modD_ev); omega) | ((with_reducible apply fdivD_ev); omega) | ((with_reducible apply mulD_ev); (first | exact Or.inl ⟨by omega, by omega⟩ | exact Or.inr ⟨by omega, by omega⟩))
  | ((with_reducible apply ixD_t0); walk_at "gt") | ((with_reducible apply ixD_l0); walk_at "gt") | ((with_reducible apply ixD_t1); walk_at "gt") | ((with_reducible apply ixD_l1); walk_at "gt")
  | ((with_reducible apply ixD_last); walk_at "gt") | ((with_reducible apply ixD_lastL); walk_at "gt")
  | ((with_reducible apply ixD_tN); walk_at "gt") | ((with_reducible apply ixD_lN); walk_at "gt")
  | ((with_reducible apply ixD_t); omega; walk_at "gt") | ((with_reducible apply ixD_l); omega; walk_at "gt")
  | ((with_reducible apply plusD_l); walk_at "le") | ((with_reducible apply plusD_t); walk_at "le"))
local macro_rules | `(tactic| walk_at "at") => `(tactic| first | with_reducible assumption | ((with_reducible apply atI_z); walk_at "gt") | ((with_reducible apply atI_last); walk_at "gt") | ((with_reducible apply atI_N); walk_at "gt") | ((with_reducible apply atI_i); omega; walk_at "gt") | ((with_reducible apply atI_last); walk_at "gt"))
local macro_rules | `(tactic| walk_at "ki") => `(tactic| first | with_reducible exact k_bb | with_reducible exact k_tt | with_reducible exact k_ss | with_reducible exact k_ii | with_reducible exact k_ib | with_reducible exact k_it | with_reducible exact k_is | with_reducible exact k_tb | with_reducible exact k_sb | with_reducible exact k_st | with_reducible exact k_bi | with_reducible exact k_bt | with_reducible exact k_bs | with_reducible exact k_ti | with_reducible exact k_ts | with_reducible exact k_si | with_reducible exact k_nb | with_reducible exact k_nt | with_reducible exact k_ns | with_reducible exact k_ni | with_reducible exact k_lt | with_reducible exact k_lb | with_reducible exact k_ls | with_reducible exact k_li)
local macro_rules | `(tactic| walk_at "cl") => `(tactic| with_reducible assumption)
local macro_rules | `(tactic| walk_at "bi") => `(tactic| first | with_reducible assumption | rfl)
local macro_rules | `(tactic| walk_at "lc") => `(tactic| with_reducible assumption)
local macro_rules | `(tactic| walk_at "ar") => `(tactic| first | with_reducible exact aNil_ev | ((with_reducible apply aCons_ev); (walk_at "ev"); (walk_at "ar")))
local macro_rules | `(tactic| walk_at "va") => `(tactic| first | with_reducible exact vNil_ev | ((with_reducible apply vCons_ev); ((with_reducible apply vE_ev); (walk_at "ev")); (walk_at "va")) | ((with_reducible apply vCons_ev); ((with_reducible apply vR_ev); rfl); (walk_at "va")))
local macro_rules | `(tactic| walk_at "os") => `(tactic| first | with_reducible exact oNone_ev | ((with_reducible apply oSome_ev); (walk_at "ev")))
local macro_rules | `(tactic| walk_at "ls") => `(tactic| first
  | ((with_reducible apply lLst_ev); (walk_at "ar"); (walk_at "le"))
  | ((with_reducible apply lList_ev); (walk_at "ev"); rfl)
  | ((with_reducible apply lListV_ev); rfl)
  | ((with_reducible apply lListRg_ev); (walk_at "ev"); omega)
  | ((with_reducible apply lListRg2_ev); (walk_at "ev"); (walk_at "ev"); omega; omega)
  | ((with_reducible apply lRep_ev); (walk_at "ar"); (walk_at "ev"); omega; (walk_at "le"))
  | ((with_reducible apply lLc_ev); (walk_at "it"); (walk_at "lc"))
  | ((with_reducible apply lKeys_ev); rfl))
local macro_rules | `(tactic| walk_at "it") => `(tactic| first
  | ((with_reducible apply iSq_ev); (walk_at "ev"); rfl)
  | ((with_reducible apply iRg1_ev); (walk_at "ev"); omega)
  | ((with_reducible apply iRg2_ev); (walk_at "ev"); (walk_at "ev"); omega; omega)
  | ((with_reducible apply iEn_ev); (walk_at "ev"))
  | ((with_reducible apply iZp_T); (walk_at "ev"); (walk_at "ev"))
  | ((with_reducible apply iZp_L); (walk_at "ev"); (walk_at "ev")))
local macro_rules | `(tactic| walk_at "dg") => `(tactic| with_reducible assumption)
local macro_rules | `(tactic| walk_at "dl") => `(tactic| with_reducible exact lDnew_ev)
local macro_rules | `(tactic| walk_at "nt") => `(tactic| first | with_reducible exact uNil_ev | ((with_reducible apply uD_ev); (walk_at "ev"); (walk_at "nt")) | ((with_reducible apply uL_ev); (walk_at "ls"); (walk_at "nt")) | ((with_reducible apply uC_ev); (walk_at "dl"); (walk_at "nt")))
local macro_rules | `(tactic| walk_at "ev") => `(tactic| first
  | ((with_reducible apply eVar_ev); rfl) | with_reducible exact eC_ev
  | ((with_reducible apply eOp_ev); (walk_at "ev"); (walk_at "ev"); (walk_at "op"))
  | ((with_reducible apply eUn_ev); (walk_at "ev"); rfl)
  | ((with_reducible apply eCB_ev); (walk_at "ar"); (walk_at "bi"))
  | ((with_reducible apply eTup_ev); (walk_at "ar"); (walk_at "le"))
  | ((with_reducible apply eL_ev); (walk_at "ls"))
  | ((with_reducible apply eCall_ev); (walk_at "va"); (walk_at "cl"))
  | ((with_reducible apply eCallK_ev); (walk_at "va"); (walk_at "va"); (walk_at "cl"))
  | ((with_reducible apply eCallD_ev); (walk_at "va"); (walk_at "cl"))
  | ((with_reducible apply eIsN_ev); (walk_at "ev"))
  | ((with_reducible apply eNotN_ev); (walk_at "ev"))
  | ((with_reducible apply eIsi_ev); (walk_at "ev"); (walk_at "ki"))
  | ((with_reducible apply eNot_ev); (walk_at "ev"); rfl)
  | ((with_reducible apply eChain_B); (walk_at "ev"); (walk_at "ev"); (walk_at "op"); (walk_at "ev"); (walk_at "op"))
  | ((with_reducible apply eSl_ev); (walk_at "ev"); (walk_at "os"); (walk_at "os"); rfl)
  | ((with_reducible apply eIxV_ev); rfl; (walk_at "ev"); rfl; (walk_at "at"))
  | ((with_reducible apply eLenV_ev); rfl)
  | ((with_reducible apply eTupleV_ev); rfl)
  | ((with_reducible apply eSlV_ev); rfl; (walk_at "os"); (walk_at "os"); rfl)
  | ((with_reducible apply eInV_ev); (walk_at "ev"); rfl; (walk_at "op"))
  | ((with_reducible apply eDget_ev); rfl; (walk_at "ev"); rfl; with_reducible exact keyO_i; (walk_at "dg"))
  | ((with_reducible apply eDin_ev); (walk_at "ev"); rfl; with_reducible exact keyO_i)
  | ((with_reducible apply eDnot_ev); (walk_at "ev"); rfl; with_reducible exact keyO_i)
  | ((with_reducible apply eLenD_ev); rfl)
  | ((with_reducible apply eIf_D); (walk_at "be"); (first | ((with_reducible apply cd_T); (walk_at "tr"); (walk_at "ev")) | ((with_reducible apply cd_F); (walk_at "tr"); (walk_at "ev"))))
  | ((with_reducible apply eAnd_F); (walk_at "ev"); rfl)
  | ((with_reducible apply eAnd_T); (walk_at "ev"); rfl; (walk_at "ev"))
  | ((with_reducible apply eOr_T); (walk_at "ev"); rfl)
  | ((with_reducible apply eOr_F); (walk_at "ev"); rfl; (walk_at "ev"))
  | ((with_reducible apply eAnd_B); (walk_at "ev"); (intro _; walk_at "ev"))
  | ((with_reducible apply eOr_B); (walk_at "ev"); (intro _; walk_at "ev")))
local macro_rules | `(tactic| walk_at "be") => `(tactic| first
  | with_reducible exact bYes_ev
  | ((with_reducible apply bTest_ev); (walk_at "ev"))
  | ((with_reducible apply bTru_ev); (walk_at "ev"); rfl)
  | ((with_reducible apply bTruV_ev); rfl)
  | ((with_reducible apply bTruD_ev); rfl)
  | ((with_reducible apply bNot_ev); (walk_at "be"))
  | ((with_reducible apply bIf_D); (walk_at "be"); (first | ((with_reducible apply cd_T); (walk_at "tr"); (walk_at "be")) | ((with_reducible apply cd_F); (walk_at "tr"); (walk_at "be"))))
  | ((with_reducible apply bAnd_D); (walk_at "be"); (first | ((with_reducible apply cd_T); (walk_at "tr"); (walk_at "be")) | ((with_reducible apply cd_F); (walk_at "tr"); rfl)))
  | ((with_reducible apply bOr_D); (walk_at "be"); (first | ((with_reducible apply cd_T); (walk_at "tr"); rfl) | ((with_reducible apply cd_F); (walk_at "tr"); (walk_at "be"))))
  | ((with_reducible apply bAnd_B); (walk_at "be"); (intro _; walk_at "be"))
  | ((with_reducible apply bOr_B); (walk_at "be"); (intro _; walk_at "be")))
local macro_rules | `(tactic| walk_at "ex") => `(tactic| first
  | with_reducible exact xNext_ev | with_reducible exact xBreak_ev | with_reducible exact xCont_ev
  | ((with_reducible apply xAsg_ev); (walk_at "ev"))
  | ((with_reducible apply xAsgG_ev); (walk_at "ev"); rfl)
  | ((with_reducible apply xAsgL_ev); (walk_at "ls"))
  | ((with_reducible apply xNewL_ev); (walk_at "ls"))
  | ((with_reducible apply xAug_ev); rfl; (walk_at "ev"); (walk_at "op"))
  | ((with_reducible apply xDrop_ev); (walk_at "ev"))
  | ((with_reducible apply xRet_ev); (walk_at "ev"))
  | ((with_reducible apply xApp_ev); rfl; (walk_at "ev"); rfl; (walk_at "le"))
  | ((with_reducible apply xSetI_ev); (walk_at "ev"); rfl; (walk_at "ev"); rfl; exact ixN_in (by walk_at "le"))
  | ((with_reducible apply xPar_ev); (walk_at "ev"); (walk_at "ev"))
  | ((with_reducible apply xParDL_ev); (walk_at "ev"); (walk_at "ls"))
  | ((with_reducible apply xParLD_ev); (walk_at "ls"); (walk_at "ev"))
  | ((with_reducible apply xParLL_ev); (walk_at "ls"); (walk_at "ls"))
  | ((with_reducible apply xPar3_ev); (walk_at "ar"))
  | ((with_reducible apply xDput_ev); (walk_at "ev"); rfl; (walk_at "ev"); rfl; with_reducible exact keyO_i; (walk_at "le"))
  | ((with_reducible apply xDpop_ev); rfl; (walk_at "ev"); rfl; with_reducible exact keyO_i; (walk_at "dg"))
  | ((with_reducible apply xAsgC_ev); (walk_at "dl"))
  | ((with_reducible apply xTup2_ev); (walk_at "nt"))
  | ((with_reducible apply xFrz_O); rfl; (walk_at "ex"))
  | ((with_reducible apply xFrz_D); rfl; (walk_at "ex"))
  | ((with_reducible apply xIf_D); (walk_at "be"); (first | ((with_reducible apply cd_T); (walk_at "tr"); (walk_at "ex")) | ((with_reducible apply cd_F); (walk_at "tr"); (walk_at "ex"))))
  | ((with_reducible apply xSeq_ev); (walk_at "ex"); (walk_at "ex")))
local macro_rules | `(tactic| walk_at "st") => `(tactic| ((first | refine rt_seq (by walk_at "ex") ?_ | refine seq_step (by walk_at "ex") ?_); try simp only [List.set_cons_succ, List.set_cons_zero]))
local macro_rules | `(tactic| walk_at "rt") => `(tactic| refine rt_is (rt_ret (by walk_at "ev")) ?_ ?_)
local macro_rules | `(tactic| walk_at "yes") => `(tactic| (first | refine rt_now (rt_T (by walk_at "be") (by walk_at "tr") ?_) | refine rt_T (by walk_at "be") (by walk_at "tr") ?_))
local macro_rules | `(tactic| walk_at "noo") => `(tactic| (first | refine rt_now (rt_F (by walk_at "be") (by walk_at "tr") ?_) | refine rt_F (by walk_at "be") (by walk_at "tr") ?_))

section
def scM (ns : List Int) : Int := maxI (ns.map (fun i => if i < 0 then -i else i) ++ [0])
def twn (ns : List Int) : Nat → List Int
  | 0 => []
  | n + 1 => scM ns / 65536 ^ (n + 1) :: List.replicate (n + 1) 0
def nI (ns : List Int) : List PyData := ns.map .int
abbrev tw (ns : List Int) (n : Nat) (g : Sg) : Sg := .lst (nI (twn ns n)) :: g
abbrev scr (ns : List Int) : Vl := .dat (.list (nI ns))
def drN (ns : List Int) (n : Nat) : Int :=
  let c : Int := if ns.isEmpty then 0 else (ns[(n + 2) % ns.length]?).getD 0
  let d : Int := (scM ns / 65536 ^ n) % 65536
  let x : Int := (c + 40503 * d + 104729 * ((n + 2 : Nat) : Int)) % 4294967291
  let y : Int := x * x % 4294967279 * 48271 % 4294967291
  let z : Int := y * y % 4294967279 * 69621 % 4294967291
  y / 64 * 67108864 + z / 64
noncomputable def m_l_draw : X :=
  (xSeq (xIf (bNot (bTruV 1))
    (xApp 1 (eCB maxD (aCons (eOp plusD (eL (lLc [3] (iSq (eVar 0)) (gNm 3) bYes (eCB absD (aCons (eVar 3) aNil)))) (eL (lLst (aCons (eC (.int 0)) aNil)))) aNil)))
    xNext)
  (xSeq (xApp 1 (eC (.int 0)))
  (xSeq (xAsg 4 (eLenV 1))
  (xSeq (xAsg 3 (eIf (bTru (eVar 0)) (eOp ixD (eVar 0) (eOp modD (eVar 4) (eCB lenD (aCons (eVar 0) aNil)))) (eC (.int 0))))
  (xSeq (xAsg 5 (eOp modD (eIxV 1 (eC (.int 0))) (eC (.int 65536))))
  (xSeq (xSetI 1 (eC (.int 0)) (eOp fdivD (eIxV 1 (eC (.int 0))) (eC (.int 65536))))
  (xSeq (xAsg 6 (eOp modD (eOp plusD (eOp plusD (eVar 3) (eOp mulD (eC (.int 40503)) (eVar 5))) (eOp mulD (eC (.int 104729)) (eVar 4))) (eC (.int 4294967291))))
  (xSeq (xAsg 6 (eOp modD (eOp mulD (eOp modD (eOp mulD (eVar 6) (eVar 6)) (eC (.int 4294967279))) (eC (.int 48271))) (eC (.int 4294967291))))
  (xSeq (xAsg 7 (eOp modD (eOp mulD (eOp modD (eOp mulD (eVar 6) (eVar 6)) (eC (.int 4294967279))) (eC (.int 69621))) (eC (.int 4294967291))))
  (xRet (eOp modD (eOp plusD (eOp mulD (eOp fdivD (eVar 6) (eC (.int 64))) (eC (.int 67108864))) (eOp fdivD (eVar 7) (eC (.int 64)))) (eVar 2))))))))))))
noncomputable def f_l_draw : FS := fnS 8 (m_l_draw )

theorem nI_len (ns : List Int) : (nI ns).length = ns.length := by simp [nI]
theorem nI_get (ns : List Int) (k : Nat) : (nI ns)[k]? = (ns[k]?).map .int := by simp [nI]
set_option maxHeartbeats 2000000 in
theorem draw_eq (ns : List Int) (n : Nat) (m : Int) (g : Sg) (hn : n < 90000) (hm : 0 < m) (hz : ns.length ≤ 63) : f_l_draw [scr ns, .ref 0, .dat (.int m)] (tw ns n g) = some (.dat (.int (drN ns n % m)), tw ns (n + 1) g) := by
  unfold f_l_draw m_l_draw
  refine fn_ret (l := [scr ns, .ref 0, .dat (.int m), .no, .no, .no, .no, .no]) rfl ?_
  have ab : ∀ g, lcO [3] (gNm 3) bYes (eCB absD (aCons (eVar 3) aNil)) (nI ns) [scr ns, .ref 0, .dat (.int m), .no, .no, .no, .no, .no] g = some (nI (ns.map fun i => if i < 0 then -i else i), [scr ns, .ref 0, .dat (.int m), .no, .no, .no, .no, .no], g) := fun g => by
    unfold nI
    rw [List.map_map]
    exact lcO_map rfl (by omega) fun x _ => by walk_at "ev"
  refine rt_seq (l1 := [scr ns, .ref 0, .dat (.int m), .no, .no, .no, .no, .no]) (g1 := .lst (nI (scM ns / 65536 ^ n :: List.replicate n 0)) :: g) ?_ ?_
  · cases n with
    | zero =>
      have h3 : maxD [.list (nI (ns.map fun i => if i < 0 then -i else i) ++ [.int 0])] = some (.int (scM ns)) := by
        have : nI (ns.map fun i => if i < 0 then -i else i) ++ [.int 0] = ((ns.map fun i => if i < 0 then -i else i) ++ [0]).map PyData.int := by simp [nI]
        rw [this]
        exact maxD_i (by simp)
      have h4 : scM ns / 65536 ^ 0 = scM ns := by simp
      have h5 : (nI (ns.map fun i => if i < 0 then -i else i)).length = ns.length := by simp [nI]
      have h6 : (nI (twn ns 0)).length = 0 := rfl
      have ab := ab (tw ns 0 g)
      rw [h4]
      refine Eq.trans (by walk_at "ex") ?_
      rfl
    | succ n =>
      refine Eq.trans (by walk_at "ex") ?_
      rfl
  clear ab
  have hlen : (nI (scM ns / 65536 ^ n :: List.replicate n 0)).length = n + 1 := by simp [nI]
  have happ : nI (scM ns / 65536 ^ n :: List.replicate n 0) ++ [PyData.int 0] = nI (scM ns / 65536 ^ n :: List.replicate (n + 1) 0) := by simp [nI, List.replicate_succ']
  have hlen2 : (nI (scM ns / 65536 ^ n :: List.replicate (n + 1) 0)).length = n + 2 := by simp [nI]
  walk_at "st"
  show Rt _ [scr ns, .ref 0, .dat (.int m), .no, .no, .no, .no, .no] (.lst (nI (scM ns / 65536 ^ n :: List.replicate n 0) ++ [PyData.int 0]) :: g) _ _
  rw [happ]
  walk_at "st"
  rw [hlen2]
  refine rt_seq (l1 := [scr ns, .ref 0, .dat (.int m), .dat (.int (if ns.isEmpty then 0 else (ns[(n + 2) % ns.length]?).getD 0)), .dat (.int ((n + 2 : Nat) : Int)), .no, .no, .no]) (g1 := .lst (nI (scM ns / 65536 ^ n :: List.replicate (n + 1) 0)) :: g) ?_ ?_
  · cases ns with
    | nil =>
      refine Eq.trans (by walk_at "ex") ?_
      rfl
    | cons x r =>
      have hm2 : (n + 2) % (x :: r).length < (x :: r).length := Nat.mod_lt _ (by simp)
      have e2 : (nI (x :: r))[(n + 2) % (x :: r).length]? = some (.int (((x :: r)[(n + 2) % (x :: r).length]?).getD 0)) := by
        rw [nI_get, List.getElem?_eq_getElem hm2]; rfl
      have e1 : ixD (.list (nI (x :: r))) (.int (((n + 2 : Nat) : Int) % (((nI (x :: r)).length : Nat) : Int))) = some (.int (((x :: r)[(n + 2) % (x :: r).length]?).getD 0)) := by
        rw [nI_len, ← Int.natCast_emod]
        exact ixD_lN e2
      have e3 : 0 < (nI (x :: r)).length := by simp [nI]
      refine Eq.trans (by walk_at "ex") ?_
      rfl
  generalize hc : (if ns.isEmpty then 0 else (ns[(n + 2) % ns.length]?).getD 0) = c
  have ht : tw ns (n + 1) g = .lst (nI (scM ns / 65536 ^ n / 65536 :: List.replicate (n + 1) 0)) :: g := by
    show Ob.lst (nI (scM ns / 65536 ^ (n + 1) :: _)) :: g = _
    rw [Int.pow_succ, Int.ediv_ediv_of_nonneg (Int.le_of_lt (Int.pow_pos (by decide)))]
  rw [ht]
  clear ht hlen happ
  generalize ha : scM ns / 65536 ^ n = a at *
  generalize hv : drN ns n % m = vv
  walk_at "st"
  walk_at "st"
  show Rt _ _ (.lst (nI (a / 65536 :: List.replicate (n + 1) 0)) :: g) _ _
  walk_at "st"
  have hx1 : 0 ≤ (c + 40503 * (a % 65536) + 104729 * ((n + 2 : Nat) : Int)) % 4294967291 := Int.emod_nonneg _ (by decide)
  have hx2 : (c + 40503 * (a % 65536) + 104729 * ((n + 2 : Nat) : Int)) % 4294967291 < 4294967291 := Int.emod_lt_of_pos _ (by decide)
  generalize hx : (c + 40503 * (a % 65536) + 104729 * ((n + 2 : Nat) : Int)) % 4294967291 = x at *
  have y1 : 0 ≤ x * x % 4294967279 := Int.emod_nonneg _ (by decide)
  have y2 : x * x % 4294967279 < 4294967279 := Int.emod_lt_of_pos _ (by decide)
  walk_at "st"
  have hy1 : 0 ≤ x * x % 4294967279 * 48271 % 4294967291 := Int.emod_nonneg _ (by decide)
  have hy2 : x * x % 4294967279 * 48271 % 4294967291 < 4294967291 := Int.emod_lt_of_pos _ (by decide)
  generalize hy : x * x % 4294967279 * 48271 % 4294967291 = y at *
  have z1 : 0 ≤ y * y % 4294967279 := Int.emod_nonneg _ (by decide)
  have z2 : y * y % 4294967279 < 4294967279 := Int.emod_lt_of_pos _ (by decide)
  walk_at "st"
  generalize hz2 : y * y % 4294967279 * 69621 % 4294967291 = z at *
  walk_at "rt"
  · rw [← hv]
    unfold drN
    simp only [hc, ha, hx, hy, hz2]
  · rfl
theorem drN_nat (ns : List Int) (n : Nat) {m : Nat} (h : 0 < m) : ∃ k : Nat, drN ns n % (m : Int) = k ∧ k < m := by
  have h1 := Int.emod_nonneg (drN ns n) (show (m : Int) ≠ 0 by omega)
  have h2 := Int.emod_lt_of_pos (drN ns n) (show (0 : Int) < m by omega)
  exact ⟨(drN ns n % (m : Int)).toNat, by omega, by omega⟩
end
section
inductive Pl where
  | fin (w : Int)
  | mv (s : Int) (ms : List Nat)
def nD (ms : List Nat) : List PyData := ms.map fun m => PyData.int (m : Nat)
def Pl.d : Pl → PyData
  | .fin w => .tuple [.str "end", .int w]
  | .mv s ms => .tuple [.int s, .tuple (nD ms)]
def gD (g : List Pl) : PyData := .tuple (g.map Pl.d)
def PlOk (n : Nat) : Pl → Prop
  | .fin w => -99 ≤ w ∧ w ≤ 99
  | .mv s ms => (s = 0 ∨ s = 1) ∧ ms ≠ [] ∧ ms.Nodup ∧ (∀ m ∈ ms, m < n) ∧ ms.length ≤ 16
def Pl.moves : Pl → List Nat
  | .fin _ => []
  | .mv _ ms => ms
structure Good (g : List Pl) : Prop where
  ok : ∀ (p : Nat) (x : Pl), g[p]? = some x → PlOk g.length x
  len : g.length ≤ 800
structure Straight (g : List Pl) : Prop where
  ex : ∃ rk : Nat → Nat, (∀ (p : Nat) (x : Pl) (m : Nat), g[p]? = some x → m ∈ x.moves → rk m < rk p) ∧ ∀ p, p < g.length → rk p < min g.length 39
theorem PlOk.mono {n m : Nat} (h : n ≤ m) : ∀ {x : Pl}, PlOk n x → PlOk m x
  | .fin _, q => q
  | .mv _ _, q => ⟨q.1, q.2.1, q.2.2.1, fun k hk => Nat.lt_of_lt_of_le (q.2.2.2.1 k hk) h, q.2.2.2.2⟩
theorem rng_nat (n : Nat) : rng 0 n = nD (List.range n) := by
  unfold rng nD
  apply List.map_congr_left
  intro i _
  simp
theorem nD_len (ns : List Nat) : (nD ns).length = ns.length := List.length_map _
theorem getD_lt {α : Type} {l : List α} {i : Nat} {d : α} (h : i < l.length) : l.getD i d = l[i] := by rw [List.getD_eq_getElem?_getD, List.getElem?_eq_getElem h]; rfl
section
variable {es : List Nat} {rs : List Pl} (hes : es.Perm (List.range rs.length))
include hes
end
def Pl.side : Pl → PyData
  | .fin _ => .str "end"
  | .mv s _ => .int s
def Pl.more : Pl → PyData
  | .fin w => .int w
  | .mv _ ms => .tuple (nD ms)
theorem Pl.d_eq (x : Pl) : x.d = .tuple [x.side, x.more] := by cases x <;> rfl
def chI (s : Int) (xs : List Int) : Int := if s = 0 then maxI xs else minI xs
def fixS {α : Type} (d : α) (F : (Nat → α) → Pl → α) (g : List Pl) : Nat → Nat → α
  | 0, _ => d
  | k + 1, p => match g[p]? with | some x => F (fixS d F g k) x | none => d
def valS {α : Type} (d : α) (F : (Nat → α) → Pl → α) (g : List Pl) (p : Nat) : α := fixS d F g g.length p
structure Rk (g : List Pl) (rk : Nat → Nat) : Prop where
  dn : ∀ (p : Nat) (x : Pl) (m : Nat), g[p]? = some x → m ∈ x.moves → rk m < rk p
  lt : ∀ p, p < g.length → rk p < min g.length 39
theorem Straight.rk {g : List Pl} (h : Straight g) : ∃ rk, Rk g rk := by
  obtain ⟨rk, h1, h2⟩ := h.ex
  exact ⟨rk, h1, h2⟩
def Loc1 {α : Type} (F : (Nat → α) → Pl → α) : Prop := ∀ f f' x, (∀ m ∈ x.moves, f m = f' m) → F f x = F f' x
theorem fix_stable {α : Type} {d : α} {F : (Nat → α) → Pl → α} {g : List Pl} {rk : Nat → Nat} (hF : Loc1 F) (h : Rk g rk) : ∀ (k k' p : Nat), rk p < k → rk p < k' → fixS d F g k p = fixS d F g k' p
  | 0, _, _, h1, _ => absurd h1 (Nat.not_lt_zero _)
  | _ + 1, 0, _, _, h2 => absurd h2 (Nat.not_lt_zero _)
  | k + 1, k' + 1, p, h1, h2 => by
    rw [fixS, fixS]
    cases e : g[p]? with
    | none => rfl
    | some x =>
      refine hF _ _ x fun m hm => ?_
      have := h.dn p x m e hm
      exact fix_stable hF h k k' m (by omega) (by omega)
theorem val_eq {α : Type} {d : α} {F : (Nat → α) → Pl → α} {g : List Pl} {rk : Nat → Nat} (hF : Loc1 F) (h : Rk g rk) {p : Nat} {x : Pl} (e : g[p]? = some x) : valS d F g p = F (valS d F g) x := by
  have hp : p < g.length := (List.getElem?_eq_some_iff.mp e).1
  have hr := h.lt p hp
  have h1 : valS d F g p = fixS d F g (g.length + 1) p := fix_stable hF h _ _ p (by omega) (by omega)
  rw [h1, fixS, e]
  rfl
def wF (f : Nat → Int) : Pl → Int
  | .fin w => w
  | .mv s ms => chI s (ms.map f)
def wor (g : List Pl) (p : Nat) : Int := valS 0 wF g p
theorem wF_loc : Loc1 wF := fun f f' x h => by
  cases x with
  | fin w => rfl
  | mv s ms =>
    have e : ms.map f = ms.map f' := List.map_congr_left h
    show chI s (ms.map f) = chI s (ms.map f')
    rw [e]
theorem wor_fin {g : List Pl} {rk : Nat → Nat} (h : Rk g rk) {p : Nat} {w : Int} (e : g[p]? = some (.fin w)) : wor g p = w := val_eq wF_loc h e
theorem wor_mv {g : List Pl} {rk : Nat → Nat} (h : Rk g rk) {p : Nat} {s : Int} {ms : List Nat} (e : g[p]? = some (.mv s ms)) : wor g p = chI s (ms.map (wor g)) := val_eq wF_loc h e

theorem gD_get {g : List Pl} {p : Nat} {x : Pl} (h : g[p]? = some x) : (g.map Pl.d)[p]? = some x.d := by rw [List.getElem?_map, h]; rfl
theorem ixD_g {g : List Pl} {p : Nat} {x : Pl} (h : g[p]? = some x) : ixD (gD g) (.int (p : Int)) = some x.d := ixD_tN (gD_get h)
theorem lenD_g {g : List Pl} : lenD [gD g] = some (.int (g.length : Nat)) := by show some (PyData.int ((g.map Pl.d).length : Nat)) = _; rw [List.length_map]
local macro_rules | `(tactic| walk_at "op") => `(tactic| ((with_reducible apply ixD_g); assumption))
local macro_rules | `(tactic| walk_at "bi") => `(tactic| with_reducible exact lenD_g)
local macro_rules | `(tactic| walk_at "bi") => `(tactic| with_reducible exact lenD_n)

end
section
local macro_rules | `(tactic| walk_at "op") => `(tactic| ((with_reducible apply ixD_g); assumption))
local macro_rules | `(tactic| walk_at "bi") => `(tactic| with_reducible exact lenD_g)
local macro_rules | `(tactic| walk_at "bi") => `(tactic| with_reducible exact lenD_n)
section
local macro_rules | `(tactic| walk_at "cl") => `(tactic| ((with_reducible apply draw_eq) <;> first | omega | assumption))
local macro_rules | `(tactic| walk_at "cl") => `(tactic| ((with_reducible apply dworth_eq) <;> first | omega | assumption))

end
section
local macro_rules | `(tactic| walk_at "cq") => `(tactic| with_reducible assumption)
local macro_rules | `(tactic| walk_at "le") => `(tactic| first | omega | (simp only [List.length_cons, List.length_nil, List.length_append, List.length_map, List.length_set, List.length_range, nD_len]; omega) | decide)
local macro_rules | `(tactic| walk_at "sr") => `(tactic| ((repeat (with_reducible apply SetR.s)); with_reducible exact SetR.z))
local macro_rules | `(tactic| walk_at "ha") => `(tactic| first | walk_at "op" | with_reducible exact truO_b | with_reducible exact truO_l | with_reducible exact truO_t | with_reducible exact truO_n | with_reducible exact truO_i | walk_at "at" | walk_at "bi" | walk_at "dg" | with_reducible rfl | rfl)
local macro_rules | `(tactic| walk_at "v") => `(tactic| first | with_reducible refine wp_parLD ?_ | with_reducible refine wp_parLL ?_ | with_reducible refine wp_par3 ?_ | with_reducible refine wp_parCL ?_ | with_reducible refine wp_lDone ?_ | ((with_reducible apply wp_lSortK); (rfl)) | with_reducible refine wp_eIndex ?_ | ((with_reducible apply wp_eIndexV); (rfl)) | with_reducible refine wp_eInDV ?_ | with_reducible refine wp_dput ?_ | ((with_reducible apply wp_dpop); (exact ⟨_, rfl⟩)) | with_reducible refine wp_tup2 ?_ | with_reducible refine wp_tup3 ?_ | with_reducible refine wp_tup4 ?_ | with_reducible refine wp_uNil ?_ | with_reducible refine wp_uD ?_ | with_reducible refine wp_uL ?_ | with_reducible refine wp_uC ?_ | with_reducible refine wp_vLam ?_ | ((with_reducible apply wp_vFn); (rfl)) | ((with_reducible apply wp_eCallF); (rfl)) | ((with_reducible apply wp_retD); (rfl)) | with_reducible refine wp_callDg ?_ | with_reducible refine wp_sortBy ?_ | ((with_reducible apply ex_one); (rfl)) | with_reducible refine wp_eChain ?_ | ((with_reducible refine wp_bAnd ?_); (repeat walk_at "v"); walk_at "br") | ((with_reducible refine wp_bOr ?_); (repeat walk_at "v"); walk_at "br") | ((with_reducible refine wp_eAnd ?_); (repeat walk_at "v"); walk_at "br") | ((with_reducible refine wp_eOr ?_); (repeat walk_at "v"); walk_at "br") | with_reducible refine wp_bAndB ?_ | with_reducible refine wp_bOrB ?_ | with_reducible refine wp_eAndB ?_ | with_reducible refine wp_eOrB ?_ | walk_at "xx")
local macro_rules | `(tactic| walk_at "v") => `(tactic| first | with_reducible refine wp_eCallD ?_ | with_reducible refine wp_lList ?_ | with_reducible refine wp_lListRg ?_ | with_reducible refine wp_lListRg2 ?_ | with_reducible refine wp_iEn ?_ | with_reducible refine wp_iEnA ?_ | with_reducible refine wp_kSet ?_ | with_reducible refine wp_kSc ?_ | with_reducible refine wp_sortS ?_ | with_reducible refine wp_lenS ?_ | with_reducible refine wp_lRev ?_ | with_reducible refine wp_lRep ?_ | ((with_reducible apply wp_lListV); (rfl)) | ((with_reducible apply wp_lKeys); (rfl)) | ((with_reducible apply wp_lVals); (rfl)) | with_reducible refine wp_vNewD ?_ | with_reducible refine wp_eMinDef ?_ | with_reducible refine wp_lLc ?_ | with_reducible refine wp_bYes ?_ | ((with_reducible apply wp_bTruV); (rfl)) | ((with_reducible apply wp_bTruD); (rfl)) | with_reducible refine wp_bIf ?_ | with_reducible refine wp_lDnew ?_ | with_reducible refine wp_lDc ?_ | with_reducible refine wp_asgC ?_ | with_reducible refine wp_newL ?_ | with_reducible refine wp_retN ?_ | with_reducible refine wp_drop ?_ | ((with_reducible apply wp_app); (exact ⟨_, rfl⟩)) | with_reducible refine wp_setI ?_ | ((with_reducible apply wp_aug); (rfl)) | ((with_reducible apply wp_frzO); (rfl); (walk_at "sr")) | ((with_reducible apply wp_frzD); (rfl)) | with_reducible refine wp_par ?_ | with_reducible refine wp_parDL ?_)
local macro_rules | `(tactic| walk_at "v") => `(tactic| first | with_reducible refine wp_iSq ?_ | with_reducible refine wp_iRg1 ?_ | with_reducible refine wp_iRg2 ?_ | with_reducible refine wp_keep ?_ | with_reducible refine wp_pre ?_ | with_reducible refine wp_next ?_ | with_reducible refine wp_break ?_ | with_reducible refine wp_cont ?_ | with_reducible refine bodyK_nx ?_ | with_reducible refine bodyK_ct ?_ | with_reducible refine bodyK_bk ?_ | with_reducible refine bodyK_ret ?_ | with_reducible refine seqK_bk ?_ | with_reducible refine seqK_ct ?_ | with_reducible refine retK_nx ?_ | with_reducible refine wp_forNil ?_ | with_reducible refine wp_eIsN ?_ | with_reducible refine wp_eNotN ?_ | with_reducible refine wp_eNot ?_ | ((with_reducible apply wp_eIxV); (rfl)) | ((with_reducible apply wp_eLenV); (rfl)) | ((with_reducible apply wp_eTupleV); (rfl)) | ((with_reducible apply wp_eSlV); (rfl)) | with_reducible refine wp_eSl ?_ | with_reducible refine wp_oNone ?_ | with_reducible refine wp_oSome ?_ | with_reducible refine wp_eInV ?_ | ((with_reducible apply wp_ePopO); (rfl); (walk_at "gt"); (walk_at "sr")) | ((with_reducible apply wp_eDget); (exact ⟨_, rfl⟩)) | ((with_reducible apply wp_eDget2); (exact ⟨_, rfl⟩)) | with_reducible refine wp_eDin ?_ | with_reducible refine wp_eDnot ?_ | ((with_reducible apply wp_eLenD); (rfl)) | with_reducible refine wp_eIsi ?_ | with_reducible refine wp_eCallK ?_)
local macro_rules | `(tactic| walk_at "v") => `(tactic| first | with_reducible refine wp_seq ?_ | ((with_reducible apply wp_eVar); (rfl)) | with_reducible refine wp_eC ?_ | with_reducible refine wp_eOp ?_ | with_reducible refine has_some ?_ | ((with_reducible apply hasG_nm); (walk_at "sr")) | ((with_reducible apply hasG_tp); (rfl); (rfl)) | with_reducible refine hasG_cons ?_ | with_reducible refine hasG_nil ?_ | ((with_reducible apply has_of); (walk_at "ha")) | with_reducible refine wp_eCall ?_ | with_reducible refine wp_vE ?_ | ((with_reducible apply wp_vR); (rfl)) | with_reducible refine wp_vNil ?_ | ((with_reducible apply fok_eq); (walk_at "cq")) | with_reducible refine wp_asg ?_ | with_reducible refine wp_asgG ?_ | with_reducible refine wp_asgL ?_ | with_reducible refine wp_if ?_ | with_reducible refine wp_ret ?_ | with_reducible refine seqK_ret ?_ | with_reducible refine retK_ret ?_ | with_reducible refine wp_bTest ?_ | with_reducible refine wp_bTru ?_ | with_reducible refine wp_bNot ?_ | with_reducible refine wp_eCB ?_ | with_reducible refine wp_aCons ?_ | with_reducible refine wp_aNil ?_ | with_reducible refine wp_eUn ?_ | with_reducible refine wp_eTup ?_ | with_reducible refine wp_eL ?_ | with_reducible refine wp_lLst ?_ | with_reducible refine wp_eIf ?_ | with_reducible refine wp_for ?_ | with_reducible refine wp_iWipe ?_)
local macro_rules | `(tactic| walk_at "nk") => `(tactic| ((repeat walk_at "v"); first | exact ⟨rfl, rfl, rfl⟩ | exact ⟨rfl, rfl, by walk_at "op"⟩))
local macro_rules | `(tactic| walk_at "lt2") => `(tactic| first | omega | exact ⟨by omega, by omega⟩ | (simp only [List.length_cons, List.length_nil, List.length_append, List.length_map, List.length_set, nD_len]; omega))
local macro_rules | `(tactic| walk_at "ky") => `(tactic| first | with_reducible exact keyO_i | with_reducible exact keyO_s | rfl)
local macro_rules | `(tactic| walk_at "xx") => `(tactic| first | with_reducible refine ex_zipT ?_ | with_reducible refine ex_zipL ?_ | ((with_reducible apply ex_chain); (walk_at "op"); (intro _; walk_at "nk")) | ((with_reducible apply ex_and2); (intro _; walk_at "nk")) | ((with_reducible apply ex_and1); (intro _; walk_at "nk")) | ((with_reducible apply ex_ls); (rfl)))
local macro_rules | `(tactic| walk_at "xx") => `(tactic| first | ((with_reducible apply ex_dput); (rfl); (walk_at "ky"); (walk_at "lt2"); (walk_at "sr")) | ((with_reducible apply ex_dpop); (rfl); (walk_at "ky"); (walk_at "gt"); (walk_at "sr")) | ((with_reducible apply ex_par); (walk_at "sr"); (walk_at "sr")) | ((with_reducible apply ex_par3); (walk_at "sr"); (walk_at "sr"); (walk_at "sr")) | ((with_reducible apply ex_tup2); (walk_at "sr"); (walk_at "sr")) | ((with_reducible apply ex_tup3); (walk_at "sr"); (walk_at "sr"); (walk_at "sr")) | ((with_reducible apply ex_tup4); (walk_at "sr"); (walk_at "sr"); (walk_at "sr"); (walk_at "sr")) | ((with_reducible apply ex_kit); (walk_at "ki")))
local macro_rules | `(tactic| walk_at "xx") => `(tactic| first | ((with_reducible apply and_le); (walk_at "le")) | ((with_reducible apply and_bk); (rfl)) | ((with_reducible apply ex_ix); (rfl)) | ((with_reducible apply ex_key); (rfl); (walk_at "ky")) | ((with_reducible apply ex_app); (rfl); (walk_at "le"); (walk_at "sr")) | ((with_reducible apply ex_own); (rfl)) | ((with_reducible apply ex_dct); (rfl)) | ((with_reducible apply ex_setI); (rfl); (walk_at "lt2"); (walk_at "sr")))
local macro_rules | `(tactic| walk_at "xx") => `(tactic| first | ((with_reducible apply ex_set); (walk_at "sr")) | with_reducible refine ex_bool ?_ | with_reducible refine ex_dat ?_ | ((with_reducible apply ex_rng); omega) | ((with_reducible apply ex_rep); omega; (walk_at "le")) | ((with_reducible apply ex_rng2); omega; omega) | with_reducible refine ex_int ?_ | with_reducible refine ex_list ?_)
local macro_rules | `(tactic| walk_at "br") => `(tactic| first | ((with_reducible apply br_T); (walk_at "tr")) | ((with_reducible apply br_F); (walk_at "tr")))
local macro_rules | `(tactic| walk_at "vfn") => `(tactic| refine fok_fn (by (simp only [List.length_cons, List.length_nil, Nat.reduceAdd, Nat.reduceSub, List.replicate_succ, List.replicate_zero, List.cons_append, List.nil_append]; try rfl)) ?_)
local macro_rules | `(tactic| walk_at "vc") => `(tactic| repeat (first | walk_at "v" | with_reducible refine seqK_nx ?_ | walk_at "br" | with_reducible exact ⟨rfl, rfl, rfl⟩ | with_reducible exact ⟨rfl, rfl⟩))
local macro_rules | `(tactic| walk_at "wi") => `(tactic| (simp only [wipeV, List.set_cons_succ, List.set_cons_zero]; try rfl))
local macro_rules | `(tactic| walk_at "vs") => `(tactic| ((try with_reducible refine wp_seq ?_); (repeat (first | walk_at "v" | walk_at "br")); (try with_reducible refine seqK_nx ?_)))

local macro_rules | `(tactic| walk_at "cl") => `(tactic| ((with_reducible apply draw_eq) <;> first | omega | assumption))
local macro_rules | `(tactic| walk_at "cl") => `(tactic| ((with_reducible apply dworth_eq) <;> first | omega | assumption))
section
def st2 (ns : List Int) (m : Nat) (rs : List Pl) (es : List Nat) (x : List PyData) (w4 w5 w8 w9 : Vl) : Lo := [scr ns, .ref 0, .dat (.int m), .dat (.list (rs.map Pl.d)), w4, w5, .dat (.list (nD es)), .own x, w8, w9, .no]
end
end
section
local macro_rules | `(tactic| walk_at "cl") => `(tactic| ((with_reducible apply draw_eq) <;> first | omega | assumption))
local macro_rules | `(tactic| walk_at "cl") => `(tactic| ((with_reducible apply dworth_eq) <;> first | omega | assumption))
section
end
end
section
def mvs (g : List Pl) (p : Nat) : List Nat := ((g[p]?).map Pl.moves).getD []
def cnt (g : List Pl) (dn : List Nat) (p : Nat) : Nat := ((mvs g p).filter fun m => decide (m ∉ dn)).length
def restP (g : List Pl) (dn : List Nat) : List Nat := (List.range g.length).filter fun p => decide (p ∉ dn)
def readyP (g : List Pl) (dn : List Nat) : List Nat := (restP g dn).filter fun p => decide (cnt g dn p = 0)
def ordGo (g : List Pl) : Nat → List Nat → Option (List Nat)
  | 0, dn => some dn
  | k + 1, dn => match readyP g dn with | [] => none | f :: _ => ordGo g k (dn ++ [f])
def ordOf (g : List Pl) : Option (List Nat) := ordGo g g.length []
theorem mvs_eq {g : List Pl} {p : Nat} {x : Pl} (h : g[p]? = some x) : mvs g p = x.moves := by unfold mvs; rw [h]; rfl
theorem mem_rest {g : List Pl} {dn : List Nat} {p : Nat} : p ∈ restP g dn ↔ p < g.length ∧ p ∉ dn := by
  unfold restP
  rw [List.mem_filter, List.mem_range, decide_eq_true_eq]
theorem mem_ready {g : List Pl} {dn : List Nat} {p : Nat} : p ∈ readyP g dn ↔ (p < g.length ∧ p ∉ dn) ∧ ∀ m ∈ mvs g p, m ∈ dn := by
  unfold readyP cnt
  rw [List.mem_filter, mem_rest, decide_eq_true_eq, List.length_eq_zero_iff, List.filter_eq_nil_iff]
  refine and_congr_right fun _ => forall_congr' fun m => forall_congr' fun _ => ?_
  rw [decide_eq_true_eq, Classical.not_not]
theorem filter_two (q : Nat → Bool) : ∀ xs : List Nat, xs.length = (xs.filter q).length + (xs.filter fun p => !q p).length
  | [] => rfl
  | x :: r => by
    have := filter_two q r
    by_cases h : q x = true
    · rw [List.filter_cons_of_pos h, List.filter_cons_of_neg (by simp [h])]
      simp only [List.length_cons]
      omega
    · rw [List.filter_cons_of_neg h, List.filter_cons_of_pos (by simpa using h)]
      simp only [List.length_cons]
      omega
theorem rest_len {g : List Pl} {dn : List Nat} (hn : dn.Nodup) (hl : ∀ p ∈ dn, p < g.length) : (restP g dn).length + dn.length = g.length := by
  have h1 : ((List.range g.length).filter fun p => decide (p ∈ dn)).Perm dn := by
    refine (List.perm_ext_iff_of_nodup (List.Pairwise.filter _ List.nodup_range) hn).mpr fun p => ?_
    rw [List.mem_filter, List.mem_range, decide_eq_true_eq]
    exact ⟨fun q => q.2, fun q => ⟨hl p q, q⟩⟩
  have h2 := filter_two (fun p => decide (p ∈ dn)) (List.range g.length)
  rw [List.length_range, h1.length_eq] at h2
  unfold restP
  have h3 : (List.range g.length).filter (fun p => decide (p ∉ dn)) = (List.range g.length).filter fun p => !decide (p ∈ dn) := by
    apply List.filter_congr
    intro x _
    simp
  rw [h3]
  omega
theorem rest_snoc {g : List Pl} {dn : List Nat} {f : Nat} : restP g (dn ++ [f]) = (restP g dn).filter fun p => decide (p ≠ f) := by
  unfold restP
  rw [List.filter_filter]
  apply List.filter_congr
  intro x _
  simp [and_comm]
theorem cnt_snoc {g : List Pl} {dn : List Nat} {f p : Nat} (hf : f ∉ dn) (hn : (mvs g p).Nodup) : cnt g dn p = cnt g (dn ++ [f]) p + (if f ∈ mvs g p then 1 else 0) := by
  unfold cnt
  generalize mvs g p = ms at hn
  induction ms with
  | nil => simp
  | cons m r ih =>
    obtain ⟨hm, hr⟩ := List.nodup_cons.mp hn
    have ih := ih hr
    by_cases e : f = m
    · subst e
      have : f ∉ r := hm
      rw [if_neg this] at ih
      rw [if_pos List.mem_cons_self, List.filter_cons_of_pos (by simpa using hf), List.filter_cons_of_neg (by simp)]
      simp only [List.length_cons]
      omega
    · have h2 : (f ∈ m :: r) = (f ∈ r) := by simp [e]
      simp only [h2]
      by_cases hd : m ∈ dn
      · rw [List.filter_cons_of_neg (by simpa using hd), List.filter_cons_of_neg (by simp [hd])]
        exact ih
      · rw [List.filter_cons_of_pos (by simpa using hd), List.filter_cons_of_pos (by simp [hd, Ne.symm e])]
        simp only [List.length_cons]
        omega
structure Topo (g : List Pl) (o : List Nat) : Prop where
  perm : o.Perm (List.range g.length)
  dn : ∀ (i p : Nat), o[i]? = some p → ∀ m ∈ mvs g p, m ∈ o.take i
theorem least_rk {rk : Nat → Nat} : ∀ {xs : List Nat}, xs ≠ [] → ∃ x ∈ xs, ∀ y ∈ xs, rk x ≤ rk y
  | [], h => absurd rfl h
  | [x], _ => ⟨x, by simp, by simp⟩
  | x :: y :: r, _ => by
    obtain ⟨z, hz, hm⟩ := least_rk (rk := rk) (xs := y :: r) (by simp)
    by_cases h : rk x ≤ rk z
    · refine ⟨x, by simp, fun w hw => ?_⟩
      rcases List.mem_cons.mp hw with rfl | hw
      · exact Nat.le_refl _
      · exact Nat.le_trans h (hm w hw)
    · refine ⟨z, List.mem_cons_of_mem _ hz, fun w hw => ?_⟩
      rcases List.mem_cons.mp hw with rfl | hw
      · omega
      · exact hm w hw
theorem ready_ne {g : List Pl} {rk : Nat → Nat} {dn : List Nat} (hg : Good g) (h : Rk g rk) (hr : restP g dn ≠ []) : readyP g dn ≠ [] := by
  obtain ⟨p, hp, hm⟩ := least_rk (rk := rk) hr
  refine List.ne_nil_of_mem (a := p) (mem_ready.mpr ⟨mem_rest.mp hp, fun m hmm => ?_⟩)
  have hpl := (mem_rest.mp hp).1
  have hx : g[p]? = some g[p] := List.getElem?_eq_getElem hpl
  generalize g[p] = x at hx
  rw [mvs_eq hx] at hmm
  have h1 := h.dn p x m hx hmm
  have h2 : m < g.length := by
    cases x with
    | fin w => cases hmm
    | mv s ms => exact (hg.ok p _ hx).2.2.2.1 m hmm
  by_cases hd : m ∈ dn
  · exact hd
  · have := hm m (mem_rest.mpr ⟨h2, hd⟩)
    omega
theorem ordGo_topo {g : List Pl} {rk : Nat → Nat} (hg : Good g) (h : Rk g rk) : ∀ (k : Nat) (dn : List Nat), dn.Nodup → (∀ p ∈ dn, p < g.length) → k + dn.length = g.length → (∀ (i p : Nat), dn[i]? = some p → ∀ m ∈ mvs g p, m ∈ dn.take i) → ∃ o, ordGo g k dn = some o ∧ Topo g o
  | 0, dn, hn, hl, hk, ht => by
    refine ⟨dn, rfl, ⟨(List.perm_ext_iff_of_nodup hn List.nodup_range).mpr fun p => ?_, ht⟩⟩
    rw [List.mem_range]
    refine ⟨hl p, fun hp => ?_⟩
    have := rest_len hn hl
    have h0 : restP g dn = [] := List.length_eq_zero_iff.mp (by omega)
    by_cases hd : p ∈ dn
    · exact hd
    · have := mem_rest.mpr ⟨hp, hd⟩
      rw [h0] at this
      cases this
  | k + 1, dn, hn, hl, hk, ht => by
    have hlen := rest_len hn hl
    have hne : readyP g dn ≠ [] := ready_ne hg h fun z => by rw [z] at hlen; simp at hlen; omega
    rw [ordGo]
    cases hq : readyP g dn with
    | nil => exact absurd hq hne
    | cons f r =>
      obtain ⟨⟨f1, f2⟩, f3⟩ := mem_ready.mp (show f ∈ readyP g dn by rw [hq]; simp)
      refine ordGo_topo hg h k (dn ++ [f]) ?_ ?_ (by simp; omega) ?_
      · rw [List.nodup_append]
        exact ⟨hn, by simp, fun a ha b hb z => by simp at hb; subst hb; subst z; exact f2 ha⟩
      · intro p hp
        rcases List.mem_append.mp hp with hp | hp
        · exact hl p hp
        · simp at hp; subst hp; exact f1
      · intro i p hi m hm
        by_cases hlt : i < dn.length
        · rw [List.getElem?_append_left hlt] at hi
          rw [List.take_append_of_le_length (by omega)]
          exact ht i p hi m hm
        · have e : i = dn.length := by
            have := (List.getElem?_eq_some_iff.mp hi).1
            simp at this
            omega
          subst e
          rw [List.getElem?_append_right (Nat.le_refl _)] at hi
          simp at hi
          subst hi
          rw [List.take_left']
          · exact f3 m hm
          · rfl
theorem ord_topo {g : List Pl} (hg : Good g) (h : Straight g) : ∃ o, ordOf g = some o ∧ Topo g o := by
  obtain ⟨rk, hr⟩ := h.rk
  exact ordGo_topo hg hr g.length [] List.nodup_nil (fun p hp => by cases hp) (by simp) (fun i p hi => by simp at hi)
section
variable {β : Type} {kvs : List (Key × β)} {k : Key} {v w : β} {i : Nat}
theorem val_at (hn : (kvs.map (·.1)).Nodup) (h : kvs[i]? = some (k, v)) : valG kvs k = some v := by
  unfold valG
  induction kvs generalizing i with
  | nil => simp at h
  | cons x r ih =>
    rw [List.map_cons, List.nodup_cons] at hn
    cases i with
    | zero =>
      simp at h
      subst h
      simp
    | succ i =>
      have h' : r[i]? = some (k, v) := by simpa using h
      have hx : x.1 ≠ k := fun z => hn.1 (by rw [z]; exact List.mem_map.mpr ⟨(k, v), List.mem_of_getElem? h', rfl⟩)
      rw [List.find?_cons_of_neg (by simpa using hx)]
      exact ih hn.2 h'
theorem put_at (hn : (kvs.map (·.1)).Nodup) (h : kvs[i]? = some (k, v)) : putG kvs k w = kvs.set i (k, w) := by
  have hany : (kvs.any fun kv => decide (kv.1 = k)) = true := List.any_eq_true.mpr ⟨(k, v), List.mem_of_getElem? h, by simp⟩
  unfold putG
  rw [if_pos hany]
  clear hany
  induction kvs generalizing i with
  | nil => simp at h
  | cons x r ih =>
    rw [List.map_cons, List.nodup_cons] at hn
    cases i with
    | zero =>
      simp at h
      subst h
      rw [List.map_cons, if_pos rfl, List.set_cons_zero]
      congr 1
      refine (List.map_congr_left fun y hy => ?_).trans (List.map_id r)
      have : y.1 ≠ k := fun z => hn.1 (by rw [← z]; exact List.mem_map.mpr ⟨y, hy, rfl⟩)
      rw [if_neg this]
      rfl
    | succ i =>
      have h' : r[i]? = some (k, v) := by simpa using h
      have hx : x.1 ≠ k := fun z => hn.1 (by rw [z]; exact List.mem_map.mpr ⟨(k, v), List.mem_of_getElem? h', rfl⟩)
      rw [List.map_cons, if_neg hx, List.set_cons_succ, ih hn.2 h']
theorem val_none (h : ∀ kv ∈ kvs, kv.1 ≠ k) : valG kvs k = none := by
  unfold valG
  rw [List.find?_eq_none.mpr fun kv hkv => by simpa using h kv hkv]
  rfl
end
def kN (p : Nat) : Key := .inl (p : Int)
theorem kN_inj {p q : Nat} (h : kN p = kN q) : p = q := by
  have := Sum.inl.inj h
  omega
theorem kN_nodup {ps : List Nat} (h : ps.Nodup) : (ps.map kN).Nodup := by
  show (ps.map kN).Pairwise (· ≠ ·)
  rw [List.pairwise_map]
  exact h.imp fun hab z => hab (kN_inj z)
def ordD : Option (List Nat) → PyData
  | none => .none
  | some o => .tuple (nD o)
def leftD (g : List Pl) (dn : List Nat) : List (Key × PyData) := (restP g dn).map fun p => (kN p, .int (cnt g dn p : Nat))
def midD (g : List Pl) (dn : List Nat) (f i : Nat) : List (Key × PyData) := (restP g (dn ++ [f])).mapIdx fun j p => (kN p, .int (cnt g (if j < i then dn ++ [f] else dn) p : Nat))
theorem rest_nodup (g : List Pl) (dn : List Nat) : (restP g dn).Nodup := List.Pairwise.filter _ List.nodup_range
theorem left_zero (g : List Pl) : leftD g [] = (List.range g.length).map fun p => (kN p, .int ((mvs g p).length : Nat)) := by
  unfold leftD restP cnt
  rw [List.filter_eq_self.mpr (by simp)]
  apply List.map_congr_left
  intro p _
  rw [List.filter_eq_self.mpr (by simp)]
theorem mid_get {g : List Pl} {dn : List Nat} {f i j : Nat} : (midD g dn f i)[j]? = ((restP g (dn ++ [f]))[j]?).map fun p => (kN p, .int (cnt g (if j < i then dn ++ [f] else dn) p : Nat)) := by
  unfold midD
  rw [List.getElem?_mapIdx]
theorem left_drop (g : List Pl) (dn : List Nat) (f : Nat) : dropG (leftD g dn) (kN f) = midD g dn f 0 := by
  apply List.ext_getElem?
  intro j
  rw [mid_get]
  unfold dropG leftD
  rw [List.filter_map, List.getElem?_map, rest_snoc]
  have e : ((fun kv : Key × PyData => decide (kv.1 ≠ kN f)) ∘ fun p => (kN p, PyData.int (cnt g dn p : Nat))) = fun p => decide (p ≠ f) := by
    funext p
    show decide (kN p ≠ kN f) = decide (p ≠ f)
    by_cases h : p = f
    · subst h; simp
    · rw [decide_eq_true (show p ≠ f from h), decide_eq_true (show kN p ≠ kN f from fun z => h (kN_inj z))]
  rw [e]
  rfl
theorem mid_keys (g : List Pl) (dn : List Nat) (f i : Nat) : (midD g dn f i).map (·.1) = (restP g (dn ++ [f])).map kN := by
  apply List.ext_getElem?
  intro j
  rw [List.getElem?_map, mid_get, List.getElem?_map, Option.map_map]
  rfl
theorem mid_all (g : List Pl) (dn : List Nat) (f : Nat) : midD g dn f (restP g (dn ++ [f])).length = leftD g (dn ++ [f]) := by
  apply List.ext_getElem?
  intro j
  rw [mid_get]
  unfold leftD
  rw [List.getElem?_map]
  by_cases h : j < (restP g (dn ++ [f])).length
  · rw [if_pos h]
  · rw [List.getElem?_eq_none (by omega)]
    rfl
theorem mid_next {g : List Pl} {dn : List Nat} {f i p : Nat} (h : (restP g (dn ++ [f]))[i]? = some p) : (midD g dn f i).set i (kN p, .int (cnt g (dn ++ [f]) p : Nat)) = midD g dn f (i + 1) := by
  have hl : i < (restP g (dn ++ [f])).length := (List.getElem?_eq_some_iff.mp h).1
  apply List.ext_getElem?
  intro j
  rw [mid_get]
  by_cases hij : i = j
  · subst hij
    rw [List.getElem?_set_self (by unfold midD; rw [List.length_mapIdx]; exact hl), h, if_pos (by omega)]
    rfl
  · rw [List.getElem?_set_ne hij, mid_get]
    by_cases hj : j < i
    · rw [if_pos hj, if_pos (by omega)]
    · rw [if_neg hj, if_neg (by omega)]
theorem mid_same {g : List Pl} {dn : List Nat} {f i p : Nat} (h : (restP g (dn ++ [f]))[i]? = some p) (e : cnt g (dn ++ [f]) p = cnt g dn p) : midD g dn f i = midD g dn f (i + 1) := by
  rw [← mid_next h]
  apply List.ext_getElem?
  intro j
  by_cases hij : i = j
  · subst hij
    rw [List.getElem?_set_self (by unfold midD; rw [List.length_mapIdx]; exact (List.getElem?_eq_some_iff.mp h).1), mid_get, h, if_neg (Nat.lt_irrefl _), e]
    rfl
  · rw [List.getElem?_set_ne hij]
theorem left_empty {g : List Pl} {dn : List Nat} : (leftD g dn).isEmpty = (restP g dn).isEmpty := by
  unfold leftD
  cases restP g dn <;> rfl
def iD : PyData → Int
  | .int i => i
  | _ => 0
theorem ready_list (g : List Pl) (dn : List Nat) : ((leftD g dn).filter fun kv => decide (iD kv.2 = 0)).map (fun kv => keyD kv.1) = nD (readyP g dn) := by
  unfold leftD readyP nD
  rw [List.filter_map, List.map_map]
  have e : ((fun kv : Key × PyData => decide (iD kv.2 = 0)) ∘ fun p => (kN p, PyData.int (cnt g dn p : Nat))) = fun p => decide (cnt g dn p = 0) := by
    funext p
    show decide ((cnt g dn p : Int) = 0) = decide (cnt g dn p = 0)
    by_cases h : cnt g dn p = 0
    · simp [h]
    · rw [decide_eq_false h, decide_eq_false (by omega)]
  rw [e]
  rfl
theorem ready_sorted (g : List Pl) (dn : List Nat) : sortI ((readyP g dn).map fun p : Nat => (p : Int)) = (readyP g dn).map fun p : Nat => (p : Int) := by
  refine (sortI_is (List.Perm.refl _) ?_).symm
  rw [List.pairwise_map]
  have h : (readyP g dn).Pairwise (· < ·) := List.Pairwise.filter _ (List.Pairwise.filter _ List.pairwise_lt_range)
  exact h.imp fun hab => by omega
theorem nD_ints (ps : List Nat) : nD ps = (ps.map fun p : Nat => (p : Int)).map PyData.int := by unfold nD; rw [List.map_map]; rfl
theorem mvs_nodup {g : List Pl} (hg : Good g) (p : Nat) : (mvs g p).Nodup := by
  unfold mvs
  cases h : g[p]? with
  | none => exact List.nodup_nil
  | some x =>
    cases x with
    | fin w => exact List.nodup_nil
    | mv s ms => exact (hg.ok p _ h).2.2.1
theorem flat_nD (ps : List Nat) : (nD ps).all flatD = true := by rw [nD_ints]; exact flat_ints _
theorem in_nD (f : Nat) (ps : List Nat) : inF (.int (f : Nat)) (nD ps) = decide (f ∈ ps) := by
  rw [nD_ints, inF_ints]
  by_cases h : f ∈ ps
  · rw [decide_eq_true h, decide_eq_true (List.mem_map.mpr ⟨f, h, rfl⟩)]
  · rw [decide_eq_false h, decide_eq_false]
    intro z
    obtain ⟨q, hq, e⟩ := List.mem_map.mp z
    have : q = f := by omega
    subst this
    exact h hq

end
section
local macro_rules | `(tactic| walk_at "cq") => `(tactic| with_reducible assumption)
local macro_rules | `(tactic| walk_at "le") => `(tactic| first | omega | (simp only [List.length_cons, List.length_nil, List.length_append, List.length_map, List.length_set, List.length_range, nD_len]; omega) | decide)
local macro_rules | `(tactic| walk_at "sr") => `(tactic| ((repeat (with_reducible apply SetR.s)); with_reducible exact SetR.z))
local macro_rules | `(tactic| walk_at "ha") => `(tactic| first | walk_at "op" | with_reducible exact truO_b | with_reducible exact truO_l | with_reducible exact truO_t | with_reducible exact truO_n | with_reducible exact truO_i | walk_at "at" | walk_at "bi" | walk_at "dg" | with_reducible rfl | rfl)
local macro_rules | `(tactic| walk_at "v") => `(tactic| first | with_reducible refine wp_parLD ?_ | with_reducible refine wp_parLL ?_ | with_reducible refine wp_par3 ?_ | with_reducible refine wp_parCL ?_ | with_reducible refine wp_lDone ?_ | ((with_reducible apply wp_lSortK); (rfl)) | with_reducible refine wp_eIndex ?_ | ((with_reducible apply wp_eIndexV); (rfl)) | with_reducible refine wp_eInDV ?_ | with_reducible refine wp_dput ?_ | ((with_reducible apply wp_dpop); (exact ⟨_, rfl⟩)) | with_reducible refine wp_tup2 ?_ | with_reducible refine wp_tup3 ?_ | with_reducible refine wp_tup4 ?_ | with_reducible refine wp_uNil ?_ | with_reducible refine wp_uD ?_ | with_reducible refine wp_uL ?_ | with_reducible refine wp_uC ?_ | with_reducible refine wp_vLam ?_ | ((with_reducible apply wp_vFn); (rfl)) | ((with_reducible apply wp_eCallF); (rfl)) | ((with_reducible apply wp_retD); (rfl)) | with_reducible refine wp_callDg ?_ | with_reducible refine wp_sortBy ?_ | ((with_reducible apply ex_one); (rfl)) | with_reducible refine wp_eChain ?_ | ((with_reducible refine wp_bAnd ?_); (repeat walk_at "v"); walk_at "br") | ((with_reducible refine wp_bOr ?_); (repeat walk_at "v"); walk_at "br") | ((with_reducible refine wp_eAnd ?_); (repeat walk_at "v"); walk_at "br") | ((with_reducible refine wp_eOr ?_); (repeat walk_at "v"); walk_at "br") | with_reducible refine wp_bAndB ?_ | with_reducible refine wp_bOrB ?_ | with_reducible refine wp_eAndB ?_ | with_reducible refine wp_eOrB ?_ | walk_at "xx")
local macro_rules | `(tactic| walk_at "v") => `(tactic| first | with_reducible refine wp_eCallD ?_ | with_reducible refine wp_lList ?_ | with_reducible refine wp_lListRg ?_ | with_reducible refine wp_lListRg2 ?_ | with_reducible refine wp_iEn ?_ | with_reducible refine wp_iEnA ?_ | with_reducible refine wp_kSet ?_ | with_reducible refine wp_kSc ?_ | with_reducible refine wp_sortS ?_ | with_reducible refine wp_lenS ?_ | with_reducible refine wp_lRev ?_ | with_reducible refine wp_lRep ?_ | ((with_reducible apply wp_lListV); (rfl)) | ((with_reducible apply wp_lKeys); (rfl)) | ((with_reducible apply wp_lVals); (rfl)) | with_reducible refine wp_vNewD ?_ | with_reducible refine wp_eMinDef ?_ | with_reducible refine wp_lLc ?_ | with_reducible refine wp_bYes ?_ | ((with_reducible apply wp_bTruV); (rfl)) | ((with_reducible apply wp_bTruD); (rfl)) | with_reducible refine wp_bIf ?_ | with_reducible refine wp_lDnew ?_ | with_reducible refine wp_lDc ?_ | with_reducible refine wp_asgC ?_ | with_reducible refine wp_newL ?_ | with_reducible refine wp_retN ?_ | with_reducible refine wp_drop ?_ | ((with_reducible apply wp_app); (exact ⟨_, rfl⟩)) | with_reducible refine wp_setI ?_ | ((with_reducible apply wp_aug); (rfl)) | ((with_reducible apply wp_frzO); (rfl); (walk_at "sr")) | ((with_reducible apply wp_frzD); (rfl)) | with_reducible refine wp_par ?_ | with_reducible refine wp_parDL ?_)
local macro_rules | `(tactic| walk_at "v") => `(tactic| first | with_reducible refine wp_iSq ?_ | with_reducible refine wp_iRg1 ?_ | with_reducible refine wp_iRg2 ?_ | with_reducible refine wp_keep ?_ | with_reducible refine wp_pre ?_ | with_reducible refine wp_next ?_ | with_reducible refine wp_break ?_ | with_reducible refine wp_cont ?_ | with_reducible refine bodyK_nx ?_ | with_reducible refine bodyK_ct ?_ | with_reducible refine bodyK_bk ?_ | with_reducible refine bodyK_ret ?_ | with_reducible refine seqK_bk ?_ | with_reducible refine seqK_ct ?_ | with_reducible refine retK_nx ?_ | with_reducible refine wp_forNil ?_ | with_reducible refine wp_eIsN ?_ | with_reducible refine wp_eNotN ?_ | with_reducible refine wp_eNot ?_ | ((with_reducible apply wp_eIxV); (rfl)) | ((with_reducible apply wp_eLenV); (rfl)) | ((with_reducible apply wp_eTupleV); (rfl)) | ((with_reducible apply wp_eSlV); (rfl)) | with_reducible refine wp_eSl ?_ | with_reducible refine wp_oNone ?_ | with_reducible refine wp_oSome ?_ | with_reducible refine wp_eInV ?_ | ((with_reducible apply wp_ePopO); (rfl); (walk_at "gt"); (walk_at "sr")) | ((with_reducible apply wp_eDget); (exact ⟨_, rfl⟩)) | ((with_reducible apply wp_eDget2); (exact ⟨_, rfl⟩)) | with_reducible refine wp_eDin ?_ | with_reducible refine wp_eDnot ?_ | ((with_reducible apply wp_eLenD); (rfl)) | with_reducible refine wp_eIsi ?_ | with_reducible refine wp_eCallK ?_)
local macro_rules | `(tactic| walk_at "v") => `(tactic| first | with_reducible refine wp_seq ?_ | ((with_reducible apply wp_eVar); (rfl)) | with_reducible refine wp_eC ?_ | with_reducible refine wp_eOp ?_ | with_reducible refine has_some ?_ | ((with_reducible apply hasG_nm); (walk_at "sr")) | ((with_reducible apply hasG_tp); (rfl); (rfl)) | with_reducible refine hasG_cons ?_ | with_reducible refine hasG_nil ?_ | ((with_reducible apply has_of); (walk_at "ha")) | with_reducible refine wp_eCall ?_ | with_reducible refine wp_vE ?_ | ((with_reducible apply wp_vR); (rfl)) | with_reducible refine wp_vNil ?_ | ((with_reducible apply fok_eq); (walk_at "cq")) | with_reducible refine wp_asg ?_ | with_reducible refine wp_asgG ?_ | with_reducible refine wp_asgL ?_ | with_reducible refine wp_if ?_ | with_reducible refine wp_ret ?_ | with_reducible refine seqK_ret ?_ | with_reducible refine retK_ret ?_ | with_reducible refine wp_bTest ?_ | with_reducible refine wp_bTru ?_ | with_reducible refine wp_bNot ?_ | with_reducible refine wp_eCB ?_ | with_reducible refine wp_aCons ?_ | with_reducible refine wp_aNil ?_ | with_reducible refine wp_eUn ?_ | with_reducible refine wp_eTup ?_ | with_reducible refine wp_eL ?_ | with_reducible refine wp_lLst ?_ | with_reducible refine wp_eIf ?_ | with_reducible refine wp_for ?_ | with_reducible refine wp_iWipe ?_)
local macro_rules | `(tactic| walk_at "nk") => `(tactic| ((repeat walk_at "v"); first | exact ⟨rfl, rfl, rfl⟩ | exact ⟨rfl, rfl, by walk_at "op"⟩))
local macro_rules | `(tactic| walk_at "lt2") => `(tactic| first | omega | exact ⟨by omega, by omega⟩ | (simp only [List.length_cons, List.length_nil, List.length_append, List.length_map, List.length_set, nD_len]; omega))
local macro_rules | `(tactic| walk_at "ky") => `(tactic| first | with_reducible exact keyO_i | with_reducible exact keyO_s | rfl)
local macro_rules | `(tactic| walk_at "xx") => `(tactic| first | with_reducible refine ex_zipT ?_ | with_reducible refine ex_zipL ?_ | ((with_reducible apply ex_chain); (walk_at "op"); (intro _; walk_at "nk")) | ((with_reducible apply ex_and2); (intro _; walk_at "nk")) | ((with_reducible apply ex_and1); (intro _; walk_at "nk")) | ((with_reducible apply ex_ls); (rfl)))
local macro_rules | `(tactic| walk_at "xx") => `(tactic| first | ((with_reducible apply ex_dput); (rfl); (walk_at "ky"); (walk_at "lt2"); (walk_at "sr")) | ((with_reducible apply ex_dpop); (rfl); (walk_at "ky"); (walk_at "gt"); (walk_at "sr")) | ((with_reducible apply ex_par); (walk_at "sr"); (walk_at "sr")) | ((with_reducible apply ex_par3); (walk_at "sr"); (walk_at "sr"); (walk_at "sr")) | ((with_reducible apply ex_tup2); (walk_at "sr"); (walk_at "sr")) | ((with_reducible apply ex_tup3); (walk_at "sr"); (walk_at "sr"); (walk_at "sr")) | ((with_reducible apply ex_tup4); (walk_at "sr"); (walk_at "sr"); (walk_at "sr"); (walk_at "sr")) | ((with_reducible apply ex_kit); (walk_at "ki")))
local macro_rules | `(tactic| walk_at "xx") => `(tactic| first | ((with_reducible apply and_le); (walk_at "le")) | ((with_reducible apply and_bk); (rfl)) | ((with_reducible apply ex_ix); (rfl)) | ((with_reducible apply ex_key); (rfl); (walk_at "ky")) | ((with_reducible apply ex_app); (rfl); (walk_at "le"); (walk_at "sr")) | ((with_reducible apply ex_own); (rfl)) | ((with_reducible apply ex_dct); (rfl)) | ((with_reducible apply ex_setI); (rfl); (walk_at "lt2"); (walk_at "sr")))
local macro_rules | `(tactic| walk_at "xx") => `(tactic| first | ((with_reducible apply ex_set); (walk_at "sr")) | with_reducible refine ex_bool ?_ | with_reducible refine ex_dat ?_ | ((with_reducible apply ex_rng); omega) | ((with_reducible apply ex_rep); omega; (walk_at "le")) | ((with_reducible apply ex_rng2); omega; omega) | with_reducible refine ex_int ?_ | with_reducible refine ex_list ?_)
local macro_rules | `(tactic| walk_at "br") => `(tactic| first | ((with_reducible apply br_T); (walk_at "tr")) | ((with_reducible apply br_F); (walk_at "tr")))
local macro_rules | `(tactic| walk_at "vfn") => `(tactic| refine fok_fn (by (simp only [List.length_cons, List.length_nil, Nat.reduceAdd, Nat.reduceSub, List.replicate_succ, List.replicate_zero, List.cons_append, List.nil_append]; try rfl)) ?_)
local macro_rules | `(tactic| walk_at "vc") => `(tactic| repeat (first | walk_at "v" | with_reducible refine seqK_nx ?_ | walk_at "br" | with_reducible exact ⟨rfl, rfl, rfl⟩ | with_reducible exact ⟨rfl, rfl⟩))
local macro_rules | `(tactic| walk_at "wi") => `(tactic| (simp only [wipeV, List.set_cons_succ, List.set_cons_zero]; try rfl))
local macro_rules | `(tactic| walk_at "vs") => `(tactic| ((try with_reducible refine wp_seq ?_); (repeat (first | walk_at "v" | walk_at "br")); (try with_reducible refine seqK_nx ?_)))

local macro_rules | `(tactic| walk_at "cl") => `(tactic| ((with_reducible apply draw_eq) <;> first | omega | assumption))
local macro_rules | `(tactic| walk_at "cl") => `(tactic| ((with_reducible apply dworth_eq) <;> first | omega | assumption))
section
noncomputable def m_moves_of : X :=
  (xSeq (xAsgG (gTp 2 (gsCons (gNm 2) (gsCons (gNm 3) gsNil))) (eOp ixD (eVar 0) (eVar 1)))
  (xRet (eIf (bTest (eOp eqD (eVar 2) (eC (.str "end")))) (eTup aNil) (eVar 3))))
noncomputable def f_moves_of : FS := fnS 4 (m_moves_of )

noncomputable def b_order_of_1 (F_moves_of : FS) : X :=
  (xIf (bTest (eOp (inFD false) (eVar 6) (eCall F_moves_of (vCons (vE (eVar 0)) (vCons (vE (eVar 2)) vNil)))))
        (xDput 1 (eVar 2) (eOp subD (eDget 1 (eVar 2)) (eC (.int 1))))
        xNext)
noncomputable def b_order_of_2 (F_moves_of : FS) : X :=
  (xSeq (xItems 1 4 [2, 5] (gTp 2 (gsCons (gNm 2) (gsCons (gNm 5) gsNil))) (bTest (eOp eqD (eVar 5) (eC (.int 0)))) (eVar 2))
    (xSeq (xIf (bNot (bTru (eVar 4)))
      (xRet (eC .none))
      xNext)
    (xSeq (xAsgG (gSt 2 1 (gsCons (gNm 6) (gsCons (gNm 7) gsNil))) (eCB sortedD (aCons (eVar 4) aNil)))
    (xSeq (xApp 3 (eVar 6))
    (xSeq (xDpop 1 (eVar 6))
    (xFor (iWipe [2, 4, 5, 7] (iSq (eL (lKeys 1)))) (gNm 2)
      (xKeep [2, 4, 5, 7] (b_order_of_1 F_moves_of))))))))
noncomputable def m_order_of (F_moves_of : FS) : X :=
  (xSeq (xAsgC 1 (lDc [2] (iRg1 (eCB lenD (aCons (eVar 0) aNil))) (gNm 2) bYes (eVar 2) (eCB lenD (aCons (eCall F_moves_of (vCons (vE (eVar 0)) (vCons (vE (eVar 2)) vNil))) aNil))))
  (xSeq (xAsgL 3 (lLst aNil))
  (xSeq (xPre [2, 4, 5, 6, 7] (xWhile (bTruD 1)
    (xKeep [2, 4, 5, 6, 7] (b_order_of_2 F_moves_of))))
  (xRet (eTupleV 3)))))
noncomputable def f_order_of : FS := fnS 8 (m_order_of f_moves_of)

theorem nD_at {ns : List Nat} {i : Nat} {d : PyData} (h : (nD ns)[i]? = some d) : ∃ p, ns[i]? = some p ∧ d = .int (p : Nat) := by
  unfold nD at h
  rw [List.getElem?_map] at h
  cases hp : ns[i]? with
  | none => rw [hp] at h; cases h
  | some p => rw [hp] at h; exact ⟨p, rfl, (Option.some.inj h).symm⟩
theorem lenD_gD (g : List Pl) : lenD [gD g] = some (.int (g.length : Nat)) := by
  show some (PyData.int ((g.map Pl.d).length : Nat)) = _
  rw [List.length_map]
theorem lenD_nD (g : List Nat) : lenD [.tuple (nD g)] = some (.int (g.length : Nat)) := by
  show some (PyData.int ((nD g).length : Nat)) = _
  rw [nD_len]
local macro_rules | `(tactic| walk_at "bi") => `(tactic| first | with_reducible exact lenD_gD _ | with_reducible exact lenD_nD _ | with_reducible exact lenD_nL _ | with_reducible exact gX_at (by assumption))
theorem moves_of_eq {g : List Pl} (st : Sg) {p : Nat} (hp : p < g.length) : f_moves_of [.dat (gD g), .dat (.int (p : Int))] st = some (.dat (.tuple (nD (mvs g p))), st) := by
  have hx : g[p]? = some g[p] := List.getElem?_eq_getElem hp
  generalize g[p] = x at hx
  rw [mvs_eq hx]
  unfold f_moves_of m_moves_of
  refine fok_is ?_
  walk_at "vfn"
  cases x with
  | fin w => walk_at "vc"
  | mv sd ms => walk_at "vc"
local macro_rules | `(tactic| walk_at "cq") => `(tactic| ((with_reducible apply moves_of_eq); first | omega | assumption))
def pq (d : PyData) : Bool := match d with
  | .tuple [_, c] => decide (iD c = 0)
  | _ => false
def pf (d : PyData) : PyData := match d with
  | .tuple [k, _] => k
  | _ => .none
theorem mem_leftD {g : List Pl} {dn : List Nat} {kv : Key × PyData} (h : kv ∈ leftD g dn) : ∃ p, p ∈ restP g dn ∧ kv = (kN p, .int (cnt g dn p : Nat)) := by
  obtain ⟨p, hp, e⟩ := List.mem_map.mp h
  exact ⟨p, hp, e.symm⟩
theorem items_eq {g : List Pl} {dn : List Nat} {st : Sg} {l : Lo} {w2 w4 w5 w6 w7 : Vl} (h2 : plainV w2 = true) (h5 : plainV w5 = true) (hl : l = [.dat (gD g), .dct (leftD g dn), w2, .own (nD dn), w4, w5, w6, w7]) (hz : g.length ≤ 1000) :
    xItems 1 4 [2, 5] (gTp 2 (gsCons (gNm 2) (gsCons (gNm 5) gsNil))) (bTest (eOp eqD (eVar 5) (eC (.int 0)))) (eVar 2) l st = some (.nx, l.set 4 (.dat (.list (nD (readyP g dn)))), st) := by
  subst hl
  refine xItems_ev rfl (by simp [plainAt, h2, h5]) ?_ ?_ (by simp)
  · have h1 : (leftD g dn).length = (restP g dn).length := List.length_map _
    have h2 : (restP g dn).length ≤ g.length := by
      unfold restP
      exact Nat.le_trans (List.length_filter_le _ _) (by rw [List.length_range]; exact Nat.le_refl _)
    omega
  · rw [lcL_pure (q := pq) (f := pf) ?_]
    · congr 2
      rw [← ready_list, List.filter_map, List.map_map]
      rfl
    · intro d hd
      obtain ⟨kv, hkv, rfl⟩ := List.mem_map.mp hd
      obtain ⟨p, hp, rfl⟩ := mem_leftD hkv
      refine ⟨_, rfl, ?_, ?_, fun _ => ?_⟩
      · exact backV_id (by simp [wipeV]) fun j hj => match j, hj with
        | 0, _ => rfl
        | 1, _ => rfl
        | 2, hj => absurd (by simp) hj
        | 3, _ => rfl
        | 4, _ => rfl
        | 5, hj => absurd (by simp) hj
        | 6, _ => rfl
        | 7, _ => rfl
        | n + 8, _ => rfl
      · refine Eq.trans (by walk_at "be") ?_
        rfl
      · rfl
theorem in_mvs (f : Nat) (ps : List Nat) : inFD false (.int (f : Int)) (.tuple (nD ps)) = some (.bool (decide (f ∈ ps))) := by
  show (if (nD ps).all flatD = true then some (PyData.bool (if false = true then !inF (.int (f : Int)) (nD ps) else inF (.int (f : Int)) (nD ps))) else none) = _
  rw [if_pos (flat_nD ps), if_neg Bool.false_ne_true]
  have := in_nD f ps
  rw [this]
theorem sortD_ready (g : List Pl) (dn : List Nat) : sortedD [.list (nD (readyP g dn))] = some (.list (nD (readyP g dn))) := by
  rw [nD_ints, sortedD_i, ready_sorted]
theorem first_rest {f : Nat} {r : List Nat} {l : Lo} (hz : r.length ≤ 1000) : gSt 2 1 (gsCons (gNm 6) (gsCons (gNm 7) gsNil)) (.list (nD (f :: r))) l = some ((l.set 6 (.dat (.int (f : Int)))).set 7 (.dat (.list (nD r)))) := by
  have hl : (nD (f :: r)).length = r.length + 1 := nD_len _
  show (if 2 ≤ (nD (f :: r)).length + 1 ∧ (nD (f :: r)).length ≤ 16384 then _ else none) = _
  rw [if_pos (by omega), hl, show r.length + 1 + 1 - 2 = (nD r).length by rw [nD_len]; omega]
  show gsCons (gNm 6) (gsCons (gNm 7) gsNil) ([.int (f : Int)] ++ [.list ((nD r).take (nD r).length)] ++ (nD r).drop (nD r).length) l = _
  rw [List.take_length, List.drop_length]
  rfl

def ordL (g : List Pl) (d : List (Key × PyData)) (dn : List Nat) (w6 : Vl) : Lo := [.dat (gD g), .dct d, .no, .own (nD dn), .no, .no, w6, .no]
theorem ord_inner {g : List Pl} (hg : Good g) {dn : List Nat} {f : Nat} (hf : f ∉ dn) {st : Sg} {Q : Out → Lo → Sg → Prop} (hq : Q .nx (ordL g (leftD g (dn ++ [f])) (dn ++ [f]) (.dat (.int (f : Int)))) st) :
    Wp (xForL (gNm 2) (xKeep [2, 4, 5, 7] (b_order_of_1 f_moves_of)) (nD (restP g (dn ++ [f])))) (ordL g (midD g dn f 0) (dn ++ [f]) (.dat (.int (f : Int)))) st Q := by
  refine wp_forI (fun i l g' => l = ordL g (midD g dn f i) (dn ++ [f]) (.dat (.int (f : Int))) ∧ g' = st) ⟨rfl, rfl⟩ ?_ ?_
  · rintro i d l g' hd ⟨rfl, rfl⟩
    obtain ⟨p, hp, rfl⟩ := nD_at hd
    have hpl : p < g.length := (mem_rest.mp (List.mem_of_getElem? hp)).1
    have hmid : (midD g dn f i)[i]? = some (kN p, .int (cnt g dn p : Nat)) := by
      rw [mid_get, hp, if_neg (Nat.lt_irrefl i)]
      rfl
    have hnd : ((midD g dn f i).map (·.1)).Nodup := by
      rw [mid_keys]
      exact kN_nodup (rest_nodup g _)
    have hv : valG (midD g dn f i) (.inl (p : Int)) = some (.int (cnt g dn p : Nat)) := val_at hnd hmid
    have hc := cnt_snoc (g := g) (dn := dn) (f := f) (p := p) hf (mvs_nodup hg p)
    have hin := in_mvs f (mvs g p)
    have hlen : (midD g dn f i).length < 4000000 := by
      have h1 : (midD g dn f i).length = (restP g (dn ++ [f])).length := by unfold midD; rw [List.length_mapIdx]
      have h2 : (restP g (dn ++ [f])).length ≤ g.length := by
        unfold restP
        exact Nat.le_trans (List.length_filter_le _ _) (by rw [List.length_range]; exact Nat.le_refl _)
      have := hg.len
      omega
    unfold ordL b_order_of_1
    walk_at "vc"
   
    refine br_C (fun hm => ?_) (fun hm => ?_)
    · rw [if_pos (of_decide_eq_true hm)] at hc
      walk_at "vc"
     
      refine ⟨?_, rfl⟩
      have e1 : putG (midD g dn f i) (.inl (p : Int)) (.int ((cnt g dn p : Nat) - 1 : Int)) = (midD g dn f i).set i (kN p, .int ((cnt g dn p : Nat) - 1 : Int)) := put_at hnd hmid
      have e2 : ((cnt g dn p : Nat) - 1 : Int) = (cnt g (dn ++ [f]) p : Nat) := by omega
      rw [← mid_next hp, ← e2, ← e1]
      rfl
    · rw [if_neg (of_decide_eq_false hm)] at hc
      walk_at "vc"
      refine ⟨?_, rfl⟩
      rw [← mid_same hp (by omega)]
      rfl
  · rintro l g' ⟨rfl, rfl⟩
    rw [nD_len, mid_all]
    exact hq
theorem order_of_eq {g : List Pl} (hg : Good g) (st : Sg) : f_order_of [.dat (gD g)] st = some (.dat (ordD (ordOf g)), st) := by
  have hl := hg.len
  unfold f_order_of m_order_of
  refine fok_is ?_
  walk_at "vfn"
  walk_at "vc"
  rw [Int.toNat_natCast, rng_nat]
  refine dcw_pure (xs := List.range g.length) (fun p => .int (p : Nat)) kN (fun _ => true) (fun p => .int ((mvs g p).length : Nat)) (by rfl) (by rfl) (by rw [List.length_range]; omega) (by walk_at "wi") (fun p hp => ?_) ?_ ?_
  · have hp := List.mem_range.mp hp
    walk_at "vc"
    refine ⟨⟨rfl, rfl, rfl⟩, fun _ => ?_⟩
    walk_at "vc"
    refine ⟨⟨rfl, rfl, rfl⟩, ?_⟩
    walk_at "vc"
  · rw [List.filter_eq_self.mpr (by simp)]
    exact kN_nodup List.nodup_range
  · rw [List.filter_eq_self.mpr (by simp), ← left_zero]
    walk_at "vc"
    refine wp_while (fun dn => ordL g (leftD g dn) dn .no) (fun _ => st) (fun dn => dn.Nodup ∧ (∀ p ∈ dn, p < g.length) ∧ ordGo g (g.length - dn.length) dn = ordOf g) (fun dn => g.length - dn.length) [] ⟨List.nodup_nil, by simp, rfl⟩ (by simp; omega) ?_
    rintro dn ⟨h1, h2, h3⟩
    have hr := rest_len h1 h2
    unfold ordL
    walk_at "vc"
    rw [left_empty]
    refine br_C (fun hb => ?_) (fun hb => ?_)
    · unfold b_order_of_2
      have hne : restP g dn ≠ [] := fun z => by rw [z] at hb; cases hb
      have hlt : dn.length < g.length := by
        have : 0 < (restP g dn).length := List.length_pos_iff.mpr hne
        omega
      rw [show g.length - dn.length = (g.length - dn.length - 1) + 1 by omega, ordGo] at h3
      walk_at "v"
      walk_at "v"
      refine wp_eq (items_eq rfl rfl rfl (by omega)) ?_
      cases hq : readyP g dn with
      | nil =>
        rw [hq] at h3
        walk_at "vc"
        rw [← h3]
        exact ⟨rfl, rfl⟩
      | cons f r =>
        rw [hq] at h3
        have hs := sortD_ready g dn
        rw [hq] at hs
        obtain ⟨⟨f1, f2⟩, f3⟩ := mem_ready.mp (show f ∈ readyP g dn by rw [hq]; simp)
        have hrl : (f :: r).length ≤ (restP g dn).length := by rw [← hq]; exact List.length_filter_le _ _
        have hdl : dn.length < 4000000 := by omega
        have hkey : (valG (leftD g dn) (.inl (f : Int))).isSome = true := by
          obtain ⟨i, hi⟩ := List.mem_iff_getElem?.mp (mem_rest.mpr ⟨f1, f2⟩)
          have := val_at (kvs := leftD g dn) (k := kN f) (i := i) (v := .int (cnt g dn f : Nat)) (by unfold leftD; rw [List.map_map]; exact kN_nodup (rest_nodup g dn)) (by unfold leftD; rw [List.getElem?_map, hi]; rfl)
          show (valG (leftD g dn) (kN f)).isSome = true
          rw [this]
          rfl
        walk_at "vc"
        refine has_of (first_rest (by simp at hrl; omega)) ?_
        simp only [List.set_cons_succ, List.set_cons_zero]
        walk_at "vc"
        have ed : dropG (leftD g dn) (Sum.inl (f : Int)) = midD g dn f 0 := left_drop g dn f
        have ek : (midD g dn f 0).map (fun kv => keyD kv.1) = nD (restP g (dn ++ [f])) := by
          have := congrArg (List.map keyD) (mid_keys g dn f 0)
          rw [List.map_map, List.map_map] at this
          exact this
        rw [ed, ek]
        have ea : nD dn ++ [PyData.int (f : Int)] = nD (dn ++ [f]) := by unfold nD; rw [List.map_append]; rfl
        rw [ea]
        refine ord_inner hg f2 ?_
        refine ⟨dn ++ [f], rfl, rfl, ⟨?_, ?_, ?_⟩, by rw [List.length_append]; simp; omega⟩
        · rw [List.nodup_append]
          exact ⟨h1, by simp, fun a ha b hb z => by simp at hb; subst hb; subst z; exact f2 ha⟩
        · intro p hp
          rcases List.mem_append.mp hp with hp | hp
          · exact h2 p hp
          · simp at hp; subst hp; exact f1
        · rw [← h3, List.length_append, List.length_singleton, Nat.sub_add_eq]
    · have : restP g dn = [] := by
        cases hz : restP g dn with
        | nil => rfl
        | cons => rw [hz] at hb; cases hb
      rw [this] at hr
      walk_at "vc"
      rw [show g.length - dn.length = 0 by simp at hr; omega] at h3
      rw [← h3]
      exact ⟨rfl, rfl⟩

end
section
local macro_rules | `(tactic| walk_at "bi") => `(tactic| first | with_reducible exact lenD_gD _ | with_reducible exact lenD_nD _ | with_reducible exact lenD_nL _ | with_reducible exact gX_at (by assumption))
local macro_rules | `(tactic| walk_at "cq") => `(tactic| ((with_reducible apply moves_of_eq); first | omega | assumption))
section
def dOf (f : Nat → PyData) (ps : List Nat) : List (Key × PyData) := ps.map fun p => (kN p, f p)
theorem dOf_get {f : Nat → PyData} {ps : List Nat} {p : Nat} (h : p ∈ ps) : valG (dOf f ps) (.inl (p : Int)) = some (f p) := by
  unfold valG dOf
  induction ps with
  | nil => cases h
  | cons q r ih =>
    rw [List.map_cons]
    by_cases e : q = p
    · subst e
      rw [List.find?_cons_of_pos (by simp [kN])]
      rfl
    · rw [List.find?_cons_of_neg (by
        show ¬ (decide (kN q = .inl (p : Int)) = true)
        rw [decide_eq_true_eq]
        exact fun z => e (kN_inj (q := p) z))]
      exact ih ((List.mem_cons.mp h).resolve_left fun z => e z.symm)
theorem dOf_none {f : Nat → PyData} {ps : List Nat} {p : Nat} (h : p ∉ ps) : valG (dOf f ps) (.inl (p : Int)) = none := val_none fun kv hkv => by
  obtain ⟨q, hq, rfl⟩ := List.mem_map.mp hkv
  exact fun z => h (by rw [← kN_inj (q := p) z]; exact hq)
theorem dOf_has {f : Nat → PyData} {ps : List Nat} {p : Nat} : (valG (dOf f ps) (.inl (p : Int))).isSome = decide (p ∈ ps) := by
  by_cases h : p ∈ ps
  · rw [dOf_get h, decide_eq_true h]; rfl
  · rw [dOf_none h, decide_eq_false h]; rfl
theorem dOf_put {f : Nat → PyData} {ps : List Nat} {p : Nat} (h : p ∉ ps) {v : PyData} (e : v = f p) : putG (dOf f ps) (.inl (p : Int)) v = dOf f (ps ++ [p]) := by
  subst e
  rw [putG_new]
  · unfold dOf; rw [List.map_append]; rfl
  · intro kv hkv
    obtain ⟨q, hq, rfl⟩ := List.mem_map.mp hkv
    exact fun z => h (by rw [← kN_inj (q := p) z]; exact hq)
theorem dOf_len {f : Nat → PyData} {ps : List Nat} : (dOf f ps).length = ps.length := List.length_map _
noncomputable def m_choice : X :=
  (xRet (eIf (bTest (eOp eqD (eVar 0) (eC (.int 0)))) (eCB maxD (aCons (eVar 1) aNil)) (eCB minD (aCons (eVar 1) aNil))))
noncomputable def f_choice : FS := fnS 2 (m_choice )

theorem choice_eq (st : Sg) {s : Int} (hs : s = 0 ∨ s = 1) {ns : List Int} (hn : ns ≠ []) : f_choice [.dat (.int s), .dat (.list (ns.map .int))] st = some (.dat (.int (chI s ns)), st) := by
  unfold f_choice m_choice
  refine fok_is ?_
  walk_at "vfn"
  have h1 := maxD_i hn
  have h2 := minD_i hn
  rcases hs with rfl | rfl
  · walk_at "vc"
  · walk_at "vc"
local macro_rules | `(tactic| walk_at "cq") => `(tactic| ((with_reducible apply choice_eq) <;> assumption))
noncomputable def b_worths_1 (F_order_of F_choice : FS) : X :=
  (xSeq (xAsgG (gTp 2 (gsCons (gNm 3) (gsCons (gNm 4) gsNil))) (eOp ixD (eVar 0) (eVar 2)))
    (xDput 1 (eVar 2) (eIf (bTest (eOp eqD (eVar 3) (eC (.str "end")))) (eVar 4) (eCall F_choice (vCons (vE (eVar 3)) (vCons (vE (eL (lLc [5] (iSq (eVar 4)) (gNm 5) bYes (eDget 1 (eVar 5))))) vNil))))))
noncomputable def m_worths (F_order_of F_choice : FS) : X :=
  (xSeq (xAsgC 1 lDnew)
  (xSeq (xFor (iWipe [2, 3, 4, 5] (iSq (eCall F_order_of (vCons (vE (eVar 0)) vNil)))) (gNm 2)
    (xKeep [2, 3, 4, 5] (b_worths_1 F_order_of F_choice)))
  (xRet (eCB tupleD (aCons (eL (lLc [2] (iRg1 (eCB lenD (aCons (eVar 0) aNil))) (gNm 2) bYes (eDget 1 (eVar 2)))) aNil)))))
noncomputable def f_worths : FS := fnS 6 (m_worths f_order_of f_choice)

def wI (g : List Pl) (p : Nat) : PyData := .int (wor g p)
def worsD (g : List Pl) : List PyData := (List.range g.length).map (wI g)
theorem nodup_len {xs : List Nat} {n : Nat} (h : xs.Nodup) (hx : ∀ x ∈ xs, x < n) : xs.length ≤ n := by
  have := h.length_le_of_subset (l₂ := List.range n) fun x hxx => List.mem_range.mpr (hx x hxx)
  rwa [List.length_range] at this
theorem mvs_lt {g : List Pl} (hg : Good g) {p m : Nat} (h : m ∈ mvs g p) : m < g.length := by
  unfold mvs at h
  cases e : g[p]? with
  | none => rw [e] at h; cases h
  | some x =>
    rw [e] at h
    cases x with
    | fin w => cases h
    | mv s ms => exact (hg.ok p _ e).2.2.2.1 m h
theorem worths_eq {g : List Pl} (hg : Good g) (hst : Straight g) (st : Sg) : f_worths [.dat (gD g)] st = some (.dat (.tuple (worsD g)), st) := by
  have hl := hg.len
  obtain ⟨rk, hrk⟩ := hst.rk
  obtain ⟨o, ho, ht⟩ := ord_topo hg hst
  have hoe := order_of_eq hg st
  rw [ho] at hoe
  have hol : o.length = g.length := by rw [ht.perm.length_eq, List.length_range]
  unfold f_worths m_worths
  refine fok_is ?_
  walk_at "vfn"
  walk_at "vc"
  refine wp_forS o (fun p => .int (p : Nat)) (fun pre => [.dat (gD g), .dct (dOf (wI g) pre), .no, .no, .no, .no]) (fun _ => st) (fun pre s => s = pre) [] rfl ?_ ?_
  · rintro pre p post s e rfl
    have hi : o[s.length]? = some p := by rw [e]; simp
    have htk : o.take s.length = s := by rw [e]; simp
    have hmv := ht.dn _ _ hi
    rw [htk] at hmv
    have hp : p < g.length := List.mem_range.mp (ht.perm.mem_iff.mp (List.mem_of_getElem? hi))
    have hnd : o.Nodup := ht.perm.nodup_iff.mpr List.nodup_range
    have hpn : p ∉ s := fun z => by
      rw [e, List.nodup_append] at hnd
      exact hnd.2.2 p z p List.mem_cons_self rfl
    have hsl : s.length < 4000000 := by
      have := (List.getElem?_eq_some_iff.mp hi).1
      omega
    have hdl : (dOf (wI g) s).length < 4000000 := by rw [dOf_len]; exact hsl
    have hx : g[p]? = some g[p] := List.getElem?_eq_getElem hp
    generalize g[p] = x at hx
    rw [mvs_eq hx] at hmv
    unfold b_worths_1
    cases x with
    | fin w =>
      have hw := wor_fin hrk hx
      walk_at "vc"
      refine ⟨_, ?_, rfl, rfl⟩
      rw [← dOf_put hpn (v := .int w) (by unfold wI; rw [hw])]
      rfl
    | mv sd ms =>
      obtain ⟨q1, q2, q3, q4, q5⟩ := hg.ok p _ hx
      have hw := wor_mv hrk hx
      walk_at "vc"
      refine lcw_map (xs := ms) (fun m => .int (m : Nat)) (wI g) (by rfl) (by rfl) (by omega) (by walk_at "wi") (fun m hm => ?_) ?_
      · have hg := dOf_get (f := wI g) (hmv m hm)
        walk_at "vc"
      · have e1 : ms.map (wI g) = (ms.map (wor g)).map PyData.int := by rw [List.map_map]; rfl
        rw [e1]
        have hne : ms.map (wor g) ≠ [] := fun z => q2 (by simpa using z)
        walk_at "vc"
        refine ⟨_, ?_, rfl, rfl⟩
        rw [← dOf_put hpn (v := .int (chI sd (ms.map (wor g)))) (by unfold wI; rw [hw])]
        rfl
  · rintro s rfl
    walk_at "vc"
    rw [Int.toNat_natCast, rng_nat]
    refine lcw_map (xs := List.range g.length) (fun m => .int (m : Nat)) (wI g) (by rfl) (by rfl) (by rw [List.length_range]; omega) (by walk_at "wi") (fun m hm => ?_) ?_
    · have hg := dOf_get (f := wI g) (ht.perm.mem_iff.mpr hm)
      walk_at "vc"
    · walk_at "vc"

theorem wors_at {g : List Pl} {p : Nat} (hp : p < g.length) : (worsD g)[p]? = some (wI g p) := by unfold worsD; rw [List.getElem?_map, List.getElem?_range hp]; rfl
theorem wors_ix {g : List Pl} {p : Nat} (hp : p < g.length) : ixD (.tuple (worsD g)) (.int (p : Int)) = some (.int (wor g p)) := ixD_tN (wors_at hp)
local macro_rules | `(tactic| walk_at "cq") => `(tactic| ((with_reducible apply worths_eq) <;> assumption))
local macro_rules | `(tactic| walk_at "bi") => `(tactic| first | ((with_reducible apply wors_ix); assumption) | ((with_reducible apply wors_ixL); assumption))
def bestP (g : List Pl) (p : Nat) : List Nat := (mvs g p).filter fun m => decide (wor g m = wor g p)
noncomputable def m_best_moves (F_worths F_moves_of : FS) : X :=
  (xSeq (xAsg 2 (eCall F_worths (vCons (vE (eVar 0)) vNil)))
  (xRet (eCB tupleD (aCons (eL (lLc [3] (iSq (eCall F_moves_of (vCons (vE (eVar 0)) (vCons (vE (eVar 1)) vNil)))) (gNm 3) (bTest (eOp eqD (eOp ixD (eVar 2) (eVar 3)) (eOp ixD (eVar 2) (eVar 1)))) (eVar 3))) aNil))))
noncomputable def f_best_moves : FS := fnS 4 (m_best_moves f_worths f_moves_of)

theorem best_moves_eq {g : List Pl} (hg : Good g) (hst : Straight g) (st : Sg) {p : Nat} (hp : p < g.length) : f_best_moves [.dat (gD g), .dat (.int (p : Int))] st = some (.dat (.tuple (nD (bestP g p))), st) := by
  have hl := hg.len
  unfold f_best_moves m_best_moves
  refine fok_is ?_
  walk_at "vfn"
  walk_at "vc"
  refine lcw_pure (xs := mvs g p) (fun m => .int (m : Nat)) (fun m => decide (wor g m = wor g p)) (fun m => .int (m : Nat)) (by rfl) (by rfl) ?_ (by walk_at "wi") (fun m hm => ?_) ?_
  · exact Nat.le_trans (nodup_len (mvs_nodup hg p) fun m hm => mvs_lt hg hm) (by omega)
  · have hm' := mvs_lt hg hm
    walk_at "vc"
    refine ⟨⟨rfl, rfl, rfl⟩, fun _ => ?_⟩
    walk_at "vc"
  · walk_at "vc"
theorem chI_mem {s : Int} {ns : List Int} (h : ns ≠ []) : chI s ns ∈ ns := by
  unfold chI
  split
  · exact maxI_mem h
  · exact minI_mem h
theorem best_ne {g : List Pl} {rk : Nat → Nat} (hg : Good g) (hrk : Rk g rk) {p : Nat} (h : mvs g p ≠ []) : bestP g p ≠ [] := by
  cases e : g[p]? with
  | none => exact absurd (by unfold mvs; rw [e]; rfl) h
  | some x =>
    cases x with
    | fin w => exact absurd (by rw [mvs_eq e]; rfl) h
    | mv s ms =>
      have hw := wor_mv hrk e
      have hne : ms.map (wor g) ≠ [] := fun z => (hg.ok p _ e).2.1 (by simpa using z)
      obtain ⟨m, hm, hm2⟩ := List.mem_map.mp (chI_mem (s := s) hne)
      refine List.ne_nil_of_mem (a := m) (List.mem_filter.mpr ⟨by rw [mvs_eq e]; exact hm, decide_eq_true ?_⟩)
      rw [hm2, hw]
theorem best_sub {g : List Pl} {p m : Nat} (h : m ∈ bestP g p) : m ∈ mvs g p ∧ wor g m = wor g p := by
  obtain ⟨h1, h2⟩ := List.mem_filter.mp h
  exact ⟨h1, of_decide_eq_true h2⟩
end
section
local macro_rules | `(tactic| walk_at "cq") => `(tactic| ((with_reducible apply choice_eq) <;> assumption))
local macro_rules | `(tactic| walk_at "cq") => `(tactic| ((with_reducible apply worths_eq) <;> assumption))
local macro_rules | `(tactic| walk_at "bi") => `(tactic| first | ((with_reducible apply wors_ix); assumption) | ((with_reducible apply wors_ixL); assumption))
section
theorem draw_ok {ns : List Int} {n : Nat} {m : Int} {g : Sg} {Q : Vl → Sg → Prop} (hz : ns.length ≤ 63) (hn : n < 90000) (hm : 0 < m) (h : ∀ k : Nat, (k : Int) < m → Q (.dat (.int (k : Int))) (tw ns (n + 1) g)) : FOk f_l_draw [scr ns, .ref 0, .dat (.int m)] (tw ns n g) Q := by
  refine fok_eq (draw_eq ns n m g hn hm hz) ?_
  obtain ⟨k, e, hk⟩ := drN_nat ns n (m := m.toNat) (by omega)
  rw [Int.toNat_of_nonneg (by omega)] at e
  rw [e]
  exact h k (by omega)
end
end
end
end
section
local macro_rules | `(tactic| walk_at "cl") => `(tactic| ((with_reducible apply draw_eq) <;> first | omega | assumption))
local macro_rules | `(tactic| walk_at "cl") => `(tactic| ((with_reducible apply dworth_eq) <;> first | omega | assumption))
section
def shN : Nat → PyData → Bool
  | _, .none => true
  | _, .bool _ => true
  | _, .int _ => true
  | _, .str x => PyData.canLay0 (.str x)
  | 0, _ => false
  | k + 1, .tuple ds => ds.all (shN k)
  | k + 1, .list ds => ds.all (shN k)
  | _, _ => false
theorem sh_allL {ds : List PyData} (h : ∀ d ∈ ds, d.canLay0 = true) : PyData.canLayAll0 ds = true := by
  induction ds with
  | nil => simp [PyData.canLayAll0]
  | cons a r ih => simp [PyData.canLayAll0, h a (by simp), ih fun d hd => h d (by simp [hd])]
theorem sh_allD {ds : List PyData} {n : Nat} (h : ∀ d ∈ ds, d.depth ≤ n) : PyData.depthAll ds ≤ n := by
  induction ds with
  | nil => simp [PyData.depthAll]
  | cons a r ih =>
    have h1 := h a (by simp)
    have h2 := ih fun d hd => h d (by simp [hd])
    simp only [PyData.depthAll]
    omega
theorem shN_ok : ∀ (k : Nat) (d : PyData), shN k d = true → d.canLay0 = true ∧ d.depth ≤ k + 1 := by
  intro k
  induction k with
  | zero =>
    intro d h
    cases d <;> first | (exact ⟨rfl, by simp [PyData.depth]⟩) | (simp [shN] at h; done) | exact ⟨h, by simp [PyData.depth]⟩
  | succ k ih =>
    intro d h
    cases d with
    | tuple ds =>
      have h : ds.all (shN k) = true := h
      have hh := fun d hd => ih d (List.all_eq_true.mp h d hd)
      have h2 := sh_allD fun d hd => (hh d hd).2
      exact ⟨by simp only [PyData.canLay0]; exact sh_allL fun d hd => (hh d hd).1, by simp only [PyData.depth]; omega⟩
    | list ds =>
      have h : ds.all (shN k) = true := h
      have hh := fun d hd => ih d (List.all_eq_true.mp h d hd)
      have h2 := sh_allD fun d hd => (hh d hd).2
      exact ⟨by simp only [PyData.canLay0]; exact sh_allL fun d hd => (hh d hd).1, by simp only [PyData.depth]; omega⟩
    | _ => first | (exact ⟨rfl, by simp [PyData.depth]⟩) | (simp [shN] at h; done) | exact ⟨h, by simp [PyData.depth]⟩
theorem sh_shaped {k : Nat} {d : PyData} (h : shN k d = true) (hk : k ≤ 63) : SeqAt.shaped d = true := by
  obtain ⟨h1, h2⟩ := shN_ok k d h
  show (PyData.canLay0 d && decide (PyData.depth d ≤ 64)) = true
  rw [h1, decide_eq_true (by omega)]
  rfl
theorem eqD_self {k : Nat} {d : PyData} (h : shN k d = true) (hk : k ≤ 63) : eqD d d = some (.bool true) := by
  rw [eqD_sh (sh_shaped h hk) (sh_shaped h hk), SeqAt.eqv_refl d (shN_ok k d h).1]
theorem neD_self {k : Nat} {d : PyData} (h : shN k d = true) (hk : k ≤ 63) : neD d d = some (.bool false) := neD_of (eqD_self h hk)
theorem sh_tup {k : Nat} {ds : List PyData} (h : ∀ d ∈ ds, shN k d = true) : shN (k + 1) (.tuple ds) = true := List.all_eq_true.mpr h
theorem sh_lst {k : Nat} {ds : List PyData} (h : ∀ d ∈ ds, shN k d = true) : shN (k + 1) (.list ds) = true := List.all_eq_true.mpr h
theorem sh_int (k : Nat) (i : Int) : shN k (.int i) = true := by cases k <;> rfl
theorem sh_nD {k : Nat} {ms : List Nat} : shN (k + 1) (.tuple (nD ms)) = true := sh_tup fun d hd => by
  obtain ⟨m, _, rfl⟩ := List.mem_map.mp hd
  exact sh_int _ _
theorem sh_nL {k : Nat} {ms : List Nat} : shN (k + 1) (.list (nD ms)) = true := sh_lst fun d hd => by
  obtain ⟨m, _, rfl⟩ := List.mem_map.mp hd
  exact sh_int _ _
end
section
local macro_rules | `(tactic| walk_at "cq") => `(tactic| with_reducible assumption)
local macro_rules | `(tactic| walk_at "le") => `(tactic| first | omega | (simp only [List.length_cons, List.length_nil, List.length_append, List.length_map, List.length_set, List.length_range, nD_len]; omega) | decide)
local macro_rules | `(tactic| walk_at "sr") => `(tactic| ((repeat (with_reducible apply SetR.s)); with_reducible exact SetR.z))
local macro_rules | `(tactic| walk_at "ha") => `(tactic| first | walk_at "op" | with_reducible exact truO_b | with_reducible exact truO_l | with_reducible exact truO_t | with_reducible exact truO_n | with_reducible exact truO_i | walk_at "at" | walk_at "bi" | walk_at "dg" | with_reducible rfl | rfl)
local macro_rules | `(tactic| walk_at "v") => `(tactic| first | with_reducible refine wp_parLD ?_ | with_reducible refine wp_parLL ?_ | with_reducible refine wp_par3 ?_ | with_reducible refine wp_parCL ?_ | with_reducible refine wp_lDone ?_ | ((with_reducible apply wp_lSortK); (rfl)) | with_reducible refine wp_eIndex ?_ | ((with_reducible apply wp_eIndexV); (rfl)) | with_reducible refine wp_eInDV ?_ | with_reducible refine wp_dput ?_ | ((with_reducible apply wp_dpop); (exact ⟨_, rfl⟩)) | with_reducible refine wp_tup2 ?_ | with_reducible refine wp_tup3 ?_ | with_reducible refine wp_tup4 ?_ | with_reducible refine wp_uNil ?_ | with_reducible refine wp_uD ?_ | with_reducible refine wp_uL ?_ | with_reducible refine wp_uC ?_ | with_reducible refine wp_vLam ?_ | ((with_reducible apply wp_vFn); (rfl)) | ((with_reducible apply wp_eCallF); (rfl)) | ((with_reducible apply wp_retD); (rfl)) | with_reducible refine wp_callDg ?_ | with_reducible refine wp_sortBy ?_ | ((with_reducible apply ex_one); (rfl)) | with_reducible refine wp_eChain ?_ | ((with_reducible refine wp_bAnd ?_); (repeat walk_at "v"); walk_at "br") | ((with_reducible refine wp_bOr ?_); (repeat walk_at "v"); walk_at "br") | ((with_reducible refine wp_eAnd ?_); (repeat walk_at "v"); walk_at "br") | ((with_reducible refine wp_eOr ?_); (repeat walk_at "v"); walk_at "br") | with_reducible refine wp_bAndB ?_ | with_reducible refine wp_bOrB ?_ | with_reducible refine wp_eAndB ?_ | with_reducible refine wp_eOrB ?_ | walk_at "xx")
local macro_rules | `(tactic| walk_at "v") => `(tactic| first | with_reducible refine wp_eCallD ?_ | with_reducible refine wp_lList ?_ | with_reducible refine wp_lListRg ?_ | with_reducible refine wp_lListRg2 ?_ | with_reducible refine wp_iEn ?_ | with_reducible refine wp_iEnA ?_ | with_reducible refine wp_kSet ?_ | with_reducible refine wp_kSc ?_ | with_reducible refine wp_sortS ?_ | with_reducible refine wp_lenS ?_ | with_reducible refine wp_lRev ?_ | with_reducible refine wp_lRep ?_ | ((with_reducible apply wp_lListV); (rfl)) | ((with_reducible apply wp_lKeys); (rfl)) | ((with_reducible apply wp_lVals); (rfl)) | with_reducible refine wp_vNewD ?_ | with_reducible refine wp_eMinDef ?_ | with_reducible refine wp_lLc ?_ | with_reducible refine wp_bYes ?_ | ((with_reducible apply wp_bTruV); (rfl)) | ((with_reducible apply wp_bTruD); (rfl)) | with_reducible refine wp_bIf ?_ | with_reducible refine wp_lDnew ?_ | with_reducible refine wp_lDc ?_ | with_reducible refine wp_asgC ?_ | with_reducible refine wp_newL ?_ | with_reducible refine wp_retN ?_ | with_reducible refine wp_drop ?_ | ((with_reducible apply wp_app); (exact ⟨_, rfl⟩)) | with_reducible refine wp_setI ?_ | ((with_reducible apply wp_aug); (rfl)) | ((with_reducible apply wp_frzO); (rfl); (walk_at "sr")) | ((with_reducible apply wp_frzD); (rfl)) | with_reducible refine wp_par ?_ | with_reducible refine wp_parDL ?_)
local macro_rules | `(tactic| walk_at "v") => `(tactic| first | with_reducible refine wp_iSq ?_ | with_reducible refine wp_iRg1 ?_ | with_reducible refine wp_iRg2 ?_ | with_reducible refine wp_keep ?_ | with_reducible refine wp_pre ?_ | with_reducible refine wp_next ?_ | with_reducible refine wp_break ?_ | with_reducible refine wp_cont ?_ | with_reducible refine bodyK_nx ?_ | with_reducible refine bodyK_ct ?_ | with_reducible refine bodyK_bk ?_ | with_reducible refine bodyK_ret ?_ | with_reducible refine seqK_bk ?_ | with_reducible refine seqK_ct ?_ | with_reducible refine retK_nx ?_ | with_reducible refine wp_forNil ?_ | with_reducible refine wp_eIsN ?_ | with_reducible refine wp_eNotN ?_ | with_reducible refine wp_eNot ?_ | ((with_reducible apply wp_eIxV); (rfl)) | ((with_reducible apply wp_eLenV); (rfl)) | ((with_reducible apply wp_eTupleV); (rfl)) | ((with_reducible apply wp_eSlV); (rfl)) | with_reducible refine wp_eSl ?_ | with_reducible refine wp_oNone ?_ | with_reducible refine wp_oSome ?_ | with_reducible refine wp_eInV ?_ | ((with_reducible apply wp_ePopO); (rfl); (walk_at "gt"); (walk_at "sr")) | ((with_reducible apply wp_eDget); (exact ⟨_, rfl⟩)) | ((with_reducible apply wp_eDget2); (exact ⟨_, rfl⟩)) | with_reducible refine wp_eDin ?_ | with_reducible refine wp_eDnot ?_ | ((with_reducible apply wp_eLenD); (rfl)) | with_reducible refine wp_eIsi ?_ | with_reducible refine wp_eCallK ?_)
local macro_rules | `(tactic| walk_at "v") => `(tactic| first | with_reducible refine wp_seq ?_ | ((with_reducible apply wp_eVar); (rfl)) | with_reducible refine wp_eC ?_ | with_reducible refine wp_eOp ?_ | with_reducible refine has_some ?_ | ((with_reducible apply hasG_nm); (walk_at "sr")) | ((with_reducible apply hasG_tp); (rfl); (rfl)) | with_reducible refine hasG_cons ?_ | with_reducible refine hasG_nil ?_ | ((with_reducible apply has_of); (walk_at "ha")) | with_reducible refine wp_eCall ?_ | with_reducible refine wp_vE ?_ | ((with_reducible apply wp_vR); (rfl)) | with_reducible refine wp_vNil ?_ | ((with_reducible apply fok_eq); (walk_at "cq")) | with_reducible refine wp_asg ?_ | with_reducible refine wp_asgG ?_ | with_reducible refine wp_asgL ?_ | with_reducible refine wp_if ?_ | with_reducible refine wp_ret ?_ | with_reducible refine seqK_ret ?_ | with_reducible refine retK_ret ?_ | with_reducible refine wp_bTest ?_ | with_reducible refine wp_bTru ?_ | with_reducible refine wp_bNot ?_ | with_reducible refine wp_eCB ?_ | with_reducible refine wp_aCons ?_ | with_reducible refine wp_aNil ?_ | with_reducible refine wp_eUn ?_ | with_reducible refine wp_eTup ?_ | with_reducible refine wp_eL ?_ | with_reducible refine wp_lLst ?_ | with_reducible refine wp_eIf ?_ | with_reducible refine wp_for ?_ | with_reducible refine wp_iWipe ?_)
local macro_rules | `(tactic| walk_at "nk") => `(tactic| ((repeat walk_at "v"); first | exact ⟨rfl, rfl, rfl⟩ | exact ⟨rfl, rfl, by walk_at "op"⟩))
local macro_rules | `(tactic| walk_at "lt2") => `(tactic| first | omega | exact ⟨by omega, by omega⟩ | (simp only [List.length_cons, List.length_nil, List.length_append, List.length_map, List.length_set, nD_len]; omega))
local macro_rules | `(tactic| walk_at "ky") => `(tactic| first | with_reducible exact keyO_i | with_reducible exact keyO_s | rfl)
local macro_rules | `(tactic| walk_at "xx") => `(tactic| first | with_reducible refine ex_zipT ?_ | with_reducible refine ex_zipL ?_ | ((with_reducible apply ex_chain); (walk_at "op"); (intro _; walk_at "nk")) | ((with_reducible apply ex_and2); (intro _; walk_at "nk")) | ((with_reducible apply ex_and1); (intro _; walk_at "nk")) | ((with_reducible apply ex_ls); (rfl)))
local macro_rules | `(tactic| walk_at "xx") => `(tactic| first | ((with_reducible apply ex_dput); (rfl); (walk_at "ky"); (walk_at "lt2"); (walk_at "sr")) | ((with_reducible apply ex_dpop); (rfl); (walk_at "ky"); (walk_at "gt"); (walk_at "sr")) | ((with_reducible apply ex_par); (walk_at "sr"); (walk_at "sr")) | ((with_reducible apply ex_par3); (walk_at "sr"); (walk_at "sr"); (walk_at "sr")) | ((with_reducible apply ex_tup2); (walk_at "sr"); (walk_at "sr")) | ((with_reducible apply ex_tup3); (walk_at "sr"); (walk_at "sr"); (walk_at "sr")) | ((with_reducible apply ex_tup4); (walk_at "sr"); (walk_at "sr"); (walk_at "sr"); (walk_at "sr")) | ((with_reducible apply ex_kit); (walk_at "ki")))
local macro_rules | `(tactic| walk_at "xx") => `(tactic| first | ((with_reducible apply and_le); (walk_at "le")) | ((with_reducible apply and_bk); (rfl)) | ((with_reducible apply ex_ix); (rfl)) | ((with_reducible apply ex_key); (rfl); (walk_at "ky")) | ((with_reducible apply ex_app); (rfl); (walk_at "le"); (walk_at "sr")) | ((with_reducible apply ex_own); (rfl)) | ((with_reducible apply ex_dct); (rfl)) | ((with_reducible apply ex_setI); (rfl); (walk_at "lt2"); (walk_at "sr")))
local macro_rules | `(tactic| walk_at "xx") => `(tactic| first | ((with_reducible apply ex_set); (walk_at "sr")) | with_reducible refine ex_bool ?_ | with_reducible refine ex_dat ?_ | ((with_reducible apply ex_rng); omega) | ((with_reducible apply ex_rep); omega; (walk_at "le")) | ((with_reducible apply ex_rng2); omega; omega) | with_reducible refine ex_int ?_ | with_reducible refine ex_list ?_)
local macro_rules | `(tactic| walk_at "br") => `(tactic| first | ((with_reducible apply br_T); (walk_at "tr")) | ((with_reducible apply br_F); (walk_at "tr")))
local macro_rules | `(tactic| walk_at "vfn") => `(tactic| refine fok_fn (by (simp only [List.length_cons, List.length_nil, Nat.reduceAdd, Nat.reduceSub, List.replicate_succ, List.replicate_zero, List.cons_append, List.nil_append]; try rfl)) ?_)
local macro_rules | `(tactic| walk_at "vc") => `(tactic| repeat (first | walk_at "v" | with_reducible refine seqK_nx ?_ | walk_at "br" | with_reducible exact ⟨rfl, rfl, rfl⟩ | with_reducible exact ⟨rfl, rfl⟩))
local macro_rules | `(tactic| walk_at "wi") => `(tactic| (simp only [wipeV, List.set_cons_succ, List.set_cons_zero]; try rfl))
local macro_rules | `(tactic| walk_at "vs") => `(tactic| ((try with_reducible refine wp_seq ?_); (repeat (first | walk_at "v" | walk_at "br")); (try with_reducible refine seqK_nx ?_)))

local macro_rules | `(tactic| walk_at "bi") => `(tactic| first | with_reducible exact lenD_gD _ | with_reducible exact lenD_nD _ | with_reducible exact lenD_nL _ | with_reducible exact gX_at (by assumption))
local macro_rules | `(tactic| walk_at "cq") => `(tactic| ((with_reducible apply moves_of_eq); first | omega | assumption))
local macro_rules | `(tactic| walk_at "cq") => `(tactic| ((with_reducible apply choice_eq) <;> assumption))
local macro_rules | `(tactic| walk_at "cq") => `(tactic| ((with_reducible apply worths_eq) <;> assumption))
local macro_rules | `(tactic| walk_at "bi") => `(tactic| first | ((with_reducible apply wors_ix); assumption) | ((with_reducible apply wors_ixL); assumption))
section
def tmN : Nat → PyData → Bool
  | _, .none => true
  | _, .bool _ => true
  | _, .int i => decide (-1000000 ≤ i) && decide (i ≤ 1000000)
  | _, .str x => PyData.canLay0 (.str x)
  | 0, _ => false
  | k + 1, .tuple ds => decide (ds.length ≤ 1000) && ds.all (tmN k)
  | k + 1, .list ds => decide (ds.length ≤ 1000) && ds.all (tmN k)
  | _, _ => false
theorem tm_sh : ∀ (k : Nat) (d : PyData), tmN k d = true → shN k d = true := by
  intro k
  induction k with
  | zero => intro d h; cases d <;> first | rfl | exact h | (simp [tmN] at h; done)
  | succ k ih =>
    intro d h
    cases d with
    | tuple ds =>
      have h : (decide (ds.length ≤ 1000) && ds.all (tmN k)) = true := h
      rw [Bool.and_eq_true] at h
      exact List.all_eq_true.mpr fun d hd => ih d (List.all_eq_true.mp h.2 d hd)
    | list ds =>
      have h : (decide (ds.length ≤ 1000) && ds.all (tmN k)) = true := h
      rw [Bool.and_eq_true] at h
      exact List.all_eq_true.mpr fun d hd => ih d (List.all_eq_true.mp h.2 d hd)
    | _ => first | rfl | exact h | (simp [tmN] at h; done)
theorem tm_mono : ∀ (k : Nat) (d : PyData), tmN k d = true → tmN (k + 1) d = true := by
  intro k
  induction k with
  | zero => intro d h; cases d <;> first | rfl | exact h | (simp [tmN] at h; done)
  | succ k ih =>
    intro d h
    cases d with
    | tuple ds =>
      have h : (decide (ds.length ≤ 1000) && ds.all (tmN k)) = true := h
      rw [Bool.and_eq_true] at h
      show (decide (ds.length ≤ 1000) && ds.all (tmN (k + 1))) = true
      rw [Bool.and_eq_true]
      exact ⟨h.1, List.all_eq_true.mpr fun d hd => ih d (List.all_eq_true.mp h.2 d hd)⟩
    | list ds =>
      have h : (decide (ds.length ≤ 1000) && ds.all (tmN k)) = true := h
      rw [Bool.and_eq_true] at h
      show (decide (ds.length ≤ 1000) && ds.all (tmN (k + 1))) = true
      rw [Bool.and_eq_true]
      exact ⟨h.1, List.all_eq_true.mpr fun d hd => ih d (List.all_eq_true.mp h.2 d hd)⟩
    | _ => first | rfl | exact h | (simp [tmN] at h; done)
theorem tm_tup {k : Nat} {ds : List PyData} : tmN (k + 1) (.tuple ds) = true ↔ ds.length ≤ 1000 ∧ ∀ d ∈ ds, tmN k d = true := by
  show (decide (ds.length ≤ 1000) && ds.all (tmN k)) = true ↔ _
  rw [Bool.and_eq_true, decide_eq_true_eq, List.all_eq_true]
theorem tm_len {k : Nat} {ds : List PyData} (h : tmN k (.tuple ds) = true) : ds.length ≤ 1000 ∧ ∀ d ∈ ds, tmN k d = true := by
  cases k with
  | zero => simp [tmN] at h
  | succ k => exact ⟨(tm_tup.mp h).1, fun d hd => tm_mono _ _ ((tm_tup.mp h).2 d hd)⟩
def whB : PyData → Bool
  | .int _ => true
  | _ => false
def mvB (many : Int) : PyData → Bool
  | .int m => decide (0 ≤ m) && decide (m < many)
  | _ => false
def ofI : PyData → Int
  | .int m => m
  | _ => 0
def dsB (ms : List PyData) : Bool := decide ((uniqI (ms.map ofI)).length = ms.length)
def enB : PyData → Bool
  | .int w => decide (-99 ≤ w) && decide (w ≤ 99)
  | _ => false
def mvsB (many : Int) : PyData → Bool
  | .tuple ms => !ms.isEmpty && (ms.all (mvB many) && dsB ms)
  | _ => false
def plB (many : Int) : PyData → PyData → Bool
  | .str s, b => decide (s = ("end" : Str)) && enB b
  | .int s, b => (decide (s = 0) || decide (s = 1)) && mvsB many b
  | _, _ => false
def isP (many : Int) : PyData → Bool
  | .tuple [a, b] => plB many a b
  | _ => false
def isG : PyData → Bool
  | .tuple ds => !ds.isEmpty && ds.all (isP ds.length)
  | _ => false
theorem eqT_emp {k : Nat} {ds : List PyData} (h : tmN k (.tuple ds) = true) (hk : k ≤ 60) : eqD (.tuple ds) (.tuple []) = some (.bool ds.isEmpty) := by
  have e : eqD (.tuple ds) (.tuple []) = some (.bool (PyData.eqv (.tuple ds) (.tuple []))) := eqD_sh (sh_shaped (tm_sh k _ h) (by omega)) (sh_shaped (k := 1) (sh_nD (ms := [])) (by omega))
  rw [e]
  cases ds <;> rfl
theorem of_moves {many : Int} {ms : List PyData} (h : ms.all (mvB many) = true) : (ms.map ofI).map PyData.int = ms := by
  rw [List.map_map]
  conv => rhs; rw [← List.map_id ms]
  refine List.map_congr_left fun m hm => ?_
  have := List.all_eq_true.mp h m hm
  cases m <;> first | rfl | (simp [mvB] at this; done)
theorem tm_dict {k : Nat} {kvs : List (PyData × PyData)} (h : tmN k (.dict kvs) = true) : False := by cases k <;> simp [tmN] at h
noncomputable def m_is_whole : X :=
  (xRet (eAnd (eIsi "int" (eVar 0)) (eNot (eIsi "bool" (eVar 0)))))
noncomputable def f_is_whole : FS := fnS 1 (m_is_whole )

theorem whole_eq {k : Nat} {d : PyData} (hd : tmN k d = true) (st : Sg) : f_is_whole [.dat d] st = some (.dat (.bool (whB d)), st) := by
  unfold f_is_whole m_is_whole
  refine fok_is ?_
  cases d with
  | dict kvs => exact (tm_dict hd).elim
  | _ => (walk_at "vfn"; walk_at "vc")
noncomputable def m_is_place (F_is_whole : FS) : X :=
  (xSeq (xIf (bOr (bNot (bTru (eIsi "tuple" (eVar 0)))) (bTest (eOp neD (eCB lenD (aCons (eVar 0) aNil)) (eC (.int 2)))))
    (xRet (eC (.bool false)))
    xNext)
  (xSeq (xAsgG (gTp 2 (gsCons (gNm 2) (gsCons (gNm 3) gsNil))) (eVar 0))
  (xSeq (xIf (bTru (eIsi "str" (eVar 2)))
    (xRet (eAnd (eOp eqD (eVar 2) (eC (.str "end"))) (eAnd (eCall F_is_whole (vCons (vE (eVar 3)) vNil)) (eChain leD leD (eUn negD (eC (.int 99))) (eVar 3) (eC (.int 99))))))
    xNext)
  (xSeq (xIf (bOr (bNot (bTru (eCall F_is_whole (vCons (vE (eVar 2)) vNil)))) (bOr (bTest (eOp (inFD true) (eVar 2) (eTup (aCons (eC (.int 0)) (aCons (eC (.int 1)) aNil))))) (bOr (bNot (bTru (eIsi "tuple" (eVar 3)))) (bTest (eOp eqD (eVar 3) (eTup aNil))))))
    (xRet (eC (.bool false)))
    xNext)
  (xSeq (xIf (bNot (bTru (eCB allD (aCons (eL (lLc [4] (iSq (eVar 3)) (gNm 4) bYes (eAnd (eCall F_is_whole (vCons (vE (eVar 4)) vNil)) (eChain leD ltD (eC (.int 0)) (eVar 4) (eVar 1))))) aNil))))
    (xRet (eC (.bool false)))
    xNext)
  (xRet (eOp eqD (eLenS (kSc [4] (iSq (eVar 3)) (gNm 4) bYes (eVar 4))) (eCB lenD (aCons (eVar 3) aNil)))))))))
noncomputable def f_is_place : FS := fnS 5 (m_is_place f_is_whole)

theorem in01 (s : Int) : inFD true (.int s) (.tuple [.int 0, .int 1]) = some (.bool (!(decide (s = 0) || decide (s = 1)))) := by
  show some (PyData.bool (if true = true then !inF (.int s) [.int 0, .int 1] else inF (.int s) [.int 0, .int 1])) = _
  rw [if_pos rfl]
  by_cases h0 : s = 0
  · subst h0; rfl
  · by_cases h1 : s = 1
    · subst h1; rfl
    · rw [decide_eq_false h0, decide_eq_false h1]
      have a0 : ¬ (0 : Int) = s := fun z => h0 z.symm
      have a1 : ¬ (1 : Int) = s := fun z => h1 z.symm
      have e0 : eqF (.int 0) (.int s) = decide ((0 : Int) = s) := by first | rfl | simp [eqF]
      have e1 : eqF (.int 1) (.int s) = decide ((1 : Int) = s) := by first | rfl | simp [eqF]
      simp [inF, e0, e1, a0, a1]
theorem all_mv (many : Int) (ms : List PyData) : allD [.list (ms.map fun m => PyData.bool (mvB many m))] = some (.bool (ms.all (mvB many))) := by
  have := allD_b (ns := ms.map (mvB many))
  rw [List.map_map, List.all_map] at this
  exact this
set_option maxHeartbeats 2000000 in
theorem place_eq {k : Nat} {d : PyData} (hd : tmN k d = true) (hk : k ≤ 50) (many : Int) (st : Sg) : f_is_place [.dat d, .dat (.int many)] st = some (.dat (.bool (isP many d)), st) := by
  unfold f_is_place m_is_place
  refine fok_is ?_
  cases d with
  | dict kvs => exact (tm_dict hd).elim
  | tuple ds =>
    obtain ⟨hl, hds⟩ := tm_len hd
    match ds, hl, hds with
    | [], _, _ => (walk_at "vfn"; walk_at "vc")
    | [a], _, _ => (walk_at "vfn"; walk_at "vc")
    | a :: b :: c :: r, _, _ =>
      have hb : (!decide (((a :: b :: c :: r).length : Int) = 2)) = true := by
        rw [decide_eq_false (by simp only [List.length_cons]; omega)]
        rfl
      walk_at "vfn"
      walk_at "vc"
    | [a, b], _, hds =>
      have ha := hds a (by simp)
      have hb := hds b (by simp)
      have hwa := whole_eq ha st
      have hwb := whole_eq hb st
      cases a with
      | dict kvs => exact (tm_dict ha).elim
      | str s =>
        walk_at "vfn"
        walk_at "vc"
        refine ⟨_, enB b, rfl, fun _ => ?_, ?_⟩
        · cases b with
          | dict kvs => exact (tm_dict hb).elim
          | int w => walk_at "vc"
          | _ => walk_at "vc"
        · walk_at "vc"
      | int s =>
        have hin := in01 s
        have hP : isP many (.tuple [.int s, b]) = ((decide (s = 0) || decide (s = 1)) && mvsB many b) := rfl
        rw [hP]
        cases hB : (decide (s = 0) || decide (s = 1)) with
        | false =>
          rw [hB] at hin
          walk_at "vfn"
          walk_at "vc"
        | true =>
          rw [hB] at hin
          cases b with
          | dict kvs => exact (tm_dict hb).elim
          | tuple ms =>
            have heT := eqT_emp hb (by omega)
            obtain ⟨hml, hms⟩ := tm_len hb
            have hall := all_mv many ms
            have hQ : mvsB many (.tuple ms) = (!ms.isEmpty && (ms.all (mvB many) && dsB ms)) := rfl
            rw [hQ]
            cases hE : ms.isEmpty with
            | true =>
              rw [hE] at heT
              walk_at "vfn"
              walk_at "vc"
            | false =>
              rw [hE] at heT
              walk_at "vfn"
              walk_at "vc"
              refine lcw_map (xs := ms) (fun m => m) (fun m => .bool (mvB many m)) (by first | rfl | rw [List.map_id']) (by rfl) (by omega) (by walk_at "wi") (fun m hm => ?_) ?_
              · have hwm := whole_eq (hms m hm) st
                cases m with
                | dict kvs => exact (tm_dict (hms _ hm)).elim
                | int m => walk_at "vc"
                | _ => walk_at "vc"
              · cases hA : ms.all (mvB many) with
                | false =>
                  rw [hA] at hall
                  walk_at "vc"
                | true =>
                  rw [hA] at hall
                  walk_at "vc"
                  refine lcw_map (xs := ms) (fun m => m) (fun m => m) (by first | rfl | rw [List.map_id']) (by rfl) (by omega) (by walk_at "wi") (fun m hm => ?_) ?_
                  · walk_at "vc"
                  · have hul := uniq_le (ms.map ofI)
                    rw [List.length_map] at hul
                    refine ⟨ms.map ofI, by rw [of_moves hA, List.map_id'], by rw [List.length_map]; omega, by omega, ?_⟩
                    have hds2 : dsB ms = decide (((uniqI (ms.map ofI)).length : Int) = (ms.length : Int)) := decide_eq_decide.mpr (by omega)
                    rw [hds2]
                    walk_at "vc"
          | _ => (walk_at "vfn"; walk_at "vc")
      | _ => (walk_at "vfn"; walk_at "vc")
  | _ => (walk_at "vfn"; walk_at "vc")

end
section
noncomputable def m_is_game (F_is_place : FS) : X :=
  (xRet (eAnd (eIsi "tuple" (eVar 0)) (eAnd (eOp neD (eVar 0) (eTup aNil)) (eCB allD (aCons (eL (lLc [1] (iSq (eVar 0)) (gNm 1) bYes (eCall F_is_place (vCons (vE (eVar 1)) (vCons (vE (eCB lenD (aCons (eVar 0) aNil))) vNil))))) aNil)))))
noncomputable def f_is_game : FS := fnS 2 (m_is_game f_is_place)

theorem game_eq {k : Nat} {d : PyData} (hd : tmN k d = true) (hk : k ≤ 50) (st : Sg) : f_is_game [.dat d] st = some (.dat (.bool (isG d)), st) := by
  unfold f_is_game m_is_game
  refine fok_is ?_
  cases d with
  | dict kvs => exact (tm_dict hd).elim
  | tuple ds =>
    obtain ⟨hl, hds⟩ := tm_len hd
    have heT := eqT_emp hd (by omega)
    have hall := allD_b (ns := ds.map (isP ds.length))
    rw [List.map_map, List.all_map] at hall
    change allD [.list (ds.map fun m => PyData.bool (isP ds.length m))] = some (.bool (ds.all (isP ds.length))) at hall
    have hG : isG (.tuple ds) = (!ds.isEmpty && ds.all (isP ds.length)) := rfl
    rw [hG]
    cases hE : ds.isEmpty with
    | true =>
      rw [hE] at heT
      have hnT := neD_of heT
      walk_at "vfn"
      walk_at "vc"
    | false =>
      rw [hE] at heT
      have hnT := neD_of heT
      walk_at "vfn"
      walk_at "vc"
      refine lcw_map (xs := ds) (fun m => m) (fun m => .bool (isP ds.length m)) (by first | rfl | rw [List.map_id']) (by rfl) (by omega) (by walk_at "wi") (fun m hm => ?_) ?_
      · have hp := place_eq (hds m hm) hk (ds.length : Int) st
        walk_at "vc"
      · walk_at "vc"
  | _ => (walk_at "vfn"; walk_at "vc")
end
end
section
local macro_rules | `(tactic| walk_at "bi") => `(tactic| first | with_reducible exact lenD_gD _ | with_reducible exact lenD_nD _ | with_reducible exact lenD_nL _ | with_reducible exact gX_at (by assumption))
local macro_rules | `(tactic| walk_at "cq") => `(tactic| ((with_reducible apply moves_of_eq); first | omega | assumption))
local macro_rules | `(tactic| walk_at "cq") => `(tactic| ((with_reducible apply choice_eq) <;> assumption))
local macro_rules | `(tactic| walk_at "cq") => `(tactic| ((with_reducible apply worths_eq) <;> assumption))
local macro_rules | `(tactic| walk_at "bi") => `(tactic| first | ((with_reducible apply wors_ix); assumption) | ((with_reducible apply wors_ixL); assumption))
section
theorem gm_tm {g : List Pl} (hg : Good g) (hl : g.length ≤ 1000) : tmN 4 (gD g) = true := by
  refine tm_tup.mpr ⟨by rw [List.length_map]; exact hl, fun d hd => ?_⟩
  obtain ⟨x, hx, rfl⟩ := List.mem_map.mp hd
  obtain ⟨p, hp⟩ := List.mem_iff_getElem?.mp hx
  have h := hg.ok p x hp
  cases x with
  | fin w =>
    refine tm_tup.mpr ⟨by simp, fun d hd => ?_⟩
    simp only [List.mem_cons, List.not_mem_nil, or_false] at hd
    rcases hd with rfl | rfl
    · decide +kernel
    · show (decide _ && decide _) = true
      have h : -99 ≤ w ∧ w ≤ 99 := h
      rw [decide_eq_true (by omega), decide_eq_true (by omega)]
      rfl
  | mv s ms =>
    obtain ⟨h1, h2, h3, h4, h5⟩ := h
    refine tm_tup.mpr ⟨by simp, fun d hd => ?_⟩
    simp only [List.mem_cons, List.not_mem_nil, or_false] at hd
    rcases hd with rfl | rfl
    · show (decide _ && decide _) = true
      rw [decide_eq_true (by omega), decide_eq_true (by omega)]
      rfl
    · refine tm_tup.mpr ⟨by rw [nD_len]; omega, fun d hd => ?_⟩
      obtain ⟨m, hm, rfl⟩ := List.mem_map.mp hd
      have := h4 m hm
      show (decide _ && decide _) = true
      rw [decide_eq_true (by omega), decide_eq_true (by omega)]
      rfl
theorem uniq_nat {ms : List Nat} (h : ms.Nodup) : dsB (nD ms) = true := by
  unfold dsB
  have e : (nD ms).map ofI = ms.map fun m : Nat => (m : Int) := by
    unfold nD
    rw [List.map_map]
    rfl
  have hn : (ms.map fun m : Nat => (m : Int)).Nodup := by
    rw [List.Nodup, List.pairwise_map]
    exact h.imp fun hne e => hne (by omega)
  have h1 : (uniqI (ms.map fun m : Nat => (m : Int))).length = (ms.map fun m : Nat => (m : Int)).length := Nat.le_antisymm (uniq_le _) (hn.length_le_of_subset fun _ h => uniq_mem.mpr h)
  rw [e, h1, List.length_map, nD_len, decide_eq_true rfl]
theorem gm_is {g : List Pl} (hg : Good g) (h0 : 0 < g.length) : isG (gD g) = true := by
  show (!(g.map Pl.d).isEmpty && (g.map Pl.d).all (isP ((g.map Pl.d).length : Nat))) = true
  rw [Bool.and_eq_true]
  refine ⟨?_, List.all_eq_true.mpr fun d hd => ?_⟩
  · cases g with
    | nil => exact absurd h0 (Nat.lt_irrefl _)
    | cons _ _ => rfl
  · rw [List.length_map]
    obtain ⟨x, hx, rfl⟩ := List.mem_map.mp hd
    obtain ⟨p, hp⟩ := List.mem_iff_getElem?.mp hx
    have h := hg.ok p x hp
    cases x with
    | fin w =>
      have h : -99 ≤ w ∧ w ≤ 99 := h
      show (decide (("end" : Str) = "end") && (decide (-99 ≤ w) && decide (w ≤ 99))) = true
      rw [decide_eq_true rfl, decide_eq_true h.1, decide_eq_true h.2]
      rfl
    | mv s ms =>
      obtain ⟨h1, h2, h3, h4, h5⟩ := h
      show ((decide (s = 0) || decide (s = 1)) && (!(nD ms).isEmpty && ((nD ms).all (mvB (g.length : Nat)) && dsB (nD ms)))) = true
      have e1 : (decide (s = 0) || decide (s = 1)) = true := by
        rcases h1 with z | z <;> rw [z] <;> rfl
      have e2 : (nD ms).isEmpty = false := by
        cases ms with
        | nil => exact absurd rfl h2
        | cons _ _ => rfl
      have e3 : (nD ms).all (mvB (g.length : Nat)) = true := List.all_eq_true.mpr fun d hd => by
        obtain ⟨m, hm, rfl⟩ := List.mem_map.mp hd
        have := h4 m hm
        show (decide (0 ≤ (m : Int)) && decide ((m : Int) < (g.length : Nat))) = true
        rw [decide_eq_true (by omega), decide_eq_true (by omega)]
        rfl
      rw [e1, e2, e3, uniq_nat h3]
      rfl

end
section
local macro_rules | `(tactic| walk_at "cq") => `(tactic| with_reducible assumption)
local macro_rules | `(tactic| walk_at "le") => `(tactic| first | omega | (simp only [List.length_cons, List.length_nil, List.length_append, List.length_map, List.length_set, List.length_range, nD_len]; omega) | decide)
local macro_rules | `(tactic| walk_at "sr") => `(tactic| ((repeat (with_reducible apply SetR.s)); with_reducible exact SetR.z))
local macro_rules | `(tactic| walk_at "ha") => `(tactic| first | walk_at "op" | with_reducible exact truO_b | with_reducible exact truO_l | with_reducible exact truO_t | with_reducible exact truO_n | with_reducible exact truO_i | walk_at "at" | walk_at "bi" | walk_at "dg" | with_reducible rfl | rfl)
local macro_rules | `(tactic| walk_at "v") => `(tactic| first | with_reducible refine wp_parLD ?_ | with_reducible refine wp_parLL ?_ | with_reducible refine wp_par3 ?_ | with_reducible refine wp_parCL ?_ | with_reducible refine wp_lDone ?_ | ((with_reducible apply wp_lSortK); (rfl)) | with_reducible refine wp_eIndex ?_ | ((with_reducible apply wp_eIndexV); (rfl)) | with_reducible refine wp_eInDV ?_ | with_reducible refine wp_dput ?_ | ((with_reducible apply wp_dpop); (exact ⟨_, rfl⟩)) | with_reducible refine wp_tup2 ?_ | with_reducible refine wp_tup3 ?_ | with_reducible refine wp_tup4 ?_ | with_reducible refine wp_uNil ?_ | with_reducible refine wp_uD ?_ | with_reducible refine wp_uL ?_ | with_reducible refine wp_uC ?_ | with_reducible refine wp_vLam ?_ | ((with_reducible apply wp_vFn); (rfl)) | ((with_reducible apply wp_eCallF); (rfl)) | ((with_reducible apply wp_retD); (rfl)) | with_reducible refine wp_callDg ?_ | with_reducible refine wp_sortBy ?_ | ((with_reducible apply ex_one); (rfl)) | with_reducible refine wp_eChain ?_ | ((with_reducible refine wp_bAnd ?_); (repeat walk_at "v"); walk_at "br") | ((with_reducible refine wp_bOr ?_); (repeat walk_at "v"); walk_at "br") | ((with_reducible refine wp_eAnd ?_); (repeat walk_at "v"); walk_at "br") | ((with_reducible refine wp_eOr ?_); (repeat walk_at "v"); walk_at "br") | with_reducible refine wp_bAndB ?_ | with_reducible refine wp_bOrB ?_ | with_reducible refine wp_eAndB ?_ | with_reducible refine wp_eOrB ?_ | walk_at "xx")
local macro_rules | `(tactic| walk_at "v") => `(tactic| first | with_reducible refine wp_eCallD ?_ | with_reducible refine wp_lList ?_ | with_reducible refine wp_lListRg ?_ | with_reducible refine wp_lListRg2 ?_ | with_reducible refine wp_iEn ?_ | with_reducible refine wp_iEnA ?_ | with_reducible refine wp_kSet ?_ | with_reducible refine wp_kSc ?_ | with_reducible refine wp_sortS ?_ | with_reducible refine wp_lenS ?_ | with_reducible refine wp_lRev ?_ | with_reducible refine wp_lRep ?_ | ((with_reducible apply wp_lListV); (rfl)) | ((with_reducible apply wp_lKeys); (rfl)) | ((with_reducible apply wp_lVals); (rfl)) | with_reducible refine wp_vNewD ?_ | with_reducible refine wp_eMinDef ?_ | with_reducible refine wp_lLc ?_ | with_reducible refine wp_bYes ?_ | ((with_reducible apply wp_bTruV); (rfl)) | ((with_reducible apply wp_bTruD); (rfl)) | with_reducible refine wp_bIf ?_ | with_reducible refine wp_lDnew ?_ | with_reducible refine wp_lDc ?_ | with_reducible refine wp_asgC ?_ | with_reducible refine wp_newL ?_ | with_reducible refine wp_retN ?_ | with_reducible refine wp_drop ?_ | ((with_reducible apply wp_app); (exact ⟨_, rfl⟩)) | with_reducible refine wp_setI ?_ | ((with_reducible apply wp_aug); (rfl)) | ((with_reducible apply wp_frzO); (rfl); (walk_at "sr")) | ((with_reducible apply wp_frzD); (rfl)) | with_reducible refine wp_par ?_ | with_reducible refine wp_parDL ?_)
local macro_rules | `(tactic| walk_at "v") => `(tactic| first | with_reducible refine wp_iSq ?_ | with_reducible refine wp_iRg1 ?_ | with_reducible refine wp_iRg2 ?_ | with_reducible refine wp_keep ?_ | with_reducible refine wp_pre ?_ | with_reducible refine wp_next ?_ | with_reducible refine wp_break ?_ | with_reducible refine wp_cont ?_ | with_reducible refine bodyK_nx ?_ | with_reducible refine bodyK_ct ?_ | with_reducible refine bodyK_bk ?_ | with_reducible refine bodyK_ret ?_ | with_reducible refine seqK_bk ?_ | with_reducible refine seqK_ct ?_ | with_reducible refine retK_nx ?_ | with_reducible refine wp_forNil ?_ | with_reducible refine wp_eIsN ?_ | with_reducible refine wp_eNotN ?_ | with_reducible refine wp_eNot ?_ | ((with_reducible apply wp_eIxV); (rfl)) | ((with_reducible apply wp_eLenV); (rfl)) | ((with_reducible apply wp_eTupleV); (rfl)) | ((with_reducible apply wp_eSlV); (rfl)) | with_reducible refine wp_eSl ?_ | with_reducible refine wp_oNone ?_ | with_reducible refine wp_oSome ?_ | with_reducible refine wp_eInV ?_ | ((with_reducible apply wp_ePopO); (rfl); (walk_at "gt"); (walk_at "sr")) | ((with_reducible apply wp_eDget); (exact ⟨_, rfl⟩)) | ((with_reducible apply wp_eDget2); (exact ⟨_, rfl⟩)) | with_reducible refine wp_eDin ?_ | with_reducible refine wp_eDnot ?_ | ((with_reducible apply wp_eLenD); (rfl)) | with_reducible refine wp_eIsi ?_ | with_reducible refine wp_eCallK ?_)
local macro_rules | `(tactic| walk_at "v") => `(tactic| first | with_reducible refine wp_seq ?_ | ((with_reducible apply wp_eVar); (rfl)) | with_reducible refine wp_eC ?_ | with_reducible refine wp_eOp ?_ | with_reducible refine has_some ?_ | ((with_reducible apply hasG_nm); (walk_at "sr")) | ((with_reducible apply hasG_tp); (rfl); (rfl)) | with_reducible refine hasG_cons ?_ | with_reducible refine hasG_nil ?_ | ((with_reducible apply has_of); (walk_at "ha")) | with_reducible refine wp_eCall ?_ | with_reducible refine wp_vE ?_ | ((with_reducible apply wp_vR); (rfl)) | with_reducible refine wp_vNil ?_ | ((with_reducible apply fok_eq); (walk_at "cq")) | with_reducible refine wp_asg ?_ | with_reducible refine wp_asgG ?_ | with_reducible refine wp_asgL ?_ | with_reducible refine wp_if ?_ | with_reducible refine wp_ret ?_ | with_reducible refine seqK_ret ?_ | with_reducible refine retK_ret ?_ | with_reducible refine wp_bTest ?_ | with_reducible refine wp_bTru ?_ | with_reducible refine wp_bNot ?_ | with_reducible refine wp_eCB ?_ | with_reducible refine wp_aCons ?_ | with_reducible refine wp_aNil ?_ | with_reducible refine wp_eUn ?_ | with_reducible refine wp_eTup ?_ | with_reducible refine wp_eL ?_ | with_reducible refine wp_lLst ?_ | with_reducible refine wp_eIf ?_ | with_reducible refine wp_for ?_ | with_reducible refine wp_iWipe ?_)
local macro_rules | `(tactic| walk_at "nk") => `(tactic| ((repeat walk_at "v"); first | exact ⟨rfl, rfl, rfl⟩ | exact ⟨rfl, rfl, by walk_at "op"⟩))
local macro_rules | `(tactic| walk_at "lt2") => `(tactic| first | omega | exact ⟨by omega, by omega⟩ | (simp only [List.length_cons, List.length_nil, List.length_append, List.length_map, List.length_set, nD_len]; omega))
local macro_rules | `(tactic| walk_at "ky") => `(tactic| first | with_reducible exact keyO_i | with_reducible exact keyO_s | rfl)
local macro_rules | `(tactic| walk_at "xx") => `(tactic| first | with_reducible refine ex_zipT ?_ | with_reducible refine ex_zipL ?_ | ((with_reducible apply ex_chain); (walk_at "op"); (intro _; walk_at "nk")) | ((with_reducible apply ex_and2); (intro _; walk_at "nk")) | ((with_reducible apply ex_and1); (intro _; walk_at "nk")) | ((with_reducible apply ex_ls); (rfl)))
local macro_rules | `(tactic| walk_at "xx") => `(tactic| first | ((with_reducible apply ex_dput); (rfl); (walk_at "ky"); (walk_at "lt2"); (walk_at "sr")) | ((with_reducible apply ex_dpop); (rfl); (walk_at "ky"); (walk_at "gt"); (walk_at "sr")) | ((with_reducible apply ex_par); (walk_at "sr"); (walk_at "sr")) | ((with_reducible apply ex_par3); (walk_at "sr"); (walk_at "sr"); (walk_at "sr")) | ((with_reducible apply ex_tup2); (walk_at "sr"); (walk_at "sr")) | ((with_reducible apply ex_tup3); (walk_at "sr"); (walk_at "sr"); (walk_at "sr")) | ((with_reducible apply ex_tup4); (walk_at "sr"); (walk_at "sr"); (walk_at "sr"); (walk_at "sr")) | ((with_reducible apply ex_kit); (walk_at "ki")))
local macro_rules | `(tactic| walk_at "xx") => `(tactic| first | ((with_reducible apply and_le); (walk_at "le")) | ((with_reducible apply and_bk); (rfl)) | ((with_reducible apply ex_ix); (rfl)) | ((with_reducible apply ex_key); (rfl); (walk_at "ky")) | ((with_reducible apply ex_app); (rfl); (walk_at "le"); (walk_at "sr")) | ((with_reducible apply ex_own); (rfl)) | ((with_reducible apply ex_dct); (rfl)) | ((with_reducible apply ex_setI); (rfl); (walk_at "lt2"); (walk_at "sr")))
local macro_rules | `(tactic| walk_at "xx") => `(tactic| first | ((with_reducible apply ex_set); (walk_at "sr")) | with_reducible refine ex_bool ?_ | with_reducible refine ex_dat ?_ | ((with_reducible apply ex_rng); omega) | ((with_reducible apply ex_rep); omega; (walk_at "le")) | ((with_reducible apply ex_rng2); omega; omega) | with_reducible refine ex_int ?_ | with_reducible refine ex_list ?_)
local macro_rules | `(tactic| walk_at "br") => `(tactic| first | ((with_reducible apply br_T); (walk_at "tr")) | ((with_reducible apply br_F); (walk_at "tr")))
local macro_rules | `(tactic| walk_at "vfn") => `(tactic| refine fok_fn (by (simp only [List.length_cons, List.length_nil, Nat.reduceAdd, Nat.reduceSub, List.replicate_succ, List.replicate_zero, List.cons_append, List.nil_append]; try rfl)) ?_)
local macro_rules | `(tactic| walk_at "vc") => `(tactic| repeat (first | walk_at "v" | with_reducible refine seqK_nx ?_ | walk_at "br" | with_reducible exact ⟨rfl, rfl, rfl⟩ | with_reducible exact ⟨rfl, rfl⟩))
local macro_rules | `(tactic| walk_at "wi") => `(tactic| (simp only [wipeV, List.set_cons_succ, List.set_cons_zero]; try rfl))
local macro_rules | `(tactic| walk_at "vs") => `(tactic| ((try with_reducible refine wp_seq ?_); (repeat (first | walk_at "v" | walk_at "br")); (try with_reducible refine seqK_nx ?_)))

section
local macro_rules | `(tactic| walk_at "kn") => `(tactic| first | with_reducible assumption | rfl)
local macro_rules | `(tactic| walk_at "v") => `(tactic| first | ((with_reducible apply wp_eNget); (exact ⟨_, rfl⟩)) | with_reducible refine wp_eNin ?_ | with_reducible refine wp_eNnot ?_ | with_reducible refine wp_nput ?_ | with_reducible refine wp_lNnew ?_ | with_reducible refine wp_lNone ?_ | with_reducible refine wp_uN ?_ | with_reducible refine wp_eHNget ?_ | with_reducible refine wp_eHNinF ?_ | with_reducible refine wp_eHNinT ?_ | with_reducible refine wp_xHNput ?_ | with_reducible refine wp_xFldN ?_ | ((with_reducible apply ex_keyN); (rfl); (walk_at "kn")) | ((with_reducible apply ex_nput); (rfl); (walk_at "kn"); (walk_at "lt2"); (walk_at "sr")) | ((with_reducible apply ex_dnk); (rfl)))
theorem keyN2 (a b : Int) : keyN (.tuple [.int a, .int b]) = some (.tup [.num a, .num b]) := by rfl

end
section
local macro_rules | `(tactic| walk_at "xx") => `(tactic| first | ((with_reducible apply ex_xtA); (rfl)) | ((with_reducible apply ex_asdA); (rfl)))
local macro_rules | `(tactic| walk_at "v") => `(tactic| first | with_reducible refine wp_retV ?_ | ((with_reducible apply wp_vTupXV); (rfl)) | with_reducible refine wp_vTupX ?_ | ((with_reducible apply wp_vVarX); (rfl)) | ((with_reducible apply wp_vVarD); (rfl)) | with_reducible refine wp_vCall ?_ | with_reducible refine wp_eCallX ?_ | ((with_reducible apply wp_eVarX); (rfl)) | with_reducible refine wp_asgV ?_ | ((with_reducible apply wp_eIndexX); (rfl)))
section
variable {α : Type} [DecidableEq α]
def seenG : List α → List α → List α
  | s, [] => s
  | s, x :: r => seenG (if x ∈ s then s else s ++ [x]) r
def seenL (xs : List α) : List α := seenG [] xs
structure Enc (enc : α → PyData) : Prop where
  eq : ∀ a b, PyData.eqv (enc a) (enc b) = decide (a = b)
  sh : ∀ a, shN 5 (enc a) = true
theorem seenG_snoc : ∀ (s xs : List α) (x : α), seenG s (xs ++ [x]) = if x ∈ seenG s xs then seenG s xs else seenG s xs ++ [x]
  | _, [], _ => rfl
  | s, y :: r, x => seenG_snoc _ r x
theorem seen_snoc (xs : List α) (x : α) : seenL (xs ++ [x]) = if x ∈ seenL xs then seenL xs else seenL xs ++ [x] := seenG_snoc [] xs x
theorem seenG_len : ∀ (s xs : List α), (seenG s xs).length ≤ s.length + xs.length
  | _, [] => Nat.le_refl _
  | s, x :: r => by
    have h := seenG_len (if x ∈ s then s else s ++ [x]) r
    rw [seenG]
    by_cases hx : x ∈ s
    · rw [if_pos hx] at h ⊢
      simp only [List.length_cons]
      omega
    · rw [if_neg hx] at h ⊢
      simp only [List.length_append, List.length_cons, List.length_nil] at h ⊢
      omega
theorem seen_len (xs : List α) : (seenL xs).length ≤ xs.length := by
  have := seenG_len ([] : List α) xs
  unfold seenL
  simpa using this
theorem seenG_mem : ∀ (s xs : List α) (x : α), x ∈ seenG s xs ↔ x ∈ s ∨ x ∈ xs
  | _, [], _ => by simp [seenG]
  | s, y :: r, x => by
    rw [seenG, seenG_mem]
    by_cases hy : y ∈ s
    · rw [if_pos hy, List.mem_cons]
      constructor
      · rintro (h | h)
        · exact .inl h
        · exact .inr (.inr h)
      · rintro (h | rfl | h)
        · exact .inl h
        · exact .inl hy
        · exact .inr h
    · rw [if_neg hy, List.mem_append, List.mem_singleton, List.mem_cons, or_assoc]
theorem seen_mem {xs : List α} {x : α} : x ∈ seenL xs ↔ x ∈ xs := by
  unfold seenL
  rw [seenG_mem]
  simp
variable {enc : α → PyData}
theorem enc_any (h : Enc enc) (x : α) (s : List α) : ((s.map enc).any fun z => PyData.eqv z (enc x)) = decide (x ∈ s) := by
  induction s with
  | nil => rfl
  | cons y r ih =>
    rw [List.map_cons, List.any_cons, ih, h.eq]
    by_cases hy : y = x
    · subst hy; simp
    · have : ¬ x = y := fun z => hy z.symm
      simp [hy, this]
theorem enc_shl (h : Enc enc) (s : List α) : SeqAt.shaped (.list (s.map enc)) = true := sh_shaped (k := 6) (sh_lst fun d hd => by
  obtain ⟨a, _, rfl⟩ := List.mem_map.mp hd
  exact h.sh a) (by omega)
theorem enc_sh1 (h : Enc enc) (x : α) : SeqAt.shaped (enc x) = true := sh_shaped (h.sh x) (by omega)
theorem enc_notin (h : Enc enc) (x : α) (s : List α) : inDD true (enc x) (.list (s.map enc)) = some (.bool (!decide (x ∈ s))) := by
  unfold inDD
  simp only
  rw [if_pos ⟨enc_sh1 h x, enc_shl h s⟩, if_pos trivial, enc_any h]
omit [DecidableEq α] in
theorem idxOf_inj [DecidableEq α] {s : List α} {x y : α} (hx : x ∈ s) (e : s.idxOf x = s.idxOf y) : x = y := by
  have h1 := List.idxOf_lt_length_of_mem hx
  have h2 : s.idxOf y < s.length := by rw [← e]; exact h1
  have e1 : s[s.idxOf x]? = some x := by rw [List.getElem?_eq_getElem h1, List.getElem_idxOf h1]
  have e2 : s[s.idxOf y]? = some y := by rw [List.getElem?_eq_getElem h2, List.getElem_idxOf h2]
  rw [e, e2] at e1
  exact (Option.some.inj e1).symm
end
end
section
local macro_rules | `(tactic| walk_at "kn") => `(tactic| first | with_reducible assumption | rfl)
local macro_rules | `(tactic| walk_at "v") => `(tactic| first | ((with_reducible apply wp_eNget); (exact ⟨_, rfl⟩)) | with_reducible refine wp_eNin ?_ | with_reducible refine wp_eNnot ?_ | with_reducible refine wp_nput ?_ | with_reducible refine wp_lNnew ?_ | with_reducible refine wp_lNone ?_ | with_reducible refine wp_uN ?_ | with_reducible refine wp_eHNget ?_ | with_reducible refine wp_eHNinF ?_ | with_reducible refine wp_eHNinT ?_ | with_reducible refine wp_xHNput ?_ | with_reducible refine wp_xFldN ?_ | ((with_reducible apply ex_keyN); (rfl); (walk_at "kn")) | ((with_reducible apply ex_nput); (rfl); (walk_at "kn"); (walk_at "lt2"); (walk_at "sr")) | ((with_reducible apply ex_dnk); (rfl)))
local macro_rules | `(tactic| walk_at "xx") => `(tactic| first | ((with_reducible apply ex_xtA); (rfl)) | ((with_reducible apply ex_asdA); (rfl)))
local macro_rules | `(tactic| walk_at "v") => `(tactic| first | with_reducible refine wp_retV ?_ | ((with_reducible apply wp_vTupXV); (rfl)) | with_reducible refine wp_vTupX ?_ | ((with_reducible apply wp_vVarX); (rfl)) | ((with_reducible apply wp_vVarD); (rfl)) | with_reducible refine wp_vCall ?_ | with_reducible refine wp_eCallX ?_ | ((with_reducible apply wp_eVarX); (rfl)) | with_reducible refine wp_asgV ?_ | ((with_reducible apply wp_eIndexX); (rfl)))
section
local macro_rules | `(tactic| walk_at "ha") => `(tactic| with_reducible assumption)
local macro_rules | `(tactic| walk_at "v") => `(tactic| first | ((with_reducible apply wp_eCallF); (rfl)) | with_reducible refine wp_eCallB ?_ | with_reducible refine wp_vDefC ?_ | ((with_reducible apply wp_vLamC); (rfl)) | ((with_reducible apply wp_vFn); (rfl)))
section
variable {α : Type} [DecidableEq α]
structure Rul (α : Type) where
  enc : α → PyData
  key : α → NestedKey
  follow : α → List α
  worth : α → Int
  side : α → Int
structure RulOk (R : Rul α) (P : α → Prop) (U : List α) : Prop where
  enc : Enc R.enc
  inj : ∀ x y, R.key x = R.key y → x = y
  key : ∀ x, keyN (R.enc x) = some (R.key x)
  side : ∀ x, ixD (R.enc x) (.int 1) = some (.int (R.side x))
  go : ∀ x, P x → ∀ y ∈ R.follow x, P y
  nd : ∀ x, P x → (R.follow x).Nodup
  few : ∀ x, P x → (R.follow x).length ≤ 1000
  mem : ∀ x, P x → x ∈ U
  len : U.length ≤ 1000
def rowB (R : Rul α) (sts : List α) (x : α) : PyData := if R.follow x = [] then .tuple [.str "end", .int (R.worth x)] else .tuple [.int (R.side x), .tuple ((R.follow x).map fun y => .int ((sts.idxOf y : Nat) : Int))]
def bfs (R : Rul α) : Nat → List α → List PyData → Nat → List PyData
  | 0, _, rows, _ => rows
  | n + 1, sts, rows, i => match sts[i]? with
    | none => rows
    | some x => bfs R n (seenG sts (R.follow x)) (rows ++ [rowB R (seenG sts (R.follow x)) x]) (i + 1)
theorem bfs_end {R : Rul α} {n : Nat} {sts : List α} {rows : List PyData} {i : Nat} (h : sts.length ≤ i) : bfs R n sts rows i = rows := by
  cases n with
  | zero => rfl
  | succ n =>
    unfold bfs
    rw [List.getElem?_eq_none h]
theorem bfs_step {R : Rul α} {n : Nat} {sts : List α} {rows : List PyData} {i : Nat} {x : α} (h : sts[i]? = some x) : bfs R (n + 1) sts rows i = bfs R n (seenG sts (R.follow x)) (rows ++ [rowB R (seenG sts (R.follow x)) x]) (i + 1) := by
  rw [bfs, h]
theorem seenG_nd : ∀ (xs s : List α), s.Nodup → (seenG s xs).Nodup
  | [], _, h => h
  | x :: r, s, h => by
    rw [seenG]
    refine seenG_nd r _ ?_
    split
    · exact h
    · rename_i hx
      exact List.nodup_append.mpr ⟨h, by simp, fun a ha b hb => by
        rw [List.mem_singleton.mp hb]
        exact fun e => hx (e ▸ ha)⟩
theorem seenG_pre : ∀ (xs s : List α), ∃ t, seenG s xs = s ++ t
  | [], s => ⟨[], (List.append_nil _).symm⟩
  | x :: r, s => by
    rw [seenG]
    split
    · exact seenG_pre r s
    · obtain ⟨t, e⟩ := seenG_pre r (s ++ [x])
      exact ⟨x :: t, by rw [e, List.append_assoc]; rfl⟩
def numsB (R : Rul α) : Nat → List α → KNs
  | _, [] => []
  | n, q :: r => (R.key q, .int (n : Nat)) :: numsB R (n + 1) r
theorem numsB_len {R : Rul α} : ∀ (n : Nat) (rs : List α), (numsB R n rs).length = rs.length
  | _, [] => rfl
  | n, q :: r => by rw [numsB, List.length_cons, List.length_cons, numsB_len (n + 1) r]
theorem numsB_snoc {R : Rul α} (q : α) : ∀ (n : Nat) (rs : List α), numsB R n (rs ++ [q]) = numsB R n rs ++ [(R.key q, .int ((n + rs.length : Nat) : Int))]
  | n, [] => rfl
  | n, a :: r => by
    rw [List.cons_append, numsB, numsB, numsB_snoc q (n + 1) r, List.cons_append, List.length_cons]
    rw [show n + 1 + r.length = n + (r.length + 1) by omega]
theorem numsB_val {R : Rul α} (hinj : ∀ x y, R.key x = R.key y → x = y) (q : α) : ∀ (n : Nat) (rs : List α), valG (numsB R n rs) (R.key q) = if q ∈ rs then some (.int ((n + rs.idxOf q : Nat) : Int)) else none
  | n, [] => rfl
  | n, a :: r => by
    unfold valG
    rw [numsB, List.find?_cons]
    by_cases h : a = q
    · subst h
      rw [decide_eq_true rfl, if_pos List.mem_cons_self, List.idxOf_cons_self]
      rfl
    · rw [decide_eq_false (fun z => h (hinj _ _ z))]
      show valG (numsB R (n + 1) r) (R.key q) = _
      rw [numsB_val hinj q (n + 1) r]
      by_cases hm : q ∈ r
      · rw [if_pos hm, if_pos (List.mem_cons_of_mem _ hm), List.idxOf_cons, beq_false_of_ne h, cond_false]
        rw [show n + 1 + List.idxOf q r = n + (List.idxOf q r + 1) by omega]
      · rw [if_neg hm, if_neg (fun z => by
          rcases List.mem_cons.mp z with z | z
          · exact h z.symm
          · exact hm z)]
theorem numsB_put {R : Rul α} (hinj : ∀ x y, R.key x = R.key y → x = y) {q : α} {rs : List α} (h : q ∉ rs) : putG (numsB R 0 rs) (R.key q) (.int ((rs.length : Nat) : Int)) = numsB R 0 (rs ++ [q]) := by
  unfold putG
  rw [if_neg, numsB_snoc, Nat.zero_add]
  intro z
  obtain ⟨kv, h1, h2⟩ := List.any_eq_true.mp z
  have h3 : valG (numsB R 0 rs) (R.key q) ≠ none := by
    unfold valG
    intro e
    have := List.find?_eq_none.mp (Option.map_eq_none_iff.mp e) kv h1
    exact this h2
  rw [numsB_val hinj, if_neg h] at h3
  exact h3 rfl
structure BI (R : Rul α) (P : α → Prop) (U : List α) (b : α) (sts : List α) (rows : List PyData) (i : Nat) : Prop where
  nd : sts.Nodup
  ok : ∀ x ∈ sts, P x
  le : i ≤ sts.length
  rl : rows.length = i
  eq : bfs R (U.length - i) sts rows i = bfs R U.length [b] [] 0
theorem BI.few {R : Rul α} {P : α → Prop} {U : List α} {b : α} {sts : List α} {rows : List PyData} {i : Nat} (h : BI R P U b sts rows i) (hR : RulOk R P U) : sts.length ≤ U.length := h.nd.length_le_of_subset fun x hx => hR.mem x (h.ok x hx)
theorem BI.next {R : Rul α} {P : α → Prop} {U : List α} {b : α} {sts : List α} {rows : List PyData} {i : Nat} (h : BI R P U b sts rows i) (hR : RulOk R P U) {x : α} (hx : sts[i]? = some x) : BI R P U b (seenG sts (R.follow x)) (rows ++ [rowB R (seenG sts (R.follow x)) x]) (i + 1) := by
  have hi := (List.getElem?_eq_some_iff.mp hx).1
  have hf := h.few hR
  obtain ⟨t, e⟩ := seenG_pre (R.follow x) sts
  refine ⟨seenG_nd _ _ h.nd, fun y hy => ?_, by rw [e, List.length_append]; omega, by rw [List.length_append, h.rl]; rfl, ?_⟩
  · rcases (seenG_mem _ _ _).mp hy with z | z
    · exact h.ok y z
    · exact hR.go x (h.ok x (List.mem_of_getElem? hx)) y z
  · rw [← h.eq, show U.length - i = (U.length - (i + 1)) + 1 by omega, bfs_step hx]
noncomputable def b_made_1 : X :=
  (xIf (bTest (eNin true (eVar 9) 4))
        (xSeq (xNput 4 (eVar 9) (eLenV 3))
        (xApp 3 (eVar 9)))
        xNext)
noncomputable def b_made_2 : X :=
  (xSeq (xAsg 7 (eIxV 3 (eVar 6)))
    (xSeq (xAsg 8 (eCallF 1 (aCons (eVar 7) aNil)))
    (xSeq (xFor (iWipe [0, 9] (iSq (eVar 8))) (gNm 9)
      (xKeep [0, 9] (b_made_1)))
    (xSeq (xApp 5 (eIf (bTru (eVar 8)) (eTup (aCons (eOp ixD (eVar 7) (eC (.int 1))) (aCons (eCB tupleD (aCons (eL (lLc [9] (iSq (eVar 8)) (gNm 9) bYes (eNget 4 (eVar 9)))) aNil)) aNil))) (eTup (aCons (eC (.str "end")) (aCons (eCallF 2 (aCons (eVar 7) aNil)) aNil)))))
    (xAug 6 addI (eC (.int 1)))))))
noncomputable def m_made : X :=
  (xSeq (xTup [3, 4, 5] (uL (lLst (aCons (eVar 0) aNil)) (uN (lNone (eVar 0) (eC (.int 0))) (uL (lLst aNil) uNil))))
  (xSeq (xAsg 6 (eC (.int 0)))
  (xSeq (xPre [0, 7, 8, 9] (xWhile (bTest (eOp ltD (eVar 6) (eLenV 3)))
    (xKeep [0, 7, 8, 9] (b_made_2))))
  (xRet (eTupleV 5)))))
noncomputable def f_made : FS := fnS 10 (m_made )

variable {R : Rul α} {P : α → Prop} {U : List α} {b : α} {Fw Ww : List PyData → Option PyData} {G : Sg}
theorem key_in (hR : RulOk R P U) (x : α) (sts : List α) : (valG (numsB R 0 sts) (R.key x)).isSome = decide (x ∈ sts) := by
  rw [numsB_val hR.inj]
  by_cases h : x ∈ sts
  · rw [if_pos h, decide_eq_true h]; rfl
  · rw [if_neg h, decide_eq_false h]; rfl
set_option maxHeartbeats 2000000 in
theorem made_ok (hR : RulOk R P U) (hF : ∀ x, P x → Fw [R.enc x] = some (.list ((R.follow x).map R.enc))) (hW : ∀ x, P x → Ww [R.enc x] = some (.int (R.worth x))) (hb : P b) {Q : Vl → Sg → Prop} (q : Q (.dat (.tuple (bfs R U.length [b] [] 0))) G) : FOk f_made [.dat (R.enc b), .fn Fw, .fn Ww] G Q := by
  have hU := hR.len
  have hk0 := hR.key b
  unfold f_made m_made
  walk_at "vfn"
  walk_at "vc"
  refine wp_while (σ := List α × List PyData × Nat) (fun s => [.no, .fn Fw, .fn Ww, .own (s.1.map R.enc), .dnk (numsB R 0 s.1), .own s.2.1, .dat (.int (s.2.2 : Nat)), .no, .no, .no]) (fun _ => G) (fun s => BI R P U b s.1 s.2.1 s.2.2) (fun s => U.length - s.2.2) ([b], [], 0) ⟨by simp, fun x hx => by rw [List.mem_singleton.mp hx]; exact hb, Nat.zero_le _, rfl, rfl⟩ (by show U.length - 0 < 4000000; omega) ?_
  rintro ⟨sts, rows, i⟩ hI
  have hI : BI R P U b sts rows i := hI
  have hfew := hI.few hR
  have hml : (sts.map R.enc).length = sts.length := List.length_map _
  dsimp only
  by_cases hi : i < sts.length
  · have hx : sts[i]? = some sts[i] := List.getElem?_eq_getElem hi
    generalize sts[i] = x at hx
    have hPx := hI.ok x (List.mem_of_getElem? hx)
    have hFx := hF x hPx
    have hWx := hW x hPx
    have hsx := hR.side x
    have hfx := hR.few x hPx
    have hix : atI (sts.map R.enc) (i : Int) = some (R.enc x) := ixD_lN (by rw [List.getElem?_map, hx]; rfl)
    have hN := hI.next hR hx
    have hNf := hN.few hR
    have hrl : rows.length < 4000000 := by rw [hI.rl]; omega
    unfold b_made_2
    walk_at "vc"
    refine wp_forS (R.follow x) R.enc (fun pre => [.no, .fn Fw, .fn Ww, .own ((seenG sts pre).map R.enc), .dnk (numsB R 0 (seenG sts pre)), .own rows, .dat (.int (i : Nat)), .dat (R.enc x), .dat (.list ((R.follow x).map R.enc)), .no]) (fun _ => G) (fun pre s => s = pre) [] rfl ?_ ?_
    · rintro pre y post s e rfl
      have hky := hR.key y
      have hkin := key_in hR y (seenG sts s)
      have hsn := seenG_snoc sts s y
      have hsl := seenG_len sts s
      have hyl : s.length + (post.length + 1) = (R.follow x).length := by rw [e]; simp
      have hdl : ((seenG sts s).map R.enc).length < 4000000 := by rw [List.length_map]; omega
      have hnl : (numsB R 0 (seenG sts s)).length < 4000000 := by rw [numsB_len]; omega
      have hml2 : ((seenG sts s).map R.enc).length = (seenG sts s).length := List.length_map _
      unfold b_made_1
      walk_at "vc"
      rw [hkin]
      by_cases hy : y ∈ seenG sts s
      · rw [if_pos hy] at hsn
        rw [decide_eq_true hy]
        walk_at "vc"
        exact ⟨_, by rw [hsn]; rfl, rfl, rfl⟩
      · rw [if_neg hy] at hsn
        rw [decide_eq_false hy]
        have hput := numsB_put hR.inj hy
        walk_at "vc"
        exact ⟨_, by rw [hsn, List.map_append]; exact congrArg (fun z => [Vl.no, .fn Fw, .fn Ww, .own (List.map R.enc (seenG sts s) ++ [R.enc y]), .dnk z, .own rows, .dat (.int (i : Nat)), .dat (R.enc x), .dat (.list ((R.follow x).map R.enc)), .no]) (by rw [← hput, hml2]), rfl, rfl⟩
    · rintro s rfl
      walk_at "vc"
      refine ⟨fun he => ?_, fun he => ?_⟩
      · have he : R.follow x ≠ [] := fun z => by rw [z] at he; simp at he
        have hrow : rowB R (seenG sts (R.follow x)) x = .tuple [.int (R.side x), .tuple ((R.follow x).map fun y => .int (((seenG sts (R.follow x)).idxOf y : Nat) : Int))] := if_neg he
        walk_at "vc"
        refine lcw_map (xs := R.follow x) R.enc (fun y => .int (((seenG sts (R.follow x)).idxOf y : Nat) : Int)) (by rfl) (by rfl) (by omega) (by walk_at "wi") (fun y hy => ?_) ?_
        · have hky := hR.key y
          have hv := numsB_val hR.inj y 0 (seenG sts (R.follow x))
          rw [if_pos ((seenG_mem _ _ _).mpr (.inr hy)), Nat.zero_add] at hv
          walk_at "vc"
        walk_at "vc"
        exact ⟨(seenG sts (R.follow x), rows ++ [rowB R (seenG sts (R.follow x)) x], i + 1), by rw [hrow]; rfl, rfl, hN, by show U.length - (i + 1) < U.length - i; omega⟩
      · have he : R.follow x = [] := by
          cases e : R.follow x with
          | nil => rfl
          | cons _ _ => rw [e] at he; simp at he
        have hrow : rowB R (seenG sts (R.follow x)) x = .tuple [.str "end", .int (R.worth x)] := if_pos he
        walk_at "vc"
        exact ⟨(seenG sts (R.follow x), rows ++ [rowB R (seenG sts (R.follow x)) x], i + 1), by rw [hrow]; rfl, rfl, hN, by show U.length - (i + 1) < U.length - i; omega⟩
  · walk_at "vc"
    have e := hI.eq
    rw [bfs_end (by omega)] at e
    rw [e]
    exact q
end

end
section
local macro_rules | `(tactic| walk_at "ha") => `(tactic| with_reducible assumption)
local macro_rules | `(tactic| walk_at "v") => `(tactic| first | ((with_reducible apply wp_eCallF); (rfl)) | with_reducible refine wp_eCallB ?_ | with_reducible refine wp_vDefC ?_ | ((with_reducible apply wp_vLamC); (rfl)) | ((with_reducible apply wp_vFn); (rfl)))
section
theorem eqv_i33 (i j : Int) : PyData.eqv (.int i) (.int j) = decide (i = j) := by
  have h := eqD_ii (i := i) (j := j)
  rw [eqD_sh (sh_shaped (sh_int 0 i) (by omega)) (sh_shaped (sh_int 0 j) (by omega))] at h
  exact PyData.bool.inj (Option.some.inj h)
theorem eqv_c33 (x y : PyData) (a b : List PyData) : PyData.eqv (.tuple (x :: a)) (.tuple (y :: b)) = (PyData.eqv x y && PyData.eqv (.tuple a) (.tuple b)) := rfl
def tkE (x : Nat × Nat) : PyData := .tuple [.int (x.1 : Nat), .int (x.2 : Nat)]
def tkR (ts : List Nat) : Rul (Nat × Nat) where
  enc := tkE
  key x := .tup [.num (x.1 : Nat), .num (x.2 : Nat)]
  follow x := (ts.filter fun m => decide (m ≤ x.1)).map fun m => (x.1 - m, 1 - x.2)
  worth x := if x.2 = 0 then -1 else 1
  side x := (x.2 : Nat)
def tkU (c : Nat) : List (Nat × Nat) := (List.range (c + 1)).map (fun a => (a, 0)) ++ (List.range (c + 1)).map fun a => (a, 1)
theorem tk_enc : Enc tkE where
  eq a b := by
    obtain ⟨a1, a2⟩ := a
    obtain ⟨b1, b2⟩ := b
    show PyData.eqv (.tuple [.int (a1 : Nat), .int (a2 : Nat)]) (.tuple [.int (b1 : Nat), .int (b2 : Nat)]) = _
    rw [eqv_c33, eqv_c33, eqv_i33, eqv_i33, show PyData.eqv (.tuple []) (.tuple []) = true from rfl, Bool.and_true]
    by_cases h1 : a1 = b1 <;> by_cases h2 : a2 = b2
    · subst h1; subst h2; simp
    · have : ¬ ((a2 : Int) = b2) := by omega
      simp [h2, this]
    · have : ¬ ((a1 : Int) = b1) := by omega
      simp [h1, this]
    · have : ¬ ((a1 : Int) = b1) := by omega
      simp [h1, this]
  sh a := sh_tup fun d hd => by
    simp only [List.mem_cons, List.not_mem_nil, or_false] at hd
    rcases hd with rfl | rfl <;> exact sh_int _ _
def TkP (c : Nat) (x : Nat × Nat) : Prop := x.1 ≤ c ∧ x.2 ≤ 1
theorem tk_ok {ts : List Nat} {c : Nat} (hts : ts.Nodup) (hl : ts.length ≤ 9) (hc : c ≤ 20) : RulOk (tkR ts) (TkP c) (tkU c) where
  enc := tk_enc
  inj x y h := by
    have h : NestedKey.tup [.num (x.1 : Nat), .num (x.2 : Nat)] = .tup [.num (y.1 : Nat), .num (y.2 : Nat)] := h
    injection h with h
    injection h with h1 h2
    injection h2 with h2 _
    injection h1 with h1
    injection h2 with h2
    exact Prod.ext (by omega) (by omega)
  key x := keyN2 _ _
  side x := rfl
  go x hx y hy := by
    obtain ⟨m, hm, rfl⟩ := List.mem_map.mp hy
    obtain ⟨h1, h2⟩ := hx
    exact ⟨by show x.1 - m ≤ c; omega, by show 1 - x.2 ≤ 1; omega⟩
  nd x hx := by
    show (((ts.filter fun m => decide (m ≤ x.1)).map fun m => (x.1 - m, 1 - x.2))).Nodup
    rw [List.Nodup, List.pairwise_map]
    refine List.Pairwise.imp_of_mem ?_ (hts.filter _)
    intro a b ha hb hne e
    have h1 := of_decide_eq_true (List.mem_filter.mp ha).2
    have h2 := of_decide_eq_true (List.mem_filter.mp hb).2
    have e1 : x.1 - a = x.1 - b := congrArg Prod.fst e
    exact hne (by omega)
  few x hx := by
    show ((ts.filter fun m => decide (m ≤ x.1)).map fun m => (x.1 - m, 1 - x.2)).length ≤ 1000
    rw [List.length_map]
    have := List.length_filter_le (fun m => decide (m ≤ x.1)) ts
    omega
  mem x hx := by
    obtain ⟨x1, x2⟩ := x
    obtain ⟨h1, h2⟩ := hx
    have h1 : x1 ≤ c := h1
    have h2 : x2 ≤ 1 := h2
    unfold tkU
    obtain rfl | rfl : x2 = 0 ∨ x2 = 1 := by omega
    · exact List.mem_append_left _ (List.mem_map.mpr ⟨x1, List.mem_range.mpr (by omega), rfl⟩)
    · exact List.mem_append_right _ (List.mem_map.mpr ⟨x1, List.mem_range.mpr (by omega), rfl⟩)
  len := by
    unfold tkU
    rw [List.length_append, List.length_map, List.length_map, List.length_range]
    omega
def lostI (s : Int) : Int := if s = 0 then -1 else 1
noncomputable def m_lost : X :=
  (xRet (eIf (bTest (eOp eqD (eOp ixD (eVar 0) (eC (.int 1))) (eC (.int 0)))) (eUn negD (eC (.int 1))) (eC (.int 1))))
noncomputable def f_lost : FS := fnS 1 (m_lost )

theorem lost_eq {d : PyData} {s : Int} (h : ixD d (.int 1) = some (.int s)) (G : Sg) : f_lost [.dat d] G = some (.dat (.int (lostI s)), G) := by
  unfold f_lost m_lost lostI
  refine fok_is ?_
  walk_at "vfn"
  walk_at "vc"
  by_cases hs : s = 0
  · rw [if_pos hs, decide_eq_true hs]
    walk_at "vc"
  · rw [if_neg hs, decide_eq_false hs]
    walk_at "vc"
theorem defD_of {F : FS} {d r : PyData} (h : ∀ G, F [.dat d] G = some (.dat r, G)) : defD F 1 [d] = some r := by
  unfold defD
  rw [if_pos (show [d].length = 1 from rfl)]
  show (match F [.dat d] [] with
    | some (.dat d, _) => some d
    | _ => none) = _
  rw [h]
theorem tk_list (ts : List Nat) (x : Nat × Nat) (hx : x.2 ≤ 1) : ((ts.filter fun m => decide (m ≤ x.1)).map fun m : Nat => PyData.tuple [.int ((x.1 : Int) - (m : Int)), .int (1 - (x.2 : Int))]) = ((tkR ts).follow x).map tkE := by
  show _ = ((ts.filter fun m => decide (m ≤ x.1)).map fun m => (x.1 - m, 1 - x.2)).map tkE
  rw [List.map_map]
  refine List.map_congr_left fun m hm => ?_
  have h1 := of_decide_eq_true (List.mem_filter.mp hm).2
  show _ = PyData.tuple [.int ((x.1 - m : Nat) : Int), .int ((1 - x.2 : Nat) : Int)]
  rw [show ((x.1 : Int) - (m : Int)) = ((x.1 - m : Nat) : Int) by omega, show (1 - (x.2 : Int)) = ((1 - x.2 : Nat) : Int) by omega]
noncomputable def m_taking (F_made F_lost : FS) : X :=
  (xRet (eCallB F_made (vCons (vE (eTup (aCons (eVar 0) (aCons (eC (.int 0)) aNil)))) (vCons (vLamC 3 2 (eL (lLc [2] (iSq (eVar 1)) (gNm 2) (bTest (eOp leD (eVar 2) (eOp ixD (eVar 0) (eC (.int 0))))) (eTup (aCons (eOp subD (eOp ixD (eVar 0) (eC (.int 0))) (eVar 2)) (aCons (eOp subD (eC (.int 1)) (eOp ixD (eVar 0) (eC (.int 1)))) aNil))))) [1]) (vCons (vDef F_lost 1) vNil)))))
noncomputable def f_taking : FS := fnS 2 (m_taking f_made f_lost)

theorem taking_ok {ts : List Nat} {c : Nat} (hts : ts.Nodup) (hl : ts.length ≤ 9) (hc : c ≤ 20) {G : Sg} {Q : Vl → Sg → Prop} (q : Q (.dat (.tuple (bfs (tkR ts) (tkU c).length [(c, 0)] [] 0))) G) : FOk f_taking [.dat (.int (c : Nat)), .dat (.tuple (nD ts))] G Q := by
  unfold f_taking m_taking
  walk_at "vfn"
  walk_at "vc"
  refine made_ok (R := tkR ts) (b := (c, 0)) (tk_ok hts hl hc) (fun x hx => ?_) (fun x hx => ?_) ⟨Nat.le_refl _, Nat.zero_le _⟩ ⟨_, rfl, ?_⟩
  · have h0 : ixD (tkE x) (.int 0) = some (.int (x.1 : Nat)) := rfl
    have h1 : ixD (tkE x) (.int 1) = some (.int (x.2 : Nat)) := rfl
    refine lamF_wp rfl rfl ?_
    walk_at "vc"
    refine lcw_pure (xs := ts) (fun m => .int (m : Nat)) (fun m => decide (m ≤ x.1)) (fun m => PyData.tuple [.int ((x.1 : Int) - (m : Int)), .int (1 - (x.2 : Int))]) (by rfl) (by rfl) (by omega) (by walk_at "wi") (fun m hm => ?_) ?_
    · walk_at "vc"
      exact ⟨⟨decide_eq_decide.mpr (by omega), rfl, rfl⟩, fun _ => by walk_at "vc"⟩
    rw [tk_list ts x hx.2]
    walk_at "vc"
    rfl
  · refine defD_of fun G => ?_
    rw [lost_eq (s := (x.2 : Nat)) rfl]
    show some (Vl.dat (.int (lostI (x.2 : Nat))), G) = some (Vl.dat (.int (if x.2 = 0 then -1 else 1)), G)
    unfold lostI
    congr 3
    by_cases h : x.2 = 0
    · rw [if_pos h, if_pos (by omega)]
    · rw [if_neg h, if_neg (by omega)]
  · walk_at "vc"
    exact q

end
section
abbrev HS := List Int × Nat
def iZD (xs : List Int) : List PyData := xs.map .int
def hpE (x : HS) : PyData := .tuple [.tuple (iZD x.1), .int (x.2 : Nat)]
def hpN (x : HS) (a l : Nat) : HS := (sortI ((x.1.set a (l : Int)).filter fun i => decide (i > 0)), 1 - x.2)
def hpA (x : HS) (a n : Nat) : List HS := (List.range n).map fun l => hpN x a l
def hpL (x : HS) (n : Nat) : List HS := (List.range n).flatMap fun a => hpA x a ((x.1[a]?.getD 0).toNat)
noncomputable def hpF (x : HS) : List HS := (seenL (hpL x x.1.length)).mergeSort fun a b => PySem.W.dataLe false id (hpE a) (hpE b)
noncomputable def hpR : Rul HS where
  enc := hpE
  key x := .tup [.tup (x.1.map .num), .num (x.2 : Nat)]
  follow := hpF
  worth x := lostI (x.2 : Nat)
  side x := (x.2 : Nat)
theorem eqv_iZD (a b : List Int) : PyData.eqv (.tuple (iZD a)) (.tuple (iZD b)) = decide (a = b) := by
  induction a generalizing b with
  | nil =>
    cases b with
    | nil => rfl
    | cons y b => rfl
  | cons x a ih =>
    cases b with
    | nil => rfl
    | cons y b =>
      have h1 : PyData.eqv (.tuple (iZD (x :: a))) (.tuple (iZD (y :: b))) = (PyData.eqv (.int x) (.int y) && PyData.eqv (.tuple (iZD a)) (.tuple (iZD b))) := rfl
      rw [h1, ih b, eqv_i33]
      by_cases hxy : x = y
      · subst hxy
        simp
      · simp [hxy]
theorem hp_enc : Enc hpE where
  eq a b := by
    obtain ⟨a1, a2⟩ := a
    obtain ⟨b1, b2⟩ := b
    show PyData.eqv (.tuple [.tuple (iZD a1), .int (a2 : Nat)]) (.tuple [.tuple (iZD b1), .int (b2 : Nat)]) = _
    rw [eqv_c33, eqv_c33, eqv_iZD, eqv_i33, show PyData.eqv (.tuple []) (.tuple []) = true from rfl, Bool.and_true]
    by_cases h1 : a1 = b1 <;> by_cases h2 : a2 = b2
    · subst h1; subst h2; simp
    · have : ¬ ((a2 : Int) = b2) := by omega
      simp [h2, this]
    · simp [h1]
    · simp [h1]
  sh a := sh_tup fun d hd => by
    simp only [List.mem_cons, List.not_mem_nil, or_false] at hd
    rcases hd with rfl | rfl
    · exact sh_tup fun d hd => by
        obtain ⟨i, _, rfl⟩ := List.mem_map.mp hd
        exact sh_int _ _
    · exact sh_int _ _
theorem nkL_iZD : ∀ xs : List Int, nkL (iZD xs) = some (xs.map .num)
  | [] => by simp [iZD, nkL]
  | x :: r => by
    show nkL (.int x :: iZD r) = _
    simp only [nkL, nkO, nkL_iZD r]
    rfl
theorem dep_num : ∀ xs : List Int, NestedKey.depthAll (xs.map .num) = 0
  | [] => by simp [NestedKey.depthAll]
  | x :: r => by
    rw [List.map_cons]
    simp only [NestedKey.depthAll, NestedKey.depth, dep_num r]
    rfl
structure HpP (x : HS) : Prop where
  len : x.1.length ≤ 4
  rng : ∀ i ∈ x.1, 1 ≤ i ∧ i ≤ 4
  sd : x.2 ≤ 1
def hpLs : Nat → List (List Int)
  | 0 => [[]]
  | n + 1 => (hpLs n).flatMap fun h => ([1, 2, 3, 4] : List Int).map fun a => a :: h
theorem hpLs_mem : ∀ {h : List Int}, (∀ i ∈ h, 1 ≤ i ∧ i ≤ 4) → h ∈ hpLs h.length
  | [], _ => List.mem_singleton.mpr rfl
  | a :: h, hh => by
    show a :: h ∈ (hpLs h.length).flatMap _
    refine List.mem_flatMap.mpr ⟨h, hpLs_mem fun i hi => hh i (List.mem_cons_of_mem _ hi), List.mem_map.mpr ⟨a, ?_, rfl⟩⟩
    obtain ⟨h1, h2⟩ := hh a List.mem_cons_self
    have : a = 1 ∨ a = 2 ∨ a = 3 ∨ a = 4 := by omega
    simpa using this
def hpU : List HS :=
  ((List.range 5).flatMap hpLs).map (fun h => (h, 0)) ++ ((List.range 5).flatMap hpLs).map fun h => (h, 1)
theorem mem_set33 {xs : List Int} {a : Nat} {v i : Int} (h : i ∈ xs.set a v) : i ∈ xs ∨ i = v := List.mem_or_eq_of_mem_set h
theorem hpL_mem {x y : HS} {n : Nat} (h : y ∈ hpL x n) : ∃ a l, a < n ∧ l < (x.1[a]?.getD 0).toNat ∧ y = hpN x a l := by
  unfold hpL at h
  obtain ⟨a, ha, h⟩ := List.mem_flatMap.mp h
  obtain ⟨l, hl, rfl⟩ := List.mem_map.mp h
  exact ⟨a, l, List.mem_range.mp ha, List.mem_range.mp hl, rfl⟩
theorem hpN_ok {x : HS} {a l : Nat} (hx : HpP x) (ha : a < x.1.length) (hl : l < (x.1[a]?.getD 0).toNat) : HpP (hpN x a l) := by
  obtain ⟨h1, h2, h3⟩ := hx
  have hv : x.1[a]? = some x.1[a] := List.getElem?_eq_getElem ha
  rw [hv] at hl
  have h4 := h2 x.1[a] (List.getElem_mem ha)
  have hl : l < (x.1[a]).toNat := hl
  refine ⟨?_, fun i hi => ?_, by show 1 - x.2 ≤ 1; omega⟩
  · show (sortI _).length ≤ 4
    rw [sortI_len]
    have := List.length_filter_le (fun i : Int => decide (i > 0)) (x.1.set a (l : Int))
    rw [List.length_set] at this
    omega
  · have hi : i ∈ sortI ((x.1.set a (l : Int)).filter fun i => decide (i > 0)) := hi
    have hi := (sortI_perm _).mem_iff.mp hi
    obtain ⟨h5, h6⟩ := List.mem_filter.mp hi
    have h6 := of_decide_eq_true h6
    rcases mem_set33 h5 with h | h
    · exact h2 i h
    · omega
theorem hpL_len {x : HS} (hx : HpP x) : ∀ n, (hpL x n).length ≤ 4 * n
  | 0 => by simp [hpL]
  | n + 1 => by
    have ih := hpL_len hx n
    have e : hpL x (n + 1) = hpL x n ++ hpA x n ((x.1[n]?.getD 0).toNat) := by
      unfold hpL
      rw [List.range_succ, List.flatMap_append, List.flatMap_singleton]
    rw [e, List.length_append]
    have : (hpA x n ((x.1[n]?.getD 0).toNat)).length ≤ 4 := by
      unfold hpA
      rw [List.length_map, List.length_range]
      cases hv : x.1[n]? with
      | none => simp
      | some v =>
        have := (hx.rng v (List.mem_of_getElem? hv)).2
        show v.toNat ≤ 4
        omega
    omega
theorem hpF_perm (x : HS) : (hpF x).Perm (seenL (hpL x x.1.length)) := List.mergeSort_perm _ _
theorem hp_len {x : HS} (hx : HpP x) : (seenL (hpL x x.1.length)).length ≤ 16 := by
  have h1 := seen_len (hpL x x.1.length)
  have h2 := hpL_len hx x.1.length
  have h3 := hx.len
  omega
theorem hp_ok : RulOk hpR HpP hpU where
  enc := hp_enc
  inj x y h := by
    have h : NestedKey.tup [.tup (x.1.map .num), .num (x.2 : Nat)] = .tup [.tup (y.1.map .num), .num (y.2 : Nat)] := h
    injection h with h
    injection h with h1 h2
    injection h2 with h2 _
    injection h1 with h1
    injection h2 with h2
    have inj : ∀ (a b : List Int), a.map NestedKey.num = b.map NestedKey.num → a = b := fun a => by
      induction a with
      | nil => intro b e; cases b with
        | nil => rfl
        | cons _ _ => cases e
      | cons z a ih => intro b e; cases b with
        | nil => cases e
        | cons w b =>
          rw [List.map_cons, List.map_cons] at e
          injection e with e1 e2
          injection e1 with e1
          rw [e1, ih b e2]
    exact Prod.ext (inj _ _ h1) (by omega)
  key x := by
    show (nkL [.tuple (iZD x.1), .int (x.2 : Nat)]).bind _ = _
    have e : nkL [.tuple (iZD x.1), .int (x.2 : Nat)] = some [.tup (x.1.map .num), .num (x.2 : Nat)] := by
      simp only [nkL, nkO, nkL_iZD]
      rfl
    rw [e, Option.bind_some, if_pos]
    · rfl
    · simp only [NestedKey.depth, NestedKey.depthAll, dep_num]
      omega
  side x := rfl
  go x hx y hy := by
    have hy := seen_mem.mp ((hpF_perm x).mem_iff.mp hy)
    obtain ⟨a, l, h1, h2, rfl⟩ := hpL_mem hy
    exact hpN_ok hx h1 h2
  nd x hx := (hpF_perm x).nodup_iff.mpr (seenG_nd _ _ List.nodup_nil)
  few x hx := by
    show (hpF x).length ≤ 1000
    rw [(hpF_perm x).length_eq]
    have := hp_len hx
    omega
  mem x hx := by
    obtain ⟨h, s⟩ := x
    obtain ⟨h1, h2, h3⟩ := hx
    have h1 : h.length ≤ 4 := h1
    have h3 : s ≤ 1 := h3
    have key : h ∈ (List.range 5).flatMap hpLs := List.mem_flatMap.mpr ⟨h.length, List.mem_range.mpr (by omega), hpLs_mem h2⟩
    unfold hpU
    obtain rfl | rfl : s = 0 ∨ s = 1 := by omega
    · exact List.mem_append_left _ (List.mem_map.mpr ⟨h, key, rfl⟩)
    · exact List.mem_append_right _ (List.mem_map.mpr ⟨h, key, rfl⟩)
  len := by decide +kernel

end
section
open PySem.W in
theorem alike_ints : ∀ a b : List Int, alikeAll (iZD a) (iZD b) = true
  | [], _ => by simp [iZD, alikeAll]
  | x :: a, [] => by simp [iZD, alikeAll]
  | x :: a, y :: b => by
    show alikeAll (.int x :: iZD a) (.int y :: iZD b) = true
    simp only [alikeAll, alike, alike_ints a b, Bool.and_self]
open PySem.W in
theorem alike_hp (a b : HS) : alike (hpE a) (hpE b) = true := by
  show alike (.tuple [.tuple (iZD a.1), .int (a.2 : Nat)]) (.tuple [.tuple (iZD b.1), .int (b.2 : Nat)]) = true
  simp only [alike, alikeAll, alike_ints, Bool.and_self]
theorem depth_hp (a : HS) : (hpE a).depth ≤ 60 := by
  have h := (shN_ok 5 (hpE a) (hp_enc.sh a)).2
  omega
theorem hp_sort (x : HS) : sortDD [.list ((seenL (hpL x x.1.length)).map hpE)] = some (.list ((hpF x).map hpE)) := by
  refine sortDD_of rfl (fun d hd d' hd' => ?_) (.inl fun d hd => ?_) (fun d hd => ?_) ?_
  · obtain ⟨a, _, rfl⟩ := List.mem_map.mp hd
    obtain ⟨b, _, rfl⟩ := List.mem_map.mp hd'
    exact alike_hp a b
  · obtain ⟨a, _, rfl⟩ := List.mem_map.mp hd
    exact ⟨_, _, rfl⟩
  · obtain ⟨a, _, rfl⟩ := List.mem_map.mp hd
    exact depth_hp a
  · exact (List.map_mergeSort (f := hpE) (r := fun a b => PySem.W.dataLe false id (hpE a) (hpE b)) (s := PySem.W.dataLe false id) (l := seenL (hpL x x.1.length)) fun a _ b _ => rfl).symm
theorem cut_to33 (ds : List PyData) {k : Nat} (hk : k ≤ ds.length) : slD (.tuple ds) none (some (k : Int)) = some (.tuple (ds.take k)) := by
  show some (PyData.tuple (Dz.cutD ds none (some (k : Int)))) = _
  unfold Dz.cutD
  have e1 : HT.sIx ds.length ds.length (some (k : Int)) = k := (HT.sIx_nat _ _ _).trans (Nat.min_eq_left hk)
  rw [e1, HT.sIx_none]
  rfl
theorem cut_from33 (ds : List PyData) {k : Nat} (hk : k ≤ ds.length) : slD (.tuple ds) (some (k : Int)) none = some (.tuple (ds.drop k)) := by
  show some (PyData.tuple (Dz.cutD ds (some (k : Int)) none)) = _
  unfold Dz.cutD
  have e1 : HT.sIx ds.length 0 (some (k : Int)) = k := (HT.sIx_nat _ _ _).trans (Nat.min_eq_left hk)
  have e2 : HT.sIx ds.length ds.length none = ds.length := rfl
  rw [e1, e2, List.take_of_length_le (by rw [List.length_drop]; exact Nat.le_refl _)]
theorem iZD_len (xs : List Int) : (iZD xs).length = xs.length := List.length_map _
theorem set_cut {xs : List Int} {a : Nat} (h : a < xs.length) (v : Int) : xs.take a ++ [v] ++ xs.drop (a + 1) = xs.set a v := by
  rw [List.set_eq_take_append_cons_drop, if_pos h, List.append_assoc]
  rfl
theorem hpA_succ (x : HS) (a n : Nat) : hpA x a (n + 1) = hpA x a n ++ [hpN x a n] := by
  unfold hpA
  rw [List.range_succ, List.map_append]
  rfl
theorem hpL_succ (x : HS) (n : Nat) : hpL x (n + 1) = hpL x n ++ hpA x n ((x.1[n]?.getD 0).toNat) := by
  unfold hpL
  rw [List.range_succ, List.flatMap_append, List.flatMap_singleton]
noncomputable def b_left_heaps_1 : X :=
  (xSeq (xAsg 7 (eCB tupleD (aCons (eCB sortedD (aCons (eL (lLc [8] (iSq (eOp plusD (eOp plusD (eSl (eVar 1) oNone (oSome (eVar 4))) (eTup (aCons (eVar 6) aNil))) (eSl (eVar 1) (oSome (eOp plusD (eVar 4) (eC (.int 1)))) oNone))) (gNm 8) (bTest (eOp gtD (eVar 8) (eC (.int 0)))) (eVar 8))) aNil)) aNil)))
      (xIf (bTest (eInDV true (eTup (aCons (eVar 7) (aCons (eOp subD (eC (.int 1)) (eVar 2)) aNil))) 3))
        (xApp 3 (eTup (aCons (eVar 7) (aCons (eOp subD (eC (.int 1)) (eVar 2)) aNil))))
        xNext))
noncomputable def b_left_heaps_2 : X :=
  (xFor (iWipe [0, 5, 6, 7, 8] (iRg1 (eVar 5))) (gNm 6)
      (xKeep [0, 5, 6, 7, 8] (b_left_heaps_1)))
noncomputable def m_left_heaps : X :=
  (xSeq (xAsgG (gTp 2 (gsCons (gNm 1) (gsCons (gNm 2) gsNil))) (eVar 0))
  (xSeq (xAsgL 3 (lLst aNil))
  (xSeq (xFor (iWipe [0, 4, 5, 6, 7, 8] (iEnA (eVar 1))) (gTp 2 (gsCons (gNm 4) (gsCons (gNm 5) gsNil)))
    (xKeep [0, 4, 5, 6, 7, 8] (b_left_heaps_2)))
  (xFrz 3 (xRet (eCB sortDD (aCons (eVar 3) aNil)))))))
noncomputable def f_left_heaps : FS := fnS 9 (m_left_heaps )

set_option maxHeartbeats 2000000 in
theorem left_eq {x : HS} (hx : HpP x) (G : Sg) : f_left_heaps [.dat (hpE x)] G = some (.dat (.list ((hpF x).map hpE)), G) := by
  have hsort := hp_sort x
  have hl3 := hx.len
  have hzl := iZD_len x.1
  unfold f_left_heaps m_left_heaps
  refine fok_is ?_
  walk_at "vfn"
  show Wp _ [.dat (.tuple [.tuple (iZD x.1), .int (x.2 : Nat)]), _, _, _, _, _, _, _, _] _ _
  walk_at "vc"
  refine wp_forI (fun a l1 g1 => g1 = G ∧ l1 = [.no, .dat (.tuple (iZD x.1)), .dat (.int (x.2 : Nat)), .own ((seenL (hpL x a)).map hpE), .no, .no, .no, .no, .no]) ⟨rfl, rfl⟩ ?_ ?_
  · rintro a d l1 g1 hd ⟨rfl, rfl⟩
    obtain ⟨e, he, rfl⟩ := enumD_get hd
    obtain ⟨v, hv, rfl⟩ : ∃ v, x.1[a]? = some v ∧ e = .int v := by
      unfold iZD at he
      rw [List.getElem?_map] at he
      obtain ⟨v, hv, rfl⟩ := Option.map_eq_some_iff.mp he
      exact ⟨v, hv, rfl⟩
    have ha := (List.getElem?_eq_some_iff.mp hv).1
    have hv3 := hx.rng v (List.mem_of_getElem? hv)
    have hLs := hpL_succ x a
    rw [hv] at hLs
    have hLs : hpL x (a + 1) = hpL x a ++ hpA x a v.toNat := hLs
    have hLl := hpL_len hx a
    unfold b_left_heaps_2
    walk_at "vc"
    refine wp_forI (fun j l1 g2 => g2 = g1 ∧ l1 = [.no, .dat (.tuple (iZD x.1)), .dat (.int (x.2 : Nat)), .own ((seenL (hpL x a ++ hpA x a j)).map hpE), .dat (.int (a : Nat)), .no, .no, .no, .no]) ⟨rfl, by unfold hpA; rw [List.range_zero, List.map_nil, List.append_nil]; rfl⟩ ?_ ?_
    · rintro j d l1 g2 hd ⟨rfl, rfl⟩
      obtain ⟨hj, rfl⟩ := rng_get hd
      have h1 := cut_to33 (iZD x.1) (k := a) (by omega)
      have h2 := cut_from33 (iZD x.1) (k := a + 1) (by omega)
      have h2 : slD (.tuple (iZD x.1)) (some ((a : Int) + 1)) none = some (.tuple ((iZD x.1).drop (a + 1))) := h2
      have h3 : plusD (.tuple ((iZD x.1).take a)) (.tuple [.int (0 + (j : Int))]) = some (.tuple ((iZD x.1).take a ++ [.int (j : Nat)])) := by
        rw [Int.zero_add]
        show (if _ then _ else _) = _
        rw [if_pos (by rw [List.length_take]; simp; omega)]
      have h4 : plusD (.tuple ((iZD x.1).take a ++ [.int (j : Nat)])) (.tuple ((iZD x.1).drop (a + 1))) = some (.tuple (iZD (x.1.set a (j : Nat)))) := by
        show (if _ then _ else _) = _
        rw [if_pos (by rw [List.length_append, List.length_take, List.length_drop]; simp; omega), ← set_cut ha]
        unfold iZD
        rw [List.map_append, List.map_append, List.map_take, List.map_drop]
        rfl
      unfold b_left_heaps_1
      walk_at "vc"
      refine lcw_pure (xs := x.1.set a (j : Nat)) PyData.int (fun i => decide (i > 0)) PyData.int (by rfl) (by rfl) (by rw [List.length_set]; omega) (by walk_at "wi") (fun i hi => ?_) ?_
      · walk_at "vc"
        exact ⟨⟨rfl, rfl, rfl⟩, fun _ => by walk_at "vc"⟩
      have hso := sortedD_i (ns := (x.1.set a (j : Nat)).filter fun i => decide (i > 0))
      have hrow : PyData.tuple [.tuple ((sortI ((x.1.set a (j : Nat)).filter fun i => decide (i > 0))).map .int), .int (1 - (x.2 : Int))] = hpE (hpN x a j) := by
        show _ = PyData.tuple [.tuple (iZD (sortI ((x.1.set a (j : Nat)).filter fun i => decide (i > 0)))), .int ((1 - x.2 : Nat) : Int)]
        have := hx.sd
        rw [show (1 - (x.2 : Int)) = ((1 - x.2 : Nat) : Int) by omega]
        rfl
      have hni : inDD true (.tuple [.tuple ((sortI ((x.1.set a (j : Nat)).filter fun i => decide (i > 0))).map .int), .int (1 - (x.2 : Int))]) (.list ((seenL (hpL x a ++ hpA x a j)).map hpE)) = some (.bool (!decide (hpN x a j ∈ seenL (hpL x a ++ hpA x a j)))) := by
        rw [hrow]
        refine (enc_notin hp_enc (hpN x a j) (seenL (hpL x a ++ hpA x a j))).trans ?_
        exact congrArg (fun b => some (PyData.bool (!b))) (decide_eq_decide.mpr Iff.rfl)
      have hsn := seen_snoc (hpL x a ++ hpA x a j) (hpN x a j)
      rw [List.append_assoc, ← hpA_succ] at hsn
      have hdl : ((seenL (hpL x a ++ hpA x a j)).map hpE).length < 4000000 := by
        have h5 := seen_len (hpL x a ++ hpA x a j)
        have h6 : (hpA x a j).length = j := by unfold hpA; rw [List.length_map, List.length_range]
        rw [List.length_append, h6] at h5
        rw [List.length_map]
        omega
      walk_at "vc"
      by_cases hm : hpN x a j ∈ seenL (hpL x a ++ hpA x a j)
      · rw [if_pos hm] at hsn
        rw [decide_eq_true hm]
        walk_at "vc"
        exact ⟨rfl, by rw [hsn]; rfl⟩
      · rw [if_neg hm] at hsn
        rw [decide_eq_false hm]
        walk_at "vc"
        exact ⟨rfl, by rw [hsn, List.map_append]; exact congrArg (fun z => [Vl.no, .dat (.tuple (iZD x.1)), .dat (.int (x.2 : Nat)), .own ((seenL (hpL x a ++ hpA x a j)).map hpE ++ [z]), .dat (.int (a : Nat)), .no, .no, .no, .no]) hrow⟩
    · rintro l1 g2 ⟨rfl, rfl⟩
      rw [rng_len, ← hLs]
      walk_at "vc"
  · rintro l1 g1 ⟨rfl, rfl⟩
    rw [enumD_len, hzl]
    walk_at "vc"
def hpB (ps : List Int) : HS := (sortI (ps.filter fun i => decide (i > 0)), 0)
theorem hpB_ok {ps : List Int} (hl : ps.length ≤ 4) (hp : ∀ i ∈ ps, 0 ≤ i ∧ i ≤ 4) : HpP (hpB ps) := by
  refine ⟨?_, fun i hi => ?_, Nat.zero_le _⟩
  · show (sortI _).length ≤ 4
    rw [sortI_len]
    have := List.length_filter_le (fun i : Int => decide (i > 0)) ps
    omega
  · have hi : i ∈ sortI (ps.filter fun i => decide (i > 0)) := hi
    have hi := (sortI_perm _).mem_iff.mp hi
    obtain ⟨h5, h6⟩ := List.mem_filter.mp hi
    have h6 := of_decide_eq_true h6
    have := hp i h5
    omega
noncomputable def m_heaps (F_made F_lost F_left_heaps : FS) : X :=
  (xRet (eCall F_made (vCons (vE (eTup (aCons (eCB tupleD (aCons (eCB sortedD (aCons (eL (lLc [1] (iSq (eVar 0)) (gNm 1) (bTest (eOp gtD (eVar 1) (eC (.int 0)))) (eVar 1))) aNil)) aNil)) (aCons (eC (.int 0)) aNil)))) (vCons (vDef F_left_heaps 1) (vCons (vDef F_lost 1) vNil)))))
noncomputable def f_heaps : FS := fnS 2 (m_heaps f_made f_lost f_left_heaps)

theorem heaps_ok {ps : List Int} (hl : ps.length ≤ 4) (hp : ∀ i ∈ ps, 0 ≤ i ∧ i ≤ 4) {G : Sg} {Q : Vl → Sg → Prop} (q : Q (.dat (.tuple (bfs hpR hpU.length [hpB ps] [] 0))) G) : FOk f_heaps [.dat (.tuple (iZD ps))] G Q := by
  have hzl := iZD_len ps
  unfold f_heaps m_heaps
  walk_at "vfn"
  walk_at "vc"
  refine lcw_pure (xs := ps) PyData.int (fun i => decide (i > 0)) PyData.int (by rfl) (by rfl) (by omega) (by walk_at "wi") (fun i hi => ?_) ?_
  · walk_at "vc"
    exact ⟨⟨rfl, rfl, rfl⟩, fun _ => by walk_at "vc"⟩
  have hso := sortedD_i (ns := ps.filter fun i => decide (i > 0))
  walk_at "vc"
  refine made_ok (R := hpR) (b := hpB ps) hp_ok (fun x hx => defD_of fun G => left_eq hx G) (fun x hx => defD_of fun G => lost_eq (s := (x.2 : Nat)) rfl G) (hpB_ok hl hp) ⟨_, rfl, ?_⟩
  walk_at "vc"
  exact q
end
end
end
section
theorem enumG_at {g : List Pl} {i : Nat} {d : PyData} (h : (enumD (g.map Pl.d))[i]? = some d) : ∃ x, g[i]? = some x ∧ d = .tuple [.int (i : Nat), x.d] := by
  obtain ⟨e, he, rfl⟩ := enumD_get h
  rw [List.getElem?_map] at he
  cases hx : g[i]? with
  | none => rw [hx] at he; cases he
  | some x => rw [hx] at he; exact ⟨x, rfl, by rw [← Option.some.inj he]⟩
local macro_rules | `(tactic| walk_at "bi") => `(tactic| with_reducible rfl)
def turnP : Pl → Pl
  | .fin w => .fin (-w)
  | .mv s ms => .mv (1 - s) ms
noncomputable def m_turned : X :=
  (xRet (eCB tupleD (aCons (eL (lLc [1, 2] (iSq (eVar 0)) (gTp 2 (gsCons (gNm 1) (gsCons (gNm 2) gsNil))) bYes (eIf (bTest (eOp eqD (eVar 1) (eC (.str "end")))) (eTup (aCons (eC (.str "end")) (aCons (eUn negD (eVar 2)) aNil))) (eTup (aCons (eOp subD (eC (.int 1)) (eVar 1)) (aCons (eVar 2) aNil)))))) aNil)))
noncomputable def f_turned : FS := fnS 3 (m_turned )

theorem turned_eq {g : List Pl} (hl : g.length ≤ 1000) (st : Sg) : f_turned [.dat (gD g)] st = some (.dat (gD (g.map turnP)), st) := by
  unfold f_turned m_turned
  refine fok_is ?_
  walk_at "vfn"
  walk_at "vc"
  refine lcw_map (xs := g) Pl.d (fun x => (turnP x).d) (by rfl) (by rfl) (by omega) (by walk_at "wi") (fun x hx => ?_) ?_
  · cases x with
    | fin w => walk_at "vc"
    | mv s ms => walk_at "vc"
  · walk_at "vc"
    unfold gD
    rw [List.map_map]
    exact ⟨rfl, rfl⟩
local macro_rules | `(tactic| walk_at "cq") => `(tactic| ((with_reducible apply turned_eq); omega))
theorem turnP_good {g : List Pl} (hg : Good g) : Good (g.map turnP) := by
  refine ⟨fun p x h => ?_, by rw [List.length_map]; exact hg.len⟩
  rw [List.getElem?_map] at h
  cases hx : g[p]? with
  | none => rw [hx] at h; cases h
  | some y =>
    rw [hx] at h
    cases h
    have := hg.ok p y hx
    rw [List.length_map]
    cases y with
    | fin w =>
      obtain ⟨h1, h2⟩ := this
      exact ⟨by omega, by omega⟩
    | mv s ms =>
      obtain ⟨h1, h2, h3, h4, h5⟩ := this
      exact ⟨by omega, h2, h3, h4, h5⟩
theorem turn_get {g : List Pl} {p : Nat} : (g.map turnP)[p]? = (g[p]?).map turnP := List.getElem?_map

end
section
local macro_rules | `(tactic| walk_at "bi") => `(tactic| with_reducible rfl)
local macro_rules | `(tactic| walk_at "cq") => `(tactic| ((with_reducible apply turned_eq); omega))
section
local macro_rules | `(tactic| walk_at "xx") => `(tactic| with_reducible refine wp_iZpT ?_)
def inB (ms : List Nat) : PyData → Bool
  | .int m => ms.any fun x => decide ((x : Int) = m)
  | _ => false
def gdB (hand goal w : Int) : Bool := if hand = 0 then decide (goal ≤ w) else decide (w < goal)
end
end
section
local macro_rules | `(tactic| walk_at "v") => `(tactic| with_reducible refine wp_eRevT ?_)
end
section
local macro_rules | `(tactic| walk_at "cq") => `(tactic| ((with_reducible apply l_moves_eq); first | omega | assumption))

end
section
local macro_rules | `(tactic| walk_at "cq") => `(tactic| ((with_reducible apply l_moves_eq); first | omega | assumption))
section
local macro_rules | `(tactic| walk_at "cq") => `(tactic| ((with_reducible apply l_worth_eq) <;> assumption))

end
end
section
def opD : Option PyData → PyData
  | none => .none
  | some d => d
def someP (f : Nat → Option PyData) (ms : List Nat) : List (Nat × PyData) := ms.filterMap fun m => (f m).map fun q => (m, q)
def mqD (z : Nat × PyData) : PyData := .tuple [.int (z.1 : Nat), z.2]
def apF (ch : List (Nat × PyData) → PyData) (goal : Int) (f : Nat → Option PyData) : Pl → Option PyData
  | .fin w => if goal ≤ w then some (.tuple []) else none
  | .mv s ms => if s = 0 then (if someP f ms = [] then none else some (ch (someP f ms))) else if (someP f ms).length = ms.length then some (.tuple ((someP f ms).map (·.2))) else none
def apP (ch : List (Nat × PyData) → PyData) (goal : Int) (g : List Pl) (p : Nat) : Option PyData := valS none (apF ch goal) g p
theorem someP_congr {f f' : Nat → Option PyData} {ms : List Nat} (h : ∀ m ∈ ms, f m = f' m) : someP f ms = someP f' ms := by
  induction ms with
  | nil => rfl
  | cons a r ih =>
    unfold someP at ih ⊢
    rw [List.filterMap_cons, List.filterMap_cons, h a List.mem_cons_self, ih fun m hm => h m (List.mem_cons_of_mem _ hm)]
theorem apF_loc {ch : List (Nat × PyData) → PyData} {goal : Int} : Loc1 (apF ch goal) := fun f f' x h => by
  cases x with
  | fin w => rfl
  | mv s ms =>
    have e : someP f ms = someP f' ms := someP_congr h
    unfold apF
    simp only [e]
section
variable {ch : List (Nat × PyData) → PyData} {goal : Int} {g : List Pl} {rk : Nat → Nat} {p : Nat}
theorem ap_fin (h : Rk g rk) {w : Int} (e : g[p]? = some (.fin w)) : apP ch goal g p = if goal ≤ w then some (.tuple []) else none := val_eq apF_loc h e
theorem ap_mv (h : Rk g rk) {s : Int} {ms : List Nat} (e : g[p]? = some (.mv s ms)) : apP ch goal g p = if s = 0 then (if someP (apP ch goal g) ms = [] then none else some (ch (someP (apP ch goal g) ms))) else if (someP (apP ch goal g) ms).length = ms.length then some (.tuple ((someP (apP ch goal g) ms).map (·.2))) else none := val_eq apF_loc h e
end
theorem someP_len (f : Nat → Option PyData) (ms : List Nat) : (someP f ms).length ≤ ms.length := List.length_filterMap_le _ _
theorem someP_filt (f : Nat → Option PyData) (ms : List Nat) : (ms.filter fun m => (f m).isSome).map (fun m => PyData.tuple [.int (m : Nat), opD (f m)]) = (someP f ms).map mqD := by
  induction ms with
  | nil => rfl
  | cons a r ih =>
    unfold someP at ih ⊢
    rw [List.filter_cons, List.filterMap_cons]
    cases e : f a with
    | none => simpa using ih
    | some q =>
      rw [Option.isSome_some, if_pos rfl, List.map_cons, ih, e]
      rfl
noncomputable def b_all_papers_1 (F_order_of F_moves_of : FS) : X :=
  (xSeq (xAsgG (gTp 2 (gsCons (gNm 5) (gsCons (gNm 6) gsNil))) (eOp ixD (eVar 0) (eVar 4)))
    (xSeq (xAsg 7 (eL (lLc [8] (iSq (eCall F_moves_of (vCons (vE (eVar 0)) (vCons (vE (eVar 4)) vNil)))) (gNm 8) (bTest (eNotN (eDget 3 (eVar 8)))) (eTup (aCons (eVar 8) (aCons (eDget 3 (eVar 8)) aNil))))))
    (xIf (bTest (eOp eqD (eVar 5) (eC (.str "end"))))
      (xDput 3 (eVar 4) (eIf (bTest (eOp geD (eVar 6) (eVar 1))) (eTup aNil) (eC .none)))
      (xIf (bTest (eOp eqD (eVar 5) (eC (.int 0))))
        (xDput 3 (eVar 4) (eIf (bTru (eVar 7)) (eCallF 2 (aCons (eVar 7) aNil)) (eC .none)))
        (xDput 3 (eVar 4) (eIf (bTest (eOp eqD (eCB lenD (aCons (eVar 7) aNil)) (eCB lenD (aCons (eVar 6) aNil)))) (eCB tupleD (aCons (eL (lLc [8, 9] (iSq (eVar 7)) (gTp 2 (gsCons (gNm 8) (gsCons (gNm 9) gsNil))) bYes (eVar 9))) aNil)) (eC .none)))))))
noncomputable def m_all_papers (F_order_of F_moves_of : FS) : X :=
  (xSeq (xAsgC 3 lDnew)
  (xSeq (xFor (iWipe [4, 5, 6, 7, 8, 9] (iSq (eCall F_order_of (vCons (vE (eVar 0)) vNil)))) (gNm 4)
    (xKeep [4, 5, 6, 7, 8, 9] (b_all_papers_1 F_order_of F_moves_of)))
  (xRetD 3)))
noncomputable def f_all_papers : FS := fnS 10 (m_all_papers f_order_of f_moves_of)

set_option maxHeartbeats 4000000 in
theorem all_papers_eq {g : List Pl} (hg : Good g) (hst : Straight g) {ch : List (Nat × PyData) → PyData} {goal : Int} {F : List PyData → Option PyData} (hF : ∀ (p : Nat) (ms : List Nat), g[p]? = some (Pl.mv 0 ms) → someP (apP ch goal g) ms ≠ [] → F [.list ((someP (apP ch goal g) ms).map mqD)] = some (ch (someP (apP ch goal g) ms)))
    (hT : ∀ p q, p < g.length → apP ch goal g p = some q → ∃ ds, q = .tuple ds) (st : Sg) : ∃ o, f_all_papers [.dat (gD g), .dat (.int goal), .fn F] st = some (.ref st.length, st ++ [.dct (dOf (fun p => opD (apP ch goal g p)) o)]) ∧ ∀ p, p < g.length → valG (dOf (fun p => opD (apP ch goal g p)) o) (.inl (p : Int)) = some (opD (apP ch goal g p)) := by
  obtain ⟨rk, hrk⟩ := hst.rk
  obtain ⟨o, ho, ht⟩ := ord_topo hg hst
  have hl := hg.len
  have hoe := order_of_eq hg st
  rw [ho] at hoe
  have hol : o.length = g.length := by rw [ht.perm.length_eq, List.length_range]
  refine ⟨o, ?_, fun p hp => dOf_get (ht.perm.mem_iff.mpr (List.mem_range.mpr hp))⟩
  unfold f_all_papers m_all_papers
  refine fok_is ?_
  walk_at "vfn"
  walk_at "vc"
  refine wp_forS o (fun p => .int (p : Nat)) (fun pre => [.dat (gD g), .dat (.int goal), .fn F, .dct (dOf (fun p => opD (apP ch goal g p)) pre), .no, .no, .no, .no, .no, .no]) (fun _ => st) (fun pre s => s = pre) [] rfl ?_ ?_
  · rintro pre p post s e rfl
    have hi : o[s.length]? = some p := by rw [e]; simp
    have htk : o.take s.length = s := by rw [e]; simp
    have hmv := ht.dn _ _ hi
    rw [htk] at hmv
    have hp : p < g.length := List.mem_range.mp (ht.perm.mem_iff.mp (List.mem_of_getElem? hi))
    have hnd : o.Nodup := ht.perm.nodup_iff.mpr List.nodup_range
    have hpn : p ∉ s := fun z => by
      rw [e, List.nodup_append] at hnd
      exact hnd.2.2 p z p List.mem_cons_self rfl
    have hsl : s.length < 4000000 := by
      have := (List.getElem?_eq_some_iff.mp hi).1
      omega
    have hdl : (dOf (fun p => opD (apP ch goal g p)) s).length < 4000000 := by rw [dOf_len]; exact hsl
    have hx : g[p]? = some g[p] := List.getElem?_eq_getElem hp
    generalize g[p] = x at hx
    have hdx := ixD_g hx
    rw [mvs_eq hx] at hmv
    have hmg : ∀ m ∈ x.moves, m < g.length := fun m hm => mvs_lt hg (p := p) (by rw [mvs_eq hx]; exact hm)
    have hml : x.moves.length ≤ 16 := by
      cases x with
      | fin w => exact Nat.zero_le _
      | mv sd ms => exact (hg.ok p _ hx).2.2.2.2
    have hmq := mvs_eq hx
    have hxd : x.d = .tuple [x.side, x.more] := by cases x <;> rfl
    unfold b_all_papers_1
    walk_at "vc"
    rw [hxd]
    walk_at "vc"
    rw [hmq]
    refine lcw_pure (xs := x.moves) (fun m => .int (m : Nat)) (fun m => (apP ch goal g m).isSome) (fun m => .tuple [.int (m : Nat), opD (apP ch goal g m)]) (by rfl) (by rfl) (by omega) (by walk_at "wi") (fun m hm => ?_) ?_
    · have hgt := dOf_get (f := fun p => opD (apP ch goal g p)) (hmv m hm)
      have hTm := hT m
      generalize apP ch goal g m = a at hgt hTm
      cases a with
      | none =>
        walk_at "vc"
        exact ⟨⟨rfl, rfl, rfl⟩, fun z => by cases z⟩
      | some q =>
        obtain ⟨ds, rfl⟩ := hTm q (hmg m hm) rfl
        walk_at "vc"
        exact ⟨⟨rfl, rfl, rfl⟩, fun _ => by walk_at "vc"⟩
    rw [someP_filt]
    cases x with
    | fin w =>
      have hv := ap_fin (ch := ch) (goal := goal) hrk hx
      by_cases hw : goal ≤ w
      · have e2 : decide (w ≥ goal) = true := decide_eq_true hw
        rw [if_pos hw] at hv
        dsimp only [Pl.side, Pl.more]
        walk_at "vc"
        refine ⟨_, ?_, rfl, rfl⟩
        rw [← dOf_put hpn (v := .tuple []) (by rw [hv]; rfl)]
        rfl
      · have e2 : decide (w ≥ goal) = false := decide_eq_false hw
        rw [if_neg hw] at hv
        dsimp only [Pl.side, Pl.more]
        walk_at "vc"
        refine ⟨_, ?_, rfl, rfl⟩
        rw [← dOf_put hpn (v := .none) (by rw [hv]; rfl)]
        rfl
    | mv sd ms =>
      obtain ⟨q1, q2, q3, q4, q5⟩ := hg.ok p _ hx
      have hv := ap_mv (ch := ch) (goal := goal) hrk hx
      dsimp only [Pl.side, Pl.more, Pl.moves]
      have hsl2 := someP_len (apP ch goal g) ms
      rcases q1 with rfl | rfl
      · rw [if_pos rfl] at hv
        have hf := hF p ms hx
        generalize someP (apP ch goal g) ms = so at hv hf hsl2
        cases so with
        | nil =>
          rw [if_pos rfl] at hv
          walk_at "vc"
          refine ⟨_, ?_, rfl, rfl⟩
          rw [← dOf_put hpn (v := .none) (by rw [hv]; rfl)]
          rfl
        | cons a r =>
          rw [if_neg (by simp)] at hv
          have hf := hf (by simp)
          walk_at "vc"
          refine ⟨_, ?_, rfl, rfl⟩
          rw [← dOf_put hpn (v := ch (a :: r)) (by rw [hv]; rfl)]
          rfl
      · rw [if_neg (by decide)] at hv
        generalize someP (apP ch goal g) ms = so at hv hsl2
        have hml2 : (so.map mqD).length = so.length := List.length_map _
        by_cases hle : so.length = ms.length
        · rw [if_pos hle] at hv
          have hd1 : decide (((so.map mqD).length : Int) = (ms.length : Nat)) = true := decide_eq_true (by omega)
          walk_at "vc"
          refine lcw_map (xs := so) mqD (fun z => z.2) (by rfl) (by rfl) (by omega) (by walk_at "wi") (fun z hz => ?_) ?_
          · show Has (gTp 2 _ (.tuple [.int (z.1 : Nat), z.2]) _) _
            walk_at "vc"
          · walk_at "vc"
            refine ⟨_, ?_, rfl, rfl⟩
            rw [← dOf_put hpn (v := .tuple (so.map (·.2))) (by rw [hv]; rfl)]
            rfl
        · rw [if_neg hle] at hv
          have hd1 : decide (((so.map mqD).length : Int) = (ms.length : Nat)) = false := decide_eq_false (by omega)
          walk_at "vc"
          refine ⟨_, ?_, rfl, rfl⟩
          rw [← dOf_put hpn (v := .none) (by rw [hv]; rfl)]
          rfl
  · rintro s rfl
    walk_at "vc"

end
section
local macro_rules | `(tactic| walk_at "bi") => `(tactic| with_reducible rfl)
local macro_rules | `(tactic| walk_at "cq") => `(tactic| ((with_reducible apply turned_eq); omega))
local macro_rules | `(tactic| walk_at "xx") => `(tactic| with_reducible refine wp_iZpT ?_)
local macro_rules | `(tactic| walk_at "v") => `(tactic| with_reducible refine wp_eRevT ?_)
local macro_rules | `(tactic| walk_at "cq") => `(tactic| ((with_reducible apply l_moves_eq); first | omega | assumption))
local macro_rules | `(tactic| walk_at "cq") => `(tactic| ((with_reducible apply l_worth_eq) <;> assumption))
section
def apHF (ch : List (Nat × PyData) → PyData) (hand goal : Int) (f : Nat → Option PyData) : Pl → Option PyData
  | .fin w => if gdB hand goal w = true then some (.tuple []) else none
  | .mv s ms => if s = hand then (if someP f ms = [] then none else some (ch (someP f ms))) else if (someP f ms).length = ms.length then some (.tuple ((someP f ms).map (·.2))) else none
def apH (ch : List (Nat × PyData) → PyData) (hand goal : Int) (g : List Pl) (p : Nat) : Option PyData := valS none (apHF ch hand goal) g p
theorem apHF_loc {ch : List (Nat × PyData) → PyData} {hand goal : Int} : Loc1 (apHF ch hand goal) := fun f f' x h => by
  cases x with
  | fin w => rfl
  | mv s ms =>
    have e : someP f ms = someP f' ms := someP_congr h
    unfold apHF
    simp only [e]
section
variable {ch : List (Nat × PyData) → PyData} {hand goal : Int} {g : List Pl} {rk : Nat → Nat} {p : Nat}
theorem aph_fin (h : Rk g rk) {w : Int} (e : g[p]? = some (.fin w)) : apH ch hand goal g p = if gdB hand goal w = true then some (.tuple []) else none := val_eq apHF_loc h e
theorem aph_mv (h : Rk g rk) {s : Int} {ms : List Nat} (e : g[p]? = some (.mv s ms)) : apH ch hand goal g p = if s = hand then (if someP (apH ch hand goal g) ms = [] then none else some (ch (someP (apH ch hand goal g) ms))) else if (someP (apH ch hand goal g) ms).length = ms.length then some (.tuple ((someP (apH ch hand goal g) ms).map (·.2))) else none := val_eq apHF_loc h e
theorem apH_0 : apP ch goal g = apH ch 0 goal g := by
  have : apF ch goal = apHF ch 0 goal := by
    funext f x
    cases x with
    | fin w =>
      show (if goal ≤ w then _ else _) = if decide (goal ≤ w) = true then _ else _
      simp only [decide_eq_true_eq]
    | mv s ms => rfl
  unfold apP apH
  rw [this]
theorem turn_rk (h : Rk g rk) : Rk (g.map turnP) rk := ⟨fun p x m hx hm => by
  rw [turn_get] at hx
  obtain ⟨y, hy, rfl⟩ := Option.map_eq_some_iff.mp hx
  exact h.dn p y m hy (by cases y <;> exact hm), fun p hp => by rw [List.length_map] at hp ⊢; exact h.lt p hp⟩
theorem apH_turn (hg : Good g) (h : Rk g rk) : ∀ (n p : Nat), rk p < n → p < g.length → apH ch 0 (1 - goal) (g.map turnP) p = apH ch 1 goal g p
  | 0, p, h0, _ => absurd h0 (Nat.not_lt_zero _)
  | n + 1, p, h0, hp => by
    have hx : g[p]? = some g[p] := List.getElem?_eq_getElem hp
    generalize g[p] = x at hx
    have hx2 : (g.map turnP)[p]? = some (turnP x) := by rw [turn_get, hx]; rfl
    cases x with
    | fin w =>
      rw [aph_fin (turn_rk h) hx2, aph_fin h hx]
      have : gdB 0 (1 - goal) (-w) = gdB 1 goal w := by
        show decide (1 - goal ≤ -w) = decide (w < goal)
        exact decide_eq_decide.mpr (by omega)
      rw [this]
    | mv s ms =>
      obtain ⟨q1, q2, q3, q4, q5⟩ := hg.ok p _ hx
      have e : someP (apH ch 0 (1 - goal) (g.map turnP)) ms = someP (apH ch 1 goal g) ms := someP_congr fun m hm => by
        have := h.dn p _ m hx hm
        exact apH_turn hg h n m (by omega) (q4 m hm)
      rw [aph_mv (turn_rk h) hx2, aph_mv h hx, e]
      rcases q1 with rfl | rfl <;> rfl
theorem someP_all {f : Nat → Option PyData} : ∀ {ms : List Nat}, (someP f ms).length = ms.length ↔ ∀ m ∈ ms, f m ≠ none
  | [] => by simp [someP]
  | a :: r => by
    have ih := someP_all (f := f) (ms := r)
    have hl := someP_len f r
    unfold someP at ih hl ⊢
    rw [List.filterMap_cons]
    cases e : f a with
    | none =>
      simp only [Option.map_none, List.length_cons]
      exact ⟨fun z => by omega, fun z => absurd e (z a List.mem_cons_self)⟩
    | some q =>
      simp only [Option.map_some, List.length_cons]
      refine ⟨fun z m hm => ?_, fun z => ?_⟩
      · rcases List.mem_cons.mp hm with rfl | hm
        · rw [e]; exact fun z => nomatch z
        · exact ih.mp (by omega) m hm
      · have := ih.mpr fun m hm => z m (List.mem_cons_of_mem _ hm)
        omega
theorem someP_nil {f : Nat → Option PyData} {ms : List Nat} : someP f ms = [] ↔ ∀ m ∈ ms, f m = none := by
  unfold someP
  rw [List.filterMap_eq_nil_iff]
  exact forall_congr' fun m => forall_congr' fun _ => by simp
theorem gd_own {s goal : Int} (hs : s = 0 ∨ s = 1) {ws : List Int} (hn : ws ≠ []) : gdB s goal (chI s ws) = true ↔ ∃ w ∈ ws, gdB s goal w = true := by
  rcases hs with rfl | rfl
  · show decide (goal ≤ maxI ws) = true ↔ ∃ w ∈ ws, decide (goal ≤ w) = true
    simp only [decide_eq_true_eq]
    exact ⟨fun h => ⟨_, maxI_mem hn, h⟩, fun ⟨w, hw, h⟩ => Int.le_trans h (maxI_ge hw)⟩
  · show decide (minI ws < goal) = true ↔ ∃ w ∈ ws, decide (w < goal) = true
    simp only [decide_eq_true_eq]
    exact ⟨fun h => ⟨_, minI_mem hn, h⟩, fun ⟨w, hw, h⟩ => Int.lt_of_le_of_lt (minI_le hw) h⟩
theorem gd_oth {s hand goal : Int} (hs : s = 0 ∨ s = 1) (hh : hand = 0 ∨ hand = 1) (hne : s ≠ hand) {ws : List Int} (hn : ws ≠ []) : gdB hand goal (chI s ws) = true ↔ ∀ w ∈ ws, gdB hand goal w = true := by
  rcases hs with rfl | rfl <;> rcases hh with rfl | rfl
  · exact absurd rfl hne
  · show decide (maxI ws < goal) = true ↔ ∀ w ∈ ws, decide (w < goal) = true
    simp only [decide_eq_true_eq]
    exact ⟨fun h w hw => Int.lt_of_le_of_lt (maxI_ge hw) h, fun h => h _ (maxI_mem hn)⟩
  · show decide (goal ≤ minI ws) = true ↔ ∀ w ∈ ws, decide (goal ≤ w) = true
    simp only [decide_eq_true_eq]
    exact ⟨fun h w hw => Int.le_trans h (minI_le hw), fun h => h _ (minI_mem hn)⟩
  · exact absurd rfl hne
theorem apH_wor (hg : Good g) (h : Rk g rk) (hh : hand = 0 ∨ hand = 1) : ∀ (n p : Nat), rk p < n → p < g.length → (apH ch hand goal g p ≠ none ↔ gdB hand goal (wor g p) = true)
  | 0, p, h0, _ => absurd h0 (Nat.not_lt_zero _)
  | n + 1, p, h0, hp => by
    have hx : g[p]? = some g[p] := List.getElem?_eq_getElem hp
    generalize g[p] = x at hx
    cases x with
    | fin w =>
      rw [aph_fin h hx, wor_fin h hx]
      split
      · rename_i e; exact ⟨fun _ => e, fun _ z => nomatch z⟩
      · rename_i e; exact ⟨fun z => absurd rfl z, fun z => absurd z e⟩
    | mv s ms =>
      obtain ⟨q1, q2, q3, q4, q5⟩ := hg.ok p _ hx
      have ih : ∀ m ∈ ms, (apH ch hand goal g m ≠ none ↔ gdB hand goal (wor g m) = true) := fun m hm => by
        have := h.dn p _ m hx hm
        exact apH_wor hg h hh n m (by omega) (q4 m hm)
      have hne : ms.map (wor g) ≠ [] := by simpa using q2
      rw [aph_mv h hx, wor_mv h hx]
      by_cases hs : s = hand
      · subst hs
        rw [if_pos rfl, gd_own q1 hne]
        split
        · rename_i e
          rw [someP_nil] at e
          refine ⟨fun z => absurd rfl z, fun ⟨w, hw, hgd⟩ => ?_⟩
          obtain ⟨m, hm, rfl⟩ := List.mem_map.mp hw
          exact absurd (e m hm) ((ih m hm).mpr hgd)
        · rename_i e
          refine ⟨fun _ => ?_, fun _ z => nomatch z⟩
          rw [someP_nil] at e
          have ⟨m, hm, hz⟩ : ∃ m ∈ ms, apH ch s goal g m ≠ none := by
            by_cases q : ∃ m ∈ ms, apH ch s goal g m ≠ none
            · exact q
            · exact absurd (fun m hm => Classical.byContradiction fun z => q ⟨m, hm, z⟩) e
          exact ⟨_, List.mem_map.mpr ⟨m, hm, rfl⟩, (ih m hm).mp hz⟩
      · rw [if_neg hs, gd_oth q1 hh hs hne]
        split
        · rename_i e
          rw [someP_all] at e
          refine ⟨fun _ w hw => ?_, fun _ z => nomatch z⟩
          obtain ⟨m, hm, rfl⟩ := List.mem_map.mp hw
          exact (ih m hm).mp (e m hm)
        · rename_i e
          refine ⟨fun z => absurd rfl z, fun z => absurd (someP_all.mpr fun m hm => ?_) e⟩
          exact (ih m hm).mpr (z _ (List.mem_map.mpr ⟨m, hm, rfl⟩))
theorem apH_tup (hg : Good g) (h : Rk g rk) (hc : ∀ z so, ∃ ds, ch (z :: so) = .tuple ds) {q : PyData} (hp : p < g.length) (e : apH ch hand goal g p = some q) : ∃ ds, q = .tuple ds := by
  have hx : g[p]? = some g[p] := List.getElem?_eq_getElem hp
  generalize g[p] = x at hx
  cases x with
  | fin w =>
    rw [aph_fin h hx] at e
    split at e
    · cases e; exact ⟨_, rfl⟩
    · cases e
  | mv s ms =>
    rw [aph_mv h hx] at e
    split at e
    · split at e
      · cases e
      · cases e
        generalize someP (apH ch hand goal g) ms = so at *
        cases so with
        | nil => rename_i z; exact absurd rfl z
        | cons a r => exact hc a r
    · split at e
      · cases e; exact ⟨_, rfl⟩
      · cases e
end
def ch1 : List (Nat × PyData) → PyData
  | z :: _ => mqD z
  | [] => .none
noncomputable def y_paper_for_1 (F_all_papers : FS) : List PyData → Option PyData := lamF 1 1 (eOp ixD (eVar 0) (eC (.int 0)))
noncomputable def m_paper_for (F_all_papers : FS) : X :=
  (xRet (eCallDg F_all_papers (vCons (vE (eVar 0)) (vCons (vE (eVar 2)) (vCons (vLam (y_paper_for_1 F_all_papers)) vNil))) 1))
noncomputable def f_paper_for : FS := fnS 3 (m_paper_for f_all_papers)

noncomputable def m_paper_against (F_paper_for F_turned : FS) : X :=
  (xRet (eCall F_paper_for (vCons (vE (eCall F_turned (vCons (vE (eVar 0)) vNil))) (vCons (vE (eVar 1)) (vCons (vE (eOp subD (eC (.int 1)) (eVar 2))) vNil)))))
noncomputable def f_paper_against : FS := fnS 3 (m_paper_against f_paper_for f_turned)

theorem all_ok {g : List Pl} (hg : Good g) (hst : Straight g) {ch : List (Nat × PyData) → PyData} (hc : ∀ z so, ∃ ds, ch (z :: so) = .tuple ds) {goal : Int} {F : List PyData → Option PyData} (hF : ∀ (p : Nat) (ms : List Nat), g[p]? = some (Pl.mv 0 ms) → someP (apH ch 0 goal g) ms ≠ [] → F [.list ((someP (apH ch 0 goal g) ms).map mqD)] = some (ch (someP (apH ch 0 goal g) ms))) (st : Sg) :
    ∃ o, f_all_papers [.dat (gD g), .dat (.int goal), .fn F] st = some (.ref st.length, st ++ [.dct (dOf (fun p => opD (apH ch 0 goal g p)) o)]) ∧ ∀ p, p < g.length → valG (dOf (fun p => opD (apH ch 0 goal g p)) o) (.inl (p : Int)) = some (opD (apH ch 0 goal g p)) := by
  obtain ⟨rk, hr⟩ := hst.rk
  have := all_papers_eq hg hst (ch := ch) (goal := goal) (F := F) (by rw [apH_0]; exact hF) (by rw [apH_0]; exact fun p q hp e => apH_tup hg hr hc hp e) st
  rw [apH_0] at this
  exact this
theorem paper_for_eq {g : List Pl} (hg : Good g) (hst : Straight g) {goal : Int} {p : Nat} (hp : p < g.length) (st : Sg) : f_paper_for [.dat (gD g), .dat (.int (p : Int)), .dat (.int goal)] st = some (.dat (opD (apH ch1 0 goal g p)), st) := by
  obtain ⟨o, e1, e2⟩ := all_ok hg hst (ch := ch1) (fun z so => ⟨_, rfl⟩) (goal := goal) (F := y_paper_for_1 f_all_papers) (fun p ms _ hne => lamF_wp rfl rfl (by
    generalize someP (apH ch1 0 goal g) ms = so at hne ⊢
    cases so with
    | nil => exact absurd rfl hne
    | cons a r =>
      have hix : ixD (.list ((a :: r).map mqD)) (.int 0) = some (mqD a) := ixD_lN (k := 0) rfl
      walk_at "vc"
      rfl)) st
  have e2 := e2 p hp
  unfold f_paper_for m_paper_for
  refine fok_is ?_
  walk_at "vfn"
  walk_at "vc"
  refine ⟨_, _, _, _, rfl, rfl, rfl, rfl, e2, ?_⟩
  walk_at "vc"
theorem paper_against_eq {g : List Pl} (hg : Good g) (hst : Straight g) {goal : Int} {p : Nat} (hp : p < g.length) (st : Sg) : f_paper_against [.dat (gD g), .dat (.int (p : Int)), .dat (.int goal)] st = some (.dat (opD (apH ch1 1 goal g p)), st) := by
  obtain ⟨rk, hr⟩ := hst.rk
  have h1 := turned_eq (g := g) (by have := hg.len; omega) st
  have hst2 : Straight (g.map turnP) := ⟨rk, fun p x m hx hm => (turn_rk hr).dn p x m hx hm, fun p hp => (turn_rk hr).lt p hp⟩
  have h2 := paper_for_eq (turnP_good hg) hst2 (goal := 1 - goal) (p := p) (by rw [List.length_map]; exact hp) st
  rw [apH_turn hg hr (rk p + 1) p (Nat.lt_succ_self _) hp] at h2
  unfold f_paper_against m_paper_against
  refine fok_is ?_
  walk_at "vfn"
  walk_at "vc"

end
end
end
section
section
variable {α : Type} {f : α → Int}
end

end
section
local macro_rules | `(tactic| walk_at "cq") => `(tactic| with_reducible assumption)
local macro_rules | `(tactic| walk_at "le") => `(tactic| first | omega | (simp only [List.length_cons, List.length_nil, List.length_append, List.length_map, List.length_set, List.length_range, nD_len]; omega) | decide)
local macro_rules | `(tactic| walk_at "sr") => `(tactic| ((repeat (with_reducible apply SetR.s)); with_reducible exact SetR.z))
local macro_rules | `(tactic| walk_at "ha") => `(tactic| first | walk_at "op" | with_reducible exact truO_b | with_reducible exact truO_l | with_reducible exact truO_t | with_reducible exact truO_n | with_reducible exact truO_i | walk_at "at" | walk_at "bi" | walk_at "dg" | with_reducible rfl | rfl)
local macro_rules | `(tactic| walk_at "v") => `(tactic| first | with_reducible refine wp_parLD ?_ | with_reducible refine wp_parLL ?_ | with_reducible refine wp_par3 ?_ | with_reducible refine wp_parCL ?_ | with_reducible refine wp_lDone ?_ | ((with_reducible apply wp_lSortK); (rfl)) | with_reducible refine wp_eIndex ?_ | ((with_reducible apply wp_eIndexV); (rfl)) | with_reducible refine wp_eInDV ?_ | with_reducible refine wp_dput ?_ | ((with_reducible apply wp_dpop); (exact ⟨_, rfl⟩)) | with_reducible refine wp_tup2 ?_ | with_reducible refine wp_tup3 ?_ | with_reducible refine wp_tup4 ?_ | with_reducible refine wp_uNil ?_ | with_reducible refine wp_uD ?_ | with_reducible refine wp_uL ?_ | with_reducible refine wp_uC ?_ | with_reducible refine wp_vLam ?_ | ((with_reducible apply wp_vFn); (rfl)) | ((with_reducible apply wp_eCallF); (rfl)) | ((with_reducible apply wp_retD); (rfl)) | with_reducible refine wp_callDg ?_ | with_reducible refine wp_sortBy ?_ | ((with_reducible apply ex_one); (rfl)) | with_reducible refine wp_eChain ?_ | ((with_reducible refine wp_bAnd ?_); (repeat walk_at "v"); walk_at "br") | ((with_reducible refine wp_bOr ?_); (repeat walk_at "v"); walk_at "br") | ((with_reducible refine wp_eAnd ?_); (repeat walk_at "v"); walk_at "br") | ((with_reducible refine wp_eOr ?_); (repeat walk_at "v"); walk_at "br") | with_reducible refine wp_bAndB ?_ | with_reducible refine wp_bOrB ?_ | with_reducible refine wp_eAndB ?_ | with_reducible refine wp_eOrB ?_ | walk_at "xx")
local macro_rules | `(tactic| walk_at "v") => `(tactic| first | with_reducible refine wp_eCallD ?_ | with_reducible refine wp_lList ?_ | with_reducible refine wp_lListRg ?_ | with_reducible refine wp_lListRg2 ?_ | with_reducible refine wp_iEn ?_ | with_reducible refine wp_iEnA ?_ | with_reducible refine wp_kSet ?_ | with_reducible refine wp_kSc ?_ | with_reducible refine wp_sortS ?_ | with_reducible refine wp_lenS ?_ | with_reducible refine wp_lRev ?_ | with_reducible refine wp_lRep ?_ | ((with_reducible apply wp_lListV); (rfl)) | ((with_reducible apply wp_lKeys); (rfl)) | ((with_reducible apply wp_lVals); (rfl)) | with_reducible refine wp_vNewD ?_ | with_reducible refine wp_eMinDef ?_ | with_reducible refine wp_lLc ?_ | with_reducible refine wp_bYes ?_ | ((with_reducible apply wp_bTruV); (rfl)) | ((with_reducible apply wp_bTruD); (rfl)) | with_reducible refine wp_bIf ?_ | with_reducible refine wp_lDnew ?_ | with_reducible refine wp_lDc ?_ | with_reducible refine wp_asgC ?_ | with_reducible refine wp_newL ?_ | with_reducible refine wp_retN ?_ | with_reducible refine wp_drop ?_ | ((with_reducible apply wp_app); (exact ⟨_, rfl⟩)) | with_reducible refine wp_setI ?_ | ((with_reducible apply wp_aug); (rfl)) | ((with_reducible apply wp_frzO); (rfl); (walk_at "sr")) | ((with_reducible apply wp_frzD); (rfl)) | with_reducible refine wp_par ?_ | with_reducible refine wp_parDL ?_)
local macro_rules | `(tactic| walk_at "v") => `(tactic| first | with_reducible refine wp_iSq ?_ | with_reducible refine wp_iRg1 ?_ | with_reducible refine wp_iRg2 ?_ | with_reducible refine wp_keep ?_ | with_reducible refine wp_pre ?_ | with_reducible refine wp_next ?_ | with_reducible refine wp_break ?_ | with_reducible refine wp_cont ?_ | with_reducible refine bodyK_nx ?_ | with_reducible refine bodyK_ct ?_ | with_reducible refine bodyK_bk ?_ | with_reducible refine bodyK_ret ?_ | with_reducible refine seqK_bk ?_ | with_reducible refine seqK_ct ?_ | with_reducible refine retK_nx ?_ | with_reducible refine wp_forNil ?_ | with_reducible refine wp_eIsN ?_ | with_reducible refine wp_eNotN ?_ | with_reducible refine wp_eNot ?_ | ((with_reducible apply wp_eIxV); (rfl)) | ((with_reducible apply wp_eLenV); (rfl)) | ((with_reducible apply wp_eTupleV); (rfl)) | ((with_reducible apply wp_eSlV); (rfl)) | with_reducible refine wp_eSl ?_ | with_reducible refine wp_oNone ?_ | with_reducible refine wp_oSome ?_ | with_reducible refine wp_eInV ?_ | ((with_reducible apply wp_ePopO); (rfl); (walk_at "gt"); (walk_at "sr")) | ((with_reducible apply wp_eDget); (exact ⟨_, rfl⟩)) | ((with_reducible apply wp_eDget2); (exact ⟨_, rfl⟩)) | with_reducible refine wp_eDin ?_ | with_reducible refine wp_eDnot ?_ | ((with_reducible apply wp_eLenD); (rfl)) | with_reducible refine wp_eIsi ?_ | with_reducible refine wp_eCallK ?_)
local macro_rules | `(tactic| walk_at "v") => `(tactic| first | with_reducible refine wp_seq ?_ | ((with_reducible apply wp_eVar); (rfl)) | with_reducible refine wp_eC ?_ | with_reducible refine wp_eOp ?_ | with_reducible refine has_some ?_ | ((with_reducible apply hasG_nm); (walk_at "sr")) | ((with_reducible apply hasG_tp); (rfl); (rfl)) | with_reducible refine hasG_cons ?_ | with_reducible refine hasG_nil ?_ | ((with_reducible apply has_of); (walk_at "ha")) | with_reducible refine wp_eCall ?_ | with_reducible refine wp_vE ?_ | ((with_reducible apply wp_vR); (rfl)) | with_reducible refine wp_vNil ?_ | ((with_reducible apply fok_eq); (walk_at "cq")) | with_reducible refine wp_asg ?_ | with_reducible refine wp_asgG ?_ | with_reducible refine wp_asgL ?_ | with_reducible refine wp_if ?_ | with_reducible refine wp_ret ?_ | with_reducible refine seqK_ret ?_ | with_reducible refine retK_ret ?_ | with_reducible refine wp_bTest ?_ | with_reducible refine wp_bTru ?_ | with_reducible refine wp_bNot ?_ | with_reducible refine wp_eCB ?_ | with_reducible refine wp_aCons ?_ | with_reducible refine wp_aNil ?_ | with_reducible refine wp_eUn ?_ | with_reducible refine wp_eTup ?_ | with_reducible refine wp_eL ?_ | with_reducible refine wp_lLst ?_ | with_reducible refine wp_eIf ?_ | with_reducible refine wp_for ?_ | with_reducible refine wp_iWipe ?_)
local macro_rules | `(tactic| walk_at "nk") => `(tactic| ((repeat walk_at "v"); first | exact ⟨rfl, rfl, rfl⟩ | exact ⟨rfl, rfl, by walk_at "op"⟩))
local macro_rules | `(tactic| walk_at "lt2") => `(tactic| first | omega | exact ⟨by omega, by omega⟩ | (simp only [List.length_cons, List.length_nil, List.length_append, List.length_map, List.length_set, nD_len]; omega))
local macro_rules | `(tactic| walk_at "ky") => `(tactic| first | with_reducible exact keyO_i | with_reducible exact keyO_s | rfl)
local macro_rules | `(tactic| walk_at "xx") => `(tactic| first | with_reducible refine ex_zipT ?_ | with_reducible refine ex_zipL ?_ | ((with_reducible apply ex_chain); (walk_at "op"); (intro _; walk_at "nk")) | ((with_reducible apply ex_and2); (intro _; walk_at "nk")) | ((with_reducible apply ex_and1); (intro _; walk_at "nk")) | ((with_reducible apply ex_ls); (rfl)))
local macro_rules | `(tactic| walk_at "xx") => `(tactic| first | ((with_reducible apply ex_dput); (rfl); (walk_at "ky"); (walk_at "lt2"); (walk_at "sr")) | ((with_reducible apply ex_dpop); (rfl); (walk_at "ky"); (walk_at "gt"); (walk_at "sr")) | ((with_reducible apply ex_par); (walk_at "sr"); (walk_at "sr")) | ((with_reducible apply ex_par3); (walk_at "sr"); (walk_at "sr"); (walk_at "sr")) | ((with_reducible apply ex_tup2); (walk_at "sr"); (walk_at "sr")) | ((with_reducible apply ex_tup3); (walk_at "sr"); (walk_at "sr"); (walk_at "sr")) | ((with_reducible apply ex_tup4); (walk_at "sr"); (walk_at "sr"); (walk_at "sr"); (walk_at "sr")) | ((with_reducible apply ex_kit); (walk_at "ki")))
local macro_rules | `(tactic| walk_at "xx") => `(tactic| first | ((with_reducible apply and_le); (walk_at "le")) | ((with_reducible apply and_bk); (rfl)) | ((with_reducible apply ex_ix); (rfl)) | ((with_reducible apply ex_key); (rfl); (walk_at "ky")) | ((with_reducible apply ex_app); (rfl); (walk_at "le"); (walk_at "sr")) | ((with_reducible apply ex_own); (rfl)) | ((with_reducible apply ex_dct); (rfl)) | ((with_reducible apply ex_setI); (rfl); (walk_at "lt2"); (walk_at "sr")))
local macro_rules | `(tactic| walk_at "xx") => `(tactic| first | ((with_reducible apply ex_set); (walk_at "sr")) | with_reducible refine ex_bool ?_ | with_reducible refine ex_dat ?_ | ((with_reducible apply ex_rng); omega) | ((with_reducible apply ex_rep); omega; (walk_at "le")) | ((with_reducible apply ex_rng2); omega; omega) | with_reducible refine ex_int ?_ | with_reducible refine ex_list ?_)
local macro_rules | `(tactic| walk_at "br") => `(tactic| first | ((with_reducible apply br_T); (walk_at "tr")) | ((with_reducible apply br_F); (walk_at "tr")))
local macro_rules | `(tactic| walk_at "vfn") => `(tactic| refine fok_fn (by (simp only [List.length_cons, List.length_nil, Nat.reduceAdd, Nat.reduceSub, List.replicate_succ, List.replicate_zero, List.cons_append, List.nil_append]; try rfl)) ?_)
local macro_rules | `(tactic| walk_at "vc") => `(tactic| repeat (first | walk_at "v" | with_reducible refine seqK_nx ?_ | walk_at "br" | with_reducible exact ⟨rfl, rfl, rfl⟩ | with_reducible exact ⟨rfl, rfl⟩))
local macro_rules | `(tactic| walk_at "wi") => `(tactic| (simp only [wipeV, List.set_cons_succ, List.set_cons_zero]; try rfl))
local macro_rules | `(tactic| walk_at "vs") => `(tactic| ((try with_reducible refine wp_seq ?_); (repeat (first | walk_at "v" | walk_at "br")); (try with_reducible refine seqK_nx ?_)))

section
noncomputable def b_reach_1 (F_moves_of : FS) : X :=
  (xIf (bTest (eDin true (eVar 4) 2))
        (xSeq (xDput 2 (eVar 4) (eC (.bool true)))
        (xApp 3 (eVar 4)))
        xNext)
noncomputable def b_reach_2 (F_moves_of : FS) : X :=
  (xFor (iWipe [1, 4] (iSq (eCall F_moves_of (vCons (vE (eVar 0)) (vCons (vE (ePop 3)) vNil))))) (gNm 4)
      (xKeep [1, 4] (b_reach_1 F_moves_of)))
noncomputable def m_reach (F_moves_of : FS) : X :=
  (xSeq (xParCL 2 3 (lDone (eVar 1) (eC (.bool true))) (lLst (aCons (eVar 1) aNil)))
  (xSeq (xPre [1, 4] (xWhile (bTruV 3)
    (xKeep [1, 4] (b_reach_2 F_moves_of))))
  (xRet (eCB tupleD (aCons (eL (lSortK 2)) aNil)))))
noncomputable def f_reach : FS := fnS 5 (m_reach f_moves_of)

structure RchI (g : List Pl) (p : Nat) (fs ws : List Nat) : Prop where
  nd : fs.Nodup
  lt : ∀ q ∈ fs, q < g.length
  sub : ∀ q ∈ ws, q ∈ fs
  st : p ∈ fs
  ln : ws.length ≤ fs.length
  cl : ∀ q ∈ fs, q ∈ ws ∨ ∀ m ∈ mvs g q, m ∈ fs
def trD (_ : Nat) : PyData := .bool true
theorem keys_dOf (f : Nat → PyData) : ∀ ps : List Nat, intKeys (dOf f ps) = some (ps.map fun p : Nat => (p : Int))
  | [] => rfl
  | p :: r => by
    show (intKeys (dOf f r)).map _ = _
    rw [keys_dOf f r]
    rfl
theorem nD_last (A : List Nat) (q : Nat) : (nD (A ++ [q]))[(nD (A ++ [q])).length - 1]? = some (.int (q : Nat)) := by
  unfold nD
  rw [List.map_append]
  simp
theorem nD_drop (A : List Nat) (q : Nat) : (nD (A ++ [q])).dropLast = nD A := by
  unfold nD
  rw [List.map_append]
  simp
inductive Rch (g : List Pl) (p : Nat) : Nat → Prop
  | z : Rch g p p
  | s {q m : Nat} (h : Rch g p q) (hm : m ∈ mvs g q) : Rch g p m
open Classical in
noncomputable def rchS (g : List Pl) (p : Nat) : List Nat := (List.range g.length).filter fun q => decide (Rch g p q)
open Classical in
theorem mem_rch {g : List Pl} {p q : Nat} : q ∈ rchS g p ↔ q < g.length ∧ Rch g p q := by
  unfold rchS
  rw [List.mem_filter, List.mem_range, decide_eq_true_eq]
theorem rch_in {g : List Pl} {p : Nat} {fs : List Nat} (h0 : p ∈ fs) (h : ∀ q ∈ fs, ∀ m ∈ mvs g q, m ∈ fs) {q : Nat} (hq : Rch g p q) : q ∈ fs := by
  induction hq with
  | z => exact h0
  | s _ hm ih => exact h _ ih _ hm
theorem rch_pw (g : List Pl) (p : Nat) : ((rchS g p).map fun q : Nat => (q : Int)).Pairwise (· < ·) := by
  rw [List.pairwise_map]
  exact (List.Pairwise.filter _ List.pairwise_lt_range).imp fun h => by omega
theorem sort_rch {g : List Pl} {p : Nat} {fs : List Nat} (hn : fs.Nodup) (hm : ∀ q, q ∈ fs ↔ q < g.length ∧ Rch g p q) : (sortI (fs.map fun q : Nat => (q : Int))).map PyData.int = nD (rchS g p) := by
  have h : (rchS g p).map (fun q : Nat => (q : Int)) = sortI (fs.map fun q : Nat => (q : Int)) := sortI_is (List.Perm.map _ ((List.perm_ext_iff_of_nodup (List.Pairwise.filter _ List.nodup_range) hn).mpr fun q => by rw [hm, ← mem_rch]; rfl)) ((rch_pw g p).imp fun h => Int.le_of_lt h)
  rw [← h]
  unfold nD
  rw [List.map_map]
  rfl
theorem reach_eq {g : List Pl} (hg : Good g) {p : Nat} (hp : p < g.length) (st : Sg) : f_reach [.dat (gD g), .dat (.int (p : Int))] st = some (.dat (.tuple (nD (rchS g p))), st) := by
  have hl := hg.len
  unfold f_reach m_reach
  refine fok_is ?_
  walk_at "vfn"
  walk_at "vc"
  refine wp_while (σ := List Nat × List Nat) (fun s => [.dat (gD g), .no, .dct (dOf trD s.1), .own (nD s.2), .no]) (fun _ => st) (fun s => RchI g p s.1 s.2 ∧ ∀ x ∈ s.1, Rch g p x) (fun s => 2 * (g.length - s.1.length) + s.2.length) ([p], [p]) ⟨⟨by simp, by simpa using hp, fun q hq => hq, by simp, by simp, fun q hq => .inl hq⟩, fun x hx => by rw [List.mem_singleton.mp hx]; exact .z⟩ (by simp; omega) ?_
  rintro ⟨fs, ws⟩ ⟨hI, hR⟩
  have hI : RchI g p fs ws := hI
  have hR : ∀ x ∈ fs, Rch g p x := hR
  have hfl : fs.length ≤ 800 := Nat.le_trans (nodup_len hI.nd hI.lt) hl
  by_cases hw : ws = []
  · subst hw
    walk_at "vc"
    refine ⟨_, keys_dOf trD fs, by rw [List.length_map]; omega, ?_⟩
    rw [sort_rch hI.nd fun q => ⟨fun h => ⟨hI.lt q h, hR q h⟩, fun h => rch_in hI.st (fun x hx => by
      rcases hI.cl x hx with z | z
      · cases z
      · exact z) h.2⟩]
    walk_at "vc"
  · obtain ⟨A, q, rfl⟩ : ∃ A q, ws = A ++ [q] := ⟨ws.dropLast, ws.getLast hw, (List.dropLast_concat_getLast hw).symm⟩
    have hq := hI.lt q (hI.sub q (by simp))
    have hlast := nD_last A q
    have hAl : A.length + 1 ≤ fs.length := by have := hI.ln; simpa using this
    have hne : (!(nD (A ++ [q])).isEmpty) = true := by unfold nD; simp
    have hml : ∀ m ∈ mvs g q, m < g.length := fun m hm => mvs_lt hg hm
    unfold b_reach_2
    walk_at "vc"
    rw [nD_drop]
    refine wp_forI (fun i l g' => ∃ fs' ws', l = [.dat (gD g), .no, .dct (dOf trD fs'), .own (nD ws'), .no] ∧ g' = st ∧ fs'.Nodup ∧ (∀ x ∈ fs', x < g.length) ∧ (∀ x ∈ ws', x ∈ fs') ∧ (∀ x ∈ fs, x ∈ fs') ∧ (∀ x ∈ A, x ∈ ws') ∧ (∀ x ∈ fs', x ∈ ws' ∨ x ∈ fs) ∧ (∀ x ∈ fs', Rch g p x) ∧ (∀ j m, j < i → (mvs g q)[j]? = some m → m ∈ fs') ∧ fs.length ≤ fs'.length ∧ ws'.length + fs.length = A.length + fs'.length) ⟨fs, A, rfl, rfl, hI.nd, hI.lt, fun x hx => hI.sub x (by simp [hx]), fun x hx => hx, fun x hx => hx, fun x hx => .inr hx, hR, fun j m hj => absurd hj (Nat.not_lt_zero _), Nat.le_refl _, rfl⟩ ?_ ?_
    · rintro i d l g' hd ⟨fs', ws', rfl, rfl, a1, a2, a3, a4, a5, a6, b1, a7, a8, a9⟩
      obtain ⟨m, hm, rfl⟩ := nD_at hd
      have hmm := hml m (List.mem_of_getElem? hm)
      have hfl' : fs'.length ≤ 800 := Nat.le_trans (nodup_len a1 a2) hl
      have hwl : ws'.length ≤ 800 := by omega
      have hdl : (dOf trD fs').length < 4000000 := by rw [dOf_len]; omega
      unfold b_reach_1
      walk_at "vc"
      rw [dOf_has]
      by_cases hmf : m ∈ fs'
      · rw [decide_eq_true hmf]
        walk_at "vc"
        refine ⟨fs', ws', rfl, rfl, a1, a2, a3, a4, a5, a6, b1, fun j m' hj hm' => ?_, a8, a9⟩
        by_cases hji : j = i
        · subst hji; rw [hm] at hm'; cases hm'; exact hmf
        · exact a7 j m' (by omega) hm'
      · rw [decide_eq_false hmf]
        walk_at "vc"
        rw [dOf_put (f := trD) hmf (v := .bool true) rfl]
        walk_at "vc"
        refine ⟨fs' ++ [m], ws' ++ [m], by rw [show nD (ws' ++ [m]) = nD ws' ++ [.int (m : Nat)] by unfold nD; rw [List.map_append]; rfl]; rfl, rfl, ?_, ?_, ?_, ?_, ?_, ?_, ?_, ?_, ?_, ?_⟩
        · rw [List.nodup_append]
          exact ⟨a1, by simp, fun x hx y hy z => hmf (by rw [List.mem_singleton] at hy; rw [← hy, ← z]; exact hx)⟩
        · intro x hx; rcases List.mem_append.mp hx with hx | hx
          · exact a2 x hx
          · rw [List.mem_singleton.mp hx]; exact hmm
        · intro x hx; rcases List.mem_append.mp hx with hx | hx
          · exact List.mem_append_left _ (a3 x hx)
          · exact List.mem_append_right _ hx
        · exact fun x hx => List.mem_append_left _ (a4 x hx)
        · exact fun x hx => List.mem_append_left _ (a5 x hx)
        · intro x hx; rcases List.mem_append.mp hx with hx | hx
          · rcases a6 x hx with z | z
            · exact .inl (List.mem_append_left _ z)
            · exact .inr z
          · exact .inl (List.mem_append_right _ hx)
        · intro x hx; rcases List.mem_append.mp hx with hx | hx
          · exact b1 x hx
          · rw [List.mem_singleton.mp hx]; exact .s (hR q (hI.sub q (by simp))) (List.mem_of_getElem? hm)
        · intro j m' hj hm'
          by_cases hji : j = i
          · subst hji; rw [hm] at hm'; cases hm'; simp
          · exact List.mem_append_left _ (a7 j m' (by omega) hm')
        · simp; omega
        · simp; omega
    · rintro l g' ⟨fs', ws', rfl, rfl, a1, a2, a3, a4, a5, a6, b1, a7, a8, a9⟩
      have hfl' : fs'.length ≤ g.length := nodup_len a1 a2
      have a7' : ∀ m ∈ mvs g q, m ∈ fs' := fun m hm => by
        obtain ⟨j, hj⟩ := List.getElem?_of_mem hm
        exact a7 j m (by rw [nD_len]; exact (List.getElem?_eq_some_iff.mp hj).1) hj
      walk_at "vc"
      refine ⟨(fs', ws'), rfl, rfl, ⟨⟨a1, a2, a3, a4 p hI.st, by show ws'.length ≤ fs'.length; omega, fun x hx => ?_⟩, b1⟩, ?_⟩
      · rcases a6 x hx with z | z
        · exact .inl z
        · rcases hI.cl x z with y | y
          · rcases List.mem_append.mp y with y | y
            · exact .inl (a5 x y)
            · rw [List.mem_singleton.mp y]; exact .inr a7'
          · exact .inr fun m hm => a4 m (y m hm)
      · have e : (A ++ [q]).length = A.length + 1 := by simp
        show 2 * (g.length - fs'.length) + ws'.length < 2 * (g.length - fs.length) + (A ++ [q]).length
        omega
end
end
section
local macro_rules | `(tactic| walk_at "kn") => `(tactic| first | with_reducible assumption | rfl)
local macro_rules | `(tactic| walk_at "v") => `(tactic| first | ((with_reducible apply wp_eNget); (exact ⟨_, rfl⟩)) | with_reducible refine wp_eNin ?_ | with_reducible refine wp_eNnot ?_ | with_reducible refine wp_nput ?_ | with_reducible refine wp_lNnew ?_ | with_reducible refine wp_lNone ?_ | with_reducible refine wp_uN ?_ | with_reducible refine wp_eHNget ?_ | with_reducible refine wp_eHNinF ?_ | with_reducible refine wp_eHNinT ?_ | with_reducible refine wp_xHNput ?_ | with_reducible refine wp_xFldN ?_ | ((with_reducible apply ex_keyN); (rfl); (walk_at "kn")) | ((with_reducible apply ex_nput); (rfl); (walk_at "kn"); (walk_at "lt2"); (walk_at "sr")) | ((with_reducible apply ex_dnk); (rfl)))
local macro_rules | `(tactic| walk_at "xx") => `(tactic| first | ((with_reducible apply ex_xtA); (rfl)) | ((with_reducible apply ex_asdA); (rfl)))
local macro_rules | `(tactic| walk_at "v") => `(tactic| first | with_reducible refine wp_retV ?_ | ((with_reducible apply wp_vTupXV); (rfl)) | with_reducible refine wp_vTupX ?_ | ((with_reducible apply wp_vVarX); (rfl)) | ((with_reducible apply wp_vVarD); (rfl)) | with_reducible refine wp_vCall ?_ | with_reducible refine wp_eCallX ?_ | ((with_reducible apply wp_eVarX); (rfl)) | with_reducible refine wp_asgV ?_ | ((with_reducible apply wp_eIndexX); (rfl)))
local macro_rules | `(tactic| walk_at "ha") => `(tactic| with_reducible assumption)
local macro_rules | `(tactic| walk_at "v") => `(tactic| first | ((with_reducible apply wp_eCallF); (rfl)) | with_reducible refine wp_eCallB ?_ | with_reducible refine wp_vDefC ?_ | ((with_reducible apply wp_vLamC); (rfl)) | ((with_reducible apply wp_vFn); (rfl)))
section
section
variable {α : Type} [DecidableEq α]
theorem seenG_mem2 (s xs : List α) (y : α) : y ∈ seenG s xs ↔ y ∈ s ∨ y ∈ xs := seenG_mem s xs y
abbrev ixS (s : List α) (y : α) : Nat := s.idxOf y
structure AllS (R : Rul α) (P : α → Prop) (b : α) (T : List α) : Prop where
  nd : T.Nodup
  ok : ∀ x ∈ T, P x
  hd : T[0]? = some b
  go : ∀ x ∈ T, ∀ y ∈ R.follow x, y ∈ T
  pre : ∀ (j : Nat) (y : α), T[j]? = some y → j ≠ 0 → ∃ (i : Nat) (x : α), i < j ∧ T[i]? = some x ∧ y ∈ R.follow x
theorem rowB_pre {R : Rul α} {s t : List α} {z : α} (h : ∀ y ∈ R.follow z, y ∈ s) : rowB R (s ++ t) z = rowB R s z := by
  unfold rowB
  split
  · rfl
  · refine congrArg (fun l => PyData.tuple [.int (R.side z), .tuple l]) (List.map_congr_left fun y hy => ?_)
    rw [List.idxOf_append, if_pos (h y hy)]
variable {R : Rul α} {P : α → Prop} {U : List α} {b : α}
theorem alls_run (hR : RulOk R P U) : ∀ (n i : Nat) (sts : List α) (rows : List PyData), U.length ≤ n + i → sts.Nodup → (∀ x ∈ sts, P x) → sts[0]? = some b → i ≤ sts.length → rows = (sts.take i).map (rowB R sts) → (∀ x ∈ sts.take i, ∀ y ∈ R.follow x, y ∈ sts) →
    (∀ (j : Nat) (y : α), sts[j]? = some y → j ≠ 0 → ∃ (i : Nat) (x : α), i < j ∧ sts[i]? = some x ∧ y ∈ R.follow x) → ∃ T, AllS R P b T ∧ bfs R n sts rows i = T.map (rowB R T) := by
  intro n
  induction n with
  | zero =>
    intro i sts rows hU nd ok hd hi hr hc hp
    have hl : sts.length ≤ U.length := nd.length_le_of_subset fun x hx => hR.mem x (ok x hx)
    have ht : sts.take i = sts := List.take_of_length_le (by omega)
    rw [ht] at hr hc
    exact ⟨sts, ⟨nd, ok, hd, hc, hp⟩, hr⟩
  | succ n ih =>
    intro i sts rows hU nd ok hd hi hr hc hp
    by_cases hil : i < sts.length
    · have hx : sts[i]? = some sts[i] := List.getElem?_eq_getElem hil
      generalize sts[i] = x at hx
      rw [bfs_step hx]
      obtain ⟨t, e⟩ := seenG_pre (R.follow x) sts
      have hmem := seenG_mem2 sts (R.follow x)
      have hnd := seenG_nd (R.follow x) sts nd
      have hfx : ∀ y ∈ R.follow x, y ∈ seenG sts (R.follow x) := fun y hy => (hmem y).mpr (.inr hy)
      rw [e] at hmem hnd hfx ⊢
      refine ih (i + 1) (sts ++ t) _ (by omega) hnd (fun y hy => ?_) (by rw [List.getElem?_append_left (by omega)]; exact hd) (by rw [List.length_append]; omega) ?_ ?_ ?_
      · rcases (hmem y).mp hy with z | z
        · exact ok y z
        · exact hR.go x (ok x (List.mem_of_getElem? hx)) y z
      · have et : (sts ++ t).take (i + 1) = sts.take i ++ [x] := by
          rw [List.take_append_of_le_length (by omega), List.take_succ, hx]
          rfl
        rw [et, List.map_append, hr]
        congr 1
        exact List.map_congr_left fun z hz => (rowB_pre (hc z hz)).symm
      · have et : (sts ++ t).take (i + 1) = sts.take i ++ [x] := by
          rw [List.take_append_of_le_length (by omega), List.take_succ, hx]
          rfl
        rw [et]
        intro z hz y hy
        rcases List.mem_append.mp hz with z1 | z1
        · exact List.mem_append_left _ (hc z z1 y hy)
        · rw [List.mem_singleton.mp z1] at hy
          exact hfx y hy
      · intro j y hj hj0
        by_cases hjl : j < sts.length
        · rw [List.getElem?_append_left hjl] at hj
          obtain ⟨k, z, h1, h2, h3⟩ := hp j y hj hj0
          exact ⟨k, z, h1, by rw [List.getElem?_append_left (by omega)]; exact h2, h3⟩
        · refine ⟨i, x, by omega, by rw [List.getElem?_append_left hil]; exact hx, ?_⟩
          rw [List.getElem?_append_right (by omega)] at hj
          have hyt : y ∈ t := List.mem_of_getElem? hj
          rcases (hmem y).mp (List.mem_append_right _ hyt) with z | z
          · exact absurd rfl ((List.nodup_append.mp hnd).2.2 y z y hyt)
          · exact z
    · have ht : sts.take i = sts := List.take_of_length_le (by omega)
      rw [ht] at hr hc
      rw [bfs_end (by omega)]
      exact ⟨sts, ⟨nd, ok, hd, hc, hp⟩, hr⟩
theorem alls (hR : RulOk R P U) (hb : P b) : ∃ T, AllS R P b T ∧ bfs R U.length [b] [] 0 = T.map (rowB R T) :=
  alls_run hR U.length 0 [b] [] (by omega) (by simp) (fun x hx => by rw [List.mem_singleton.mp hx]; exact hb) rfl (Nat.zero_le _) rfl (fun x hx => nomatch hx) fun j y hj h0 => by
    cases j with
    | zero => exact absurd rfl h0
    | succ j => simp at hj
def rgP (R : Rul α) (T : List α) (x : α) : Pl := if R.follow x = [] then .fin (R.worth x) else .mv (R.side x) ((R.follow x).map (ixS T))
def rgG (R : Rul α) (T : List α) : List Pl := T.map (rgP R T)
theorem rgP_d (T : List α) (x : α) : (rgP R T x).d = rowB R T x := by
  unfold rgP rowB
  split
  · rfl
  · show PyData.tuple [.int (R.side x), .tuple (nD ((R.follow x).map (ixS T)))] = _
    unfold nD
    rw [List.map_map]
    rfl
theorem rgG_len (T : List α) : (rgG R T).length = T.length := List.length_map _
theorem ixS_at {T : List α} {x : α} (hx : x ∈ T) : T[ixS T x]? = some x := by
  have h := List.idxOf_lt_length_of_mem hx
  show T[T.idxOf x]? = _
  rw [List.getElem?_eq_getElem h, List.getElem_idxOf h]
theorem ixS_of {T : List α} (nd : T.Nodup) {j : Nat} {x : α} (h : T[j]? = some x) : ixS T x = j := by
  obtain ⟨h1, h2⟩ := List.getElem?_eq_some_iff.mp h
  have := nd.idxOf_getElem j h1
  rw [h2] at this
  exact this
theorem rgG_at {T : List α} {x : α} (hx : x ∈ T) : (rgG R T)[ixS T x]? = some (rgP R T x) := by
  unfold rgG
  rw [List.getElem?_map, ixS_at hx]
  rfl
theorem rgG_get {T : List α} {p : Nat} {z : Pl} (h : (rgG R T)[p]? = some z) : ∃ x, T[p]? = some x ∧ z = rgP R T x := by
  unfold rgG at h
  rw [List.getElem?_map] at h
  obtain ⟨x, e, rfl⟩ := Option.map_eq_some_iff.mp h
  exact ⟨x, e, rfl⟩
structure RgOk (R : Rul α) (P : α → Prop) (mu : α → Nat) : Prop where
  worth : ∀ x, P x → R.follow x = [] → -99 ≤ R.worth x ∧ R.worth x ≤ 99
  side : ∀ x, P x → R.side x = 0 ∨ R.side x = 1
  few : ∀ x, P x → (R.follow x).length ≤ 16
  dn : ∀ x, P x → ∀ y ∈ R.follow x, mu y < mu x
  lt : ∀ x, P x → mu x < 39
variable {mu : α → Nat} {T : List α}
theorem rg_good (hR : RulOk R P U) (hG : RgOk R P mu) (hT : AllS R P b T) (hl : T.length ≤ 800) : Good (rgG R T) := by
  refine ⟨fun p z h => ?_, by rw [rgG_len]; exact hl⟩
  obtain ⟨x, hx, rfl⟩ := rgG_get h
  have hxT := List.mem_of_getElem? hx
  have hP := hT.ok x hxT
  rw [rgG_len]
  unfold rgP
  split
  · rename_i he
    exact hG.worth x hP he
  · rename_i he
    refine ⟨hG.side x hP, fun z => he (List.map_eq_nil_iff.mp z), ?_, fun m hm => ?_, by rw [List.length_map]; exact hG.few x hP⟩
    · rw [List.Nodup, List.pairwise_map]
      refine List.Pairwise.imp_of_mem ?_ (hR.nd x hP)
      intro y z hy hz hne e
      have h1 := ixS_at (hT.go x hxT y hy)
      have h2 := ixS_at (hT.go x hxT z hz)
      rw [e, h2] at h1
      exact hne (Option.some.inj h1).symm
    · obtain ⟨y, hy, rfl⟩ := List.mem_map.mp hm
      exact List.idxOf_lt_length_of_mem (hT.go x hxT y hy)
def rkB (mu : α → Nat) (T : List α) (x : α) : Nat := ((List.range (mu x)).filter fun v => T.any fun y => decide (mu y = v)).length
theorem rkB_dn {x y : α} (hy : y ∈ T) (h : mu y < mu x) : rkB mu T y < rkB mu T x := by
  unfold rkB
  have hsub : ∀ a ∈ mu y :: (List.range (mu y)).filter (fun v => T.any fun y => decide (mu y = v)), a ∈ (List.range (mu x)).filter fun v => T.any fun y => decide (mu y = v) := fun a ha => by
    rcases List.mem_cons.mp ha with z | z
    · rw [z]
      exact List.mem_filter.mpr ⟨List.mem_range.mpr h, List.any_eq_true.mpr ⟨y, hy, decide_eq_true rfl⟩⟩
    · obtain ⟨z1, z2⟩ := List.mem_filter.mp z
      exact List.mem_filter.mpr ⟨List.mem_range.mpr (Nat.lt_trans (List.mem_range.mp z1) h), z2⟩
  have hnd : (mu y :: (List.range (mu y)).filter (fun v => T.any fun y => decide (mu y = v))).Nodup := by
    rw [List.nodup_cons]
    exact ⟨fun z => Nat.lt_irrefl _ (List.mem_range.mp (List.mem_filter.mp z).1), List.nodup_range.filter _⟩
  have := hnd.length_le_of_subset hsub
  rw [List.length_cons] at this
  omega
theorem rkB_le (x : α) : rkB mu T x ≤ mu x := by
  unfold rkB
  have := List.length_filter_le (fun v => T.any fun y => decide (mu y = v)) (List.range (mu x))
  rwa [List.length_range] at this
theorem rkB_lt {x : α} (hx : x ∈ T) : rkB mu T x < T.length := by
  unfold rkB
  have hsub : ∀ a ∈ mu x :: (List.range (mu x)).filter (fun v => T.any fun y => decide (mu y = v)), a ∈ T.map mu := fun a ha => by
    rcases List.mem_cons.mp ha with z | z
    · rw [z]; exact List.mem_map.mpr ⟨x, hx, rfl⟩
    · obtain ⟨_, z2⟩ := List.mem_filter.mp z
      obtain ⟨y, hy, e⟩ := List.any_eq_true.mp z2
      exact List.mem_map.mpr ⟨y, hy, of_decide_eq_true e⟩
  have hnd : (mu x :: (List.range (mu x)).filter (fun v => T.any fun y => decide (mu y = v))).Nodup := by
    rw [List.nodup_cons]
    exact ⟨fun z => Nat.lt_irrefl _ (List.mem_range.mp (List.mem_filter.mp z).1), List.nodup_range.filter _⟩
  have := hnd.length_le_of_subset hsub
  rw [List.length_cons, List.length_map] at this
  omega
theorem rg_straight (hG : RgOk R P mu) (hT : AllS R P b T) : Straight (rgG R T) := by
  refine ⟨fun p => match T[p]? with
    | some x => rkB mu T x
    | none => 0, fun p z m h hm => ?_, fun p hp => ?_⟩
  · obtain ⟨x, hx, rfl⟩ := rgG_get h
    have hxT := List.mem_of_getElem? hx
    unfold rgP at hm
    split at hm
    · cases hm
    · obtain ⟨y, hy, rfl⟩ := List.mem_map.mp hm
      have hyT := hT.go x hxT y hy
      dsimp only
      rw [hx, ixS_at hyT]
      exact rkB_dn hyT (hG.dn x (hT.ok x hxT) y hy)
  · rw [rgG_len] at hp ⊢
    have hx : T[p]? = some T[p] := List.getElem?_eq_getElem hp
    have hxT := List.mem_of_getElem? hx
    dsimp only
    rw [hx]
    have h1 := rkB_lt (mu := mu) hxT
    have h2 : rkB mu T T[p] < 39 := Nat.lt_of_le_of_lt (rkB_le _) (hG.lt _ (hT.ok _ hxT))
    first | exact h1 | exact Nat.lt_min.mpr ⟨h1, h2⟩
theorem rg_wor (hG : RgOk R P mu) (hT : AllS R P b T) {V : α → Int} (h0 : ∀ x, P x → R.follow x = [] → V x = R.worth x) (h1 : ∀ x, P x → R.follow x ≠ [] → V x = chI (R.side x) ((R.follow x).map V)) : ∀ x ∈ T, wor (rgG R T) (ixS T x) = V x := by
  obtain ⟨rk, hrk⟩ := (rg_straight hG hT).rk
  have key : ∀ (n : Nat) (x : α), x ∈ T → mu x < n → wor (rgG R T) (ixS T x) = V x := by
    intro n
    induction n with
    | zero => intro x _ h; exact absurd h (Nat.not_lt_zero _)
    | succ n ih =>
      intro x hx hm
      have hP := hT.ok x hx
      have hat := rgG_at (R := R) hx
      by_cases he : R.follow x = []
      · have e : rgP R T x = .fin (R.worth x) := if_pos he
        rw [e] at hat
        rw [wor_fin hrk hat, h0 x hP he]
      · have e : rgP R T x = .mv (R.side x) ((R.follow x).map (ixS T)) := if_neg he
        rw [e] at hat
        rw [wor_mv hrk hat, h1 x hP he, List.map_map]
        refine congrArg (chI (R.side x)) (List.map_congr_left fun y hy => ?_)
        have := hG.dn x hP y hy
        exact ih y (hT.go x hx y hy) (by omega)
  exact fun x hx => key (mu x + 1) x hx (Nat.lt_succ_self _)
end

end
section
section
variable {α : Type} [DecidableEq α] {R : Rul α} {P : α → Prop} {U : List α} {b : α} {mu : α → Nat} {T : List α}
structure WinOk (R : Rul α) (P : α → Prop) (W : α → Bool) : Prop where
  worth : ∀ x, P x → R.follow x = [] → R.worth x = if R.side x = 0 then -1 else 1
  alt : ∀ x, P x → ∀ y ∈ R.follow x, R.side y = 1 - R.side x
  win : ∀ x, P x → W x = (R.follow x).any fun y => !W y
def winV (R : Rul α) (W : α → Bool) (x : α) : Int := if W x = true then 1 - 2 * R.side x else 2 * R.side x - 1
theorem max_one {xs : List Int} (hne : xs ≠ []) (h : ∀ x ∈ xs, x = 1 ∨ x = -1) : maxI xs = if (1 : Int) ∈ xs then 1 else -1 := by
  have hm := maxI_mem hne
  split
  · rename_i h1
    have := maxI_ge h1
    rcases h _ hm with z | z <;> omega
  · rename_i h1
    rcases h _ hm with z | z
    · rw [z] at hm; exact absurd hm h1
    · exact z
theorem min_one {xs : List Int} (hne : xs ≠ []) (h : ∀ x ∈ xs, x = 1 ∨ x = -1) : minI xs = if (-1 : Int) ∈ xs then -1 else 1 := by
  have hm := minI_mem hne
  split
  · rename_i h1
    have := minI_le h1
    rcases h _ hm with z | z <;> omega
  · rename_i h1
    rcases h _ hm with z | z
    · exact z
    · rw [z] at hm; exact absurd hm h1
theorem win_wor (hG : RgOk R P mu) (hT : AllS R P b T) {W : α → Bool} (hW : WinOk R P W) (hgo : ∀ x, P x → ∀ y ∈ R.follow x, P y) : ∀ x ∈ T, wor (rgG R T) (ixS T x) = winV R W x := by
  refine rg_wor hG hT (fun x hP he => ?_) fun x hP he => ?_
  · have h1 := hW.win x hP
    rw [he] at h1
    have h1 : W x = false := h1
    rw [hW.worth x hP he]
    unfold winV
    rw [h1, if_neg Bool.false_ne_true]
    rcases hG.side x hP with z | z <;> rw [z] <;> rfl
  · have h1 := hW.win x hP
    have hne : (R.follow x).map (winV R W) ≠ [] := fun z => he (List.map_eq_nil_iff.mp z)
    have hval : ∀ v ∈ (R.follow x).map (winV R W), v = 1 ∨ v = -1 := fun v hv => by
      obtain ⟨y, hy, rfl⟩ := List.mem_map.mp hv
      unfold winV
      rcases hG.side y (hgo x hP y hy) with z | z <;> rw [z] <;> split <;> simp
    rcases hG.side x hP with z | z
    · have hy1 : ∀ y ∈ R.follow x, winV R W y = if W y = true then -1 else 1 := fun y hy => by
        unfold winV
        rw [hW.alt x hP y hy, z]
        split <;> rfl
      have hchi : chI (R.side x) ((R.follow x).map (winV R W)) = maxI ((R.follow x).map (winV R W)) := by rw [z]; rfl
      rw [hchi, max_one hne hval]
      show (if W x = true then 1 - 2 * R.side x else 2 * R.side x - 1) = _
      rw [z, h1]
      have hiff : ((R.follow x).any fun y => !W y) = true ↔ (1 : Int) ∈ (R.follow x).map (winV R W) := by
        rw [List.any_eq_true, List.mem_map]
        constructor
        · rintro ⟨y, hy, e⟩
          refine ⟨y, hy, ?_⟩
          rw [hy1 y hy, if_neg (by simpa using e)]
        · rintro ⟨y, hy, e⟩
          refine ⟨y, hy, ?_⟩
          rw [hy1 y hy] at e
          split at e
          · cases e
          · rename_i hn; simpa using hn
      by_cases hc : (1 : Int) ∈ (R.follow x).map (winV R W)
      · rw [if_pos hc, if_pos (hiff.mpr hc)]; rfl
      · rw [if_neg hc, if_neg fun q => hc (hiff.mp q)]; rfl
    · have hy1 : ∀ y ∈ R.follow x, winV R W y = if W y = true then 1 else -1 := fun y hy => by
        unfold winV
        rw [hW.alt x hP y hy, z]
        split <;> rfl
      have hchi : chI (R.side x) ((R.follow x).map (winV R W)) = minI ((R.follow x).map (winV R W)) := by rw [z]; rfl
      rw [hchi, min_one hne hval]
      show (if W x = true then 1 - 2 * R.side x else 2 * R.side x - 1) = _
      rw [z, h1]
      have hiff : ((R.follow x).any fun y => !W y) = true ↔ (-1 : Int) ∈ (R.follow x).map (winV R W) := by
        rw [List.any_eq_true, List.mem_map]
        constructor
        · rintro ⟨y, hy, e⟩
          refine ⟨y, hy, ?_⟩
          rw [hy1 y hy, if_neg (by simpa using e)]
        · rintro ⟨y, hy, e⟩
          refine ⟨y, hy, ?_⟩
          rw [hy1 y hy] at e
          split at e
          · cases e
          · rename_i hn; simpa using hn
      by_cases hc : (-1 : Int) ∈ (R.follow x).map (winV R W)
      · rw [if_pos hc, if_pos (hiff.mpr hc)]; rfl
      · rw [if_neg hc, if_neg fun q => hc (hiff.mp q)]; rfl
theorem rg_rch (hT : AllS R P b T) : ∀ q, q < T.length → Rch (rgG R T) 0 q := by
  intro q
  induction q using Nat.strongRecOn with
  | _ q ih =>
    intro hq
    by_cases h0 : q = 0
    · rw [h0]; exact .z
    · have hy : T[q]? = some T[q] := List.getElem?_eq_getElem hq
      obtain ⟨i, x, hi, hx, hf⟩ := hT.pre q _ hy h0
      refine .s (ih i hi (by omega)) ?_
      have hxT := List.mem_of_getElem? hx
      have hix : ixS T x = i := ixS_of hT.nd hx
      have hat := rgG_at (R := R) hxT
      rw [hix] at hat
      rw [mvs_eq hat]
      have e : rgP R T x = .mv (R.side x) ((R.follow x).map (ixS T)) := if_neg fun z => by rw [z] at hf; cases hf
      rw [e]
      exact List.mem_map.mpr ⟨_, hf, ixS_of hT.nd hy⟩
end

end
section
def wonL (ts : List Nat) : Nat → List Bool
  | 0 => []
  | n + 1 => wonL ts n ++ [ts.any fun m => decide (m ≤ n) && !(wonL ts n).getD (n - m) false]
theorem wonL_len (ts : List Nat) : ∀ n, (wonL ts n).length = n
  | 0 => rfl
  | n + 1 => by rw [wonL, List.length_append, wonL_len ts n]; rfl
def tkW (ts : List Nat) (c : Nat) : Bool := (wonL ts (c + 1)).getD c false
theorem wonL_at (ts : List Nat) : ∀ {n i : Nat}, i < n → (wonL ts n).getD i false = tkW ts i
  | 0, i, h => absurd h (Nat.not_lt_zero _)
  | n + 1, i, h => by
    by_cases e : i = n
    · subst e; rfl
    · rw [← wonL_at ts (show i < n by omega), wonL, List.getD_eq_getElem?_getD, List.getD_eq_getElem?_getD, List.getElem?_append_left (by rw [wonL_len]; omega)]
theorem any_mem35 {α : Type} {f h : α → Bool} : ∀ {xs : List α}, (∀ x ∈ xs, f x = h x) → xs.any f = xs.any h
  | [], _ => rfl
  | x :: r, q => by rw [List.any_cons, List.any_cons, q x List.mem_cons_self, any_mem35 fun y hy => q y (List.mem_cons_of_mem _ hy)]
theorem tkW_eq {ts : List Nat} (h1 : ∀ m ∈ ts, 1 ≤ m) (c : Nat) : tkW ts c = ts.any fun m => decide (m ≤ c) && !tkW ts (c - m) := by
  unfold tkW
  rw [wonL, List.getD_eq_getElem?_getD, List.getElem?_append_right (by rw [wonL_len]; exact Nat.le_refl _), wonL_len, Nat.sub_self]
  show ts.any _ = _
  refine any_mem35 fun m hm => ?_
  have := h1 m hm
  by_cases hc : m ≤ c
  · rw [wonL_at ts (show c - m < c by omega)]
    rfl
  · rw [decide_eq_false hc]; rfl
theorem tk_win {ts : List Nat} {c : Nat} (h1 : ∀ m ∈ ts, 1 ≤ m) : WinOk (tkR ts) (TkP c) fun x => tkW ts x.1 where
  worth x hx _ := by
    obtain ⟨a, s⟩ := x
    show (if s = 0 then (-1 : Int) else 1) = if ((s : Nat) : Int) = 0 then -1 else 1
    by_cases h : s = 0
    · rw [if_pos h, if_pos (by omega)]
    · rw [if_neg h, if_neg (by omega)]
  alt x hx y hy := by
    obtain ⟨m, _, rfl⟩ := List.mem_map.mp hy
    have := hx.2
    show ((1 - x.2 : Nat) : Int) = 1 - (x.2 : Nat)
    omega
  win x hx := by
    show tkW ts x.1 = ((ts.filter fun m => decide (m ≤ x.1)).map fun m => (x.1 - m, 1 - x.2)).any fun y => !tkW ts y.1
    rw [tkW_eq h1, List.any_map, List.any_filter]
    rfl
theorem tk_rg {ts : List Nat} {c : Nat} (h1 : ∀ m ∈ ts, 1 ≤ m) (hl : ts.length ≤ 16) (hc : c ≤ 20) : RgOk (tkR ts) (TkP c) fun x => x.1 where
  worth x _ _ := by
    show -99 ≤ (if x.2 = 0 then (-1 : Int) else 1) ∧ (if x.2 = 0 then (-1 : Int) else 1) ≤ 99
    split <;> omega
  side x hx := by
    have := hx.2
    show ((x.2 : Nat) : Int) = 0 ∨ ((x.2 : Nat) : Int) = 1
    omega
  few x _ := by
    show ((ts.filter fun m => decide (m ≤ x.1)).map fun m => (x.1 - m, 1 - x.2)).length ≤ _
    rw [List.length_map]
    exact Nat.le_trans (List.length_filter_le _ _) hl
  dn x _ y hy := by
    obtain ⟨m, hm, rfl⟩ := List.mem_map.mp hy
    obtain ⟨hm, hc⟩ := List.mem_filter.mp hm
    have := h1 m hm
    have := of_decide_eq_true hc
    show x.1 - m < x.1
    omega
  lt x hx := by have := hx.1; omega
def bitI (p v : Int) : Bool := decide (v / p - v / (2 * p) * 2 = 1)
def onesI (ps : List Int) (p : Int) : Nat := (ps.filter (bitI p)).length
def nimI (ps : List Int) : Int := ([1, 2, 4, 8] : List Int).foldl (fun t p => t + p * ((onesI ps p : Int) - (onesI ps p : Int) / 2 * 2)) 0
theorem ones_perm {xs ys : List Int} (h : xs.Perm ys) (p : Int) : onesI xs p = onesI ys p := (h.filter _).length_eq
theorem nim_of {xs ys : List Int} (h : ∀ p, onesI xs p = onesI ys p) : nimI xs = nimI ys := by
  unfold nimI
  congr 1
  funext t p
  rw [h]
theorem ones_pos {xs : List Int} (h : ∀ i ∈ xs, 0 ≤ i) (p : Int) : onesI (xs.filter fun i => decide (i > 0)) p = onesI xs p := by
  unfold onesI
  rw [List.filter_filter]
  congr 1
  refine List.filter_congr fun i hi => ?_
  by_cases e : i > 0
  · rw [decide_eq_true e, Bool.and_true]
  · have : i = 0 := by have := h i hi; omega
    subst this
    unfold bitI
    simp
theorem nim_sort {xs : List Int} (h : ∀ i ∈ xs, 0 ≤ i) : nimI (sortI (xs.filter fun i => decide (i > 0))) = nimI xs := nim_of fun p => by
  rw [ones_perm (sortI_perm _) p, ones_pos h]
theorem nim_twice {xs : List Int} : nimI (xs ++ xs) = 0 := by
  have e : ∀ p, ((onesI (xs ++ xs) p : Int) - (onesI (xs ++ xs) p : Int) / 2 * 2) = 0 := fun p => by
    have : onesI (xs ++ xs) p = onesI xs p + onesI xs p := by unfold onesI; rw [List.filter_append, List.length_append]
    omega
  unfold nimI
  simp only [List.foldl_cons, List.foldl_nil, e]
  rfl
def hpHs : List (List Int) := (List.range 5).flatMap hpLs
theorem hp_mem {x : HS} (hx : HpP x) : x.1 ∈ hpHs := List.mem_flatMap.mpr ⟨x.1.length, List.mem_range.mpr (by have := hx.len; omega), hpLs_mem hx.rng⟩
def sumI (h : List Int) : Nat := (h.map Int.toNat).sum
theorem nim_all : (hpHs.all fun h => decide (nimI h ≠ 0) == ((List.range h.length).any fun a => (List.range ((h[a]?.getD 0).toNat)).any fun l => decide (nimI (h.set a (l : Nat)) = 0))) = true := by decide +kernel
theorem sum_all : (hpHs.all fun h => decide (sumI h ≤ 16) && ((List.range h.length).all fun a => (List.range ((h[a]?.getD 0).toNat)).all fun l => decide (sumI (h.set a (l : Nat)) < sumI h))) = true := by decide +kernel
theorem sum_perm {xs ys : List Int} (h : xs.Perm ys) : sumI xs = sumI ys := (h.map _).sum_nat
theorem sum_pos : ∀ xs : List Int, sumI (xs.filter fun i => decide (i > 0)) = sumI xs
  | [] => rfl
  | i :: r => by
    rw [List.filter_cons]
    by_cases e : i > 0
    · rw [decide_eq_true e, if_pos rfl]
      show i.toNat + sumI (r.filter fun i => decide (i > 0)) = i.toNat + sumI r
      rw [sum_pos r]
    · rw [decide_eq_false e, if_neg Bool.false_ne_true, sum_pos r]
      show _ = i.toNat + sumI r
      omega
theorem hp_go {x : HS} {y : HS} : y ∈ hpR.follow x ↔ ∃ a l, a < x.1.length ∧ l < (x.1[a]?.getD 0).toNat ∧ y = hpN x a l := by
  constructor
  · intro hy
    exact hpL_mem (seen_mem.mp ((hpF_perm x).mem_iff.mp hy))
  · rintro ⟨a, l, ha, hl, rfl⟩
    refine (hpF_perm x).mem_iff.mpr (seen_mem.mpr ?_)
    exact List.mem_flatMap.mpr ⟨a, List.mem_range.mpr ha, List.mem_map.mpr ⟨l, List.mem_range.mpr hl, rfl⟩⟩
theorem hp_rg : RgOk hpR HpP fun x => sumI x.1 where
  worth x _ _ := by
    show -99 ≤ lostI (x.2 : Nat) ∧ lostI (x.2 : Nat) ≤ 99
    unfold lostI
    split <;> omega
  side x hx := by
    have := hx.sd
    show ((x.2 : Nat) : Int) = 0 ∨ ((x.2 : Nat) : Int) = 1
    omega
  few x hx := by
    show (hpF x).length ≤ _
    rw [(hpF_perm x).length_eq]
    exact Nat.le_trans (hp_len hx) (by decide)
  dn x hx y hy := by
    obtain ⟨a, l, ha, hl, rfl⟩ := hp_go.mp hy
    show sumI (sortI _) < sumI x.1
    rw [sum_perm (sortI_perm _), sum_pos]
    have h := List.all_eq_true.mp sum_all x.1 (hp_mem hx)
    rw [Bool.and_eq_true] at h
    exact of_decide_eq_true (List.all_eq_true.mp (List.all_eq_true.mp h.2 a (List.mem_range.mpr ha)) l (List.mem_range.mpr hl))
  lt x hx := by
    have h := List.all_eq_true.mp sum_all x.1 (hp_mem hx)
    rw [Bool.and_eq_true] at h
    have := of_decide_eq_true h.1
    omega
theorem hpN_nn {x : HS} (hx : HpP x) {a l : Nat} : ∀ i ∈ x.1.set a (l : Int), 0 ≤ i := fun i hi => by
  rcases mem_set33 hi with z | z
  · have := hx.rng i z; omega
  · omega
theorem hp_win : WinOk hpR HpP fun x => decide (nimI x.1 ≠ 0) where
  worth x _ _ := rfl
  alt x hx y hy := by
    obtain ⟨a, l, ha, hl, rfl⟩ := hp_go.mp hy
    have := hx.sd
    show ((1 - x.2 : Nat) : Int) = 1 - (x.2 : Nat)
    omega
  win x hx := by
    have h := List.all_eq_true.mp nim_all x.1 (hp_mem hx)
    rw [beq_iff_eq] at h
    rw [h]
    apply Bool.eq_iff_iff.mpr
    rw [List.any_eq_true, List.any_eq_true]
    constructor
    · rintro ⟨a, ha, h2⟩
      obtain ⟨l, hl, h3⟩ := List.any_eq_true.mp h2
      refine ⟨hpN x a l, hp_go.mpr ⟨a, l, List.mem_range.mp ha, List.mem_range.mp hl, rfl⟩, ?_⟩
      have e : nimI (hpN x a l).1 = nimI (x.1.set a (l : Int)) := nim_sort (hpN_nn hx)
      rw [e, of_decide_eq_true h3]
      rfl
    · rintro ⟨y, hy, h3⟩
      obtain ⟨a, l, ha, hl, rfl⟩ := hp_go.mp hy
      have e : nimI (hpN x a l).1 = nimI (x.1.set a (l : Int)) := nim_sort (hpN_nn hx)
      rw [e] at h3
      refine ⟨a, List.mem_range.mpr ha, List.any_eq_true.mpr ⟨l, List.mem_range.mpr hl, decide_eq_true ?_⟩⟩
      by_cases z : nimI (x.1.set a (l : Int)) = 0
      · exact z
      · rw [decide_eq_true z] at h3; cases h3

end
section
local macro_rules | `(tactic| walk_at "cq") => `(tactic| with_reducible assumption)
local macro_rules | `(tactic| walk_at "le") => `(tactic| first | omega | (simp only [List.length_cons, List.length_nil, List.length_append, List.length_map, List.length_set, List.length_range, nD_len]; omega) | decide)
local macro_rules | `(tactic| walk_at "sr") => `(tactic| ((repeat (with_reducible apply SetR.s)); with_reducible exact SetR.z))
local macro_rules | `(tactic| walk_at "ha") => `(tactic| first | walk_at "op" | with_reducible exact truO_b | with_reducible exact truO_l | with_reducible exact truO_t | with_reducible exact truO_n | with_reducible exact truO_i | walk_at "at" | walk_at "bi" | walk_at "dg" | with_reducible rfl | rfl)
local macro_rules | `(tactic| walk_at "v") => `(tactic| first | with_reducible refine wp_parLD ?_ | with_reducible refine wp_parLL ?_ | with_reducible refine wp_par3 ?_ | with_reducible refine wp_parCL ?_ | with_reducible refine wp_lDone ?_ | ((with_reducible apply wp_lSortK); (rfl)) | with_reducible refine wp_eIndex ?_ | ((with_reducible apply wp_eIndexV); (rfl)) | with_reducible refine wp_eInDV ?_ | with_reducible refine wp_dput ?_ | ((with_reducible apply wp_dpop); (exact ⟨_, rfl⟩)) | with_reducible refine wp_tup2 ?_ | with_reducible refine wp_tup3 ?_ | with_reducible refine wp_tup4 ?_ | with_reducible refine wp_uNil ?_ | with_reducible refine wp_uD ?_ | with_reducible refine wp_uL ?_ | with_reducible refine wp_uC ?_ | with_reducible refine wp_vLam ?_ | ((with_reducible apply wp_vFn); (rfl)) | ((with_reducible apply wp_eCallF); (rfl)) | ((with_reducible apply wp_retD); (rfl)) | with_reducible refine wp_callDg ?_ | with_reducible refine wp_sortBy ?_ | ((with_reducible apply ex_one); (rfl)) | with_reducible refine wp_eChain ?_ | ((with_reducible refine wp_bAnd ?_); (repeat walk_at "v"); walk_at "br") | ((with_reducible refine wp_bOr ?_); (repeat walk_at "v"); walk_at "br") | ((with_reducible refine wp_eAnd ?_); (repeat walk_at "v"); walk_at "br") | ((with_reducible refine wp_eOr ?_); (repeat walk_at "v"); walk_at "br") | with_reducible refine wp_bAndB ?_ | with_reducible refine wp_bOrB ?_ | with_reducible refine wp_eAndB ?_ | with_reducible refine wp_eOrB ?_ | walk_at "xx")
local macro_rules | `(tactic| walk_at "v") => `(tactic| first | with_reducible refine wp_eCallD ?_ | with_reducible refine wp_lList ?_ | with_reducible refine wp_lListRg ?_ | with_reducible refine wp_lListRg2 ?_ | with_reducible refine wp_iEn ?_ | with_reducible refine wp_iEnA ?_ | with_reducible refine wp_kSet ?_ | with_reducible refine wp_kSc ?_ | with_reducible refine wp_sortS ?_ | with_reducible refine wp_lenS ?_ | with_reducible refine wp_lRev ?_ | with_reducible refine wp_lRep ?_ | ((with_reducible apply wp_lListV); (rfl)) | ((with_reducible apply wp_lKeys); (rfl)) | ((with_reducible apply wp_lVals); (rfl)) | with_reducible refine wp_vNewD ?_ | with_reducible refine wp_eMinDef ?_ | with_reducible refine wp_lLc ?_ | with_reducible refine wp_bYes ?_ | ((with_reducible apply wp_bTruV); (rfl)) | ((with_reducible apply wp_bTruD); (rfl)) | with_reducible refine wp_bIf ?_ | with_reducible refine wp_lDnew ?_ | with_reducible refine wp_lDc ?_ | with_reducible refine wp_asgC ?_ | with_reducible refine wp_newL ?_ | with_reducible refine wp_retN ?_ | with_reducible refine wp_drop ?_ | ((with_reducible apply wp_app); (exact ⟨_, rfl⟩)) | with_reducible refine wp_setI ?_ | ((with_reducible apply wp_aug); (rfl)) | ((with_reducible apply wp_frzO); (rfl); (walk_at "sr")) | ((with_reducible apply wp_frzD); (rfl)) | with_reducible refine wp_par ?_ | with_reducible refine wp_parDL ?_)
local macro_rules | `(tactic| walk_at "v") => `(tactic| first | with_reducible refine wp_iSq ?_ | with_reducible refine wp_iRg1 ?_ | with_reducible refine wp_iRg2 ?_ | with_reducible refine wp_keep ?_ | with_reducible refine wp_pre ?_ | with_reducible refine wp_next ?_ | with_reducible refine wp_break ?_ | with_reducible refine wp_cont ?_ | with_reducible refine bodyK_nx ?_ | with_reducible refine bodyK_ct ?_ | with_reducible refine bodyK_bk ?_ | with_reducible refine bodyK_ret ?_ | with_reducible refine seqK_bk ?_ | with_reducible refine seqK_ct ?_ | with_reducible refine retK_nx ?_ | with_reducible refine wp_forNil ?_ | with_reducible refine wp_eIsN ?_ | with_reducible refine wp_eNotN ?_ | with_reducible refine wp_eNot ?_ | ((with_reducible apply wp_eIxV); (rfl)) | ((with_reducible apply wp_eLenV); (rfl)) | ((with_reducible apply wp_eTupleV); (rfl)) | ((with_reducible apply wp_eSlV); (rfl)) | with_reducible refine wp_eSl ?_ | with_reducible refine wp_oNone ?_ | with_reducible refine wp_oSome ?_ | with_reducible refine wp_eInV ?_ | ((with_reducible apply wp_ePopO); (rfl); (walk_at "gt"); (walk_at "sr")) | ((with_reducible apply wp_eDget); (exact ⟨_, rfl⟩)) | ((with_reducible apply wp_eDget2); (exact ⟨_, rfl⟩)) | with_reducible refine wp_eDin ?_ | with_reducible refine wp_eDnot ?_ | ((with_reducible apply wp_eLenD); (rfl)) | with_reducible refine wp_eIsi ?_ | with_reducible refine wp_eCallK ?_)
local macro_rules | `(tactic| walk_at "v") => `(tactic| first | with_reducible refine wp_seq ?_ | ((with_reducible apply wp_eVar); (rfl)) | with_reducible refine wp_eC ?_ | with_reducible refine wp_eOp ?_ | with_reducible refine has_some ?_ | ((with_reducible apply hasG_nm); (walk_at "sr")) | ((with_reducible apply hasG_tp); (rfl); (rfl)) | with_reducible refine hasG_cons ?_ | with_reducible refine hasG_nil ?_ | ((with_reducible apply has_of); (walk_at "ha")) | with_reducible refine wp_eCall ?_ | with_reducible refine wp_vE ?_ | ((with_reducible apply wp_vR); (rfl)) | with_reducible refine wp_vNil ?_ | ((with_reducible apply fok_eq); (walk_at "cq")) | with_reducible refine wp_asg ?_ | with_reducible refine wp_asgG ?_ | with_reducible refine wp_asgL ?_ | with_reducible refine wp_if ?_ | with_reducible refine wp_ret ?_ | with_reducible refine seqK_ret ?_ | with_reducible refine retK_ret ?_ | with_reducible refine wp_bTest ?_ | with_reducible refine wp_bTru ?_ | with_reducible refine wp_bNot ?_ | with_reducible refine wp_eCB ?_ | with_reducible refine wp_aCons ?_ | with_reducible refine wp_aNil ?_ | with_reducible refine wp_eUn ?_ | with_reducible refine wp_eTup ?_ | with_reducible refine wp_eL ?_ | with_reducible refine wp_lLst ?_ | with_reducible refine wp_eIf ?_ | with_reducible refine wp_for ?_ | with_reducible refine wp_iWipe ?_)
local macro_rules | `(tactic| walk_at "nk") => `(tactic| ((repeat walk_at "v"); first | exact ⟨rfl, rfl, rfl⟩ | exact ⟨rfl, rfl, by walk_at "op"⟩))
local macro_rules | `(tactic| walk_at "lt2") => `(tactic| first | omega | exact ⟨by omega, by omega⟩ | (simp only [List.length_cons, List.length_nil, List.length_append, List.length_map, List.length_set, nD_len]; omega))
local macro_rules | `(tactic| walk_at "ky") => `(tactic| first | with_reducible exact keyO_i | with_reducible exact keyO_s | rfl)
local macro_rules | `(tactic| walk_at "xx") => `(tactic| first | with_reducible refine ex_zipT ?_ | with_reducible refine ex_zipL ?_ | ((with_reducible apply ex_chain); (walk_at "op"); (intro _; walk_at "nk")) | ((with_reducible apply ex_and2); (intro _; walk_at "nk")) | ((with_reducible apply ex_and1); (intro _; walk_at "nk")) | ((with_reducible apply ex_ls); (rfl)))
local macro_rules | `(tactic| walk_at "xx") => `(tactic| first | ((with_reducible apply ex_dput); (rfl); (walk_at "ky"); (walk_at "lt2"); (walk_at "sr")) | ((with_reducible apply ex_dpop); (rfl); (walk_at "ky"); (walk_at "gt"); (walk_at "sr")) | ((with_reducible apply ex_par); (walk_at "sr"); (walk_at "sr")) | ((with_reducible apply ex_par3); (walk_at "sr"); (walk_at "sr"); (walk_at "sr")) | ((with_reducible apply ex_tup2); (walk_at "sr"); (walk_at "sr")) | ((with_reducible apply ex_tup3); (walk_at "sr"); (walk_at "sr"); (walk_at "sr")) | ((with_reducible apply ex_tup4); (walk_at "sr"); (walk_at "sr"); (walk_at "sr"); (walk_at "sr")) | ((with_reducible apply ex_kit); (walk_at "ki")))
local macro_rules | `(tactic| walk_at "xx") => `(tactic| first | ((with_reducible apply and_le); (walk_at "le")) | ((with_reducible apply and_bk); (rfl)) | ((with_reducible apply ex_ix); (rfl)) | ((with_reducible apply ex_key); (rfl); (walk_at "ky")) | ((with_reducible apply ex_app); (rfl); (walk_at "le"); (walk_at "sr")) | ((with_reducible apply ex_own); (rfl)) | ((with_reducible apply ex_dct); (rfl)) | ((with_reducible apply ex_setI); (rfl); (walk_at "lt2"); (walk_at "sr")))
local macro_rules | `(tactic| walk_at "xx") => `(tactic| first | ((with_reducible apply ex_set); (walk_at "sr")) | with_reducible refine ex_bool ?_ | with_reducible refine ex_dat ?_ | ((with_reducible apply ex_rng); omega) | ((with_reducible apply ex_rep); omega; (walk_at "le")) | ((with_reducible apply ex_rng2); omega; omega) | with_reducible refine ex_int ?_ | with_reducible refine ex_list ?_)
local macro_rules | `(tactic| walk_at "br") => `(tactic| first | ((with_reducible apply br_T); (walk_at "tr")) | ((with_reducible apply br_F); (walk_at "tr")))
local macro_rules | `(tactic| walk_at "vfn") => `(tactic| refine fok_fn (by (simp only [List.length_cons, List.length_nil, Nat.reduceAdd, Nat.reduceSub, List.replicate_succ, List.replicate_zero, List.cons_append, List.nil_append]; try rfl)) ?_)
local macro_rules | `(tactic| walk_at "vc") => `(tactic| repeat (first | walk_at "v" | with_reducible refine seqK_nx ?_ | walk_at "br" | with_reducible exact ⟨rfl, rfl, rfl⟩ | with_reducible exact ⟨rfl, rfl⟩))
local macro_rules | `(tactic| walk_at "wi") => `(tactic| (simp only [wipeV, List.set_cons_succ, List.set_cons_zero]; try rfl))
local macro_rules | `(tactic| walk_at "vs") => `(tactic| ((try with_reducible refine wp_seq ?_); (repeat (first | walk_at "v" | walk_at "br")); (try with_reducible refine seqK_nx ?_)))

local macro_rules | `(tactic| walk_at "bi") => `(tactic| with_reducible rfl)
local macro_rules | `(tactic| walk_at "cq") => `(tactic| ((with_reducible apply turned_eq); omega))
local macro_rules | `(tactic| walk_at "xx") => `(tactic| with_reducible refine wp_iZpT ?_)
local macro_rules | `(tactic| walk_at "v") => `(tactic| with_reducible refine wp_eRevT ?_)
local macro_rules | `(tactic| walk_at "cq") => `(tactic| ((with_reducible apply l_moves_eq); first | omega | assumption))
local macro_rules | `(tactic| walk_at "cq") => `(tactic| ((with_reducible apply l_worth_eq) <;> assumption))
section
local macro_rules | `(tactic| walk_at "v") => `(tactic| first | with_reducible refine wp_eTupRg ?_ | with_reducible refine wp_tup2 ?_ | ((with_reducible apply wp_eIxV); (rfl)))
open Classical in
theorem rch_all {g : List Pl} (h : ∀ q, q < g.length → Rch g 0 q) : rchS g 0 = List.range g.length := by
  unfold rchS
  exact List.filter_eq_self.mpr fun q hq => decide_eq_true (h q (List.mem_range.mp hq))
structure AltG (g : List Pl) (w : Bool) : Prop where
  good : Good g
  strt : Straight g
  few : 0 < g.length
  len : g.length ≤ 800
  rch : ∀ q, q < g.length → Rch g 0 q
  own : wor g 0 = if w = true then 1 else -1
  one : ∀ q, q < g.length → wor g q = 1 ∨ wor g q = -1
  alt : ∀ (p : Nat) (s : Int) (ms : List Nat), g[p]? = some (.mv s ms) → ∀ m ∈ ms, ∀ x, g[m]? = some x → x.side ≠ .int s
noncomputable def b_l_game_holds_1 (F_worths F_reach F_order_of F_is_game F_paper_for F_paper_against F_best_moves : FS) : X :=
  (xSeq (xIf (bAnd (bTest (eOp neD (eVar 4) (eC (.str "end")))) (bTest (eOp eqD (eOp ixD (eVar 2) (eVar 3)) (eOp subD (eC (.int 1)) (eOp mulD (eC (.int 2)) (eVar 4))))))
      (xIf (bTest (eOp neD (eOp ixD (eVar 2) (eOp ixD (eCall F_best_moves (vCons (vE (eVar 0)) (vCons (vE (eVar 3)) vNil))) (eC (.int 0)))) (eOp ixD (eVar 2) (eVar 3))))
        (xRet (eC (.bool false)))
        xNext)
      xNext)
    (xIf (bAnd (bTest (eOp neD (eVar 4) (eC (.str "end")))) (bTru (eL (lLc [6] (iSq (eVar 5)) (gNm 6) (bTest (eOp eqD (eOp ixD (eOp ixD (eVar 0) (eVar 6)) (eC (.int 0))) (eVar 4))) (eVar 6)))))
      (xRet (eC (.bool false)))
      xNext))
noncomputable def m_l_game_holds (F_worths F_reach F_order_of F_is_game F_paper_for F_paper_against F_best_moves : FS) : X :=
  (xSeq (xAsg 2 (eCall F_worths (vCons (vE (eVar 0)) vNil)))
  (xSeq (xIf (bOr (bTest (eOp notBD (eCall F_is_game (vCons (vE (eVar 0)) vNil)) (eC (.bool true)))) (bOr (bTest (eIsN (eCall F_order_of (vCons (vE (eVar 0)) vNil)))) (bTest (eOp neD (eCall F_reach (vCons (vE (eVar 0)) (vCons (vE (eC (.int 0))) vNil))) (eTupRg (eCB lenD (aCons (eVar 0) aNil)))))))
    (xRet (eC (.bool false)))
    xNext)
  (xSeq (xIf (bOr (bTest (eOp neD (eOp ixD (eVar 2) (eC (.int 0))) (eIf (bTru (eVar 1)) (eC (.int 1)) (eUn negD (eC (.int 1)))))) (bTest (eOp eqD (eIsN (eCall F_paper_for (vCons (vE (eVar 0)) (vCons (vE (eC (.int 0))) (vCons (vE (eC (.int 1))) vNil))))) (eIsN (eCall F_paper_against (vCons (vE (eVar 0)) (vCons (vE (eC (.int 0))) (vCons (vE (eC (.int 1))) vNil))))))))
    (xRet (eC (.bool false)))
    xNext)
  (xSeq (xFor (iWipe [1, 3, 4, 5, 6, 7] (iEnA (eVar 0))) (gTp 2 (gsCons (gNm 3) (gsCons (gTp 2 (gsCons (gNm 4) (gsCons (gNm 5) gsNil))) gsNil)))
    (xKeep [1, 3, 4, 5, 6, 7] (b_l_game_holds_1 F_worths F_reach F_order_of F_is_game F_paper_for F_paper_against F_best_moves)))
  (xRet (eOp eqD (eL (lLc [7] (iSq (eVar 2)) (gNm 7) (bTest (eOp (inFD true) (eVar 7) (eTup (aCons (eUn negD (eC (.int 1))) (aCons (eC (.int 1)) aNil))))) (eVar 7))) (eL (lLst aNil))))))))
noncomputable def f_l_game_holds : FS := fnS 8 (m_l_game_holds f_worths f_reach f_order_of f_is_game f_paper_for f_paper_against f_best_moves)

theorem side_eq {s : Int} {x : Pl} (h : x.side ≠ .int s) : eqD x.side (.int s) = some (.bool false) := by
  cases x with
  | fin w => exact eqD_si
  | mv t ms =>
    have h2 : t ≠ s := fun z => h (by rw [z]; rfl)
    show eqD (.int t) (.int s) = _
    rw [eqD_ii, decide_eq_false h2]
theorem best_head {g : List Pl} (hg : Good g) (hst : Straight g) {p : Nat} {s : Int} {ms : List Nat} (hx : g[p]? = some (.mv s ms)) : ∃ m r, bestP g p = m :: r ∧ m < g.length ∧ wor g m = wor g p := by
  obtain ⟨rk, hr⟩ := hst.rk
  have h1 : mvs g p = ms := mvs_eq hx
  have h2 := best_ne hg hr (p := p) (by rw [h1]; exact (hg.ok p _ hx).2.1)
  cases e : bestP g p with
  | nil => exact absurd e h2
  | cons m r =>
    obtain ⟨h3, h4⟩ := best_sub (g := g) (p := p) (m := m) (by rw [e]; exact List.mem_cons_self)
    exact ⟨m, r, rfl, mvs_lt hg h3, h4⟩
set_option maxHeartbeats 2000000 in
theorem hloop_ok {g : List Pl} {w : Bool} (h : AltG g w) {st : Sg} {Q : Out → Lo → Sg → Prop} (q : Q .nx [.dat (gD g), .no, .dat (.tuple (worsD g)), .no, .no, .no, .no, .no] st) : Wp (xForL (gTp 2 (gsCons (gNm 3) (gsCons (gTp 2 (gsCons (gNm 4) (gsCons (gNm 5) gsNil))) gsNil))) (xKeep [1, 3, 4, 5, 6, 7] (b_l_game_holds_1 f_worths f_reach f_order_of f_is_game f_paper_for f_paper_against f_best_moves)) (enumD (g.map Pl.d))) [.dat (gD g), .no, .dat (.tuple (worsD g)), .no, .no, .no, .no, .no] st Q := by
  have hg := h.good
  have hst := h.strt
  refine wp_forI (fun i l g' => l = [.dat (gD g), .no, .dat (.tuple (worsD g)), .no, .no, .no, .no, .no] ∧ g' = st) ⟨rfl, rfl⟩ ?_ ?_
  · rintro i d l g' hd ⟨rfl, rfl⟩
    obtain ⟨x, hx, rfl⟩ := enumG_at hd
    have hi : i < g.length := (List.getElem?_eq_some_iff.mp hx).1
    have hw := wors_ix hi
    cases x with
    | fin v =>
      unfold b_l_game_holds_1
      show Has (gTp _ _ (.tuple [.int (i : Nat), .tuple [.str "end", .int v]]) _) _
      walk_at "vc"
    | mv s ms =>
      have hok := hg.ok i _ hx
      obtain ⟨m, r, e1, e2, e3⟩ := best_head hg hst hx
      have hb := best_moves_eq hg hst g' hi
      have hb0 : ixD (.tuple (nD (bestP g i))) (.int 0) = some (.int (m : Nat)) := by rw [e1]; exact ixD_t0 rfl
      have hwm := wors_ix e2
      rw [e3] at hwm
      have hml := hok.2.2.2.2
      unfold b_l_game_holds_1
      show Has (gTp _ _ (.tuple [.int (i : Nat), .tuple [.int s, .tuple (nD ms)]]) _) _
      have fin2 : ∀ {Q2 : List PyData → Lo → Sg → Prop}, Q2 [] [.dat (gD g), .no, .dat (.tuple (worsD g)), .dat (.int (i : Nat)), .dat (.int s), .dat (.tuple (nD ms)), .no, .no] g' → LcW [6] (gNm 6) (bTest (eOp eqD (eOp ixD (eOp ixD (eVar 0) (eVar 6)) (eC (.int 0))) (eVar 4))) (eVar 6) (nD ms) [.dat (gD g), .no, .dat (.tuple (worsD g)), .dat (.int (i : Nat)), .dat (.int s), .dat (.tuple (nD ms)), .no, .no] g' Q2 := fun {Q2} q2 => by
        refine lcw_pure (xs := ms) (fun m => .int (m : Nat)) (fun _ => false) (fun m => .int (m : Nat)) (by rfl) (by rfl) (by omega) (by walk_at "wi") (fun k hk => ?_) ?_
        · have hkl := hok.2.2.2.1 k hk
          have hgk : g[k]? = some g[k] := List.getElem?_eq_getElem hkl
          generalize g[k] = y at hgk
          have hgx := ixD_g hgk
          have hy0 : ixD y.d (.int 0) = some y.side := by rw [Pl.d_eq]; rfl
          have hys := side_eq (h.alt i s ms hx k hk y hgk)
          walk_at "vc"
          exact ⟨⟨rfl, rfl, rfl⟩, fun z => nomatch z⟩
        · rw [List.filter_eq_nil_iff.mpr fun _ _ z => by cases z]
          exact q2
      walk_at "vc"
      by_cases hz : wor g i = 1 - 2 * s
      · rw [decide_eq_true hz]
        walk_at "vc"
        refine fin2 ?_
        walk_at "vc"
      · rw [decide_eq_false hz]
        walk_at "vc"
        refine fin2 ?_
        walk_at "vc"
  · rintro l g' ⟨rfl, rfl⟩
    exact q
set_option maxHeartbeats 2000000 in
theorem holds_eq {g : List Pl} {w : Bool} (h : AltG g w) (st : Sg) : f_l_game_holds [.dat (gD g), .dat (.bool w)] st = some (.dat (.bool true), st) := by
  have hg := h.good
  have hst := h.strt
  have h0 := h.few
  have hl := h.len
  obtain ⟨rk, hr⟩ := hst.rk
  obtain ⟨o, ho, htp⟩ := ord_topo hg hst
  have e1 := worths_eq hg hst st
  have e2 := game_eq (gm_tm hg (by omega)) (by omega) st
  rw [gm_is hg h0] at e2
  have e3 := order_of_eq hg st
  rw [ho] at e3
  simp only [ordD] at e3
  have e4 : f_reach [.dat (gD g), .dat (.int 0)] st = some (.dat (.tuple (nD (List.range g.length))), st) := by
    have := reach_eq hg h0 st
    rw [rch_all h.rch] at this
    exact this
  have e5 : neD (.tuple (nD (List.range g.length))) (.tuple (rng 0 ((g.length : Nat) : Int).toNat)) = some (.bool false) := by
    rw [Int.toNat_natCast, rng_nat]
    exact neD_self (k := 1) (sh_nD ..) (by omega)
  have e6 : ixD (.tuple (worsD g)) (.int 0) = some (.int (wor g 0)) := wors_ix h0
  have e7 : f_paper_for [.dat (gD g), .dat (.int 0), .dat (.int 1)] st = some (.dat (opD (apH ch1 0 1 g 0)), st) := paper_for_eq hg hst (goal := 1) h0 st
  have e8 : f_paper_against [.dat (gD g), .dat (.int 0), .dat (.int 1)] st = some (.dat (opD (apH ch1 1 1 g 0)), st) := paper_against_eq hg hst (goal := 1) h0 st
  have a1 := apH_wor (ch := ch1) (goal := 1) (hand := 0) hg hr (.inl rfl) (rk 0 + 1) 0 (Nat.lt_succ_self _) h0
  have a2 := apH_wor (ch := ch1) (goal := 1) (hand := 1) hg hr (.inr rfl) (rk 0 + 1) 0 (Nat.lt_succ_self _) h0
  have hpap : eqD (.bool (isN (opD (apH ch1 0 1 g 0)))) (.bool (isN (opD (apH ch1 1 1 g 0)))) = some (.bool false) := by
    have n1 : ∀ {h : Int} (hh : h = 0 ∨ h = 1), isN (opD (apH ch1 h 1 g 0)) = !gdB h 1 (wor g 0) := fun {h} hh => by
      have a := apH_wor (ch := ch1) (goal := 1) (hand := h) hg hr hh (rk 0 + 1) 0 (Nat.lt_succ_self _) h0
      cases e : apH ch1 h 1 g 0 with
      | none =>
        rw [e] at a
        have : gdB h 1 (wor g 0) = false := by
          cases z : gdB h 1 (wor g 0) with
          | true => exact absurd rfl (a.mpr z)
          | false => rfl
        rw [this]
        rfl
      | some d =>
        obtain ⟨ds, rfl⟩ := apH_tup hg hr (fun z so => ⟨_, rfl⟩) h0 e
        rw [a.mp (by rw [e]; exact fun z => nomatch z)]
        rfl
    rw [n1 (.inl rfl), n1 (.inr rfl), eqD_bb, h.own]
    cases w <;> rfl
  have hpap2 : decide (isN (opD (apH ch1 0 1 g 0)) = isN (opD (apH ch1 1 1 g 0))) = false := by
    rw [eqD_bb] at hpap
    exact PyData.bool.inj (Option.some.inj hpap)
  have hw0 : wor g 0 = if w = true then 1 else -1 := h.own
  have hgl : lenD [gD g] = some (.int (g.length : Nat)) := lenD_g
  have hsg : seqD (gD g) = some (g.map Pl.d) := rfl
  have hin : ∀ v : Int, v = 1 ∨ v = -1 → inFD true (.int v) (.tuple [.int (-1), .int 1]) = some (.bool false) := fun v hv => by rcases hv with rfl | rfl <;> rfl
  have hend : ∀ {Q : List PyData → Lo → Sg → Prop}, Q [] [.dat (gD g), .no, .dat (.tuple (worsD g)), .no, .no, .no, .no, .no] st → LcW [7] (gNm 7) (bTest (eOp (inFD true) (eVar 7) (eTup (aCons (eUn negD (eC (.int 1))) (aCons (eC (.int 1)) aNil))))) (eVar 7) (worsD g) [.dat (gD g), .no, .dat (.tuple (worsD g)), .no, .no, .no, .no, .no] st Q := fun {Q} q => by
    refine lcw_pure (xs := List.range g.length) (wI g) (fun _ => false) (fun _ => .none) (by rfl) (by rfl) (by rw [List.length_range]; omega) (by walk_at "wi") (fun k hk => ?_) ?_
    · have hv := hin _ (h.one k (List.mem_range.mp hk))
      unfold wI
      walk_at "vc"
      exact ⟨⟨rfl, rfl, rfl⟩, fun z => nomatch z⟩
    · rw [List.filter_eq_nil_iff.mpr fun _ _ z => by cases z]
      exact q
  have heq : eqD (.list []) (.list []) = some (.bool true) := rfl
  unfold f_l_game_holds m_l_game_holds
  refine fok_is ?_
  cases w with
  | true =>
    have e9 : neD (.int (wor g 0)) (.int 1) = some (.bool false) := by rw [hw0]; rfl
    have hw1 : wor g 0 = 1 := by rw [hw0]; rfl
    walk_at "vfn"
    walk_at "vc"
    refine hloop_ok h ?_
    walk_at "vc"
    refine hend ?_
    walk_at "vc"
  | false =>
    have e9 : neD (.int (wor g 0)) (.int (-1)) = some (.bool false) := by rw [hw0]; rfl
    have hw1 : wor g 0 = -1 := by rw [hw0]; rfl
    walk_at "vfn"
    walk_at "vc"
    refine hloop_ok h ?_
    walk_at "vc"
    refine hend ?_
    walk_at "vc"
section
variable {α : Type} [DecidableEq α] {R : Rul α} {P : α → Prop} {U : List α} {b : α} {mu : α → Nat} {T : List α}
theorem alt_of (hR : RulOk R P U) (hG : RgOk R P mu) {W : α → Bool} (hW : WinOk R P W) (hT : AllS R P b T) (hl : T.length ≤ 800) (hs : R.side b = 0) : AltG (rgG R T) (W b) := by
  have hbT : b ∈ T := List.mem_of_getElem? hT.hd
  have hb0 : ixS T b = 0 := ixS_of hT.nd hT.hd
  have hw := win_wor hG hT hW hR.go
  have h0 : 0 < T.length := by
    have := hT.hd
    rcases T with _ | _
    · cases this
    · simp
  refine ⟨rg_good hR hG hT hl, rg_straight hG hT, by rw [rgG_len]; exact h0, by rw [rgG_len]; exact hl, fun q hq => rg_rch hT q (by rw [rgG_len] at hq; exact hq), ?_, fun q hq => ?_, fun p s ms hp m hm x hx => ?_⟩
  · rw [← hb0, hw b hbT]
    unfold winV
    rw [hs]
    cases W b <;> rfl
  · rw [rgG_len] at hq
    have hq2 : T[q]? = some T[q] := List.getElem?_eq_getElem hq
    have hm := List.mem_of_getElem? hq2
    have h1 := hw _ hm
    rw [ixS_of hT.nd hq2] at h1
    rw [h1]
    unfold winV
    rcases hG.side _ (hT.ok _ hm) with z | z <;> rw [z] <;> cases W T[q] <;> simp
  · obtain ⟨y, hy, e⟩ := rgG_get hp
    have hyT := List.mem_of_getElem? hy
    have hyP := hT.ok y hyT
    unfold rgP at e
    split at e
    · cases e
    · cases e
      obtain ⟨z, hz, rfl⟩ := List.mem_map.mp hm
      have hzT := hT.go y hyT z hz
      have hat := rgG_at (R := R) hzT
      rw [hx] at hat
      cases hat
      have ha := hW.alt y hyP z hz
      have hs2 := hG.side y hyP
      unfold rgP
      split
      · intro c; cases c
      · intro c
        have : R.side z = R.side y := PyData.int.inj c
        omega
end
noncomputable def b_l_bits_1 : X :=
  (xSeq (xAsg 3 (eCB lenD (aCons (eL (lLc [4] (iSq (eVar 0)) (gNm 4) (bTest (eOp eqD (eOp subD (eOp fdivD (eVar 4) (eVar 2)) (eOp mulD (eOp fdivD (eVar 4) (eOp mulD (eC (.int 2)) (eVar 2))) (eC (.int 2)))) (eC (.int 1)))) (eVar 4))) aNil)))
    (xAsg 1 (eOp plusD (eVar 1) (eOp mulD (eVar 2) (eOp subD (eVar 3) (eOp mulD (eOp fdivD (eVar 3) (eC (.int 2))) (eC (.int 2))))))))
noncomputable def m_l_bits : X :=
  (xSeq (xAsg 1 (eC (.int 0)))
  (xSeq (xFor (iWipe [2, 3, 4] (iSq (eTup (aCons (eC (.int 1)) (aCons (eC (.int 2)) (aCons (eC (.int 4)) (aCons (eC (.int 8)) aNil))))))) (gNm 2)
    (xKeep [2, 3, 4] (b_l_bits_1)))
  (xRet (eVar 1))))
noncomputable def f_l_bits : FS := fnS 5 (m_l_bits )

theorem bits_eq {ps : List Int} (hl : ps.length ≤ 100) (st : Sg) : f_l_bits [.dat (.tuple (iZD ps))] st = some (.dat (.int (nimI ps)), st) := by
  have hzl := iZD_len ps
  unfold f_l_bits m_l_bits
  refine fok_is ?_
  walk_at "vfn"
  walk_at "vc"
  refine wp_forS ([1, 2, 4, 8] : List Int) PyData.int (fun t => [.dat (.tuple (iZD ps)), .dat (.int t), .no, .no, .no]) (fun _ => st) (fun pre t => t = pre.foldl (fun t p => t + p * ((onesI ps p : Int) - (onesI ps p : Int) / 2 * 2)) 0) 0 rfl ?_ ?_
  · rintro pre p post t e rfl
    have hp : 1 ≤ p ∧ p ≤ 8 := by
      have : p ∈ ([1, 2, 4, 8] : List Int) := by rw [e]; simp
      simp only [List.mem_cons, List.not_mem_nil, or_false] at this
      omega
    unfold b_l_bits_1
    walk_at "vc"
    refine lcw_pure (xs := ps) PyData.int (bitI p) PyData.int (by rfl) (by rfl) (by omega) (by walk_at "wi") (fun v hv => ?_) ?_
    · walk_at "vc"
      exact ⟨⟨rfl, rfl, rfl⟩, fun _ => by walk_at "vc"⟩
    have hlen : lenD [.list ((ps.filter (bitI p)).map PyData.int)] = some (.int (onesI ps p : Nat)) := by
      show some (PyData.int ((((ps.filter (bitI p)).map PyData.int).length : Nat) : Int)) = _
      rw [List.length_map]
      rfl
    walk_at "vc"
    exact ⟨_, rfl, rfl, by rw [List.foldl_append]; rfl⟩
  · rintro t rfl
    walk_at "vc"
theorem lcw_inv35 {α : Type} {vs : List Nat} {tg : G} {t : M Bool} {e : M PyData} {l : Lo} {g : Sg} {ds : List PyData} {Q : List PyData → Lo → Sg → Prop} {l0 : Lo} {xs : List α} (h : α → PyData) (I : Nat → List PyData → Sg → Prop) (hd : ds = xs.map h) (hp : plainAt vs l = true) (hz : xs.length ≤ 4000000) (hw : wipeV l vs = l0) (h0 : I 0 [] g)
    (he : ∀ i x es g, xs[i]? = some x → I i es g → Has (tg (h x) l0) fun l1 => backV l l1 vs = l ∧ Wp t l1 g fun p l2 g2 => l2 = l1 ∧ (p = true → Wp e l1 g2 fun y l3 g3 => l3 = l1 ∧ I (i + 1) (es ++ [y]) g3) ∧ (p = false → I (i + 1) es g2))
    (hq : ∀ es g, I xs.length es g → Q es l g) : LcW vs tg t e ds l g Q := by
  subst hd hw
  have key : ∀ (n i : Nat) (acc : List PyData) (g : Sg), n = xs.length - i → i ≤ xs.length → I i acc g → ∃ es g', lcL vs tg t e ((xs.drop i).map h) l g = some (es, l, g') ∧ I xs.length (acc ++ es) g' := by
    intro n
    induction n with
    | zero =>
      intro i acc g hn hi hI
      have : i = xs.length := by omega
      subst this
      rw [List.drop_length]
      exact ⟨[], g, rfl, by rw [List.append_nil]; exact hI⟩
    | succ n ih =>
      intro i acc g hn hi hI
      have hlt : i < xs.length := by omega
      obtain ⟨l1, e1, e2, p, l2, g2, e3, rfl, k1, k2⟩ := he i xs[i] acc g (List.getElem?_eq_getElem hlt) hI
      cases p with
      | true =>
        obtain ⟨y, l3, g3, e4, rfl, e5⟩ := k1 rfl
        obtain ⟨es, g', e6, e7⟩ := ih (i + 1) (acc ++ [y]) g3 (by omega) hlt e5
        refine ⟨y :: es, g', ?_, by rw [List.append_assoc] at e7; exact e7⟩
        rw [List.drop_eq_getElem_cons hlt, List.map_cons, lcL_cons, e1, oo_some, e3, ob_some, if_pos rfl, e4, ob_some, e2, e6, ob_some]
      | false =>
        obtain ⟨es, g', e6, e7⟩ := ih (i + 1) acc g2 (by omega) hlt (k2 rfl)
        refine ⟨es, g', ?_, e7⟩
        rw [List.drop_eq_getElem_cons hlt, List.map_cons, lcL_cons, e1, oo_some, e3, ob_some, if_neg Bool.false_ne_true, e2, e6]
  obtain ⟨es, g', e1, e2⟩ := key xs.length 0 [] g (by omega) (Nat.zero_le _) h0
  exact ⟨es, l, g', lcO_of hp (by rw [List.length_map]; exact hz) (by simpa using e1), hq _ _ (by simpa using e2)⟩
 local macro_rules | `(tactic| walk_at "v") => `(tactic| with_reducible refine wp_eOr ?_)
theorem wp_cut35 {A B : X} {l : Lo} {g : Sg} {Q : Out → Lo → Sg → Prop} (R : Lo → Sg → Prop) (h : Wp A l g fun o l1 g1 => o = .nx ∧ R l1 g1) (h2 : ∀ l1 g1, R l1 g1 → Wp B l1 g1 Q) : Wp (xSeq A B) l g Q := by
  refine wp_seq (wp_mono h fun o l1 g1 ⟨e, r⟩ => ?_)
  subst e
  exact h2 l1 g1 r
theorem hp_alt {ws : List Int} (hl : ws.length ≤ 4) (hw : ∀ i ∈ ws, 0 ≤ i ∧ i ≤ 4) : ∃ g, AltG g (decide (nimI ws ≠ 0)) ∧ bfs hpR hpU.length [hpB ws] [] 0 = g.map Pl.d := by
  obtain ⟨T, hT, e⟩ := alls hp_ok (hpB_ok hl hw)
  have hTl : T.length ≤ 800 := by
    have h1 : T.length ≤ hpU.length := hT.nd.length_le_of_subset fun x hx => hp_ok.mem x (hT.ok x hx)
    exact Nat.le_trans h1 (by decide +kernel)
  have h := alt_of hp_ok hp_rg hp_win hT hTl rfl
  have e2 : decide (nimI (hpB ws).1 ≠ 0) = decide (nimI ws ≠ 0) := by
    rw [show (hpB ws).1 = sortI (ws.filter fun i => decide (i > 0)) from rfl, nim_sort fun i hi => (hw i hi).1]
  rw [e2] at h
  refine ⟨_, h, ?_⟩
  rw [e]
  unfold rgG
  rw [List.map_map]
  exact List.map_congr_left fun x _ => (rgP_d T x).symm
theorem tk_alt {ts : List Nat} {c : Nat} (hn : ts.Nodup) (hl : ts.length ≤ 9) (h1 : ∀ m ∈ ts, 1 ≤ m) (hc : c ≤ 20) : ∃ g, AltG g (tkW ts c) ∧ bfs (tkR ts) (tkU c).length [(c, 0)] [] 0 = g.map Pl.d := by
  have hR := tk_ok hn hl hc
  have hb : TkP c (c, 0) := ⟨Nat.le_refl _, Nat.zero_le _⟩
  obtain ⟨T, hT, e⟩ := alls hR hb
  have hTl : T.length ≤ 800 := by
    have h2 : T.length ≤ (tkU c).length := hT.nd.length_le_of_subset fun x hx => hR.mem x (hT.ok x hx)
    have h3 : (tkU c).length = 2 * (c + 1) := by
      unfold tkU
      rw [List.length_append, List.length_map, List.length_map, List.length_range]
      omega
    omega
  have h := alt_of hR (tk_rg h1 (by omega) hc) (tk_win h1) hT hTl rfl
  refine ⟨_, h, ?_⟩
  rw [e]
  unfold rgG
  rw [List.map_map]
  exact List.map_congr_left fun x _ => (rgP_d T x).symm
theorem plus_iZ (a b : List Int) (h : a.length + b.length ≤ 1000) : plusD (.tuple (iZD a)) (.tuple (iZD b)) = some (.tuple (iZD (a ++ b))) := by
  rw [plusD_t (by rw [iZD_len, iZD_len]; omega)]
  unfold iZD
  rw [List.map_append]
theorem ne_nil (ts : List Nat) : neD (.list (nD ts)) (.list []) = some (.bool (!ts.isEmpty)) := by
  have e : eqD (.list (nD ts)) (.list []) = some (.bool (PyData.eqv (.list (nD ts)) (.list []))) := eqD_sh (sh_shaped (k := 1) sh_nL (by omega)) (sh_shaped (k := 1) (sh_nL (ms := [])) (by omega))
  have e2 := neD_of e
  rw [e2]
  cases ts <;> rfl
theorem filt_any (q : Nat → Bool) : ∀ xs : List Nat, (!(xs.filter q).isEmpty) = xs.any q
  | [] => rfl
  | x :: r => by
    rw [List.filter_cons, List.any_cons]
    cases h : q x with
    | true => rfl
    | false => rw [if_neg Bool.false_ne_true, filt_any q r]; rfl
def bD (bs : List Bool) : List PyData := bs.map PyData.bool
noncomputable def b_law_k35_1 (F_l_draw F_l_game_holds F_l_bits F_heaps F_worths F_taking : FS) : X :=
  (xApp 8 (eOp neD (eL (lLc [6] (iSq (eVar 5)) (gNm 6) (bAnd (bTest (eOp leD (eVar 6) (eVar 9))) (bNot (bTru (eIxV 8 (eOp subD (eVar 9) (eVar 6)))))) (eVar 6))) (eL (lLst aNil))))
noncomputable def b_law_k35_2 (F_l_draw F_l_game_holds F_l_bits F_heaps F_worths F_taking : FS) : X :=
  (xSeq (xAsg 3 (eCB tupleD (aCons (eL (lLc [4] (iRg1 (eCall F_l_draw (vCons (vE (eVar 0)) (vCons (vR 1) (vCons (vE (eC (.int 4))) vNil))))) (gNm 4) bYes (eCall F_l_draw (vCons (vE (eVar 0)) (vCons (vR 1) (vCons (vE (eC (.int 5))) vNil)))))) aNil)))
    (xSeq (xIf (bNot (bTru (eCall F_l_game_holds (vCons (vE (eCall F_heaps (vCons (vE (eVar 3)) vNil))) (vCons (vE (eOp neD (eCall F_l_bits (vCons (vE (eVar 3)) vNil)) (eC (.int 0)))) vNil)))))
      (xRet (eC (.bool false)))
      xNext)
    (xSeq (xIf (bAnd (bTest (eOp ltD (eCB lenD (aCons (eVar 3) aNil)) (eC (.int 3)))) (bTest (eOp neD (eOp ixD (eCall F_worths (vCons (vE (eCall F_heaps (vCons (vE (eOp plusD (eVar 3) (eVar 3))) vNil))) vNil)) (eC (.int 0))) (eUn negD (eC (.int 1))))))
      (xRet (eC (.bool false)))
      xNext)
    (xSeq (xAsg 5 (eOr (eCB tupleD (aCons (eL (lLc [6] (iRg2 (eC (.int 1)) (eC (.int 6))) (gNm 6) (bTest (eOp eqD (eCall F_l_draw (vCons (vE (eVar 0)) (vCons (vR 1) (vCons (vE (eC (.int 2))) vNil)))) (eC (.int 0)))) (eVar 6))) aNil)) (eTup (aCons (eC (.int 2)) aNil))))
    (xSeq (xTup [7, 8] (uD (eCall F_l_draw (vCons (vE (eVar 0)) (vCons (vR 1) (vCons (vE (eC (.int 14))) vNil)))) (uL (lLst aNil) uNil)))
    (xSeq (xFor (iWipe [2, 3, 4, 6, 9] (iRg1 (eOp plusD (eVar 7) (eC (.int 1))))) (gNm 9)
      (xKeep [2, 3, 4, 6, 9] (b_law_k35_1 F_l_draw F_l_game_holds F_l_bits F_heaps F_worths F_taking)))
    (xIf (bNot (bTru (eCall F_l_game_holds (vCons (vE (eCall F_taking (vCons (vE (eVar 7)) (vCons (vE (eVar 5)) vNil)))) (vCons (vE (eIxV 8 (eVar 7))) vNil)))))
      (xRet (eC (.bool false)))
      xNext)))))))
noncomputable def m_law_k35 (F_l_draw F_l_game_holds F_l_bits F_heaps F_worths F_taking : FS) : X :=
  (xSeq (xNewL 1 (lLst aNil))
  (xSeq (xFor (iWipe [2, 3, 4, 5, 6, 7, 8, 9] (iRg1 (eC (.int 3)))) (gNm 2)
    (xKeep [2, 3, 4, 5, 6, 7, 8, 9] (b_law_k35_2 F_l_draw F_l_game_holds F_l_bits F_heaps F_worths F_taking)))
  (xRet (eC (.bool true)))))
noncomputable def f_law_k35 : FS := fnS 10 (m_law_k35 f_l_draw f_l_game_holds f_l_bits f_heaps f_worths f_taking)

set_option maxHeartbeats 4000000 in
theorem law_true (ns : List Int) (hz : ns.length ≤ 63) : ∃ g, f_law_k35 [.dat (.list (ns.map .int))] [] = some (.dat (.bool true), g) := by
  suffices h : FOk f_law_k35 [scr ns] [] fun v _ => v = .dat (.bool true) by
    obtain ⟨v, g, e, rfl⟩ := h
    exact ⟨g, e⟩
  unfold f_law_k35 m_law_k35
  walk_at "vfn"
  walk_at "vc"
  refine wp_forI (fun i l g' => l = [scr ns, .ref 0, .no, .no, .no, .no, .no, .no, .no, .no] ∧ ∃ n g0, n ≤ 100 * i ∧ g' = tw ns n g0) ⟨rfl, 0, [], Nat.le_refl _, rfl⟩ ?_ ?_
  · rintro i d l g' hd ⟨rfl, n, g0, hn, rfl⟩
    obtain ⟨hi, rfl⟩ := rng_get hd
    have hi : i < 3 := hi
    unfold b_law_k35_2
    walk_at "vc"
    refine draw_ok hz (by omega) (by omega) fun m hm => ?_
    walk_at "vc"
    refine lcw_inv (xs := List.range m) (fun j : Nat => .int (0 + (j : Int))) (fun j es g1 => ∃ ws : List Int, es = iZD ws ∧ ws.length = j ∧ (∀ w ∈ ws, 0 ≤ w ∧ w ≤ 4) ∧ g1 = tw ns (n + 1 + j) g0) (by rw [Int.toNat_natCast]; rfl) (by rfl) (by rw [List.length_range]; omega) (by walk_at "wi") ⟨[], rfl, rfl, fun w hw => (nomatch hw), rfl⟩ ?_ ?_
    · rintro j x es g1 hx ⟨ws, rfl, k1, k2, rfl⟩
      have hj : j < m := by
        have := (List.getElem?_eq_some_iff.mp hx).1
        rwa [List.length_range] at this
      walk_at "vc"
      refine draw_ok hz (by omega) (by omega) fun k hk => ?_
      walk_at "vc"
      refine ⟨rfl, ws ++ [(k : Int)], by unfold iZD; rw [List.map_append]; rfl, by rw [List.length_append, k1]; rfl, fun w hw => ?_, rfl⟩
      rcases List.mem_append.mp hw with z | z
      · exact k2 w z
      · rw [List.mem_singleton.mp z]; omega
    · rintro es g1 ⟨ws, rfl, k1, k2, rfl⟩
      rw [List.length_range] at k1 ⊢
      have hwl : ws.length ≤ 3 := by omega
      have hzl := iZD_len ws
      obtain ⟨g1, hA, e1⟩ := hp_alt (by omega) k2
      have hbits := bits_eq (ps := ws) (by omega) (tw ns (n + 1 + m) g0)
      have hgd : gD g1 = .tuple (g1.map Pl.d) := rfl
      have hlz : lenD [.tuple (iZD ws)] = some (.int (m : Nat)) := by
        show some (PyData.int ((iZD ws).length : Nat)) = _
        rw [iZD_len, k1]
      walk_at "vc"
      refine heaps_ok (by omega) k2 ⟨_, rfl, ?_⟩
      rw [e1, ← hgd]
      walk_at "vc"
      rw [show (!decide (nimI ws = 0)) = decide (nimI ws ≠ 0) from by simp]
      refine fok_eq (holds_eq hA _) ⟨_, rfl, ?_⟩
      walk_at "vs"
      refine wp_cut35 (fun l1 g2 => g2 = tw ns (n + 1 + m) g0 ∧ l1 = [scr ns, .ref 0, .dat (.int (0 + (i : Int))), .dat (.tuple (iZD ws)), .no, .no, .no, .no, .no, .no]) ?_ ?_
      · by_cases h3 : m < 3
        · have hpl := plus_iZ ws ws (by omega)
          obtain ⟨g2, hA2, e2⟩ := hp_alt (ws := ws ++ ws) (by rw [List.length_append]; omega) (fun i hi => (List.mem_append.mp hi).elim (k2 i) (k2 i))
          have hgd2 : gD g2 = .tuple (g2.map Pl.d) := rfl
          have hw2 := wors_ix hA2.few
          have hown := hA2.own
          rw [nim_twice, if_neg (by simp)] at hown
          rw [hown] at hw2
          have hwo := worths_eq hA2.good hA2.strt (tw ns (n + 1 + m) g0)
          have hw2 : ixD (.tuple (worsD g2)) (.int 0) = some (.int (-1)) := hw2
          walk_at "vc"
          refine heaps_ok (by rw [List.length_append]; omega) (fun i hi => (List.mem_append.mp hi).elim (k2 i) (k2 i)) ⟨_, rfl, ?_⟩
          rw [e2, ← hgd2]
          walk_at "vc"
        · walk_at "vc"
      rintro l1 g2 ⟨rfl, rfl⟩
      clear hbits e1 hA hgd hlz
      generalize hN : n + 1 + m = N
      refine wp_cut35 (fun l1 g1 => ∃ (ts : List Nat) (n1 : Nat), ts.Nodup ∧ ts.length ≤ 9 ∧ (∀ t ∈ ts, 1 ≤ t) ∧ n1 ≤ N + 5 ∧ g1 = tw ns n1 g0 ∧ l1 = [scr ns, .ref 0, .dat (.int (0 + (i : Int))), .dat (.tuple (iZD ws)), .no, .dat (.tuple (nD ts)), .no, .no, .no, .no]) ?_ ?_
      · walk_at "vc"
        refine lcw_inv35 (xs := List.range 5) (fun i : Nat => .int (1 + (i : Int))) (fun j es g1 => ∃ ts : List Nat, es = nD ts ∧ ts.Nodup ∧ (∀ t ∈ ts, 1 ≤ t ∧ t ≤ j) ∧ ts.length ≤ j ∧ g1 = tw ns (N + j) g0) (by rfl) (by rfl) (by simp) (by walk_at "wi") ⟨[], rfl, List.nodup_nil, fun t ht => (nomatch ht), Nat.le_refl _, rfl⟩ ?_ ?_
        · rintro j x es g1 hx ⟨ts, rfl, h1, h2, h3, rfl⟩
          have hxj : x = j := by
            obtain ⟨hl, e⟩ := (List.getElem?_eq_some_iff.mp hx)
            rw [List.getElem_range] at e
            exact e.symm
          subst hxj
          have hj : x < 5 := by
            have := (List.getElem?_eq_some_iff.mp hx).1
            rwa [List.length_range] at this
          walk_at "vc"
          refine draw_ok hz (by omega) (by omega) fun k hk => ?_
          walk_at "vc"
          refine ⟨rfl, fun _ => ?_, fun _ => ⟨ts, rfl, h1, fun t ht => by have := h2 t ht; omega, by omega, rfl⟩⟩
          walk_at "vc"
          refine ⟨rfl, ts ++ [1 + x], ?_, ?_, ?_, by rw [List.length_append]; simp; omega, rfl⟩
          · unfold nD
            rw [List.map_append]
            rfl
          · exact List.nodup_append.mpr ⟨h1, by simp, fun a ha b hb => by
              rw [List.mem_singleton.mp hb]
              have := h2 a ha
              omega⟩
          · intro t ht
            rcases List.mem_append.mp ht with z | z
            · have := h2 t z; omega
            · rw [List.mem_singleton.mp z]; omega
        · rintro es g1 ⟨ts, rfl, h1, h2, h3, rfl⟩
          rw [List.length_range] at h2 h3 ⊢
          walk_at "vc"
          refine ⟨fun _ => ?_, fun _ => ?_⟩
          · walk_at "vc"
            exact ⟨rfl, ts, N + 5, h1, by omega, fun t ht => (h2 t ht).1, by omega, rfl, rfl⟩
          · walk_at "vc"
            exact ⟨rfl, [2], N + 5, by simp, by simp, by simp, by omega, rfl, rfl⟩
      rintro l1 g1 ⟨ts, n1, h1, h2, h3, h4, rfl, rfl⟩
      walk_at "vc"
      refine draw_ok hz (by omega) (by omega) fun c hc => ?_
      walk_at "vc"
      refine wp_forI (fun j l g' => l = [scr ns, .ref 0, .no, .no, .no, .dat (.tuple (nD ts)), .no, .dat (.int (c : Nat)), .own (bD (wonL ts j)), .no] ∧ g' = tw ns (n1 + 1) g0) ⟨rfl, rfl⟩ ?_ ?_
      · rintro j d l g' hd ⟨rfl, rfl⟩
        obtain ⟨hj, rfl⟩ := rng_get hd
        have hj : j < c + 1 := by omega
        have hbl : (bD (wonL ts j)).length = j := by unfold bD; rw [List.length_map, wonL_len]
        unfold b_law_k35_1
        walk_at "vc"
        refine lcw_pure (xs := ts) (fun m => .int (m : Nat)) (fun m => decide (m ≤ j) && !(wonL ts j).getD (j - m) false) (fun m => .int (m : Nat)) (by rfl) (by rfl) (by omega) (by walk_at "wi") (fun m hm => ?_) ?_
        · have hm1 := h3 m hm
          by_cases hmj : m ≤ j
          · have hat : atI (bD (wonL ts j)) (0 + (j : Int) - (m : Int)) = some (.bool ((wonL ts j).getD (j - m) false)) := by
              rw [show 0 + (j : Int) - (m : Int) = ((j - m : Nat) : Int) by omega]
              refine atI_N ?_
              unfold bD
              rw [List.getElem?_map, List.getElem?_eq_getElem (by rw [wonL_len]; omega), getD_lt (by rw [wonL_len]; omega)]
              rfl
            rw [decide_eq_true hmj]
            walk_at "vc"
            exact ⟨⟨(Bool.true_and _).symm, rfl, rfl⟩, fun _ => by walk_at "vc"⟩
          · rw [decide_eq_false hmj]
            walk_at "vc"
            exact ⟨⟨rfl, rfl, rfl⟩, fun z => nomatch z⟩
        · have hne := ne_nil (ts.filter fun m => decide (m ≤ j) && !(wonL ts j).getD (j - m) false)
          unfold nD at hne
          walk_at "vc"
          refine ⟨?_, rfl⟩
          have hany : (!(ts.filter fun m => decide (m ≤ j) && !(wonL ts j).getD (j - m) false).isEmpty) = ts.any fun m => decide (m ≤ j) && !(wonL ts j).getD (j - m) false := by
            exact filt_any _ ts
          have e : bD (wonL ts (j + 1)) = bD (wonL ts j) ++ [.bool (!(ts.filter fun m => decide (m ≤ j) && !(wonL ts j).getD (j - m) false).isEmpty)] := by
            rw [hany]
            unfold bD
            rw [wonL, List.map_append]
            rfl
          rw [e]
          rfl
      · rintro l g' ⟨rfl, rfl⟩
        rw [show (rng 0 ((c : Int) + 1).toNat).length = c + 1 from by rw [rng_len]; omega]
        have hat : atI (bD (wonL ts (c + 1))) (c : Int) = some (.bool (tkW ts c)) := by
          refine atI_N ?_
          unfold bD
          rw [List.getElem?_map, List.getElem?_eq_getElem (by rw [wonL_len]; omega)]
          unfold tkW
          rw [getD_lt (by rw [wonL_len]; omega)]
          rfl
        obtain ⟨g3, hA3, e3⟩ := tk_alt h1 h2 h3 (c := c) (by omega)
        have hgd3 : gD g3 = .tuple (g3.map Pl.d) := rfl
        walk_at "vc"
        refine taking_ok h1 h2 (by omega) ⟨_, rfl, ?_⟩
        rw [e3, ← hgd3]
        walk_at "vc"
        refine fok_eq (holds_eq hA3 _) ⟨_, rfl, ?_⟩
        walk_at "vc"
        exact ⟨rfl, n1 + 1, g0, by omega, rfl⟩
  · rintro l g' ⟨rfl, n, g0, hn, rfl⟩
    walk_at "vc"
    rfl

end
end
end
end
end
end
end Sm
namespace W
open PySem PySem.Spec PyProof.Rows L2 RZ SrtO Dz Sm
structure Bn (mg : Str → Option Value) : Prop where
  len : mg "len" = none
  list : mg "list" = none
  tuple : mg "tuple" = none
  range : mg "range" = none
  zip : mg "zip" = none
  enumerate : mg "enumerate" = none
  abs : mg "abs" = none
  max : mg "max" = none
  min : mg "min" = none
  sum : mg "sum" = none
  all : mg "all" = none
  any : mg "any" = none
  sorted : mg "sorted" = none
  isinstance : mg "isinstance" = none
  int : mg "int" = none
  bool : mg "bool" = none
  str : mg "str" = none
  set : mg "set" = none
variable {P : Program} {w : World} {K : PySem.W.Frag} {mg : Str → Option Value} {base : Heap} {lw : Nat} {tb : List (Addr × Tag)}
def Scr (sc : PyData) : Prop := ∃ ns : List Int, sc = .list (ns.map .int) ∧ ns.length ≤ 63
theorem cxK {CX : CXT} {P : Program} {w : World} {K : PySem.W.Frag} {mg : Str → Option Value} {base : Heap} {N : List Str} {q : Str} {sc : Scope} {f : Addr} {cd : Value} {A : Around} {o : List PySem.Env} {s : Shared} {H : Hp} {E : XK} : (cxOf CX P w K mg base N q sc f cd A o s H E).K = K := rfl

theorem ok_made {f : Addr} {fd : FuncData} {k : Nat} (F : FunD K "made" "made" (defArgs s_made) (defBody s_made) (defScope s_made) [] [] f fd) (B : Bn mg)
    (lvk : lw + 1 ≤ k) :
    FnOk P w K mg base CX0 (k + 1) f fd ["begin", "follow", "worth"] (spG (kX P w K mg base (lw + 1) tb) 3 (fnS 10 (m_made ))) := by
  refine okD F sc_made (fun vs H Q E h => spG_len h) (fun cdv A outer s H vs Q E hr h => ⟨_,
  (pss_cons (ps_asg (pe_tup (pa_cons (pe_lst (pa_cons (pv 0) pa_nil)) (pa_cons (pe_ndisp (K := (kX P w K mg base (lw + 1) tb)) ⟨rfl, rfl, rfl, rfl, rfl⟩ (in65 hr) (pv 0) pe_int) (pa_cons (pe_lst pa_nil) pa_nil)))) (k_tup (n := 3) K rfl (pgs_cons (pg_name (i := 3) sc_made.nd rfl (by first | exact Or.inl rfl | exact Or.inr rfl)) (pgs_cons (pg_name (i := 4) sc_made.nd rfl (by first | exact Or.inl rfl | exact Or.inr rfl)) (pgs_cons (pg_name (i := 5) sc_made.nd rfl (by first | exact Or.inl rfl | exact Or.inr rfl)) pgs_nil)))))
  (pss_cons (ps_set (i := 6) sc_made.nd rfl (by first | exact Or.inl rfl | exact Or.inr rfl) pe_int)
  (pss_cons (ps_while PassesOwn.never (pt_cmpR op_lt (pv 6) (pe_callB (k_len K) (by rfl) B.len (by decide +kernel) (pa_cons (pv 3) pa_nil)) (nomark _))
    (pss_cons (ps_set (i := 7) sc_made.nd rfl (by first | exact Or.inl rfl | exact Or.inr rfl) (pe_ix (k_ix K) (pv 3) (pv 6) (fun _ _ => rfl)))
    (pss_cons (ps_set (i := 8) sc_made.nd rfl (by first | exact Or.inl rfl | exact Or.inr rfl) (pe_callF (K := (kX P w K mg base (lw + 1) tb)) (i := 1) ⟨rfl, rfl, rfl, rfl, rfl⟩ (hr.mono lvk) rfl (by first | exact .inl rfl | exact .inr (.inl rfl) | exact .inr (.inr rfl)) (pa_cons (pv 7) pa_nil)))
    (pss_cons (ps_for PassesOwn.never rfl (k_seq K (pv 8)) (pg_name (i := 9) sc_made.nd rfl (by first | exact Or.inl rfl | exact Or.inr rfl))
      (pss_one (ps_if (pt_cmp (pc_nnotin (K := (kX P w K mg base (lw + 1) tb)) ⟨rfl, rfl, rfl, rfl, rfl⟩ (in65 hr) (pv 9) (pv 4)))
        (pss_cons (ps_nput (K := (kX P w K mg base (lw + 1) tb)) ⟨rfl, rfl, rfl, rfl, rfl⟩ (in65 hr) (pv 4) (pv 9) (pe_callB (k_len K) (by rfl) B.len (by decide +kernel) (pa_cons (pv 3) pa_nil)) rfl)
        (pss_one (ps_expr (pe_bm PySem.F.plainAttrs_list PySem.F.slot_list_append PySem.F.type_list_append mt_append (pv 3) (pa_cons (pv 9) pa_nil)))))
        pss_nil)))
    (pss_cons (ps_expr (pe_bm PySem.F.plainAttrs_list PySem.F.slot_list_append PySem.F.type_list_append mt_append (pv 5) (pa_cons (pe_ifExp (k_tru K (pv 8) (by intro _; rfl)) (pe_tup (pa_cons (pe_ix (k_ix K) (pv 7) pe_int (fun _ _ => rfl)) (pa_cons (pe_callTy (k_tuple K) (by rfl) B.tuple (by decide +kernel) (pa_cons (pe_lc (own := [("other", 9)]) (by rfl) sc_made.nd (k_seq K (pv 8)) (blkOk_by (own := [("other", 9)]) (N := ["begin", "follow", "worth", "states", "numbers", "rows", "at", "state", "nexts", "other"]) (sc := defScope s_made) (by decide +kernel)) (fun _ _ _ _ _ => (pg_name (i := 9) sc_made.nd rfl (by first | exact Or.inl rfl | exact Or.inr rfl))) (fun _ _ _ _ _ => pts_nil) (fun _ _ _ _ _ => (pe_nget (K := (kX P w K mg base (lw + 1) tb)) ⟨rfl, rfl, rfl, rfl, rfl⟩ (in65 hr) (pv 4) (pv 9) (fun _ _ => rfl)))) pa_nil)) pa_nil))) (pe_tup (pa_cons pe_str (pa_cons (pe_callF (K := (kX P w K mg base (lw + 1) tb)) (i := 2) ⟨rfl, rfl, rfl, rfl, rfl⟩ (hr.mono lvk) rfl (by first | exact .inl rfl | exact .inr (.inl rfl) | exact .inr (.inr rfl)) (pa_cons (pv 7) pa_nil)) pa_nil)))) pa_nil)))
    (pss_one (ps_aug (i := 6) sc_made.nd rfl (by first | exact Or.inl rfl | exact Or.inr rfl) pe_int ip_add)))))))
  (pss_one (ps_ret (pe_callTy (k_tuple K) (by rfl) B.tuple (by decide +kernel) (pa_cons (pv 5) pa_nil))))))), ?_⟩)
  try simp only [cxK]
  exact run_fn (x := m_made )
    ((x_seq (x_tup (is := [3, 4, 5]) (u_L (s_lst (s_cons s_var s_nil)) (u_N (s_none s_var s_int) (u_L (s_lst s_nil) u_nil))) rfl)
  (x_seq (x_asg s_int)
  (x_seq (x_pre (x_while (s_test (s_op ro_lt s_var s_lenV))
    (x_keep (x_seq (x_asg (s_ixV s_var))
    (x_seq (x_asg (s_callF (s_cons s_var s_nil)))
    (x_seq (x_for (s_iwipe (s_iseq s_var)) b_name
      (x_keep (x_if (s_B (s_nin s_var))
        (x_seq (x_nput s_var s_lenV)
        (x_app s_var))
        x_next)))
    (x_seq (x_app (s_if (s_tru s_var) (s_tup (s_cons (s_op ro_ix s_var s_int) (s_cons (s_cb rc_tuple (s_cons (s_ofL (s_lc (vs := [9]) (s_iseq s_var) (gin_name (by decide)) gmono_name b_name s_yes (s_nget s_var))) s_nil)) s_nil))) (s_tup (s_cons s_str (s_cons (s_callF (s_cons s_var s_nil)) s_nil)))))
    (x_augA s_int))))))))
  (x_ret s_tupleV)))))
    rfl h

theorem ok_lost {f : Addr} {fd : FuncData} {k : Nat} (F : FunD K "lost" "lost" (defArgs s_lost) (defBody s_lost) (defScope s_lost) [] [] f fd) (B : Bn mg)
     :
    FnOk P w K mg base CX0 (k + 1) f fd ["state"] (spG (kX P w K mg base (lw + 1) tb) 1 (fnS 1 (m_lost ))) := by
  refine okD F sc_lost (fun vs H Q E h => spG_len h) (fun cdv A outer s H vs Q E hr h => ⟨_,
  (pss_one (ps_ret (pe_ifExp (pt_cmpR (k_eq K hr.units) (pe_ix (k_ix K) (pv 0) pe_int (fun _ _ => rfl)) pe_int (nomark _)) (pe_un un_neg pe_int) pe_int))), ?_⟩)
  try simp only [cxK]
  exact run_fn (x := m_lost )
    ((x_ret (s_if (s_test (s_op ro_eq (s_op ro_ix s_var s_int) s_int)) (s_un ro_neg s_int) s_int)))
    rfl h

theorem ok_taking {f : Addr} {fd : FuncData} {k : Nat} {F_made F_lost : FS} (F : FunD K "taking" "taking" (defArgs s_taking) (defBody s_taking) (defScope s_taking) [] [] f fd) (B : Bn mg) {cd : Value} (hcd : fd.code = cd) (ta : TabAt (kX P w K mg base (lw + 1) tb) cd (qLam "taking"))
    (c_made : Cal P w K mg base k "made" ["begin", "follow", "worth"] (spG (kX P w K mg base (lw + 1) tb) 3 F_made))
    (c_lost : Cal P w K mg base k "lost" ["state"] (spG (kX P w K mg base (lw + 1) tb) 1 F_lost))
    (cW_lost : ∀ B_, (∀ b o, base.get? b = some o → B_.get? b = some o) → Cal P w K mg B_ (lw + 1) "lost" ["state"] (spG (Kx.on (kX P w K mg base (lw + 1) tb) B_) 1 F_lost))
    (cB_made : ∀ B_, (∀ b o, base.get? b = some o → B_.get? b = some o) → Cal P w K mg B_ k "made" ["begin", "follow", "worth"] (spG (Kx.on (kX P w K mg base (lw + 1) tb) B_) 3 F_made)) :
    FnOk P w K mg base CX0 (k + 1) f fd ["count", "takes"] (spG (kX P w K mg base (lw + 1) tb) 2 (fnS 2 (m_taking F_made F_lost))) := by
  refine okCD F hcd sc_taking (fun vs H Q E h => spG_len h) (fun A outer s H vs Q E hr h => ⟨_,
  (pss_one (ps_ret (pe_callB (K := (kX P w K mg base (lw + 1) tb)) ⟨rfl, rfl, rfl, rfl, rfl⟩ (fun _ => rfl) cB_made hr (pa_cons (pe_tup (pa_cons (pv 0) (pa_cons pe_int pa_nil))) (pa_cons (pe_lamG (K := (kX P w K mg base (lw + 1) tb)) ⟨rfl, rfl, rfl, rfl, rfl⟩ (by exact ta) (by rfl) (by exact free_by (by kernel_rfl))) (pa_cons (pe_gl (kX P w K mg base (lw + 1) tb) ⟨rfl, rfl, rfl, rfl, rfl⟩ (cW_lost base fun _ _ e => e)) pa_nil)))))), ?_⟩)
  try simp only [cxK]
  exact run_fn (x := m_taking F_made F_lost)
    ((x_ret (s_callB ta (s_bcons (s_bE (s_tup (s_cons s_var (s_cons s_int s_nil)))) (s_bcons (s_bLam (K := (kX P w K mg base (lw + 1) tb)) (N := ["state", "takes", "many"]) (names := ["state"]) (fr := ["takes"]) (js := [1]) (by exact mscope_by (by decide +kernel)) rfl (by exact free_by (by kernel_rfl)) (by rfl) (by rfl) (by rfl) (by intro _ _ _ _ _ us hl; exact match us, hl with | [_], _ => rfl) (fun B_ hB_ f c' cl A outer s H hr => ⟨_, (pe_lc (own := [("many", 2)]) (by rfl) (by exact (by decide +kernel : (["state", "takes", "many"] : List Str).Nodup)) (k_seq K (pv 1)) (blkOk_by (own := [("many", 2)]) (N := ["state", "takes", "many"]) (by kernel_rfl)) (fun _ _ _ _ _ => (pg_name (i := 2) (by exact (by decide +kernel : (["state", "takes", "many"] : List Str).Nodup)) rfl (by first | exact Or.inl rfl | exact Or.inr rfl))) (fun _ _ _ _ _ => pts_one (pt_cmpR op_le (pv 2) (pe_ix (k_ix K) (pv 0) pe_int (fun _ _ => rfl)) (nomark _))) (fun _ _ _ _ _ => (pe_tup (pa_cons (pe_op op_sub (pe_ix (k_ix K) (pv 0) pe_int (fun _ _ => rfl)) (pv 2)) (pa_cons (pe_op op_sub pe_int (pe_ix (k_ix K) (pv 0) pe_int (fun _ _ => rfl))) pa_nil))))), (s_ofL (s_lc (vs := [2]) (s_iseq s_var) (gin_name (by decide)) gmono_name b_name (s_test (s_op ro_le s_var (s_op ro_ix s_var s_int))) (s_tup (s_cons (s_op ro_sub (s_op ro_ix s_var s_int) s_var) (s_cons (s_op ro_sub s_int (s_op ro_ix s_var s_int)) s_nil)))))⟩)) (s_bcons (s_bDef cW_lost (Nat.le_refl _)) s_bnil))) (vn_cons (vn_cons (vn_cons vn_nil))))))
    rfl h

theorem ok_left_heaps {f : Addr} {fd : FuncData} {k : Nat} (F : FunD K "left_heaps" "left_heaps" (defArgs s_left_heaps) (defBody s_left_heaps) (defScope s_left_heaps) [] [] f fd) (B : Bn mg)
     :
    FnOk P w K mg base CX0 (k + 1) f fd ["state"] (spG (kX P w K mg base (lw + 1) tb) 1 (fnS 9 (m_left_heaps ))) := by
  refine okD F sc_left_heaps (fun vs H Q E h => spG_len h) (fun cdv A outer s H vs Q E hr h => ⟨_,
  (pss_cons (ps_asg (pv 0) (k_tup (n := 2) K rfl (pgs_cons (pg_name (i := 1) sc_left_heaps.nd rfl (by first | exact Or.inl rfl | exact Or.inr rfl)) (pgs_cons (pg_name (i := 2) sc_left_heaps.nd rfl (by first | exact Or.inl rfl | exact Or.inr rfl)) pgs_nil))))
  (pss_cons (ps_set (i := 3) sc_left_heaps.nd rfl (by first | exact Or.inl rfl | exact Or.inr rfl) (pe_lst pa_nil))
  (pss_cons (ps_for PassesOwn.never rfl (k_enumA K (by rfl) B.enumerate (pa_cons (pv 1) pa_nil)) (k_tup (n := 2) K rfl (pgs_cons (pg_name (i := 4) sc_left_heaps.nd rfl (by first | exact Or.inl rfl | exact Or.inr rfl)) (pgs_cons (pg_name (i := 5) sc_left_heaps.nd rfl (by first | exact Or.inl rfl | exact Or.inr rfl)) pgs_nil)))
    (pss_one (ps_for PassesOwn.never rfl (pi_range1 (by rfl) B.range (pa_cons (pv 5) pa_nil)) (pg_name (i := 6) sc_left_heaps.nd rfl (by first | exact Or.inl rfl | exact Or.inr rfl))
      (pss_cons (ps_set (i := 7) sc_left_heaps.nd rfl (by first | exact Or.inl rfl | exact Or.inr rfl) (pe_callTy (k_tuple K) (by rfl) B.tuple (by decide +kernel) (pa_cons (pe_callB (k_sorted K) (by rfl) B.sorted (by decide +kernel) (pa_cons (pe_lc (own := [("one", 8)]) (by rfl) sc_left_heaps.nd (k_seq K (pe_op (k_plus K) (pe_op (k_plus K) (pe_slice (k_sl K) (pv 1) po_none (po_some (pv 4))) (pe_tup (pa_cons (pv 6) pa_nil))) (pe_slice (k_sl K) (pv 1) (po_some (pe_op (k_plus K) (pv 4) pe_int)) po_none))) (blkOk_by (own := [("one", 8)]) (N := ["state", "heaps_now", "side", "found", "at", "heap", "less", "rest", "one"]) (sc := defScope s_left_heaps) (by decide +kernel)) (fun _ _ _ _ _ => (pg_name (i := 8) sc_left_heaps.nd rfl (by first | exact Or.inl rfl | exact Or.inr rfl))) (fun _ _ _ _ _ => pts_one (pt_cmpR op_gt (pv 8) pe_int (nomark _))) (fun _ _ _ _ _ => (pv 8))) pa_nil)) pa_nil)))
      (pss_one (ps_if (pt_cmpR (k_notinD K (in65 hr)) (pe_tup (pa_cons (pv 7) (pa_cons (pe_op op_sub pe_int (pv 2)) pa_nil))) (pv 3) (by rfl))
        (pss_one (ps_expr (pe_bm PySem.F.plainAttrs_list PySem.F.slot_list_append PySem.F.type_list_append mt_append (pv 3) (pa_cons (pe_tup (pa_cons (pv 7) (pa_cons (pe_op op_sub pe_int (pv 2)) pa_nil))) pa_nil))))
        pss_nil))))))
  (pss_one (ps_ret (pe_callB (k_sortD K (in65 hr)) (by rfl) B.sorted (by decide +kernel) (pa_cons (pv 3) pa_nil))))))), ?_⟩)
  try simp only [cxK]
  exact run_fn (x := m_left_heaps )
    ((x_seq (x_asgG s_var (b_tup (bs_cons b_name (bs_cons b_name bs_nil))))
  (x_seq (x_asgL (s_lst s_nil))
  (x_seq (x_for (s_iwipe (s_ienA s_var)) (b_tup (bs_cons b_name (bs_cons b_name bs_nil)))
    (x_keep (x_for (s_iwipe (s_irg1 s_var)) b_name
      (x_keep (x_seq (x_asg (s_cb rc_tuple (s_cons (s_cb rc_sortedD (s_cons (s_ofL (s_lc (vs := [8]) (s_iseq (s_op ro_plus (s_op ro_plus (s_sl s_var s_onone (s_osome s_var)) (s_tup (s_cons s_var s_nil))) (s_sl s_var (s_osome (s_op ro_plus s_var s_int)) s_onone))) (gin_name (by decide)) gmono_name b_name (s_test (s_op ro_gt s_var s_int)) s_var)) s_nil)) s_nil)))
      (x_if (s_test (s_notinDV (s_tup (s_cons s_var (s_cons (s_op ro_sub s_int s_var) s_nil)))))
        (x_app (s_tup (s_cons s_var (s_cons (s_op ro_sub s_int s_var) s_nil))))
        x_next))))))
  (x_frz (x_ret (s_cb rc_sortDD (s_cons s_var s_nil))))))))
    rfl h

theorem ok_heaps {f : Addr} {fd : FuncData} {k : Nat} {F_made F_lost F_left_heaps : FS} (F : FunD K "heaps" "heaps" (defArgs s_heaps) (defBody s_heaps) (defScope s_heaps) [] [] f fd) (B : Bn mg)
    (c_made : Cal P w K mg base k "made" ["begin", "follow", "worth"] (spG (kX P w K mg base (lw + 1) tb) 3 F_made))
    (c_lost : Cal P w K mg base k "lost" ["state"] (spG (kX P w K mg base (lw + 1) tb) 1 F_lost))
    (c_left_heaps : Cal P w K mg base k "left_heaps" ["state"] (spG (kX P w K mg base (lw + 1) tb) 1 F_left_heaps))
    (cV_lost : Cal P w K mg base (lw + 1) "lost" ["state"] (spG (kX P w K mg base (lw + 1) tb) 1 F_lost))
    (cV_left_heaps : Cal P w K mg base (lw + 1) "left_heaps" ["state"] (spG (kX P w K mg base (lw + 1) tb) 1 F_left_heaps)) :
    FnOk P w K mg base CX0 (k + 1) f fd ["piles"] (spG (kX P w K mg base (lw + 1) tb) 1 (fnS 2 (m_heaps F_made F_lost F_left_heaps))) := by
  refine okD F sc_heaps (fun vs H Q E h => spG_len h) (fun cdv A outer s H vs Q E hr h => ⟨_,
  (pss_one (ps_ret (pe_cal c_made hr (pa_cons (pe_tup (pa_cons (pe_callTy (k_tuple K) (by rfl) B.tuple (by decide +kernel) (pa_cons (pe_callB (k_sorted K) (by rfl) B.sorted (by decide +kernel) (pa_cons (pe_lc (own := [("pile", 1)]) (by rfl) sc_heaps.nd (k_seq K (pv 0)) (blkOk_by (own := [("pile", 1)]) (N := ["piles", "pile"]) (sc := defScope s_heaps) (by decide +kernel)) (fun _ _ _ _ _ => (pg_name (i := 1) sc_heaps.nd rfl (by first | exact Or.inl rfl | exact Or.inr rfl))) (fun _ _ _ _ _ => pts_one (pt_cmpR op_gt (pv 1) pe_int (nomark _))) (fun _ _ _ _ _ => (pv 1))) pa_nil)) pa_nil)) (pa_cons pe_int pa_nil))) (pa_cons (pe_gl (kX P w K mg base (lw + 1) tb) ⟨rfl, rfl, rfl, rfl, rfl⟩ cV_left_heaps) (pa_cons (pe_gl (kX P w K mg base (lw + 1) tb) ⟨rfl, rfl, rfl, rfl, rfl⟩ cV_lost) pa_nil)))))), ?_⟩)
  try simp only [cxK]
  exact run_fn (x := m_heaps F_made F_lost F_left_heaps)
    ((x_ret (s_call (s_vcons (s_vE (s_tup (s_cons (s_cb rc_tuple (s_cons (s_cb rc_sortedD (s_cons (s_ofL (s_lc (vs := [1]) (s_iseq s_var) (gin_name (by decide)) gmono_name b_name (s_test (s_op ro_gt s_var s_int)) s_var)) s_nil)) s_nil)) (s_cons s_int s_nil)))) (s_vcons (s_vDef cV_left_heaps (Nat.le_refl _)) (s_vcons (s_vDef cV_lost (Nat.le_refl _)) s_vnil))) (vn_cons (vn_cons (vn_cons vn_nil))))))
    rfl h

theorem ok_is_whole {f : Addr} {fd : FuncData} {k : Nat} (F : FunD K "is_whole" "is_whole" (defArgs s_is_whole) (defBody s_is_whole) (defScope s_is_whole) [] [] f fd) (B : Bn mg)
     :
    FnOk P w K mg base CX0 (k + 1) f fd ["thing"] (spG (kX P w K mg base (lw + 1) tb) 1 (fnS 1 (m_is_whole ))) := by
  refine okD F sc_is_whole (fun vs H Q E h => spG_len h) (fun cdv A outer s H vs Q E hr h => ⟨_,
  (pss_one (ps_ret (k_andT K (pe_callB (k_isi K) (by rfl) B.isinstance (by decide +kernel) (pa_cons (pv 0) (pa_cons (pe_bltn (v := .ty "int") (by rfl) B.int (by decide +kernel) rfl) pa_nil))) (pe_one (k_notT K (pe_callB (k_isi K) (by rfl) B.isinstance (by decide +kernel) (pa_cons (pv 0) (pa_cons (pe_bltn (v := .ty "bool") (by rfl) B.bool (by decide +kernel) rfl) pa_nil)))))))), ?_⟩)
  try simp only [cxK]
  exact run_fn (x := m_is_whole )
    ((x_ret (s_and (s_isi s_var) (s_not (s_isi s_var)))))
    rfl h

theorem ok_is_place {f : Addr} {fd : FuncData} {k : Nat} {F_is_whole : FS} (F : FunD K "is_place" "is_place" (defArgs s_is_place) (defBody s_is_place) (defScope s_is_place) [] [] f fd) (B : Bn mg)
    (c_is_whole : Cal P w K mg base k "is_whole" ["thing"] (spG (kX P w K mg base (lw + 1) tb) 1 F_is_whole))
    (q_MOST : QCon mg "MOST" 99) :
    FnOk P w K mg base CX0 (k + 1) f fd ["thing", "many"] (spG (kX P w K mg base (lw + 1) tb) 2 (fnS 5 (m_is_place F_is_whole))) := by
  obtain ⟨t_MOST, q_MOST⟩ := q_MOST
  refine okD F sc_is_place (fun vs H Q E h => spG_len h) (fun cdv A outer s H vs Q E hr h => ⟨_,
  (pss_cons (ps_if (PW.pt (pw_or (pt_not (k_tru K (pe_callB (k_isi K) (by rfl) B.isinstance (by decide +kernel) (pa_cons (pv 0) (pa_cons (pe_bltn (v := .ty "tuple") (by rfl) B.tuple (by decide +kernel) rfl) pa_nil))) (by intro _; rfl))) (pw_or1 (pt_cmpR (k_ne K hr.units) (pe_callB (k_len K) (by rfl) B.len (by decide +kernel) (pa_cons (pv 0) pa_nil)) pe_int (nomark _)))))
    (pss_one (ps_ret pe_bl))
    pss_nil)
  (pss_cons (ps_asg (pv 0) (k_tup (n := 2) K rfl (pgs_cons (pg_name (i := 2) sc_is_place.nd rfl (by first | exact Or.inl rfl | exact Or.inr rfl)) (pgs_cons (pg_name (i := 3) sc_is_place.nd rfl (by first | exact Or.inl rfl | exact Or.inr rfl)) pgs_nil))))
  (pss_cons (ps_if (k_tru K (pe_callB (k_isi K) (by rfl) B.isinstance (by decide +kernel) (pa_cons (pv 2) (pa_cons (pe_bltn (v := .ty "str") (by rfl) B.str (by decide +kernel) rfl) pa_nil))) (by intro _; rfl))
    (pss_one (ps_ret (k_andT K (pe_cmpR (k_eq K hr.units) (pv 2) pe_str (nomark _)) (k_andT K (pe_cal c_is_whole hr (pa_cons (pv 3) pa_nil)) (pe_one (pe_chain op_le op_le (pe_un un_neg (pe_glob (v := .int 99) rfl q_MOST ⟨_, rfl⟩)) (pv 3) (pe_glob (v := .int 99) rfl q_MOST ⟨_, rfl⟩)))))))
    pss_nil)
  (pss_cons (ps_if (PW.pt (pw_or (pt_not (k_tru K (pe_cal c_is_whole hr (pa_cons (pv 2) pa_nil)) (by intro _; rfl))) (pw_or (pt_cmpR (k_notin K) (pv 2) (pe_tup (pa_cons pe_int (pa_cons pe_int pa_nil))) (by rfl)) (pw_or (pt_not (k_tru K (pe_callB (k_isi K) (by rfl) B.isinstance (by decide +kernel) (pa_cons (pv 3) (pa_cons (pe_bltn (v := .ty "tuple") (by rfl) B.tuple (by decide +kernel) rfl) pa_nil))) (by intro _; rfl))) (pw_or1 (pt_cmpR (k_eq K hr.units) (pv 3) (pe_tup pa_nil) (nomark _)))))))
    (pss_one (ps_ret pe_bl))
    pss_nil)
  (pss_cons (ps_if (pt_not (k_tru K (pe_callB (k_all K rfl) (by rfl) B.all (by decide +kernel) (pa_cons (pe_lc (own := [("move", 4)]) (by rfl) sc_is_place.nd (k_seq K (pv 3)) (blkOk_by (own := [("move", 4)]) (N := ["thing", "many", "first", "second", "move"]) (sc := defScope s_is_place) (by decide +kernel)) (fun _ _ _ _ _ => (pg_name (i := 4) sc_is_place.nd rfl (by first | exact Or.inl rfl | exact Or.inr rfl))) (fun _ _ _ _ _ => pts_nil) (fun _ _ _ _ _ => (k_andT K (pe_cal c_is_whole hr (pa_cons (pv 4) pa_nil)) (pe_one (pe_chain op_le op_lt pe_int (pv 4) (pv 1)))))) pa_nil)) (by intro _; rfl)))
    (pss_one (ps_ret pe_bl))
    pss_nil)
  (pss_one (ps_ret (pe_cmpR (k_eq K hr.units) (pe_callB (k_lenS (w := w)) (by rfl) B.len (by decide +kernel) (pa_cons (k_scI w (own := [("move", 4)]) (by rfl) sc_is_place.nd (k_seq K (pv 3)) (blkOk_by (own := [("move", 4)]) (N := ["thing", "many", "first", "second", "move"]) (sc := defScope s_is_place) (by decide +kernel)) (fun _ _ _ _ _ => (pg_name (i := 4) sc_is_place.nd rfl (by first | exact Or.inl rfl | exact Or.inr rfl))) (fun _ _ _ _ _ => pts_nil) (fun _ _ _ _ _ => (pv 4))) pa_nil)) (pe_callB (k_len K) (by rfl) B.len (by decide +kernel) (pa_cons (pv 3) pa_nil)) (nomark _))))))))), ?_⟩)
  try simp only [cxK]
  exact run_fn (x := m_is_place F_is_whole)
    ((x_seq (x_if (s_bor (s_bnot (s_tru (s_isi s_var))) (s_test (s_op ro_ne (s_cb rc_len (s_cons s_var s_nil)) s_int)))
    (x_ret s_bl)
    x_next)
  (x_seq (x_asgG s_var (b_tup (bs_cons b_name (bs_cons b_name bs_nil))))
  (x_seq (x_if (s_tru (s_isi s_var))
    (x_ret (s_and (s_op ro_eq s_var s_str) (s_and (s_call (s_vcons (s_vE s_var) s_vnil) (vn_cons vn_nil)) (s_chain ro_le ro_le (s_un ro_neg s_int) s_var s_int))))
    x_next)
  (x_seq (x_if (s_bor (s_bnot (s_tru (s_call (s_vcons (s_vE s_var) s_vnil) (vn_cons vn_nil)))) (s_bor (s_test (s_op ro_in s_var (s_tup (s_cons s_int (s_cons s_int s_nil))))) (s_bor (s_bnot (s_tru (s_isi s_var))) (s_test (s_op ro_eq s_var (s_tup s_nil))))))
    (x_ret s_bl)
    x_next)
  (x_seq (x_if (s_bnot (s_tru (s_cb rc_allD (s_cons (s_ofL (s_lc (vs := [4]) (s_iseq s_var) (gin_name (by decide)) gmono_name b_name s_yes (s_and (s_call (s_vcons (s_vE s_var) s_vnil) (vn_cons vn_nil)) (s_chain ro_le ro_lt s_int s_var s_var)))) s_nil))))
    (x_ret s_bl)
    x_next)
  (x_ret (s_op ro_eq (s_lenS (s_sc (vs := [4]) (s_iseq s_var) (gin_name (by decide)) gmono_name b_name s_yes s_var)) (s_cb rc_len (s_cons s_var s_nil))))))))))
    rfl h

theorem ok_is_game {f : Addr} {fd : FuncData} {k : Nat} {F_is_place : FS} (F : FunD K "is_game" "is_game" (defArgs s_is_game) (defBody s_is_game) (defScope s_is_game) [] [] f fd) (B : Bn mg)
    (c_is_place : Cal P w K mg base k "is_place" ["thing", "many"] (spG (kX P w K mg base (lw + 1) tb) 2 F_is_place)) :
    FnOk P w K mg base CX0 (k + 1) f fd ["thing"] (spG (kX P w K mg base (lw + 1) tb) 1 (fnS 2 (m_is_game F_is_place))) := by
  refine okD F sc_is_game (fun vs H Q E h => spG_len h) (fun cdv A outer s H vs Q E hr h => ⟨_,
  (pss_one (ps_ret (k_andT K (pe_callB (k_isi K) (by rfl) B.isinstance (by decide +kernel) (pa_cons (pv 0) (pa_cons (pe_bltn (v := .ty "tuple") (by rfl) B.tuple (by decide +kernel) rfl) pa_nil))) (k_andT K (pe_cmpR (k_ne K hr.units) (pv 0) (pe_tup pa_nil) (nomark _)) (pe_one (pe_callB (k_all K rfl) (by rfl) B.all (by decide +kernel) (pa_cons (pe_lc (own := [("place", 1)]) (by rfl) sc_is_game.nd (k_seq K (pv 0)) (blkOk_by (own := [("place", 1)]) (N := ["thing", "place"]) (sc := defScope s_is_game) (by decide +kernel)) (fun _ _ _ _ _ => (pg_name (i := 1) sc_is_game.nd rfl (by first | exact Or.inl rfl | exact Or.inr rfl))) (fun _ _ _ _ _ => pts_nil) (fun _ _ _ _ _ => (pe_cal c_is_place hr (pa_cons (pv 1) (pa_cons (pe_callB (k_len K) (by rfl) B.len (by decide +kernel) (pa_cons (pv 0) pa_nil)) pa_nil))))) pa_nil))))))), ?_⟩)
  try simp only [cxK]
  exact run_fn (x := m_is_game F_is_place)
    ((x_ret (s_and (s_isi s_var) (s_and (s_op ro_ne s_var (s_tup s_nil)) (s_cb rc_allD (s_cons (s_ofL (s_lc (vs := [1]) (s_iseq s_var) (gin_name (by decide)) gmono_name b_name s_yes (s_call (s_vcons (s_vE s_var) (s_vcons (s_vE (s_cb rc_len (s_cons s_var s_nil))) s_vnil)) (vn_cons (vn_cons vn_nil))))) s_nil))))))
    rfl h

theorem ok_moves_of {f : Addr} {fd : FuncData} {k : Nat} (F : FunD K "moves_of" "moves_of" (defArgs s_moves_of) (defBody s_moves_of) (defScope s_moves_of) [] [] f fd) (B : Bn mg)
     :
    FnOk P w K mg base CX0 (k + 1) f fd ["game", "place"] (spG (kX P w K mg base (lw + 1) tb) 2 (fnS 4 (m_moves_of ))) := by
  refine okD F sc_moves_of (fun vs H Q E h => spG_len h) (fun cdv A outer s H vs Q E hr h => ⟨_,
  (pss_cons (ps_asg (pe_ix (k_ix K) (pv 0) (pv 1) (fun _ _ => rfl)) (k_tup (n := 2) K rfl (pgs_cons (pg_name (i := 2) sc_moves_of.nd rfl (by first | exact Or.inl rfl | exact Or.inr rfl)) (pgs_cons (pg_name (i := 3) sc_moves_of.nd rfl (by first | exact Or.inl rfl | exact Or.inr rfl)) pgs_nil))))
  (pss_one (ps_ret (pe_ifExp (pt_cmpR (k_eq K hr.units) (pv 2) pe_str (nomark _)) (pe_tup pa_nil) (pv 3))))), ?_⟩)
  try simp only [cxK]
  exact run_fn (x := m_moves_of )
    ((x_seq (x_asgG (s_op ro_ix s_var s_var) (b_tup (bs_cons b_name (bs_cons b_name bs_nil))))
  (x_ret (s_if (s_test (s_op ro_eq s_var s_str)) (s_tup s_nil) s_var))))
    rfl h

theorem ok_order_of {f : Addr} {fd : FuncData} {k : Nat} {F_moves_of : FS} (F : FunD K "order_of" "order_of" (defArgs s_order_of) (defBody s_order_of) (defScope s_order_of) [] [] f fd) (B : Bn mg)
    (c_moves_of : Cal P w K mg base k "moves_of" ["game", "place"] (spG (kX P w K mg base (lw + 1) tb) 2 F_moves_of)) :
    FnOk P w K mg base CX0 (k + 1) f fd ["game"] (spG (kX P w K mg base (lw + 1) tb) 1 (fnS 8 (m_order_of F_moves_of))) := by
  refine okD F sc_order_of (fun vs H Q E h => spG_len h) (fun cdv A outer s H vs Q E hr h => ⟨_,
  (pss_cons (ps_setDc (i := 1) (own := [("place", 2)]) (by rfl) sc_order_of.nd rfl rfl (sw_trueD rfl rfl rfl (by decide +kernel)) (pi_range1 (by rfl) B.range (pa_cons (pe_callB (k_len K) (by rfl) B.len (by decide +kernel) (pa_cons (pv 0) pa_nil)) pa_nil)) (blkOk_by (own := [("place", 2)]) (N := ["game", "left", "place", "order", "ready", "many", "first", "rest"]) (sc := defScope s_order_of) (by decide +kernel)) (fun _ _ _ _ _ => (pg_name (i := 2) sc_order_of.nd rfl (by first | exact Or.inl rfl | exact Or.inr rfl))) (fun _ _ _ _ _ => pts_nil) (fun _ _ _ _ _ => (pv 2)) (fun _ _ _ _ _ => (pe_callB (k_len K) (by rfl) B.len (by decide +kernel) (pa_cons (pe_cal c_moves_of hr (pa_cons (pv 0) (pa_cons (pv 2) pa_nil))) pa_nil))))
  (pss_cons (ps_set (i := 3) sc_order_of.nd rfl (by first | exact Or.inl rfl | exact Or.inr rfl) (pe_lst pa_nil))
  (pss_cons (ps_while PassesOwn.never (k_tru K (pv 1) (by intro _; rfl))
    (pss_cons (ps_lock (ps_setLc (i := 4) (own := [("place", 2), ("many", 5)]) (by rfl) sc_order_of.nd rfl rfl (sw_true rfl rfl rfl (by decide +kernel)) (pi_items (pv 1)) (blkOk_by (own := [("place", 2), ("many", 5)]) (N := ["game", "left", "place", "order", "ready", "many", "first", "rest"]) (sc := defScope s_order_of) (by decide +kernel)) (fun _ _ _ _ _ => (k_tup (n := 2) K rfl (pgs_cons (pg_name (i := 2) sc_order_of.nd rfl (by first | exact Or.inl rfl | exact Or.inr rfl)) (pgs_cons (pg_name (i := 5) sc_order_of.nd rfl (by first | exact Or.inl rfl | exact Or.inr rfl)) pgs_nil)))) (fun _ _ _ _ _ => pts_one (pt_cmpR (k_eq K hr.units) (pv 5) pe_int (nomark _))) (fun _ _ _ _ _ => (pv 2))))
    (pss_cons (ps_if (pt_not (k_tru K (pv 4) (by intro _; rfl)))
      (pss_one (ps_ret pe_non))
      pss_nil)
    (pss_cons (ps_asg (pe_callB (k_sorted K) (by rfl) B.sorted (by decide +kernel) (pa_cons (pv 4) pa_nil)) (pg_star (n := 2) (i := 1) K rfl (pgs_cons (pg_name (i := 6) sc_order_of.nd rfl (by first | exact Or.inl rfl | exact Or.inr rfl)) (pgs_star (pg_name (i := 7) sc_order_of.nd rfl (by first | exact Or.inl rfl | exact Or.inr rfl)) pgs_nil)) (by decide)))
    (pss_cons (ps_expr (pe_bm PySem.F.plainAttrs_list PySem.F.slot_list_append PySem.F.type_list_append mt_append (pv 3) (pa_cons (pv 6) pa_nil)))
    (pss_cons (ps_expr (pe_dpop1 (pv 1) (pv 6) ⟨rfl, rfl, rfl, rfl⟩))
    (pss_one (ps_for PassesOwn.never rfl (k_seq K (pe_callTy (call_list_dK rfl) (by rfl) B.list (by decide +kernel) (pa_cons (pv 1) pa_nil))) (pg_name (i := 2) sc_order_of.nd rfl (by first | exact Or.inl rfl | exact Or.inr rfl))
      (pss_one (ps_if (pt_cmpR (k_in K) (pv 6) (pe_cal c_moves_of hr (pa_cons (pv 0) (pa_cons (pv 2) pa_nil))) (by rfl))
        (pss_one (ps_dput (un1 hr) (pv 1) (pv 2) (pe_op op_sub (pe_dget (un1 hr) (pv 1) (pv 2) (fun _ _ => rfl)) pe_int) rfl))
        pss_nil))))))))))
  (pss_one (ps_ret (pe_callTy (k_tuple K) (by rfl) B.tuple (by decide +kernel) (pa_cons (pv 3) pa_nil))))))), ?_⟩)
  try simp only [cxK]
  exact run_fn (x := m_order_of F_moves_of)
    ((x_seq (x_asgC (s_dc (vs := [2]) (s_irg1 (s_cb rc_len (s_cons s_var s_nil))) (gin_name (by decide)) gmono_name b_name s_yes s_var (s_cb rc_len (s_cons (s_call (s_vcons (s_vE s_var) (s_vcons (s_vE s_var) s_vnil)) (vn_cons (vn_cons vn_nil))) s_nil))))
  (x_seq (x_asgL (s_lst s_nil))
  (x_seq (x_pre (x_while s_truD
    (x_keep (x_seq (x_items (vs := [2, 5]) (by decide) (gin_tup (gins_cons (gin_name (by decide)) (gins_cons (gin_name (by decide)) gins_nil gmono_name) gmono_name)) (gmono_tup (gmonos_cons gmono_name (gmonos_cons gmono_name gmonos_nil))) (b_tup (bs_cons b_name (bs_cons b_name bs_nil))) (s_test (s_op ro_eq s_var s_int)) s_var)
    (x_seq (x_if (s_bnot (s_tru s_var))
      (x_ret s_non)
      x_next)
    (x_seq (x_asgG (s_cb rc_sortedD (s_cons s_var s_nil)) (b_star (bs_cons b_name (bs_cons b_name bs_nil))))
    (x_seq (x_app s_var)
    (x_seq (x_dpop s_var)
    (x_for (s_iwipe (s_iseq (s_ofL s_keys))) b_name
      (x_keep (x_if (s_test (s_op ro_in s_var (s_call (s_vcons (s_vE s_var) (s_vcons (s_vE s_var) s_vnil)) (vn_cons (vn_cons vn_nil)))))
        (x_dput s_var (s_op ro_sub (s_dget s_var) s_int))
        x_next)))))))))))
  (x_ret s_tupleV)))))
    rfl h

theorem ok_reach {f : Addr} {fd : FuncData} {k : Nat} {F_moves_of : FS} (F : FunD K "reach" "reach" (defArgs s_reach) (defBody s_reach) (defScope s_reach) [] [] f fd) (B : Bn mg)
    (c_moves_of : Cal P w K mg base k "moves_of" ["game", "place"] (spG (kX P w K mg base (lw + 1) tb) 2 F_moves_of)) :
    FnOk P w K mg base CX0 (k + 1) f fd ["game", "place"] (spG (kX P w K mg base (lw + 1) tb) 2 (fnS 5 (m_reach F_moves_of))) := by
  refine okD F sc_reach (fun vs H Q E h => spG_len h) (fun cdv A outer s H vs Q E hr h => ⟨_,
  (pss_cons (ps_par (i := 2) (j := 3) (by rfl) sc_reach.nd rfl rfl (by decide) rfl rfl (pa_cons (pe_disp (pps_cons (pv 1) pe_bl pps_nil) rfl rfl (by simp) (by simp)) (pa_cons (pe_lst (pa_cons (pv 1) pa_nil)) pa_nil)) (by rfl))
  (pss_cons (ps_while PassesOwn.never (k_tru K (pv 3) (by intro _; rfl))
    (pss_one (ps_for PassesOwn.never rfl (k_seq K (pe_cal c_moves_of hr (pa_cons (pv 0) (pa_cons (pe_bm0 PySem.F.plainAttrs_list PySem.F.slot_list_pop PySem.F.type_list_pop mt_pop (pv 3)) pa_nil)))) (pg_name (i := 4) sc_reach.nd rfl (by first | exact Or.inl rfl | exact Or.inr rfl))
      (pss_one (ps_if (pt_cmp (pc_dnotin (un1 hr) (pv 4) (pv 2)))
        (pss_cons (ps_dput (un1 hr) (pv 2) (pv 4) pe_bl rfl)
        (pss_one (ps_expr (pe_bm PySem.F.plainAttrs_list PySem.F.slot_list_append PySem.F.type_list_append mt_append (pv 3) (pa_cons (pv 4) pa_nil)))))
        pss_nil)))))
  (pss_one (ps_ret (pe_callTy (k_tuple K) (by rfl) B.tuple (by decide +kernel) (pa_cons (pe_callB (call_sortedDIu rfl) (by rfl) B.sorted (by decide +kernel) (pa_cons (pv 2) pa_nil)) pa_nil)))))), ?_⟩)
  try simp only [cxK]
  exact run_fn (x := m_reach F_moves_of)
    ((x_seq (x_parCL (s_done s_var s_bl) (s_lst (s_cons s_var s_nil)))
  (x_seq (x_pre (x_while s_truV
    (x_keep (x_for (s_iwipe (s_iseq (s_call (s_vcons (s_vE s_var) (s_vcons (s_vE s_pop) s_vnil)) (vn_cons (vn_cons vn_nil))))) b_name
      (x_keep (x_if (s_B (s_dnotin s_var))
        (x_seq (x_dput s_var s_bl)
        (x_app s_var))
        x_next))))))
  (x_ret (s_cb rc_tuple (s_cons (s_ofL s_sortK) s_nil))))))
    rfl h

theorem ok_turned {f : Addr} {fd : FuncData} {k : Nat} (F : FunD K "turned" "turned" (defArgs s_turned) (defBody s_turned) (defScope s_turned) [] [] f fd) (B : Bn mg)
     :
    FnOk P w K mg base CX0 (k + 1) f fd ["game"] (spG (kX P w K mg base (lw + 1) tb) 1 (fnS 3 (m_turned ))) := by
  refine okD F sc_turned (fun vs H Q E h => spG_len h) (fun cdv A outer s H vs Q E hr h => ⟨_,
  (pss_one (ps_ret (pe_callTy (k_tuple K) (by rfl) B.tuple (by decide +kernel) (pa_cons (pe_lc (own := [("side", 1), ("more", 2)]) (by rfl) sc_turned.nd (k_seq K (pv 0)) (blkOk_by (own := [("side", 1), ("more", 2)]) (N := ["game", "side", "more"]) (sc := defScope s_turned) (by decide +kernel)) (fun _ _ _ _ _ => (k_tup (n := 2) K rfl (pgs_cons (pg_name (i := 1) sc_turned.nd rfl (by first | exact Or.inl rfl | exact Or.inr rfl)) (pgs_cons (pg_name (i := 2) sc_turned.nd rfl (by first | exact Or.inl rfl | exact Or.inr rfl)) pgs_nil)))) (fun _ _ _ _ _ => pts_nil) (fun _ _ _ _ _ => (pe_ifExp (pt_cmpR (k_eq K hr.units) (pv 1) pe_str (nomark _)) (pe_tup (pa_cons pe_str (pa_cons (pe_un un_neg (pv 2)) pa_nil))) (pe_tup (pa_cons (pe_op op_sub pe_int (pv 1)) (pa_cons (pv 2) pa_nil)))))) pa_nil)))), ?_⟩)
  try simp only [cxK]
  exact run_fn (x := m_turned )
    ((x_ret (s_cb rc_tuple (s_cons (s_ofL (s_lc (vs := [1, 2]) (s_iseq s_var) (gin_tup (gins_cons (gin_name (by decide)) (gins_cons (gin_name (by decide)) gins_nil gmono_name) gmono_name)) (gmono_tup (gmonos_cons gmono_name (gmonos_cons gmono_name gmonos_nil))) (b_tup (bs_cons b_name (bs_cons b_name bs_nil))) s_yes (s_if (s_test (s_op ro_eq s_var s_str)) (s_tup (s_cons s_str (s_cons (s_un ro_neg s_var) s_nil))) (s_tup (s_cons (s_op ro_sub s_int s_var) (s_cons s_var s_nil)))))) s_nil))))
    rfl h

theorem ok_all_papers {f : Addr} {fd : FuncData} {k : Nat} {F_order_of F_moves_of : FS} (F : FunD K "all_papers" "all_papers" (defArgs s_all_papers) (defBody s_all_papers) (defScope s_all_papers) [] [] f fd) (B : Bn mg)
    (c_order_of : Cal P w K mg base k "order_of" ["game"] (spG (kX P w K mg base (lw + 1) tb) 1 F_order_of))
    (c_moves_of : Cal P w K mg base k "moves_of" ["game", "place"] (spG (kX P w K mg base (lw + 1) tb) 2 F_moves_of))
    (lvk : lw + 1 ≤ k) :
    FnOk P w K mg base CX0 (k + 1) f fd ["game", "goal", "choose"] (spG (kX P w K mg base (lw + 1) tb) 3 (fnS 10 (m_all_papers F_order_of F_moves_of))) := by
  refine okD F sc_all_papers (fun vs H Q E h => spG_len h) (fun cdv A outer s H vs Q E hr h => ⟨_,
  (pss_cons (ps_set (i := 3) sc_all_papers.nd rfl (by first | exact Or.inl rfl | exact Or.inr rfl) pe_dnewK)
  (pss_cons (ps_for PassesOwn.never rfl (k_seq K (pe_cal c_order_of hr (pa_cons (pv 0) pa_nil))) (pg_name (i := 4) sc_all_papers.nd rfl (by first | exact Or.inl rfl | exact Or.inr rfl))
    (pss_cons (ps_asg (pe_ix (k_ix K) (pv 0) (pv 4) (fun _ _ => rfl)) (k_tup (n := 2) K rfl (pgs_cons (pg_name (i := 5) sc_all_papers.nd rfl (by first | exact Or.inl rfl | exact Or.inr rfl)) (pgs_cons (pg_name (i := 6) sc_all_papers.nd rfl (by first | exact Or.inl rfl | exact Or.inr rfl)) pgs_nil))))
    (pss_cons (ps_setLc (i := 7) (own := [("move", 8)]) (by rfl) sc_all_papers.nd rfl rfl (sw_true rfl rfl rfl (by decide +kernel)) (k_seq K (pe_cal c_moves_of hr (pa_cons (pv 0) (pa_cons (pv 4) pa_nil)))) (blkOk_by (own := [("move", 8)]) (N := ["game", "goal", "choose", "found", "place", "side", "more", "some", "move", "part"]) (sc := defScope s_all_papers) (by decide +kernel)) (fun _ _ _ _ _ => (pg_name (i := 8) sc_all_papers.nd rfl (by first | exact Or.inl rfl | exact Or.inr rfl))) (fun _ _ _ _ _ => pts_one (pt_cmp (pc_notN (pe_dget (un1 hr) (pv 3) (pv 8) (fun _ _ => rfl))))) (fun _ _ _ _ _ => (pe_tup (pa_cons (pv 8) (pa_cons (pe_dget (un1 hr) (pv 3) (pv 8) (fun _ _ => rfl)) pa_nil)))))
    (pss_one (ps_if (pt_cmpR (k_eq K hr.units) (pv 5) pe_str (nomark _))
      (pss_one (ps_dput (un1 hr) (pv 3) (pv 4) (pe_ifExp (pt_cmpR op_ge (pv 6) (pv 1) (nomark _)) (pe_tup pa_nil) pe_non) rfl))
      (pss_one (ps_if (pt_cmpR (k_eq K hr.units) (pv 5) pe_int (nomark _))
        (pss_one (ps_dput (un1 hr) (pv 3) (pv 4) (pe_ifExp (k_tru K (pv 7) (by intro _; rfl)) (pe_callF (K := (kX P w K mg base (lw + 1) tb)) (i := 2) ⟨rfl, rfl, rfl, rfl, rfl⟩ (hr.mono lvk) rfl (by first | exact .inl rfl | exact .inr (.inl rfl) | exact .inr (.inr rfl)) (pa_cons (pv 7) pa_nil)) pe_non) rfl))
        (pss_one (ps_dput (un1 hr) (pv 3) (pv 4) (pe_ifExp (pt_cmpR (k_eq K hr.units) (pe_callB (k_len K) (by rfl) B.len (by decide +kernel) (pa_cons (pv 7) pa_nil)) (pe_callB (k_len K) (by rfl) B.len (by decide +kernel) (pa_cons (pv 6) pa_nil)) (nomark _)) (pe_callTy (k_tuple K) (by rfl) B.tuple (by decide +kernel) (pa_cons (pe_lc (own := [("move", 8), ("part", 9)]) (by rfl) sc_all_papers.nd (k_seq K (pv 7)) (blkOk_by (own := [("move", 8), ("part", 9)]) (N := ["game", "goal", "choose", "found", "place", "side", "more", "some", "move", "part"]) (sc := defScope s_all_papers) (by decide +kernel)) (fun _ _ _ _ _ => (k_tup (n := 2) K rfl (pgs_cons (pg_name (i := 8) sc_all_papers.nd rfl (by first | exact Or.inl rfl | exact Or.inr rfl)) (pgs_cons (pg_name (i := 9) sc_all_papers.nd rfl (by first | exact Or.inl rfl | exact Or.inr rfl)) pgs_nil)))) (fun _ _ _ _ _ => pts_nil) (fun _ _ _ _ _ => (pv 9))) pa_nil)) pe_non) rfl)))))))))
  (pss_one (ps_ret (pv 3))))), ?_⟩)
  try simp only [cxK]
  exact run_fn (x := m_all_papers F_order_of F_moves_of)
    ((x_seq (x_asgC s_dnew)
  (x_seq (x_for (s_iwipe (s_iseq (s_call (s_vcons (s_vE s_var) s_vnil) (vn_cons vn_nil)))) b_name
    (x_keep (x_seq (x_asgG (s_op ro_ix s_var s_var) (b_tup (bs_cons b_name (bs_cons b_name bs_nil))))
    (x_seq (x_asg (s_ofL (s_lc (vs := [8]) (s_iseq (s_call (s_vcons (s_vE s_var) (s_vcons (s_vE s_var) s_vnil)) (vn_cons (vn_cons vn_nil)))) (gin_name (by decide)) gmono_name b_name (s_B (s_notN (s_dget s_var))) (s_tup (s_cons s_var (s_cons (s_dget s_var) s_nil))))))
    (x_if (s_test (s_op ro_eq s_var s_str))
      (x_dput s_var (s_if (s_test (s_op ro_ge s_var s_var)) (s_tup s_nil) s_non))
      (x_if (s_test (s_op ro_eq s_var s_int))
        (x_dput s_var (s_if (s_tru s_var) (s_callF (s_cons s_var s_nil)) s_non))
        (x_dput s_var (s_if (s_test (s_op ro_eq (s_cb rc_len (s_cons s_var s_nil)) (s_cb rc_len (s_cons s_var s_nil)))) (s_cb rc_tuple (s_cons (s_ofL (s_lc (vs := [8, 9]) (s_iseq s_var) (gin_tup (gins_cons (gin_name (by decide)) (gins_cons (gin_name (by decide)) gins_nil gmono_name) gmono_name)) (gmono_tup (gmonos_cons gmono_name (gmonos_cons gmono_name gmonos_nil))) (b_tup (bs_cons b_name (bs_cons b_name bs_nil))) s_yes s_var)) s_nil)) s_non))))))))
  x_retD)))
    rfl h

theorem ok_paper_for {f : Addr} {fd : FuncData} {k : Nat} {F_all_papers : FS} (F : FunD K "paper_for" "paper_for" (defArgs s_paper_for) (defBody s_paper_for) (defScope s_paper_for) [] [] f fd) (B : Bn mg) {cd : Value} (hcd : fd.code = cd) (ta : TabAt (kX P w K mg base (lw + 1) tb) cd (qLam "paper_for"))
    (c_all_papers : Cal P w K mg base k "all_papers" ["game", "goal", "choose"] (spG (kX P w K mg base (lw + 1) tb) 3 F_all_papers)) :
    FnOk P w K mg base CX0 (k + 1) f fd ["game", "place", "goal"] (spG (kX P w K mg base (lw + 1) tb) 3 (fnS 3 (m_paper_for F_all_papers))) := by
  refine okCD F hcd sc_paper_for (fun vs H Q E h => spG_len h) (fun A outer s H vs Q E hr h => ⟨_,
  (pss_one (ps_ret (pe_dget (un1 hr) (pe_cal c_all_papers hr (pa_cons (pv 0) (pa_cons (pv 2) (pa_cons (pe_lamV (K := (kX P w K mg base (lw + 1) tb)) (F := y_paper_for_1 F_all_papers) (N := ["some"]) (names := ["some"]) ⟨rfl, rfl, rfl, rfl, rfl⟩ (by exact ta) (by rfl) (by exact ⟨rfl, rfl, rfl, by decide +kernel, rfl, by decide +kernel, by decide +kernel⟩) rfl (by exact lamF_len) (by intro _ _ _ _ us hl; exact match us, hl with | [_], _ => rfl) (fun f c' A outer s H vs Q hr h => ⟨_, (pe_ix (k_ix K) (pv 0) pe_int (fun _ _ => rfl)), by (try simp only [cxK]); exact lam_body (s_op ro_ix s_var s_int) rfl h⟩)) pa_nil)))) (pv 1) (fun _ _ => rfl)))), ?_⟩)
  try simp only [cxK]
  exact run_fn (x := m_paper_for F_all_papers)
    ((x_ret (s_callDg (s_vcons (s_vE s_var) (s_vcons (s_vE s_var) (s_vcons s_lam s_vnil))) (vn_cons (vn_cons (vn_cons vn_nil))))))
    rfl h

theorem ok_paper_against {f : Addr} {fd : FuncData} {k : Nat} {F_paper_for F_turned : FS} (F : FunD K "paper_against" "paper_against" (defArgs s_paper_against) (defBody s_paper_against) (defScope s_paper_against) [] [] f fd) (B : Bn mg)
    (c_paper_for : Cal P w K mg base k "paper_for" ["game", "place", "goal"] (spG (kX P w K mg base (lw + 1) tb) 3 F_paper_for))
    (c_turned : Cal P w K mg base k "turned" ["game"] (spG (kX P w K mg base (lw + 1) tb) 1 F_turned)) :
    FnOk P w K mg base CX0 (k + 1) f fd ["game", "place", "goal"] (spG (kX P w K mg base (lw + 1) tb) 3 (fnS 3 (m_paper_against F_paper_for F_turned))) := by
  refine okD F sc_paper_against (fun vs H Q E h => spG_len h) (fun cdv A outer s H vs Q E hr h => ⟨_,
  (pss_one (ps_ret (pe_cal c_paper_for hr (pa_cons (pe_cal c_turned hr (pa_cons (pv 0) pa_nil)) (pa_cons (pv 1) (pa_cons (pe_op op_sub pe_int (pv 2)) pa_nil)))))), ?_⟩)
  try simp only [cxK]
  exact run_fn (x := m_paper_against F_paper_for F_turned)
    ((x_ret (s_call (s_vcons (s_vE (s_call (s_vcons (s_vE s_var) s_vnil) (vn_cons vn_nil))) (s_vcons (s_vE s_var) (s_vcons (s_vE (s_op ro_sub s_int s_var)) s_vnil))) (vn_cons (vn_cons (vn_cons vn_nil))))))
    rfl h

theorem ok_choice {f : Addr} {fd : FuncData} {k : Nat} (F : FunD K "choice" "choice" (defArgs s_choice) (defBody s_choice) (defScope s_choice) [] [] f fd) (B : Bn mg)
     :
    FnOk P w K mg base CX0 (k + 1) f fd ["side", "row"] (spG (kX P w K mg base (lw + 1) tb) 2 (fnS 2 (m_choice ))) := by
  refine okD F sc_choice (fun vs H Q E h => spG_len h) (fun cdv A outer s H vs Q E hr h => ⟨_,
  (pss_one (ps_ret (pe_ifExp (pt_cmpR (k_eq K hr.units) (pv 0) pe_int (nomark _)) (pe_callB (k_max K rfl) (by rfl) B.max (by decide +kernel) (pa_cons (pv 1) pa_nil)) (pe_callB (k_min K rfl) (by rfl) B.min (by decide +kernel) (pa_cons (pv 1) pa_nil))))), ?_⟩)
  try simp only [cxK]
  exact run_fn (x := m_choice )
    ((x_ret (s_if (s_test (s_op ro_eq s_var s_int)) (s_cb rc_maxD (s_cons s_var s_nil)) (s_cb rc_minD (s_cons s_var s_nil)))))
    rfl h

theorem ok_worths {f : Addr} {fd : FuncData} {k : Nat} {F_order_of F_choice : FS} (F : FunD K "worths" "worths" (defArgs s_worths) (defBody s_worths) (defScope s_worths) [] [] f fd) (B : Bn mg)
    (c_order_of : Cal P w K mg base k "order_of" ["game"] (spG (kX P w K mg base (lw + 1) tb) 1 F_order_of))
    (c_choice : Cal P w K mg base k "choice" ["side", "row"] (spG (kX P w K mg base (lw + 1) tb) 2 F_choice)) :
    FnOk P w K mg base CX0 (k + 1) f fd ["game"] (spG (kX P w K mg base (lw + 1) tb) 1 (fnS 6 (m_worths F_order_of F_choice))) := by
  refine okD F sc_worths (fun vs H Q E h => spG_len h) (fun cdv A outer s H vs Q E hr h => ⟨_,
  (pss_cons (ps_set (i := 1) sc_worths.nd rfl (by first | exact Or.inl rfl | exact Or.inr rfl) pe_dnewK)
  (pss_cons (ps_for PassesOwn.never rfl (k_seq K (pe_cal c_order_of hr (pa_cons (pv 0) pa_nil))) (pg_name (i := 2) sc_worths.nd rfl (by first | exact Or.inl rfl | exact Or.inr rfl))
    (pss_cons (ps_asg (pe_ix (k_ix K) (pv 0) (pv 2) (fun _ _ => rfl)) (k_tup (n := 2) K rfl (pgs_cons (pg_name (i := 3) sc_worths.nd rfl (by first | exact Or.inl rfl | exact Or.inr rfl)) (pgs_cons (pg_name (i := 4) sc_worths.nd rfl (by first | exact Or.inl rfl | exact Or.inr rfl)) pgs_nil))))
    (pss_one (ps_dput (un1 hr) (pv 1) (pv 2) (pe_ifExp (pt_cmpR (k_eq K hr.units) (pv 3) pe_str (nomark _)) (pv 4) (pe_cal c_choice hr (pa_cons (pv 3) (pa_cons (pe_lc (own := [("move", 5)]) (by rfl) sc_worths.nd (k_seq K (pv 4)) (blkOk_by (own := [("move", 5)]) (N := ["game", "found", "place", "side", "more", "move"]) (sc := defScope s_worths) (by decide +kernel)) (fun _ _ _ _ _ => (pg_name (i := 5) sc_worths.nd rfl (by first | exact Or.inl rfl | exact Or.inr rfl))) (fun _ _ _ _ _ => pts_nil) (fun _ _ _ _ _ => (pe_dget (un1 hr) (pv 1) (pv 5) (fun _ _ => rfl)))) pa_nil)))) rfl))))
  (pss_one (ps_ret (pe_callTy (k_tuple K) (by rfl) B.tuple (by decide +kernel) (pa_cons (pe_lc (own := [("place", 2)]) (by rfl) sc_worths.nd (pi_range1 (by rfl) B.range (pa_cons (pe_callB (k_len K) (by rfl) B.len (by decide +kernel) (pa_cons (pv 0) pa_nil)) pa_nil)) (blkOk_by (own := [("place", 2)]) (N := ["game", "found", "place", "side", "more", "move"]) (sc := defScope s_worths) (by decide +kernel)) (fun _ _ _ _ _ => (pg_name (i := 2) sc_worths.nd rfl (by first | exact Or.inl rfl | exact Or.inr rfl))) (fun _ _ _ _ _ => pts_nil) (fun _ _ _ _ _ => (pe_dget (un1 hr) (pv 1) (pv 2) (fun _ _ => rfl)))) pa_nil)))))), ?_⟩)
  try simp only [cxK]
  exact run_fn (x := m_worths F_order_of F_choice)
    ((x_seq (x_asgC s_dnew)
  (x_seq (x_for (s_iwipe (s_iseq (s_call (s_vcons (s_vE s_var) s_vnil) (vn_cons vn_nil)))) b_name
    (x_keep (x_seq (x_asgG (s_op ro_ix s_var s_var) (b_tup (bs_cons b_name (bs_cons b_name bs_nil))))
    (x_dput s_var (s_if (s_test (s_op ro_eq s_var s_str)) s_var (s_call (s_vcons (s_vE s_var) (s_vcons (s_vE (s_ofL (s_lc (vs := [5]) (s_iseq s_var) (gin_name (by decide)) gmono_name b_name s_yes (s_dget s_var)))) s_vnil)) (vn_cons (vn_cons vn_nil))))))))
  (x_ret (s_cb rc_tuple (s_cons (s_ofL (s_lc (vs := [2]) (s_irg1 (s_cb rc_len (s_cons s_var s_nil))) (gin_name (by decide)) gmono_name b_name s_yes (s_dget s_var))) s_nil))))))
    rfl h

theorem ok_best_moves {f : Addr} {fd : FuncData} {k : Nat} {F_worths F_moves_of : FS} (F : FunD K "best_moves" "best_moves" (defArgs s_best_moves) (defBody s_best_moves) (defScope s_best_moves) [] [] f fd) (B : Bn mg)
    (c_worths : Cal P w K mg base k "worths" ["game"] (spG (kX P w K mg base (lw + 1) tb) 1 F_worths))
    (c_moves_of : Cal P w K mg base k "moves_of" ["game", "place"] (spG (kX P w K mg base (lw + 1) tb) 2 F_moves_of)) :
    FnOk P w K mg base CX0 (k + 1) f fd ["game", "place"] (spG (kX P w K mg base (lw + 1) tb) 2 (fnS 4 (m_best_moves F_worths F_moves_of))) := by
  refine okD F sc_best_moves (fun vs H Q E h => spG_len h) (fun cdv A outer s H vs Q E hr h => ⟨_,
  (pss_cons (ps_set (i := 2) sc_best_moves.nd rfl (by first | exact Or.inl rfl | exact Or.inr rfl) (pe_cal c_worths hr (pa_cons (pv 0) pa_nil)))
  (pss_one (ps_ret (pe_callTy (k_tuple K) (by rfl) B.tuple (by decide +kernel) (pa_cons (pe_lc (own := [("move", 3)]) (by rfl) sc_best_moves.nd (k_seq K (pe_cal c_moves_of hr (pa_cons (pv 0) (pa_cons (pv 1) pa_nil)))) (blkOk_by (own := [("move", 3)]) (N := ["game", "place", "found", "move"]) (sc := defScope s_best_moves) (by decide +kernel)) (fun _ _ _ _ _ => (pg_name (i := 3) sc_best_moves.nd rfl (by first | exact Or.inl rfl | exact Or.inr rfl))) (fun _ _ _ _ _ => pts_one (pt_cmpR (k_eq K hr.units) (pe_ix (k_ix K) (pv 2) (pv 3) (fun _ _ => rfl)) (pe_ix (k_ix K) (pv 2) (pv 1) (fun _ _ => rfl)) (nomark _))) (fun _ _ _ _ _ => (pv 3))) pa_nil))))), ?_⟩)
  try simp only [cxK]
  exact run_fn (x := m_best_moves F_worths F_moves_of)
    ((x_seq (x_asg (s_call (s_vcons (s_vE s_var) s_vnil) (vn_cons vn_nil)))
  (x_ret (s_cb rc_tuple (s_cons (s_ofL (s_lc (vs := [3]) (s_iseq (s_call (s_vcons (s_vE s_var) (s_vcons (s_vE s_var) s_vnil)) (vn_cons (vn_cons vn_nil)))) (gin_name (by decide)) gmono_name b_name (s_test (s_op ro_eq (s_op ro_ix s_var s_var) (s_op ro_ix s_var s_var))) s_var)) s_nil)))))
    rfl h

theorem ok_l_draw {f : Addr} {fd : FuncData} {k : Nat} (F : FunD K "_law_draw" "_law_draw" (defArgs s_l_draw) (defBody s_l_draw) (defScope s_l_draw) [] [] f fd) (B : Bn mg)
     :
    FnOk P w K mg base CX0 (k + 1) f fd ["_law_script", "_law_town", "_law_many"] (spG (kX P w K mg base (lw + 1) tb) 3 (fnS 8 (m_l_draw ))) := by
  refine okD F sc_l_draw (fun vs H Q E h => spG_len h) (fun cdv A outer s H vs Q E hr h => ⟨_,
  (pss_cons (ps_if (pt_not (k_tru K (pv 1) (by intro _; rfl)))
    (pss_one (ps_expr (pe_bm PySem.F.plainAttrs_list PySem.F.slot_list_append PySem.F.type_list_append mt_append (pv 1) (pa_cons (pe_callB (k_max K rfl) (by rfl) B.max (by decide +kernel) (pa_cons (pe_op (k_plus K) (pe_lc (own := [("_law_cell", 3)]) (by rfl) sc_l_draw.nd (k_seq K (pv 0)) (blkOk_by (own := [("_law_cell", 3)]) (N := ["_law_script", "_law_town", "_law_many", "_law_cell", "_law_k", "_law_digits", "_law_number", "_law_more"]) (sc := defScope s_l_draw) (by decide +kernel)) (fun _ _ _ _ _ => (pg_name (i := 3) sc_l_draw.nd rfl (by first | exact Or.inl rfl | exact Or.inr rfl))) (fun _ _ _ _ _ => pts_nil) (fun _ _ _ _ _ => (pe_callB call_abs (by rfl) B.abs (by decide +kernel) (pa_cons (pv 3) pa_nil)))) (pe_lst (pa_cons pe_int pa_nil))) pa_nil)) pa_nil))))
    pss_nil)
  (pss_cons (ps_expr (pe_bm PySem.F.plainAttrs_list PySem.F.slot_list_append PySem.F.type_list_append mt_append (pv 1) (pa_cons pe_int pa_nil)))
  (pss_cons (ps_set (i := 4) sc_l_draw.nd rfl (by first | exact Or.inl rfl | exact Or.inr rfl) (pe_callB (k_len K) (by rfl) B.len (by decide +kernel) (pa_cons (pv 1) pa_nil)))
  (pss_cons (ps_set (i := 3) sc_l_draw.nd rfl (by first | exact Or.inl rfl | exact Or.inr rfl) (pe_ifExp (k_tru K (pv 0) (by intro _; rfl)) (pe_ix (k_ix K) (pv 0) (pe_op op_mod (pv 4) (pe_callB (k_len K) (by rfl) B.len (by decide +kernel) (pa_cons (pv 0) pa_nil))) (fun _ _ => rfl)) pe_int))
  (pss_cons (ps_set (i := 5) sc_l_draw.nd rfl (by first | exact Or.inl rfl | exact Or.inr rfl) (pe_op op_mod (pe_ix (k_ix K) (pv 1) pe_int (fun _ _ => rfl)) pe_int))
  (pss_cons (ps_asg (pe_op op_fdiv (pe_ix (k_ix K) (pv 1) pe_int (fun _ _ => rfl)) pe_int) (pg_sub (pv 1) pe_int set_list))
  (pss_cons (ps_set (i := 6) sc_l_draw.nd rfl (by first | exact Or.inl rfl | exact Or.inr rfl) (pe_op op_mod (pe_op (k_plus K) (pe_op (k_plus K) (pv 3) (pe_op op_times pe_int (pv 5))) (pe_op op_times pe_int (pv 4))) pe_int))
  (pss_cons (ps_set (i := 6) sc_l_draw.nd rfl (by first | exact Or.inl rfl | exact Or.inr rfl) (pe_op op_mod (pe_op op_times (pe_op op_mod (pe_op op_times (pv 6) (pv 6)) pe_int) pe_int) pe_int))
  (pss_cons (ps_set (i := 7) sc_l_draw.nd rfl (by first | exact Or.inl rfl | exact Or.inr rfl) (pe_op op_mod (pe_op op_times (pe_op op_mod (pe_op op_times (pv 6) (pv 6)) pe_int) pe_int) pe_int))
  (pss_one (ps_ret (pe_op op_mod (pe_op (k_plus K) (pe_op op_times (pe_op op_fdiv (pv 6) pe_int) pe_int) (pe_op op_fdiv (pv 7) pe_int)) (pv 2))))))))))))), ?_⟩)
  try simp only [cxK]
  exact run_fn (x := m_l_draw )
    ((x_seq (x_if (s_bnot s_truV)
    (x_app (s_cb rc_maxD (s_cons (s_op ro_plus (s_ofL (s_lc (vs := [3]) (s_iseq s_var) (gin_name (by decide)) gmono_name b_name s_yes (s_cb rc_absD (s_cons s_var s_nil)))) (s_ofL (s_lst (s_cons s_int s_nil)))) s_nil)))
    x_next)
  (x_seq (x_app s_int)
  (x_seq (x_asg s_lenV)
  (x_seq (x_asg (s_if (s_tru s_var) (s_op ro_ix s_var (s_op ro_mod s_var (s_cb rc_len (s_cons s_var s_nil)))) s_int))
  (x_seq (x_asg (s_op ro_mod (s_ixV s_int) s_int))
  (x_seq (x_setI s_int (s_op ro_fdiv (s_ixV s_int) s_int))
  (x_seq (x_asg (s_op ro_mod (s_op ro_plus (s_op ro_plus s_var (s_op ro_times s_int s_var)) (s_op ro_times s_int s_var)) s_int))
  (x_seq (x_asg (s_op ro_mod (s_op ro_times (s_op ro_mod (s_op ro_times s_var s_var) s_int) s_int) s_int))
  (x_seq (x_asg (s_op ro_mod (s_op ro_times (s_op ro_mod (s_op ro_times s_var s_var) s_int) s_int) s_int))
  (x_ret (s_op ro_mod (s_op ro_plus (s_op ro_times (s_op ro_fdiv s_var s_int) s_int) (s_op ro_fdiv s_var s_int)) s_var))))))))))))
    rfl h

theorem ok_l_bits {f : Addr} {fd : FuncData} {k : Nat} (F : FunD K "_law_bits" "_law_bits" (defArgs s_l_bits) (defBody s_l_bits) (defScope s_l_bits) [] [] f fd) (B : Bn mg)
     :
    FnOk P w K mg base CX0 (k + 1) f fd ["_law_piles"] (spG (kX P w K mg base (lw + 1) tb) 1 (fnS 5 (m_l_bits ))) := by
  refine okD F sc_l_bits (fun vs H Q E h => spG_len h) (fun cdv A outer s H vs Q E hr h => ⟨_,
  (pss_cons (ps_set (i := 1) sc_l_bits.nd rfl (by first | exact Or.inl rfl | exact Or.inr rfl) pe_int)
  (pss_cons (ps_for PassesOwn.never rfl (k_seq K (pe_tup (pa_cons pe_int (pa_cons pe_int (pa_cons pe_int (pa_cons pe_int pa_nil)))))) (pg_name (i := 2) sc_l_bits.nd rfl (by first | exact Or.inl rfl | exact Or.inr rfl))
    (pss_cons (ps_set (i := 3) sc_l_bits.nd rfl (by first | exact Or.inl rfl | exact Or.inr rfl) (pe_callB (k_len K) (by rfl) B.len (by decide +kernel) (pa_cons (pe_lc (own := [("_law_pile", 4)]) (by rfl) sc_l_bits.nd (k_seq K (pv 0)) (blkOk_by (own := [("_law_pile", 4)]) (N := ["_law_piles", "_law_total", "_law_power", "_law_ones", "_law_pile"]) (sc := defScope s_l_bits) (by decide +kernel)) (fun _ _ _ _ _ => (pg_name (i := 4) sc_l_bits.nd rfl (by first | exact Or.inl rfl | exact Or.inr rfl))) (fun _ _ _ _ _ => pts_one (pt_cmpR (k_eq K hr.units) (pe_op op_sub (pe_op op_fdiv (pv 4) (pv 2)) (pe_op op_times (pe_op op_fdiv (pv 4) (pe_op op_times pe_int (pv 2))) pe_int)) pe_int (nomark _))) (fun _ _ _ _ _ => (pv 4))) pa_nil)))
    (pss_one (ps_set (i := 1) sc_l_bits.nd rfl (by first | exact Or.inl rfl | exact Or.inr rfl) (pe_op (k_plus K) (pv 1) (pe_op op_times (pv 2) (pe_op op_sub (pv 3) (pe_op op_times (pe_op op_fdiv (pv 3) pe_int) pe_int))))))))
  (pss_one (ps_ret (pv 1))))), ?_⟩)
  try simp only [cxK]
  exact run_fn (x := m_l_bits )
    ((x_seq (x_asg s_int)
  (x_seq (x_for (s_iwipe (s_iseq (s_tup (s_cons s_int (s_cons s_int (s_cons s_int (s_cons s_int s_nil))))))) b_name
    (x_keep (x_seq (x_asg (s_cb rc_len (s_cons (s_ofL (s_lc (vs := [4]) (s_iseq s_var) (gin_name (by decide)) gmono_name b_name (s_test (s_op ro_eq (s_op ro_sub (s_op ro_fdiv s_var s_var) (s_op ro_times (s_op ro_fdiv s_var (s_op ro_times s_int s_var)) s_int)) s_int)) s_var)) s_nil)))
    (x_asg (s_op ro_plus s_var (s_op ro_times s_var (s_op ro_sub s_var (s_op ro_times (s_op ro_fdiv s_var s_int) s_int))))))))
  (x_ret s_var))))
    rfl h

theorem ok_l_game_holds {f : Addr} {fd : FuncData} {k : Nat} {F_worths F_reach F_order_of F_is_game F_paper_for F_paper_against F_best_moves : FS} (F : FunD K "_law_game_holds" "_law_game_holds" (defArgs s_l_game_holds) (defBody s_l_game_holds) (defScope s_l_game_holds) [] [] f fd) (B : Bn mg)
    (c_worths : Cal P w K mg base k "worths" ["game"] (spG (kX P w K mg base (lw + 1) tb) 1 F_worths))
    (c_reach : Cal P w K mg base k "reach" ["game", "place"] (spG (kX P w K mg base (lw + 1) tb) 2 F_reach))
    (c_order_of : Cal P w K mg base k "order_of" ["game"] (spG (kX P w K mg base (lw + 1) tb) 1 F_order_of))
    (c_is_game : Cal P w K mg base k "is_game" ["thing"] (spG (kX P w K mg base (lw + 1) tb) 1 F_is_game))
    (c_paper_for : Cal P w K mg base k "paper_for" ["game", "place", "goal"] (spG (kX P w K mg base (lw + 1) tb) 3 F_paper_for))
    (c_paper_against : Cal P w K mg base k "paper_against" ["game", "place", "goal"] (spG (kX P w K mg base (lw + 1) tb) 3 F_paper_against))
    (c_best_moves : Cal P w K mg base k "best_moves" ["game", "place"] (spG (kX P w K mg base (lw + 1) tb) 2 F_best_moves)) :
    FnOk P w K mg base CX0 (k + 1) f fd ["_law_game", "_law_won"] (spG (kX P w K mg base (lw + 1) tb) 2 (fnS 8 (m_l_game_holds F_worths F_reach F_order_of F_is_game F_paper_for F_paper_against F_best_moves))) := by
  refine okD F sc_l_game_holds (fun vs H Q E h => spG_len h) (fun cdv A outer s H vs Q E hr h => ⟨_,
  (pss_cons (ps_set (i := 2) sc_l_game_holds.nd rfl (by first | exact Or.inl rfl | exact Or.inr rfl) (pe_cal c_worths hr (pa_cons (pv 0) pa_nil)))
  (pss_cons (ps_if (PW.pt (pw_or (pt_cmpR op_notB (pe_cal c_is_game hr (pa_cons (pv 0) pa_nil)) pe_bl (nomark _)) (pw_or (pt_cmp (pc_isN (pe_cal c_order_of hr (pa_cons (pv 0) pa_nil)))) (pw_or1 (pt_cmpR (k_ne K hr.units) (pe_cal c_reach hr (pa_cons (pv 0) (pa_cons pe_int pa_nil))) (pe_tupRg rfl (by rfl) B.tuple (prg_1 (by rfl) B.range (pe_callB (k_len K) (by rfl) B.len (by decide +kernel) (pa_cons (pv 0) pa_nil)))) (nomark _))))))
    (pss_one (ps_ret pe_bl))
    pss_nil)
  (pss_cons (ps_if (PW.pt (pw_or (pt_cmpR (k_ne K hr.units) (pe_ix (k_ix K) (pv 2) pe_int (fun _ _ => rfl)) (pe_ifExp (k_tru K (pv 1) (by intro _; rfl)) pe_int (pe_un un_neg pe_int)) (nomark _)) (pw_or1 (pt_cmpR (k_eq K hr.units) (pe_cmp (pc_isN (pe_cal c_paper_for hr (pa_cons (pv 0) (pa_cons pe_int (pa_cons pe_int pa_nil))))) rfl) (pe_cmp (pc_isN (pe_cal c_paper_against hr (pa_cons (pv 0) (pa_cons pe_int (pa_cons pe_int pa_nil))))) rfl) (nomark _)))))
    (pss_one (ps_ret pe_bl))
    pss_nil)
  (pss_cons (ps_for PassesOwn.never rfl (k_enumA K (by rfl) B.enumerate (pa_cons (pv 0) pa_nil)) (k_tup (n := 2) K rfl (pgs_cons (pg_name (i := 3) sc_l_game_holds.nd rfl (by first | exact Or.inl rfl | exact Or.inr rfl)) (pgs_cons (k_tup (n := 2) K rfl (pgs_cons (pg_name (i := 4) sc_l_game_holds.nd rfl (by first | exact Or.inl rfl | exact Or.inr rfl)) (pgs_cons (pg_name (i := 5) sc_l_game_holds.nd rfl (by first | exact Or.inl rfl | exact Or.inr rfl)) pgs_nil))) pgs_nil)))
    (pss_cons (ps_if (PW.pt (pw_and (pt_cmpR (k_ne K hr.units) (pv 4) pe_str (nomark _)) (pw_and1 (pt_cmpR (k_eq K hr.units) (pe_ix (k_ix K) (pv 2) (pv 3) (fun _ _ => rfl)) (pe_op op_sub pe_int (pe_op op_times pe_int (pv 4))) (nomark _)))))
      (pss_one (ps_if (pt_cmpR (k_ne K hr.units) (pe_ix (k_ix K) (pv 2) (pe_ix (k_ix K) (pe_cal c_best_moves hr (pa_cons (pv 0) (pa_cons (pv 3) pa_nil))) pe_int (fun _ _ => rfl)) (fun _ _ => rfl)) (pe_ix (k_ix K) (pv 2) (pv 3) (fun _ _ => rfl)) (nomark _))
        (pss_one (ps_ret pe_bl))
        pss_nil))
      pss_nil)
    (pss_one (ps_if (PW.pt (pw_and (pt_cmpR (k_ne K hr.units) (pv 4) pe_str (nomark _)) (pw_and1 (k_tru K (pe_lc (own := [("_law_move", 6)]) (by rfl) sc_l_game_holds.nd (k_seq K (pv 5)) (blkOk_by (own := [("_law_move", 6)]) (N := ["_law_game", "_law_won", "_law_found", "_law_place", "_law_side", "_law_more", "_law_move", "_law_worth"]) (sc := defScope s_l_game_holds) (by decide +kernel)) (fun _ _ _ _ _ => (pg_name (i := 6) sc_l_game_holds.nd rfl (by first | exact Or.inl rfl | exact Or.inr rfl))) (fun _ _ _ _ _ => pts_one (pt_cmpR (k_eq K hr.units) (pe_ix (k_ix K) (pe_ix (k_ix K) (pv 0) (pv 6) (fun _ _ => rfl)) pe_int (fun _ _ => rfl)) (pv 4) (nomark _))) (fun _ _ _ _ _ => (pv 6))) (by intro _; rfl)))))
      (pss_one (ps_ret pe_bl))
      pss_nil))))
  (pss_one (ps_ret (pe_cmpR (k_eq K hr.units) (pe_lc (own := [("_law_worth", 7)]) (by rfl) sc_l_game_holds.nd (k_seq K (pv 2)) (blkOk_by (own := [("_law_worth", 7)]) (N := ["_law_game", "_law_won", "_law_found", "_law_place", "_law_side", "_law_more", "_law_move", "_law_worth"]) (sc := defScope s_l_game_holds) (by decide +kernel)) (fun _ _ _ _ _ => (pg_name (i := 7) sc_l_game_holds.nd rfl (by first | exact Or.inl rfl | exact Or.inr rfl))) (fun _ _ _ _ _ => pts_one (pt_cmpR (k_notin K) (pv 7) (pe_tup (pa_cons (pe_un un_neg pe_int) (pa_cons pe_int pa_nil))) (by rfl))) (fun _ _ _ _ _ => (pv 7))) (pe_lst pa_nil) (nomark _)))))))), ?_⟩)
  try simp only [cxK]
  exact run_fn (x := m_l_game_holds F_worths F_reach F_order_of F_is_game F_paper_for F_paper_against F_best_moves)
    ((x_seq (x_asg (s_call (s_vcons (s_vE s_var) s_vnil) (vn_cons vn_nil)))
  (x_seq (x_if (s_bor (s_test (s_op ro_notB (s_call (s_vcons (s_vE s_var) s_vnil) (vn_cons vn_nil)) s_bl)) (s_bor (s_B (s_isN (s_call (s_vcons (s_vE s_var) s_vnil) (vn_cons vn_nil)))) (s_test (s_op ro_ne (s_call (s_vcons (s_vE s_var) (s_vcons (s_vE s_int) s_vnil)) (vn_cons (vn_cons vn_nil))) (s_tupRg (s_cb rc_len (s_cons s_var s_nil)))))))
    (x_ret s_bl)
    x_next)
  (x_seq (x_if (s_bor (s_test (s_op ro_ne (s_op ro_ix s_var s_int) (s_if (s_tru s_var) s_int (s_un ro_neg s_int)))) (s_test (s_op ro_eq (s_isN (s_call (s_vcons (s_vE s_var) (s_vcons (s_vE s_int) (s_vcons (s_vE s_int) s_vnil))) (vn_cons (vn_cons (vn_cons vn_nil))))) (s_isN (s_call (s_vcons (s_vE s_var) (s_vcons (s_vE s_int) (s_vcons (s_vE s_int) s_vnil))) (vn_cons (vn_cons (vn_cons vn_nil))))))))
    (x_ret s_bl)
    x_next)
  (x_seq (x_for (s_iwipe (s_ienA s_var)) (b_tup (bs_cons b_name (bs_cons (b_tup (bs_cons b_name (bs_cons b_name bs_nil))) bs_nil)))
    (x_keep (x_seq (x_if (s_band (s_test (s_op ro_ne s_var s_str)) (s_test (s_op ro_eq (s_op ro_ix s_var s_var) (s_op ro_sub s_int (s_op ro_times s_int s_var)))))
      (x_if (s_test (s_op ro_ne (s_op ro_ix s_var (s_op ro_ix (s_call (s_vcons (s_vE s_var) (s_vcons (s_vE s_var) s_vnil)) (vn_cons (vn_cons vn_nil))) s_int)) (s_op ro_ix s_var s_var)))
        (x_ret s_bl)
        x_next)
      x_next)
    (x_if (s_band (s_test (s_op ro_ne s_var s_str)) (s_tru (s_ofL (s_lc (vs := [6]) (s_iseq s_var) (gin_name (by decide)) gmono_name b_name (s_test (s_op ro_eq (s_op ro_ix (s_op ro_ix s_var s_var) s_int) s_var)) s_var))))
      (x_ret s_bl)
      x_next))))
  (x_ret (s_op ro_eq (s_ofL (s_lc (vs := [7]) (s_iseq s_var) (gin_name (by decide)) gmono_name b_name (s_test (s_op ro_in s_var (s_tup (s_cons (s_un ro_neg s_int) (s_cons s_int s_nil))))) s_var)) (s_ofL (s_lst s_nil)))))))))
    rfl h

theorem ok_law {f : Addr} {fd : FuncData} {k : Nat} {F_l_draw F_l_game_holds F_l_bits F_heaps F_worths F_taking : FS} (F : FunD K "law" "law" (defArgs s_law) (defBody s_law) (defScope s_law) [] [] f fd) (B : Bn mg)
    (c_l_draw : Cal P w K mg base k "_law_draw" ["_law_script", "_law_town", "_law_many"] (spG (kX P w K mg base (lw + 1) tb) 3 F_l_draw))
    (c_l_game_holds : Cal P w K mg base k "_law_game_holds" ["_law_game", "_law_won"] (spG (kX P w K mg base (lw + 1) tb) 2 F_l_game_holds))
    (c_l_bits : Cal P w K mg base k "_law_bits" ["_law_piles"] (spG (kX P w K mg base (lw + 1) tb) 1 F_l_bits))
    (c_heaps : Cal P w K mg base k "heaps" ["piles"] (spG (kX P w K mg base (lw + 1) tb) 1 F_heaps))
    (c_worths : Cal P w K mg base k "worths" ["game"] (spG (kX P w K mg base (lw + 1) tb) 1 F_worths))
    (c_taking : Cal P w K mg base k "taking" ["count", "takes"] (spG (kX P w K mg base (lw + 1) tb) 2 F_taking)) :
    FnOk P w K mg base CX0 (k + 1) f fd ["_law_script"] (spG (kX P w K mg base (lw + 1) tb) 1 (fnS 10 (m_law_k35 F_l_draw F_l_game_holds F_l_bits F_heaps F_worths F_taking))) := by
  refine okD F sc_law (fun vs H Q E h => spG_len h) (fun cdv A outer s H vs Q E hr h => ⟨_,
  (pss_cons (ps_set (i := 1) sc_law.nd rfl (by first | exact Or.inl rfl | exact Or.inr rfl) (pe_lst pa_nil))
  (pss_cons (ps_for PassesOwn.never rfl (pi_range1 (by rfl) B.range (pa_cons pe_int pa_nil)) (pg_name (i := 2) sc_law.nd rfl (by first | exact Or.inl rfl | exact Or.inr rfl))
    (pss_cons (ps_set (i := 3) sc_law.nd rfl (by first | exact Or.inl rfl | exact Or.inr rfl) (pe_callTy (k_tuple K) (by rfl) B.tuple (by decide +kernel) (pa_cons (pe_lc (own := [("_law_j", 4)]) (by rfl) sc_law.nd (pi_range1 (by rfl) B.range (pa_cons (pe_cal c_l_draw hr (pa_cons (pv 0) (pa_cons (pv 1) (pa_cons pe_int pa_nil)))) pa_nil)) (blkOk_by (own := [("_law_j", 4)]) (N := ["_law_script", "_law_town", "_law_k", "_law_piles", "_law_j", "_law_takes", "_law_many", "_law_count", "_law_won", "_law_size"]) (sc := defScope s_law) (by decide +kernel)) (fun _ _ _ _ _ => (pg_name (i := 4) sc_law.nd rfl (by first | exact Or.inl rfl | exact Or.inr rfl))) (fun _ _ _ _ _ => pts_nil) (fun _ _ _ _ _ => (pe_cal c_l_draw hr (pa_cons (pv 0) (pa_cons (pv 1) (pa_cons pe_int pa_nil)))))) pa_nil)))
    (pss_cons (ps_if (pt_not (k_tru K (pe_cal c_l_game_holds hr (pa_cons (pe_cal c_heaps hr (pa_cons (pv 3) pa_nil)) (pa_cons (pe_cmpR (k_ne K hr.units) (pe_cal c_l_bits hr (pa_cons (pv 3) pa_nil)) pe_int (nomark _)) pa_nil))) (by intro _; rfl)))
      (pss_one (ps_ret pe_bl))
      pss_nil)
    (pss_cons (ps_if (PW.pt (pw_and (pt_cmpR op_lt (pe_callB (k_len K) (by rfl) B.len (by decide +kernel) (pa_cons (pv 3) pa_nil)) pe_int (nomark _)) (pw_and1 (pt_cmpR (k_ne K hr.units) (pe_ix (k_ix K) (pe_cal c_worths hr (pa_cons (pe_cal c_heaps hr (pa_cons (pe_op (k_plus K) (pv 3) (pv 3)) pa_nil)) pa_nil)) pe_int (fun _ _ => rfl)) (pe_un un_neg pe_int) (nomark _)))))
      (pss_one (ps_ret pe_bl))
      pss_nil)
    (pss_cons (ps_set (i := 5) sc_law.nd rfl (by first | exact Or.inl rfl | exact Or.inr rfl) (k_orT K (pe_callTy (k_tuple K) (by rfl) B.tuple (by decide +kernel) (pa_cons (pe_lc (own := [("_law_many", 6)]) (by rfl) sc_law.nd (pi_range2 (by rfl) B.range (pa_cons pe_int (pa_cons pe_int pa_nil))) (blkOk_by (own := [("_law_many", 6)]) (N := ["_law_script", "_law_town", "_law_k", "_law_piles", "_law_j", "_law_takes", "_law_many", "_law_count", "_law_won", "_law_size"]) (sc := defScope s_law) (by decide +kernel)) (fun _ _ _ _ _ => (pg_name (i := 6) sc_law.nd rfl (by first | exact Or.inl rfl | exact Or.inr rfl))) (fun _ _ _ _ _ => pts_one (pt_cmpR (k_eq K hr.units) (pe_cal c_l_draw hr (pa_cons (pv 0) (pa_cons (pv 1) (pa_cons pe_int pa_nil)))) pe_int (nomark _))) (fun _ _ _ _ _ => (pv 6))) pa_nil)) (pe_one (pe_tup (pa_cons pe_int pa_nil)))))
    (pss_cons (ps_asg (pe_tup (pa_cons (pe_cal c_l_draw hr (pa_cons (pv 0) (pa_cons (pv 1) (pa_cons pe_int pa_nil)))) (pa_cons (pe_lst pa_nil) pa_nil))) (k_tup (n := 2) K rfl (pgs_cons (pg_name (i := 7) sc_law.nd rfl (by first | exact Or.inl rfl | exact Or.inr rfl)) (pgs_cons (pg_name (i := 8) sc_law.nd rfl (by first | exact Or.inl rfl | exact Or.inr rfl)) pgs_nil))))
    (pss_cons (ps_for PassesOwn.never rfl (pi_range1 (by rfl) B.range (pa_cons (pe_op (k_plus K) (pv 7) pe_int) pa_nil)) (pg_name (i := 9) sc_law.nd rfl (by first | exact Or.inl rfl | exact Or.inr rfl))
      (pss_one (ps_expr (pe_bm PySem.F.plainAttrs_list PySem.F.slot_list_append PySem.F.type_list_append mt_append (pv 8) (pa_cons (pe_cmpR (k_ne K hr.units) (pe_lc (own := [("_law_many", 6)]) (by rfl) sc_law.nd (k_seq K (pv 5)) (blkOk_by (own := [("_law_many", 6)]) (N := ["_law_script", "_law_town", "_law_k", "_law_piles", "_law_j", "_law_takes", "_law_many", "_law_count", "_law_won", "_law_size"]) (sc := defScope s_law) (by decide +kernel)) (fun _ _ _ _ _ => (pg_name (i := 6) sc_law.nd rfl (by first | exact Or.inl rfl | exact Or.inr rfl))) (fun _ _ _ _ _ => pts_one (PW.pt (pw_and (pt_cmpR op_le (pv 6) (pv 9) (nomark _)) (pw_and1 (pt_not (k_tru K (pe_ix (k_ix K) (pv 8) (pe_op op_sub (pv 9) (pv 6)) (fun _ _ => rfl)) (by intro _; rfl))))))) (fun _ _ _ _ _ => (pv 6))) (pe_lst pa_nil) (nomark _)) pa_nil)))))
    (pss_one (ps_if (pt_not (k_tru K (pe_cal c_l_game_holds hr (pa_cons (pe_cal c_taking hr (pa_cons (pv 7) (pa_cons (pv 5) pa_nil))) (pa_cons (pe_ix (k_ix K) (pv 8) (pv 7) (fun _ _ => rfl)) pa_nil))) (by intro _; rfl)))
      (pss_one (ps_ret pe_bl))
      pss_nil)))))))))
  (pss_one (ps_ret pe_bl)))), ?_⟩)
  try simp only [cxK]
  exact run_fn (x := m_law_k35 F_l_draw F_l_game_holds F_l_bits F_heaps F_worths F_taking)
    ((x_seq (x_newL (s_lst s_nil))
  (x_seq (x_for (s_iwipe (s_irg1 s_int)) b_name
    (x_keep (x_seq (x_asg (s_cb rc_tuple (s_cons (s_ofL (s_lc (vs := [4]) (s_irg1 (s_call (s_vcons (s_vE s_var) (s_vcons s_vR (s_vcons (s_vE s_int) s_vnil))) (vn_cons (vn_cons (vn_cons vn_nil))))) (gin_name (by decide)) gmono_name b_name s_yes (s_call (s_vcons (s_vE s_var) (s_vcons s_vR (s_vcons (s_vE s_int) s_vnil))) (vn_cons (vn_cons (vn_cons vn_nil)))))) s_nil)))
    (x_seq (x_if (s_bnot (s_tru (s_call (s_vcons (s_vE (s_call (s_vcons (s_vE s_var) s_vnil) (vn_cons vn_nil))) (s_vcons (s_vE (s_op ro_ne (s_call (s_vcons (s_vE s_var) s_vnil) (vn_cons vn_nil)) s_int)) s_vnil)) (vn_cons (vn_cons vn_nil)))))
      (x_ret s_bl)
      x_next)
    (x_seq (x_if (s_band (s_test (s_op ro_lt (s_cb rc_len (s_cons s_var s_nil)) s_int)) (s_test (s_op ro_ne (s_op ro_ix (s_call (s_vcons (s_vE (s_call (s_vcons (s_vE (s_op ro_plus s_var s_var)) s_vnil) (vn_cons vn_nil))) s_vnil) (vn_cons vn_nil)) s_int) (s_un ro_neg s_int))))
      (x_ret s_bl)
      x_next)
    (x_seq (x_asg (s_or (s_cb rc_tuple (s_cons (s_ofL (s_lc (vs := [6]) (s_irg2 s_int s_int) (gin_name (by decide)) gmono_name b_name (s_test (s_op ro_eq (s_call (s_vcons (s_vE s_var) (s_vcons s_vR (s_vcons (s_vE s_int) s_vnil))) (vn_cons (vn_cons (vn_cons vn_nil)))) s_int)) s_var)) s_nil)) (s_tup (s_cons s_int s_nil))))
    (x_seq (x_tup (is := [7, 8]) (u_D (s_call (s_vcons (s_vE s_var) (s_vcons s_vR (s_vcons (s_vE s_int) s_vnil))) (vn_cons (vn_cons (vn_cons vn_nil)))) (u_L (s_lst s_nil) u_nil)) rfl)
    (x_seq (x_for (s_iwipe (s_irg1 (s_op ro_plus s_var s_int))) b_name
      (x_keep (x_app (s_op ro_ne (s_ofL (s_lc (vs := [6]) (s_iseq s_var) (gin_name (by decide)) gmono_name b_name (s_band (s_test (s_op ro_le s_var s_var)) (s_bnot (s_tru (s_ixV (s_op ro_sub s_var s_var))))) s_var)) (s_ofL (s_lst s_nil))))))
    (x_if (s_bnot (s_tru (s_call (s_vcons (s_vE (s_call (s_vcons (s_vE s_var) (s_vcons (s_vE s_var) s_vnil)) (vn_cons (vn_cons vn_nil)))) (s_vcons (s_vE (s_ixV s_var)) s_vnil)) (vn_cons (vn_cons vn_nil)))))
      (x_ret s_bl)
      x_next)))))))))
  (x_ret s_bl))))
    rfl h

set_option maxHeartbeats 8000000 in
theorem law_all {h : Heap} (X : K.In h) (G : h.Ns mainGlobals mg) {fa : Addr} (hfa : mg "law" = some (.ref fa)) (c : He.SaysX fas fns [] tfs exs w h K) :
    ∃ fd : FuncData, (∀ (s : Shared) (v : Value), BindsTo s fd ⟨[v], []⟩ [("_law_script", v)]) ∧ ∀ base : Heap, K.In base → base.Ns mainGlobals mg → (∀ p ∈ tfs, LamX.TabB base mg (He.cT K p).1 (He.cT K p).2) → FnOk P w K mg base CX0 10 fa fd ["_law_script"] (spLawT K (tfs.map fun p => (He.cT K p).2)) := by
  have cD : He.SaysD fas fns K := congrArg (fun z : He.AlT => z.1) c.t
  have B : Bn mg := ⟨He.free_ok X G (cD.fact 23 (f := .free "len") rfl), He.free_ok X G (cD.fact 24 (f := .free "list") rfl), He.free_ok X G (cD.fact 25 (f := .free "tuple") rfl), He.free_ok X G (cD.fact 26 (f := .free "range") rfl), He.free_ok X G (cD.fact 27 (f := .free "zip") rfl), He.free_ok X G (cD.fact 28 (f := .free "enumerate") rfl), He.free_ok X G (cD.fact 29 (f := .free "abs") rfl), He.free_ok X G (cD.fact 30 (f := .free "max") rfl), He.free_ok X G (cD.fact 31 (f := .free "min") rfl), He.free_ok X G (cD.fact 32 (f := .free "sum") rfl), He.free_ok X G (cD.fact 33 (f := .free "all") rfl), He.free_ok X G (cD.fact 34 (f := .free "any") rfl), He.free_ok X G (cD.fact 35 (f := .free "sorted") rfl), He.free_ok X G (cD.fact 36 (f := .free "isinstance") rfl), He.free_ok X G (cD.fact 37 (f := .free "int") rfl), He.free_ok X G (cD.fact 38 (f := .free "bool") rfl), He.free_ok X G (cD.fact 39 (f := .free "str") rfl), He.free_ok X G (cD.fact 40 (f := .free "set") rfl)⟩
  obtain ⟨fd_lost, F_lost⟩ := cD.def_ 0 (d := dd_lost) rfl
  have g_lost := He.glo_ok X G (cD.fact 0 (f := .glo "lost") rfl)
  have B_lost : Binds K fd_lost ["state"] [] := FunD.bindsN F_lost fun _ _ _ _ _ _ us hl => match us, hl with | [_], _ => rfl
  obtain ⟨fd_left_heaps, F_left_heaps⟩ := cD.def_ 1 (d := dd_left_heaps) rfl
  have g_left_heaps := He.glo_ok X G (cD.fact 1 (f := .glo "left_heaps") rfl)
  have B_left_heaps : Binds K fd_left_heaps ["state"] [] := FunD.bindsN F_left_heaps fun _ _ _ _ _ _ us hl => match us, hl with | [_], _ => rfl
  obtain ⟨fd_made, F_made⟩ := cD.def_ 2 (d := dd_made) rfl
  have g_made := He.glo_ok X G (cD.fact 2 (f := .glo "made") rfl)
  have B_made : Binds K fd_made ["begin", "follow", "worth"] [] := FunD.bindsN F_made fun _ _ _ _ _ _ us hl => match us, hl with | [_, _, _], _ => rfl
  obtain ⟨fd_taking, F_taking⟩ := cD.def_ 3 (d := dd_taking) rfl
  have g_taking := He.glo_ok X G (cD.fact 3 (f := .glo "taking") rfl)
  have B_taking : Binds K fd_taking ["count", "takes"] [] := FunD.bindsN F_taking fun _ _ _ _ _ _ us hl => match us, hl with | [_, _], _ => rfl
  have h_taking := codeD (p := ("taking", none)) F_taking
  obtain ⟨fd_heaps, F_heaps⟩ := cD.def_ 4 (d := dd_heaps) rfl
  have g_heaps := He.glo_ok X G (cD.fact 4 (f := .glo "heaps") rfl)
  have B_heaps : Binds K fd_heaps ["piles"] [] := FunD.bindsN F_heaps fun _ _ _ _ _ _ us hl => match us, hl with | [_], _ => rfl
  obtain ⟨fd_is_whole, F_is_whole⟩ := cD.def_ 5 (d := dd_is_whole) rfl
  have g_is_whole := He.glo_ok X G (cD.fact 5 (f := .glo "is_whole") rfl)
  have B_is_whole : Binds K fd_is_whole ["thing"] [] := FunD.bindsN F_is_whole fun _ _ _ _ _ _ us hl => match us, hl with | [_], _ => rfl
  obtain ⟨fd_is_place, F_is_place⟩ := cD.def_ 6 (d := dd_is_place) rfl
  have g_is_place := He.glo_ok X G (cD.fact 6 (f := .glo "is_place") rfl)
  have B_is_place : Binds K fd_is_place ["thing", "many"] [] := FunD.bindsN F_is_place fun _ _ _ _ _ _ us hl => match us, hl with | [_, _], _ => rfl
  obtain ⟨fd_is_game, F_is_game⟩ := cD.def_ 7 (d := dd_is_game) rfl
  have g_is_game := He.glo_ok X G (cD.fact 7 (f := .glo "is_game") rfl)
  have B_is_game : Binds K fd_is_game ["thing"] [] := FunD.bindsN F_is_game fun _ _ _ _ _ _ us hl => match us, hl with | [_], _ => rfl
  obtain ⟨fd_moves_of, F_moves_of⟩ := cD.def_ 8 (d := dd_moves_of) rfl
  have g_moves_of := He.glo_ok X G (cD.fact 8 (f := .glo "moves_of") rfl)
  have B_moves_of : Binds K fd_moves_of ["game", "place"] [] := FunD.bindsN F_moves_of fun _ _ _ _ _ _ us hl => match us, hl with | [_, _], _ => rfl
  obtain ⟨fd_order_of, F_order_of⟩ := cD.def_ 9 (d := dd_order_of) rfl
  have g_order_of := He.glo_ok X G (cD.fact 9 (f := .glo "order_of") rfl)
  have B_order_of : Binds K fd_order_of ["game"] [] := FunD.bindsN F_order_of fun _ _ _ _ _ _ us hl => match us, hl with | [_], _ => rfl
  obtain ⟨fd_reach, F_reach⟩ := cD.def_ 10 (d := dd_reach) rfl
  have g_reach := He.glo_ok X G (cD.fact 10 (f := .glo "reach") rfl)
  have B_reach : Binds K fd_reach ["game", "place"] [] := FunD.bindsN F_reach fun _ _ _ _ _ _ us hl => match us, hl with | [_, _], _ => rfl
  obtain ⟨fd_turned, F_turned⟩ := cD.def_ 11 (d := dd_turned) rfl
  have g_turned := He.glo_ok X G (cD.fact 11 (f := .glo "turned") rfl)
  have B_turned : Binds K fd_turned ["game"] [] := FunD.bindsN F_turned fun _ _ _ _ _ _ us hl => match us, hl with | [_], _ => rfl
  obtain ⟨fd_all_papers, F_all_papers⟩ := cD.def_ 12 (d := dd_all_papers) rfl
  have g_all_papers := He.glo_ok X G (cD.fact 12 (f := .glo "all_papers") rfl)
  have B_all_papers : Binds K fd_all_papers ["game", "goal", "choose"] [] := FunD.bindsN F_all_papers fun _ _ _ _ _ _ us hl => match us, hl with | [_, _, _], _ => rfl
  obtain ⟨fd_paper_for, F_paper_for⟩ := cD.def_ 13 (d := dd_paper_for) rfl
  have g_paper_for := He.glo_ok X G (cD.fact 13 (f := .glo "paper_for") rfl)
  have B_paper_for : Binds K fd_paper_for ["game", "place", "goal"] [] := FunD.bindsN F_paper_for fun _ _ _ _ _ _ us hl => match us, hl with | [_, _, _], _ => rfl
  have h_paper_for := codeD (p := ("paper_for", none)) F_paper_for
  obtain ⟨fd_paper_against, F_paper_against⟩ := cD.def_ 14 (d := dd_paper_against) rfl
  have g_paper_against := He.glo_ok X G (cD.fact 14 (f := .glo "paper_against") rfl)
  have B_paper_against : Binds K fd_paper_against ["game", "place", "goal"] [] := FunD.bindsN F_paper_against fun _ _ _ _ _ _ us hl => match us, hl with | [_, _, _], _ => rfl
  obtain ⟨fd_choice, F_choice⟩ := cD.def_ 15 (d := dd_choice) rfl
  have g_choice := He.glo_ok X G (cD.fact 15 (f := .glo "choice") rfl)
  have B_choice : Binds K fd_choice ["side", "row"] [] := FunD.bindsN F_choice fun _ _ _ _ _ _ us hl => match us, hl with | [_, _], _ => rfl
  obtain ⟨fd_worths, F_worths⟩ := cD.def_ 16 (d := dd_worths) rfl
  have g_worths := He.glo_ok X G (cD.fact 16 (f := .glo "worths") rfl)
  have B_worths : Binds K fd_worths ["game"] [] := FunD.bindsN F_worths fun _ _ _ _ _ _ us hl => match us, hl with | [_], _ => rfl
  obtain ⟨fd_best_moves, F_best_moves⟩ := cD.def_ 17 (d := dd_best_moves) rfl
  have g_best_moves := He.glo_ok X G (cD.fact 17 (f := .glo "best_moves") rfl)
  have B_best_moves : Binds K fd_best_moves ["game", "place"] [] := FunD.bindsN F_best_moves fun _ _ _ _ _ _ us hl => match us, hl with | [_, _], _ => rfl
  obtain ⟨fd_l_draw, F_l_draw⟩ := cD.def_ 18 (d := dd_l_draw) rfl
  have g_l_draw := He.glo_ok X G (cD.fact 18 (f := .glo "_law_draw") rfl)
  have B_l_draw : Binds K fd_l_draw ["_law_script", "_law_town", "_law_many"] [] := FunD.bindsN F_l_draw fun _ _ _ _ _ _ us hl => match us, hl with | [_, _, _], _ => rfl
  obtain ⟨fd_l_bits, F_l_bits⟩ := cD.def_ 19 (d := dd_l_bits) rfl
  have g_l_bits := He.glo_ok X G (cD.fact 19 (f := .glo "_law_bits") rfl)
  have B_l_bits : Binds K fd_l_bits ["_law_piles"] [] := FunD.bindsN F_l_bits fun _ _ _ _ _ _ us hl => match us, hl with | [_], _ => rfl
  obtain ⟨fd_l_game_holds, F_l_game_holds⟩ := cD.def_ 20 (d := dd_l_game_holds) rfl
  have g_l_game_holds := He.glo_ok X G (cD.fact 20 (f := .glo "_law_game_holds") rfl)
  have B_l_game_holds : Binds K fd_l_game_holds ["_law_game", "_law_won"] [] := FunD.bindsN F_l_game_holds fun _ _ _ _ _ _ us hl => match us, hl with | [_, _], _ => rfl
  obtain ⟨fd_law, F_law⟩ := cD.def_ 21 (d := dd_law) rfl
  have g_law := He.glo_ok X G (cD.fact 21 (f := .glo "law") rfl)
  have B_law : Binds K fd_law ["_law_script"] [] := FunD.bindsN F_law fun _ _ _ _ _ _ us hl => match us, hl with | [_], _ => rfl
  have z_MOST := con_ok X G (cD.fact 22 (f := .int "MOST" 99) rfl)
  have MORE : exs K = true := c.more

  have NDS : (([("taking", He.cT K ("taking", none)), ("paper_for", He.cT K ("paper_for", none))] : List (Str × Addr × Addr)).map (·.2.2)).Nodup := of_decide_eq_true MORE
  cases hfa.symm.trans g_law
  refine ⟨fd_law, fun s v => FunD.bindsA (ps := ["_law_script"]) F_law (fun _ _ _ _ _ _ us hl => match us, hl with | [_], _ => rfl) s [v] rfl, fun base _ _ TBS0 => ?_⟩
  have TBS : ∀ p ∈ ([("taking", He.cT K ("taking", none)), ("paper_for", He.cT K ("paper_for", none))] : List (Str × Addr × Addr)), LamX.TabB base mg p.2.1 p.2.2 := fun p hp => by
    simp only [List.mem_cons, List.not_mem_nil, or_false] at hp
    rcases hp with rfl | rfl
    all_goals exact TBS0 _ (by simp [tfs])
  have e_lost : Cal P w K mg base 1 "lost" ["state"] (spG (kX P w K mg base (4 + 1) (tabsOf [("taking", He.cT K ("taking", none)), ("paper_for", He.cT K ("paper_for", none))])) 1 f_lost) := ⟨_, fd_lost, ok_lost (k := 0) F_lost B , g_lost, F_lost.kp, B_lost⟩
  have eB_lost : ∀ B_, (∀ b o, base.get? b = some o → B_.get? b = some o) → Cal P w K mg B_ 1 "lost" ["state"] (spG (Kx.on (kX P w K mg base (4 + 1) (tabsOf [("taking", He.cT K ("taking", none)), ("paper_for", He.cT K ("paper_for", none))])) B_) 1 f_lost) := fun B_ _ => (⟨_, fd_lost, ok_lost (k := 0) F_lost B , g_lost, F_lost.kp, B_lost⟩ : Cal P w K mg B_ 1 "lost" ["state"] (spG (kX P w K mg B_ (4 + 1) (tabsOf [("taking", He.cT K ("taking", none)), ("paper_for", He.cT K ("paper_for", none))])) 1 f_lost))
  have e_left_heaps : Cal P w K mg base 1 "left_heaps" ["state"] (spG (kX P w K mg base (4 + 1) (tabsOf [("taking", He.cT K ("taking", none)), ("paper_for", He.cT K ("paper_for", none))])) 1 f_left_heaps) := ⟨_, fd_left_heaps, ok_left_heaps (k := 0) F_left_heaps B , g_left_heaps, F_left_heaps.kp, B_left_heaps⟩
  have e_made : Cal P w K mg base 6 "made" ["begin", "follow", "worth"] (spG (kX P w K mg base (4 + 1) (tabsOf [("taking", He.cT K ("taking", none)), ("paper_for", He.cT K ("paper_for", none))])) 3 f_made) := ⟨_, fd_made, ok_made (k := 5) F_made B (by decide), g_made, F_made.kp, B_made⟩
  have eB_made : ∀ B_, (∀ b o, base.get? b = some o → B_.get? b = some o) → Cal P w K mg B_ 6 "made" ["begin", "follow", "worth"] (spG (Kx.on (kX P w K mg base (4 + 1) (tabsOf [("taking", He.cT K ("taking", none)), ("paper_for", He.cT K ("paper_for", none))])) B_) 3 f_made) := fun B_ _ => (⟨_, fd_made, ok_made (k := 5) F_made B (by decide), g_made, F_made.kp, B_made⟩ : Cal P w K mg B_ 6 "made" ["begin", "follow", "worth"] (spG (kX P w K mg B_ (4 + 1) (tabsOf [("taking", He.cT K ("taking", none)), ("paper_for", He.cT K ("paper_for", none))])) 3 f_made))
  have e_taking : Cal P w K mg base 7 "taking" ["count", "takes"] (spG (kX P w K mg base (4 + 1) (tabsOf [("taking", He.cT K ("taking", none)), ("paper_for", He.cT K ("paper_for", none))])) 2 f_taking) := ⟨_, fd_taking, ok_taking (k := 6) F_taking B h_taking (by exact tabAt_of TBS NDS (p := ("taking", He.cT K ("taking", none))) (by simp)) (e_made.mono (by decide)) (e_lost.mono (by decide)) (fun B_ hB_ => (eB_lost B_ hB_).mono (by decide)) (fun B_ hB_ => (eB_made B_ hB_).mono (by decide)), g_taking, F_taking.kp, B_taking⟩
  have e_heaps : Cal P w K mg base 7 "heaps" ["piles"] (spG (kX P w K mg base (4 + 1) (tabsOf [("taking", He.cT K ("taking", none)), ("paper_for", He.cT K ("paper_for", none))])) 1 f_heaps) := ⟨_, fd_heaps, ok_heaps (k := 6) F_heaps B (e_made.mono (by decide)) (e_lost.mono (by decide)) (e_left_heaps.mono (by decide)) (e_lost.mono (by decide)) (e_left_heaps.mono (by decide)), g_heaps, F_heaps.kp, B_heaps⟩
  have e_is_whole : Cal P w K mg base 1 "is_whole" ["thing"] (spG (kX P w K mg base (4 + 1) (tabsOf [("taking", He.cT K ("taking", none)), ("paper_for", He.cT K ("paper_for", none))])) 1 f_is_whole) := ⟨_, fd_is_whole, ok_is_whole (k := 0) F_is_whole B , g_is_whole, F_is_whole.kp, B_is_whole⟩
  have e_is_place : Cal P w K mg base 2 "is_place" ["thing", "many"] (spG (kX P w K mg base (4 + 1) (tabsOf [("taking", He.cT K ("taking", none)), ("paper_for", He.cT K ("paper_for", none))])) 2 f_is_place) := ⟨_, fd_is_place, ok_is_place (k := 1) F_is_place B (e_is_whole.mono (by decide)) z_MOST, g_is_place, F_is_place.kp, B_is_place⟩
  have e_is_game : Cal P w K mg base 3 "is_game" ["thing"] (spG (kX P w K mg base (4 + 1) (tabsOf [("taking", He.cT K ("taking", none)), ("paper_for", He.cT K ("paper_for", none))])) 1 f_is_game) := ⟨_, fd_is_game, ok_is_game (k := 2) F_is_game B (e_is_place.mono (by decide)), g_is_game, F_is_game.kp, B_is_game⟩
  have e_moves_of : Cal P w K mg base 1 "moves_of" ["game", "place"] (spG (kX P w K mg base (4 + 1) (tabsOf [("taking", He.cT K ("taking", none)), ("paper_for", He.cT K ("paper_for", none))])) 2 f_moves_of) := ⟨_, fd_moves_of, ok_moves_of (k := 0) F_moves_of B , g_moves_of, F_moves_of.kp, B_moves_of⟩
  have e_order_of : Cal P w K mg base 2 "order_of" ["game"] (spG (kX P w K mg base (4 + 1) (tabsOf [("taking", He.cT K ("taking", none)), ("paper_for", He.cT K ("paper_for", none))])) 1 f_order_of) := ⟨_, fd_order_of, ok_order_of (k := 1) F_order_of B (e_moves_of.mono (by decide)), g_order_of, F_order_of.kp, B_order_of⟩
  have e_reach : Cal P w K mg base 2 "reach" ["game", "place"] (spG (kX P w K mg base (4 + 1) (tabsOf [("taking", He.cT K ("taking", none)), ("paper_for", He.cT K ("paper_for", none))])) 2 f_reach) := ⟨_, fd_reach, ok_reach (k := 1) F_reach B (e_moves_of.mono (by decide)), g_reach, F_reach.kp, B_reach⟩
  have e_turned : Cal P w K mg base 1 "turned" ["game"] (spG (kX P w K mg base (4 + 1) (tabsOf [("taking", He.cT K ("taking", none)), ("paper_for", He.cT K ("paper_for", none))])) 1 f_turned) := ⟨_, fd_turned, ok_turned (k := 0) F_turned B , g_turned, F_turned.kp, B_turned⟩
  have e_all_papers : Cal P w K mg base 6 "all_papers" ["game", "goal", "choose"] (spG (kX P w K mg base (4 + 1) (tabsOf [("taking", He.cT K ("taking", none)), ("paper_for", He.cT K ("paper_for", none))])) 3 f_all_papers) := ⟨_, fd_all_papers, ok_all_papers (k := 5) F_all_papers B (e_order_of.mono (by decide)) (e_moves_of.mono (by decide)) (by decide), g_all_papers, F_all_papers.kp, B_all_papers⟩
  have e_paper_for : Cal P w K mg base 7 "paper_for" ["game", "place", "goal"] (spG (kX P w K mg base (4 + 1) (tabsOf [("taking", He.cT K ("taking", none)), ("paper_for", He.cT K ("paper_for", none))])) 3 f_paper_for) := ⟨_, fd_paper_for, ok_paper_for (k := 6) F_paper_for B h_paper_for (by exact tabAt_of TBS NDS (p := ("paper_for", He.cT K ("paper_for", none))) (by simp)) (e_all_papers.mono (by decide)), g_paper_for, F_paper_for.kp, B_paper_for⟩
  have e_paper_against : Cal P w K mg base 8 "paper_against" ["game", "place", "goal"] (spG (kX P w K mg base (4 + 1) (tabsOf [("taking", He.cT K ("taking", none)), ("paper_for", He.cT K ("paper_for", none))])) 3 f_paper_against) := ⟨_, fd_paper_against, ok_paper_against (k := 7) F_paper_against B (e_paper_for.mono (by decide)) (e_turned.mono (by decide)), g_paper_against, F_paper_against.kp, B_paper_against⟩
  have e_choice : Cal P w K mg base 1 "choice" ["side", "row"] (spG (kX P w K mg base (4 + 1) (tabsOf [("taking", He.cT K ("taking", none)), ("paper_for", He.cT K ("paper_for", none))])) 2 f_choice) := ⟨_, fd_choice, ok_choice (k := 0) F_choice B , g_choice, F_choice.kp, B_choice⟩
  have e_worths : Cal P w K mg base 3 "worths" ["game"] (spG (kX P w K mg base (4 + 1) (tabsOf [("taking", He.cT K ("taking", none)), ("paper_for", He.cT K ("paper_for", none))])) 1 f_worths) := ⟨_, fd_worths, ok_worths (k := 2) F_worths B (e_order_of.mono (by decide)) (e_choice.mono (by decide)), g_worths, F_worths.kp, B_worths⟩
  have e_best_moves : Cal P w K mg base 4 "best_moves" ["game", "place"] (spG (kX P w K mg base (4 + 1) (tabsOf [("taking", He.cT K ("taking", none)), ("paper_for", He.cT K ("paper_for", none))])) 2 f_best_moves) := ⟨_, fd_best_moves, ok_best_moves (k := 3) F_best_moves B (e_worths.mono (by decide)) (e_moves_of.mono (by decide)), g_best_moves, F_best_moves.kp, B_best_moves⟩
  have e_l_draw : Cal P w K mg base 1 "_law_draw" ["_law_script", "_law_town", "_law_many"] (spG (kX P w K mg base (4 + 1) (tabsOf [("taking", He.cT K ("taking", none)), ("paper_for", He.cT K ("paper_for", none))])) 3 f_l_draw) := ⟨_, fd_l_draw, ok_l_draw (k := 0) F_l_draw B , g_l_draw, F_l_draw.kp, B_l_draw⟩
  have e_l_bits : Cal P w K mg base 1 "_law_bits" ["_law_piles"] (spG (kX P w K mg base (4 + 1) (tabsOf [("taking", He.cT K ("taking", none)), ("paper_for", He.cT K ("paper_for", none))])) 1 f_l_bits) := ⟨_, fd_l_bits, ok_l_bits (k := 0) F_l_bits B , g_l_bits, F_l_bits.kp, B_l_bits⟩
  have e_l_game_holds : Cal P w K mg base 9 "_law_game_holds" ["_law_game", "_law_won"] (spG (kX P w K mg base (4 + 1) (tabsOf [("taking", He.cT K ("taking", none)), ("paper_for", He.cT K ("paper_for", none))])) 2 f_l_game_holds) := ⟨_, fd_l_game_holds, ok_l_game_holds (k := 8) F_l_game_holds B (e_worths.mono (by decide)) (e_reach.mono (by decide)) (e_order_of.mono (by decide)) (e_is_game.mono (by decide)) (e_paper_for.mono (by decide)) (e_paper_against.mono (by decide)) (e_best_moves.mono (by decide)), g_l_game_holds, F_l_game_holds.kp, B_l_game_holds⟩
  exact law_ofT (F := f_law_k35) (lv := 4 + 1) (tb := (tabsOf [("taking", He.cT K ("taking", none)), ("paper_for", He.cT K ("paper_for", none))])) (ok_law (k := 9) F_law B (e_l_draw.mono (by decide)) (e_l_game_holds.mono (by decide)) (e_l_bits.mono (by decide)) (e_heaps.mono (by decide)) (e_worths.mono (by decide)) (e_taking.mono (by decide))) law_true
end W
open PySem PySem.W PySem.Calls PyProof.Rows
set_option maxRecDepth 100000 in
set_option maxHeartbeats 0 in
theorem PySem.Challenge.cw_searchduel_k35_whole_heaps_told_ahead_holds : PySem.Challenge.rw_searchduel_k35_whole_heaps_told_ahead.Holds := by
  w_on; o_law
  refine HandSHeadRun.head_any (r := W.RR) (q := view W.RR.prog [29]) (H := W.hk) (ob := W.obs) (M := 9000) (loose := W.lnames) (d := HandSHeadRun.topDef W.RR.prog 29) (kwd := []) W.obs_eq
    (by kernel_rfl) (fun s => by kernel_rfl) W.headrun (by kernel_rfl) (by kernel_rfl) (by kernel_rfl) (by rfl) (by first | assumption | decide +kernel) (by decide +kernel) ⟨rfl, rfl, rfl, rfl, rfl, by decide +kernel⟩ ?hw ?hc
  case hw => w_witness2
  case hc =>
    refine Sm.walkX (l := PySem.Challenge.rw_searchduel_k35_whole_heaps_told_ahead) (k := 10) (x := "_law_script") (fas := W.fas) (fn := W.fns) (tf := W.tfs) (ex := W.exs) rfl (by kernel_rfl) ⟨rfl, by decide, by decide⟩ ?F
    intro w mg fa h K KX G hmg0 c
    have hmg : mg ("law" : PySem.Str) = some (.ref fa) := by
      have e : (HandSHeadRun.topDef W.RR.prog 29).name = ("law" : PySem.Str) := by kernel_rfl
      rw [← e]
      exact hmg0
    exact W.law_all KX G hmg c

