import PyProof.Rows.All
import Wide.All
import OpenK.AllK
import Wide.FinOn
import KE.KStateDown
import HandS.HeadHook2
import HandS.ExcInit
import HandS.ClsMeth
import HandS.Base
import HandS.Call
import HandS.Defaults
import HandS.Head0
import HandS.Head1
import HandS.Head2
import HandS.HeadEnd
import HandS.HeadHook1
import Lean
import HandS.Ends
import HandS.More
import HandS.Words
import HandS.WordsExc
import HandS.ForMost
import HandS.Deep
import HandS.IsInst
import HandS.Star
import HandS.TupAny
import HandS.TupMul
import KE.GoesNew
import HandS.Zip
import HandS.Walk
import HandS.DictComp
import HandS.RaiseMore
import HandS.MakeKwOnly
import KE.KeyNested
import KE.KDictKeyed
import HandS.TupLen
import HandS.Conv
import HandS.Style
import HandS.OwnEq
import HandS.SortInts
import HandS.Small
import HandS.Sort
import HandS.Exc
import HandS.ExcOwn
import HandS.TryMany
import PySem.Challenge.RW_cutofftills_k85_whole_joins_and_outages
section
set_option Elab.async false
set_option linter.all false
set_option maxRecDepth 100000
set_option autoImplicit false
/-! LayH: what a head says of exception classes that have an __init__. -/
namespace L2.My
open PySem PySem.Spec PyProof.Rows
def oexB (K : PySem.W.Frag) (C : Addr) : Bool := (match K.lookup C with
  | some ⟨.type c, _, .cls cd, sl⟩ => decide (c = "type") && (match cd.mro, sl.toList with
    | .ref C' :: bm, [_, _, _, _, some (.builtin n), _] => decide (C' = C) && (decide (n = "ValueError.__new__") && (!cd.hasDel && (cd.hasDict && PySem.HandSPX.refsVE bm)))
    | _, _ => false)
  | _ => false) && (He.eqO (PySem.W.findIn K (.ref C) "__setattr__") (some (some (.builtin "object.__setattr__"))) && (decide (PySem.W.subIn K (.ref C) (.type "BaseException") = some true) && (decide (PySem.W.typeIn K (.ref C) = some (.type "type")) && PySem.W.keepIn K (.ref C))))
theorem oexB_ok {K : PySem.W.Frag} {C : Addr} (q : oexB K C = true) : OexC K C := by
  obtain ⟨q, q2⟩ := He.ba q
  obtain ⟨q3, q2⟩ := He.ba q2
  obtain ⟨q4, q2⟩ := He.ba q2
  obtain ⟨q5, q6⟩ := He.ba q2
  refine ⟨?_, He.eqO_ok q3, of_decide_eq_true q4, of_decide_eq_true q5, q6⟩
  split at q
  · rename_i c dd cd sl ho
    obtain ⟨hc, q⟩ := He.ba q
    obtain rfl := of_decide_eq_true hc
    clear hc
    split at q
    · rename_i C' bm k0 k1 k2 k3 n k5 hm hs
      try obtain ⟨_, q⟩ := He.ba q
      obtain ⟨h1, q⟩ := He.ba q
      obtain ⟨h2, q⟩ := He.ba q
      obtain ⟨h3, q⟩ := He.ba q
      obtain ⟨h4, h5⟩ := He.ba q
      have h1 := of_decide_eq_true h1
      have h2 := of_decide_eq_true h2
      subst h1 h2
      obtain ⟨nm, bs, mro, ns, qn, hd, sn, sub, ab, col, del⟩ := cd
      dsimp only at hm h3 h4
      rw [Bool.not_eq_true'] at h3
      subst hm h3 h4
      have hsl : sl = #[k0, k1, k2, k3, some (.builtin "ValueError.__new__"), k5] := by
        obtain ⟨l⟩ := sl
        simp only at hs
        rw [hs]
      subst hsl
      exact ⟨nm, qn, ns, bs, bm, sn, sub, ab, col, dd, k0, k1, k2, k3, k5, ho, h5⟩
    · cases q
  · cases q
def cfB (o : Option PySem.W.CFound) (n : String) : Bool := match o with
  | some (.val (.builtin m)) => decide (m = n)
  | _ => false
theorem cfB_ok {o : Option PySem.W.CFound} {n : String} (h : cfB o n = true) : o = some (.val (.builtin n)) := by
  unfold cfB at h
  split at h
  · rw [of_decide_eq_true h]
  · cases h
def townB (K : PySem.W.Frag) : Bool := PySem.W.readsIn K (He.ga K "TownError") (.type "type") && (He.eqO (PySem.W.specialIn K (.ref (He.ga K "TownError")) "__getattribute__") (some (some (.builtin "type.__getattribute__"))) && cfB (PySem.W.findCls K (.ref (He.ga K "TownError")) (.type "type") "__init__") "ValueError.__init__")
def excB (K : PySem.W.Frag) (x fld : Str) : Bool := oexB K (He.ga K x) && (He.eqO (PySem.W.findIn K (.ref (He.ga K x)) fld) (some none) && (He.eqO (PySem.W.findIn K (.ref (He.ga K x)) "__init__") (some (some (.ref (He.fAd K (x, some "__init__"))))) && (decide (PySem.W.typeIn K (.ref (He.fAd K (x, some "__init__"))) = some (.type "function")) && (He.eqO (PySem.W.findIn K (.ref (He.ga K x)) "__getattribute__") (some (some (.builtin "BaseException.__getattribute__"))) && (He.eqO (PySem.W.findIn K (.ref (He.ga K x)) "__getattr__") (some none) && PySem.W.hasDictIn K (He.ga K x))))))
def exmB (K : PySem.W.Frag) (x y : Str) (b : Bool) : Bool := decide (PySem.W.exmOne K (.ref (He.ga K x)) (.ref (He.ga K y)) = some b)
def excsB (K : PySem.W.Frag) : Bool := townB K && (excB K "BadPart" "part" && (excB K "BadLimits" "limits" && (excB K "BadWish" "wish" && (exmB K "BadPart" "BadPart" true && (exmB K "BadLimits" "BadPart" false && (exmB K "BadLimits" "BadLimits" true && (exmB K "BadWish" "BadPart" false && (exmB K "BadWish" "BadLimits" false && exmB K "BadWish" "BadWish" true))))))))
end L2.My
end
section
set_option Elab.async false
set_option linter.all false
set_option maxRecDepth 100000
set_option autoImplicit false
/-! Lay20: a Hook over a written list of addresses. -/
namespace L2.My
open PySem PySem.Spec PyProof.Rows
abbrev AlM : Type := He.AlD × Bool
def obsM (fa : List He.Fa) (fn : List He.DefD) (ex : PySem.W.Frag → Bool) (K : PySem.W.Frag) : AlM := (He.obsD fa fn K, ex K)
def hookM (as : List Addr) (fa : List He.Fa) (fn : List He.DefD) (ex : PySem.W.Frag → Bool) : PySem.W.Hook where
  α := AlM
  obs := fun s => obsM fa fn ex (He.frG s.heap.get? as)
  val := fun _ => (He.valD fn, true)
  says := fun _ h => ∃ K : PySem.W.Frag, K.In h ∧ He.SaysD fa fn K ∧ ex K = true
  of := fun _ _ e => ⟨_, He.frG_in, congrArg (fun z : AlM => z.1) e, congrArg (fun z : AlM => z.2) e⟩
  keeps := fun _ _ _ ⟨K, hK, c⟩ k => ⟨K, PySem.W.Frag.In.keeps hK k, c⟩
end L2.My
end
section
set_option Elab.async false
set_option linter.all false
set_option maxRecDepth 100000
set_option maxHeartbeats 0
namespace My
open PySem PySem.Spec PyProof.Rows L2
def top (i : Nat) : Stmt := PySem.Challenge.pw_cutofftills_k85_whole_joins_and_outages.main.body.getD i (.Pass ⟨0, 0, 0, 0⟩)
abbrev R : PySem.W.OpenRow := PySem.W.OpenLaw.row PySem.Challenge.rw_cutofftills_k85_whole_joins_and_outages
def fn0 : List He.DefD := [
  ⟨("BadPart", some "__init__"), "__init__", "BadPart.__init__", defArgs (inClass (top 3) 0), defBody (inClass (top 3) 0), defScope (inClass (top 3) 0), [], []⟩,
  ⟨("BadWish", some "__init__"), "__init__", "BadWish.__init__", defArgs (inClass (top 4) 0), defBody (inClass (top 4) 0), defScope (inClass (top 4) 0), [], []⟩,
  ⟨("BadLimits", some "__init__"), "__init__", "BadLimits.__init__", defArgs (inClass (top 5) 0), defBody (inClass (top 5) 0), defScope (inClass (top 5) 0), [], []⟩,
  ⟨("BadMap", some "__init__"), "__init__", "BadMap.__init__", defArgs (inClass (top 6) 0), defBody (inClass (top 6) 0), defScope (inClass (top 6) 0), [], []⟩,
  ⟨("TooMany", some "__init__"), "__init__", "TooMany.__init__", defArgs (inClass (top 7) 0), defBody (inClass (top 7) 0), defScope (inClass (top 7) 0), [], []⟩,
  ⟨("UnknownPlace", some "__init__"), "__init__", "UnknownPlace.__init__", defArgs (inClass (top 8) 0), defBody (inClass (top 8) 0), defScope (inClass (top 8) 0), [], []⟩,
  ⟨("is_integer", none), "is_integer", "is_integer", defArgs (top 12), defBody (top 12), defScope (top 12), [], []⟩,
  ⟨("is_between", none), "is_between", "is_between", defArgs (top 13), defBody (top 13), defScope (top 13), [], []⟩,
  ⟨("is_name", none), "is_name", "is_name", defArgs (top 14), defBody (top 14), defScope (top 14), [], []⟩,
  ⟨("sets_of", none), "sets_of", "sets_of", defArgs (top 16), defBody (top 16), defScope (top 16), [], []⟩,
  ⟨("index_sets", none), "index_sets", "index_sets", defArgs (top 17), defBody (top 17), defScope (top 17), [], []⟩,
  ⟨("is_row", none), "is_row", "is_row", defArgs (top 23), defBody (top 23), defScope (top 23), [], []⟩,
  ⟨("checked_areas", none), "checked_areas", "checked_areas", defArgs (top 24), defBody (top 24), defScope (top 24), [], []⟩,
  ⟨("is_path", none), "is_path", "is_path", defArgs (top 25), defBody (top 25), defScope (top 25), [], []⟩,
  ⟨("checked_paths", none), "checked_paths", "checked_paths", defArgs (top 26), defBody (top 26), defScope (top 26), [], []⟩,
  ⟨("is_outage", none), "is_outage", "is_outage", defArgs (top 27), defBody (top 27), defScope (top 27), [], []⟩,
  ⟨("checked_borders", none), "checked_borders", "checked_borders", defArgs (top 28), defBody (top 28), defScope (top 28), [], []⟩,
  ⟨("checked_outages", none), "checked_outages", "checked_outages", defArgs (top 29), defBody (top 29), defScope (top 29), [], []⟩,
  ⟨("Map", some "__init__"), "__init__", "Map.__init__", defArgs (inClass (top 30) 0), defBody (inClass (top 30) 0), defScope (inClass (top 30) 0), [.adr (He.dflAt ("Map", some "__init__") 0)], [("length", .int 1), ("borders", .non), ("outages", .non)]⟩,
  ⟨("Map", some "__iter__"), "__iter__", "Map.__iter__", defArgs (inClass (top 30) 1), defBody (inClass (top 30) 1), defScope (inClass (top 30) 1), [], []⟩,
  ⟨("Map", some "__len__"), "__len__", "Map.__len__", defArgs (inClass (top 30) 2), defBody (inClass (top 30) 2), defScope (inClass (top 30) 2), [], []⟩,
  ⟨("Map", some "__contains__"), "__contains__", "Map.__contains__", defArgs (inClass (top 30) 3), defBody (inClass (top 30) 3), defScope (inClass (top 30) 3), [], []⟩,
  ⟨("Map", some "__eq__"), "__eq__", "Map.__eq__", defArgs (inClass (top 30) 4), defBody (inClass (top 30) 4), defScope (inClass (top 30) 4), [], []⟩,
  ⟨("Map", some "places"), "places", "Map.places", defArgs (inClass (top 30) 5), defBody (inClass (top 30) 5), defScope (inClass (top 30) 5), [], []⟩,
  ⟨("Map", some "area_of"), "area_of", "Map.area_of", defArgs (inClass (top 30) 6), defBody (inClass (top 30) 6), defScope (inClass (top 30) 6), [], []⟩]
def fn1 : List He.DefD := [
  ⟨("Map", some "near"), "near", "Map.near", defArgs (inClass (top 30) 7), defBody (inClass (top 30) 7), defScope (inClass (top 30) 7), [], []⟩,
  ⟨("Map", some "day"), "day", "Map.day", defArgs (inClass (top 30) 9), defBody (inClass (top 30) 9), defScope (inClass (top 30) 9), [], []⟩,
  ⟨("Map", some "reach_of_time"), "reach_of_time", "Map.reach_of_time", defArgs (inClass (top 30) 10), defBody (inClass (top 30) 10), defScope (inClass (top 30) 10), [], []⟩,
  ⟨("Map", some "with_outages"), "with_outages", "Map.with_outages", defArgs (inClass (top 30) 11), defBody (inClass (top 30) 11), defScope (inClass (top 30) 11), [], []⟩,
  ⟨("first_mark", none), "first_mark", "first_mark", defArgs (top 32), defBody (top 32), defScope (top 32), [], []⟩,
  ⟨("can_pay", none), "can_pay", "can_pay", defArgs (top 33), defBody (top 33), defScope (top 33), [], []⟩,
  ⟨("put", none), "put", "put", defArgs (top 34), defBody (top 34), defScope (top 34), [], []⟩,
  ⟨("paid_mark", none), "paid_mark", "paid_mark", defArgs (top 35), defBody (top 35), defScope (top 35), [], []⟩,
  ⟨("left_behind", none), "left_behind", "left_behind", defArgs (top 36), defBody (top 36), defScope (top 36), [], []⟩,
  ⟨("moved_mark", none), "moved_mark", "moved_mark", defArgs (top 37), defBody (top 37), defScope (top 37), [], []⟩,
  ⟨("are_numbers", none), "are_numbers", "are_numbers", defArgs (top 40), defBody (top 40), defScope (top 40), [], []⟩,
  ⟨("check_map", none), "check_map", "check_map", defArgs (top 42), defBody (top 42), defScope (top 42), [], []⟩,
  ⟨("endless_place", none), "endless_place", "endless_place", defArgs (top 43), defBody (top 43), defScope (top 43), [], []⟩,
  ⟨("first_nodes", none), "first_nodes", "first_nodes", defArgs (top 44), defBody (top 44), defScope (top 44), [], []⟩,
  ⟨("stops_of", none), "stops_of", "stops_of", defArgs (top 45), defBody (top 45), defScope (top 45), [], []⟩,
  ⟨("Heights", some "__init__"), "__init__", "Heights.__init__", defArgs (inClass (top 46) 0), defBody (inClass (top 46) 0), defScope (inClass (top 46) 0), [], []⟩,
  ⟨("Heights", some "behind"), "behind", "Heights.behind", defArgs (inClass (top 46) 1), defBody (inClass (top 46) 1), defScope (inClass (top 46) 1), [], []⟩,
  ⟨("Heights", some "height"), "height", "Heights.height", defArgs (inClass (top 46) 2), defBody (inClass (top 46) 2), defScope (inClass (top 46) 2), [], []⟩,
  ⟨("Heights", some "top_node"), "top_node", "Heights.top_node", defArgs (inClass (top 46) 4), defBody (inClass (top 46) 4), defScope (inClass (top 46) 4), [], []⟩,
  ⟨("most_by_days", none), "most_by_days", "most_by_days", defArgs (top 47), defBody (top 47), defScope (top 47), [], []⟩,
  ⟨("is_pair", none), "is_pair", "is_pair", defArgs (top 50), defBody (top 50), defScope (top 50), [], []⟩,
  ⟨("least_outage", none), "least_outage", "least_outage", defArgs (top 51), defBody (top 51), defScope (top 51), [], []⟩,
  ⟨("without", none), "without", "without", defArgs (top 52), defBody (top 52), defScope (top 52), [], []⟩,
  ⟨("joined", none), "joined", "joined", defArgs (top 53), defBody (top 53), defScope (top 53), [], []⟩,
  ⟨("joined_limits", none), "joined_limits", "joined_limits", defArgs (top 54), defBody (top 54), defScope (top 54), [], []⟩]
def fn2 : List He.DefD := [
  ⟨("merged", none), "merged", "merged", defArgs (top 55), defBody (top 55), defScope (top 55), [], []⟩,
  ⟨("check_wish", none), "check_wish", "check_wish", defArgs (top 56), defBody (top 56), defScope (top 56), [], []⟩,
  ⟨("keeps_days", none), "keeps_days", "keeps_days", defArgs (top 57), defBody (top 57), defScope (top 57), [], []⟩,
  ⟨("all_pairs", none), "all_pairs", "all_pairs", defArgs (top 58), defBody (top 58), defScope (top 58), [], []⟩,
  ⟨("lists_of", none), "lists_of", "lists_of", defArgs (top 59), defBody (top 59), defScope (top 59), [], []⟩,
  ⟨("least_joins", none), "least_joins", "least_joins", defArgs (top 60), defBody (top 60), defScope (top 60), [], []⟩,
  ⟨("with_outage", none), "with_outage", "with_outage", defArgs (top 61), defBody (top 61), defScope (top 61), [], []⟩,
  ⟨("greatest_outages", none), "greatest_outages", "greatest_outages", defArgs (top 62), defBody (top 62), defScope (top 62), [], []⟩,
  ⟨("_law_pool", none), "_law_pool", "_law_pool", defArgs (top 64), defBody (top 64), defScope (top 64), [], []⟩,
  ⟨("_law_draw", none), "_law_draw", "_law_draw", defArgs (top 65), defBody (top 65), defScope (top 65), [], []⟩,
  ⟨("_law_pick", none), "_law_pick", "_law_pick", defArgs (top 66), defBody (top 66), defScope (top 66), [], []⟩,
  ⟨("_law_map", none), "_law_map", "_law_map", defArgs (top 67), defBody (top 67), defScope (top 67), [], []⟩,
  ⟨("_law_chart", none), "_law_chart", "_law_chart", defArgs (top 68), defBody (top 68), defScope (top 68), [], []⟩,
  ⟨("_law_spots", none), "_law_spots", "_law_spots", defArgs (top 69), defBody (top 69), defScope (top 69), [], []⟩,
  ⟨("_law_area", none), "_law_area", "_law_area", defArgs (top 70), defBody (top 70), defScope (top 70), [], []⟩,
  ⟨("_law_nexts", none), "_law_nexts", "_law_nexts", defArgs (top 71), defBody (top 71), defScope (top 71), [], []⟩,
  ⟨("_law_far", none), "_law_far", "_law_far", defArgs (top 72), defBody (top 72), defScope (top 72), [], []⟩,
  ⟨("_law_last", none), "_law_last", "_law_last", defArgs (top 73), defBody (top 73), defScope (top 73), [], []⟩,
  ⟨("_law_may", none), "_law_may", "_law_may", defArgs (top 74), defBody (top 74), defScope (top 74), [], []⟩,
  ⟨("_law_on", none), "_law_on", "_law_on", defArgs (top 75), defBody (top 75), defScope (top 75), [], []⟩,
  ⟨("_law_once", none), "_law_once", "_law_once", defArgs (top 76), defBody (top 76), defScope (top 76), [], []⟩,
  ⟨("_law_walks", none), "_law_walks", "_law_walks", defArgs (top 77), defBody (top 77), defScope (top 77), [], []⟩,
  ⟨("_law_count", none), "_law_count", "_law_count", defArgs (top 78), defBody (top 78), defScope (top 78), [], []⟩,
  ⟨("_law_top_sum", none), "_law_top_sum", "_law_top_sum", defArgs (top 79), defBody (top 79), defScope (top 79), [], []⟩,
  ⟨("_law_joined", none), "_law_joined", "_law_joined", defArgs (top 80), defBody (top 80), defScope (top 80), [], []⟩]
def fn3 : List He.DefD := [
  ⟨("_law_due", none), "_law_due", "_law_due", defArgs (top 81), defBody (top 81), defScope (top 81), [], []⟩,
  ⟨("_law_refused", none), "_law_refused", "_law_refused", defArgs (top 82), defBody (top 82), defScope (top 82), [], []⟩,
  ⟨("_law_with", none), "_law_with", "_law_with", defArgs (top 83), defBody (top 83), defScope (top 83), [], []⟩,
  ⟨("_law_outage_right", none), "_law_outage_right", "_law_outage_right", defArgs (top 84), defBody (top 84), defScope (top 84), [], []⟩,
  ⟨("_law_joins", none), "_law_joins", "_law_joins", defArgs (top 85), defBody (top 85), defScope (top 85), [], []⟩,
  ⟨("_law_four_right", none), "_law_four_right", "_law_four_right", defArgs (top 86), defBody (top 86), defScope (top 86), [], []⟩,
  ⟨("law", none), "law", "law", defArgs (top 87), defBody (top 87), defScope (top 87), [], []⟩]
def fn : List He.DefD := fn0 ++ fn1 ++ fn2 ++ fn3
def fa0 : List He.Fa := [
  .glo "is_integer",
  .glo "is_between",
  .glo "is_name",
  .glo "sets_of",
  .glo "index_sets",
  .glo "is_row",
  .glo "checked_areas",
  .glo "is_path",
  .glo "checked_paths",
  .glo "is_outage",
  .glo "checked_borders",
  .glo "checked_outages",
  .meth "Map" "places",
  .meth "Map" "area_of",
  .meth "Map" "near",
  .meth "Map" "day",
  .meth "Map" "reach_of_time",
  .meth "Map" "with_outages",
  .glo "first_mark",
  .glo "can_pay"]
def fa1 : List He.Fa := [
  .glo "put",
  .glo "paid_mark",
  .glo "left_behind",
  .glo "moved_mark",
  .glo "are_numbers",
  .glo "check_map",
  .glo "endless_place",
  .glo "first_nodes",
  .glo "stops_of",
  .meth "Heights" "behind",
  .meth "Heights" "height",
  .meth "Heights" "top_node",
  .glo "most_by_days",
  .glo "is_pair",
  .glo "least_outage",
  .glo "without",
  .glo "joined",
  .glo "joined_limits",
  .glo "merged",
  .glo "check_wish"]
def fa2 : List He.Fa := [
  .glo "keeps_days",
  .glo "all_pairs",
  .glo "lists_of",
  .glo "least_joins",
  .glo "with_outage",
  .glo "greatest_outages",
  .glo "_law_pool",
  .glo "_law_draw",
  .glo "_law_pick",
  .glo "_law_map",
  .glo "_law_chart",
  .glo "_law_spots",
  .glo "_law_area",
  .glo "_law_nexts",
  .glo "_law_far",
  .glo "_law_last",
  .glo "_law_may",
  .glo "_law_on",
  .glo "_law_once",
  .glo "_law_walks"]
def fa3 : List He.Fa := [
  .glo "_law_count",
  .glo "_law_top_sum",
  .glo "_law_joined",
  .glo "_law_due",
  .glo "_law_refused",
  .glo "_law_with",
  .glo "_law_outage_right",
  .glo "_law_joins",
  .glo "_law_four_right",
  .glo "law",
  .free "len",
  .free "all",
  .free "any",
  .free "isinstance",
  .free "int",
  .free "bool",
  .free "str",
  .free "list",
  .free "tuple",
  .free "max"]
def fa4 : List He.Fa := [
  .free "min",
  .free "sum",
  .free "range",
  .free "enumerate",
  .free "zip",
  .free "sorted",
  .free "dict",
  .free "repr",
  .free "ValueError",
  .int "MOST_LETTERS" 8,
  .int "MOST_AREAS" 4,
  .int "MOST_PLACES" 6,
  .int "MOST_PARTS" 4,
  .int "MOST_OUTAGE" 6,
  .int "MOST_STATES" 20000,
  .int "MOST_WISH" 1000000000000000000000000000000,
  .str "LETTERS" "abcdefghijklmnopqrstuvwxyz",
  .cls "Map",
  .glo "Map",
  .noat "Map" "areas"]
def fa5 : List He.Fa := [
  .noat "Map" "paths",
  .noat "Map" "length",
  .noat "Map" "borders",
  .noat "Map" "outages",
  .cls "Heights",
  .glo "Heights",
  .noat "Heights" "chart",
  .noat "Heights" "limits",
  .noat "Heights" "last",
  .noat "Heights" "known",
  .noat "Heights" "sheets",
  .mkr "Map",
  .mkr "Heights",
  .glo "BadPart",
  .glo "BadLimits",
  .glo "BadWish",
  .glo "TownError"]
def fa : List He.Fa := fa0 ++ fa1 ++ fa2 ++ fa3 ++ fa4 ++ fa5
def names0 : List PySem.Str := ["_wall", "__name__", "TownError", "BadPart", "BadWish", "BadLimits", "BadMap", "TooMany", "UnknownPlace", "LETTERS", "MOST_LETTERS", "is_integer", "is_between", "is_name", "sets_of", "index_sets", "MOST_AREAS", "MOST_PLACES", "MOST_PARTS", "MOST_OUTAGE"]
def names1 : List PySem.Str := ["is_row", "checked_areas", "is_path", "checked_paths", "is_outage", "checked_borders", "checked_outages", "Map", "first_mark", "can_pay", "put", "paid_mark", "left_behind", "moved_mark", "MOST_STATES", "are_numbers", "check_map", "endless_place", "first_nodes", "stops_of"]
def names2 : List PySem.Str := ["Heights", "most_by_days", "MOST_WISH", "is_pair", "least_outage", "without", "joined", "joined_limits", "merged", "check_wish", "keeps_days", "all_pairs", "lists_of", "least_joins", "with_outage", "greatest_outages", "_law_pool", "_law_draw", "_law_pick", "_law_map"]
def names3 : List PySem.Str := ["_law_chart", "_law_spots", "_law_area", "_law_nexts", "_law_far", "_law_last", "_law_may", "_law_on", "_law_once", "_law_walks", "_law_count", "_law_top_sum", "_law_joined", "_law_due", "_law_refused", "_law_with", "_law_outage_right", "_law_joins", "_law_four_right"]
def names : List PySem.Str := names0 ++ names1 ++ names2 ++ names3
def mapC (K : PySem.W.Frag) : Value := .ref (He.ga K "Map")
def exB (K : PySem.W.Frag) : Bool := (decide (PySem.W.findIn K (mapC K) "__class__" = some (some (.builtin "object.__class__"))) && (decide (PySem.W.specialIn K (.builtin "object.__class__") "__get__" = some (some (.builtin "getset_descriptor.__get__"))) && (decide (PySem.W.takesIn K (.builtin "object.__class__") = some true) && (decide (PySem.W.mroIn K (He.ga K "Map") (.type "object") = some true) && decide (PySem.W.kitOne K (.type "NoneType") (mapC K) = some false))))) && L2.My.excsB K
def adrs : List Addr := [2,3,30,31,47,48,50,51,66,67,69,70,85,86,88,89,104,105,107,108,123,124,126,127,143,144,146,147,156,157,163,164,168,169,173,174,180,181,187,188,192,193,197,198,202,203,209,210,214,215,219,220,229,230,236,237,243,244,250,251,255,256,262,263,267,268,274,275,279,280,293,294,298,299,305,306,315,316,324,325,331,332,338,339,345,346,352,353,357,358,362,363,369,370,376,377,381,382,386,387,400,401,405,406,410,411,422,423,425,426,436,437,441,442,448,449,453,454,460,461,467,468,472,473,479,480,486,487,491,492,496,497,501,502,508,509,513,514,520,521,527,528,534,535,539,540,546,547,553,554,558,559,565,566,570,571,577,578,584,585,591,592,596,597,603,604,608,609,613,614,618,619,625,626,632,633,639,640,646,647,653,654,660,661,665,666]
abbrev hk : PySem.W.Hook := L2.My.hookM adrs fa fn exB
def ob (s : PySem.W.SharedT) : L2.My.AlM := L2.My.obsM fa fn exB (He.frG (HandSHeadRun.getT s) adrs)
theorem ob_eq (s : PySem.W.SharedT) : ob s = hk.obs s.abs := by
  have e : HandSHeadRun.getT s = s.abs.heap.get? := funext (HandSHeadRun.getT_eq s)
  show L2.My.obsM fa fn exB (He.frG (HandSHeadRun.getT s) adrs) = L2.My.obsM fa fn exB (He.frG s.abs.heap.get? adrs)
  rw [e]
theorem run (w : World) : HandSHeadRun.RunEq R (PySem.W.view R.prog [87]) hk ob 6000 names w := by
  intro os
  kernel_rfl
end My
end
section
set_option Elab.async false
set_option linter.all false
set_option maxRecDepth 100000
set_option autoImplicit false
/-! Lay1: data over the abstract heap, states with owned cells, and the judgements EV (expressions), SV (blocks). -/
namespace L2.My
open PySem PySem.Spec PyProof.Rows

/-! ### data that stands in the heap -/
def kd : Key → PyData
  | .inl i => .int i
  | .inr s => .str s
mutual
inductive Da (H : Hp) : V → PyData → Prop where
  | non : Da H .non .none
  | bl (b : Bool) : Da H (.bl b) (.bool b)
  | int (i : Int) : Da H (.int i) (.int i)
  | str (x : Str) : Da H (.str x) (.str x)
  | lst {a : Addr} {xs : List V} {ds : List PyData} : H a = some (.lst xs) → Das H xs ds → Da H (.ref a) (.list ds)
  | tup {a : Addr} {xs : List V} {ds : List PyData} : H a = some (.tup xs) → Das H xs ds → Da H (.ref a) (.tuple ds)
  | dct {a : Addr} {kvs : List (Key × V)} {kds : List (Key × PyData)} {es : List (PyData × PyData)} : H a = some (.dK kvs) → Dae H kvs kds → es = kds.map (fun q => (kd q.1, q.2)) → Da H (.ref a) (.dict es)
inductive Das (H : Hp) : List V → List PyData → Prop where
  | nil : Das H [] []
  | cons {v : V} {vs : List V} {d : PyData} {ds : List PyData} : Da H v d → Das H vs ds → Das H (v :: vs) (d :: ds)
inductive Dae (H : Hp) : List (Key × V) → List (Key × PyData) → Prop where
  | nil : Dae H [] []
  | cons {k : Key} {v : V} {kvs : List (Key × V)} {d : PyData} {es : List (Key × PyData)} : Da H v d → Dae H kvs es → Dae H ((k, v) :: kvs) ((k, d) :: es)
end
mutual
theorem Da.mono {H H' : Hp} (s : Same H H') : ∀ {v : V} {d : PyData}, Da H v d → Da H' v d
  | _, _, .non => .non
  | _, _, .bl b => .bl b
  | _, _, .int i => .int i
  | _, _, .str x => .str x
  | _, _, .lst e t => .lst (s _ _ e) (Das.mono s t)
  | _, _, .tup e t => .tup (s _ _ e) (Das.mono s t)
  | _, _, .dct e t q => .dct (s _ _ e) (Dae.mono s t) q
theorem Das.mono {H H' : Hp} (s : Same H H') : ∀ {vs : List V} {ds : List PyData}, Das H vs ds → Das H' vs ds
  | _, _, .nil => .nil
  | _, _, .cons a t => .cons (Da.mono s a) (Das.mono s t)
theorem Dae.mono {H H' : Hp} (s : Same H H') : ∀ {vs : List (Key × V)} {ds : List (Key × PyData)}, Dae H vs ds → Dae H' vs ds
  | _, _, .nil => .nil
  | _, _, .cons a t => .cons (Da.mono s a) (Dae.mono s t)
end
theorem Das.length {H : Hp} : ∀ {vs : List V} {ds : List PyData}, Das H vs ds → vs.length = ds.length
  | _, _, .nil => rfl
  | _, _, .cons _ t => congrArg Nat.succ (Das.length t)
theorem Das.get {H : Hp} : ∀ {vs : List V} {ds : List PyData} {i : Nat} {d : PyData}, Das H vs ds → ds[i]? = some d → ∃ v, vs[i]? = some v ∧ Da H v d
  | _, _, i, _, .nil, e => by simp at e
  | _, _, 0, d, .cons a t, e => by
    simp at e
    subst e
    exact ⟨_, rfl, a⟩
  | _, _, i + 1, d, .cons a t, e => by
    obtain ⟨v, h1, h2⟩ := Das.get (i := i) (d := d) t (by simpa using e)
    exact ⟨v, by simpa using h1, h2⟩
theorem Das.getV {H : Hp} : ∀ {vs : List V} {ds : List PyData} {i : Nat} {v : V}, Das H vs ds → vs[i]? = some v → ∃ d, ds[i]? = some d ∧ Da H v d
  | _, _, i, _, .nil, e => by simp at e
  | _, _, 0, d, .cons a t, e => by
    simp at e
    subst e
    exact ⟨_, rfl, a⟩
  | _, _, i + 1, d, .cons a t, e => by
    obtain ⟨v, h1, h2⟩ := Das.getV (i := i) (v := d) t (by simpa using e)
    exact ⟨v, by simpa using h1, h2⟩
theorem Das.append {H : Hp} : ∀ {vs ws : List V} {ds es : List PyData}, Das H vs ds → Das H ws es → Das H (vs ++ ws) (ds ++ es)
  | _, _, _, _, .nil, s => s
  | _, _, _, _, .cons a t, s => .cons a (Das.append t s)
theorem Das.take {H : Hp} : ∀ {vs : List V} {ds : List PyData} (n : Nat), Das H vs ds → Das H (vs.take n) (ds.take n)
  | _, _, 0, _ => .nil
  | _, _, _ + 1, .nil => .nil
  | _, _, n + 1, .cons a t => .cons a (Das.take n t)
theorem Das.drop {H : Hp} : ∀ {vs : List V} {ds : List PyData} (n : Nat), Das H vs ds → Das H (vs.drop n) (ds.drop n)
  | _, _, 0, h => h
  | _, _, _ + 1, .nil => .nil
  | _, _, n + 1, .cons a t => Das.drop n t
theorem Das.set {H : Hp} {v : V} {d : PyData} (a : Da H v d) : ∀ {vs : List V} {ds : List PyData} (n : Nat), Das H vs ds → Das H (vs.set n v) (ds.set n d)
  | _, _, _, .nil => .nil
  | _, _, 0, .cons _ t => .cons a t
  | _, _, n + 1, .cons b t => .cons b (Das.set a n t)
theorem Das.ints {H : Hp} : ∀ {vs : List V} {ns : List Int}, Das H vs (ns.map PyData.int) → vs = ns.map V.int
  | _, [], .nil => rfl
  | _, n :: ns, .cons (.int _) t => by rw [Das.ints t]; rfl
theorem Das.bls {H : Hp} : ∀ {vs : List V} {ns : List Bool}, Das H vs (ns.map PyData.bool) → vs = ns.map V.bl
  | _, [], .nil => rfl
  | _, n :: ns, .cons (.bl _) t => by rw [Das.bls t]; rfl
theorem Das.strs {H : Hp} : ∀ {vs : List V} {ns : List Str}, Das H vs (ns.map PyData.str) → vs = ns.map V.str
  | _, [], .nil => rfl
  | _, n :: ns, .cons (.str _) t => by rw [Das.strs t]; rfl
theorem Das.of_ints {H : Hp} : ∀ (ns : List Int), Das H (ns.map V.int) (ns.map PyData.int)
  | [] => .nil
  | n :: ns => .cons (.int n) (Das.of_ints ns)
theorem Das.of_strs {H : Hp} : ∀ (ns : List Str), Das H (ns.map V.str) (ns.map PyData.str)
  | [] => .nil
  | n :: ns => .cons (.str n) (Das.of_strs ns)

mutual
def nod : PyData → Bool
  | .list ds => nods ds
  | .tuple ds => nods ds
  | .dict _ => false
  | _ => true
def nods : List PyData → Bool
  | [] => true
  | d :: ds => nod d && nods ds
end
mutual
theorem Da.dp {K : PySem.W.Frag} {H : Hp} : ∀ {v : V} {d : PyData}, Da H v d → nod d = true → Dp K H v d
  | _, _, .non, _ => .non
  | _, _, .bl b, _ => .bl b
  | _, _, .int i, _ => .int i
  | _, _, .str x, _ => .str x
  | _, _, .lst e t, h => .lst (.of e) (Das.dp t (by simpa [nod] using h))
  | _, _, .tup e t, h => .tup (.of e) (Das.dp t (by simpa [nod] using h))
  | _, _, .dct e t q, h => by simp [nod] at h
theorem Das.dp {K : PySem.W.Frag} {H : Hp} : ∀ {vs : List V} {ds : List PyData}, Das H vs ds → nods ds = true → DpAll K H vs ds
  | _, _, .nil, _ => .nil
  | _, d :: ds, .cons a t, h => by
    have h2 : (nod d && nods ds) = true := by simpa [nods] using h
    obtain ⟨h3, h4⟩ := Bool.and_eq_true_iff.mp h2
    exact .cons (Da.dp a h3) (Das.dp t h4)
end

/-! dicts with int and text keys -/
def dk (l : List (Key × PyData)) : PyData := .dict (l.map fun q => (kd q.1, q.2))
theorem kd_inj {k l : Key} (h : kd k = kd l) : k = l := by
  cases k <;> cases l <;> simp [kd] at h <;> simp [h]
theorem dk_inj : ∀ {l m : List (Key × PyData)}, (l.map fun q => (kd q.1, q.2)) = (m.map fun q => (kd q.1, q.2)) → l = m
  | [], [], _ => rfl
  | [], _ :: _, h => by simp at h
  | _ :: _, [], h => by simp at h
  | (k, d) :: l, (k', d') :: m, h => by
    simp only [List.map_cons, List.cons.injEq, Prod.mk.injEq] at h
    obtain ⟨⟨h1, h2⟩, h3⟩ := h
    rw [kd_inj h1, h2, dk_inj h3]
theorem Da.dict {H : Hp} {v : V} {l : List (Key × PyData)} (h : Da H v (dk l)) : ∃ a kvs, v = .ref a ∧ H a = some (.dK kvs) ∧ Dae H kvs l := by
  unfold dk at h
  cases h with
  | dct e t q => rw [dk_inj q]; exact ⟨_, _, rfl, e, t⟩
theorem Da.of_dict {H : Hp} {a : Addr} {kvs : List (Key × V)} {l : List (Key × PyData)} (e : H a = some (.dK kvs)) (t : Dae H kvs l) : Da H (.ref a) (dk l) := .dct e t rfl
theorem Dae.length {H : Hp} : ∀ {kvs : List (Key × V)} {l : List (Key × PyData)}, Dae H kvs l → kvs.length = l.length
  | _, _, .nil => rfl
  | _, _, .cons _ t => congrArg Nat.succ (Dae.length t)
def lkD (l : List (Key × PyData)) (k : Key) : Option PyData := (l.find? fun kv => decide (kv.1 = k)).map (·.2)
theorem Dae.val {H : Hp} (k : Key) : ∀ {kvs : List (Key × V)} {l : List (Key × PyData)}, Dae H kvs l → (valV kvs k = none ∧ lkD l k = none) ∨ ∃ v d, valV kvs k = some v ∧ lkD l k = some d ∧ Da H v d
  | _, _, .nil => .inl ⟨rfl, rfl⟩
  | _, _, .cons (k := q) (v := v) (d := d) a t => by
    by_cases h : q = k
    · exact .inr ⟨v, d, by simp [valV, h], by simp [lkD, h], a⟩
    · rcases Dae.val k t with ⟨h1, h2⟩ | ⟨v', d', h1, h2, h3⟩
      · exact .inl ⟨by simpa [valV, h] using h1, by simpa [lkD, h] using h2⟩
      · exact .inr ⟨v', d', by simpa [valV, h] using h1, by simpa [lkD, h] using h2, h3⟩
def ptD (l : List (Key × PyData)) (k : Key) (d : PyData) : List (Key × PyData) := if (l.any fun kv => decide (kv.1 = k)) then l.map fun kv => if kv.1 = k then (kv.1, d) else kv else l ++ [(k, d)]
theorem Dae.append {H : Hp} : ∀ {vs ws : List (Key × V)} {ds es : List (Key × PyData)}, Dae H vs ds → Dae H ws es → Dae H (vs ++ ws) (ds ++ es)
  | _, _, _, _, .nil, s => s
  | _, _, _, _, .cons a t, s => .cons a (Dae.append t s)

/-! ### predicates of values, of objects -/
structure Pr where
  p : Hp → V → Prop
  mono : ∀ {H H' : Hp} {v : V}, Same H H' → p H v → p H' v
structure PrO where
  p : Hp → HO → Prop
  mono : ∀ {H H' : Hp} {o : HO}, Same H H' → p H o → p H' o
def da (d : PyData) : Pr := ⟨fun H v => Da H v d, fun s h => h.mono s⟩
/-- a list that is owned -/
def ol (ds : List PyData) : PrO := ⟨fun H o => ∃ vs, o = .lst vs ∧ Das H vs ds, fun s ⟨vs, e, h⟩ => ⟨vs, e, h.mono s⟩⟩
/-- a dict that is owned -/
def od (es : List (Key × PyData)) : PrO := ⟨fun H o => ∃ kvs, o = .dK kvs ∧ Dae H kvs es, fun s ⟨vs, e, h⟩ => ⟨vs, e, h.mono s⟩⟩

inductive Slot where
  | no
  | val (φ : Pr)
  | ptr (p : Addr)
abbrev Ow := List (Addr × PrO)

/-- from (G, H) to (G', H'): the part without owned cells, the whole -/
structure Gr (B : Hp × Hp) (G H : Hp) : Prop where
  g : Same B.1 G
  h : Same B.2 H
  s : Same G H
  n : ∀ a, B.1 a = none → B.2 a ≠ none → G a = none
theorem Gr.refl {G H : Hp} (s : Same G H) : Gr (G, H) G H := ⟨Same.refl _, Same.refl _, s, fun _ h _ => h⟩
theorem Gr.trans {B : Hp × Hp} {G H G' H' : Hp} (a : Gr B G H) (b : Gr (G, H) G' H') : Gr B G' H' :=
  ⟨a.g.trans b.g, a.h.trans b.h, b.s, fun p h1 h2 => b.n p (a.n p h1 h2) fun z => by
    cases e : B.2 p with
    | none => exact h2 e
    | some o =>
      have := a.h p o e
      rw [show (G, H).2 p = H p from rfl] at z
      rw [this] at z
      cases z⟩
theorem Gr.alloc {G H : Hp} {p : Addr} {o : HO} (s : Same G H) (hp : H p = none) : Gr (G, H) (upd G p o) (upd H p o) := by
  have gp : G p = none := s.free hp
  refine ⟨fun b u e => ?_, fun b u e => ?_, fun b u e => ?_, fun a h1 h2 => ?_⟩
  · rw [upd_ne (ne_of_none e gp)]; exact e
  · rw [upd_ne (ne_of_none e hp)]; exact e
  · by_cases hb : b = p
    · subst hb; rw [upd_same] at e ⊢; exact e
    · rw [upd_ne hb] at e ⊢; exact s b u e
  · have ne : a ≠ p := fun z => h2 (by rw [z]; exact hp)
    rw [upd_ne ne]; exact h1

def SlotOk (G : Hp) (x : Option (Option V)) : Slot → Prop
  | .no => True
  | .val φ => ∃ v, x = some (some v) ∧ φ.p G v
  | .ptr p => x = some (some (.ref p))
structure OwOk (B : Hp × Hp) (G H : Hp) (q : Addr × PrO) : Prop where
  new : B.2 q.1 = none
  out : G q.1 = none
  at_ : ∃ o, H q.1 = some o ∧ q.2.p G o
structure Ok (B : Hp × Hp) (ρ : List Slot) (ow : Ow) (G : Hp) (σ : St) (H : Hp) : Prop where
  gr : Gr B G H
  sl : ∀ (i : Nat) (s : Slot), ρ[i]? = some s → SlotOk G σ[i]? s
  len : σ.length = ρ.length
  own : ∀ q ∈ ow, OwOk B G H q
  ap : (ow.map (·.1)).Nodup
theorem SlotOk.mono {G G' : Hp} {x : Option (Option V)} {s : Slot} (e : Same G G') (h : SlotOk G x s) : SlotOk G' x s := by
  cases s with
  | no => exact h
  | val φ => obtain ⟨v, e1, p⟩ := h; exact ⟨v, e1, φ.mono e p⟩
  | ptr p => exact h
section
variable {B : Hp × Hp} {ρ ρ' : List Slot} {ow ow' : Ow} {G G' H H' : Hp} {σ σ' : St}
theorem OwOk.grow {q : Addr × PrO} (h : OwOk B G H q) (g : Gr (G, H) G' H') : OwOk B G' H' q := by
  obtain ⟨n, out, o, e, p⟩ := h
  exact ⟨n, g.n _ out (by rw [show (G, H).2 q.1 = H q.1 from rfl, e]; simp), o, g.h _ _ e, q.2.mono g.g p⟩
theorem Ok.grow (h : Ok B ρ ow G σ H) (g : Gr (G, H) G' H') : Ok B ρ ow G' σ H' :=
  ⟨h.gr.trans g, fun i s e => (h.sl i s e).mono g.g, h.len, fun q hq => (h.own q hq).grow g, h.ap⟩
theorem Ok.get {i : Nat} {φ : Pr} (h : Ok B ρ ow G σ H) (e : ρ[i]? = some (.val φ)) : ∃ v, σ[i]? = some (some v) ∧ φ.p G v := h.sl i _ e
theorem Ok.ptr {i : Nat} {p : Addr} (h : Ok B ρ ow G σ H) (e : ρ[i]? = some (.ptr p)) : σ[i]? = some (some (.ref p)) := h.sl i _ e
/-- slots forgotten or put -/
theorem Ok.set {i : Nat} {v : V} {s : Slot} (h : Ok B ρ ow G σ H) (q : SlotOk G (some (some v)) s) : Ok B (ρ.set i s) ow G (σ.set i (some v)) H := by
  refine ⟨h.gr, fun j s' e => ?_, by rw [List.length_set, List.length_set]; exact h.len, h.own, h.ap⟩
  by_cases hj : j = i
  · subst hj
    by_cases hl : j < ρ.length
    · rw [List.getElem?_set_self hl] at e
      cases e
      rw [List.getElem?_set_self (by rw [h.len]; exact hl)]
      exact q
    · rw [List.getElem?_eq_none_iff.mpr (by rw [List.length_set]; omega)] at e
      cases e
  · rw [List.getElem?_set_ne (Ne.symm hj)] at e ⊢
    exact h.sl j s' e
theorem Ok.weak (h : Ok B ρ ow G σ H) (hl : ρ'.length = ρ.length) (hw : ∀ (i : Nat) (s : Slot), ρ'[i]? = some s → s = .no ∨ ρ[i]? = some s) : Ok B ρ' ow G σ H := by
  refine ⟨h.gr, fun i s e => ?_, h.len.trans hl.symm, h.own, h.ap⟩
  rcases hw i s e with z | z
  · subst z; exact True.intro
  · exact h.sl i s z
/-- an owned cell is let go: it stands among the rest -/
theorem Ok.freeze {p : Addr} {ψ : PrO} (h : Ok B ρ ((p, ψ) :: ow) G σ H) : ∃ o, ψ.p G o ∧ Ok B ρ ow (upd G p o) σ H ∧ Same G (upd G p o) := by
  obtain ⟨n, out, o, e, q⟩ := h.own _ List.mem_cons_self
  have sg : Same G (upd G p o) := fun b u z => by rw [upd_ne (ne_of_none z out)]; exact z
  have nd := h.ap
  rw [List.map_cons, List.nodup_cons] at nd
  refine ⟨o, q, ⟨⟨h.gr.g.trans sg, h.gr.h, fun b u z => ?_, fun a h1 h2 => ?_⟩, fun i s e => (h.sl i s e).mono sg, h.len, fun r hr => ?_, nd.2⟩, sg⟩
  · by_cases hb : b = p
    · subst hb; rw [upd_same] at z; cases z; exact e
    · rw [upd_ne hb] at z; exact h.gr.s b u z
  · have ne : a ≠ p := fun z => h2 (by rw [z]; exact n)
    rw [upd_ne ne]; exact h.gr.n a h1 h2
  · obtain ⟨n', out', o', e', q'⟩ := h.own r (List.mem_cons_of_mem _ hr)
    have ne : r.1 ≠ p := fun z => nd.1 (List.mem_map.mpr ⟨r, hr, z⟩)
    exact ⟨n', by rw [upd_ne ne]; exact out', o', e', r.2.mono sg q'⟩
/-- an owned cell is made -/
theorem Ok.mk_own {p : Addr} {o : HO} {ψ : PrO} (h : Ok B ρ ow G σ H) (hp : H p = none) (q : ψ.p G o) : Ok B ρ ((p, ψ) :: ow) G σ (upd H p o) := by
  have gp : G p = none := h.gr.s.free hp
  have sh : Same H (upd H p o) := fun b u z => by rw [upd_ne (ne_of_none z hp)]; exact z
  refine ⟨⟨h.gr.g, h.gr.h.trans sh, h.gr.s.trans sh, h.gr.n⟩, h.sl, h.len, fun r hr => ?_, ?_⟩
  · rcases List.mem_cons.mp hr with e | hr
    · subst e
      exact ⟨h.gr.h.free hp, gp, o, upd_same, q⟩
    · obtain ⟨n', out', o', e', q'⟩ := h.own r hr
      exact ⟨n', out', o', sh _ _ e', q'⟩
  · rw [List.map_cons, List.nodup_cons]
    refine ⟨fun z => ?_, h.ap⟩
    obtain ⟨r, hr, e⟩ := List.mem_map.mp z
    obtain ⟨_, _, o', e', _⟩ := h.own r hr
    rw [e] at e'
    rw [hp] at e'
    cases e'
/-- an owned cell is written -/
theorem Ok.write {p : Addr} {o : HO} {ψ χ : PrO} (h : Ok B ρ ((p, ψ) :: ow) G σ H) (q : χ.p G o) : Ok B ρ ((p, χ) :: ow) G σ (upd H p o) := by
  obtain ⟨n, out, o0, e, _⟩ := h.own _ List.mem_cons_self
  have nd := h.ap
  rw [List.map_cons, List.nodup_cons] at nd
  refine ⟨⟨h.gr.g, fun b u z => ?_, fun b u z => ?_, h.gr.n⟩, h.sl, h.len, fun r hr => ?_, by rw [List.map_cons, List.nodup_cons]; exact nd⟩
  · rw [upd_ne (ne_of_none z n)]; exact h.gr.h b u z
  · rw [upd_ne (ne_of_none z out)]; exact h.gr.s b u z
  · rcases List.mem_cons.mp hr with e | hr
    · subst e
      exact ⟨n, out, o, upd_same, q⟩
    · obtain ⟨n', out', o', e', q'⟩ := h.own r (List.mem_cons_of_mem _ hr)
      have ne : r.1 ≠ p := fun z => nd.1 (List.mem_map.mpr ⟨r, hr, z⟩)
      exact ⟨n', out', o', by rw [upd_ne ne]; exact e', q'⟩
/-- the owned cells in another order, fewer -/
theorem Ok.perm (h : Ok B ρ ow G σ H) (hp : ∀ q ∈ ow', q ∈ ow) (nd : (ow'.map (·.1)).Nodup) : Ok B ρ ow' G σ H :=
  ⟨h.gr, h.sl, h.len, fun q hq => h.own q (hp q hq), nd⟩
theorem Ok.drop {q : Addr × PrO} (h : Ok B ρ (q :: ow) G σ H) : Ok B ρ ow G σ H := by
  have nd := h.ap
  rw [List.map_cons, List.nodup_cons] at nd
  exact h.perm (fun r hr => List.mem_cons_of_mem _ hr) nd.2
end

/-! ### the judgements -/
def tEV (B : Hp × Hp) (ρ : List Slot) (ow : Ow) (φ : Pr) : TE := fun σ H Q => ∃ G, Ok B ρ ow G σ H ∧ ∀ v G' H', Gr (G, H) G' H' → φ.p G' v → Q v H'
/-- e's value is φ -/
def EV (X : Cx) (B : Hp × Hp) (ρ : List Slot) (ow : Ow) (e : Expr) (φ : Pr) : Prop := PE X e (tEV B ρ ow φ)
def tEP (B : Hp × Hp) (ρ : List Slot) (ow : Ow) (φ : Pr) : TE := fun σ H Q => ∃ G, Ok B ρ ow G σ H ∧ ∀ v G' H', Gr (G, H) G' H' → φ.p H' v → Q v H'
/-- e's value is φ by the whole heap, the owned cells among it -/
def EP (X : Cx) (B : Hp × Hp) (ρ : List Slot) (ow : Ow) (e : Expr) (φ : Pr) : Prop := PE X e (tEP B ρ ow φ)
def tET (B : Hp × Hp) (ρ : List Slot) (ow : Ow) (b : Bool) : TT := fun σ H Q => ∃ G, Ok B ρ ow G σ H ∧ ∀ G' H', Gr (G, H) G' H' → Q b H'
/-- a test's answer is b -/
def ET (X : Cx) (B : Hp × Hp) (ρ : List Slot) (ow : Ow) (e : Expr) (b : Bool) : Prop := PT X e (tET B ρ ow b)
/-- values of a list of expressions -/
def PrAll (G : Hp) : List Pr → List V → Prop := Paired fun (p : Pr) v => p.p G v
theorem PrAll.mono {G G' : Hp} (s : Same G G') : ∀ {ps : List Pr} {vs : List V}, PrAll G ps vs → PrAll G' ps vs
  | _, _, .nil => .nil
  | p :: _, _, .cons a t => .cons (p.mono s a) (PrAll.mono s t)
def tEA (B : Hp × Hp) (ρ : List Slot) (ow : Ow) (φs : List Pr) : TA := fun σ H Q => ∃ G, Ok B ρ ow G σ H ∧ ∀ vs G' H', Gr (G, H) G' H' → PrAll G' φs vs → Q vs H'
def EA (X : Cx) (B : Hp × Hp) (ρ : List Slot) (ow : Ow) (es : List Expr) (φs : List Pr) : Prop := PA X es (tEA B ρ ow φs)

theorem _root_.L2.PE.weak {X : Cx} {e : Expr} {t u : TE} (h : PE X e t) (w : ∀ σ H Q, u σ H Q → t σ H Q) : PE X e u := ⟨fun pins s σ H Q I q => h.run pins s σ H Q I (w σ H Q q)⟩
theorem _root_.L2.PT.weak {X : Cx} {e : Expr} {t u : TT} (h : PT X e t) (w : ∀ σ H Q, u σ H Q → t σ H Q) : PT X e u := ⟨fun pins s σ H Q I q => h.run pins s σ H Q I (w σ H Q q)⟩
theorem _root_.L2.PW.weak {X : Cx} {e : Expr} {t u : TT} (h : PW X e t) (w : ∀ σ H Q, u σ H Q → t σ H Q) : PW X e u := ⟨fun wh pins s σ H Q I q => h.run wh pins s σ H Q I (w σ H Q q)⟩
theorem _root_.L2.PA.weak {X : Cx} {es : List Expr} {t u : TA} (h : PA X es t) (w : ∀ σ H Q, u σ H Q → t σ H Q) : PA X es u := ⟨fun pos pins s σ H Q I q => h.run pos pins s σ H Q I (w σ H Q q)⟩
theorem _root_.L2.PSs.weak {X : Cx} {st : List Stmt} {t u : TS} (h : PSs X st t) (w : ∀ D σ H, u D σ H → t D σ H) : PSs X st u := ⟨fun pins s σ H D I q => h.run pins s σ H D I (w D σ H q)⟩
theorem _root_.L2.PS.weak {X : Cx} {st : Stmt} {t u : TS} (h : PS X st t) (w : ∀ D σ H, u D σ H → t D σ H) : PS X st u := ⟨fun pins s σ H D I q => h.run pins s σ H D I (w D σ H q)⟩
/-- the weakest reading -/
def wE (X : Cx) (e : Expr) : TE := fun σ H Q => ∀ (pins : List (Addr × Obj)) (s : Shared), Inv X pins σ H s → wpAny (model X.prog X.w) X.A (eval e X.env) (L2.EP X pins σ Q) X.xe s
theorem pe_w {X : Cx} {e : Expr} : PE X e (wE X e) := ⟨fun pins s σ H Q I h => h pins s I⟩
theorem _root_.L2.PE.to {X : Cx} {e : Expr} {t : TE} (h : PE X e t) {σ : St} {H : Hp} {Q : VK} (q : t σ H Q) : wE X e σ H Q := fun pins s I => h.run pins s σ H Q I q
def wSs (X : Cx) (st : List Stmt) : TS := fun D σ H => ∀ (pins : List (Addr × Obj)) (s : Shared), Inv X pins σ H s → wpAny (model X.prog X.w) X.A (execs st X.env) (SP X pins D) X.xe s
theorem pss_w {X : Cx} {st : List Stmt} : PSs X st (wSs X st) := ⟨fun pins s σ H D I h => h pins s I⟩
theorem _root_.L2.PSs.to {X : Cx} {st : List Stmt} {t : TS} (h : PSs X st t) {σ : St} {H : Hp} {D : Ends} (q : t D σ H) : wSs X st D σ H := fun pins s I => h.run pins s σ H D I q
def wT (X : Cx) (e : Expr) : TT := fun σ H Q => ∀ (pins : List (Addr × Obj)) (s : Shared), Inv X pins σ H s → wpAny (model X.prog X.w) X.A (isTrue e X.env (eval e X.env)) (TP X pins σ Q) X.xe s
theorem pt_w {X : Cx} {e : Expr} : PT X e (wT X e) := ⟨fun pins s σ H Q I h => h pins s I⟩
theorem _root_.L2.PT.to {X : Cx} {e : Expr} {t : TT} (h : PT X e t) {σ : St} {H : Hp} {Q : Bool → Hp → Prop} (q : t σ H Q) : wT X e σ H Q := fun pins s I => h.run pins s σ H Q I q
def wA (X : Cx) (es : List Expr) : TA := fun σ H Q => ∀ (pos : Pos) (pins : List (Addr × Obj)) (s : Shared), Inv X pins σ H s → wpAny (model X.prog X.w) X.A (spliced (backTo pos (starEach es X.env))) (AP X pins σ Q) X.xe s
theorem pa_w {X : Cx} {es : List Expr} : PA X es (wA X es) := ⟨fun pos pins s σ H Q I h => h pos pins s I⟩
theorem _root_.L2.PA.to {X : Cx} {es : List Expr} {t : TA} (h : PA X es t) {σ : St} {H : Hp} {Q : List V → Hp → Prop} (q : t σ H Q) : wA X es σ H Q := fun pos pins s I => h.run pos pins s σ H Q I q

/-- what is wanted behind a block -/
structure Out where
  nx : List Slot → Ow → Prop
  rt : Pr
  bk : List Slot → Ow → Prop := fun _ _ => False
  ct : List Slot → Ow → Prop := fun _ _ => False
  ro : V → Ow → Prop := fun _ _ => True
structure OutOk (B : Hp × Hp) (D : Out) (E : Ends) : Prop where
  nx : ∀ (ρ : List Slot) (ow : Ow) (G : Hp) (σ : St) (H : Hp), D.nx ρ ow → Ok B ρ ow G σ H → E.nx σ H
  rt : ∀ v (ow : Ow) G H, D.ro v ow → (∀ q ∈ ow, OwOk B G H q) → Gr B G H → D.rt.p G v → E.rt v H
  bk : ∀ (ρ : List Slot) (ow : Ow) (G : Hp) (σ : St) (H : Hp), D.bk ρ ow → Ok B ρ ow G σ H → E.bk σ H
  ct : ∀ (ρ : List Slot) (ow : Ow) (G : Hp) (σ : St) (H : Hp), D.ct ρ ow → Ok B ρ ow G σ H → E.ct σ H
def tSV (B : Hp × Hp) (ρ : List Slot) (ow : Ow) (D : Out) : TS := fun E σ H => (∃ G, Ok B ρ ow G σ H) ∧ OutOk B D E
/-- a block from the state (ρ, ow) -/
def SV (X : Cx) (B : Hp × Hp) (ρ : List Slot) (ow : Ow) (sts : List Stmt) (D : Out) : Prop := PSs X sts (tSV B ρ ow D)
end L2.My
end
section
set_option Elab.async false
set_option linter.all false
set_option maxRecDepth 100000
set_option autoImplicit false
/-! Lay2: the rules of expressions. -/
namespace L2.My
open PySem PySem.Spec PyProof.Rows

section
variable {X : Cx} {B : Hp × Hp} {ρ : List Slot} {ow : Ow} {e a b c : Expr} {es rest : List Expr} {pos : Pos} {φ ψ χ : Pr} {d d1 d2 : PyData} {x y z : Bool} {i j : Int}

theorem ep_of (h : EV X B ρ ow e φ) : EP X B ρ ow e φ := L2.PE.weak h fun σ H Q ⟨G, ok, k⟩ => ⟨G, ok, fun v G' H' g p => k v G' H' g (φ.mono g.s p)⟩
theorem ev_as (h : EV X B ρ ow e φ) (w : ∀ H v, φ.p H v → ψ.p H v) : EV X B ρ ow e ψ := L2.PE.weak h fun σ H Q ⟨G, ok, k⟩ => ⟨G, ok, fun v G' H' g p => k v G' H' g (w _ _ p)⟩
theorem ep_as (h : EP X B ρ ow e φ) (w : ∀ H v, φ.p H v → ψ.p H v) : EP X B ρ ow e ψ := L2.PE.weak h fun σ H Q ⟨G, ok, k⟩ => ⟨G, ok, fun v G' H' g p => k v G' H' g (w _ _ p)⟩
theorem ev_eq (h : EV X B ρ ow e (da d)) (q : d = d1) : EV X B ρ ow e (da d1) := q ▸ h
/-- flat data does not lean on the heap -/
def flat : PyData → Bool
  | .list _ => false
  | .tuple _ => false
  | .dict _ => false
  | _ => true
theorem Da.flat {H H' : Hp} {v : V} {d : PyData} (h : Da H v d) (f : My.flat d = true) : Da H' v d := by
  cases h with
  | non => exact .non
  | bl b => exact .bl b
  | int i => exact .int i
  | str s => exact .str s
  | _ => cases f
theorem ev_flat (h : EP X B ρ ow e (da d)) (f : flat d = true) : EV X B ρ ow e (da d) := L2.PE.weak h fun σ H Q ⟨G, ok, k⟩ => ⟨G, ok, fun v G' H' g p => k v G' H' g (Da.flat p f)⟩

/-! names, constants -/
theorem ev_var {n : Nat} {nm : Str} (h : ρ[n]? = some (.val φ)) (hN : X.N[n]? = some nm := by rfl) (hv : Vis X.env.scope nm := by first | exact Or.inl rfl | exact Or.inr (Or.inl rfl) | exact Or.inr (Or.inr rfl)) (hd : (nm == ("__debug__" : Str)) = false := by decide)
    (hcd : (nm == ("__classdict__" : Str)) = false := by decide) : EV X B ρ ow (.Name nm pos) φ := L2.PE.weak (pe_var hN hv hd hcd) fun σ H Q ⟨G, ok, k⟩ => by
  obtain ⟨v, e1, p⟩ := ok.get h
  exact ⟨v, e1, k v G H (.refl ok.gr.s) p⟩
theorem ep_ptr {n : Nat} {nm : Str} {p : Addr} {o : PrO} (h : ρ[n]? = some (.ptr p)) (ho : (p, o) ∈ ow) (w : ∀ H u, H p = some u → o.p H u → φ.p H (.ref p)) (hN : X.N[n]? = some nm := by rfl)
    (hv : Vis X.env.scope nm := by first | exact Or.inl rfl | exact Or.inr (Or.inl rfl) | exact Or.inr (Or.inr rfl)) (hd : (nm == ("__debug__" : Str)) = false := by decide)
    (hcd : (nm == ("__classdict__" : Str)) = false := by decide) : EP X B ρ ow (.Name nm pos) φ := L2.PE.weak (pe_var hN hv hd hcd) fun σ H Q ⟨G, ok, k⟩ => by
  obtain ⟨_, _, u, e1, q⟩ := ok.own _ ho
  exact ⟨.ref p, ok.ptr h, k _ G H (.refl ok.gr.s) (w _ _ e1 (o.mono ok.gr.s q))⟩
/-- an owned list by its name -/
theorem ep_ol {n : Nat} {nm : Str} {p : Addr} {ds : List PyData} (h : ρ[n]? = some (.ptr p)) (ho : (p, ol ds) ∈ ow) (hN : X.N[n]? = some nm := by rfl)
    (hv : Vis X.env.scope nm := by first | exact Or.inl rfl | exact Or.inr (Or.inl rfl) | exact Or.inr (Or.inr rfl)) (hd : (nm == ("__debug__" : Str)) = false := by decide)
    (hcd : (nm == ("__classdict__" : Str)) = false := by decide) : EP X B ρ ow (.Name nm pos) (da (.list ds)) :=
  ep_ptr h ho (fun H u e1 ⟨vs, e2, q⟩ => .lst (e1.trans (congrArg some e2)) q) hN hv hd hcd
theorem ep_od {n : Nat} {nm : Str} {p : Addr} {ds : List (Key × PyData)} (h : ρ[n]? = some (.ptr p)) (ho : (p, od ds) ∈ ow) (hN : X.N[n]? = some nm := by rfl)
    (hv : Vis X.env.scope nm := by first | exact Or.inl rfl | exact Or.inr (Or.inl rfl) | exact Or.inr (Or.inr rfl)) (hd : (nm == ("__debug__" : Str)) = false := by decide)
    (hcd : (nm == ("__classdict__" : Str)) = false := by decide) : EP X B ρ ow (.Name nm pos) (da (dk ds)) :=
  ep_ptr h ho (fun H u e1 ⟨vs, e2, q⟩ => .of_dict (e1.trans (congrArg some e2)) q) hN hv hd hcd
theorem ev_c {v : V} (h : PE X e (tC v)) (q : ∀ H, φ.p H v) : EV X B ρ ow e φ := L2.PE.weak h fun σ H Q ⟨G, ok, k⟩ => k v G H (.refl ok.gr.s) (q G)
theorem ev_int {n : Int} {k} : EV X B ρ ow (.Constant (.int n) k pos) (da (.int n)) := ev_c pe_int fun _ => .int n
theorem ev_bl {n : Bool} {k} : EV X B ρ ow (.Constant (.bool n) k pos) (da (.bool n)) := ev_c pe_bl fun _ => .bl n
theorem ev_non {k} : EV X B ρ ow (.Constant .none k pos) (da .none) := ev_c pe_non fun _ => .non
theorem ev_str {n : Str} {k} : EV X B ρ ow (.Constant (.str n) k pos) (da (.str n)) := ev_c pe_str fun _ => .str n
theorem ev_gint {nm : Str} {n : Int} (hm : ∃ t, X.mg nm = some (.int n t)) (hg : Gl X nm := by rfl) (hd : (nm == ("__debug__" : Str)) = false := by decide) : EV X B ρ ow (.Name nm pos) (da (.int n)) := by
  obtain ⟨t, hm⟩ := hm
  exact ev_c (v := .int n) (pe_glob hg hm ⟨t, rfl⟩ hd) fun _ => .int n
theorem ev_gstr {nm : Str} {n : Str} (hm : ∃ t, X.mg nm = some (.str n t)) (hg : Gl X nm := by rfl) (hd : (nm == ("__debug__" : Str)) = false := by decide) : EV X B ρ ow (.Name nm pos) (da (.str n)) := by
  obtain ⟨t, hm⟩ := hm
  exact ev_c (v := .str n) (pe_glob hg hm ⟨t, rfl⟩ hd) fun _ => .str n

/-! operators -/
theorem ev_opI {op : Operator} {C : Int → Int → Prop} {g : Int → Int → V} {r : PyData} (ho : OpR X (binaryOp op) (rI C g)) (ha : EV X B ρ ow a (da (.int i))) (hb : EV X B ρ ow b (da (.int j))) (hc : C i j) (hr : ∀ H, Da H (g i j) r) :
    EV X B ρ ow (.BinOp a op b pos) (da r) := L2.PE.weak (pe_op ho ha hb) fun σ H Q ⟨G, ok, k⟩ => ⟨G, ok, fun v1 G1 H1 g1 p1 => ⟨G1, ok.grow g1, fun v2 G2 H2 g2 p2 => by
  cases (show Da G1 v1 (.int i) from p1)
  cases (show Da G2 v2 (.int j) from p2)
  exact ⟨i, j, rfl, rfl, hc, k _ G2 H2 (g1.trans g2) (hr G2)⟩⟩⟩
theorem ev_opI0 {op : Operator} {g : Int → Int → V} {r : PyData} (ho : OpR X (binaryOp op) (rI0 g)) (ha : EV X B ρ ow a (da (.int i))) (hb : EV X B ρ ow b (da (.int j))) (hr : ∀ H, Da H (g i j) r) :
    EV X B ρ ow (.BinOp a op b pos) (da r) := L2.PE.weak (pe_op ho ha hb) fun σ H Q ⟨G, ok, k⟩ => ⟨G, ok, fun v1 G1 H1 g1 p1 => ⟨G1, ok.grow g1, fun v2 G2 H2 g2 p2 => by
  cases (show Da G1 v1 (.int i) from p1)
  cases (show Da G2 v2 (.int j) from p2)
  exact ⟨i, j, rfl, rfl, k _ G2 H2 (g1.trans g2) (hr G2)⟩⟩⟩
theorem ev_add (ha : EV X B ρ ow a (da (.int i))) (hb : EV X B ρ ow b (da (.int j))) : EV X B ρ ow (.BinOp a .Add b pos) (da (.int (i + j))) := ev_opI0 op_add ha hb fun _ => .int _
theorem ev_sub (ha : EV X B ρ ow a (da (.int i))) (hb : EV X B ρ ow b (da (.int j))) : EV X B ρ ow (.BinOp a .Sub b pos) (da (.int (i - j))) := ev_opI0 op_sub ha hb fun _ => .int _
theorem ev_mul (ha : EV X B ρ ow a (da (.int i))) (hb : EV X B ρ ow b (da (.int j))) (hc : CMul i j) : EV X B ρ ow (.BinOp a .Mult b pos) (da (.int (i * j))) := ev_opI op_mul ha hb hc fun _ => .int _
theorem ev_fdiv (ha : EV X B ρ ow a (da (.int i))) (hb : EV X B ρ ow b (da (.int j))) (hc : CDiv i j) : EV X B ρ ow (.BinOp a .FloorDiv b pos) (da (.int (i / j))) := ev_opI op_fdiv ha hb hc fun _ => .int _
theorem ev_mod (ha : EV X B ρ ow a (da (.int i))) (hb : EV X B ρ ow b (da (.int j))) (hc : 0 < j) : EV X B ρ ow (.BinOp a .Mod b pos) (da (.int (i % j))) := ev_opI op_mod ha hb hc fun _ => .int _
theorem ev_pow (ha : EV X B ρ ow a (da (.int i))) (hb : EV X B ρ ow b (da (.int j))) (hc : CPow i j) : EV X B ρ ow (.BinOp a .Pow b pos) (da (.int (i ^ j.toNat))) := ev_opI op_pow ha hb hc fun _ => .int _
theorem ev_neg (ha : EV X B ρ ow a (da (.int i))) : EV X B ρ ow (.UnaryOp .USub a pos) (da (.int (-i))) := L2.PE.weak (pe_un un_neg ha) fun σ H Q ⟨G, ok, k⟩ => ⟨G, ok, fun v1 G1 H1 g1 p1 => by
  cases (show Da G1 v1 (.int i) from p1)
  exact ⟨i, rfl, k _ G1 H1 g1 (.int _)⟩⟩

/-! comparisons -/
/-- what a comparison's rule gives on values of these kinds -/
def R2b (r : R2) (φ ψ : Pr) (b : Bool) : Prop := ∀ (x y : V) (H : Hp) (Q : VK), φ.p H x → ψ.p H y → Q (.bl b) H → r x y H Q
theorem ev_cmp {op : CmpOp} {r : R2} (ho : OpR X (compareOp op) r) (ha : EP X B ρ ow a φ) (hb : EP X B ρ ow b ψ) (k : R2b r φ ψ x) (hm : behindInMarks op b = false) : EV X B ρ ow (.Compare a [op] [b] pos) (da (.bool x)) :=
  L2.PE.weak (pe_cmpR ho ha hb hm) fun σ H Q ⟨G, ok, q⟩ => ⟨G, ok, fun v1 G1 H1 g1 p1 => ⟨G1, ok.grow g1, fun v2 G2 H2 g2 p2 =>
    k _ _ _ _ (φ.mono g2.h p1) p2 (q _ G2 H2 (g1.trans g2) (.bl x))⟩⟩
theorem et_cmp {op : CmpOp} {r : R2} (ho : OpR X (compareOp op) r) (ha : EP X B ρ ow a φ) (hb : EP X B ρ ow b ψ) (k : R2b r φ ψ x) (hm : behindInMarks op b = false) : ET X B ρ ow (.Compare a [op] [b] pos) x :=
  L2.PT.weak (pt_cmpR ho ha hb hm) fun σ H Q ⟨G, ok, q⟩ => ⟨G, ok, fun v1 G1 H1 g1 p1 => ⟨G1, ok.grow g1, fun v2 G2 H2 g2 p2 =>
    k _ _ _ _ (φ.mono g2.h p1) p2 ⟨x, rfl, q G2 H2 (g1.trans g2)⟩⟩⟩
theorem ev_chain {op op' : CmpOp} {r r' : R2} (ho : OpR X (compareOp op) r) (ho' : OpR X (compareOp op') r') (ha : EP X B ρ ow a φ) (hb : EP X B ρ ow b ψ) (hc : EP X B ρ ow c χ) (k : R2b r φ ψ x) (k' : R2b r' ψ χ y)
    (hm : lastMarks [op, op'] [b, c] = false := by with_unfolding_all rfl) : EV X B ρ ow (.Compare a [op, op'] [b, c] pos) (da (.bool (x && y))) :=
  L2.PE.weak (pe_chain ho ho' ha hb hc hm) fun σ H Q ⟨G, ok, q⟩ => ⟨G, ok, fun v1 G1 H1 g1 p1 => ⟨G1, ok.grow g1, fun v2 G2 H2 g2 p2 =>
    k _ _ _ _ (φ.mono g2.h p1) p2 ⟨x, rfl, by
      cases x with
      | false => rw [if_neg Bool.false_ne_true]; exact q _ G2 H2 (g1.trans g2) (.bl false)
      | true =>
        rw [if_pos rfl]
        exact ⟨G2, (ok.grow g1).grow g2, fun v3 G3 H3 g3 p3 => k' _ _ _ _ (ψ.mono g3.h p2) p3 (q _ G3 H3 ((g1.trans g2).trans g3) (.bl y))⟩⟩⟩⟩
theorem et_chain {op op' : CmpOp} {r r' : R2} (ho : OpR X (compareOp op) r) (ho' : OpR X (compareOp op') r') (ha : EP X B ρ ow a φ) (hb : EP X B ρ ow b ψ) (hc : EP X B ρ ow c χ) (k : R2b r φ ψ x) (k' : R2b r' ψ χ y)
    (hm : lastMarks [op, op'] [b, c] = false := by with_unfolding_all rfl) : ET X B ρ ow (.Compare a [op, op'] [b, c] pos) (x && y) :=
  L2.PT.weak (pt_chain ho ho' ha hb hc hm) fun σ H Q ⟨G, ok, q⟩ => ⟨G, ok, fun v1 G1 H1 g1 p1 => ⟨G1, ok.grow g1, fun v2 G2 H2 g2 p2 =>
    k _ _ _ _ (φ.mono g2.h p1) p2 ⟨x, rfl, by
      cases x with
      | false => rw [if_neg Bool.false_ne_true]; exact ⟨_, rfl, q G2 H2 (g1.trans g2)⟩
      | true =>
        rw [if_pos rfl]
        exact ⟨G2, (ok.grow g1).grow g2, fun v3 G3 H3 g3 p3 => k' _ _ _ _ (ψ.mono g3.h p2) p3 ⟨_, rfl, q G3 H3 ((g1.trans g2).trans g3)⟩⟩⟩⟩⟩
theorem r2_int {p : Int → Int → Bool} : R2b (rI0 fun i j => .bl (p i j)) (da (.int i)) (da (.int j)) (p i j) := fun x y H Q h1 h2 q => by
  cases (show Da H x (.int i) from h1)
  cases (show Da H y (.int j) from h2)
  exact ⟨i, j, rfl, rfl, q⟩
def r2_lt : R2b (rI0 fun i j => .bl (decide (i < j))) (da (.int i)) (da (.int j)) (decide (i < j)) := r2_int
def r2_le : R2b (rI0 fun i j => .bl (decide (i ≤ j))) (da (.int i)) (da (.int j)) (decide (i ≤ j)) := r2_int
def r2_gt : R2b (rI0 fun i j => .bl (decide (j < i))) (da (.int i)) (da (.int j)) (decide (j < i)) := r2_int (p := fun i j => decide (j < i))
def r2_ge : R2b (rI0 fun i j => .bl (decide (j ≤ i))) (da (.int i)) (da (.int j)) (decide (j ≤ i)) := r2_int (p := fun i j => decide (j ≤ i))
theorem r2_eqI : R2b rEq (da (.int i)) (da (.int j)) (decide (i = j)) := fun x y H Q h1 h2 q => by
  cases (show Da H x (.int i) from h1)
  cases (show Da H y (.int j) from h2)
  refine ⟨rfl, ?_⟩
  have e : decide (V.int i = V.int j) = decide (i = j) := by rw [dec_int, Bool.beq_eq_decide_eq]
  rw [e]; exact q
theorem r2_neI : R2b rNe (da (.int i)) (da (.int j)) (!decide (i = j)) := fun x y H Q h1 h2 q => by
  cases (show Da H x (.int i) from h1)
  cases (show Da H y (.int j) from h2)
  refine ⟨rfl, ?_⟩
  have e : decide (V.int i = V.int j) = decide (i = j) := by rw [dec_int, Bool.beq_eq_decide_eq]
  rw [e]; exact q
theorem r2_eqS {s t : Str} : R2b rEq (da (.str s)) (da (.str t)) (decide (s = t)) := fun x y H Q h1 h2 q => by
  cases (show Da H x (.str s) from h1)
  cases (show Da H y (.str t) from h2)
  refine ⟨rfl, ?_⟩
  have e : decide (V.str s = V.str t) = decide (s = t) := by
    by_cases h : s = t
    · subst h; simp
    · rw [decide_eq_false h, decide_eq_false]; intro z; exact h (V.str.inj z)
  rw [e]; exact q
theorem r2_ltS {s t : Str} : R2b (fun x y H Q => ∃ i j, x = .str i ∧ y = .str j ∧ Q (.bl (decide (i.cps.toList < j.cps.toList))) H) (da (.str s)) (da (.str t)) (decide (s.cps.toList < t.cps.toList)) := fun x y H Q h1 h2 q => by
  cases (show Da H x (.str s) from h1)
  cases (show Da H y (.str t) from h2)
  exact ⟨s, t, rfl, rfl, q⟩
def isN : PyData → Bool
  | .none => true
  | _ => false
theorem Da.isN {H : Hp} {v : V} {d : PyData} (h : Da H v d) : decide (v = .non) = My.isN d := by cases h <;> rfl
theorem r2_is : R2b (fun x y H Q => y = .non ∧ Q (.bl (decide (x = .non))) H) (da d) (da .none) (isN d) := fun x y H Q h1 h2 q => by
  cases (show Da H y .none from h2)
  refine ⟨rfl, ?_⟩
  rw [Da.isN h1]; exact q
theorem r2_isnot : R2b (fun x y H Q => y = .non ∧ Q (.bl (!decide (x = .non))) H) (da d) (da .none) (!isN d) := fun x y H Q h1 h2 q => by
  cases (show Da H y .none from h2)
  refine ⟨rfl, ?_⟩
  rw [Da.isN h1]; exact q
theorem r2_eqD (n1 : nod d1 = true) (n2 : nod d2 = true) (s1 : SeqAt.shaped d1 = true) (s2 : SeqAt.shaped d2 = true) : R2b (rEqD X.K) (da d1) (da d2) (PyData.eqv d1 d2) := fun x y H Q h1 h2 q => ⟨d1, d2, Da.dp h1 n1, Da.dp h2 n2, s1, s2, q⟩
theorem r2_neD (n1 : nod d1 = true) (n2 : nod d2 = true) (s1 : SeqAt.shaped d1 = true) (s2 : SeqAt.shaped d2 = true) : R2b (rNeD X.K) (da d1) (da d2) (!PyData.eqv d1 d2) := fun x y H Q h1 h2 q => ⟨d1, d2, Da.dp h1 n1, Da.dp h2 n2, s1, s2, q⟩
theorem r2_inD {ds : List PyData} (n1 : nod d = true) (n2 : nods ds = true) (s1 : SeqAt.shaped d = true) (s2 : SeqAt.shaped (.list ds) = true) : R2b (rInD X.K) (da d) (da (.list ds)) (ds.any fun z => PyData.eqv z d) := fun x y H Q h1 h2 q => ⟨d, ds, Da.dp h1 n1, Da.dp h2 (by simpa [nod] using n2), s1, s2, q⟩
theorem r2_notInD {ds : List PyData} (n1 : nod d = true) (n2 : nods ds = true) (s1 : SeqAt.shaped d = true) (s2 : SeqAt.shaped (.list ds) = true) : R2b (rNotInD X.K) (da d) (da (.list ds)) (!ds.any fun z => PyData.eqv z d) := fun x y H Q h1 h2 q => ⟨d, ds, Da.dp h1 n1, Da.dp h2 (by simpa [nod] using n2), s1, s2, q⟩
/-! in a list or tuple of texts, of ints -/
theorem inV_strs (s : Str) : ∀ ss : List Str, inV (.str s) (ss.map V.str) = decide (s ∈ ss)
  | [] => rfl
  | t :: ss => by
    have ih := inV_strs s ss
    unfold inV at ih ⊢
    rw [List.map_cons, List.any_cons, ih]
    have e : eqV (.str t) (.str s) = decide (t = s) := by
      show (t == s) = _
      rw [Bool.beq_eq_decide_eq]
    rw [e]
    by_cases h : t = s
    · subst h; simp
    · have h2 : ¬ s = t := fun z => h z.symm
      simp [h, h2]
theorem inV_ints (s : Int) : ∀ ss : List Int, inV (.int s) (ss.map V.int) = decide (s ∈ ss)
  | [] => rfl
  | t :: ss => by
    have ih := inV_ints s ss
    unfold inV at ih ⊢
    rw [List.map_cons, List.any_cons, ih]
    have e : eqV (.int t) (.int s) = decide (t = s) := by
      show (t == s) = _
      rw [Bool.beq_eq_decide_eq]
    rw [e]
    by_cases h : t = s
    · subst h; simp
    · have h2 : ¬ s = t := fun z => h z.symm
      simp [h, h2]
theorem flat_strs : ∀ ss : List Str, (ss.map V.str).all flatV = true
  | [] => rfl
  | t :: ss => by rw [List.map_cons, List.all_cons, flat_strs ss]; rfl
theorem flat_ints : ∀ ss : List Int, (ss.map V.int).all flatV = true
  | [] => rfl
  | t :: ss => by rw [List.map_cons, List.all_cons, flat_ints ss]; rfl
theorem r2_inS_t {s : Str} {ss : List Str} : R2b (rIn X.K false) (da (.str s)) (da (.tuple (ss.map .str))) (decide (s ∈ ss)) := fun x y H Q h1 h2 q => by
  cases (show Da H x (.str s) from h1)
  obtain ⟨p, xs, rfl, e, t⟩ : ∃ p xs, y = .ref p ∧ H p = some (.tup xs) ∧ Das H xs (ss.map .str) := by
    cases (show Da H y (.tuple (ss.map .str)) from h2) with
    | tup e t => exact ⟨_, _, rfl, e, t⟩
  rw [Das.strs t] at e
  exact ⟨p, _, rfl, .inr (.of e), rfl, flat_strs ss, by rw [if_neg Bool.false_ne_true, inV_strs]; exact q⟩
theorem r2_inS_l {s : Str} {ss : List Str} : R2b (rIn X.K false) (da (.str s)) (da (.list (ss.map .str))) (decide (s ∈ ss)) := fun x y H Q h1 h2 q => by
  cases (show Da H x (.str s) from h1)
  obtain ⟨p, xs, rfl, e, t⟩ : ∃ p xs, y = .ref p ∧ H p = some (.lst xs) ∧ Das H xs (ss.map .str) := by
    cases (show Da H y (.list (ss.map .str)) from h2) with
    | lst e t => exact ⟨_, _, rfl, e, t⟩
  rw [Das.strs t] at e
  exact ⟨p, _, rfl, .inl (.of e), rfl, flat_strs ss, by rw [if_neg Bool.false_ne_true, inV_strs]; exact q⟩
theorem r2_inI_t {s : Int} {ss : List Int} : R2b (rIn X.K false) (da (.int s)) (da (.tuple (ss.map .int))) (decide (s ∈ ss)) := fun x y H Q h1 h2 q => by
  cases (show Da H x (.int s) from h1)
  obtain ⟨p, xs, rfl, e, t⟩ : ∃ p xs, y = .ref p ∧ H p = some (.tup xs) ∧ Das H xs (ss.map .int) := by
    cases (show Da H y (.tuple (ss.map .int)) from h2) with
    | tup e t => exact ⟨_, _, rfl, e, t⟩
  rw [Das.ints t] at e
  exact ⟨p, _, rfl, .inr (.of e), rfl, flat_ints ss, by rw [if_neg Bool.false_ne_true, inV_ints]; exact q⟩
/-! dicts: d[k], k in d -/
/-- d[k], whatever d is -/
theorem ep_dget {l : List (Key × PyData)} {k : Key} (hu : X.A.units + 1 < cLine) (ha : EP X B ρ ow a (da (dk l))) (hb : EV X B ρ ow b (da (kd k))) (hl : lkD l k = some d)
    (hs : PlainIx b := by intro _ _; rfl) : EP X B ρ ow (.Subscript a b pos) (da d) := L2.PE.weak (pe_dget hu ha hb hs) fun σ H Q ⟨G, ok, q⟩ => ⟨G, ok, fun v1 G1 H1 g1 p1 => ⟨G1, ok.grow g1, fun v2 G2 H2 g2 p2 => by
  obtain ⟨p, kvs, rfl, e, t⟩ := Da.dict (Da.mono g2.h (show Da H1 v1 _ from p1))
  have ek : v2 = kV k := by
    have p2' : Da G2 v2 (kd k) := p2
    cases k <;> (cases p2'; rfl)
  rcases t.val k with ⟨_, z⟩ | ⟨v, d', h1, h2, h3⟩
  · rw [z] at hl; cases hl
  · rw [h2] at hl; cases hl
    refine ⟨p, v, rfl, ?_, q v G2 H2 (g1.trans g2) h3⟩
    rw [ek, ← h1]; exact DGet.k e⟩⟩
theorem ev_dget {l : List (Key × PyData)} {k : Key} (hu : X.A.units + 1 < cLine) (ha : EV X B ρ ow a (da (dk l))) (hb : EV X B ρ ow b (da (kd k))) (hl : lkD l k = some d)
    (hs : PlainIx b := by intro _ _; rfl) : EV X B ρ ow (.Subscript a b pos) (da d) := L2.PE.weak (pe_dget hu ha hb hs) fun σ H Q ⟨G, ok, q⟩ => ⟨G, ok, fun v1 G1 H1 g1 p1 => ⟨G1, ok.grow g1, fun v2 G2 H2 g2 p2 => by
  obtain ⟨p, kvs, rfl, e, t⟩ := Da.dict (Da.mono g2.g (show Da G1 v1 _ from p1))
  have ek : v2 = kV k := by
    have p2' : Da G2 v2 (kd k) := p2
    cases k <;> (cases p2'; rfl)
  rcases t.val k with ⟨_, z⟩ | ⟨v, d', h1, h2, h3⟩
  · rw [z] at hl; cases hl
  · rw [h2] at hl; cases hl
    refine ⟨p, v, rfl, ?_, q v G2 H2 (g1.trans g2) h3⟩
    rw [ek, ← h1]; exact DGet.k (g2.s _ _ e)⟩⟩
theorem ev_din {l : List (Key × PyData)} {k : Key} (hu : X.A.units + 1 < cLine) (hb : EV X B ρ ow b (da (kd k))) (ha : EP X B ρ ow a (da (dk l))) (hm : behindInMarks .In a = false := by rfl) : EV X B ρ ow (.Compare b [.In] [a] pos) (da (.bool (lkD l k).isSome)) := L2.PE.weak (pe_cmp (pc_din hu hb ha) hm) fun σ H Q ⟨G, ok, q⟩ => ⟨G, ok, fun v2 G1 H1 g1 p2 => ⟨G1, ok.grow g1, fun v1 G2 H2 g2 p1 => by
  obtain ⟨p, kvs, rfl, e, t⟩ := Da.dict (show Da H2 v1 _ from p1)
  have ek : v2 = kV k := by
    have p2' : Da G1 v2 (kd k) := p2
    cases k <;> (cases p2'; rfl)
  have es : (valV kvs k).isSome = (lkD l k).isSome := by
    rcases t.val k with ⟨z1, z2⟩ | ⟨v, d', h1, h2, h3⟩
    · rw [z1, z2]; rfl
    · rw [h1, h2]; rfl
  refine ⟨p, _, rfl, by rw [ek]; exact DGet.k e, ?_⟩
  rw [es]; exact q _ G2 H2 (g1.trans g2) (.bl _)⟩⟩
theorem ev_dnotin {l : List (Key × PyData)} {k : Key} (hu : X.A.units + 1 < cLine) (hb : EV X B ρ ow b (da (kd k))) (ha : EP X B ρ ow a (da (dk l))) (hm : behindInMarks .NotIn a = false := by rfl) : EV X B ρ ow (.Compare b [.NotIn] [a] pos) (da (.bool (!(lkD l k).isSome))) := L2.PE.weak (pe_cmp (pc_dnotin hu hb ha) hm) fun σ H Q ⟨G, ok, q⟩ => ⟨G, ok, fun v2 G1 H1 g1 p2 => ⟨G1, ok.grow g1, fun v1 G2 H2 g2 p1 => by
  obtain ⟨p, kvs, rfl, e, t⟩ := Da.dict (show Da H2 v1 _ from p1)
  have ek : v2 = kV k := by
    have p2' : Da G1 v2 (kd k) := p2
    cases k <;> (cases p2'; rfl)
  have es : (valV kvs k).isSome = (lkD l k).isSome := by
    rcases t.val k with ⟨z1, z2⟩ | ⟨v, d', h1, h2, h3⟩
    · rw [z1, z2]; rfl
    · rw [h1, h2]; rfl
  refine ⟨p, _, rfl, by rw [ek]; exact DGet.k e, ?_⟩
  rw [es]; exact q _ G2 H2 (g1.trans g2) (.bl _)⟩⟩

/-! ### tests -/
theorem et_val (h : EP X B ρ ow e (da (.bool x))) (he : ∀ whole, isTrue e X.env whole = (do let v ← whole; standAt e.pos; holding [v] (truthy v)) := by intro _; rfl) : ET X B ρ ow e x :=
  L2.PT.weak (pt_val h he) fun σ H Q ⟨G, ok, q⟩ => ⟨G, ok, fun v1 G1 H1 g1 p1 => by
    cases (show Da H1 v1 (.bool x) from p1)
    exact ⟨x, rfl, q G1 H1 g1⟩⟩
def tru : PyData → Bool
  | .none => false
  | .bool b => b
  | .int i => i != 0
  | .str s => (s.length : Int) != 0
  | .list ds => !ds.isEmpty
  | .tuple ds => !ds.isEmpty
  | .dict es => !es.isEmpty
def okLen : PyData → Bool
  | .str s => decide (s.length ≤ sizeLine)
  | _ => true
theorem Das.emp {H : Hp} : ∀ {vs : List V} {ds : List PyData}, Das H vs ds → vs.isEmpty = ds.isEmpty
  | _, _, .nil => rfl
  | _, _, .cons _ _ => rfl
theorem Dae.emp {H : Hp} : ∀ {vs : List (Key × V)} {ds : List (Key × PyData)}, Dae H vs ds → vs.isEmpty = ds.isEmpty
  | _, _, .nil => rfl
  | _, _, .cons _ _ => rfl
theorem Da.tru {K : PySem.W.Frag} {H : Hp} {v : V} {d : PyData} (h : Da H v d) (hl : okLen d = true) : TruV K v H (My.tru d) := by
  cases h with
  | non => rfl
  | bl b => rfl
  | int i => rfl
  | str s => exact ⟨of_decide_eq_true hl, rfl⟩
  | lst e t => exact .inl ⟨_, .of e, by unfold My.tru; rw [Das.emp t]⟩
  | tup e t => exact .inr (.inl ⟨_, .of e, by unfold My.tru; rw [Das.emp t]⟩)
  | dct e t q => exact .inr (.inr ⟨_, e, by unfold My.tru; rw [Dae.emp t, q]; simp⟩)
theorem et_tru (h : EP X B ρ ow e (da d)) (hl : okLen d = true := by rfl) (he : ∀ whole, isTrue e X.env whole = (do let v ← whole; standAt e.pos; holding [v] (truthy v)) := by intro _; rfl) : ET X B ρ ow e (tru d) :=
  L2.PT.weak (pt_truth h he) fun σ H Q ⟨G, ok, q⟩ => ⟨G, ok, fun v1 G1 H1 g1 p1 => ⟨_, Da.tru (show Da H1 v1 d from p1) hl, q G1 H1 g1⟩⟩
theorem et_eq (h : ET X B ρ ow e x) (q : x = y) : ET X B ρ ow e y := q ▸ h
theorem et_not (h : ET X B ρ ow e x) : ET X B ρ ow (.UnaryOp .Not e pos) (!x) := L2.PT.weak (pt_not h) fun σ H Q ⟨G, ok, q⟩ => ⟨G, ok, fun G1 H1 g1 => q G1 H1 g1⟩
/-- and, or -/
def EW (X : Cx) (B : Hp × Hp) (ρ : List Slot) (ow : Ow) (e : Expr) (b : Bool) : Prop := PW X e (tET B ρ ow b)
theorem et_w (h : EW X B ρ ow e x) : ET X B ρ ow e x := L2.PW.pt h
theorem ew_and1 (h : ET X B ρ ow a x) : EW X B ρ ow (.BoolOp .And [a] pos) x := pw_and1 h
theorem ew_or1 (h : ET X B ρ ow a x) : EW X B ρ ow (.BoolOp .Or [a] pos) x := pw_or1 h
theorem ew_and (h : ET X B ρ ow a x) (h2 : x = true → EW X B ρ ow (.BoolOp .And (b :: rest) pos) y) : EW X B ρ ow (.BoolOp .And (a :: b :: rest) pos) (x && y) := by
  cases x with
  | true => exact L2.PW.weak (pw_and h (h2 rfl)) fun σ H Q ⟨G, ok, q⟩ => ⟨G, ok, fun G1 H1 g1 => by
      refine iteT ?_
      exact ⟨G1, ok.grow g1, fun G2 H2 g2 => q G2 H2 (g1.trans g2)⟩⟩
  | false => exact L2.PW.weak (pw_and (tB' := fun _ _ _ => False) h ⟨fun _ _ _ _ _ _ _ z => z.elim⟩) fun σ H Q ⟨G, ok, q⟩ => ⟨G, ok, fun G1 H1 g1 => by
      refine iteF ?_
      exact q G1 H1 g1⟩
theorem ew_or (h : ET X B ρ ow a x) (h2 : x = false → EW X B ρ ow (.BoolOp .Or (b :: rest) pos) y) : EW X B ρ ow (.BoolOp .Or (a :: b :: rest) pos) (x || y) := by
  cases x with
  | false => exact L2.PW.weak (pw_or h (h2 rfl)) fun σ H Q ⟨G, ok, q⟩ => ⟨G, ok, fun G1 H1 g1 => by
      refine iteF ?_
      exact ⟨G1, ok.grow g1, fun G2 H2 g2 => q G2 H2 (g1.trans g2)⟩⟩
  | true => exact L2.PW.weak (pw_or (tB' := fun _ _ _ => False) h ⟨fun _ _ _ _ _ _ _ z => z.elim⟩) fun σ H Q ⟨G, ok, q⟩ => ⟨G, ok, fun G1 H1 g1 => by
      refine iteT ?_
      exact q G1 H1 g1⟩
/-- as values -/
theorem ev_one {op : BoolOp} (h : EV X B ρ ow a φ) : EV X B ρ ow (.BoolOp op [a] pos) φ := pe_one h
theorem ev_and (h : EP X B ρ ow a (da (.bool x))) (h2 : x = true → EV X B ρ ow (.BoolOp .And (b :: rest) pos) (da (.bool y))) : EV X B ρ ow (.BoolOp .And (a :: b :: rest) pos) (da (.bool (x && y))) := by
  cases x with
  | true => exact L2.PE.weak (pe_and h (h2 rfl)) fun σ H Q ⟨G, ok, q⟩ => ⟨G, ok, fun v1 G1 H1 g1 p1 => by
      cases (show Da H1 v1 (.bool true) from p1)
      refine ⟨true, rfl, ?_⟩
      refine iteT ?_
      exact ⟨G1, ok.grow g1, fun v2 G2 H2 g2 p2 => q v2 G2 H2 (g1.trans g2) p2⟩⟩
  | false => exact L2.PE.weak (pe_and (tb := fun _ _ _ => False) h ⟨fun _ _ _ _ _ _ z => z.elim⟩) fun σ H Q ⟨G, ok, q⟩ => ⟨G, ok, fun v1 G1 H1 g1 p1 => by
      cases (show Da H1 v1 (.bool false) from p1)
      refine ⟨false, rfl, ?_⟩
      refine iteF ?_
      exact q _ G1 H1 g1 (.bl _)⟩
theorem ev_or (h : EP X B ρ ow a (da (.bool x))) (h2 : x = false → EV X B ρ ow (.BoolOp .Or (b :: rest) pos) (da (.bool y))) : EV X B ρ ow (.BoolOp .Or (a :: b :: rest) pos) (da (.bool (x || y))) := by
  cases x with
  | false => exact L2.PE.weak (pe_or h (h2 rfl)) fun σ H Q ⟨G, ok, q⟩ => ⟨G, ok, fun v1 G1 H1 g1 p1 => by
      cases (show Da H1 v1 (.bool false) from p1)
      refine ⟨false, rfl, ?_⟩
      refine iteF ?_
      exact ⟨G1, ok.grow g1, fun v2 G2 H2 g2 p2 => q v2 G2 H2 (g1.trans g2) p2⟩⟩
  | true => exact L2.PE.weak (pe_or (tb := fun _ _ _ => False) h ⟨fun _ _ _ _ _ _ z => z.elim⟩) fun σ H Q ⟨G, ok, q⟩ => ⟨G, ok, fun v1 G1 H1 g1 p1 => by
      cases (show Da H1 v1 (.bool true) from p1)
      refine ⟨true, rfl, ?_⟩
      refine iteT ?_
      exact q _ G1 H1 g1 (.bl _)⟩
theorem ev_not (h : EP X B ρ ow a (da (.bool x))) : EV X B ρ ow (.UnaryOp .Not a pos) (da (.bool (!x))) := L2.PE.weak (pe_not h) fun σ H Q ⟨G, ok, q⟩ => ⟨G, ok, fun v1 G1 H1 g1 p1 => by
  cases (show Da H1 v1 (.bool x) from p1)
  exact ⟨x, rfl, q _ G1 H1 g1 (.bl _)⟩⟩
theorem ev_if (hc : ET X B ρ ow c x) (ha : x = true → EV X B ρ ow a φ) (hb : x = false → EV X B ρ ow b φ) : EV X B ρ ow (.IfExp c a b pos) φ := by
  cases x with
  | true => exact L2.PE.weak (pe_ifExp (tb := fun _ _ _ => False) hc (ha rfl) ⟨fun _ _ _ _ _ _ z => z.elim⟩) fun σ H Q ⟨G, ok, q⟩ => ⟨G, ok, fun G1 H1 g1 => by
      refine iteT ?_
      exact ⟨G1, ok.grow g1, fun v2 G2 H2 g2 p2 => q v2 G2 H2 (g1.trans g2) p2⟩⟩
  | false => exact L2.PE.weak (pe_ifExp (ta := fun _ _ _ => False) hc ⟨fun _ _ _ _ _ _ z => z.elim⟩ (hb rfl)) fun σ H Q ⟨G, ok, q⟩ => ⟨G, ok, fun G1 H1 g1 => by
      refine iteF ?_
      exact ⟨G1, ok.grow g1, fun v2 G2 H2 g2 p2 => q v2 G2 H2 (g1.trans g2) p2⟩⟩
theorem ev_ifd (hc : ET X B ρ ow c x) (ha : x = true → EV X B ρ ow a (da d1)) (hb : x = false → EV X B ρ ow b (da d2)) : EV X B ρ ow (.IfExp c a b pos) (da (if x = true then d1 else d2)) :=
  ev_if hc (fun h => by rw [if_pos h]; exact ha h) fun h => by rw [if_neg (by rw [h]; decide)]; exact hb h

/-! ### lists of expressions, displays -/
theorem ea_nil : EA X B ρ ow [] [] := L2.PA.weak pa_nil fun σ H Q ⟨G, ok, q⟩ => q [] G H (.refl ok.gr.s) .nil
theorem ea_cons {φs : List Pr} (h : EV X B ρ ow e φ) (ht : EA X B ρ ow es φs) (hs : starEach (e :: es) X.env = (false, eval e X.env) :: starEach es X.env := by rfl) : EA X B ρ ow (e :: es) (φ :: φs) :=
  L2.PA.weak (pa_cons h ht hs) fun σ H Q ⟨G, ok, q⟩ => ⟨G, ok, fun v1 G1 H1 g1 p1 => ⟨G1, ok.grow g1, fun vs G2 H2 g2 p2 => q _ G2 H2 (g1.trans g2) (.cons (φ.mono g2.g p1) p2)⟩⟩
def tED (B : Hp × Hp) (ρ : List Slot) (ow : Ow) (ds : List PyData) : TA := fun σ H Q => ∃ G, Ok B ρ ow G σ H ∧ ∀ vs G' H', Gr (G, H) G' H' → Das G' vs ds → Q vs H'
/-- expressions whose values are these data -/
def ED (X : Cx) (B : Hp × Hp) (ρ : List Slot) (ow : Ow) (es : List Expr) (ds : List PyData) : Prop := PA X es (tED B ρ ow ds)
theorem ed_nil : ED X B ρ ow [] [] := L2.PA.weak pa_nil fun σ H Q ⟨G, ok, q⟩ => q [] G H (.refl ok.gr.s) .nil
theorem ed_cons {ds : List PyData} (h : EV X B ρ ow e (da d)) (ht : ED X B ρ ow es ds) (hs : starEach (e :: es) X.env = (false, eval e X.env) :: starEach es X.env := by rfl) : ED X B ρ ow (e :: es) (d :: ds) :=
  L2.PA.weak (pa_cons h ht hs) fun σ H Q ⟨G, ok, q⟩ => ⟨G, ok, fun v1 G1 H1 g1 p1 => ⟨G1, ok.grow g1, fun vs G2 H2 g2 p2 => q _ G2 H2 (g1.trans g2) (.cons (Da.mono g2.g p1) p2)⟩⟩
theorem ed_star {ds ds' : List PyData} {p : Pos} (h : EV X B ρ ow e (da (.tuple ds))) (ht : ED X B ρ ow es ds') (hs : starEach (.Starred e p :: es) X.env = (true, eval e X.env) :: starEach es X.env := by rfl) : ED X B ρ ow (.Starred e p :: es) (ds ++ ds') :=
  L2.PA.weak (StX.pa_star h ht hs) fun σ H Q ⟨G, ok, q⟩ => ⟨G, ok, fun v1 G1 H1 g1 p1 => by
    obtain ⟨p, xs, rfl, e, t⟩ : ∃ p xs, v1 = .ref p ∧ G1 p = some (.tup xs) ∧ Das G1 xs ds := by
      cases (show Da G1 v1 (.tuple ds) from p1) with
      | tup e t => exact ⟨_, _, rfl, e, t⟩
    exact ⟨p, xs, rfl, .inl (.of (g1.s _ _ e)), G1, ok.grow g1, fun vs G2 H2 g2 p2 => q _ G2 H2 (g1.trans g2) ((t.mono g2.g).append p2)⟩⟩
theorem ev_tup {ds : List PyData} {k : Nat} (h : ED X B ρ ow es ds) (hl : ds.length ≤ sizeLine) : EV X B ρ ow (.Tuple es k pos) (da (.tuple ds)) := L2.PE.weak (pe_tup h) fun σ H Q ⟨G, ok, q⟩ => ⟨G, ok, fun vs G1 H1 g1 t => ⟨by rw [t.length]; exact hl, fun p hp =>
  q _ _ _ (g1.trans (.alloc g1.s hp)) (.tup upd_same (t.mono (Gr.alloc g1.s hp).g))⟩⟩
theorem ev_lst {ds : List PyData} (h : ED X B ρ ow es ds) (hl : ds.length ≤ sizeLine) : EV X B ρ ow (.List es pos) (da (.list ds)) := L2.PE.weak (pe_lst h) fun σ H Q ⟨G, ok, q⟩ => ⟨G, ok, fun vs G1 H1 g1 t => ⟨by rw [t.length]; exact hl, fun p hp =>
  q _ _ _ (g1.trans (.alloc g1.s hp)) (.lst upd_same (t.mono (Gr.alloc g1.s hp).g))⟩⟩

/-! ### subscripts -/
theorem atI_of {H : Hp} {vs : List V} {ds : List PyData} (t : Das H vs ds) {i : Int} (h : atI ds i = some d) : ∃ v, atI vs i = some v ∧ Da H v d := by
  unfold atI at h ⊢
  rw [t.length]
  cases e : ixN ds.length i with
  | none => rw [e] at h; cases h
  | some j =>
    rw [e] at h
    obtain ⟨v, h1, h2⟩ := t.get (show ds[j]? = some d from h)
    exact ⟨v, h1, h2⟩
theorem ep_ixL {ds : List PyData} (ha : EP X B ρ ow a (da (.list ds))) (hb : EV X B ρ ow b (da (.int i))) (h : atI ds i = some d) (hs : PlainIx b := by intro _ _; rfl) : EP X B ρ ow (.Subscript a b pos) (da d) :=
  L2.PE.weak (pe_ix ix_list ha hb hs) fun σ H Q ⟨G, ok, q⟩ => ⟨G, ok, fun v1 G1 H1 g1 p1 => ⟨G1, ok.grow g1, fun v2 G2 H2 g2 p2 => by
    cases (show Da G2 v2 (.int i) from p2)
    obtain ⟨p, xs, rfl, e, t⟩ : ∃ p xs, v1 = .ref p ∧ H2 p = some (.lst xs) ∧ Das H2 xs ds := by
      cases Da.mono g2.h (show Da H1 v1 (.list ds) from p1) with
      | lst e t => exact ⟨_, _, rfl, e, t⟩
    obtain ⟨v, h1, h2⟩ := atI_of t h
    exact ⟨p, xs, i, v, rfl, rfl, .of e, h1, q v G2 H2 (g1.trans g2) h2⟩⟩⟩
theorem ev_ixL {ds : List PyData} (ha : EV X B ρ ow a (da (.list ds))) (hb : EV X B ρ ow b (da (.int i))) (h : atI ds i = some d) (hs : PlainIx b := by intro _ _; rfl) : EV X B ρ ow (.Subscript a b pos) (da d) :=
  L2.PE.weak (pe_ix ix_list ha hb hs) fun σ H Q ⟨G, ok, q⟩ => ⟨G, ok, fun v1 G1 H1 g1 p1 => ⟨G1, ok.grow g1, fun v2 G2 H2 g2 p2 => by
    cases (show Da G2 v2 (.int i) from p2)
    obtain ⟨p, xs, rfl, e, t⟩ : ∃ p xs, v1 = .ref p ∧ G2 p = some (.lst xs) ∧ Das G2 xs ds := by
      cases Da.mono g2.g (show Da G1 v1 (.list ds) from p1) with
      | lst e t => exact ⟨_, _, rfl, e, t⟩
    obtain ⟨v, h1, h2⟩ := atI_of t h
    exact ⟨p, xs, i, v, rfl, rfl, .of (g2.s _ _ e), h1, q v G2 H2 (g1.trans g2) h2⟩⟩⟩
theorem ev_ixT {ds : List PyData} (ha : EV X B ρ ow a (da (.tuple ds))) (hb : EV X B ρ ow b (da (.int i))) (h : atI ds i = some d) (hs : PlainIx b := by intro _ _; rfl) : EV X B ρ ow (.Subscript a b pos) (da d) :=
  L2.PE.weak (pe_ix ix_tup ha hb hs) fun σ H Q ⟨G, ok, q⟩ => ⟨G, ok, fun v1 G1 H1 g1 p1 => ⟨G1, ok.grow g1, fun v2 G2 H2 g2 p2 => by
    cases (show Da G2 v2 (.int i) from p2)
    obtain ⟨p, xs, rfl, e, t⟩ : ∃ p xs, v1 = .ref p ∧ G2 p = some (.tup xs) ∧ Das G2 xs ds := by
      cases Da.mono g2.g (show Da G1 v1 (.tuple ds) from p1) with
      | tup e t => exact ⟨_, _, rfl, e, t⟩
    obtain ⟨v, h1, h2⟩ := atI_of t h
    exact ⟨p, xs, i, v, rfl, rfl, .of (g2.s _ _ e), h1, q v G2 H2 (g1.trans g2) h2⟩⟩⟩

/-! ### built-ins by their names -/
/-- what a built-in's rule gives on arguments of these kinds (the answer new or flat) -/
def CallB (r : List V → Hp → VK → Prop) (φs : List Pr) (ψ : Pr) : Prop := ∀ (vs : List V) (G H : Hp) (Q : VK), Same G H → PrAll G φs vs → (∀ v G' H', Gr (G, H) G' H' → ψ.p G' v → Q v H') → r vs H Q
theorem ev_callB {nm : Str} {id : String} {r : List V → Hp → VK → Prop} {p : Pos} {φs : List Pr} (hc : CallR X (.builtin id) r) (hm : X.mg nm = none) (ha : EA X B ρ ow (e :: es) φs) (k : CallB r φs ψ) (hg : Gl X nm := by rfl)
    (hv : bootBuiltins nm = some (.builtin id) := by decide +kernel) (hn : nm ≠ "__name__" := by decide) (hdb : (nm == ("__debug__" : Str)) = false := by decide)
    (he : starEach (e :: es) X.env = (false, eval e X.env) :: starEach es X.env := by rfl) (hpl : (backTo pos (starEach es X.env)).any (·.1) = false := by rfl) : EV X B ρ ow (.Call (.Name nm p) (e :: es) [] pos) ψ :=
  L2.PE.weak (pe_callB hc hg hm hv ha hn hdb he hpl) fun σ H Q ⟨G, ok, q⟩ => ⟨G, ok, fun vs G1 H1 g1 t => k vs G1 H1 _ g1.s t fun v G2 H2 g2 p2 => q v G2 H2 (g1.trans g2) p2⟩
theorem ev_callT {nm : Str} {id : String} {r : List V → Hp → VK → Prop} {p : Pos} {φs : List Pr} (hc : CallR X (.type id) r) (hm : X.mg nm = none) (ha : EA X B ρ ow (e :: es) φs) (k : CallB r φs ψ) (hg : Gl X nm := by rfl)
    (hv : bootBuiltins nm = some (.type id) := by decide +kernel) (hn : nm ≠ "__name__" := by decide) (hdb : (nm == ("__debug__" : Str)) = false := by decide)
    (he : starEach (e :: es) X.env = (false, eval e X.env) :: starEach es X.env := by rfl) (hpl : (backTo pos (starEach es X.env)).any (·.1) = false := by rfl) : EV X B ρ ow (.Call (.Name nm p) (e :: es) [] pos) ψ :=
  L2.PE.weak (pe_callTy hc hg hm hv ha hn hdb he hpl) fun σ H Q ⟨G, ok, q⟩ => ⟨G, ok, fun vs G1 H1 g1 t => k vs G1 H1 _ g1.s t fun v G2 H2 g2 p2 => q v G2 H2 (g1.trans g2) p2⟩
/-- the same over the whole heap (one argument, a flat answer) -/
theorem ea1p (h : EP X B ρ ow e φ) (hs : starEach [e] X.env = (false, eval e X.env) :: starEach [] X.env := by rfl) : PA X [e] (fun σ H Q => ∃ G, Ok B ρ ow G σ H ∧ ∀ v G' H', Gr (G, H) G' H' → φ.p H' v → Q [v] H') :=
  L2.PA.weak (pa_cons h pa_nil hs) fun σ H Q ⟨G, ok, q⟩ => ⟨G, ok, fun v1 G1 H1 g1 p1 => q v1 G1 H1 g1 p1⟩
def CallF (r : List V → Hp → VK → Prop) (φ : Pr) (d : PyData) : Prop := ∀ (v : V) (H : Hp) (Q : VK), φ.p H v → (∀ u, (∀ H', Da H' u d) → Q u H) → r [v] H Q
theorem ev_callBF {nm : Str} {id : String} {r : List V → Hp → VK → Prop} {p : Pos} (hc : CallR X (.builtin id) r) (hm : X.mg nm = none) (ha : EP X B ρ ow e φ) (k : CallF r φ d) (hg : Gl X nm := by rfl)
    (hv : bootBuiltins nm = some (.builtin id) := by decide +kernel) (hn : nm ≠ "__name__" := by decide) (hdb : (nm == ("__debug__" : Str)) = false := by decide) (hs : starEach [e] X.env = (false, eval e X.env) :: starEach [] X.env := by rfl) : EV X B ρ ow (.Call (.Name nm p) [e] [] pos) (da d) :=
  L2.PE.weak (pe_callB hc hg hm hv (ea1p ha hs) hn hdb hs (by rfl)) fun σ H Q ⟨G, ok, q⟩ => ⟨G, ok, fun v G1 H1 g1 p1 => k v H1 _ p1 fun u hu => q u G1 H1 g1 (hu _)⟩
theorem ev_len {ds : List PyData} {p : Pos} (hm : X.mg "len" = none) (ha : EP X B ρ ow e (da (.list ds))) (hg : Gl X "len" := by rfl) (hs : starEach [e] X.env = (false, eval e X.env) :: starEach [] X.env := by rfl) : EV X B ρ ow (.Call (.Name "len" p) [e] [] pos) (da (.int ds.length)) :=
  ev_callBF call_len_seq hm ha (fun v H Q h k => by
    cases (show Da H v (.list ds) from h) with
    | lst e t => exact ⟨_, _, rfl, .inl (.of e), k _ fun _ => by rw [t.length]; exact .int _⟩) hg boot_len (by decide) (by decide) hs
theorem ev_lenT {ds : List PyData} {p : Pos} (hm : X.mg "len" = none) (ha : EP X B ρ ow e (da (.tuple ds))) (hg : Gl X "len" := by rfl) (hs : starEach [e] X.env = (false, eval e X.env) :: starEach [] X.env := by rfl) : EV X B ρ ow (.Call (.Name "len" p) [e] [] pos) (da (.int ds.length)) :=
  ev_callBF call_len_seq hm ha (fun v H Q h k => by
    cases (show Da H v (.tuple ds) from h) with
    | tup e t => exact ⟨_, _, rfl, .inr (.of e), k _ fun _ => by rw [t.length]; exact .int _⟩) hg boot_len (by decide) (by decide) hs
theorem ev_lenS {s : Str} {p : Pos} (hm : X.mg "len" = none) (ha : EP X B ρ ow e (da (.str s))) (hl : s.length ≤ sizeLine) (hg : Gl X "len" := by rfl) (hs : starEach [e] X.env = (false, eval e X.env) :: starEach [] X.env := by rfl) : EV X B ρ ow (.Call (.Name "len" p) [e] [] pos) (da (.int s.length)) :=
  ev_callBF call_len_str hm ha (fun v H Q h k => by
    cases (show Da H v (.str s) from h)
    exact ⟨_, rfl, hl, k _ fun _ => .int _⟩) hg boot_len (by decide) (by decide) hs
theorem ev_all {bs : List Bool} {p : Pos} (hc : X.calm = true) (hm : X.mg "all" = none) (ha : EP X B ρ ow e (da (.list (bs.map .bool)))) (hg : Gl X "all" := by rfl) (hs : starEach [e] X.env = (false, eval e X.env) :: starEach [] X.env := by rfl) : EV X B ρ ow (.Call (.Name "all" p) [e] [] pos) (da (.bool (bs.all id))) :=
  ev_callBF (cr_all hc) hm ha (fun v H Q h k => by
    cases (show Da H v (.list (bs.map .bool)) from h) with
    | lst e t =>
      rw [Das.bls t] at e
      exact ⟨_, bs, rfl, .of e, k _ fun _ => .bl _⟩) hg (by decide +kernel) (by decide) (by decide) hs
theorem ev_any {bs : List Bool} {p : Pos} (hc : X.calm = true) (hm : X.mg "any" = none) (ha : EP X B ρ ow e (da (.list (bs.map .bool)))) (hg : Gl X "any" := by rfl) (hs : starEach [e] X.env = (false, eval e X.env) :: starEach [] X.env := by rfl) : EV X B ρ ow (.Call (.Name "any" p) [e] [] pos) (da (.bool (bs.any id))) :=
  ev_callBF (cr_any hc) hm ha (fun v H Q h k => by
    cases (show Da H v (.list (bs.map .bool)) from h) with
    | lst e t =>
      rw [Das.bls t] at e
      exact ⟨_, bs, rfl, .of e, k _ fun _ => .bl _⟩) hg (by decide +kernel) (by decide) (by decide) hs
theorem ev_sum {ns : List Int} {p : Pos} (hc : X.calm = true) (hm : X.mg "sum" = none) (ha : EP X B ρ ow e (da (.list (ns.map .int)))) (hg : Gl X "sum" := by rfl) (hs : starEach [e] X.env = (false, eval e X.env) :: starEach [] X.env := by rfl) : EV X B ρ ow (.Call (.Name "sum" p) [e] [] pos) (da (.int ns.sum)) :=
  ev_callBF (cr_sum hc) hm ha (fun v H Q h k => by
    cases (show Da H v (.list (ns.map .int)) from h) with
    | lst e t =>
      rw [Das.ints t] at e
      exact ⟨_, ns, rfl, .of e, k _ fun _ => .int _⟩) hg (by decide +kernel) (by decide) (by decide) hs
/-- the greatest of a list -/
def IsMax (m : Int) (ns : List Int) : Prop := m ∈ ns ∧ ∀ y ∈ ns, y ≤ m
theorem IsMax.uniq {m m' : Int} {ns : List Int} (h : IsMax m ns) (h' : IsMax m' ns) : m = m' := Int.le_antisymm (h'.2 m h.1) (h.2 m' h'.1)
theorem ev_max {ns : List Int} {m : Int} {p : Pos} (hc : X.calm = true) (hm : X.mg "max" = none) (ha : EP X B ρ ow e (da (.list (ns.map .int)))) (hx : IsMax m ns) (hg : Gl X "max" := by rfl) (hs : starEach [e] X.env = (false, eval e X.env) :: starEach [] X.env := by rfl) : EV X B ρ ow (.Call (.Name "max" p) [e] [] pos) (da (.int m)) :=
  ev_callBF (cr_max hc) hm ha (fun v H Q h k => by
    cases (show Da H v (.list (ns.map .int)) from h) with
    | lst e t =>
      rw [Das.ints t] at e
      exact ⟨_, ns, rfl, .of e, List.length_pos_of_mem hx.1, fun m' h1 h2 => by
        rw [IsMax.uniq (m := m') ⟨h1, h2⟩ hx]
        exact k _ fun _ => .int _⟩) hg (by decide +kernel) (by decide) (by decide) hs
theorem ev_int1 {p : Pos} (hm : X.mg "int" = none) (ha : EV X B ρ ow e (da (.int i))) (hg : Gl X "int" := by rfl) (hs : starEach [e] X.env = (false, eval e X.env) :: starEach [] X.env := by rfl) : EV X B ρ ow (.Call (.Name "int" p) [e] [] pos) (da (.int i)) :=
  ev_callT call_int1 hm (ea_cons ha ea_nil hs) (fun vs G H Q s t k => by
    cases t with
    | cons p t =>
      cases t
      cases (show Da G _ (.int i) from p)
      exact .inl ⟨i, rfl, k _ G H (.refl s) (.int i)⟩) hg (by decide +kernel) (by decide) (by decide) hs (by rfl)
theorem ev_intB {p : Pos} (hm : X.mg "int" = none) (ha : EV X B ρ ow e (da (.bool x))) (hg : Gl X "int" := by rfl) (hs : starEach [e] X.env = (false, eval e X.env) :: starEach [] X.env := by rfl) : EV X B ρ ow (.Call (.Name "int" p) [e] [] pos) (da (.int (if x then 1 else 0))) :=
  ev_callT call_int1 hm (ea_cons ha ea_nil hs) (fun vs G H Q s t k => by
    cases t with
    | cons p t =>
      cases t
      cases (show Da G _ (.bool x) from p)
      exact .inr ⟨x, rfl, k _ G H (.refl s) (.int _)⟩) hg (by decide +kernel) (by decide) (by decide) hs (by rfl)
theorem ev_min2 {p : Pos} (hc : X.calm = true) (hm : X.mg "min" = none) (ha : EV X B ρ ow a (da (.int i))) (hb : EV X B ρ ow b (da (.int j))) (hg : Gl X "min" := by rfl)
    (hs : starEach [a, b] X.env = (false, eval a X.env) :: starEach [b] X.env := by rfl) (hs2 : starEach [b] X.env = (false, eval b X.env) :: starEach [] X.env := by rfl) : EV X B ρ ow (.Call (.Name "min" p) [a, b] [] pos) (da (.int (min i j))) :=
  ev_callB (call_min2 hc) hm (ea_cons ha (ea_cons hb ea_nil hs2) hs) (fun vs G H Q s t k => by
    cases t with
    | cons p t =>
      cases t with
      | cons p2 t =>
        cases t
        cases (show Da G _ (.int i) from p)
        cases (show Da G _ (.int j) from p2)
        refine ⟨i, j, rfl, ?_⟩
        have e : (if j < i then j else i) = min i j := by omega
        rw [e]
        exact k _ G H (.refl s) (.int _)) hg (by decide +kernel) (by decide) (by decide) hs (by rw [hs2]; rfl)
theorem ev_max2 {p : Pos} (hc : X.calm = true) (hm : X.mg "max" = none) (ha : EV X B ρ ow a (da (.int i))) (hb : EV X B ρ ow b (da (.int j))) (hg : Gl X "max" := by rfl)
    (hs : starEach [a, b] X.env = (false, eval a X.env) :: starEach [b] X.env := by rfl) (hs2 : starEach [b] X.env = (false, eval b X.env) :: starEach [] X.env := by rfl) : EV X B ρ ow (.Call (.Name "max" p) [a, b] [] pos) (da (.int (max i j))) :=
  ev_callB (call_max2 hc) hm (ea_cons ha (ea_cons hb ea_nil hs2) hs) (fun vs G H Q s t k => by
    cases t with
    | cons p t =>
      cases t with
      | cons p2 t =>
        cases t
        cases (show Da G _ (.int i) from p)
        cases (show Da G _ (.int j) from p2)
        refine ⟨i, j, rfl, ?_⟩
        have e : (if j > i then j else i) = max i j := by omega
        rw [e]
        exact k _ G H (.refl s) (.int _)) hg (by decide +kernel) (by decide) (by decide) hs (by rw [hs2]; rfl)
theorem ev_tupleL {ds : List PyData} {p : Pos} (hm : X.mg "tuple" = none) (ha : EV X B ρ ow e (da (.list ds))) (hg : Gl X "tuple" := by rfl) (hs : starEach [e] X.env = (false, eval e X.env) :: starEach [] X.env := by rfl) : EV X B ρ ow (.Call (.Name "tuple" p) [e] [] pos) (da (.tuple ds)) :=
  ev_callT call_tuple_of hm (ea_cons ha ea_nil hs) (fun vs G H Q s t k => by
    cases t with
    | cons p t =>
      cases t
      cases (show Da G _ (.list ds) from p) with
      | lst e t =>
        exact ⟨_, _, rfl, .inl ⟨.of (s _ _ e), fun l hl => k _ _ _ (.alloc s hl) (.tup upd_same (t.mono (Gr.alloc s hl).g))⟩⟩) hg (by decide +kernel) (by decide) (by decide) hs (by rfl)
theorem ev_tupleT {ds : List PyData} {p : Pos} (hm : X.mg "tuple" = none) (ha : EV X B ρ ow e (da (.tuple ds))) (hg : Gl X "tuple" := by rfl) (hs : starEach [e] X.env = (false, eval e X.env) :: starEach [] X.env := by rfl) : EV X B ρ ow (.Call (.Name "tuple" p) [e] [] pos) (da (.tuple ds)) :=
  ev_callT call_tuple_of hm (ea_cons ha ea_nil hs) (fun vs G H Q s t k => by
    cases t with
    | cons p t =>
      cases t
      cases (show Da G _ (.tuple ds) from p) with
      | tup e t =>
        exact ⟨_, _, rfl, .inr ⟨.of (s _ _ e), k _ G H (.refl s) (.tup e t)⟩⟩) hg (by decide +kernel) (by decide) (by decide) hs (by rfl)
theorem ev_listL {ds : List PyData} {p : Pos} (hm : X.mg "list" = none) (ha : EV X B ρ ow e (da (.list ds))) (hg : Gl X "list" := by rfl) (hs : starEach [e] X.env = (false, eval e X.env) :: starEach [] X.env := by rfl) : EV X B ρ ow (.Call (.Name "list" p) [e] [] pos) (da (.list ds)) :=
  ev_callT call_list_of hm (ea_cons ha ea_nil hs) (fun vs G H Q s t k => by
    cases t with
    | cons p t =>
      cases t
      cases (show Da G _ (.list ds) from p) with
      | lst e t =>
        exact ⟨_, _, rfl, .inl (.of (s _ _ e)), fun l hl => k _ _ _ (.alloc s hl) (.lst upd_same (t.mono (Gr.alloc s hl).g))⟩) hg (by decide +kernel) (by decide) (by decide) hs (by rfl)
end
end L2.My
end
section
set_option Elab.async false
set_option linter.all false
set_option maxRecDepth 100000
set_option autoImplicit false
/-! Lay3: what is walked (enumerate of a tuple, zip of a tuple and a list too), comprehensions. -/
namespace PySem
open Sem (wp)
open AutoSeq1 (wpAny_loadPart')
theorem my_meets_enumerate (t : Addr) (items : Array Value) :
    Meets (Builtin.«enumerate.__new__» ⟨[.type "enumerate", .ref t], []⟩) (fun _ R s => s.heap.IsTuple t items ∧
      R (.ok (.ret (.ref (s.heap.push { cls := .type "tuple_iterator", data := .fields #[.ref t, .int 0 0] }).objs.size)))
        { s with heap := (s.heap.push { cls := .type "tuple_iterator", data := .fields #[.ref t, .int 0 0] }).push { cls := .type "enumerate", data := .fields #[.none, .bool false, .ref s.heap.objs.size, rawInt 0, .none, .none] } }) :=
  .of_wp fun prog w A R s h => by
    obtain ⟨hp, g, d, tk, os⟩ := s; obtain ⟨hl, h⟩ := h
    have hsub := sub_enumerate
    have hL : Heap.IsTuple (Shared.heap ⟨hp, g, d, tk, os⟩) t items := hl
    wp_walk using wpAny_pyIter_tuple hL
    refine wpAny_stack_any fun st => wpAny_pure ?_
    split
    · rename_i c _ _ _ _ _
      cases (c == Value.type "enumerate")
      · wp_walk using wpAny_pyIter_tuple hL
        exact ⟨_, rfl, h⟩
      · wp_walk using wpAny_pyIter_tuple hL
        exact ⟨_, rfl, h⟩
    · wp_walk using wpAny_pyIter_tuple hL
      exact ⟨_, rfl, h⟩
theorem my_call_enumerate {prog : Program} {w : World} {A : Around} {E : Value → Shared → Prop} {s : Shared} {t : Addr} {items : Array Value} {Q : Value → Shared → Prop} (hL : s.heap.IsTuple t items)
    (h : ∀ h', IsEnum h' (s.heap.objs.size + 1) s.heap.objs.size 0 .none → h'.IsTupleIter s.heap.objs.size t 0 → h'.objs.size = s.heap.objs.size + 2 →
      (∀ b o, s.heap.get? b = some o → h'.get? b = some o) → Q (.ref (s.heap.objs.size + 1)) { s with heap := h' }) :
    wpAny (model prog w) A (call (.type "enumerate") [.ref t]) Q E s := by
  refine callType_new F.called_enumerate (by decide) (F.typeCall_enumerate_1 _) (F.newCall_enumerate_1 _) (fun obj => F.args_object_init_2 obj _) F.entry_enumerate_new
    (my_meets_enumerate t items) ⟨hL, ?_⟩
  have hz : (s.heap.push { cls := .type "tuple_iterator", data := .fields #[.ref t, .int 0 0] }).objs.size = s.heap.objs.size + 1 := Heap.size_push ..
  show _ ∧ _
  rw [hz]
  have he : IsEnum ((s.heap.push { cls := .type "tuple_iterator", data := .fields #[.ref t, .int 0 0] }).push
      { cls := .type "enumerate", data := .fields #[.none, .bool false, .ref s.heap.objs.size, rawInt 0, .none, .none] }) (s.heap.objs.size + 1) s.heap.objs.size 0 .none := by
    have := Heap.get?_push_size (s.heap.push { cls := .type "tuple_iterator", data := .fields #[.ref t, .int 0 0] })
      (o := { cls := .type "enumerate", data := .fields #[.none, .bool false, .ref s.heap.objs.size, rawInt 0, .none, .none] }) rfl
    rw [hz] at this; exact this
  refine ⟨⟨_, he, rfl⟩, h _ he ⟨_, Heap.get?_push_of_some _ (Heap.get?_push_size _ rfl), rfl, rfl⟩ (by rw [Heap.size_push, hz]) fun b o x => Heap.get?_push_of_some _ (Heap.get?_push_of_some _ x)⟩
end PySem

namespace L2.My
open PySem PySem.Spec PyProof.Rows

/-! ### enumerate(tuple) -/
def ItU (K : PySem.W.Frag) (a : Addr) : It :=
  ⟨fun i H => ∃ (xs : List V) (x : V), SqT K H a xs ∧ xs[i]? = some x, fun i H v H' => ∃ T x, v = .ref T ∧ H T = none ∧ H' = upd H T (.tup [.int (i : Nat), x]) ∧ ∀ xs, SqT K H a xs → xs[i]? = some x, fun i H => ∃ xs : List V, SqT K H a xs ∧ xs.length = i⟩
theorem turn_enumT {P : Program} {w : World} {K : PySem.W.Frag} {elts : List Expr} {kk : Nat} {tpos : Pos} (a e it : Addr) :
    Turn P w K (.Tuple elts kk tpos) (ItU K a) [e, it] e (fun i h => (∃ old, IsEnum h e it ((0 : Int) + (i : Int)) old) ∧ h.IsTupleIter it a i ∧ e ≠ it ∧ a ≠ e ∧ a ≠ it) where
  mem := by simp
  obj := fun i h st b hb => by
    obtain ⟨⟨old, he⟩, ⟨o, ho, hc, hd⟩, _⟩ := st
    have e' : b = e ∨ b = it := by simpa using hb
    rcases e' with z | z
    · rw [z]; exact ⟨_, he, fun v q => nomatch q⟩
    · rw [z]; exact ⟨o, ho, fun v q => by rw [hd] at q; cases q⟩
  keep := fun i h h' st k => let ⟨⟨old, he⟩, hi, hne⟩ := st; ⟨⟨old, k e (by simp) _ he⟩, hi.at fun o q => k it (by simp) o q, hne⟩
  item := by
    intro X hP hw hK hc i pins s σ H E I hf st hg
    subst hP hw hK
    obtain ⟨hen, hit, hne, ha1, ha2⟩ := st
    obtain ⟨xs, x, hq, hx⟩ := hg
    obtain ⟨its, rv, p, hz⟩ := I.tuple hq
    obtain ⟨u, hu, ru⟩ := rv.get hx
    have hil : i < its.toArray.size := by
      have := (List.getElem?_eq_some_iff.mp hu).1
      simpa using this
    have D := Draws.tuple (prog := X.prog) (w := X.w) (A := X.A.in1) (I.ok.hd hc) it a ha2 its.toArray
    have G := GoesN.enumFrom (prog := X.prog) (w := X.w) (A := X.A) (elts := elts) (x1 := kk) (pos := tpos) 0 D e hne (by simp; exact ⟨hne, ha1.symm⟩) (by simp)
    refine wpAny_mono (G.goes i s (fun u s2 => ∃ x H', Inv X pins σ H' s2 ∧ RelV x u ∧ (ItU X.K a).yld i H x H' ∧ ((∃ old, IsEnum s2.heap e it ((0 : Int) + ((i + 1 : Nat) : Int)) old) ∧ s2.heap.IsTupleIter it a (i + 1) ∧ e ≠ it ∧ a ≠ e ∧ a ≠ it) ∧ ∀ b ∈ [e, it], H' b = none) E hil ⟨hen, hit, p⟩
      fun v h' tk hY hS hk _ => ?_) (fun r s1 h1 => h1) fun _ _ z => z
    obtain ⟨T, t, y, rfl, hT, hy, hTt⟩ := hY
    have ey : y = u := by
      have e1 : its.toArray[i]? = some u := by simpa using hu
      rw [e1] at hy; exact (Option.some.inj hy).symm
    subst ey
    obtain ⟨oT, hoT, hcT, nT, hdT⟩ := hTt
    have new : ObjOk X.prog X.w (upd H T (.tup [.int (i : Nat), x])) h' T (.tup [.int (i : Nat), x]) :=
      ⟨by show 2 ≤ sizeLine; decide, [.int ((0 : Int) + (i : Int)) t, y], .cons ⟨t, by rw [Int.zero_add]⟩ (.cons ru .nil), ⟨oT, hoT, hcT, nT, hdT⟩⟩
    have I1 : Inv X pins σ (upd H T (.tup [.int (i : Nat), x])) { s with heap := h', toks := tk } := I.turnedNew (ch := [e, it]) (fun b ob hb q => hk b ob hb q) hf hT new
    refine ⟨.ref T, _, I1, rfl, ⟨T, x, rfl, I.hok.fresh hT, rfl, fun ys hy' => by rw [I.tuple_inj hy' hq]; exact hx⟩, ⟨hS.1, hS.2.1, hne, ha1, ha2⟩, fun b hb => ?_⟩
    have hb' : b < s.heap.objs.size := by
      have e' : b = e ∨ b = it := by simpa using hb
      obtain ⟨old, he⟩ := hen
      obtain ⟨o2, ho2, _⟩ := hit
      rcases e' with z | z
      · rw [z]; exact Heap.lt_size he
      · rw [z]; exact Heap.lt_size ho2
    rw [upd_ne (Nat.ne_of_lt (Nat.lt_of_lt_of_le hb' hT))]
    exact (hf b hb).1
  done := by
    intro X hP hw hK hc i pins s σ H E I hf st hg
    subst hP hw hK
    obtain ⟨hen, hit, hne, ha1, ha2⟩ := st
    obtain ⟨xs, hq, hx⟩ := hg
    obtain ⟨its, rv, p, hz⟩ := I.tuple hq
    have D := Draws.tuple (prog := X.prog) (w := X.w) (A := X.A.in1) (I.ok.hd hc) it a ha2 its.toArray
    have G := GoesN.enumFrom (prog := X.prog) (w := X.w) (A := X.A) (elts := elts) (x1 := kk) (pos := tpos) 0 D e hne (by simp; exact ⟨hne, ha1.symm⟩) (by simp)
    have hn : i = its.toArray.size := by
      have := rv.length
      simp; omega
    subst hn
    exact G.stops s (fun s1 => Inv X pins σ H s1) E ⟨hen, hit, p⟩ fun h' tk hk _ => I.turnedL (ch := [e, it]) (fun b o hb q => hk b o hb q) hf
  self := fun A i s Q E st h => let ⟨⟨_, he⟩, _⟩ := st; wpAny_pyIter_enum he h
def iEnumT (K : PySem.W.Frag) (ta : TA) : TI := fun σ H R => ta σ H fun vs H1 => ∃ a xs, vs = [.ref a] ∧ SqT K H1 a xs ∧ R (ItU K a) H1
theorem pi_enumT {X : Cx} {e : Expr} {ta : TA} {p pos tpos : Pos} {elts : List Expr} {kk : Nat} (hg : Gl X "enumerate") (hm : X.mg "enumerate" = none) (ha : PA X [e] ta) (hs : starEach [e] X.env = [(false, eval e X.env)] := by rfl) :
    PI X (.Tuple elts kk tpos) (.Call (.Name "enumerate" p) [e] [] pos) (iEnumT X.K ta) := by
  refine ⟨fun pins s σ H R I h => ?_⟩
  refine Call_ (ld_blt I hg hm boot_enumerate (PyProof.Rows.callWith_type1 (thn (ha.run pos pins s σ H _ I h) fun us s1 ⟨vs, H1, I1, r1, q1⟩ => ?_) hs rfl))
  obtain ⟨a, xs, ex, hq, q⟩ := q1
  subst ex
  cases r1 with
  | cons r rr =>
    cases rr
    cases r
    obtain ⟨its, rv, p', hz⟩ := I1.tuple hq
    have hal : a < s1.heap.objs.size := p'.lt
    refine my_call_enumerate (show s1.heap.IsTuple a its.toArray from p') fun h' he hit hsz hk => wpAny_pyIter_enum he ?_
    have I2 : Inv X pins σ H1 { s1 with heap := h' } := I1.kept (t' := s1.toks) hk
    refine ⟨s1.heap.objs.size + 1, [s1.heap.objs.size + 1, s1.heap.objs.size], _, _, H1, rfl, I2, turn_enumT a (s1.heap.objs.size + 1) s1.heap.objs.size, ⟨⟨.none, he⟩, hit, Nat.succ_ne_self _, Nat.ne_of_lt (Nat.lt_succ_of_lt hal), Nat.ne_of_lt hal⟩, fun b hb => ?_, q⟩
    have e' : b = s1.heap.objs.size + 1 ∨ b = s1.heap.objs.size := by simpa using hb
    have hle : s1.heap.objs.size ≤ b := by
      rcases e' with z | z
      · rw [z]; exact Nat.le_add_right _ _
      · rw [z]; exact Nat.le_refl _
    exact I1.fpOk hle (I1.hok.fresh hle)

/-! ### zip(tuple, list) -/
def ItX (K : PySem.W.Frag) (a b : Addr) : It :=
  ⟨fun i H => ∃ (xs ys : List V) (x y : V), SqT K H a xs ∧ SqL K H b ys ∧ xs[i]? = some x ∧ ys[i]? = some y,
    fun i H v H' => ∃ T x y, v = .ref T ∧ H T = none ∧ H' = upd H T (.tup [x, y]) ∧ (∀ xs, SqT K H a xs → xs[i]? = some x) ∧ ∀ ys, SqL K H b ys → ys[i]? = some y,
    fun i H => ∃ xs ys : List V, SqT K H a xs ∧ SqL K H b ys ∧ i = min xs.length ys.length⟩
theorem turn_zipX {P : Program} {w : World} {K : PySem.W.Frag} {elts : List Expr} {kk : Nat} {tpos : Pos} {a b z TI TO i1 i2 : Addr} (S : ZipSep2 z TI TO i1 i2 [i1, a] [i2, b]) (na : a ≠ i1) (nb : b ≠ i2) :
    Turn P w K (.Tuple elts kk tpos) (ItX K a b) [z, TI, TO, i1, i2] z (fun i h => IsZip h z TI TO .none ∧ IsTupOf2 h TI (.ref i1) (.ref i2) ∧ (∃ a1 a2, IsTupOf2 h TO a1 a2) ∧ h.IsTupleIter i1 a i ∧ h.IsListIter i2 b i) where
  mem := by simp
  obj := fun i h st c hc => by
    obtain ⟨hz, hTI, ⟨x, y, hTO⟩, ⟨o1, h1, _, d1⟩, ⟨o2, h2, _, d2⟩⟩ := st
    have e' : c = z ∨ c = TI ∨ c = TO ∨ c = i1 ∨ c = i2 := by simpa using hc
    rcases e' with q | q | q | q | q
    · rw [q]; exact ⟨_, hz, fun v q => nomatch q⟩
    · rw [q]; exact ⟨_, hTI, fun v q => nomatch q⟩
    · rw [q]; exact ⟨_, hTO, fun v q => nomatch q⟩
    · rw [q]; exact ⟨o1, h1, fun v q => by rw [d1] at q; cases q⟩
    · rw [q]; exact ⟨o2, h2, fun v q => by rw [d2] at q; cases q⟩
  keep := fun i h h' st k => by
    obtain ⟨hz, hTI, ⟨x, y, hTO⟩, h1, h2⟩ := st
    exact ⟨k z (by simp) _ hz, k TI (by simp) _ hTI, ⟨x, y, k TO (by simp) _ hTO⟩, h1.at fun o q => k i1 (by simp) o q, h2.at fun o q => k i2 (by simp) o q⟩
  item := by
    intro X hP hw hK hc i pins s σ H E I hf st hg
    subst hP hw hK
    obtain ⟨hz, hTI, hTO, h1, h2⟩ := st
    obtain ⟨xs, ys, x, y, hqx, hqy, hx, hy⟩ := hg
    obtain ⟨its, rv, p, _⟩ := I.tuple hqx
    obtain ⟨its2, rv2, p2, _⟩ := I.list hqy
    obtain ⟨u, hu, ru⟩ := rv.get hx
    obtain ⟨u2, hu2, ru2⟩ := rv2.get hy
    have hil : i < its.toArray.size := by simpa using (List.getElem?_eq_some_iff.mp hu).1
    have hil2 : i < its2.toArray.size := by simpa using (List.getElem?_eq_some_iff.mp hu2).1
    have D1 := Draws.tuple (prog := X.prog) (w := X.w) (A := X.A.in1) (I.ok.hd hc) i1 a na its.toArray
    have D2 := Draws.list (prog := X.prog) (w := X.w) (A := X.A.in1) (I.ok.hd hc) i2 b nb its2.toArray
    have G := GoesN.zip2 (prog := X.prog) (w := X.w) (A := X.A) (elts := elts) (x1 := kk) (pos := tpos) S D1 D2
    refine wpAny_mono (G.goes i s (fun u s2 => ∃ x H', Inv X pins σ H' s2 ∧ RelV x u ∧ (ItX X.K a b).yld i H x H' ∧ (IsZip s2.heap z TI TO .none ∧ IsTupOf2 s2.heap TI (.ref i1) (.ref i2) ∧ (∃ a1 a2, IsTupOf2 s2.heap TO a1 a2) ∧ s2.heap.IsTupleIter i1 a (i + 1) ∧ s2.heap.IsListIter i2 b (i + 1)) ∧ ∀ c ∈ [z, TI, TO, i1, i2], H' c = none) E (by omega)
      ⟨hz, hTI, hTO, ⟨h1, p⟩, ⟨h2, p2.isList⟩⟩ fun v h' tk hY hS hk _ => ?_) (fun r s1 h1 => h1) fun _ _ z => z
    obtain ⟨T, y1, y2, rfl, hT, hy1, hy2, hTt⟩ := hY
    have e1 : y1 = u := by
      have e1 : its.toArray[i]? = some u := by simpa using hu
      rw [e1] at hy1; exact (Option.some.inj hy1).symm
    have e2 : y2 = u2 := by
      have e1 : its2.toArray[i]? = some u2 := by simpa using hu2
      rw [e1] at hy2; exact (Option.some.inj hy2).symm
    subst e1 e2
    obtain ⟨oT, hoT, hcT, nT, hdT⟩ := hTt
    have new : ObjOk X.prog X.w (upd H T (.tup [x, y])) h' T (.tup [x, y]) :=
      ⟨by show 2 ≤ sizeLine; decide, [y1, y2], .cons ru (.cons ru2 .nil), ⟨oT, hoT, hcT, nT, hdT⟩⟩
    have I1 : Inv X pins σ (upd H T (.tup [x, y])) { s with heap := h', toks := tk } := I.turnedNew (ch := [z, TI, TO, i1, i2]) (fun c ob hb q => hk c ob (fun m => hb (by
      have e' : c = z ∨ c = TO ∨ c = i1 ∨ c = i2 := by simpa using m
      rcases e' with q | q | q | q <;> simp [q])) q) hf hT new
    refine ⟨.ref T, _, I1, rfl, ⟨T, x, y, rfl, I.hok.fresh hT, rfl, fun l hl => by rw [I.tuple_inj hl hqx]; exact hx, fun l hl => by rw [I.list_inj hl hqy]; exact hy⟩, ⟨hS.1, hS.2.1, hS.2.2.1, hS.2.2.2.1.1, hS.2.2.2.2.1⟩, fun c hcm => ?_⟩
    have hlt : c < s.heap.objs.size := by
      have e' : c = z ∨ c = TI ∨ c = TO ∨ c = i1 ∨ c = i2 := by simpa using hcm
      obtain ⟨_, _, hTO⟩ := hTO
      rcases e' with q | q | q | q | q
      · rw [q]; exact Heap.lt_size hz
      · rw [q]; exact Heap.lt_size hTI
      · rw [q]; exact Heap.lt_size hTO
      · rw [q]; obtain ⟨_, e1, _⟩ := h1; exact Heap.lt_size e1
      · rw [q]; obtain ⟨_, e1, _⟩ := h2; exact Heap.lt_size e1
    rw [upd_ne (Nat.ne_of_lt (Nat.lt_of_lt_of_le hlt hT))]
    exact (hf c hcm).1
  done := by
    intro X hP hw hK hc i pins s σ H E I hf st hg
    subst hP hw hK
    obtain ⟨hz, hTI, hTO, h1, h2⟩ := st
    obtain ⟨xs, ys, hqx, hqy, hn⟩ := hg
    obtain ⟨its, rv, p, _⟩ := I.tuple hqx
    obtain ⟨its2, rv2, p2, _⟩ := I.list hqy
    have D1 := Draws.tuple (prog := X.prog) (w := X.w) (A := X.A.in1) (I.ok.hd hc) i1 a na its.toArray
    have D2 := Draws.list (prog := X.prog) (w := X.w) (A := X.A.in1) (I.ok.hd hc) i2 b nb its2.toArray
    have G := GoesN.zip2 (prog := X.prog) (w := X.w) (A := X.A) (elts := elts) (x1 := kk) (pos := tpos) S D1 D2
    have hn : i = min its.toArray.size its2.toArray.size := by
      have := rv.length
      have := rv2.length
      simp; omega
    subst hn
    refine G.stops s (fun s1 => Inv X pins σ H s1) E ⟨hz, hTI, hTO, ⟨h1, p⟩, ⟨h2, p2.isList⟩⟩ fun h' tk hk _ => I.turnedL (ch := [z, TI, TO, i1, i2]) (fun c o hb q => hk c o (fun m => hb (by
      have e' : c = z ∨ c = TO ∨ c = i1 ∨ c = i2 := by simpa using m
      rcases e' with q | q | q | q <;> simp [q])) q) hf
  self := fun A i s Q E st h => wpAny_pyIter_zip st.1 h
def iZipX (K : PySem.W.Frag) (ta : TA) : TI := fun σ H R => ta σ H fun vs H1 => ∃ a b xs ys, vs = [.ref a, .ref b] ∧ SqT K H1 a xs ∧ SqL K H1 b ys ∧ R (ItX K a b) H1
theorem pi_zipX {X : Cx} {e e2 : Expr} {ta : TA} {p pos tpos : Pos} {elts : List Expr} {kk : Nat} (hg : Gl X "zip") (hm : X.mg "zip" = none) (ha : PA X [e, e2] ta)
    (hs : starEach [e, e2] X.env = (false, eval e X.env) :: starEach [e2] X.env := by rfl) (hpl : (backTo pos (starEach [e2] X.env)).any (·.1) = false := by rfl) :
    PI X (.Tuple elts kk tpos) (.Call (.Name "zip" p) [e, e2] [] pos) (iZipX X.K ta) := by
  refine ⟨fun pins s σ H R I h => ?_⟩
  refine Call_ (ld_blt I hg hm PyProof.Rows.boot_zip (PyProof.Rows.callWith_type1 (thn (ha.run pos pins s σ H _ I h) fun us s1 ⟨vs, H1, I1, r1, q1⟩ => ?_) hs hpl))
  obtain ⟨a, b, xs, ys, ex, hqx, hqy, q⟩ := q1
  subst ex
  cases r1 with
  | cons r rr =>
    cases rr with
    | cons r' rr =>
      cases rr
      cases r
      cases r'
      obtain ⟨its, rv, p1, _⟩ := I1.tuple hqx
      obtain ⟨its2, rv2, p2, _⟩ := I1.list hqy
      have la : a < s1.heap.objs.size := p1.lt
      have lb : b < s1.heap.objs.size := p2.lt
      refine zip_begins2 (begins_tuple a its.toArray) (begins_list b its2.toArray) (show s1.heap.IsTuple a its.toArray from p1) p2.isList fun h' hz hTI hTO h1 h2 hsz hk => wpAny_pyIter_zip hz ?_
      have I2 : Inv X pins σ H1 { s1 with heap := h' } := I1.kept (t' := s1.toks) hk
      refine ⟨s1.heap.objs.size + 4, [s1.heap.objs.size + 4, s1.heap.objs.size + 2, s1.heap.objs.size + 3, s1.heap.objs.size, s1.heap.objs.size + 1], _, _, H1, rfl, I2,
        turn_zipX (zip_sep2 (fp1 := [a]) (fp2 := [b]) (fun c hc => by rw [List.mem_singleton.mp hc]; exact la) (fun c hc => by rw [List.mem_singleton.mp hc]; exact lb)) (Nat.ne_of_lt la) (Nat.ne_of_lt (Nat.lt_succ_of_lt lb)), ⟨hz, hTI, ⟨_, _, hTO⟩, ⟨_, h1, rfl, rfl⟩, ⟨_, h2, rfl, rfl⟩⟩, fun c hcm => ?_, q⟩
      have e' : c = s1.heap.objs.size + 4 ∨ c = s1.heap.objs.size + 2 ∨ c = s1.heap.objs.size + 3 ∨ c = s1.heap.objs.size ∨ c = s1.heap.objs.size + 1 := by simpa using hcm
      have hle : s1.heap.objs.size ≤ c := by
        rcases e' with z | z | z | z | z
        · rw [z]; exact Nat.le_add_right _ _
        · rw [z]; exact Nat.le_add_right _ _
        · rw [z]; exact Nat.le_add_right _ _
        · rw [z]; exact Nat.le_refl _
        · rw [z]; exact Nat.le_add_right _ _
      exact I1.fpOk hle (I1.hok.fresh hle)
end L2.My
end
section
set_option Elab.async false
set_option linter.all false
set_option maxRecDepth 100000
set_option autoImplicit false
/-! Lay4: walks and comprehensions over the layer. -/
namespace L2.My
open PySem PySem.Spec PyProof.Rows

/-! ### walks -/
/-- J gives the items xs, the i-th as g xs[i]; S: what must stand (of the part without owned cells, of the whole) -/
structure ItG {α : Type} (J : It) (S : Hp → Hp → Prop) (xs : List α) (g : α → Pr) : Prop where
  goes : ∀ i G H, i < xs.length → S G H → Same G H → J.go i H
  stops : ∀ G H, S G H → Same G H → J.stop xs.length H
  yields : ∀ i x0 G H x H', xs[i]? = some x0 → S G H → Same G H → J.yld i H x H' → ∃ G', Gr (G, H) G' H' ∧ (g x0).p G' x
/-- what stands leans on the part without owned cells alone -/
def tIF {α : Type} (B : Hp × Hp) (ρ : List Slot) (ow : Ow) (xs : List α) (g : α → Pr) : TI := fun σ H R => ∃ G, Ok B ρ ow G σ H ∧ ∀ J G' H', Gr (G, H) G' H' → ItG J (fun Ga _ => Same G' Ga) xs g → R J H'
def IF {α : Type} (X : Cx) (B : Hp × Hp) (ρ : List Slot) (ow : Ow) (tg iter : Expr) (xs : List α) (g : α → Pr) : Prop := PI X tg iter (tIF B ρ ow xs g)
/-- .. on the whole -/
def tIT {α : Type} (B : Hp × Hp) (ρ : List Slot) (ow : Ow) (xs : List α) (g : α → Pr) : TI := fun σ H R => ∃ G, Ok B ρ ow G σ H ∧ ∀ J G' H', Gr (G, H) G' H' → ItG J (fun Ga Ha => Same G' Ga ∧ Same H' Ha) xs g → R J H'
def IT {α : Type} (X : Cx) (B : Hp × Hp) (ρ : List Slot) (ow : Ow) (tg iter : Expr) (xs : List α) (g : α → Pr) : Prop := PI X tg iter (tIT B ρ ow xs g)
theorem _root_.L2.PI.weak {X : Cx} {tg iter : Expr} {t u : TI} (h : PI X tg iter t) (w : ∀ σ H R, u σ H R → t σ H R) : PI X tg iter u := ⟨fun pins s σ H R I q => h.run pins s σ H R I (w σ H R q)⟩
section
variable {α : Type} {X : Cx} {B : Hp × Hp} {ρ : List Slot} {ow : Ow} {tg iter e e2 : Expr} {xs : List α} {g : α → Pr} {pos : Pos}
theorem ItG.weak {J : It} {S S' : Hp → Hp → Prop} (w : ItG J S xs g) (h : ∀ G H, S' G H → S G H) : ItG J S' xs g :=
  ⟨fun i G H hi s sm => w.goes i G H hi (h _ _ s) sm, fun G H s sm => w.stops G H (h _ _ s) sm, fun i x0 G H x H' hx s sm y => w.yields i x0 G H x H' hx (h _ _ s) sm y⟩
theorem it_of (h : IF X B ρ ow tg iter xs g) : IT X B ρ ow tg iter xs g := L2.PI.weak h fun σ H R ⟨G, ok, k⟩ => ⟨G, ok, fun J G' H' g1 w => k J G' H' g1 (w.weak fun _ _ q => q.1)⟩
theorem kkF {G H : Hp} {R : It → Hp → Prop} (k : ∀ J G' H', Gr (G, H) G' H' → ItG J (fun Ga _ => Same G' Ga) xs g → R J H') (J : It) (G' H' : Hp) (S : Hp → Prop) (g1 : Gr (G, H) G' H') (s1 : S G') (st : ∀ G1 G2, S G1 → Same G1 G2 → S G2) (w : ItG J (fun G _ => S G) xs g) : R J H' :=
  k J G' H' g1 (w.weak fun _ _ q => st _ _ s1 q)
theorem kkT {G H : Hp} {R : It → Hp → Prop} (k : ∀ J G' H', Gr (G, H) G' H' → ItG J (fun Ga Ha => Same G' Ga ∧ Same H' Ha) xs g → R J H') (J : It) (G' H' : Hp) (S : Hp → Hp → Prop) (g1 : Gr (G, H) G' H') (s1 : S G' H') (st : ∀ G1 H1 G2 H2, S G1 H1 → Same G1 G2 → Same H1 H2 → S G2 H2) (w : ItG J S xs g) : R J H' :=
  k J G' H' g1 (w.weak fun _ _ q => st _ _ _ _ s1 q.1 q.2)
/-- over a list -/
theorem if_list {f : α → PyData} (h : EV X B ρ ow iter (da (.list (xs.map f)))) : IF X B ρ ow tg iter xs fun x => da (f x) := L2.PI.weak (pi_list h) fun σ H R ⟨G, ok, k⟩ => ⟨G, ok, fun v G1 H1 g1 p1 => by
  obtain ⟨a, vs, rfl, e, t⟩ : ∃ a vs, v = .ref a ∧ G1 a = some (.lst vs) ∧ Das G1 vs (xs.map f) := by
    cases (show Da G1 v (.list (xs.map f)) from p1) with
    | lst e t => exact ⟨_, _, rfl, e, t⟩
  have hl : vs.length = xs.length := by rw [t.length, List.length_map]
  refine ⟨a, rfl, ⟨vs, .of (g1.s _ _ e)⟩, kkF k _ G1 H1 (fun G => G a = some (.lst vs) ∧ Das G vs (xs.map f)) g1 ⟨e, t⟩ (fun G1 G2 q s => ⟨s _ _ q.1, q.2.mono s⟩) ⟨fun i G H hi s sm => ?_, fun G H s sm => ?_, fun i x0 G H x H' hx s sm y => ?_⟩⟩
  · exact ⟨vs, vs[i]'(by omega), .of (sm _ _ s.1), by simp⟩
  · exact ⟨vs, .of (sm _ _ s.1), by omega⟩
  · obtain ⟨rfl, y⟩ := y
    obtain ⟨d, h1, h2⟩ := s.2.getV (y vs (.of (sm _ _ s.1)))
    rw [List.getElem?_map, hx] at h1
    cases h1
    exact ⟨G, .refl sm, h2⟩⟩
/-- over an owned list that stays as it is -/
theorem it_own {f : α → PyData} {n : Nat} {nm : Str} {p : Addr} (h : ρ[n]? = some (.ptr p)) (ho : (p, ol (xs.map f)) ∈ ow) (hN : X.N[n]? = some nm := by rfl)
    (hv : Vis X.env.scope nm := by first | exact Or.inl rfl | exact Or.inr (Or.inl rfl) | exact Or.inr (Or.inr rfl)) (hd : (nm == ("__debug__" : Str)) = false := by decide)
    (hcd : (nm == ("__classdict__" : Str)) = false := by decide) : IT X B ρ ow tg (.Name nm pos) xs fun x => da (f x) := L2.PI.weak (pi_list (pe_var hN hv hd hcd)) fun σ H R ⟨G, ok, k⟩ => by
  obtain ⟨_, _, o, e1, vs, rfl, t⟩ := ok.own _ ho
  have e1' : H p = some (.lst vs) := e1
  have hl : vs.length = xs.length := by rw [t.length, List.length_map]
  refine ⟨.ref p, ok.ptr h, p, rfl, ⟨vs, .of e1'⟩, kkT k _ G H (fun G H => H p = some (.lst vs) ∧ Das G vs (xs.map f)) (.refl ok.gr.s) ⟨e1', t⟩ (fun G1 H1 G2 H2 q s s' => ⟨s' _ _ q.1, q.2.mono s⟩) ⟨fun i G H hi s sm => ?_, fun G H s sm => ?_, fun i x0 G H x H' hx s sm y => ?_⟩⟩
  · exact ⟨vs, vs[i]'(by omega), .of s.1, by simp⟩
  · exact ⟨vs, .of s.1, by omega⟩
  · obtain ⟨rfl, y⟩ := y
    obtain ⟨d, h1, h2⟩ := s.2.getV (y vs (.of s.1))
    rw [List.getElem?_map, hx] at h1
    cases h1
    exact ⟨G, .refl sm, h2⟩
theorem if_tup {f : α → PyData} (h : EV X B ρ ow iter (da (.tuple (xs.map f)))) : IF X B ρ ow tg iter xs fun x => da (f x) := L2.PI.weak (pi_tup h) fun σ H R ⟨G, ok, k⟩ => ⟨G, ok, fun v G1 H1 g1 p1 => by
  obtain ⟨a, vs, rfl, e, t⟩ : ∃ a vs, v = .ref a ∧ G1 a = some (.tup vs) ∧ Das G1 vs (xs.map f) := by
    cases (show Da G1 v (.tuple (xs.map f)) from p1) with
    | tup e t => exact ⟨_, _, rfl, e, t⟩
  have hl : vs.length = xs.length := by rw [t.length, List.length_map]
  refine ⟨a, rfl, ⟨vs, .of (g1.s _ _ e)⟩, kkF k _ G1 H1 (fun G => G a = some (.tup vs) ∧ Das G vs (xs.map f)) g1 ⟨e, t⟩ (fun G1 G2 q s => ⟨s _ _ q.1, q.2.mono s⟩) ⟨fun i G H hi s sm => ?_, fun G H s sm => ?_, fun i x0 G H x H' hx s sm y => ?_⟩⟩
  · exact ⟨vs, vs[i]'(by omega), .of (sm _ _ s.1), by simp⟩
  · exact ⟨vs, .of (sm _ _ s.1), by omega⟩
  · obtain ⟨rfl, y⟩ := y
    obtain ⟨d, h1, h2⟩ := s.2.getV (y vs (.of (sm _ _ s.1)))
    rw [List.getElem?_map, hx] at h1
    cases h1
    exact ⟨G, .refl sm, h2⟩⟩
/-- range(n), range(lo, hi), range(lo, hi, -1) -/
theorem if_range1 {a : Expr} {n : Nat} {p : Pos} (hm : X.mg "range" = none) (h : EV X B ρ ow a (da (.int n))) (hn : n < 2 ^ 62) (hg : Gl X "range" := by rfl) (hs : starEach [a] X.env = [(false, eval a X.env)] := by rfl) :
    IF X B ρ ow tg (.Call (.Name "range" p) [a] [] pos) (List.range n) fun k => da (.int (k : Nat)) := L2.PI.weak (pi_range1 hg hm (pa_cons h pa_nil hs) hs) fun σ H R ⟨G, ok, k⟩ => ⟨G, ok, fun v G1 H1 g1 p1 => by
  cases (show Da G1 v (.int n) from p1)
  refine ⟨n, rfl, by omega, by omega, kkF k _ G1 H1 (fun _ => True) g1 True.intro (fun _ _ _ _ => True.intro) ⟨fun i G H hi s sm => ?_, fun G H s sm => ?_, fun i x0 G H x H' hx s sm y => ?_⟩⟩
  · rw [List.length_range] at hi
    show i < (n : Int).toNat
    omega
  · rw [List.length_range]
    show (n : Int).toNat ≤ n
    omega
  · obtain ⟨rfl, rfl⟩ := y
    obtain ⟨h1, h2⟩ := List.getElem?_eq_some_iff.mp hx
    rw [List.getElem_range] at h2
    subst h2
    refine ⟨G, .refl sm, ?_⟩
    rw [Int.zero_add]
    exact .int _⟩
theorem if_range2 {a b : Expr} {lo hi : Int} {p : Pos} (hm : X.mg "range" = none) (h : EV X B ρ ow a (da (.int lo))) (h2 : EV X B ρ ow b (da (.int hi))) (hn : -(2 ^ 62) ≤ lo ∧ lo < 2 ^ 62 ∧ -(2 ^ 62) ≤ hi ∧ hi < 2 ^ 62) (hg : Gl X "range" := by rfl)
    (hs : starEach [a, b] X.env = [(false, eval a X.env), (false, eval b X.env)] := by rfl) (hs2 : starEach [b] X.env = [(false, eval b X.env)] := by rfl) :
    IF X B ρ ow tg (.Call (.Name "range" p) [a, b] [] pos) (List.range (hi - lo).toNat) fun k => da (.int (lo + (k : Nat))) := L2.PI.weak (pi_range2 hg hm (pa_cons h (pa_cons h2 pa_nil hs2) (by rw [hs, hs2])) hs hs2) fun σ H R ⟨G, ok, k⟩ => ⟨G, ok, fun v G1 H1 g1 p1 => ⟨G1, ok.grow g1, fun v2 G2 H2 g2 p2 => by
  cases (show Da G1 v (.int lo) from p1)
  cases (show Da G2 v2 (.int hi) from p2)
  refine ⟨lo, hi, rfl, hn, kkF k _ G2 H2 (fun _ => True) (g1.trans g2) True.intro (fun _ _ _ _ => True.intro) ⟨fun i G H hi s sm => ?_, fun G H s sm => ?_, fun i x0 G H x H' hx s sm y => ?_⟩⟩
  · rw [List.length_range] at hi
    exact hi
  · rw [List.length_range]
    exact Nat.le_refl _
  · obtain ⟨rfl, rfl⟩ := y
    obtain ⟨h1, h2⟩ := List.getElem?_eq_some_iff.mp hx
    rw [List.getElem_range] at h2
    subst h2
    exact ⟨G, .refl sm, .int _⟩⟩⟩
theorem if_rangeDn {a b c : Expr} {lo hi : Int} {p : Pos} (hm : X.mg "range" = none) (h : EV X B ρ ow a (da (.int lo))) (h2 : EV X B ρ ow b (da (.int hi))) (h3 : EV X B ρ ow c (da (.int (-1)))) (hn : -(2 ^ 62) ≤ lo ∧ lo < 2 ^ 62 ∧ -(2 ^ 62) ≤ hi ∧ hi < 2 ^ 62) (hg : Gl X "range" := by rfl)
    (hs : starEach [a, b, c] X.env = (false, eval a X.env) :: starEach [b, c] X.env := by rfl) (hs2 : starEach [b, c] X.env = (false, eval b X.env) :: starEach [c] X.env := by rfl) (hs3 : starEach [c] X.env = (false, eval c X.env) :: starEach [] X.env := by rfl) :
    IF X B ρ ow tg (.Call (.Name "range" p) [a, b, c] [] pos) (List.range (lo - hi).toNat) fun k => da (.int (lo - (k : Nat))) := L2.PI.weak (pi_range3 hg hm (pa_cons h (pa_cons h2 (pa_cons h3 pa_nil hs3) hs2) hs) hs (by rw [hs2, hs3]; rfl)) fun σ H R ⟨G, ok, k⟩ => ⟨G, ok, fun v G1 H1 g1 p1 => ⟨G1, ok.grow g1, fun v2 G2 H2 g2 p2 => ⟨G2, (ok.grow g1).grow g2, fun v3 G3 H3 g3 p3 => by
  cases (show Da G1 v (.int lo) from p1)
  cases (show Da G2 v2 (.int hi) from p2)
  cases (show Da G3 v3 (.int (-1)) from p3)
  refine ⟨lo, hi, -1, (lo - hi).toNat, rfl, RgC.neg hn.1 hn.2.1 hn.2.2.1 hn.2.2.2, kkF k _ G3 H3 (fun _ => True) ((g1.trans g2).trans g3) True.intro (fun _ _ _ _ => True.intro) ⟨fun i G H hi s sm => ?_, fun G H s sm => ?_, fun i x0 G H x H' hx s sm y => ?_⟩⟩
  · rw [List.length_range] at hi
    exact hi
  · rw [List.length_range]
    exact Nat.le_refl _
  · obtain ⟨rfl, rfl⟩ := y
    obtain ⟨h1, h2⟩ := List.getElem?_eq_some_iff.mp hx
    rw [List.getElem_range] at h2
    subst h2
    refine ⟨G, .refl sm, ?_⟩
    rw [show lo + (i : Nat) * (-1) = lo - (i : Nat) by omega]
    exact .int _⟩⟩⟩
/-- a text's signs -/
theorem if_str {s : Str} (h : EV X B ρ ow iter (da (.str s))) : IF X B ρ ow tg iter s.cps.toList fun c => da (.str ⟨#[c]⟩) := L2.PI.weak (pi_str h) fun σ H R ⟨G, ok, k⟩ => ⟨G, ok, fun v G1 H1 g1 p1 => by
  cases (show Da G1 v (.str s) from p1)
  refine ⟨s, rfl, kkF k _ G1 H1 (fun _ => True) g1 True.intro (fun _ _ _ _ => True.intro) ⟨fun i G H hi _ sm => ?_, fun G H _ sm => ?_, fun i x0 G H x H' hx _ sm y => ?_⟩⟩
  · show i < s.cps.size
    simpa using hi
  · show s.cps.size ≤ _
    simp
  · obtain ⟨rfl, c, h1, rfl⟩ := y
    rw [Array.getElem?_toList] at hx
    rw [hx] at h1
    cases h1
    exact ⟨G, .refl sm, .str _⟩⟩
/-- enumerate -/
theorem ig_pair {J : It} {S : Hp → Hp → Prop} {β : Type} {ys : List β} {f1 f2 : β → PyData} (w1 : ∀ i G H, i < ys.length → S G H → Same G H → J.go i H) (w2 : ∀ G H, S G H → Same G H → J.stop ys.length H)
    (w3 : ∀ i y0 G H v H', ys[i]? = some y0 → S G H → Same G H → J.yld i H v H' → ∃ T x y, v = .ref T ∧ H T = none ∧ H' = upd H T (.tup [x, y]) ∧ Da G x (f1 y0) ∧ Da G y (f2 y0)) : ItG J S ys fun y => da (.tuple [f1 y, f2 y]) :=
  ⟨w1, w2, fun i x0 G H x H' hx s sm y => by
    obtain ⟨T, u, v, rfl, hT, rfl, d1, d2⟩ := w3 i x0 G H x H' hx s sm y
    have a := Gr.alloc (o := .tup [u, v]) sm hT
    exact ⟨_, a, .tup upd_same (.cons (d1.mono a.g) (.cons (d2.mono a.g) .nil))⟩⟩
theorem zipIdx_get {xs : List α} {i : Nat} {y : α × Nat} (h : xs.zipIdx[i]? = some y) : xs[i]? = some y.1 ∧ y.2 = i := by
  rw [List.getElem?_zipIdx] at h
  cases e : xs[i]? with
  | none => rw [e] at h; cases h
  | some z =>
    rw [e] at h
    simp at h
    subst h
    exact ⟨rfl, rfl⟩
theorem if_enumL {f : α → PyData} {elts : List Expr} {kk : Nat} {tpos p : Pos} (hm : X.mg "enumerate" = none) (h : EV X B ρ ow e (da (.list (xs.map f)))) (hg : Gl X "enumerate" := by rfl) (hs : starEach [e] X.env = [(false, eval e X.env)] := by rfl) :
    IF X B ρ ow (.Tuple elts kk tpos) (.Call (.Name "enumerate" p) [e] [] pos) xs.zipIdx fun y => da (.tuple [.int (y.2 : Nat), f y.1]) := L2.PI.weak (pi_enum hg hm (pa_cons h pa_nil hs) hs) fun σ H R ⟨G, ok, k⟩ => ⟨G, ok, fun v G1 H1 g1 p1 => by
  obtain ⟨a, vs, rfl, e, t⟩ : ∃ a vs, v = .ref a ∧ G1 a = some (.lst vs) ∧ Das G1 vs (xs.map f) := by
    cases (show Da G1 v (.list (xs.map f)) from p1) with
    | lst e t => exact ⟨_, _, rfl, e, t⟩
  have hl : vs.length = xs.length := by rw [t.length, List.length_map]
  refine ⟨a, vs, rfl, .of (g1.s _ _ e), kkF k _ G1 H1 (fun G => G a = some (.lst vs) ∧ Das G vs (xs.map f)) g1 ⟨e, t⟩ (fun G1 G2 q s => ⟨s _ _ q.1, q.2.mono s⟩) (ig_pair (fun i G H hi s sm => ?_) (fun G H s sm => ?_) fun i y0 G H v H' hy s sm y => ?_)⟩
  · rw [List.length_zipIdx] at hi
    exact ⟨vs, vs[i]'(by omega), .of (sm _ _ s.1), by simp⟩
  · rw [List.length_zipIdx]
    exact ⟨vs, .of (sm _ _ s.1), by omega⟩
  · obtain ⟨T, x, rfl, hT, rfl, y⟩ := y
    obtain ⟨e1, e2⟩ := zipIdx_get hy
    obtain ⟨d, h1, h2⟩ := s.2.getV (y vs (.of (sm _ _ s.1)))
    rw [List.getElem?_map, e1] at h1
    cases h1
    exact ⟨T, _, x, rfl, hT, rfl, by rw [e2]; exact .int _, h2⟩⟩
theorem if_enumT {f : α → PyData} {elts : List Expr} {kk : Nat} {tpos p : Pos} (hm : X.mg "enumerate" = none) (h : EV X B ρ ow e (da (.tuple (xs.map f)))) (hg : Gl X "enumerate" := by rfl) (hs : starEach [e] X.env = [(false, eval e X.env)] := by rfl) :
    IF X B ρ ow (.Tuple elts kk tpos) (.Call (.Name "enumerate" p) [e] [] pos) xs.zipIdx fun y => da (.tuple [.int (y.2 : Nat), f y.1]) := L2.PI.weak (pi_enumT hg hm (pa_cons h pa_nil hs) hs) fun σ H R ⟨G, ok, k⟩ => ⟨G, ok, fun v G1 H1 g1 p1 => by
  obtain ⟨a, vs, rfl, e, t⟩ : ∃ a vs, v = .ref a ∧ G1 a = some (.tup vs) ∧ Das G1 vs (xs.map f) := by
    cases (show Da G1 v (.tuple (xs.map f)) from p1) with
    | tup e t => exact ⟨_, _, rfl, e, t⟩
  have hl : vs.length = xs.length := by rw [t.length, List.length_map]
  refine ⟨a, vs, rfl, .of (g1.s _ _ e), kkF k _ G1 H1 (fun G => G a = some (.tup vs) ∧ Das G vs (xs.map f)) g1 ⟨e, t⟩ (fun G1 G2 q s => ⟨s _ _ q.1, q.2.mono s⟩) (ig_pair (fun i G H hi s sm => ?_) (fun G H s sm => ?_) fun i y0 G H v H' hy s sm y => ?_)⟩
  · rw [List.length_zipIdx] at hi
    exact ⟨vs, vs[i]'(by omega), .of (sm _ _ s.1), by simp⟩
  · rw [List.length_zipIdx]
    exact ⟨vs, .of (sm _ _ s.1), by omega⟩
  · obtain ⟨T, x, rfl, hT, rfl, y⟩ := y
    obtain ⟨e1, e2⟩ := zipIdx_get hy
    obtain ⟨d, h1, h2⟩ := s.2.getV (y vs (.of (sm _ _ s.1)))
    rw [List.getElem?_map, e1] at h1
    cases h1
    exact ⟨T, _, x, rfl, hT, rfl, by rw [e2]; exact .int _, h2⟩⟩
/-- zip -/
theorem zip_get {β : Type} {xs : List α} {ys : List β} {i : Nat} {y : α × β} (h : (xs.zip ys)[i]? = some y) : xs[i]? = some y.1 ∧ ys[i]? = some y.2 := by
  rw [List.getElem?_zip_eq_some] at h
  exact h
theorem if_zipT {β : Type} {ys : List β} {f : α → PyData} {f2 : β → PyData} {elts : List Expr} {kk : Nat} {tpos p : Pos} (hm : X.mg "zip" = none) (h : EV X B ρ ow e (da (.tuple (xs.map f)))) (h2 : EV X B ρ ow e2 (da (.tuple (ys.map f2)))) (hg : Gl X "zip" := by rfl)
    (hs : starEach [e, e2] X.env = (false, eval e X.env) :: starEach [e2] X.env := by rfl) (hs2 : starEach [e2] X.env = (false, eval e2 X.env) :: starEach [] X.env := by rfl) :
    IF X B ρ ow (.Tuple elts kk tpos) (.Call (.Name "zip" p) [e, e2] [] pos) (xs.zip ys) fun y => da (.tuple [f y.1, f2 y.2]) := L2.PI.weak (RZ.pi_zipA hg hm (pa_cons h (pa_cons h2 pa_nil hs2) hs) hs (by rw [hs2]; rfl)) fun σ H R ⟨G, ok, k⟩ => ⟨G, ok, fun v G1 H1 g1 p1 => ⟨G1, ok.grow g1, fun v2 G2 H2 g2 p2 => by
  obtain ⟨a, vs, rfl, e, t⟩ : ∃ a vs, v = .ref a ∧ G2 a = some (.tup vs) ∧ Das G2 vs (xs.map f) := by
    cases Da.mono g2.g (show Da G1 v (.tuple (xs.map f)) from p1) with
    | tup e t => exact ⟨_, _, rfl, e, t⟩
  obtain ⟨b, ws, rfl, e', t'⟩ : ∃ a vs, v2 = .ref a ∧ G2 a = some (.tup vs) ∧ Das G2 vs (ys.map f2) := by
    cases (show Da G2 v2 (.tuple (ys.map f2)) from p2) with
    | tup e t => exact ⟨_, _, rfl, e, t⟩
  have hl : vs.length = xs.length := by rw [t.length, List.length_map]
  have hl' : ws.length = ys.length := by rw [t'.length, List.length_map]
  refine ⟨a, b, vs, ws, rfl, .inr ⟨.of (g2.s _ _ e), .of (g2.s _ _ e'), kkF k _ G2 H2 (fun G => (G a = some (.tup vs) ∧ Das G vs (xs.map f)) ∧ G b = some (.tup ws) ∧ Das G ws (ys.map f2)) (g1.trans g2) ⟨⟨e, t⟩, e', t'⟩ (fun G1 G2 q s => ⟨⟨s _ _ q.1.1, q.1.2.mono s⟩, s _ _ q.2.1, q.2.2.mono s⟩)
    (ig_pair (fun i G H hi s sm => ?_) (fun G H s sm => ?_) fun i y0 G H v H' hy s sm y => ?_)⟩⟩
  · rw [List.length_zip] at hi
    exact ⟨vs, ws, vs[i]'(by omega), ws[i]'(by omega), .of (sm _ _ s.1.1), .of (sm _ _ s.2.1), by simp, by simp⟩
  · rw [List.length_zip]
    exact ⟨vs, ws, .of (sm _ _ s.1.1), .of (sm _ _ s.2.1), by omega⟩
  · obtain ⟨T, x, z, rfl, hT, rfl, y1, y2⟩ := y
    obtain ⟨e1, e2⟩ := zip_get hy
    obtain ⟨d, h1, h2⟩ := s.1.2.getV (y1 vs (.of (sm _ _ s.1.1)))
    rw [List.getElem?_map, e1] at h1
    cases h1
    obtain ⟨d', h1', h2'⟩ := s.2.2.getV (y2 ws (.of (sm _ _ s.2.1)))
    rw [List.getElem?_map, e2] at h1'
    cases h1'
    exact ⟨T, x, z, rfl, hT, rfl, h2, h2'⟩⟩⟩
theorem if_zipX {β : Type} {ys : List β} {f : α → PyData} {f2 : β → PyData} {elts : List Expr} {kk : Nat} {tpos p : Pos} (hm : X.mg "zip" = none) (h : EV X B ρ ow e (da (.tuple (xs.map f)))) (h2 : EV X B ρ ow e2 (da (.list (ys.map f2)))) (hg : Gl X "zip" := by rfl)
    (hs : starEach [e, e2] X.env = (false, eval e X.env) :: starEach [e2] X.env := by rfl) (hs2 : starEach [e2] X.env = (false, eval e2 X.env) :: starEach [] X.env := by rfl) :
    IF X B ρ ow (.Tuple elts kk tpos) (.Call (.Name "zip" p) [e, e2] [] pos) (xs.zip ys) fun y => da (.tuple [f y.1, f2 y.2]) := L2.PI.weak (pi_zipX hg hm (pa_cons h (pa_cons h2 pa_nil hs2) hs) hs (by rw [hs2]; rfl)) fun σ H R ⟨G, ok, k⟩ => ⟨G, ok, fun v G1 H1 g1 p1 => ⟨G1, ok.grow g1, fun v2 G2 H2 g2 p2 => by
  obtain ⟨a, vs, rfl, e, t⟩ : ∃ a vs, v = .ref a ∧ G2 a = some (.tup vs) ∧ Das G2 vs (xs.map f) := by
    cases Da.mono g2.g (show Da G1 v (.tuple (xs.map f)) from p1) with
    | tup e t => exact ⟨_, _, rfl, e, t⟩
  obtain ⟨b, ws, rfl, e', t'⟩ : ∃ a vs, v2 = .ref a ∧ G2 a = some (.lst vs) ∧ Das G2 vs (ys.map f2) := by
    cases (show Da G2 v2 (.list (ys.map f2)) from p2) with
    | lst e t => exact ⟨_, _, rfl, e, t⟩
  have hl : vs.length = xs.length := by rw [t.length, List.length_map]
  have hl' : ws.length = ys.length := by rw [t'.length, List.length_map]
  refine ⟨a, b, vs, ws, rfl, .of (g2.s _ _ e), .of (g2.s _ _ e'), kkF k _ G2 H2 (fun G => (G a = some (.tup vs) ∧ Das G vs (xs.map f)) ∧ G b = some (.lst ws) ∧ Das G ws (ys.map f2)) (g1.trans g2) ⟨⟨e, t⟩, e', t'⟩ (fun G1 G2 q s => ⟨⟨s _ _ q.1.1, q.1.2.mono s⟩, s _ _ q.2.1, q.2.2.mono s⟩)
    (ig_pair (fun i G H hi s sm => ?_) (fun G H s sm => ?_) fun i y0 G H v H' hy s sm y => ?_)⟩
  · rw [List.length_zip] at hi
    exact ⟨vs, ws, vs[i]'(by omega), ws[i]'(by omega), .of (sm _ _ s.1.1), .of (sm _ _ s.2.1), by simp, by simp⟩
  · rw [List.length_zip]
    exact ⟨vs, ws, .of (sm _ _ s.1.1), .of (sm _ _ s.2.1), by omega⟩
  · obtain ⟨T, x, z, rfl, hT, rfl, y1, y2⟩ := y
    obtain ⟨e1, e2⟩ := zip_get hy
    obtain ⟨d, h1, h2⟩ := s.1.2.getV (y1 vs (.of (sm _ _ s.1.1)))
    rw [List.getElem?_map, e1] at h1
    cases h1
    obtain ⟨d', h1', h2'⟩ := s.2.2.getV (y2 ws (.of (sm _ _ s.2.1)))
    rw [List.getElem?_map, e2] at h1'
    cases h1'
    exact ⟨T, x, z, rfl, hT, rfl, h2, h2'⟩⟩⟩
end

/-! ### targets -/
/-- a target's reading puts φ's value and leads to f ρ; the slots vs alone are touched -/
def TgOk (g : TG) (φ : Pr) (f : List Slot → List Slot) (vs : List Nat) : Prop := ∀ (B : Hp × Hp) (ρ : List Slot) (ow : Ow) (G : Hp) (σ : St) (H : Hp) (v : V) (Q : St → Hp → Prop), Ok B ρ ow G σ H → φ.p G v → (∀ σ', Ok B (f ρ) ow G σ' H → wipe σ' vs = wipe σ vs → Q σ' H) → g v σ H Q
theorem wipe_get (σ : St) (j : Nat) : ∀ vs : List Nat, (wipe σ vs)[j]? = if j ∈ vs ∧ j < σ.length then some none else σ[j]?
  | [] => by simp [wipe]
  | v :: vs => by
    unfold wipe
    by_cases h : j = v
    · subst h
      by_cases hl : j < σ.length
      · rw [List.getElem?_set_self (by rw [wipe_length]; exact hl), if_pos ⟨List.mem_cons_self, hl⟩]
      · rw [List.getElem?_eq_none_iff.mpr (by rw [List.length_set, wipe_length]; omega), if_neg (fun z => hl z.2), List.getElem?_eq_none_iff.mpr (by omega)]
    · rw [List.getElem?_set_ne (Ne.symm h), wipe_get σ j vs]
      simp [h]
theorem wipe_set {σ : St} {k : Nat} {v : V} {vs : List Nat} (h : k ∈ vs) : wipe (σ.set k (some v)) vs = wipe σ vs := by
  refine List.ext_getElem? fun j => ?_
  rw [wipe_get, wipe_get, List.length_set]
  by_cases hj : j = k
  · subst hj
    by_cases hl : j < σ.length
    · rw [if_pos ⟨h, hl⟩, if_pos ⟨h, hl⟩]
    · rw [if_neg (fun z => hl z.2), if_neg (fun z => hl z.2), List.getElem?_eq_none_iff.mpr (by rw [List.length_set]; omega), List.getElem?_eq_none_iff.mpr (by omega)]
  · rw [List.getElem?_set_ne (Ne.symm hj)]
theorem tg_name {φ : Pr} {k : Nat} {vs : List Nat} (h : k ∈ vs) : TgOk (gName k) φ (fun ρ => ρ.set k (.val φ)) vs := fun B ρ ow G σ H v Q ok p q => q _ (ok.set (s := .val φ) ⟨v, rfl, p⟩) (wipe_set h)
def TgsOk (g : TGs) (ds : List PyData) (f : List Slot → List Slot) (vs : List Nat) : Prop := ∀ (B : Hp × Hp) (ρ : List Slot) (ow : Ow) (G : Hp) (σ : St) (H : Hp) (us : List V) (Q : St → Hp → Prop), Ok B ρ ow G σ H → Das G us ds → (∀ σ', Ok B (f ρ) ow G σ' H → wipe σ' vs = wipe σ vs → Q σ' H) → g us σ H Q
theorem tgs_nil {vs : List Nat} : TgsOk gNil [] (fun ρ => ρ) vs := fun B ρ ow G σ H us Q ok t q => by
  cases t
  exact ⟨rfl, q σ ok rfl⟩
theorem tgs_cons {g : TGs} {k : Nat} {d : PyData} {ds : List PyData} {f : List Slot → List Slot} {vs : List Nat} (h : k ∈ vs) (hr : TgsOk g ds f vs) : TgsOk (gCons (gName k) g) (d :: ds) (fun ρ => f (ρ.set k (.val (da d)))) vs := fun B ρ ow G σ H us Q ok t q => by
  cases t with
  | cons a t => exact ⟨_, _, rfl, hr B _ ow G _ H _ Q (ok.set (s := .val (da d)) ⟨_, rfl, a⟩) t fun σ' ok' w => q σ' ok' (w.trans (wipe_set h))⟩
theorem tg_tup {K : PySem.W.Frag} {g : TGs} {ds : List PyData} {f : List Slot → List Slot} {vs : List Nat} {n : Nat} (h : TgsOk g ds f vs) (hn : ds.length = n) : TgOk (gTup K n g) (da (.tuple ds)) f vs := fun B ρ ow G σ H v Q ok p q => by
  cases (show Da G v (.tuple ds) from p) with
  | tup e t => exact ⟨_, _, rfl, .of (ok.gr.s _ _ e), t.length.trans hn, h B ρ ow G σ H _ Q ok t q⟩
def wipeS (ρ : List Slot) : List Nat → List Slot
  | [] => ρ
  | v :: vs => (wipeS ρ vs).set v .no
theorem wipeS_length (ρ : List Slot) : ∀ vs : List Nat, (wipeS ρ vs).length = ρ.length
  | [] => rfl
  | v :: vs => by unfold wipeS; rw [List.length_set, wipeS_length ρ vs]
theorem Ok.wipe {B : Hp × Hp} {ρ : List Slot} {ow : Ow} {G : Hp} {σ : St} {H : Hp} (h : Ok B ρ ow G σ H) : ∀ vs : List Nat, Ok B (wipeS ρ vs) ow G (wipe σ vs) H
  | [] => h
  | v :: vs => by
    have k := h.wipe vs
    refine ⟨k.gr, fun i s e => ?_, by rw [wipe_length, wipeS_length]; exact h.len, k.own, k.ap⟩
    unfold wipeS at e
    unfold L2.wipe
    by_cases hi : i = v
    · subst hi
      by_cases hl : i < (wipeS ρ vs).length
      · rw [List.getElem?_set_self hl] at e; cases e; exact True.intro
      · rw [List.getElem?_eq_none_iff.mpr (by rw [List.length_set]; omega)] at e; cases e
    · rw [List.getElem?_set_ne (Ne.symm hi)] at e ⊢
      exact k.sl i s e
end L2.My
end
section
set_option Elab.async false
set_option linter.all false
set_option maxRecDepth 100000
set_option autoImplicit false
/-! Lay5: comprehensions. -/
namespace L2.My
open PySem PySem.Spec PyProof.Rows

/-- a context's weakest readings over all blocks -/
abbrev blkOf (X : Cx) (scope : Scope) (b : Shared × Hp × Addr × List (Str × Addr) × List Addr) : Cx := X.blk b.1 b.2.1 scope (compEnvC scope b.2.2.2.1 b.2.2.1 X.env) b.2.2.2.2
abbrev Bk := Shared × Hp × Addr × List (Str × Addr) × List Addr
def bE (X : Cx) (scope : Scope) (e : Expr) : TE := fun σ H Q => ∀ b : Bk, wE (blkOf X scope b) e σ H Q
def wTs (X : Cx) (ifs : List Expr) : TT := fun σ H Q => ∀ (pins : List (Addr × Obj)) (s : Shared), Inv X pins σ H s →
    wpAny (model X.prog X.w) X.A (forIn ifs true fun c r => if r = true then do let ok ← isTrue c X.env (eval c X.env); pure (ForInStep.yield ok) else pure (ForInStep.yield r)) (TP X pins σ Q) X.xe s
def bTs (X : Cx) (scope : Scope) (ifs : List Expr) : TT := fun σ H Q => ∀ b : Bk, wTs (blkOf X scope b) ifs σ H Q
def wI (X : Cx) (tg iter : Expr) : TI := fun σ H R => ∀ (pins : List (Addr × Obj)) (s : Shared), Inv X pins σ H s → wpAny (model X.prog X.w) X.A (eval iter X.env) (fun v s1 => wpAny (model X.prog X.w) X.A (pyIter v) (PIE X pins σ tg R) X.xe s1) X.xe s
def bI (X : Cx) (scope : Scope) (tg iter : Expr) : TI := fun σ H R => ∀ b : Bk, wI (blkOf X scope b) tg iter σ H R
theorem pe_b {X : Cx} {scope : Scope} {e : Expr} (b : Bk) : PE (blkOf X scope b) e (bE X scope e) := ⟨fun pins st σ H Q I h => h b pins st I⟩
theorem pts_b {X : Cx} {scope : Scope} {ifs : List Expr} (b : Bk) : PTs (blkOf X scope b) ifs (bTs X scope ifs) := ⟨fun pins st σ H Q I h => h b pins st I⟩
theorem pi_b {X : Cx} {scope : Scope} {tg iter : Expr} (b : Bk) : PI (blkOf X scope b) tg iter (bI X scope tg iter) := ⟨fun pins st σ H Q I h => h b pins st I⟩
/-- the tests of a clause -/
def ETs (X : Cx) (B : Hp × Hp) (ρ : List Slot) (ow : Ow) (ifs : List Expr) (b : Bool) : Prop := PTs X ifs (tET B ρ ow b)
theorem ets_nil {X : Cx} {B : Hp × Hp} {ρ : List Slot} {ow : Ow} : ETs X B ρ ow [] true := ⟨fun pins s σ H Q I ⟨G, ok, q⟩ => pts_nil.run pins s σ H Q I (q G H (.refl ok.gr.s))⟩
theorem ets_one {X : Cx} {B : Hp × Hp} {ρ : List Slot} {ow : Ow} {c : Expr} {b : Bool} (h : ET X B ρ ow c b) : ETs X B ρ ow [c] b := pts_one h

section
variable {α : Type} {X : Cx} {B : Hp × Hp} {ρ : List Slot} {ow : Ow} {tg iter elt : Expr} {ifs : List Expr} {xs : List α} {g : α → Pr} {pos : Pos} {scope : Scope} {own : List (Str × Nat)} {c : α → Bool} {f : α → PyData} {tgG : TG} {fρ : α → List Slot → List Slot}
theorem take_succ_get {l : List α} {i : Nat} {x : α} (h : l[i]? = some x) : l.take (i + 1) = l.take i ++ [x] := by
  rw [List.take_add_one, h]; rfl
theorem wipe_wipe (σ : St) (vs : List Nat) : L2.wipe (L2.wipe σ vs) vs = L2.wipe σ vs := by
  refine List.ext_getElem? fun j => ?_
  rw [wipe_get, wipe_get, wipe_length]
  by_cases h1 : j ∈ vs ∧ j < σ.length
  · rw [if_pos h1, if_pos h1]
  · rw [if_neg h1, if_neg h1]
/-- the state within a comprehension at turn i -/
structure LcSt (B : Hp × Hp) (ρ : List Slot) (ow : Ow) (G0 H0 G1 H1 : Hp) (D : Addr) (σ : St) (acc : List PyData) (G H : Hp) : Prop where
  ok : Ok B ρ ((D, ol acc) :: ow) G σ H
  gr : Gr (G0, H0) G H
  s : Same G1 G ∧ Same H1 H
theorem lc_read (htg : ∀ x ∈ xs, TgOk tgG (g x) (fρ x) (own.map (·.2)))
    (ht : ∀ x ∈ xs, ∀ b : Bk, ETs (blkOf X scope b) B (fρ x (wipeS ρ (own.map (·.2)))) ow ifs (c x))
    (he : ∀ x ∈ xs, c x = true → ∀ b : Bk, EV (blkOf X scope b) B (fρ x (wipeS ρ (own.map (·.2)))) ow elt (da (f x)))
    (hl : xs.length ≤ sizeLine) {σ : St} {H : Hp} {Q : VK}
    (q0 : tEV B ρ ow (da (.list ((xs.filter c).map f))) σ H Q) : tLc (tIT B ρ ow xs g) tgG (bTs X scope ifs) (bE X scope elt) (own.map (·.2)) σ H Q := by
  obtain ⟨G, ok, k⟩ := q0
  refine ⟨G, ok, fun J G1 H1 g1 w D hD => ?_⟩
  have k2 : ∀ G' H', LcSt B (wipeS ρ (own.map (·.2))) ow G H G1 H1 D (L2.wipe σ (own.map (·.2))) ((xs.filter c).map f) G' H' → Q (.ref D) H' := fun G' H' z => by
    obtain ⟨o, ⟨vs, rfl, t⟩, ok2, sm⟩ := z.ok.freeze
    have hDg : G' D = none := (z.ok.own _ List.mem_cons_self).out
    refine k (.ref D) (upd G' D (.lst vs)) H' ⟨z.gr.g.trans sm, z.gr.h, ok2.gr.s, fun a h1 h2 => ?_⟩ (.lst upd_same (t.mono sm))
    have ne : a ≠ D := fun e => h2 (by rw [e]; exact g1.h.free hD)
    rw [upd_ne ne]
    exact z.gr.n a h1 h2
  refine ⟨fun i m H' => m = xs.length - i ∧ i ≤ xs.length ∧ ∃ G', LcSt B (wipeS ρ (own.map (·.2))) ow G H G1 H1 D (L2.wipe σ (own.map (·.2))) (((xs.take i).filter c).map f) G' H', ⟨xs.length, rfl, Nat.zero_le _, G1, ?_, ?_, ?_⟩, ?_⟩
  · exact ((ok.grow g1).wipe _).mk_own hD ⟨[], rfl, .nil⟩
  · have gd : G1 D = none := g1.s.free hD
    have sh : Same H1 (upd H1 D (.lst [])) := fun b u z => by rw [upd_ne (ne_of_none z hD)]; exact z
    exact ⟨g1.g, g1.h.trans sh, g1.s.trans sh, g1.n⟩
  · exact ⟨Same.refl _, fun b u z => by rw [upd_ne (ne_of_none z hD)]; exact z⟩
  · rintro i m H' ⟨rfl, hi', G', z⟩
    by_cases hlt : i < xs.length
    · refine .inr ⟨w.goes i G' H' hlt z.s z.ok.gr.s, fun H'' => i + 1 ≤ xs.length ∧ ∃ G'', LcSt B (wipeS ρ (own.map (·.2))) ow G H G1 H1 D (L2.wipe σ (own.map (·.2))) (((xs.take (i + 1)).filter c).map f) G'' H'', fun H'' q => ⟨xs.length - (i + 1), by omega, rfl, q⟩, fun v H2 y => ?_⟩
      have hx : xs[i]? = some xs[i] := List.getElem?_eq_getElem hlt
      have hm : xs[i] ∈ xs := List.getElem_mem hlt
      obtain ⟨G2, g2, p2⟩ := w.yields i _ G' H' v H2 hx z.s z.ok.gr.s y
      have ok2 := z.ok.grow g2
      refine htg _ hm B _ _ G2 _ H2 v _ ok2 p2 fun σ2 ok3 hw => ⟨hw.trans (wipe_wipe _ _), fun b => ?_⟩
      have e1 : (((xs.take (i + 1)).filter c).map f) = (((xs.take i).filter c).map f) ++ (if c xs[i] = true then [f xs[i]] else []) := by
        rw [take_succ_get hx, List.filter_append, List.map_append]
        congr 1
        by_cases hcx : c xs[i] = true
        · rw [if_pos hcx, List.filter_cons, if_pos hcx]; rfl
        · rw [if_neg hcx, List.filter_cons, if_neg hcx]; rfl
      refine fun pins s0 I0 => (ht _ hm b).run pins s0 _ _ _ I0 ⟨G2, ok3.drop, fun G3 H3 g3 => ?_⟩
      have fin : ∀ G4 H4, Gr (G3, H3) G4 H4 → LcSt B (wipeS ρ (own.map (·.2))) ow G H G1 H1 D (L2.wipe σ (own.map (·.2))) (((xs.take i).filter c).map f) G4 H4 := fun G4 H4 g4 =>
        ⟨(ok2.grow g3).grow g4, (((z.gr.trans g2).trans g3).trans g4), ⟨((z.s.1.trans g2.g).trans g3.g).trans g4.g, ((z.s.2.trans g2.h).trans g3.h).trans g4.h⟩⟩
      by_cases hcx : c xs[i] = true
      · rw [hcx]
        refine iteT fun b' pins' s' I' => (he _ hm hcx b').run pins' s' _ _ _ I' ⟨G3, (ok3.grow g3).drop, fun u G4 H4 g4 p4 => ?_⟩
        have z4 := fin G4 H4 g4
        obtain ⟨hn, ho, o, e, vs, rfl, t⟩ := z4.ok.own _ List.mem_cons_self
        have e' : H4 D = some (.lst vs) := e
        have hlen : vs.length < sizeLine := by
          rw [t.length, List.length_map]
          have h1 := List.length_filter_le c (xs.take i)
          have h2 : (xs.take i).length ≤ i := List.length_take_le i xs
          omega
        have sh : Same H (upd H4 D (.lst (vs ++ [u]))) := fun q w' r => by rw [upd_ne (ne_of_none r (g1.h.free hD))]; exact z4.gr.h _ _ r
        refine ⟨vs, e', hlen, hlt, G4, z4.ok.write ⟨_, rfl, ?_⟩, ⟨z4.gr.g, sh, fun q w' r => ?_, z4.gr.n⟩, ?_⟩
        · rw [e1, if_pos hcx]
          exact t.append (.cons p4 .nil)
        · rw [upd_ne (ne_of_none r ho)]
          exact z4.gr.s _ _ r
        · exact ⟨z4.s.1, fun q w' r => by rw [upd_ne (ne_of_none r hD)]; exact z4.s.2 _ _ r⟩
      · have hcx' : c xs[i] = false := by simpa using hcx
        rw [hcx']
        refine iteF ⟨hlt, G3, ?_⟩
        rw [e1, if_neg hcx, List.append_nil]
        exact fin G3 H3 (.refl g3.s)
    · have e : i = xs.length := by omega
      subst e
      refine .inl ⟨w.stops G' H' z.s z.ok.gr.s, k2 G' H' ?_⟩
      rw [List.take_length] at z
      exact z
theorem ev_lc (hc : X.calm = true) (hN : X.N.Nodup) (hi : IT X B ρ ow tg iter xs g) (hok : BlkOk X.N X.env.scope scope own)
    (hg : ∀ b : Bk, PG (blkOf X scope b) tg tgG) (htg : ∀ x ∈ xs, TgOk tgG (g x) (fρ x) (own.map (·.2)))
    (ht : ∀ x ∈ xs, ∀ b : Bk, ETs (blkOf X scope b) B (fρ x (wipeS ρ (own.map (·.2)))) ow ifs (c x))
    (he : ∀ x ∈ xs, c x = true → ∀ b : Bk, EV (blkOf X scope b) B (fρ x (wipeS ρ (own.map (·.2)))) ow elt (da (f x)))
    (hl : xs.length ≤ sizeLine) (hs : ∀ x, foldedSetIterable iter X.env x = pure x := by intro _; rfl) :
    EV X B ρ ow (.ListComp elt [⟨tg, iter, ifs, 0⟩] scope pos) (da (.list ((xs.filter c).map f))) :=
  L2.PE.weak (pe_lc (tt := bTs X scope ifs) (te := bE X scope elt) hc hN hi hok (fun s H C cl fp => hg (s, H, C, cl, fp)) (fun s H C cl fp => pts_b (s, H, C, cl, fp)) (fun s H C cl fp => pe_b (s, H, C, cl, fp)) hs) fun σ H Q q => lc_read htg ht he hl q

/-! ### two clauses -/
variable {β : Type} {tg1 iter1 : Expr} {ifs1 : List Expr} {ys : α → List β} {g1 : α → β → Pr} {tgG1 : TG} {fρ1 : α → β → List Slot → List Slot} {c1 : α → β → Bool} {f1 : α → β → PyData} {vs1 : List Nat}
theorem wipe_sub {σ σ2 : St} {vs vs1 : List Nat} (hv : ∀ i ∈ vs1, i ∈ vs) (h : L2.wipe σ2 vs = L2.wipe σ vs) : L2.wipe (L2.wipe σ2 vs1) vs = L2.wipe σ vs := by
  rw [← h]
  refine List.ext_getElem? fun j => ?_
  rw [wipe_get, wipe_get, wipe_length, wipe_get]
  by_cases h1 : j ∈ vs ∧ j < σ2.length
  · rw [if_pos h1, if_pos h1]
  · rw [if_neg h1, if_neg h1]
    by_cases h2 : j ∈ vs1 ∧ j < σ2.length
    · exact absurd ⟨hv j h2.1, h2.2⟩ h1
    · rw [if_neg h2]
theorem lc2_read (htg : ∀ x ∈ xs, TgOk tgG (g x) (fρ x) (own.map (·.2)))
    (ht : ∀ x ∈ xs, ∀ b : Bk, ETs (blkOf X scope b) B (fρ x (wipeS ρ (own.map (·.2)))) ow ifs true)
    (hi1 : ∀ x ∈ xs, ∀ b : Bk, IF (blkOf X scope b) B (fρ x (wipeS ρ (own.map (·.2)))) ow tg1 iter1 (ys x) (g1 x))
    (htg1 : ∀ x ∈ xs, ∀ y ∈ ys x, TgOk tgG1 (g1 x y) (fρ1 x y) vs1)
    (ht1 : ∀ x ∈ xs, ∀ y ∈ ys x, ∀ b : Bk, ETs (blkOf X scope b) B (fρ1 x y (wipeS (fρ x (wipeS ρ (own.map (·.2)))) vs1)) ow ifs1 (c1 x y))
    (he : ∀ x ∈ xs, ∀ y ∈ ys x, c1 x y = true → ∀ b : Bk, EV (blkOf X scope b) B (fρ1 x y (wipeS (fρ x (wipeS ρ (own.map (·.2)))) vs1)) ow elt (da (f1 x y)))
    (hl : (xs.flatMap ys).length ≤ sizeLine) {σ : St} {H : Hp} {Q : VK}
    (q0 : tEV B ρ ow (da (.list (xs.flatMap fun x => ((ys x).filter (c1 x)).map (f1 x)))) σ H Q) : tLc2 (tIT B ρ ow xs g) tgG (bTs X scope ifs) (bI X scope tg1 iter1) tgG1 (bTs X scope ifs1) (bE X scope elt) (own.map (·.2)) vs1 σ H Q := by
  obtain ⟨G, ok, k⟩ := q0
  refine ⟨G, ok, fun J G1 H1 g0 w D hD => ?_⟩
  have k2 : ∀ G' H', LcSt B (wipeS ρ (own.map (·.2))) ow G H G1 H1 D (L2.wipe σ (own.map (·.2))) (xs.flatMap fun x => ((ys x).filter (c1 x)).map (f1 x)) G' H' → Q (.ref D) H' := fun G' H' z => by
    obtain ⟨o, ⟨vs, rfl, t⟩, ok2, sm⟩ := z.ok.freeze
    refine k (.ref D) (upd G' D (.lst vs)) H' ⟨z.gr.g.trans sm, z.gr.h, ok2.gr.s, fun a h1 h2 => ?_⟩ (.lst upd_same (t.mono sm))
    have ne : a ≠ D := fun e => h2 (by rw [e]; exact g0.h.free hD)
    rw [upd_ne ne]
    exact z.gr.n a h1 h2
  refine ⟨fun i m H' => m = xs.length - i ∧ i ≤ xs.length ∧ ∃ G', LcSt B (wipeS ρ (own.map (·.2))) ow G H G1 H1 D (L2.wipe σ (own.map (·.2))) ((xs.take i).flatMap fun x => ((ys x).filter (c1 x)).map (f1 x)) G' H', ⟨xs.length, rfl, Nat.zero_le _, G1, ?_, ?_, ?_⟩, ?_⟩
  · exact ((ok.grow g0).wipe _).mk_own hD ⟨[], rfl, .nil⟩
  · have gd : G1 D = none := g0.s.free hD
    have sh : Same H1 (upd H1 D (.lst [])) := fun b u z => by rw [upd_ne (ne_of_none z hD)]; exact z
    exact ⟨g0.g, g0.h.trans sh, g0.s.trans sh, g0.n⟩
  · exact ⟨Same.refl _, fun b u z => by rw [upd_ne (ne_of_none z hD)]; exact z⟩
  · rintro i m H' ⟨rfl, hi', G', z⟩
    by_cases hlt : i < xs.length
    · refine .inr ⟨w.goes i G' H' hlt z.s z.ok.gr.s, fun H'' => i + 1 ≤ xs.length ∧ ∃ G'', LcSt B (wipeS ρ (own.map (·.2))) ow G H G1 H1 D (L2.wipe σ (own.map (·.2))) ((xs.take (i + 1)).flatMap fun x => ((ys x).filter (c1 x)).map (f1 x)) G'' H'', fun H'' q => ⟨xs.length - (i + 1), by omega, rfl, q⟩, fun v H2 y => ?_⟩
      have hx : xs[i]? = some xs[i] := List.getElem?_eq_getElem hlt
      have hm : xs[i] ∈ xs := List.getElem_mem hlt
      obtain ⟨G2, g2, p2⟩ := w.yields i _ G' H' v H2 hx z.s z.ok.gr.s y
      have ok2 := z.ok.grow g2
      refine htg _ hm B _ _ G2 _ H2 v _ ok2 p2 fun σ2 ok3 hw => ⟨hw.trans (wipe_wipe _ _), fun b => ?_⟩
      have e1 : ((xs.take (i + 1)).flatMap fun x => ((ys x).filter (c1 x)).map (f1 x)) = ((xs.take i).flatMap fun x => ((ys x).filter (c1 x)).map (f1 x)) ++ ((ys xs[i]).filter (c1 xs[i])).map (f1 xs[i]) := by
        rw [take_succ_get hx, List.flatMap_append]
        simp
      refine fun pins s0 I0 => (ht _ hm b).run pins s0 _ _ _ I0 ⟨G2, ok3.drop, fun G3 H3 g3 => iteT fun b' pins' s' I' => (hi1 _ hm b').run pins' s' _ _ _ I' ⟨G3, (ok3.grow g3).drop, fun J1 G4 H4 g4 w1 => ?_⟩⟩
      have z4 : LcSt B (wipeS ρ (own.map (·.2))) ow G H G1 H1 D (L2.wipe σ (own.map (·.2))) ((xs.take i).flatMap fun x => ((ys x).filter (c1 x)).map (f1 x)) G4 H4 :=
        ⟨(ok2.grow g3).grow g4, (((z.gr.trans g2).trans g3).trans g4), ⟨((z.s.1.trans g2.g).trans g3.g).trans g4.g, ((z.s.2.trans g2.h).trans g3.h).trans g4.h⟩⟩
      have ok4 := (ok3.grow g3).grow g4
      -- the inner loop: both states, the outer's slots and the turn's
      refine ⟨fun j m H' => m = (ys xs[i]).length - j ∧ j ≤ (ys xs[i]).length ∧ ∃ G', LcSt B (wipeS ρ (own.map (·.2))) ow G H G1 H1 D (L2.wipe σ (own.map (·.2))) (((xs.take i).flatMap fun x => ((ys x).filter (c1 x)).map (f1 x)) ++ (((ys xs[i]).take j).filter (c1 xs[i])).map (f1 xs[i])) G' H' ∧
        Ok B (fρ xs[i] (wipeS ρ (own.map (·.2)))) ((D, ol (((xs.take i).flatMap fun x => ((ys x).filter (c1 x)).map (f1 x)) ++ (((ys xs[i]).take j).filter (c1 xs[i])).map (f1 xs[i]))) :: ow) G' σ2 H' ∧ Same G4 G', ⟨_, rfl, Nat.zero_le _, G4, ?_, ?_, Same.refl _⟩, ?_⟩
      · simpa using z4
      · simpa using ok4
      · rintro j m H5 ⟨rfl, hj, G5, z5, ok5, sg5⟩
        by_cases hlj : j < (ys xs[i]).length
        · refine .inr ⟨w1.goes j G5 H5 hlj sg5 z5.ok.gr.s, fun H'' => j + 1 ≤ (ys xs[i]).length ∧ ∃ G', LcSt B (wipeS ρ (own.map (·.2))) ow G H G1 H1 D (L2.wipe σ (own.map (·.2))) (((xs.take i).flatMap fun x => ((ys x).filter (c1 x)).map (f1 x)) ++ (((ys xs[i]).take (j + 1)).filter (c1 xs[i])).map (f1 xs[i])) G' H'' ∧
            Ok B (fρ xs[i] (wipeS ρ (own.map (·.2)))) ((D, ol (((xs.take i).flatMap fun x => ((ys x).filter (c1 x)).map (f1 x)) ++ (((ys xs[i]).take (j + 1)).filter (c1 xs[i])).map (f1 xs[i]))) :: ow) G' σ2 H'' ∧ Same G4 G', fun H'' q => ⟨(ys xs[i]).length - (j + 1), by omega, rfl, q⟩, fun v5 H6 y5 => ?_⟩
          have hy : (ys xs[i])[j]? = some (ys xs[i])[j] := List.getElem?_eq_getElem hlj
          have hmy : (ys xs[i])[j] ∈ ys xs[i] := List.getElem_mem hlj
          obtain ⟨G6, g6, p6⟩ := w1.yields j _ G5 H5 v5 H6 hy sg5 z5.ok.gr.s y5
          refine htg1 _ hm _ hmy B _ _ G6 _ H6 v5 _ ((ok5.grow g6).wipe vs1) p6 fun σ3 ok7 hw3 => ⟨hw3.trans (wipe_wipe _ _), fun b7 => ?_⟩
          refine fun pins7 s7 I7 => (ht1 _ hm _ hmy b7).run pins7 s7 _ _ _ I7 ⟨G6, ok7.drop, fun G7 H7 g7 => ?_⟩
          have e2 : ((((ys xs[i]).take (j + 1)).filter (c1 xs[i])).map (f1 xs[i])) = ((((ys xs[i]).take j).filter (c1 xs[i])).map (f1 xs[i])) ++ (if c1 xs[i] (ys xs[i])[j] = true then [f1 xs[i] (ys xs[i])[j]] else []) := by
            rw [take_succ_get hy, List.filter_append, List.map_append]
            congr 1
            by_cases hcx : c1 xs[i] (ys xs[i])[j] = true
            · rw [if_pos hcx, List.filter_cons, if_pos hcx]; rfl
            · rw [if_neg hcx, List.filter_cons, if_neg hcx]; rfl
          have fin : ∀ G8 H8, Gr (G7, H7) G8 H8 → LcSt B (wipeS ρ (own.map (·.2))) ow G H G1 H1 D (L2.wipe σ (own.map (·.2))) (((xs.take i).flatMap fun x => ((ys x).filter (c1 x)).map (f1 x)) ++ (((ys xs[i]).take j).filter (c1 xs[i])).map (f1 xs[i])) G8 H8 := fun G8 H8 g8 =>
            ⟨((z5.ok.grow g6).grow g7).grow g8, ((z5.gr.trans g6).trans g7).trans g8, ⟨((z5.s.1.trans g6.g).trans g7.g).trans g8.g, ((z5.s.2.trans g6.h).trans g7.h).trans g8.h⟩⟩
          by_cases hcx : c1 xs[i] (ys xs[i])[j] = true
          · rw [hcx]
            refine iteT fun b8 pins8 s8 I8 => (he _ hm _ hmy hcx b8).run pins8 s8 _ _ _ I8 ⟨G7, (ok7.grow g7).drop, fun u G8 H8 g8 p8 => ?_⟩
            have z8 := fin G8 H8 g8
            have ok8 := ((ok5.grow g6).grow g7).grow g8
            obtain ⟨hn, ho, o, e, vs, rfl, t⟩ := z8.ok.own _ List.mem_cons_self
            have e' : H8 D = some (.lst vs) := e
            have hlen : vs.length < sizeLine := by
              have h1 : vs.length + 1 ≤ ((xs.take (i + 1)).flatMap ys).length := by
                have a1 : ((xs.take (i + 1)).flatMap ys).length = ((xs.take i).flatMap ys).length + (ys xs[i]).length := by
                  rw [take_succ_get hx, List.flatMap_append, List.length_append]
                  simp
                have a2 : ((xs.take i).flatMap fun x => ((ys x).filter (c1 x)).map (f1 x)).length ≤ ((xs.take i).flatMap ys).length := by
                  generalize xs.take i = l
                  induction l with
                  | nil => simp
                  | cons q l ih =>
                    rw [List.flatMap_cons, List.flatMap_cons, List.length_append, List.length_append, List.length_map]
                    have := List.length_filter_le (c1 q) (ys q)
                    omega
                have a3 : ((((ys xs[i]).take j).filter (c1 xs[i])).map (f1 xs[i])).length ≤ j := by
                  rw [List.length_map]
                  have h1 := List.length_filter_le (c1 xs[i]) ((ys xs[i]).take j)
                  have h2 : ((ys xs[i]).take j).length ≤ j := List.length_take_le j _
                  omega
                rw [t.length, List.length_append]
                omega
              have h2 : ((xs.take (i + 1)).flatMap ys).length ≤ (xs.flatMap ys).length := by
                have : xs = xs.take (i + 1) ++ xs.drop (i + 1) := (List.take_append_drop _ _).symm
                rw [show (xs.flatMap ys).length = ((xs.take (i + 1) ++ xs.drop (i + 1)).flatMap ys).length by rw [← this], List.flatMap_append, List.length_append]
                omega
              omega
            have sh : Same H (upd H8 D (.lst (vs ++ [u]))) := fun q w' r => by rw [upd_ne (ne_of_none r (g0.h.free hD))]; exact z8.gr.h _ _ r
            refine ⟨vs, e', hlen, hlj, G8, ⟨z8.ok.write ⟨_, rfl, ?_⟩, ⟨z8.gr.g, sh, fun q w' r => ?_, z8.gr.n⟩, ⟨z8.s.1, fun q w' r => by rw [upd_ne (ne_of_none r hD)]; exact z8.s.2 _ _ r⟩⟩, ok8.write ⟨_, rfl, ?_⟩, ((sg5.trans g6.g).trans g7.g).trans g8.g⟩
            · rw [e2, if_pos hcx, ← List.append_assoc]
              exact t.append (.cons p8 .nil)
            · rw [upd_ne (ne_of_none r ho)]
              exact z8.gr.s _ _ r
            · rw [e2, if_pos hcx, ← List.append_assoc]
              exact t.append (.cons p8 .nil)
          · have hcx' : c1 xs[i] (ys xs[i])[j] = false := by simpa using hcx
            rw [hcx']
            refine iteF ⟨hlj, G7, ?_, ?_, (sg5.trans g6.g).trans g7.g⟩
            · rw [e2, if_neg hcx, List.append_nil]
              exact fin G7 H7 (.refl g7.s)
            · rw [e2, if_neg hcx, List.append_nil]
              exact (ok5.grow g6).grow g7
        · have ej : j = (ys xs[i]).length := by omega
          subst ej
          refine .inl ⟨w1.stops G5 H5 sg5 z5.ok.gr.s, hlt, G5, ?_⟩
          rw [e1]
          rw [List.take_length] at z5
          exact z5
    · have e : i = xs.length := by omega
      subst e
      refine .inl ⟨w.stops G' H' z.s z.ok.gr.s, k2 G' H' ?_⟩
      rw [List.take_length] at z
      exact z
theorem ev_lc2 (hc : X.calm = true) (hN : X.N.Nodup) (hi : IT X B ρ ow tg iter xs g) (hok : BlkOk X.N X.env.scope scope own) (hv : ∀ i ∈ vs1, i ∈ own.map (·.2))
    (hg : ∀ b : Bk, PG (blkOf X scope b) tg tgG) (htg : ∀ x ∈ xs, TgOk tgG (g x) (fρ x) (own.map (·.2)))
    (ht : ∀ x ∈ xs, ∀ b : Bk, ETs (blkOf X scope b) B (fρ x (wipeS ρ (own.map (·.2)))) ow ifs true)
    (hi1 : ∀ x ∈ xs, ∀ b : Bk, IF (blkOf X scope b) B (fρ x (wipeS ρ (own.map (·.2)))) ow tg1 iter1 (ys x) (g1 x))
    (hg1 : ∀ b : Bk, PG (blkOf X scope b) tg1 tgG1) (htg1 : ∀ x ∈ xs, ∀ y ∈ ys x, TgOk tgG1 (g1 x y) (fρ1 x y) vs1)
    (ht1 : ∀ x ∈ xs, ∀ y ∈ ys x, ∀ b : Bk, ETs (blkOf X scope b) B (fρ1 x y (wipeS (fρ x (wipeS ρ (own.map (·.2)))) vs1)) ow ifs1 (c1 x y))
    (he : ∀ x ∈ xs, ∀ y ∈ ys x, c1 x y = true → ∀ b : Bk, EV (blkOf X scope b) B (fρ1 x y (wipeS (fρ x (wipeS ρ (own.map (·.2)))) vs1)) ow elt (da (f1 x y)))
    (hl : (xs.flatMap ys).length ≤ sizeLine) (hs : ∀ x, foldedSetIterable iter X.env x = pure x := by intro _; rfl) (hs1 : ∀ env x, foldedSetIterable iter1 env x = pure x := by intro _ _; rfl) :
    EV X B ρ ow (.ListComp elt [⟨tg, iter, ifs, 0⟩, ⟨tg1, iter1, ifs1, 0⟩] scope pos) (da (.list (xs.flatMap fun x => ((ys x).filter (c1 x)).map (f1 x)))) :=
  L2.PE.weak (pe_lc2 (tt := bTs X scope ifs) (te := bE X scope elt) (wi1 := bI X scope tg1 iter1) (tt1 := bTs X scope ifs1) hc hN hi hok hv (fun s H C cl fp => hg (s, H, C, cl, fp)) (fun s H C cl fp => pts_b (s, H, C, cl, fp)) (fun s H C cl fp => pi_b (s, H, C, cl, fp)) (fun s H C cl fp => hg1 (s, H, C, cl, fp)) (fun s H C cl fp => pts_b (s, H, C, cl, fp)) (fun s H C cl fp => pe_b (s, H, C, cl, fp)) hs hs1) fun σ H Q q => lc2_read htg ht hi1 htg1 ht1 he hl q
end
end L2.My
end
section
set_option Elab.async false
set_option linter.all false
set_option maxRecDepth 100000
set_option autoImplicit false
/-! Lay6: blocks, loops, defs and their calls. -/
namespace L2.My
open PySem PySem.Spec PyProof.Rows

section
variable {X : Cx} {B : Hp × Hp} {ρ : List Slot} {ow : Ow} {st : Stmt} {rest : List Stmt} {e : Expr} {φ : Pr} {D : Out} {pos : Pos}
theorem sv_step {t : TS} (h : PS X st t) (k : ∀ E σ H, tSV B ρ ow D E σ H → t { E with nx := wSs X rest E } σ H) : SV X B ρ ow (st :: rest) D := L2.PSs.weak (pss_cons h pss_w) fun E σ H q => k E σ H q
theorem sv_nil (h : D.nx ρ ow) : SV X B ρ ow [] D := L2.PSs.weak pss_nil fun E σ H ⟨⟨G, ok⟩, o⟩ => o.nx ρ ow G σ H h ok
theorem sv_go {ρ' : List Slot} {ow' : Ow} {E : Ends} {σ : St} {H : Hp} {G : Hp} {sts : List Stmt} (h : SV X B ρ' ow' sts D) (ok : Ok B ρ' ow' G σ H) (o : OutOk B D E) : wSs X sts E σ H := L2.PSs.to h ⟨⟨G, ok⟩, o⟩
/-- the state weakened -/
theorem sv_weak {ρ' : List Slot} {ow' : Ow} {sts : List Stmt} (h : SV X B ρ' ow' sts D) (w : ∀ G σ H, Ok B ρ ow G σ H → ∃ G', Ok B ρ' ow' G' σ H) : SV X B ρ ow sts D := L2.PSs.weak h fun E σ H ⟨⟨G, ok⟩, o⟩ => ⟨w G σ H ok, o⟩
theorem sv_freeze {p : Addr} {ds : List PyData} {i : Nat} {sts : List Stmt} (hi : ρ[i]? = some (.ptr p)) (h : SV X B (ρ.set i (.val (da (.list ds)))) ow sts D) : SV X B ρ ((p, ol ds) :: ow) sts D := sv_weak h fun G σ H ok => by
  obtain ⟨o, ⟨vs, rfl, t⟩, ok2, sm⟩ := ok.freeze
  have e1 := ok.ptr hi
  refine ⟨_, ok2.gr, fun j s e => ?_, by rw [List.length_set]; exact ok2.len, ok2.own, ok2.ap⟩
  by_cases hj : j = i
  · subst hj
    have hl : j < ρ.length := (List.getElem?_eq_some_iff.mp hi).1
    rw [List.getElem?_set_self hl] at e
    cases e
    exact ⟨.ref p, e1, .lst upd_same (t.mono sm)⟩
  · rw [List.getElem?_set_ne (Ne.symm hj)] at e
    exact ok2.sl j s e
theorem sv_freezeD {p : Addr} {ds : List (Key × PyData)} {i : Nat} {sts : List Stmt} (hi : ρ[i]? = some (.ptr p)) (h : SV X B (ρ.set i (.val (da (dk ds)))) ow sts D) : SV X B ρ ((p, od ds) :: ow) sts D := sv_weak h fun G σ H ok => by
  obtain ⟨o, ⟨vs, rfl, t⟩, ok2, sm⟩ := ok.freeze
  have e1 := ok.ptr hi
  refine ⟨_, ok2.gr, fun j s e => ?_, by rw [List.length_set]; exact ok2.len, ok2.own, ok2.ap⟩
  by_cases hj : j = i
  · subst hj
    have hl : j < ρ.length := (List.getElem?_eq_some_iff.mp hi).1
    rw [List.getElem?_set_self hl] at e
    cases e
    exact ⟨.ref p, e1, .of_dict upd_same (t.mono sm)⟩
  · rw [List.getElem?_set_ne (Ne.symm hj)] at e
    exact ok2.sl j s e
theorem sv_swap {a b : Addr × PrO} {sts : List Stmt} (h : SV X B ρ (b :: a :: ow) sts D) : SV X B ρ (a :: b :: ow) sts D := sv_weak h fun G σ H ok => ⟨G, ok.perm (fun q hq => by
    rcases List.mem_cons.mp hq with e | hq
    · rw [e]; simp
    · rcases List.mem_cons.mp hq with e | hq
      · rw [e]; simp
      · exact List.mem_cons_of_mem _ (List.mem_cons_of_mem _ hq)) (by
    have nd := ok.ap
    simp only [List.map_cons, List.nodup_cons, List.mem_cons, not_or] at nd ⊢
    exact ⟨⟨fun z => nd.1.1 z.symm, nd.2.1⟩, nd.1.2, nd.2.2⟩)⟩
/-- slots forgotten -/
theorem sv_forget {ρ' : List Slot} {sts : List Stmt} (hl : ρ'.length = ρ.length) (hw : ∀ (i : Nat) (s : Slot), ρ'[i]? = some s → s = .no ∨ ρ[i]? = some s) (h : SV X B ρ' ow sts D) : SV X B ρ ow sts D := sv_weak h fun G σ H ok => ⟨G, ok.weak hl hw⟩

variable {i : Nat} {nm : Str} {p' : Pos}
theorem sv_set (hN : X.N.Nodup) (he : EV X B ρ ow e φ) (hr : SV X B (ρ.set i (.val φ)) ow rest D) (hi : X.N[i]? = some nm := by rfl) (hx : Loc X.env.scope nm := by first | exact Or.inl rfl | exact Or.inr rfl)
    (hs : swapsWith e (some (.Name nm p')) pos.line X.env = pure false := by rfl) (hf : X.fn nm = true ∨ X.env.scope.names.lookup nm = some .local := by first | exact .inl rfl | exact .inr rfl) : SV X B ρ ow (.Assign [.Name nm p'] e pos :: rest) D :=
  sv_step (ps_set hN hi hx he hs hf) fun E σ H ⟨⟨G, ok⟩, o⟩ => ⟨G, ok, fun v G' H' g p => sv_go hr ((ok.grow g).set (s := .val φ) ⟨v, rfl, p⟩) o⟩
/-- x = [..], owned -/
theorem sv_ownL {es : List Expr} {ds : List PyData} {p2 : Pos} (hN : X.N.Nodup) (he : ED X B ρ ow es ds) (hl : ds.length ≤ sizeLine) (hr : ∀ p, SV X B (ρ.set i (.ptr p)) ((p, ol ds) :: ow) rest D) (hi : X.N[i]? = some nm := by rfl) (hx : Loc X.env.scope nm := by first | exact Or.inl rfl | exact Or.inr rfl)
    (hs : swapsWith (.List es p2) (some (.Name nm p')) pos.line X.env = pure false := by rfl) (hf : X.fn nm = true ∨ X.env.scope.names.lookup nm = some .local := by first | exact .inl rfl | exact .inr rfl) : SV X B ρ ow (.Assign [.Name nm p'] (.List es p2) pos :: rest) D :=
  sv_step (ps_set hN hi hx (pe_lst he) hs hf) fun E σ H ⟨⟨G, ok⟩, o⟩ => ⟨G, ok, fun vs G' H' g t => ⟨by rw [t.length]; exact hl, fun p hp =>
    sv_go (hr p) (((ok.grow g).mk_own (ψ := ol ds) hp ⟨vs, rfl, t⟩).set (s := .ptr p) rfl) o⟩⟩
/-- x = {}, owned -/
theorem sv_ownD {p2 : Pos} (hN : X.N.Nodup) (hr : ∀ p, SV X B (ρ.set i (.ptr p)) ((p, od []) :: ow) rest D) (hi : X.N[i]? = some nm := by rfl) (hx : Loc X.env.scope nm := by first | exact Or.inl rfl | exact Or.inr rfl)
    (hs : swapsWith (.Dict [] [] p2) (some (.Name nm p')) pos.line X.env = pure false := by rfl) (hf : X.fn nm = true ∨ X.env.scope.names.lookup nm = some .local := by first | exact .inl rfl | exact .inr rfl) : SV X B ρ ow (.Assign [.Name nm p'] (.Dict [] [] p2) pos :: rest) D :=
  sv_step (ps_set hN hi hx pe_dnewK hs hf) fun E σ H ⟨⟨G, ok⟩, o⟩ p hp => sv_go (hr p) ((ok.mk_own (ψ := od []) hp ⟨[], rfl, .nil⟩).set (s := .ptr p) rfl) o
theorem sv_ret (he : EV X B ρ ow e φ) (hq : ∀ H v, φ.p H v → D.rt.p H v) (ho : ∀ v, D.ro v ow := by exact fun _ => True.intro) : SV X B ρ ow (.Return (some e) pos :: rest) D :=
  sv_step (ps_ret he) fun E σ H ⟨⟨G, ok⟩, o⟩ => ⟨G, ok, fun v G' H' g p => o.rt v ow G' H' (ho v) (ok.grow g).own (ok.gr.trans g) (hq _ _ p)⟩
theorem sv_retd {d d' : PyData} {nx bk ct : List Slot → Ow → Prop} {ro : V → Ow → Prop} (he : EV X B ρ ow e (da d)) (hq : d = d') (ho : ∀ v, ro v ow := by exact fun _ => True.intro) : SV X B ρ ow (.Return (some e) pos :: rest) ⟨nx, da d', bk, ct, ro⟩ := sv_ret he (fun H v p => hq ▸ p) ho
/-- return [..], handed back owned -/
theorem sv_retL {es : List Expr} {ds : List PyData} {p2 : Pos} (he : ED X B ρ ow es ds) (hl : ds.length ≤ sizeLine) (hq : ∀ p G, D.rt.p G (.ref p)) (ho : ∀ p, D.ro (.ref p) ((p, ol ds) :: ow)) : SV X B ρ ow (.Return (some (.List es p2)) pos :: rest) D :=
  sv_step (ps_ret (pe_lst he)) fun E σ H ⟨⟨G, ok⟩, o⟩ => ⟨G, ok, fun vs G' H' g t => ⟨by rw [t.length]; exact hl, fun p hp => by
    have ok2 := (ok.grow g).mk_own (ψ := ol ds) hp ⟨vs, rfl, t⟩
    exact o.rt (.ref p) _ G' _ (ho p) ok2.own ok2.gr (hq p G')⟩⟩
theorem sv_expr (he : EV X B ρ ow e φ) (hr : SV X B ρ ow rest D) (hs : swapsWith e none pos.line X.env = pure false := by rfl) : SV X B ρ ow (.Expr e pos :: rest) D :=
  sv_step (ps_expr he hs) fun E σ H ⟨⟨G, ok⟩, o⟩ => ⟨G, ok, fun v G' H' g p => sv_go hr (ok.grow g) o⟩
theorem sv_if {c : Expr} {a b : List Stmt} {x : Bool} (hc : ET X B ρ ow c x) (ha : x = true → SV X B ρ ow a { D with nx := fun ρ' ow' => SV X B ρ' ow' rest D }) (hb : x = false → SV X B ρ ow b { D with nx := fun ρ' ow' => SV X B ρ' ow' rest D }) :
    SV X B ρ ow (.If c a b pos :: rest) D := by
  have oo : ∀ E, OutOk B D E → OutOk B { D with nx := fun ρ' ow' => SV X B ρ' ow' rest D } { E with nx := wSs X rest E } := fun E o => ⟨fun ρ' ow' G σ H q ok => sv_go q ok o, o.rt, o.bk, o.ct⟩
  cases x with
  | true => exact sv_step (ps_if (u := fun _ _ _ => False) hc (ha rfl) ⟨fun _ _ _ _ _ _ z => z.elim⟩) fun E σ H ⟨⟨G, ok⟩, o⟩ => ⟨G, ok, fun G' H' g => iteT ⟨⟨G', ok.grow g⟩, oo E o⟩⟩
  | false => exact sv_step (ps_if (t := fun _ _ _ => False) hc ⟨fun _ _ _ _ _ _ z => z.elim⟩ (hb rfl)) fun E σ H ⟨⟨G, ok⟩, o⟩ => ⟨G, ok, fun G' H' g => iteF ⟨⟨G', ok.grow g⟩, oo E o⟩⟩
/-- if c: .. (leaves), the rest -/
theorem sv_guard {c : Expr} {a : List Stmt} {x : Bool} (hc : ET X B ρ ow c x) (ha : x = true → SV X B ρ ow a { D with nx := fun ρ' ow' => SV X B ρ' ow' rest D }) (hb : x = false → SV X B ρ ow rest D) : SV X B ρ ow (.If c a [] pos :: rest) D :=
  sv_if hc ha fun h => sv_nil (hb h)
theorem sv_cont (h : D.ct ρ ow) : SV X B ρ ow (.Continue pos :: rest) D := sv_step ps_continue fun E σ H ⟨⟨G, ok⟩, o⟩ => o.ct ρ ow G σ H h ok
theorem sv_pass (h : SV X B ρ ow rest D) : SV X B ρ ow (.Pass pos :: rest) D := sv_step ps_pass fun E σ H ⟨⟨G, ok⟩, o⟩ => sv_go h ok o
/-- x.append(e), x owned -/
theorem sv_append {p : Addr} {ds : List PyData} {d : PyData} {apos cpos : Pos} (hi : ρ[i]? = some (.ptr p)) (he : EV X B ρ ((p, ol ds) :: ow) e (da d)) (hl : ds.length < sizeLine) (hr : SV X B ρ ((p, ol (ds ++ [d])) :: ow) rest D) (hN : X.N[i]? = some nm := by rfl)
    (hv : Vis X.env.scope nm := by first | exact Or.inl rfl | exact Or.inr (Or.inl rfl) | exact Or.inr (Or.inr rfl)) (hd : (nm == ("__debug__" : Str)) = false := by decide) (hcd : (nm == ("__classdict__" : Str)) = false := by decide)
    (hbase : attributeBase (.Name nm p') "append" X.env (eval (.Name nm p') X.env) = eval (.Name nm p') X.env := by rfl)
    (hfew : ((backTo cpos (starEach [e] X.env)).all (fun x => !x.1) && (backToKw cpos (keywordEach [] X.env)).all (fun x => x.1.isSome)
      && decide ([e].length + ([] : List Keyword).length + (if ([] : List Keyword).isEmpty then 0 else 1) < 30)) = true := by rfl)
    (hline : (apos.endLine == cpos.line) = true := by rfl) (hs1 : starEach [e] X.env = (false, eval e X.env) :: starEach [] X.env := by rfl) (hplain : (backTo cpos (starEach [] X.env)).any (·.1) = false := by rfl)
    (hs : swapsWith (.Call (.Attribute (.Name nm p') "append" apos) [e] [] cpos) none pos.line X.env = pure false := by rfl) : SV X B ρ ((p, ol ds) :: ow) (.Expr (.Call (.Attribute (.Name nm p') "append" apos) [e] [] cpos) pos :: rest) D :=
  sv_step (ps_expr (pe_bm PySem.F.plainAttrs_list PySem.F.slot_list_append PySem.F.type_list_append mt_append (pe_var hN hv hd hcd) (pa_cons he pa_nil hs1) hbase hfew hline hs1 hplain) hs) fun E σ H ⟨⟨G, ok⟩, o⟩ => by
    obtain ⟨_, _, ob, e1, vs, rfl, t⟩ := ok.own _ List.mem_cons_self
    have e1' : H p = some (.lst vs) := e1
    refine ⟨.ref p, ok.ptr hi, .inl ⟨rfl, _, SqL.of e1'⟩, G, ok, fun v G' H' g q => ⟨p, vs, v, rfl, rfl, g.h _ _ e1', by rw [t.length]; exact hl, ?_⟩⟩
    exact sv_go hr ((ok.grow g).write ⟨_, rfl, (t.mono g.g).append (.cons q .nil)⟩) o
/-- x.extend(e), x owned -/
theorem sv_extend {p : Addr} {ds ds2 : List PyData} {apos cpos : Pos} (hi : ρ[i]? = some (.ptr p)) (he : EV X B ρ ((p, ol ds) :: ow) e (da (.list ds2))) (hl : ds.length + ds2.length ≤ sizeLine) (hr : SV X B ρ ((p, ol (ds ++ ds2)) :: ow) rest D) (hN : X.N[i]? = some nm := by rfl)
    (hv : Vis X.env.scope nm := by first | exact Or.inl rfl | exact Or.inr (Or.inl rfl) | exact Or.inr (Or.inr rfl)) (hd : (nm == ("__debug__" : Str)) = false := by decide) (hcd : (nm == ("__classdict__" : Str)) = false := by decide)
    (hbase : attributeBase (.Name nm p') "extend" X.env (eval (.Name nm p') X.env) = eval (.Name nm p') X.env := by rfl)
    (hfew : ((backTo cpos (starEach [e] X.env)).all (fun x => !x.1) && (backToKw cpos (keywordEach [] X.env)).all (fun x => x.1.isSome)
      && decide ([e].length + ([] : List Keyword).length + (if ([] : List Keyword).isEmpty then 0 else 1) < 30)) = true := by rfl)
    (hline : (apos.endLine == cpos.line) = true := by rfl) (hs1 : starEach [e] X.env = (false, eval e X.env) :: starEach [] X.env := by rfl) (hplain : (backTo cpos (starEach [] X.env)).any (·.1) = false := by rfl)
    (hs : swapsWith (.Call (.Attribute (.Name nm p') "extend" apos) [e] [] cpos) none pos.line X.env = pure false := by rfl) : SV X B ρ ((p, ol ds) :: ow) (.Expr (.Call (.Attribute (.Name nm p') "extend" apos) [e] [] cpos) pos :: rest) D :=
  sv_step (ps_expr (pe_bm PySem.F.plainAttrs_list PySem.F.slot_list_extend PySem.F.type_list_extend mt_extend (pe_var hN hv hd hcd) (pa_cons he pa_nil hs1) hbase hfew hline hs1 hplain) hs) fun E σ H ⟨⟨G, ok⟩, o⟩ => by
    obtain ⟨_, _, ob, e1, vs, rfl, t⟩ := ok.own _ List.mem_cons_self
    have e1' : H p = some (.lst vs) := e1
    refine ⟨.ref p, ok.ptr hi, .inl ⟨rfl, _, SqL.of e1'⟩, G, ok, fun v G' H' g q => ?_⟩
    obtain ⟨b, zs, rfl, e2, t2⟩ : ∃ b zs, v = .ref b ∧ G' b = some (.lst zs) ∧ Das G' zs ds2 := by
      cases (show Da G' v (.list ds2) from q) with
      | lst e t => exact ⟨_, _, rfl, e, t⟩
    refine ⟨p, b, vs, zs, rfl, rfl, g.h _ _ e1', g.s _ _ e2, by rw [t.length, t2.length]; exact hl, ?_⟩
    exact sv_go hr ((ok.grow g).write ⟨_, rfl, (t.mono g.g).append t2⟩) o
/-- x[i] = e, x an owned list -/
theorem sv_setIx {p : Addr} {ds : List PyData} {d : PyData} {k : Int} {j : Nat} {ix : Expr} {sp : Pos} (hi : ρ[i]? = some (.ptr p)) (he : EV X B ρ ((p, ol ds) :: ow) e (da d)) (hx : EV X B ρ ((p, ol ds) :: ow) ix (da (.int k))) (hj : ixN ds.length k = some j) (hr : SV X B ρ ((p, ol (ds.set j d)) :: ow) rest D) (hN : X.N[i]? = some nm := by rfl)
    (hv : Vis X.env.scope nm := by first | exact Or.inl rfl | exact Or.inr (Or.inl rfl) | exact Or.inr (Or.inr rfl)) (hd : (nm == ("__debug__" : Str)) = false := by decide) (hcd : (nm == ("__classdict__" : Str)) = false := by decide)
    (ha : ∀ v, assign (.Subscript (.Name nm p') ix sp) X.env v = (do
      let ov ← holding [v] (eval (.Name nm p') X.env)
      let iv ← holding [v, ov] (eval ix X.env)
      standAt sp
      holding [v, ov, iv] (setItem ov iv v)
      release [v, ov, iv] []) := by intro _; rfl)
    (hs : swapsWithSole [.Subscript (.Name nm p') ix sp] e pos.line X.env = pure false := by rfl) (hw : swappedStores [.Subscript (.Name nm p') ix sp] e X.env = pure none := by rfl)
    (h1 : (assignEach [.Subscript (.Name nm p') ix sp] X.env).map (·.2) = [assign (.Subscript (.Name nm p') ix sp) X.env] := by rfl) : SV X B ρ ((p, ol ds) :: ow) (.Assign [.Subscript (.Name nm p') ix sp] e pos :: rest) D :=
  sv_step (ps_asg he (pg_sub (pe_var hN hv hd hcd) hx set_list ha) hs hw h1) fun E σ H ⟨⟨G, ok⟩, o⟩ => ⟨G, ok, fun v G' H' g q => by
    have ok' := ok.grow g
    refine ⟨.ref p, ok'.ptr hi, G', ok', fun u G2 H2 g2 q2 => ?_⟩
    cases (show Da G2 u (.int k) from q2)
    obtain ⟨_, _, ob, e1, vs, rfl, t⟩ := (ok'.grow g2).own _ List.mem_cons_self
    have e1' : H2 p = some (.lst vs) := e1
    refine ⟨p, vs, k, j, rfl, rfl, e1', by rw [t.length]; exact hj, ?_⟩
    exact sv_go hr ((ok'.grow g2).write ⟨_, rfl, t.set (Da.mono g2.g q) j⟩) o⟩
/-- x[k] = e, x an owned dict -/
theorem any_keys {κ : Type} [DecidableEq κ] {V' : Type} (k : κ) (l : List (κ × V')) : (l.any fun kv => decide (kv.1 = k)) = (l.map (·.1)).any fun q => decide (q = k) := by
  induction l with
  | nil => rfl
  | cons a l ih => simp only [List.any_cons, List.map_cons, ih]
theorem Dae.keys {H : Hp} : ∀ {kvs : List (Key × V)} {l : List (Key × PyData)}, Dae H kvs l → kvs.map (·.1) = l.map (·.1)
  | _, _, .nil => rfl
  | _, _, .cons _ t => by rw [List.map_cons, List.map_cons, Dae.keys t]
theorem Dae.mapPut {H : Hp} {v : V} {d : PyData} (k : Key) (a : Da H v d) : ∀ {kvs : List (Key × V)} {l : List (Key × PyData)}, Dae H kvs l → Dae H (kvs.map fun kv => if kv.1 = k then (kv.1, v) else kv) (l.map fun kv => if kv.1 = k then (kv.1, d) else kv)
  | _, _, .nil => .nil
  | _, _, .cons (k := q) b t => by
    have ih := Dae.mapPut k a t
    by_cases h : q = k
    · simp only [List.map_cons, h, if_true]
      exact .cons a ih
    · simp only [List.map_cons, if_neg h]
      exact .cons b ih
theorem Dae.put {H : Hp} {v : V} {d : PyData} (k : Key) (a : Da H v d) {kvs : List (Key × V)} {l : List (Key × PyData)} (t : Dae H kvs l) : Dae H (putK kvs k v) (ptD l k d) := by
  unfold putK ptD
  rw [any_keys k kvs, any_keys k l, t.keys]
  split
  · exact Dae.mapPut k a t
  · exact t.append (.cons a .nil)
theorem sv_setKey {p : Addr} {ds : List (Key × PyData)} {d : PyData} {k : Key} {ix : Expr} {sp : Pos} (hu : X.A.units + 1 < cLine) (hi : ρ[i]? = some (.ptr p)) (he : EV X B ρ ((p, od ds) :: ow) e (da d)) (hx : EV X B ρ ((p, od ds) :: ow) ix (da (kd k))) (hl : ds.length < sizeLine) (hr : SV X B ρ ((p, od (ptD ds k d)) :: ow) rest D) (hN : X.N[i]? = some nm := by rfl)
    (hv : Vis X.env.scope nm := by first | exact Or.inl rfl | exact Or.inr (Or.inl rfl) | exact Or.inr (Or.inr rfl)) (hd : (nm == ("__debug__" : Str)) = false := by decide) (hcd : (nm == ("__classdict__" : Str)) = false := by decide)
    (hs : swapsWith e (some (.Subscript (.Name nm p') ix sp)) pos.line X.env = pure false := by rfl) : SV X B ρ ((p, od ds) :: ow) (.Assign [.Subscript (.Name nm p') ix sp] e pos :: rest) D :=
  sv_step (ps_dput hu (pe_var hN hv hd hcd) hx he hs) fun E σ H ⟨⟨G, ok⟩, o⟩ => ⟨G, ok, fun v G' H' g q => by
    have ok' := ok.grow g
    refine ⟨.ref p, ok'.ptr hi, G', ok', fun u G2 H2 g2 q2 => ?_⟩
    have ek : u = kV k := by
      have p2' : Da G2 u (kd k) := q2
      cases k <;> (cases p2'; rfl)
    obtain ⟨_, _, ob, e1, kvs, rfl, t⟩ := (ok'.grow g2).own _ List.mem_cons_self
    have e1' : H2 p = some (.dK kvs) := e1
    refine ⟨p, _, rfl, by rw [ek]; exact DPut.k e1' (by rw [t.length]; exact hl), ?_⟩
    exact sv_go hr ((ok'.grow g2).write ⟨_, rfl, Dae.put k (Da.mono g2.g q) t⟩) o⟩
/-- a, b = x, y: two local names -/
theorem sv_par {j : Nat} {x y : Str} {a b : Expr} {d1 d2 : PyData} {px py pt : Pos} {kt k2 : Nat} {pt2 : Pos} (hc : X.calm = true) (hN : X.N.Nodup) (ha : ED X B ρ ow [a, b] [d1, d2]) (hr : SV X B ((ρ.set i (.val (da d1))).set j (.val (da d2))) ow rest D)
    (hi : X.N[i]? = some x := by rfl) (hj : X.N[j]? = some y := by rfl) (hij : i ≠ j := by decide)
    (hx : X.env.scope.names.lookup x = some .local := by rfl) (hy : X.env.scope.names.lookup y = some .local := by rfl)
    (hw : swappedStores [.Tuple [.Name x px, .Name y py] kt pt] (.Tuple [a, b] k2 pt2) X.env = pure (some [x, y]) := by rfl)
    (hs : swapsWithSole [.Tuple [.Name x px, .Name y py] kt pt] (.Tuple [a, b] k2 pt2) pos.line X.env = pure false := by rfl) : SV X B ρ ow (.Assign [.Tuple [.Name x px, .Name y py] kt pt] (.Tuple [a, b] k2 pt2) pos :: rest) D :=
  sv_step (ps_par hc hN hi hj hij hx hy ha hw hs) fun E σ H ⟨⟨G, ok⟩, o⟩ => ⟨G, ok, fun vs G' H' g t => by
    cases t with
    | cons q1 t =>
      cases t with
      | cons q2 t =>
        cases t
        exact ⟨_, _, rfl, sv_go hr (((ok.grow g).set (s := .val (da d1)) ⟨_, rfl, q1⟩).set (s := .val (da d2)) ⟨_, rfl, q2⟩) o⟩⟩
/-- target = e, by the target's reading -/
theorem sv_asg {tg : Expr} {g : TG} {f : List Slot → List Slot} {vs : List Nat} (he : EV X B ρ ow e φ) (hg : PG X tg g) (ht : TgOk g φ f vs) (hr : SV X B (f ρ) ow rest D)
    (hs : swapsWithSole [tg] e pos.line X.env = pure false := by rfl) (hw : swappedStores [tg] e X.env = pure none := by rfl)
    (h1 : (assignEach [tg] X.env).map (·.2) = [assign tg X.env] := by rfl) : SV X B ρ ow (.Assign [tg] e pos :: rest) D :=
  sv_step (ps_asg he hg hs hw h1) fun E σ H ⟨⟨G, ok⟩, o⟩ => ⟨G, ok, fun v G' H' gr p => ht B ρ ow G' σ H' v _ (ok.grow gr) p fun σ' ok' _ => sv_go hr ok' o⟩
/-- the base moved on: what stands now stays -/
theorem Gr.base {G3 H3 G H : Hp} (b : Gr (G3, B.2) G H) (a : Gr B G3 H3) : Gr B G H := ⟨a.g.trans b.g, b.h, b.s, fun p h1 h2 => b.n p (a.n p h1 h2) h2⟩
theorem Ok.base {G3 H3 G H : Hp} {σ : St} (ok : Ok (G3, B.2) ρ ow G σ H) (a : Gr B G3 H3) : Ok B ρ ow G σ H := ⟨ok.gr.base a, ok.sl, ok.len, fun q hq => ⟨(ok.own q hq).new, (ok.own q hq).out, (ok.own q hq).at_⟩, ok.ap⟩
theorem Ok.rebase {G H : Hp} {σ : St} (ok : Ok B ρ ow G σ H) : Ok (G, B.2) ρ ow G σ H := ⟨⟨Same.refl _, ok.gr.h, ok.gr.s, fun _ h _ => h⟩, ok.sl, ok.len, fun q hq => ⟨(ok.own q hq).new, (ok.own q hq).out, (ok.own q hq).at_⟩, ok.ap⟩
/-- for target in iter: body -/
theorem sv_for {α : Type} {xs : List α} {g : α → Pr} {tg iter : Expr} {body : List Stmt} {tgG : TG} {fρ : α → List Slot → List Slot} {vs : List Nat} (Iv : Nat → List Slot → Ow → Prop) (hp : PassesOwn (model X.prog X.w) X.A X.env X.xe) (hc : X.calm = true) (hi : IF X B ρ ow tg iter xs g) (hg : PG X tg tgG)
    (htg : ∀ x ∈ xs, TgOk tgG (g x) (fρ x) vs) (h0 : Iv 0 ρ ow)
    (hb : ∀ i x ρ' ow' B', xs[i]? = some x → Iv i ρ' ow' → SV X B' (fρ x ρ') ow' body { nx := Iv (i + 1), ct := Iv (i + 1), bk := fun ρ' ow' => SV X B ρ' ow' rest D, rt := D.rt, ro := D.ro })
    (hd : ∀ ρ' ow', Iv xs.length ρ' ow' → SV X B ρ' ow' rest D) (hs : ∀ x, foldedSetIterable iter X.env x = pure x := by intro _; rfl) : SV X B ρ ow (.For tg iter body [] pos :: rest) D := by
  refine sv_step (ps_for (tb := wSs X body) hp hc hi hg pss_w hs) fun E σ H ⟨⟨G, ok⟩, o⟩ => ⟨G, ok, fun J G1 H1 g1 w => ?_⟩
  refine ⟨fun i m σ H => m = xs.length - i ∧ i ≤ xs.length ∧ ∃ ρ' ow' G', Iv i ρ' ow' ∧ Ok B ρ' ow' G' σ H ∧ Same G1 G', ⟨xs.length, rfl, Nat.zero_le _, ρ, ow, G1, h0, ok.grow g1, Same.refl _⟩, ?_⟩
  rintro i m σ2 H2 ⟨rfl, hle, ρ', ow', G2, iv, ok2, sg⟩
  by_cases hlt : i < xs.length
  · have hx : xs[i]? = some xs[i] := List.getElem?_eq_getElem hlt
    refine .inr ⟨w.goes i G2 H2 hlt sg ok2.gr.s, fun σ' H' => i + 1 ≤ xs.length ∧ ∃ ρ' ow' G', Iv (i + 1) ρ' ow' ∧ Ok B ρ' ow' G' σ' H' ∧ Same G1 G', fun σ' H' q => ⟨xs.length - (i + 1), by omega, rfl, q⟩, fun v H3 y => ?_⟩
    obtain ⟨G3, g3, p3⟩ := w.yields i _ G2 H2 v H3 hx sg ok2.gr.s y
    have ok3 := ok2.grow g3
    refine htg _ (List.getElem_mem hlt) B ρ' ow' G3 σ2 H3 v _ ok3 p3 fun σ3 ok4 _ => ?_
    refine L2.PSs.to (hb i _ ρ' ow' (G3, B.2) hx iv) ⟨⟨G3, ok4.rebase⟩, ⟨fun ρ5 ow5 G5 σ5 H5 q ok5 => ⟨hlt, ρ5, ow5, G5, q, ok5.base ok3.gr, (sg.trans g3.g).trans ok5.gr.g⟩, fun u ow5 G5 H5 ro oo gr q => o.rt u ow5 G5 H5 ro (fun r hr => ⟨(oo r hr).new, (oo r hr).out, (oo r hr).at_⟩) (gr.base ok3.gr) q, fun ρ5 ow5 G5 σ5 H5 q ok5 => sv_go q (ok5.base ok3.gr) o, fun ρ5 ow5 G5 σ5 H5 q ok5 => ⟨hlt, ρ5, ow5, G5, q, ok5.base ok3.gr, (sg.trans g3.g).trans ok5.gr.g⟩⟩⟩
  · have e : i = xs.length := by omega
    subst e
    exact .inl ⟨w.stops G2 H2 sg ok2.gr.s, sv_go (hd _ _ iv) ok2 o⟩
end
end L2.My
end
section
set_option Elab.async false
set_option linter.all false
set_option maxRecDepth 100000
set_option autoImplicit false
/-! Lay7: defs, promises, calls, fields, methods. -/
namespace L2.My
open PySem PySem.Spec PyProof.Rows

/-! ### promises -/
def spF (as : List Pr) (φ : Pr) : Sp := fun vs H Q _ => ∃ G, Same G H ∧ PrAll G as vs ∧ ∀ v G' H', Gr (G, H) G' H' → φ.p G' v → Q v H'
def spA {α : Type} (pre : α → Prop) (as : α → List Pr) (φ : α → Pr) : Sp := fun vs H Q E => ∃ x, pre x ∧ spF (as x) (φ x) vs H Q E
theorem PrAll.length {G : Hp} : ∀ {as : List Pr} {vs : List V}, PrAll G as vs → as.length = vs.length
  | _, _, .nil => rfl
  | _, _, .cons _ t => congrArg Nat.succ (PrAll.length t)

def startS (N : List Str) (as : List Pr) : List Slot := as.map .val ++ List.replicate (N.length - as.length) .no
theorem PrAll.get {G : Hp} : ∀ {as : List Pr} {vs : List V} {i : Nat} {φ : Pr}, PrAll G as vs → as[i]? = some φ → ∃ v, vs[i]? = some v ∧ φ.p G v
  | _, _, i, _, .nil, e => by simp at e
  | _, _, 0, d, .cons a t, e => by
    simp at e
    subst e
    exact ⟨_, rfl, a⟩
  | _, _, i + 1, d, .cons a t, e => by
    obtain ⟨v, h1, h2⟩ := PrAll.get (i := i) (φ := d) t (by simpa using e)
    exact ⟨v, by simpa using h1, h2⟩
theorem ok_start {N : List Str} {as : List Pr} {vs : List V} {G H : Hp} (s : Same G H) (t : PrAll G as vs) (hl : as.length ≤ N.length) : Ok (G, H) (startS N as) [] G (start N vs) H := by
  have el := t.length
  refine ⟨.refl s, fun i sl e => ?_, ?_, (fun q hq => by cases hq), List.nodup_nil⟩
  · unfold startS at e
    unfold start
    by_cases hi : i < as.length
    · rw [List.getElem?_append_left (by rw [List.length_map]; exact hi), List.getElem?_map] at e
      rw [List.getElem?_append_left (by rw [List.length_map]; omega), List.getElem?_map]
      cases ha : as[i]? with
      | none => rw [ha] at e; cases e
      | some φ =>
        rw [ha] at e
        cases e
        obtain ⟨v, h1, h2⟩ := t.get ha
        rw [h1]
        exact ⟨v, rfl, h2⟩
    · rw [List.getElem?_append_right (by rw [List.length_map]; omega), List.getElem?_replicate] at e
      split at e
      · cases e; exact True.intro
      · cases e
  · unfold startS start
    simp only [List.length_append, List.length_map, List.length_replicate]
    omega

section
variable {P : Program} {w : World} {K : PySem.W.Frag} {mg : Str → Option Value} {base : Heap}
/-- a def of the text as it stands behind the top -/
structure FunAt (K : PySem.W.Frag) (mg : Str → Option Value) (nm : Str) (st : Stmt) : Prop where
  ex : ∃ f fd, FunD K nm nm (defArgs st) (defBody st) (defScope st) [] [] f fd ∧ mg nm = some (.ref f)
/-- a def that keeps its promise, to be called by its name -/
structure Def (P : Program) (w : World) (K : PySem.W.Frag) (mg : Str → Option Value) (base : Heap) (nm : Str) (k : Nat) (ps : List Str) (sp : Sp) : Prop where
  ex : ∃ f fd, FnOk P w K mg base CX0 k f fd ps sp ∧ mg nm = some (.ref f) ∧ PySem.W.keepIn K (.ref f) = true ∧ Binds K fd ps []
abbrev cxF (P : Program) (w : World) (K : PySem.W.Frag) (mg : Str → Option Value) (base : Heap) (N : List Str) (qual : Str) (st : Stmt) (f : Addr) (cdv : Value) (A : Around) (outer : List Env) (s : Shared) (H : Hp) (E : XK) : Cx :=
  (cxOf CX0 P w K mg base N qual (defScope st) f cdv A outer s H E).nox
/-- the body of a def keeps the promise -/
def Body (P : Program) (w : World) (K : PySem.W.Frag) (mg : Str → Option Value) (base : Heap) (N : List Str) (qual : Str) (st : Stmt) (k : Nat) (as : List Pr) (φ : Pr) : Prop :=
  ∀ (f : Addr) (cdv : Value) (A : Around) (outer : List Env) (s : Shared) (H0 H : Hp) (E : XK) (B : Hp × Hp), Room k (cxF P w K mg base N qual st f cdv A outer s H E).A →
    SV (cxF P w K mg base N qual st f cdv A outer s H E) B (startS N as) [] (defBody st) { nx := fun _ _ => ∀ H, φ.p H .non, rt := φ }
theorem fn_body {x qual : Str} {st : Stmt} {f : Addr} {fd : FuncData} {N ps : List Str} {k : Nat} {α : Type} {pre : α → Prop} {as : α → List Pr} {φ : α → Pr} {dvs : List V} {kws : List (Str × V)} (F : FunD K x qual (defArgs st) (defBody st) (defScope st) dvs kws f fd) (S : FnScope N ps (defScope st))
    (hl : ∀ x, (as x).length = ps.length) (hN : ps.length ≤ N.length) (hb : ∀ x, pre x → Body P w K mg base N qual st k (as x) (φ x)) : FnOk P w K mg base CX0 (k + 1) f fd ps (spA pre as φ) := by
  refine F.ok S (fun vs H Q E ⟨x, _, G, _, t, _⟩ => t.length.symm.trans (hl x)) fun cdv A outer s H vs Q E hr ⟨x, hp, G, sm, t, q⟩ => ?_
  refine ⟨_, L2.PSs.nox (hb x hp f cdv A outer s H H E (G, H) hr), ⟨G, ok_start sm t (by rw [hl x]; exact hN)⟩, ⟨fun ρ ow G' σ H' z ok => q .non G' H' ok.gr (z G'), fun v ow G' H' _ _ g p => q v G' H' g p, fun ρ ow G' σ H' z ok => z.elim, fun ρ ow G' σ H' z ok => z.elim⟩⟩
theorem def_mk {nm : Str} {st : Stmt} {N ps : List Str} {k : Nat} {α : Type} {pre : α → Prop} {as : α → List Pr} {φ : α → Pr} (T : FunAt K mg nm st) (S : FnScope N ps (defScope st))
    (hbind : ∀ (kV doc pm : Value) (an : Option Addr) (cdv ct : Value) (us : List Value), us.length = ps.length → bindArgs (PySem.W.fnOf nm nm (defArgs st) (defBody st) (defScope st) .none kV doc pm an cdv ct) ⟨us, []⟩ = pure (ps.zip us))
    (hl : ∀ x, (as x).length = ps.length) (hN : ps.length ≤ N.length) (hb : ∀ x, pre x → Body P w K mg base N nm st k (as x) (φ x)) : Def P w K mg base nm (k + 1) ps (spA pre as φ) := by
  obtain ⟨f, fd, F, hm⟩ := T.ex
  exact ⟨f, fd, fn_body F S hl hN hb, hm, F.kp, F.bindsN hbind⟩
end

section
variable {X : Cx} {B : Hp × Hp} {ρ : List Slot} {ow : Ow} {e o : Expr} {es : List Expr} {φ ψ : Pr} {pos : Pos} {k : Nat} {ps : List Str} {α : Type} {pre : α → Prop} {as : α → List Pr} {r : α → Pr} {nm : Str} {p : Pos}
/-- f(e, ..) -/
theorem ev_call (d : Def X.prog X.w X.K X.mg X.base nm k ps (spA pre as r)) (x : α) (hp : pre x) (hr : Room k X.A) (ha : EA X B ρ ow (e :: es) (as x)) (hg : Gl X nm := by rfl) (hdb : (nm == ("__debug__" : Str)) = false := by decide)
    (he : starEach (e :: es) X.env = (false, eval e X.env) :: starEach es X.env := by rfl) (hpl : (backTo pos (starEach es X.env)).any (·.1) = false := by rfl) : EV X B ρ ow (.Call (.Name nm p) (e :: es) [] pos) (r x) := by
  obtain ⟨f, fd, F, hm, kp, b⟩ := d.ex
  refine L2.PE.weak (pe_call F hr hg hm kp b .nil pass0 ha hdb he hpl) fun σ H Q ⟨G, ok, q⟩ => ⟨G, ok, fun vs G1 H1 g1 t => ?_⟩
  show spA pre as r (vs ++ []) H1 Q E0
  rw [List.append_nil]
  exact ⟨x, hp, G1, g1.s, t, fun v G2 H2 g2 p2 => q v G2 H2 (g1.trans g2) p2⟩

/-! isinstance -/
def tyP (n : String) : Pr := ⟨fun _ v => v = .ty n, fun _ h => h⟩
def tyN : PyData → String
  | .none => "NoneType"
  | .bool _ => "bool"
  | .int _ => "int"
  | .str _ => "str"
  | .list _ => "list"
  | .tuple _ => "tuple"
  | .dict _ => "dict"
theorem Da.ty {K : PySem.W.Frag} {H : Hp} {v : V} {d : PyData} (h : Da H v d) : TyX K H v (.type (tyN d)) := by
  cases h with
  | non => exact .base .non
  | bl b => exact .base (.bl b)
  | int i => exact .base (.int i)
  | str s => exact .base (.str s)
  | lst e t => exact .base (.lst e)
  | tup e t => exact .base (.tup e)
  | dct e t q => exact .base (.dK e)
theorem ev_ty {n : String} (hm : X.mg nm = none) (hv : bootBuiltins nm = some (.type n)) (hg : Gl X nm := by rfl) (hn : nm ≠ "__name__" := by decide) (hd : (nm == ("__debug__" : Str)) = false := by decide) : EV X B ρ ow (.Name nm pos) (tyP n) :=
  ev_c (pe_bltn (v := .ty n) hg hm hv rfl hn hd) fun _ => rfl
theorem ev_isi {o2 : Expr} {d : PyData} {n : String} {b : Bool} (hm : X.mg "isinstance" = none) (ha : EV X B ρ ow e (da d)) (hb : EV X B ρ ow o2 (tyP n)) (hk : kitB (tyN d) n = some b) (hg : Gl X "isinstance" := by rfl)
    (hs : starEach [e, o2] X.env = (false, eval e X.env) :: starEach [o2] X.env := by rfl) (hs2 : starEach [o2] X.env = (false, eval o2 X.env) :: starEach [] X.env := by rfl) : EV X B ρ ow (.Call (.Name "isinstance" p) [e, o2] [] pos) (da (.bool b)) :=
  ev_callB call_isi hm (ea_cons ha (ea_cons hb ea_nil hs2) hs) (fun vs G H Q s t k => by
    cases t with
    | cons p t =>
      cases t with
      | cons p2 t =>
        cases t
        cases (show _ = V.ty n from p2)
        exact ⟨_, _, _, _, b, rfl, .ty n, Da.ty (Da.mono s (show Da G _ d from p)), kit_ty hk, k _ G H (.refl s) (.bl b)⟩) hg (by decide +kernel) (by decide) (by decide) hs (by rw [hs2]; rfl)
theorem kitAny2 {K : PySem.W.Frag} {a n1 n2 : String} {b1 b2 : Bool} (h1 : kitB a n1 = some b1) (h2 : kitB a n2 = some b2) : PySem.W.kitAny K (.type a) [.type n1, .type n2] = some (b1 || b2) := by
  refine kitAny_cons (kit_ty h1) (fun e => ?_) fun e => by rw [e]; rfl
  subst e
  refine kitAny_cons (kit_ty h2) (fun e => by rw [e]; exact kitAny_nil) fun e => by rw [e]; rfl
theorem ev_isiT {e1 e2 : Expr} {tk : Nat} {tpos : Pos} {d : PyData} {n1 n2 : String} {b1 b2 : Bool} (hm : X.mg "isinstance" = none) (ha : EV X B ρ ow e (da d)) (h1 : PE X e1 (tC (.ty n1))) (h2 : PE X e2 (tC (.ty n2))) (hk1 : kitB (tyN d) n1 = some b1) (hk2 : kitB (tyN d) n2 = some b2) (hg : Gl X "isinstance" := by rfl)
    (hs : starEach [e, .Tuple [e1, e2] tk tpos] X.env = (false, eval e X.env) :: starEach [.Tuple [e1, e2] tk tpos] X.env := by rfl) (hs2 : starEach [.Tuple [e1, e2] tk tpos] X.env = (false, eval (.Tuple [e1, e2] tk tpos) X.env) :: starEach [] X.env := by rfl)
    (ht : starEach [e1, e2] X.env = (false, eval e1 X.env) :: starEach [e2] X.env := by rfl) (ht2 : starEach [e2] X.env = (false, eval e2 X.env) :: starEach [] X.env := by rfl) :
    EV X B ρ ow (.Call (.Name "isinstance" p) [e, .Tuple [e1, e2] tk tpos] [] pos) (da (.bool (b1 || b2))) :=
  L2.PE.weak (pe_callB call_isiT hg hm (by decide +kernel) (pa_cons ha (pa_cons (pe_tup (pa_cons h1 (pa_cons h2 pa_nil ht2) ht)) pa_nil hs2) hs) (by decide) (by decide) hs (by rw [hs2]; rfl)) fun σ H Q ⟨G, ok, q⟩ => ⟨G, ok, fun v G1 H1 g1 p1 => ⟨by show 2 ≤ sizeLine; decide, fun t ht => by
    have a := Gr.alloc (o := .tup [.ty n1, .ty n2]) g1.s ht
    exact ⟨v, t, _, _, _, b1 || b2, rfl, upd_same, .cons (.ty n1) (.cons (.ty n2) .nil), Da.ty (Da.mono a.h (Da.mono g1.s (show Da G1 v d from p1))), kitAny2 hk1 hk2, q _ _ _ (g1.trans a) (.bl _)⟩⟩⟩
/-! fields of instances -/
/-- an instance of C whose field f is ψ -/
def HasF (C : Addr) (f : Str) (φ ψ : Pr) : Prop := ∀ H v, φ.p H v → ∃ a dx fs u, v = .ref a ∧ H a = some (.ins C dx fs) ∧ fs.lookup f = some u ∧ ψ.p H u
theorem ev_fld {C : Addr} {f : Str} (c : Cls X.K C) (n : NoAttr X.K C f) (he : EV X B ρ ow e φ) (h : HasF C f φ ψ) (hb : attributeBase e f X.env (eval e X.env) = eval e X.env := by rfl) : EV X B ρ ow (.Attribute e f pos) ψ :=
  L2.PE.weak (pe_fld he hb) fun σ H Q ⟨G, ok, q⟩ => ⟨G, ok, fun v G1 H1 g1 p1 => by
    obtain ⟨a, dx, fs, u, rfl, e1, e2, e3⟩ := h G1 v p1
    exact ⟨a, C, dx, fs, u, rfl, g1.s _ _ e1, c, n, e2, q u G1 H1 g1 e3⟩⟩
/-- a method of the text -/
structure MethAt (K : PySem.W.Frag) (C : Addr) (m qual : Str) (st : Stmt) : Prop where
  ex : ∃ f fd, FunD K m qual (defArgs st) (defBody st) (defScope st) [] [] f fd ∧ Meth K C m f
structure DefM (P : Program) (w : World) (K : PySem.W.Frag) (mg : Str → Option Value) (base : Heap) (C : Addr) (m : Str) (k : Nat) (ps : List Str) (sp : Sp) : Prop where
  ex : ∃ f fd, FnOk P w K mg base CX0 k f fd ps sp ∧ Meth K C m f ∧ Binds K fd ps []
theorem defm_mk {P : Program} {w : World} {K : PySem.W.Frag} {mg : Str → Option Value} {base : Heap} {C : Addr} {m qual : Str} {st : Stmt} {N : List Str} (T : MethAt K C m qual st) (S : FnScope N ps (defScope st))
    (hbind : ∀ (kV doc pm : Value) (an : Option Addr) (cdv ct : Value) (us : List Value), us.length = ps.length → bindArgs (PySem.W.fnOf m qual (defArgs st) (defBody st) (defScope st) .none kV doc pm an cdv ct) ⟨us, []⟩ = pure (ps.zip us))
    (hl : ∀ x, (as x).length = ps.length) (hN : ps.length ≤ N.length) (hb : ∀ x, pre x → Body P w K mg base N qual st k (as x) (r x)) : DefM P w K mg base C m (k + 1) ps (spA pre as r) := by
  obtain ⟨f, fd, F, hm⟩ := T.ex
  exact ⟨f, fd, fn_body F S hl hN hb, hm, F.bindsN hbind⟩
/-- φ is an instance of C without a field m -/
def IsI (C : Addr) (m : Str) (φ : Pr) : Prop := ∀ H v, φ.p H v → ∃ a dx fs, v = .ref a ∧ H a = some (.ins C dx fs) ∧ fs.lookup m = none
theorem ev_meth {C : Addr} {m : Str} {apos : Pos} {pl : Sem Bool} {φs : List Pr} (c : Cls X.K C) (d : DefM X.prog X.w X.K X.mg X.base C m k ps (spA pre as r)) (x : α) (hp : pre x) (hr : Room k X.A) (ho : EV X B ρ ow o φ) (hi : IsI C m φ) (ha : EA X B ρ ow (e :: es) φs) (hx : as x = φ :: φs)
    (hc : eval (.Call (.Attribute o m apos) (e :: es) [] pos) X.env = (do
      let ov ← eval o X.env
      standAt apos.atName
      let (f, first) ← holding [ov] (getMethod ov m pl)
      callWith pos f first (backTo pos (starEach (e :: es) X.env)) (backToKw pos (keywordEach [] X.env))) := by rfl)
    (he : starEach (e :: es) X.env = (false, eval e X.env) :: starEach es X.env := by rfl) (hpl : (backTo pos (starEach es X.env)).any (·.1) = false := by rfl) : EV X B ρ ow (.Call (.Attribute o m apos) (e :: es) [] pos) (r x) := by
  obtain ⟨f, fd, F, hm, b⟩ := d.ex
  refine L2.PE.weak (pe_meth ho c hm F hr b .nil pass0 ha he hpl hc) fun σ H Q ⟨G, ok, q⟩ => ⟨G, ok, fun v G1 H1 g1 p1 => ?_⟩
  obtain ⟨a, dx, fs, rfl, e1, e2⟩ := hi G1 v p1
  refine ⟨a, dx, fs, rfl, g1.s _ _ e1, e2, G1, ok.grow g1, fun vs G2 H2 g2 t => ?_⟩
  show spA pre as r (.ref a :: (vs ++ [])) H2 Q E0
  rw [List.append_nil]
  exact ⟨x, hp, G2, g2.s, by rw [hx]; exact .cons (φ.mono g2.g p1) t, fun v G3 H3 g3 p3 => q v G3 H3 ((g1.trans g2).trans g3) p3⟩
theorem ev_meth0 {C : Addr} {m : Str} {apos : Pos} {pl : Sem Bool} (c : Cls X.K C) (d : DefM X.prog X.w X.K X.mg X.base C m k ps (spA pre as r)) (x : α) (hp : pre x) (hr : Room k X.A) (ho : EV X B ρ ow o φ) (hi : IsI C m φ) (hx : as x = [φ])
    (hc : eval (.Call (.Attribute o m apos) [] [] pos) X.env = (do
      let ov ← eval o X.env
      standAt apos.atName
      let (f, first) ← holding [ov] (getMethod ov m pl)
      callWith pos f first (backTo pos (starEach [] X.env)) (backToKw pos (keywordEach [] X.env))) := by rfl) : EV X B ρ ow (.Call (.Attribute o m apos) [] [] pos) (r x) := by
  obtain ⟨f, fd, F, hm, b⟩ := d.ex
  refine L2.PE.weak (pe_meth0 ho c hm F hr b .nil pass0 hc) fun σ H Q ⟨G, ok, q⟩ => ⟨G, ok, fun v G1 H1 g1 p1 => ?_⟩
  obtain ⟨a, dx, fs, rfl, e1, e2⟩ := hi G1 v p1
  refine ⟨a, dx, fs, rfl, g1.s _ _ e1, e2, ?_⟩
  exact ⟨x, hp, G1, g1.s, by rw [hx]; exact .cons p1 .nil, fun v G3 H3 g3 p3 => q v G3 H3 (g1.trans g3) p3⟩
/-- x = [.. for ..] -/
theorem sv_setLc {β : Type} {i : Nat} {py : Pos} {elt tg iter : Expr} {ifs : List Expr} {xs : List β} {g : β → Pr} {scope : Scope} {own : List (Str × Nat)} {c : β → Bool} {f : β → PyData} {tgG : TG} {fρ : β → List Slot → List Slot} {spos : Pos} {rest : List Stmt} {D : Out} (hc : X.calm = true) (hN : X.N.Nodup)
    (hi : IT X B ρ ow tg iter xs g) (hok : BlkOk X.N X.env.scope scope own)
    (hg : ∀ b : Bk, PG (blkOf X scope b) tg tgG) (htg : ∀ x ∈ xs, TgOk tgG (g x) (fρ x) (own.map (·.2)))
    (ht : ∀ x ∈ xs, ∀ b : Bk, ETs (blkOf X scope b) B (fρ x (wipeS ρ (own.map (·.2)))) ow ifs (c x))
    (he : ∀ x ∈ xs, c x = true → ∀ b : Bk, EV (blkOf X scope b) B (fρ x (wipeS ρ (own.map (·.2)))) ow elt (da (f x)))
    (hl : xs.length ≤ sizeLine) (hr : SV X B (ρ.set i (.val (da (.list ((xs.filter c).map f))))) ow rest D) (hy : X.N[i]? = some nm := by rfl) (hyl : X.env.scope.names.lookup nm = some .local := by rfl)
    (hsw : swapsWith (.ListComp elt [⟨tg, iter, ifs, 0⟩] scope pos) (some (.Name nm py)) spos.line X.env = pure true := by exact sw_true rfl rfl rfl (by decide +kernel)) (hs : ∀ x, foldedSetIterable iter X.env x = pure x := by intro _; rfl) :
    SV X B ρ ow (.Assign [.Name nm py] (.ListComp elt [⟨tg, iter, ifs, 0⟩] scope pos) spos :: rest) D :=
  sv_step (ps_setLc (tt := bTs X scope ifs) (te := bE X scope elt) hc hN hy hyl hsw hi hok (fun s H C cl fp => hg (s, H, C, cl, fp)) (fun s H C cl fp => pts_b (s, H, C, cl, fp)) (fun s H C cl fp => pe_b (s, H, C, cl, fp)) hs) fun E σ H ⟨⟨G, ok⟩, o⟩ =>
    lc_read htg ht he hl ⟨G, ok, fun v G' H' g p => sv_go hr ((ok.grow g).set (s := .val _) ⟨v, rfl, p⟩) o⟩
theorem sv_setLc2 {β γ : Type} {i : Nat} {py : Pos} {elt tg iter tg1 iter1 : Expr} {ifs ifs1 : List Expr} {xs : List β} {g : β → Pr} {scope : Scope} {own : List (Str × Nat)} {tgG tgG1 : TG} {fρ : β → List Slot → List Slot} {ys : β → List γ} {g1 : β → γ → Pr} {fρ1 : β → γ → List Slot → List Slot} {c1 : β → γ → Bool} {f1 : β → γ → PyData} {vs1 : List Nat} {spos : Pos} {rest : List Stmt} {D : Out} (hc : X.calm = true) (hN : X.N.Nodup)
    (hi : IT X B ρ ow tg iter xs g) (hok : BlkOk X.N X.env.scope scope own) (hv : ∀ i ∈ vs1, i ∈ own.map (·.2))
    (hg : ∀ b : Bk, PG (blkOf X scope b) tg tgG) (htg : ∀ x ∈ xs, TgOk tgG (g x) (fρ x) (own.map (·.2)))
    (ht : ∀ x ∈ xs, ∀ b : Bk, ETs (blkOf X scope b) B (fρ x (wipeS ρ (own.map (·.2)))) ow ifs true)
    (hi1 : ∀ x ∈ xs, ∀ b : Bk, IF (blkOf X scope b) B (fρ x (wipeS ρ (own.map (·.2)))) ow tg1 iter1 (ys x) (g1 x))
    (hg1 : ∀ b : Bk, PG (blkOf X scope b) tg1 tgG1) (htg1 : ∀ x ∈ xs, ∀ y ∈ ys x, TgOk tgG1 (g1 x y) (fρ1 x y) vs1)
    (ht1 : ∀ x ∈ xs, ∀ y ∈ ys x, ∀ b : Bk, ETs (blkOf X scope b) B (fρ1 x y (wipeS (fρ x (wipeS ρ (own.map (·.2)))) vs1)) ow ifs1 (c1 x y))
    (he : ∀ x ∈ xs, ∀ y ∈ ys x, c1 x y = true → ∀ b : Bk, EV (blkOf X scope b) B (fρ1 x y (wipeS (fρ x (wipeS ρ (own.map (·.2)))) vs1)) ow elt (da (f1 x y)))
    (hl : (xs.flatMap ys).length ≤ sizeLine) (hr : SV X B (ρ.set i (.val (da (.list (xs.flatMap fun x => ((ys x).filter (c1 x)).map (f1 x)))))) ow rest D) (hy : X.N[i]? = some nm := by rfl) (hyl : X.env.scope.names.lookup nm = some .local := by rfl)
    (hsw : swapsWith (.ListComp elt [⟨tg, iter, ifs, 0⟩, ⟨tg1, iter1, ifs1, 0⟩] scope pos) (some (.Name nm py)) spos.line X.env = pure true := by exact sw_true rfl rfl rfl (by decide +kernel)) (hs : ∀ x, foldedSetIterable iter X.env x = pure x := by intro _; rfl) (hs1 : ∀ env x, foldedSetIterable iter1 env x = pure x := by intro _ _; rfl) :
    SV X B ρ ow (.Assign [.Name nm py] (.ListComp elt [⟨tg, iter, ifs, 0⟩, ⟨tg1, iter1, ifs1, 0⟩] scope pos) spos :: rest) D :=
  sv_step (ps_setLc2 (tt := bTs X scope ifs) (te := bE X scope elt) (wi1 := bI X scope tg1 iter1) (tt1 := bTs X scope ifs1) hc hN hy hyl hsw hi hok hv (fun s H C cl fp => hg (s, H, C, cl, fp)) (fun s H C cl fp => pts_b (s, H, C, cl, fp)) (fun s H C cl fp => pi_b (s, H, C, cl, fp)) (fun s H C cl fp => hg1 (s, H, C, cl, fp)) (fun s H C cl fp => pts_b (s, H, C, cl, fp)) (fun s H C cl fp => pe_b (s, H, C, cl, fp)) hs hs1) fun E σ H ⟨⟨G, ok⟩, o⟩ =>
    lc2_read htg ht hi1 htg1 ht1 he hl ⟨G, ok, fun v G' H' g p => sv_go hr ((ok.grow g).set (s := .val _) ⟨v, rfl, p⟩) o⟩
end
end L2.My
end
section
set_option Elab.async false
set_option linter.all false
set_option maxRecDepth 100000
set_option autoImplicit false
/-! Tx: the text by places, what the walk asks of the top. -/
namespace L2.My
open PySem PySem.Spec PyProof.Rows
def top (i : Nat) : Stmt := PySem.Challenge.pw_cutofftills_k85_whole_joins_and_outages.main.body.getD i (.Pass ⟨0, 0, 0, 0⟩)
abbrev s_BadPart_init : Stmt := inClass (top 3) 0
abbrev s_BadWish_init : Stmt := inClass (top 4) 0
abbrev s_BadLimits_init : Stmt := inClass (top 5) 0
abbrev s_BadMap_init : Stmt := inClass (top 6) 0
abbrev s_TooMany_init : Stmt := inClass (top 7) 0
abbrev s_UnknownPlace_init : Stmt := inClass (top 8) 0
abbrev s_is_integer : Stmt := top 12
abbrev s_is_between : Stmt := top 13
abbrev s_is_name : Stmt := top 14
abbrev s_sets_of : Stmt := top 16
abbrev s_index_sets : Stmt := top 17
abbrev s_is_row : Stmt := top 23
abbrev s_checked_areas : Stmt := top 24
abbrev s_is_path : Stmt := top 25
abbrev s_checked_paths : Stmt := top 26
abbrev s_is_outage : Stmt := top 27
abbrev s_checked_borders : Stmt := top 28
abbrev s_checked_outages : Stmt := top 29
abbrev s_Map_init : Stmt := inClass (top 30) 0
abbrev s_Map_iter : Stmt := inClass (top 30) 1
abbrev s_Map_len : Stmt := inClass (top 30) 2
abbrev s_Map_contains : Stmt := inClass (top 30) 3
abbrev s_Map_eq : Stmt := inClass (top 30) 4
abbrev s_Map_places : Stmt := inClass (top 30) 5
abbrev s_Map_area_of : Stmt := inClass (top 30) 6
abbrev s_Map_near : Stmt := inClass (top 30) 7
abbrev s_Map_day : Stmt := inClass (top 30) 9
abbrev s_Map_reach_of_time : Stmt := inClass (top 30) 10
abbrev s_Map_with_outages : Stmt := inClass (top 30) 11
abbrev s_first_mark : Stmt := top 32
abbrev s_can_pay : Stmt := top 33
abbrev s_put : Stmt := top 34
abbrev s_paid_mark : Stmt := top 35
abbrev s_left_behind : Stmt := top 36
abbrev s_moved_mark : Stmt := top 37
abbrev s_are_numbers : Stmt := top 40
abbrev s_check_map : Stmt := top 42
abbrev s_endless_place : Stmt := top 43
abbrev s_first_nodes : Stmt := top 44
abbrev s_stops_of : Stmt := top 45
abbrev s_Heights_init : Stmt := inClass (top 46) 0
abbrev s_Heights_behind : Stmt := inClass (top 46) 1
abbrev s_Heights_height : Stmt := inClass (top 46) 2
abbrev s_Heights_top_node : Stmt := inClass (top 46) 4
abbrev s_most_by_days : Stmt := top 47
abbrev s_is_pair : Stmt := top 50
abbrev s_least_outage : Stmt := top 51
abbrev s_without : Stmt := top 52
abbrev s_joined : Stmt := top 53
abbrev s_joined_limits : Stmt := top 54
abbrev s_merged : Stmt := top 55
abbrev s_check_wish : Stmt := top 56
abbrev s_keeps_days : Stmt := top 57
abbrev s_all_pairs : Stmt := top 58
abbrev s_lists_of : Stmt := top 59
abbrev s_least_joins : Stmt := top 60
abbrev s_with_outage : Stmt := top 61
abbrev s_greatest_outages : Stmt := top 62
abbrev s_law_pool : Stmt := top 64
abbrev s_law_draw : Stmt := top 65
abbrev s_law_pick : Stmt := top 66
abbrev s_law_map : Stmt := top 67
abbrev s_law_chart : Stmt := top 68
abbrev s_law_spots : Stmt := top 69
abbrev s_law_area : Stmt := top 70
abbrev s_law_nexts : Stmt := top 71
abbrev s_law_far : Stmt := top 72
abbrev s_law_last : Stmt := top 73
abbrev s_law_may : Stmt := top 74
abbrev s_law_on : Stmt := top 75
abbrev s_law_once : Stmt := top 76
abbrev s_law_walks : Stmt := top 77
abbrev s_law_count : Stmt := top 78
abbrev s_law_top_sum : Stmt := top 79
abbrev s_law_joined : Stmt := top 80
abbrev s_law_due : Stmt := top 81
abbrev s_law_refused : Stmt := top 82
abbrev s_law_with : Stmt := top 83
abbrev s_law_outage_right : Stmt := top 84
abbrev s_law_joins : Stmt := top 85
abbrev s_law_four_right : Stmt := top 86
abbrev s_law : Stmt := top 87
structure TX (K : PySem.W.Frag) (mg : Str → Option Value) : Prop where
  d_is_integer : FunAt K mg "is_integer" s_is_integer
  d_is_between : FunAt K mg "is_between" s_is_between
  d_is_name : FunAt K mg "is_name" s_is_name
  d_sets_of : FunAt K mg "sets_of" s_sets_of
  d_index_sets : FunAt K mg "index_sets" s_index_sets
  d_is_row : FunAt K mg "is_row" s_is_row
  d_checked_areas : FunAt K mg "checked_areas" s_checked_areas
  d_is_path : FunAt K mg "is_path" s_is_path
  d_checked_paths : FunAt K mg "checked_paths" s_checked_paths
  d_is_outage : FunAt K mg "is_outage" s_is_outage
  d_checked_borders : FunAt K mg "checked_borders" s_checked_borders
  d_checked_outages : FunAt K mg "checked_outages" s_checked_outages
  m_Map_places : MethAt K (He.ga K "Map") "places" "Map.places" s_Map_places
  m_Map_area_of : MethAt K (He.ga K "Map") "area_of" "Map.area_of" s_Map_area_of
  m_Map_near : MethAt K (He.ga K "Map") "near" "Map.near" s_Map_near
  m_Map_day : MethAt K (He.ga K "Map") "day" "Map.day" s_Map_day
  m_Map_reach_of_time : MethAt K (He.ga K "Map") "reach_of_time" "Map.reach_of_time" s_Map_reach_of_time
  m_Map_with_outages : MethAt K (He.ga K "Map") "with_outages" "Map.with_outages" s_Map_with_outages
  d_first_mark : FunAt K mg "first_mark" s_first_mark
  d_can_pay : FunAt K mg "can_pay" s_can_pay
  d_put : FunAt K mg "put" s_put
  d_paid_mark : FunAt K mg "paid_mark" s_paid_mark
  d_left_behind : FunAt K mg "left_behind" s_left_behind
  d_moved_mark : FunAt K mg "moved_mark" s_moved_mark
  d_are_numbers : FunAt K mg "are_numbers" s_are_numbers
  d_check_map : FunAt K mg "check_map" s_check_map
  d_endless_place : FunAt K mg "endless_place" s_endless_place
  d_first_nodes : FunAt K mg "first_nodes" s_first_nodes
  d_stops_of : FunAt K mg "stops_of" s_stops_of
  m_Heights_behind : MethAt K (He.ga K "Heights") "behind" "Heights.behind" s_Heights_behind
  m_Heights_height : MethAt K (He.ga K "Heights") "height" "Heights.height" s_Heights_height
  m_Heights_top_node : MethAt K (He.ga K "Heights") "top_node" "Heights.top_node" s_Heights_top_node
  d_most_by_days : FunAt K mg "most_by_days" s_most_by_days
  d_is_pair : FunAt K mg "is_pair" s_is_pair
  d_least_outage : FunAt K mg "least_outage" s_least_outage
  d_without : FunAt K mg "without" s_without
  d_joined : FunAt K mg "joined" s_joined
  d_joined_limits : FunAt K mg "joined_limits" s_joined_limits
  d_merged : FunAt K mg "merged" s_merged
  d_check_wish : FunAt K mg "check_wish" s_check_wish
  d_keeps_days : FunAt K mg "keeps_days" s_keeps_days
  d_all_pairs : FunAt K mg "all_pairs" s_all_pairs
  d_lists_of : FunAt K mg "lists_of" s_lists_of
  d_least_joins : FunAt K mg "least_joins" s_least_joins
  d_with_outage : FunAt K mg "with_outage" s_with_outage
  d_greatest_outages : FunAt K mg "greatest_outages" s_greatest_outages
  d_law_pool : FunAt K mg "_law_pool" s_law_pool
  d_law_draw : FunAt K mg "_law_draw" s_law_draw
  d_law_pick : FunAt K mg "_law_pick" s_law_pick
  d_law_map : FunAt K mg "_law_map" s_law_map
  d_law_chart : FunAt K mg "_law_chart" s_law_chart
  d_law_spots : FunAt K mg "_law_spots" s_law_spots
  d_law_area : FunAt K mg "_law_area" s_law_area
  d_law_nexts : FunAt K mg "_law_nexts" s_law_nexts
  d_law_far : FunAt K mg "_law_far" s_law_far
  d_law_last : FunAt K mg "_law_last" s_law_last
  d_law_may : FunAt K mg "_law_may" s_law_may
  d_law_on : FunAt K mg "_law_on" s_law_on
  d_law_once : FunAt K mg "_law_once" s_law_once
  d_law_walks : FunAt K mg "_law_walks" s_law_walks
  d_law_count : FunAt K mg "_law_count" s_law_count
  d_law_top_sum : FunAt K mg "_law_top_sum" s_law_top_sum
  d_law_joined : FunAt K mg "_law_joined" s_law_joined
  d_law_due : FunAt K mg "_law_due" s_law_due
  d_law_refused : FunAt K mg "_law_refused" s_law_refused
  d_law_with : FunAt K mg "_law_with" s_law_with
  d_law_outage_right : FunAt K mg "_law_outage_right" s_law_outage_right
  d_law_joins : FunAt K mg "_law_joins" s_law_joins
  d_law_four_right : FunAt K mg "_law_four_right" s_law_four_right
  d_law : FunAt K mg "law" s_law
  b_len : mg "len" = none
  b_all : mg "all" = none
  b_any : mg "any" = none
  b_isinstance : mg "isinstance" = none
  b_int : mg "int" = none
  b_bool : mg "bool" = none
  b_str : mg "str" = none
  b_list : mg "list" = none
  b_tuple : mg "tuple" = none
  b_max : mg "max" = none
  b_min : mg "min" = none
  b_sum : mg "sum" = none
  b_range : mg "range" = none
  b_enumerate : mg "enumerate" = none
  b_zip : mg "zip" = none
  b_sorted : mg "sorted" = none
  b_dict : mg "dict" = none
  b_repr : mg "repr" = none
  b_ValueError : mg "ValueError" = none
  c_MOST_LETTERS : ∃ t, mg "MOST_LETTERS" = some (.int 8 t)
  c_MOST_AREAS : ∃ t, mg "MOST_AREAS" = some (.int 4 t)
  c_MOST_PLACES : ∃ t, mg "MOST_PLACES" = some (.int 6 t)
  c_MOST_PARTS : ∃ t, mg "MOST_PARTS" = some (.int 4 t)
  c_MOST_OUTAGE : ∃ t, mg "MOST_OUTAGE" = some (.int 6 t)
  c_MOST_STATES : ∃ t, mg "MOST_STATES" = some (.int 20000 t)
  c_MOST_WISH : ∃ t, mg "MOST_WISH" = some (.int 1000000000000000000000000000000 t)
  c_LETTERS : ∃ t, mg "LETTERS" = some (.str "abcdefghijklmnopqrstuvwxyz" t)
  k_Map : Cls K (He.ga K "Map")
  g_Map : mg "Map" = some (.ref (He.ga K "Map"))
  n_Map_areas : NoAttr K (He.ga K "Map") "areas"
  n_Map_paths : NoAttr K (He.ga K "Map") "paths"
  n_Map_length : NoAttr K (He.ga K "Map") "length"
  n_Map_borders : NoAttr K (He.ga K "Map") "borders"
  n_Map_outages : NoAttr K (He.ga K "Map") "outages"
  k_Heights : Cls K (He.ga K "Heights")
  g_Heights : mg "Heights" = some (.ref (He.ga K "Heights"))
  n_Heights_chart : NoAttr K (He.ga K "Heights") "chart"
  n_Heights_limits : NoAttr K (He.ga K "Heights") "limits"
  n_Heights_last : NoAttr K (He.ga K "Heights") "last"
  n_Heights_known : NoAttr K (He.ga K "Heights") "known"
  n_Heights_sheets : NoAttr K (He.ga K "Heights") "sheets"
end L2.My
end
section
set_option Elab.async false
set_option linter.all false
set_option maxRecDepth 100000
set_option autoImplicit false
/-! Lay8: short forms. -/
namespace L2.My
open PySem PySem.Spec PyProof.Rows
section
variable {X : Cx} {B : Hp × Hp} {ρ : List Slot} {ow : Ow} {e a b c : Expr} {es rest : List Expr} {pos : Pos} {φ ψ χ : Pr} {d d1 d2 : PyData} {x y z : Bool} {i j k : Int}
theorem vv (n : Nat) {nm : Str} (h : ρ[n]? = some (.val φ) := by rfl) (hN : X.N[n]? = some nm := by rfl) (hv : Vis X.env.scope nm := by first | exact Or.inl rfl | exact Or.inr (Or.inl rfl) | exact Or.inr (Or.inr rfl)) (hd : (nm == ("__debug__" : Str)) = false := by decide)
    (hcd : (nm == ("__classdict__" : Str)) = false := by decide) : EV X B ρ ow (.Name nm pos) φ := ev_var h hN hv hd hcd
theorem ev_lt (ha : EV X B ρ ow a (da (.int i))) (hb : EV X B ρ ow b (da (.int j))) : EV X B ρ ow (.Compare a [.Lt] [b] pos) (da (.bool (decide (i < j)))) := ev_cmp op_lt (ep_of ha) (ep_of hb) r2_lt (nomark _)
theorem ev_le (ha : EV X B ρ ow a (da (.int i))) (hb : EV X B ρ ow b (da (.int j))) : EV X B ρ ow (.Compare a [.LtE] [b] pos) (da (.bool (decide (i ≤ j)))) := ev_cmp op_le (ep_of ha) (ep_of hb) r2_le (nomark _)
theorem ev_gt (ha : EV X B ρ ow a (da (.int i))) (hb : EV X B ρ ow b (da (.int j))) : EV X B ρ ow (.Compare a [.Gt] [b] pos) (da (.bool (decide (j < i)))) := ev_cmp op_gt (ep_of ha) (ep_of hb) r2_gt (nomark _)
theorem ev_ge (ha : EV X B ρ ow a (da (.int i))) (hb : EV X B ρ ow b (da (.int j))) : EV X B ρ ow (.Compare a [.GtE] [b] pos) (da (.bool (decide (j ≤ i)))) := ev_cmp op_ge (ep_of ha) (ep_of hb) r2_ge (nomark _)
theorem ev_eqI (ha : EV X B ρ ow a (da (.int i))) (hb : EV X B ρ ow b (da (.int j))) : EV X B ρ ow (.Compare a [.Eq] [b] pos) (da (.bool (decide (i = j)))) := ev_cmp op_eq (ep_of ha) (ep_of hb) r2_eqI (nomark _)
theorem ev_neI (ha : EV X B ρ ow a (da (.int i))) (hb : EV X B ρ ow b (da (.int j))) : EV X B ρ ow (.Compare a [.NotEq] [b] pos) (da (.bool (!decide (i = j)))) := ev_cmp op_ne (ep_of ha) (ep_of hb) r2_neI (nomark _)
theorem ev_eqS {s t : Str} (ha : EV X B ρ ow a (da (.str s))) (hb : EV X B ρ ow b (da (.str t))) : EV X B ρ ow (.Compare a [.Eq] [b] pos) (da (.bool (decide (s = t)))) := ev_cmp op_eq (ep_of ha) (ep_of hb) r2_eqS (nomark _)
theorem ev_is (ha : EV X B ρ ow a (da d)) (hb : EV X B ρ ow b (da .none)) : EV X B ρ ow (.Compare a [.Is] [b] pos) (da (.bool (isN d))) := ev_cmp op_isN (ep_of ha) (ep_of hb) r2_is (nomark _)
theorem ev_isnot (ha : EV X B ρ ow a (da d)) (hb : EV X B ρ ow b (da .none)) : EV X B ρ ow (.Compare a [.IsNot] [b] pos) (da (.bool (!isN d))) := ev_cmp op_notN (ep_of ha) (ep_of hb) r2_isnot (nomark _)
theorem et_lt (ha : EV X B ρ ow a (da (.int i))) (hb : EV X B ρ ow b (da (.int j))) : ET X B ρ ow (.Compare a [.Lt] [b] pos) (decide (i < j)) := et_cmp op_lt (ep_of ha) (ep_of hb) r2_lt (nomark _)
theorem et_le (ha : EV X B ρ ow a (da (.int i))) (hb : EV X B ρ ow b (da (.int j))) : ET X B ρ ow (.Compare a [.LtE] [b] pos) (decide (i ≤ j)) := et_cmp op_le (ep_of ha) (ep_of hb) r2_le (nomark _)
theorem et_gt (ha : EV X B ρ ow a (da (.int i))) (hb : EV X B ρ ow b (da (.int j))) : ET X B ρ ow (.Compare a [.Gt] [b] pos) (decide (j < i)) := et_cmp op_gt (ep_of ha) (ep_of hb) r2_gt (nomark _)
theorem et_ge (ha : EV X B ρ ow a (da (.int i))) (hb : EV X B ρ ow b (da (.int j))) : ET X B ρ ow (.Compare a [.GtE] [b] pos) (decide (j ≤ i)) := et_cmp op_ge (ep_of ha) (ep_of hb) r2_ge (nomark _)
theorem et_eqI (ha : EV X B ρ ow a (da (.int i))) (hb : EV X B ρ ow b (da (.int j))) : ET X B ρ ow (.Compare a [.Eq] [b] pos) (decide (i = j)) := et_cmp op_eq (ep_of ha) (ep_of hb) r2_eqI (nomark _)
theorem et_neI (ha : EV X B ρ ow a (da (.int i))) (hb : EV X B ρ ow b (da (.int j))) : ET X B ρ ow (.Compare a [.NotEq] [b] pos) (!decide (i = j)) := et_cmp op_ne (ep_of ha) (ep_of hb) r2_neI (nomark _)
theorem et_eqS {s t : Str} (ha : EV X B ρ ow a (da (.str s))) (hb : EV X B ρ ow b (da (.str t))) : ET X B ρ ow (.Compare a [.Eq] [b] pos) (decide (s = t)) := et_cmp op_eq (ep_of ha) (ep_of hb) r2_eqS (nomark _)
theorem et_is (ha : EV X B ρ ow a (da d)) (hb : EV X B ρ ow b (da .none)) : ET X B ρ ow (.Compare a [.Is] [b] pos) (isN d) := et_cmp op_isN (ep_of ha) (ep_of hb) r2_is (nomark _)
theorem et_isnot (ha : EV X B ρ ow a (da d)) (hb : EV X B ρ ow b (da .none)) : ET X B ρ ow (.Compare a [.IsNot] [b] pos) (!isN d) := et_cmp op_notN (ep_of ha) (ep_of hb) r2_isnot (nomark _)
theorem et_v (h : EV X B ρ ow e (da (.bool x))) (he : ∀ whole, isTrue e X.env whole = (do let v ← whole; standAt e.pos; holding [v] (truthy v)) := by intro _; rfl) : ET X B ρ ow e x := et_val (ep_of h) he
theorem ev_lele (ha : EV X B ρ ow a (da (.int i))) (hb : EV X B ρ ow b (da (.int j))) (hc : EV X B ρ ow c (da (.int k))) (hm : lastMarks [.LtE, .LtE] [b, c] = false := by with_unfolding_all rfl) : EV X B ρ ow (.Compare a [.LtE, .LtE] [b, c] pos) (da (.bool (decide (i ≤ j) && decide (j ≤ k)))) := ev_chain op_le op_le (ep_of ha) (ep_of hb) (ep_of hc) r2_le r2_le hm
theorem et_lele (ha : EV X B ρ ow a (da (.int i))) (hb : EV X B ρ ow b (da (.int j))) (hc : EV X B ρ ow c (da (.int k))) (hm : lastMarks [.LtE, .LtE] [b, c] = false := by with_unfolding_all rfl) : ET X B ρ ow (.Compare a [.LtE, .LtE] [b, c] pos) (decide (i ≤ j) && decide (j ≤ k)) := et_chain op_le op_le (ep_of ha) (ep_of hb) (ep_of hc) r2_le r2_le hm
theorem ev_nt (h : EV X B ρ ow a (da (.bool x))) : EV X B ρ ow (.UnaryOp .Not a pos) (da (.bool (!x))) := ev_not (ep_of h)
theorem ev_a2 (h : EV X B ρ ow a (da (.bool x))) (h2 : x = true → EV X B ρ ow b (da (.bool y))) : EV X B ρ ow (.BoolOp .And [a, b] pos) (da (.bool (x && y))) := ev_and (ep_of h) fun q => ev_one (h2 q)
theorem ev_a3 (h : EV X B ρ ow a (da (.bool x))) (h2 : x = true → EV X B ρ ow b (da (.bool y))) (h3 : x = true → y = true → EV X B ρ ow c (da (.bool z))) : EV X B ρ ow (.BoolOp .And [a, b, c] pos) (da (.bool (x && (y && z)))) :=
  ev_and (ep_of h) fun q => ev_and (ep_of (h2 q)) fun q2 => ev_one (h3 q q2)
theorem ev_o2 (h : EV X B ρ ow a (da (.bool x))) (h2 : x = false → EV X B ρ ow b (da (.bool y))) : EV X B ρ ow (.BoolOp .Or [a, b] pos) (da (.bool (x || y))) := ev_or (ep_of h) fun q => ev_one (h2 q)
theorem et_a2 (h : ET X B ρ ow a x) (h2 : x = true → ET X B ρ ow b y) : ET X B ρ ow (.BoolOp .And [a, b] pos) (x && y) := et_w (ew_and h fun q => ew_and1 (h2 q))
theorem et_o2 (h : ET X B ρ ow a x) (h2 : x = false → ET X B ρ ow b y) : ET X B ρ ow (.BoolOp .Or [a, b] pos) (x || y) := et_w (ew_or h fun q => ew_or1 (h2 q))
theorem et_o3 (h : ET X B ρ ow a x) (h2 : x = false → ET X B ρ ow b y) (h3 : x = false → y = false → ET X B ρ ow c z) : ET X B ρ ow (.BoolOp .Or [a, b, c] pos) (x || (y || z)) := et_w (ew_or h fun q => ew_or (h2 q) fun q2 => ew_or1 (h3 q q2))
theorem ea1 (h : EV X B ρ ow a φ) (hs : starEach [a] X.env = (false, eval a X.env) :: starEach [] X.env := by rfl) : EA X B ρ ow [a] [φ] := ea_cons h ea_nil hs
theorem ea2 (h : EV X B ρ ow a φ) (h2 : EV X B ρ ow b ψ) (hs : starEach [a, b] X.env = (false, eval a X.env) :: starEach [b] X.env := by rfl) (hs2 : starEach [b] X.env = (false, eval b X.env) :: starEach [] X.env := by rfl) : EA X B ρ ow [a, b] [φ, ψ] := ea_cons h (ea1 h2 hs2) hs
theorem ea3 (h : EV X B ρ ow a φ) (h2 : EV X B ρ ow b ψ) (h3 : EV X B ρ ow c χ) (hs : starEach [a, b, c] X.env = (false, eval a X.env) :: starEach [b, c] X.env := by rfl) (hs2 : starEach [b, c] X.env = (false, eval b X.env) :: starEach [c] X.env := by rfl) (hs3 : starEach [c] X.env = (false, eval c X.env) :: starEach [] X.env := by rfl) : EA X B ρ ow [a, b, c] [φ, ψ, χ] := ea_cons h (ea2 h2 h3 hs2 hs3) hs
end
theorem pgn {X : Cx} (i : Nat) {nm : Str} {pos : Pos} (hN : X.N.Nodup) (hi : X.N[i]? = some nm := by rfl) (hx : Loc X.env.scope nm := by first | exact Or.inl rfl | exact Or.inr rfl) (hf : X.fn nm = true ∨ X.env.scope.names.lookup nm = some .local := by first | exact .inl rfl | exact .inr rfl) : PG X (.Name nm pos) (gName i) := pg_name hN hi hx hf
theorem sz {n : Nat} (h : n ≤ 1000000 := by omega) : n ≤ sizeLine := Nat.le_trans h (by decide)
theorem szl {n : Nat} (h : n < 1000000 := by omega) : n < sizeLine := Nat.lt_of_lt_of_le h (by decide)
theorem filter_tt {α : Type} (xs : List α) : (xs.filter fun _ => true) = xs := List.filter_eq_self.mpr fun _ _ => rfl
section
variable {α : Type} {X : Cx} {B : Hp × Hp} {ρ : List Slot} {ow : Ow} {tg iter elt : Expr} {xs : List α} {g : α → Pr} {pos : Pos} {scope : Scope} {own : List (Str × Nat)} {f : α → PyData} {tgG : TG} {fρ : α → List Slot → List Slot}
/-- no tests -/
theorem ev_lc0 (hc : X.calm = true) (hN : X.N.Nodup) (hi : IT X B ρ ow tg iter xs g) (hok : BlkOk X.N X.env.scope scope own)
    (hg : ∀ b : Bk, PG (blkOf X scope b) tg tgG) (htg : ∀ x ∈ xs, TgOk tgG (g x) (fρ x) (own.map (·.2)))
    (he : ∀ x ∈ xs, ∀ b : Bk, EV (blkOf X scope b) B (fρ x (wipeS ρ (own.map (·.2)))) ow elt (da (f x)))
    (hl : xs.length ≤ sizeLine) (hs : ∀ x, foldedSetIterable iter X.env x = pure x := by intro _; rfl) :
    EV X B ρ ow (.ListComp elt [⟨tg, iter, [], 0⟩] scope pos) (da (.list (xs.map f))) := by
  have h := ev_lc (c := fun _ => true) (pos := pos) hc hN hi hok hg htg (fun _ _ _ => ets_nil) (fun x hx _ b => he x hx b) hl hs
  rw [filter_tt] at h
  exact h
variable {nm : Str} {i : Nat} {py spos : Pos} {rest : List Stmt} {D : Out}
theorem sv_setLc0 (hc : X.calm = true) (hN : X.N.Nodup) (hi : IT X B ρ ow tg iter xs g) (hok : BlkOk X.N X.env.scope scope own)
    (hg : ∀ b : Bk, PG (blkOf X scope b) tg tgG) (htg : ∀ x ∈ xs, TgOk tgG (g x) (fρ x) (own.map (·.2)))
    (he : ∀ x ∈ xs, ∀ b : Bk, EV (blkOf X scope b) B (fρ x (wipeS ρ (own.map (·.2)))) ow elt (da (f x)))
    (hl : xs.length ≤ sizeLine) (hr : SV X B (ρ.set i (.val (da (.list (xs.map f))))) ow rest D) (hy : X.N[i]? = some nm := by rfl) (hyl : X.env.scope.names.lookup nm = some .local := by rfl)
    (hsw : swapsWith (.ListComp elt [⟨tg, iter, [], 0⟩] scope pos) (some (.Name nm py)) spos.line X.env = pure true := by exact sw_true rfl rfl rfl (by decide +kernel)) (hs : ∀ x, foldedSetIterable iter X.env x = pure x := by intro _; rfl) :
    SV X B ρ ow (.Assign [.Name nm py] (.ListComp elt [⟨tg, iter, [], 0⟩] scope pos) spos :: rest) D :=
  sv_setLc (c := fun _ => true) hc hN hi hok hg htg (fun _ _ _ => ets_nil) (fun x hx _ b => he x hx b) hl (by rw [filter_tt]; exact hr) hy hyl hsw hs
variable {β : Type} {tg1 iter1 : Expr} {ys : α → List β} {g1 : α → β → Pr} {tgG1 : TG} {fρ1 : α → β → List Slot → List Slot} {f1 : α → β → PyData} {vs1 : List Nat}
theorem ev_lc20 (hc : X.calm = true) (hN : X.N.Nodup) (hi : IT X B ρ ow tg iter xs g) (hok : BlkOk X.N X.env.scope scope own) (hv : ∀ i ∈ vs1, i ∈ own.map (·.2))
    (hg : ∀ b : Bk, PG (blkOf X scope b) tg tgG) (htg : ∀ x ∈ xs, TgOk tgG (g x) (fρ x) (own.map (·.2)))
    (hi1 : ∀ x ∈ xs, ∀ b : Bk, IF (blkOf X scope b) B (fρ x (wipeS ρ (own.map (·.2)))) ow tg1 iter1 (ys x) (g1 x))
    (hg1 : ∀ b : Bk, PG (blkOf X scope b) tg1 tgG1) (htg1 : ∀ x ∈ xs, ∀ y ∈ ys x, TgOk tgG1 (g1 x y) (fρ1 x y) vs1)
    (he : ∀ x ∈ xs, ∀ y ∈ ys x, ∀ b : Bk, EV (blkOf X scope b) B (fρ1 x y (wipeS (fρ x (wipeS ρ (own.map (·.2)))) vs1)) ow elt (da (f1 x y)))
    (hl : (xs.flatMap ys).length ≤ sizeLine) (hs : ∀ x, foldedSetIterable iter X.env x = pure x := by intro _; rfl) (hs1 : ∀ env x, foldedSetIterable iter1 env x = pure x := by intro _ _; rfl) :
    EV X B ρ ow (.ListComp elt [⟨tg, iter, [], 0⟩, ⟨tg1, iter1, [], 0⟩] scope pos) (da (.list (xs.flatMap fun x => (ys x).map (f1 x)))) := by
  have h := ev_lc2 (c1 := fun _ _ => true) (pos := pos) hc hN hi hok hv hg htg (fun _ _ _ => ets_nil) hi1 hg1 htg1 (fun _ _ _ _ _ => ets_nil) (fun x hx y hy _ b => he x hx y hy b) hl hs hs1
  simp only [filter_tt] at h
  exact h
end
end L2.My
end
section
set_option Elab.async false
set_option linter.all false
set_option maxRecDepth 100000
set_option autoImplicit false
/-! Lay9: dict comprehensions with flat keys; a walk over an owned dict's keys. -/
namespace L2.My
open PySem PySem.Spec PyProof.Rows
section
variable {α : Type} {X : Cx} {B : Hp × Hp} {ρ : List Slot} {ow : Ow} {tg iter kx vx : Expr} {xs : List α} {g : α → Pr} {pos : Pos} {scope : Scope} {own : List (Str × Nat)} {kf : α → Key} {f : α → PyData} {tgG : TG} {fρ : α → List Slot → List Slot}
def dcF (kf : α → Key) (f : α → PyData) (xs : List α) : List (Key × PyData) := xs.foldl (fun l x => ptD l (kf x) (f x)) []
theorem dcF_len (kf : α → Key) (f : α → PyData) (xs : List α) : (dcF kf f xs).length ≤ xs.length := by
  have h : ∀ (xs : List α) (l : List (Key × PyData)), (xs.foldl (fun l x => ptD l (kf x) (f x)) l).length ≤ l.length + xs.length := by
    intro xs
    induction xs with
    | nil => intro l; simp
    | cons x xs ih =>
      intro l
      rw [List.foldl_cons]
      have h1 := ih (ptD l (kf x) (f x))
      have h2 : (ptD l (kf x) (f x)).length ≤ l.length + 1 := by
        unfold ptD
        split
        · rw [List.length_map]; omega
        · simp
      rw [List.length_cons]
      omega
  have := h xs []
  simpa [dcF] using this
structure DcSt (B : Hp × Hp) (ρ : List Slot) (ow : Ow) (G0 H0 G1 H1 : Hp) (D : Addr) (σ : St) (acc : List (Key × PyData)) (G H : Hp) : Prop where
  ok : Ok B ρ ((D, od acc) :: ow) G σ H
  gr : Gr (G0, H0) G H
  s : Same G1 G ∧ Same H1 H
theorem dc_read (htg : ∀ x ∈ xs, TgOk tgG (g x) (fρ x) (own.map (·.2)))
    (hk : ∀ x ∈ xs, ∀ b : Bk, EV (blkOf X scope b) B (fρ x (wipeS ρ (own.map (·.2)))) ow kx (da (kd (kf x))))
    (he : ∀ x ∈ xs, ∀ b : Bk, EV (blkOf X scope b) B (fρ x (wipeS ρ (own.map (·.2)))) ow vx (da (f x)))
    (hl : xs.length ≤ sizeLine) {σ : St} {H : Hp} {Q : VK} {G : Hp} (ok : Ok B ρ ow G σ H)
    (k2 : ∀ D G' H', Ok B ρ ((D, od (dcF kf f xs)) :: ow) G' σ H' → Q (.ref D) H') : tDc (tIF B ρ ow xs g) tgG (bTs X scope []) (bE X scope kx) (bE X scope vx) (own.map (·.2)) σ H Q := by
  refine ⟨G, ok, fun J G1 H1 g1 w D hD => ?_⟩
  refine ⟨fun i m H' => m = xs.length - i ∧ i ≤ xs.length ∧ ∃ G', Ok B ρ ((D, od (dcF kf f (xs.take i))) :: ow) G' σ H' ∧ Same G1 G', ⟨xs.length, rfl, Nat.zero_le _, G1, ?_, Same.refl _⟩, ?_⟩
  · exact (ok.grow g1).mk_own hD ⟨[], rfl, .nil⟩
  · rintro i m H' ⟨rfl, hi', G', z, sg⟩
    by_cases hlt : i < xs.length
    · refine .inr ⟨w.goes i G' H' hlt sg z.gr.s, fun H'' => i + 1 ≤ xs.length ∧ ∃ G'', Ok B ρ ((D, od (dcF kf f (xs.take (i + 1)))) :: ow) G'' σ H'' ∧ Same G1 G'', fun H'' q => ⟨xs.length - (i + 1), by omega, rfl, q⟩, fun v H2 y => ?_⟩
      have hx : xs[i]? = some xs[i] := List.getElem?_eq_getElem hlt
      have hm : xs[i] ∈ xs := List.getElem_mem hlt
      obtain ⟨G2, g2, p2⟩ := w.yields i _ G' H' v H2 hx sg z.gr.s y
      have ok2 := z.grow g2
      refine htg _ hm B _ _ G2 _ H2 v _ (ok2.wipe (own.map (·.2))) p2 fun σ2 ok3 hw => ⟨hw.trans (wipe_wipe _ _), fun b => ?_⟩
      refine fun pins s0 I0 => ets_nil.run pins s0 _ _ _ I0 ⟨G2, ok3.drop, fun G3 H3 g3 => iteT fun b' pins' s' I' => (hk _ hm b').run pins' s' _ _ _ I' ⟨G3, (ok3.grow g3).drop, fun u G4 H4 g4 p4 => fun b5 pins5 s5 I5 => (he _ hm b5).run pins5 s5 _ _ _ I5 ⟨G4, ((ok3.grow g3).grow g4).drop, fun u5 G5 H5 g5 p5 => ?_⟩⟩⟩
      have z5 := ((ok2.grow g3).grow g4).grow g5
      obtain ⟨hn, ho, o, e, kvs, rfl, t⟩ := z5.own _ List.mem_cons_self
      have e' : H5 D = some (.dK kvs) := e
      have ek : u = kV (kf xs[i]) := by
        have p2' : Da G4 u (kd (kf xs[i])) := p4
        revert p2'
        cases kf xs[i] <;> (intro p2'; cases p2'; rfl)
      have hlen : kvs.length < sizeLine := by
        rw [t.length]
        have h1 := dcF_len kf f (xs.take i)
        have h2 : (xs.take i).length ≤ i := List.length_take_le i xs
        omega
      refine ⟨kvs, _, ek, e', hlen, hlt, G5, ?_, (((sg.trans g2.g).trans g3.g).trans g4.g).trans g5.g⟩
      have e1 : dcF kf f (xs.take (i + 1)) = ptD (dcF kf f (xs.take i)) (kf xs[i]) (f xs[i]) := by
        rw [take_succ_get hx]
        unfold dcF
        rw [List.foldl_append]
        rfl
      rw [e1]
      exact z5.write ⟨_, rfl, t.put _ p5⟩
    · have e : i = xs.length := by omega
      subst e
      rw [List.take_length] at z
      exact .inl ⟨w.stops G' H' sg z.gr.s, k2 D G' H' z⟩
/-- x = {k: v for ..}, owned -/
theorem sv_ownDc {nm : Str} {i : Nat} {p' spos : Pos} {rest : List Stmt} {D : Out} (hc : X.calm = true) (hN : X.N.Nodup) (hi : IF X B ρ ow tg iter xs g) (hok : BlkOk X.N X.env.scope scope own)
    (hg : ∀ b : Bk, PG (blkOf X scope b) tg tgG) (htg : ∀ x ∈ xs, TgOk tgG (g x) (fρ x) (own.map (·.2)))
    (hk : ∀ x ∈ xs, ∀ b : Bk, EV (blkOf X scope b) B (fρ x (wipeS ρ (own.map (·.2)))) ow kx (da (kd (kf x))))
    (he : ∀ x ∈ xs, ∀ b : Bk, EV (blkOf X scope b) B (fρ x (wipeS ρ (own.map (·.2)))) ow vx (da (f x)))
    (hl : xs.length ≤ sizeLine) (hr : ∀ p, SV X B (ρ.set i (.ptr p)) ((p, od (dcF kf f xs)) :: ow) rest D) (hi2 : X.N[i]? = some nm := by rfl) (hx : Loc X.env.scope nm := by first | exact Or.inl rfl | exact Or.inr rfl)
    (hs : swapsWith (.DictComp kx vx [⟨tg, iter, [], 0⟩] scope pos) (some (.Name nm p')) spos.line X.env = pure false := by rfl) (hf : X.fn nm = true ∨ X.env.scope.names.lookup nm = some .local := by first | exact .inl rfl | exact .inr rfl) (hfs : ∀ x, foldedSetIterable iter X.env x = pure x := by intro _; rfl) :
    SV X B ρ ow (.Assign [.Name nm p'] (.DictComp kx vx [⟨tg, iter, [], 0⟩] scope pos) spos :: rest) D :=
  sv_step (ps_set hN hi2 hx (pe_dc (tt := bTs X scope []) (tk := bE X scope kx) (tv := bE X scope vx) hc hN hi hok (fun s H C cl fp => hg (s, H, C, cl, fp)) (fun s H C cl fp => pts_b (s, H, C, cl, fp)) (fun s H C cl fp => pe_b (s, H, C, cl, fp)) (fun s H C cl fp => pe_b (s, H, C, cl, fp)) hfs) hs hf) fun E σ H ⟨⟨G, ok⟩, o⟩ =>
    dc_read htg hk he hl ok fun D G' H' z => sv_go (hr D) (z.set (s := .ptr D) rfl) o
/-! ### locked -/
def odz (es : List (Key × PyData)) : PrO := ⟨fun H o => ∃ kvs ob, o = .frz ob (.dK kvs) ∧ Dae H kvs es, fun s ⟨vs, ob, e, h⟩ => ⟨vs, ob, e, h.mono s⟩⟩
theorem ev_lock {e : Expr} {φ : Pr} {p : Addr} {l : List (Key × PyData)} (h : EV X B ρ ((p, odz l) :: ow) e φ) : EV X B ρ ((p, od l) :: ow) e φ := L2.PE.weak (pe_lock h) fun σ H Q ⟨G, ok, q⟩ => by
  obtain ⟨hn, ho, o, e1, kvs, rfl, t⟩ := ok.own _ List.mem_cons_self
  have e1' : H p = some (.dK kvs) := e1
  refine ⟨p, _, e1', True.intro, fun ob => ⟨G, ok.write ⟨kvs, ob, rfl, t⟩, fun v G' H' g q' => ?_⟩⟩
  have e2 : H' p = some (.frz ob (.dK kvs)) := g.h _ _ upd_same
  have gp : G' p = none := g.n p ho (by show upd H p _ p ≠ none; rw [upd_same]; simp)
  refine ⟨e2, q v G' _ ⟨g.g, fun b u z => ?_, fun b u z => ?_, fun b h1 h2 => g.n b h1 fun z => h2 ?_⟩ q'⟩
  · by_cases hb : b = p
    · subst hb
      rw [upd_same]
      exact (e1'.symm.trans z)
    · rw [upd_ne hb]
      exact g.h b u (by show upd H p _ b = _; rw [upd_ne hb]; exact z)
  · rw [upd_ne (ne_of_none z gp)]
    exact g.s b u z
  · have z' : upd H p (.frz ob (.dK kvs)) b = none := z
    by_cases hb : b = p
    · subst hb; rw [upd_same] at z'; cases z'
    · rw [upd_ne hb] at z'; exact z'
theorem it_keys {n : Nat} {nm : Str} {p : Addr} {l : List (Key × PyData)} (h : ρ[n]? = some (.ptr p)) (ho : (p, odz l) ∈ ow) (hN : X.N[n]? = some nm := by rfl)
    (hv : Vis X.env.scope nm := by first | exact Or.inl rfl | exact Or.inr (Or.inl rfl) | exact Or.inr (Or.inr rfl)) (hd : (nm == ("__debug__" : Str)) = false := by decide)
    (hcd : (nm == ("__classdict__" : Str)) = false := by decide) : IT X B ρ ow tg (.Name nm pos) l fun q => da (kd q.1) := L2.PI.weak (pi_keys (pe_var hN hv hd hcd)) fun σ H R ⟨G, ok, k⟩ => by
  obtain ⟨_, _, o, e1, kvs, ob, rfl, t⟩ := ok.own _ ho
  have e1' : H p = some (.frz ob (.dK kvs)) := e1
  have hl := t.length
  have hks := t.keys
  refine ⟨.ref p, ok.ptr h, p, ob, rfl, .inl ⟨kvs, e1', kkT k _ G H (fun G H => H p = some (.frz ob (.dK kvs))) (.refl ok.gr.s) e1' (fun G1 H1 G2 H2 q s s' => s' _ _ q) ⟨fun i G H hi s sm => ?_, fun G H s sm => ?_, fun i x0 G H x H' hx s sm y => ?_⟩⟩⟩
  · exact walk_keys.goes i H (by omega) s
  · rw [← hl]
    exact walk_keys.stops H s
  · have hi := (List.getElem?_eq_some_iff.mp hx).1
    obtain ⟨rfl, kk, vv, h1, rfl⟩ := walk_keys.yields i H x H' (by omega) s y
    have e3 : (kvs.map (·.1))[i]? = (l.map (·.1))[i]? := by rw [hks]
    rw [List.getElem?_map, List.getElem?_map, h1, hx] at e3
    have e4 : kk = x0.1 := Option.some.inj e3
    refine ⟨G, .refl sm, ?_⟩
    rw [e4]
    show Da G (kV x0.1) (kd x0.1)
    cases x0.1 with
    | inl i => exact .int i
    | inr i => exact .str i
end
end L2.My
end
section
set_option Elab.async false
set_option linter.all false
set_option maxRecDepth 100000
set_option autoImplicit false
/-! Lay10: more rules of expressions. -/
namespace L2.My
open PySem PySem.Spec PyProof.Rows
section
variable {X : Cx} {B : Hp × Hp} {ρ : List Slot} {ow : Ow} {e a b c : Expr} {es rest : List Expr} {pos p : Pos} {φ ψ χ : Pr} {d d1 d2 : PyData} {x y z : Bool} {i j : Int}
/-! in a tuple of data -/
def rInTD (K : PySem.W.Frag) : R2 := fun x y H Q => ∃ d ds, Dp K H x d ∧ Dp K H y (.tuple ds) ∧ SeqAt.shaped d = true ∧ SeqAt.shaped (.tuple ds) = true ∧ Q (.bl (ds.any fun z => PyData.eqv z d)) H
theorem op_inTD (hu : X.A.units + 65 < cLine) : OpR X (compareOp .In) (rInTD X.K) := by
  intro pins s σ H x y v u Q I rx ry h
  obtain ⟨d, ds, hd, he, sd, se, q⟩ := h
  obtain ⟨as, r1⟩ := Dp.reads I d x v hd rx
  obtain ⟨bs, r2⟩ := Dp.reads I (.tuple ds) y u he ry
  have hz : PyData.canLayAll0 ds = true := SeqAt.canLay_of_shaped (d := .tuple ds) se
  exact SeqAt.in_tuple_reads r2 r1 hz (SeqAt.canLay_of_shaped sd) (room_in_shaped sd hu) ⟨.bl _, H, I, rfl, q⟩
theorem r2_inTD {ds : List PyData} (n1 : nod d = true) (n2 : nods ds = true) (s1 : SeqAt.shaped d = true) (s2 : SeqAt.shaped (.tuple ds) = true) : R2b (rInTD X.K) (da d) (da (.tuple ds)) (ds.any fun z => PyData.eqv z d) := fun x y H Q h1 h2 q => ⟨d, ds, Da.dp h1 n1, Da.dp h2 (by simpa [nod] using n2), s1, s2, q⟩
/-! slices -/
def cutL {α : Type} (xs : List α) (lo hi : Option Int) : List α := (xs.drop (HT.sIx xs.length 0 lo)).take (HT.sIx xs.length xs.length hi - HT.sIx xs.length 0 lo)
theorem Das.cut {H : Hp} {vs : List V} {ds : List PyData} (t : Das H vs ds) (lo hi : Option Int) : Das H (cutV vs lo hi) (cutL ds lo hi) := by
  unfold cutV cutL
  rw [t.length]
  exact (t.drop _).take _
theorem cutL_map {α β : Type} (f : α → β) (xs : List α) (lo hi : Option Int) : cutL (xs.map f) lo hi = (cutL xs lo hi).map f := by
  unfold cutL
  rw [List.length_map, List.map_take, List.map_drop]
theorem cutL_to {α : Type} (xs : List α) (k : Nat) : cutL xs none (some (k : Nat)) = xs.take k := by
  unfold cutL
  rw [HT.sIx_none, HT.sIx_nat, List.drop_zero, Nat.sub_zero]
  by_cases h : k ≤ xs.length
  · rw [Nat.min_eq_left h]
  · rw [Nat.min_eq_right (by omega), List.take_length, List.take_of_length_le (by omega)]
theorem cutL_from {α : Type} (xs : List α) (k : Nat) : cutL xs (some (k : Nat)) none = xs.drop k := by
  unfold cutL
  rw [HT.sIx_none, HT.sIx_nat]
  by_cases h : k ≤ xs.length
  · rw [Nat.min_eq_left h, List.take_of_length_le (by rw [List.length_drop]; exact Nat.le_refl _)]
  · rw [Nat.min_eq_right (by omega), Nat.sub_self, List.take_zero, List.drop_of_length_le (by omega)]
def EO (X : Cx) (B : Hp × Hp) (ρ : List Slot) (ow : Ow) (e : Option Expr) (o : Option Int) : Prop := PO X e fun σ H Q => ∃ G, Ok B ρ ow G σ H ∧ ∀ G' H', Gr (G, H) G' H' → Q o H'
theorem eo_none : EO X B ρ ow none none := ⟨fun pins s σ H Q I ⟨G, ok, k⟩ => po_none.run pins s σ H Q I (k G H (.refl ok.gr.s))⟩
theorem eo_some (h : EV X B ρ ow e (da (.int i))) : EO X B ρ ow (some e) (some i) := ⟨fun pins s σ H Q I ⟨G, ok, k⟩ => (po_some h).run pins s σ H Q I ⟨G, ok, fun v G' H' g p => by
  cases (show Da G' v (.int i) from p)
  exact ⟨i, rfl, k G' H' g⟩⟩⟩
theorem ev_sliceL {ds : List PyData} {lo hi : Option Expr} {l u : Option Int} {p2 : Pos} (he : EV X B ρ ow e (da (.list ds))) (hl : EO X B ρ ow lo l) (hu : EO X B ρ ow hi u) : EV X B ρ ow (.Subscript e (.Slice lo hi none p2) pos) (da (.list (cutL ds l u))) :=
  L2.PE.weak (pe_slice sl_list he hl hu) fun σ H Q ⟨G, ok, k⟩ => ⟨G, ok, fun v G1 H1 g1 p1 => ⟨G1, ok.grow g1, fun G2 H2 g2 => ⟨G2, (ok.grow g1).grow g2, fun G3 H3 g3 => by
    obtain ⟨a, vs, rfl, e, t⟩ : ∃ a vs, v = .ref a ∧ G3 a = some (.lst vs) ∧ Das G3 vs ds := by
      cases Da.mono (g2.trans g3).g (show Da G1 v (.list ds) from p1) with
      | lst e t => exact ⟨_, _, rfl, e, t⟩
    refine ⟨a, vs, rfl, .of (g3.s _ _ e), fun q hq => ?_⟩
    have al := Gr.alloc (o := .lst (cutV vs l u)) g3.s hq
    exact k _ _ _ (((g1.trans g2).trans g3).trans al) (.lst upd_same ((t.cut l u).mono al.g))⟩⟩⟩
theorem ev_sliceT {ds : List PyData} {lo hi : Option Expr} {l u : Option Int} {p2 : Pos} (he : EV X B ρ ow e (da (.tuple ds))) (hl : EO X B ρ ow lo l) (hu : EO X B ρ ow hi u) : EV X B ρ ow (.Subscript e (.Slice lo hi none p2) pos) (da (.tuple (cutL ds l u))) :=
  L2.PE.weak (pe_slice sl_tupA he hl hu) fun σ H Q ⟨G, ok, k⟩ => ⟨G, ok, fun v G1 H1 g1 p1 => ⟨G1, ok.grow g1, fun G2 H2 g2 => ⟨G2, (ok.grow g1).grow g2, fun G3 H3 g3 => by
    obtain ⟨a, vs, rfl, e, t⟩ : ∃ a vs, v = .ref a ∧ G3 a = some (.tup vs) ∧ Das G3 vs ds := by
      cases Da.mono (g2.trans g3).g (show Da G1 v (.tuple ds) from p1) with
      | tup e t => exact ⟨_, _, rfl, e, t⟩
    refine ⟨a, vs, rfl, .of (g3.s _ _ e), fun hw => ?_, fun _ q hq => ?_⟩
    · have e2 : cutL ds l u = ds := by
        unfold cutL
        rw [t.length] at hw
        rw [hw.1, hw.2, List.drop_zero, Nat.sub_zero, List.take_length]
      rw [e2] at k
      exact k _ _ _ ((g1.trans g2).trans g3) (.tup e t)
    · have al := Gr.alloc (o := .tup (cutV vs l u)) g3.s hq
      exact k _ _ _ (((g1.trans g2).trans g3).trans al) (.tup upd_same ((t.cut l u).mono al.g))⟩⟩⟩
/-! texts -/
theorem ev_join {s : Str} {ss : List Str} {apos : Pos} {t : Bool} (ho : EV X B ρ ow a (da (.str s))) (he : EV X B ρ ow e (da (if t then .tuple (ss.map .str) else .list (ss.map .str)))) (hl : (ss.map (·.length)).sum + ss.length * s.length ≤ 16777216) (hs : starEach [e] X.env = [(false, eval e X.env)] := by rfl) (hbase : attributeBase a "join" X.env (eval a X.env) = eval a X.env := by rfl) (hline : (apos.endLine == pos.line) = true := by rfl) :
    EV X B ρ ow (.Call (.Attribute a "join" apos) [e] [] pos) (da (.str (Txt.join s ss))) := L2.PE.weak (pe_join ho he hs hbase hline) fun σ H Q ⟨G, ok, k⟩ => ⟨G, ok, fun v G1 H1 g1 p1 => by
  cases (show Da G1 v (.str s) from p1)
  refine ⟨⟨_, rfl⟩, G1, ok.grow g1, fun u G2 H2 g2 p2 => ?_⟩
  cases t with
  | true =>
    cases (show Da G2 u (.tuple (ss.map .str)) from p2) with
    | tup e t =>
      rw [Das.strs t] at e
      exact ⟨s, _, ss, rfl, rfl, .inr (.of (g2.s _ _ e)), hl, k _ G2 H2 (g1.trans g2) (.str _)⟩
  | false =>
    cases (show Da G2 u (.list (ss.map .str)) from p2) with
    | lst e t =>
      rw [Das.strs t] at e
      exact ⟨s, _, ss, rfl, rfl, .inl (.of (g2.s _ _ e)), hl, k _ G2 H2 (g1.trans g2) (.str _)⟩⟩
theorem ev_strS {s : Str} (hm : X.mg "str" = none) (ha : EV X B ρ ow e (da (.str s))) (hg : Gl X "str" := by rfl) (hs : starEach [e] X.env = (false, eval e X.env) :: starEach [] X.env := by rfl) : EV X B ρ ow (.Call (.Name "str" p) [e] [] pos) (da (.str s)) :=
  ev_callT SkE.call_str_str hm (ea_cons ha ea_nil hs) (fun vs G H Q s t k => by
    cases t with
    | cons p t =>
      cases t
      cases (show Da G _ (.str _) from p)
      exact ⟨_, rfl, k _ G H (.refl s) (.str _)⟩) hg (by decide +kernel) (by decide) (by decide) hs (by rfl)
/-- sorted of texts, the answer any that is their arrangement -/
theorem ev_sortedS {ss ys : List Str} (hm : X.mg "sorted" = none) (ha : EV X B ρ ow e (da (.list (ss.map .str)))) (hl : ss.length < 64) (hu : ∀ zs : List Str, zs.Perm ss → sortedS zs → zs = ys) (hg : Gl X "sorted" := by rfl) (hs : starEach [e] X.env = (false, eval e X.env) :: starEach [] X.env := by rfl) :
    EV X B ρ ow (.Call (.Name "sorted" p) [e] [] pos) (da (.list (ys.map .str))) :=
  ev_callB cr_sortedS hm (ea_cons ha ea_nil hs) (fun vs G H Q s t k => by
    cases t with
    | cons p t =>
      cases t
      cases (show Da G _ (.list (ss.map .str)) from p) with
      | lst e t =>
        rw [Das.strs t] at e
        refine ⟨_, ss, rfl, .of (s _ _ e), hl, fun zs q h1 h2 h3 => ?_⟩
        rw [hu zs h1 h2]
        exact k _ _ _ (.alloc s h3) (.lst upd_same (Das.of_strs ys))) hg (by decide +kernel) (by decide) (by decide) hs (by rfl)
/-- items of owned lists, values of owned dicts -/
theorem ev_ixO {ds : List PyData} {n : Nat} {nm : Str} {q : Addr} {p1 : Pos} (h : ρ[n]? = some (.ptr q)) (ho : (q, ol ds) ∈ ow) (hb : EV X B ρ ow b (da (.int i))) (hx : atI ds i = some d) (hs : PlainIx b := by intro _ _; rfl) (hN : X.N[n]? = some nm := by rfl)
    (hv : Vis X.env.scope nm := by first | exact Or.inl rfl | exact Or.inr (Or.inl rfl) | exact Or.inr (Or.inr rfl)) (hd : (nm == ("__debug__" : Str)) = false := by decide) (hcd : (nm == ("__classdict__" : Str)) = false := by decide) : EV X B ρ ow (.Subscript (.Name nm p1) b pos) (da d) :=
  L2.PE.weak (pe_ix ix_list (pe_var hN hv hd hcd) hb hs) fun σ H Q ⟨G, ok, k⟩ => ⟨_, ok.ptr h, G, ok, fun v2 G2 H2 g2 p2 => by
    cases (show Da G2 v2 (.int i) from p2)
    obtain ⟨_, _, u, e1, vs, rfl, t⟩ := (ok.grow g2).own _ ho
    have e1' : H2 q = some (.lst vs) := e1
    obtain ⟨v, h1, h2⟩ := atI_of t hx
    exact ⟨q, vs, i, v, rfl, rfl, .of e1', h1, k v G2 H2 g2 h2⟩⟩
theorem ev_dgetO {l : List (Key × PyData)} {key : Key} {n : Nat} {nm : Str} {q : Addr} {p1 : Pos} (hu : X.A.units + 1 < cLine) (h : ρ[n]? = some (.ptr q)) (ho : (q, od l) ∈ ow) (hb : EV X B ρ ow b (da (kd key))) (hx : lkD l key = some d) (hs : PlainIx b := by intro _ _; rfl) (hN : X.N[n]? = some nm := by rfl)
    (hv : Vis X.env.scope nm := by first | exact Or.inl rfl | exact Or.inr (Or.inl rfl) | exact Or.inr (Or.inr rfl)) (hd : (nm == ("__debug__" : Str)) = false := by decide) (hcd : (nm == ("__classdict__" : Str)) = false := by decide) : EV X B ρ ow (.Subscript (.Name nm p1) b pos) (da d) :=
  L2.PE.weak (pe_dget hu (pe_var hN hv hd hcd) hb hs) fun σ H Q ⟨G, ok, k⟩ => ⟨_, ok.ptr h, G, ok, fun v2 G2 H2 g2 p2 => by
    have ek : v2 = kV key := by
      have p2' : Da G2 v2 (kd key) := p2
      cases key <;> (cases p2'; rfl)
    obtain ⟨_, _, u, e1, kvs, rfl, t⟩ := (ok.grow g2).own _ ho
    have e1' : H2 q = some (.dK kvs) := e1
    rcases t.val key with ⟨_, z⟩ | ⟨v, d', h1, h2, h3⟩
    · rw [z] at hx; cases hx
    · rw [h2] at hx; cases hx
      exact ⟨q, v, rfl, by rw [ek, ← h1]; exact DGet.k e1', k v G2 H2 g2 h3⟩⟩
theorem dcF_fresh {α : Type} (kf : α → Key) (f : α → PyData) : ∀ (xs : List α) (l : List (Key × PyData)), (l.map (·.1) ++ xs.map kf).Nodup → xs.foldl (fun l x => ptD l (kf x) (f x)) l = l ++ xs.map fun x => (kf x, f x)
  | [], l, _ => by simp
  | x :: xs, l, h => by
    have hn : ¬ (l.any fun kv => decide (kv.1 = kf x)) = true := by
      intro z
      obtain ⟨q, hq, e⟩ := List.any_eq_true.mp z
      rw [List.map_cons, List.nodup_append] at h
      exact h.2.2 q.1 (List.mem_map_of_mem hq) (kf x) List.mem_cons_self (of_decide_eq_true e)
    have e1 : ptD l (kf x) (f x) = l ++ [(kf x, f x)] := by
      unfold ptD
      rw [if_neg hn]
    rw [List.foldl_cons, e1, dcF_fresh kf f xs _ (by simpa using h)]
    simp
theorem dcF_nodup {α : Type} {kf : α → Key} {f : α → PyData} {xs : List α} (h : (xs.map kf).Nodup) : dcF kf f xs = xs.map fun x => (kf x, f x) := by
  unfold dcF
  rw [dcF_fresh kf f xs [] (by simpa using h)]
  rfl
theorem lkD_map {α : Type} {kf : α → Key} {f : α → PyData} : ∀ {xs : List α} {x : α}, (xs.map kf).Nodup → x ∈ xs → lkD (xs.map fun x => (kf x, f x)) (kf x) = some (f x)
  | a :: xs, x, h, hm => by
    rw [List.map_cons, List.nodup_cons] at h
    rcases List.mem_cons.mp hm with e | hm
    · subst e
      simp [lkD]
    · have ne : ¬ kf a = kf x := fun e => h.1 (by rw [e]; exact List.mem_map_of_mem hm)
      have ih := lkD_map (f := f) h.2 hm
      simpa [lkD, ne] using ih
end
end L2.My
end
section
set_option Elab.async false
set_option linter.all false
set_option maxRecDepth 100000
set_option autoImplicit false
/-! Lay11: owned cells across calls, instances that are being made. -/
namespace L2.My
open PySem PySem.Spec PyProof.Rows

def pp (q : Addr) : Pr := ⟨fun _ v => v = .ref q, fun _ h => h⟩
def slPr : Slot → Pr
  | .no => ⟨fun _ _ => True, fun _ h => h⟩
  | .val φ => φ
  | .ptr p => pp p
theorem slPr_ok {G : Hp} {v : V} {s : Slot} (h : (slPr s).p G v) : SlotOk G (some (some v)) s := by
  cases s with
  | no => exact True.intro
  | val φ => exact ⟨v, rfl, h⟩
  | ptr p =>
    cases (show v = .ref p from h)
    exact rfl

/-! an instance's fields -/
inductive FsOk (G : Hp) : List (Str × V) → List (Str × Pr) → Prop where
  | nil : FsOk G [] []
  | cons {n : Str} {v : V} {φ : Pr} {us : List (Str × V)} {fs : List (Str × Pr)} : φ.p G v → FsOk G us fs → FsOk G ((n, v) :: us) ((n, φ) :: fs)
theorem FsOk.mono {G G' : Hp} (s : Same G G') : ∀ {us : List (Str × V)} {fs : List (Str × Pr)}, FsOk G us fs → FsOk G' us fs
  | _, _, .nil => .nil
  | _, _, .cons (φ := φ) a t => .cons (φ.mono s a) (FsOk.mono s t)
theorem FsOk.length {G : Hp} : ∀ {us : List (Str × V)} {fs : List (Str × Pr)}, FsOk G us fs → us.length = fs.length
  | _, _, .nil => rfl
  | _, _, .cons _ t => congrArg Nat.succ (FsOk.length t)
theorem FsOk.look {G : Hp} {f : Str} {φ : Pr} : ∀ {us : List (Str × V)} {fs : List (Str × Pr)}, FsOk G us fs → fs.lookup f = some φ → ∃ u, us.lookup f = some u ∧ φ.p G u
  | _, _, .nil, e => by cases e
  | _, _, .cons (n := n) (v := v) a t, e => by
    rw [List.lookup_cons] at e ⊢
    cases h : f == n with
    | true => rw [h] at e; cases e; exact ⟨v, rfl, a⟩
    | false => rw [h] at e; exact FsOk.look t e
theorem FsOk.look0 {G : Hp} {f : Str} : ∀ {us : List (Str × V)} {fs : List (Str × Pr)}, FsOk G us fs → fs.lookup f = none → us.lookup f = none
  | _, _, .nil, e => rfl
  | _, _, .cons (n := n) (v := v) a t, e => by
    rw [List.lookup_cons] at e ⊢
    cases h : f == n with
    | true => rw [h] at e; cases e
    | false => rw [h] at e; exact FsOk.look0 t e
theorem putF_new {f : Str} {v : V} : ∀ {us : List (Str × V)}, us.lookup f = none → putF f v us = us ++ [(f, v)]
  | [], _ => rfl
  | (n, u) :: us, e => by
    rw [List.lookup_cons] at e
    cases h : f == n with
    | true => rw [h] at e; cases e
    | false =>
      rw [h] at e
      have ne : ¬ n = f := fun z => by rw [z] at h; simp at h
      rw [putF, if_neg ne, putF_new e]
      rfl
theorem FsOk.add {G : Hp} {f : Str} {v : V} {φ : Pr} (p : φ.p G v) : ∀ {us : List (Str × V)} {fs : List (Str × Pr)}, FsOk G us fs → FsOk G (us ++ [(f, v)]) (fs ++ [(f, φ)])
  | _, _, .nil => .cons p .nil
  | _, _, .cons a t => .cons a (FsOk.add p t)
/-- an owned instance -/
def oin (C : Addr) (fs : List (Str × Pr)) : PrO := ⟨fun G o => ∃ dx us, o = .ins C dx us ∧ FsOk G us fs, fun s ⟨dx, us, e, h⟩ => ⟨dx, us, e, h.mono s⟩⟩
/-- an instance that stands -/
def inP (C : Addr) (fs : List (Str × Pr)) : Pr := ⟨fun G v => ∃ a dx us, v = .ref a ∧ G a = some (.ins C dx us) ∧ FsOk G us fs, fun s ⟨a, dx, us, e, e2, h⟩ => ⟨a, dx, us, e, s _ _ e2, h.mono s⟩⟩
theorem inP_fld {C : Addr} {fs : List (Str × Pr)} {f : Str} {φ : Pr} (h : fs.lookup f = some φ) : HasF C f (inP C fs) φ := fun H v ⟨a, dx, us, e, e2, t⟩ => by
  obtain ⟨u, h1, h2⟩ := t.look h
  exact ⟨a, dx, us, u, e, e2, h1, h2⟩
theorem inP_m {C : Addr} {fs : List (Str × Pr)} {f : Str} (h : fs.lookup f = none) : IsI C f (inP C fs) := fun H v ⟨a, dx, us, e, e2, t⟩ => ⟨a, dx, us, e, e2, t.look0 h⟩

/-! without some cells -/
def hidO (H : Hp) (as : List Addr) : Hp := fun a => if a ∈ as then none else H a
theorem hidO_some {H : Hp} {as : List Addr} {a : Addr} {o : HO} (h : hidO H as a = some o) : a ∉ as ∧ H a = some o := by
  unfold hidO at h
  split at h
  · cases h
  · next n => exact ⟨n, h⟩
theorem hidO_of {H : Hp} {as : List Addr} {a : Addr} (h : a ∉ as) : hidO H as a = H a := if_neg h
theorem hidO_same {H : Hp} {as : List Addr} : Same (hidO H as) H := fun a o h => (hidO_some h).2
structure OwAt (G H : Hp) (q : Addr × PrO) : Prop where
  out : G q.1 = none
  at_ : ∃ o, H q.1 = some o ∧ q.2.p G o
/-- a promise over owned cells: ow before, ow' behind -/
def spO {α : Type} (pre : α → Prop) (as : α → List Slot) (ow ow' : α → Ow) (φ : α → Pr) : Sp := fun vs H Q _ => ∃ x G, pre x ∧ Same G H ∧ PrAll G ((as x).map slPr) vs ∧ (∀ q ∈ ow x, OwAt G H q) ∧ ((ow x).map (·.1)).Nodup ∧
  ∀ v G' H', Gr (G, hidO H ((ow x).map (·.1))) G' H' → (∀ q ∈ ow' x, OwAt G' H' q) → (φ x).p G' v → Q v H'
def startL (N : List Str) (as : List Slot) : List Slot := as ++ List.replicate (N.length - as.length) .no
theorem PrAll.slot {G : Hp} : ∀ {as : List Slot} {vs : List V} {i : Nat} {s : Slot}, PrAll G (as.map slPr) vs → as[i]? = some s → ∃ v, vs[i]? = some v ∧ SlotOk G (some (some v)) s := fun {as vs i s} t e => by
  have e2 : (as.map slPr)[i]? = some (slPr s) := by rw [List.getElem?_map, e]; rfl
  obtain ⟨v, h1, h2⟩ := t.get e2
  exact ⟨v, h1, slPr_ok h2⟩
theorem ok_startL {N : List Str} {as : List Slot} {ow : Ow} {vs : List V} {G H : Hp} (s : Same G H) (t : PrAll G (as.map slPr) vs) (hl : as.length ≤ N.length) (ho : ∀ q ∈ ow, OwAt G H q) (nd : (ow.map (·.1)).Nodup) : Ok (G, hidO H (ow.map (·.1))) (startL N as) ow G (start N vs) H := by
  have el := t.length
  rw [List.length_map] at el
  refine ⟨⟨Same.refl _, hidO_same, s, fun _ h _ => h⟩, fun i sl e => ?_, ?_, fun q hq => ⟨if_pos (List.mem_map.mpr ⟨q, hq, rfl⟩), (ho q hq).out, (ho q hq).at_⟩, nd⟩
  · unfold startL at e
    unfold start
    by_cases hi : i < as.length
    · rw [List.getElem?_append_left hi] at e
      rw [List.getElem?_append_left (by rw [List.length_map]; omega), List.getElem?_map]
      obtain ⟨v, h1, h2⟩ := t.slot e
      rw [h1]
      exact h2
    · rw [List.getElem?_append_right (by omega), List.getElem?_replicate] at e
      split at e
      · cases e; exact True.intro
      · cases e
  · unfold startL start
    simp only [List.length_append, List.length_map, List.length_replicate]
    omega
section
variable {P : Program} {w : World} {K : PySem.W.Frag} {mg : Str → Option Value} {base : Heap}
/-- the body of a def keeps the promise over owned cells -/
def BodyO (P : Program) (w : World) (K : PySem.W.Frag) (mg : Str → Option Value) (base : Heap) (N : List Str) (qual : Str) (st : Stmt) (k : Nat) (as : List Slot) (ow ow' : Ow) (φ : Pr) : Prop :=
  ∀ (f : Addr) (cdv : Value) (A : Around) (outer : List Env) (s : Shared) (H0 H : Hp) (E : XK) (B : Hp × Hp), Room k (cxF P w K mg base N qual st f cdv A outer s H E).A →
    SV (cxF P w K mg base N qual st f cdv A outer s H E) B (startL N as) ow (defBody st) { nx := fun _ ow2 => (∀ q ∈ ow', q ∈ ow2) ∧ ∀ H, φ.p H .non, rt := φ, ro := fun _ ow2 => ∀ q ∈ ow', q ∈ ow2 }
theorem fn_bodyO {x qual : Str} {st : Stmt} {f : Addr} {fd : FuncData} {N ps : List Str} {k : Nat} {α : Type} {pre : α → Prop} {as : α → List Slot} {ow ow' : α → Ow} {φ : α → Pr} {dvs : List V} {kws : List (Str × V)} (F : FunD K x qual (defArgs st) (defBody st) (defScope st) dvs kws f fd) (S : FnScope N ps (defScope st))
    (hl : ∀ x, (as x).length = ps.length) (hN : ps.length ≤ N.length) (hb : ∀ x, pre x → BodyO P w K mg base N qual st k (as x) (ow x) (ow' x) (φ x)) : FnOk P w K mg base CX0 (k + 1) f fd ps (spO pre as ow ow' φ) := by
  refine F.ok S (fun vs H Q E ⟨x, G, _, _, t, _⟩ => by
    have := t.length
    rw [List.length_map, hl x] at this
    exact this.symm) fun cdv A outer s H vs Q E hr ⟨x, G, hp, sm, t, ho, nd, q⟩ => ?_
  refine ⟨_, L2.PSs.nox (hb x hp f cdv A outer s H H E _ hr), ⟨G, ok_startL sm t (by rw [hl x]; exact hN) ho nd⟩, ⟨fun ρ ow2 G' σ H' z ok => q .non G' H' ok.gr (fun r hr => ⟨(ok.own r (z.1 r hr)).out, (ok.own r (z.1 r hr)).at_⟩) (z.2 G'), fun v ow2 G' H' z oo g p => q v G' H' g (fun r hr => ⟨(oo r (z r hr)).out, (oo r (z r hr)).at_⟩) p, fun ρ ow G' σ H' z ok => z.elim, fun ρ ow G' σ H' z ok => z.elim⟩⟩
theorem def_mkO {nm : Str} {st : Stmt} {N ps : List Str} {k : Nat} {α : Type} {pre : α → Prop} {as : α → List Slot} {ow ow' : α → Ow} {φ : α → Pr} (T : FunAt K mg nm st) (S : FnScope N ps (defScope st))
    (hbind : ∀ (kV doc pm : Value) (an : Option Addr) (cdv ct : Value) (us : List Value), us.length = ps.length → bindArgs (PySem.W.fnOf nm nm (defArgs st) (defBody st) (defScope st) .none kV doc pm an cdv ct) ⟨us, []⟩ = pure (ps.zip us))
    (hl : ∀ x, (as x).length = ps.length) (hN : ps.length ≤ N.length) (hb : ∀ x, pre x → BodyO P w K mg base N nm st k (as x) (ow x) (ow' x) (φ x)) : Def P w K mg base nm (k + 1) ps (spO pre as ow ow' φ) := by
  obtain ⟨f, fd, F, hm⟩ := T.ex
  exact ⟨f, fd, fn_bodyO F S hl hN hb, hm, F.kp, F.bindsN hbind⟩
theorem defm_mkO {C : Addr} {m qual : Str} {st : Stmt} {N ps : List Str} {k : Nat} {α : Type} {pre : α → Prop} {as : α → List Slot} {ow ow' : α → Ow} {φ : α → Pr} (T : MethAt K C m qual st) (S : FnScope N ps (defScope st))
    (hbind : ∀ (kV doc pm : Value) (an : Option Addr) (cdv ct : Value) (us : List Value), us.length = ps.length → bindArgs (PySem.W.fnOf m qual (defArgs st) (defBody st) (defScope st) .none kV doc pm an cdv ct) ⟨us, []⟩ = pure (ps.zip us))
    (hl : ∀ x, (as x).length = ps.length) (hN : ps.length ≤ N.length) (hb : ∀ x, pre x → BodyO P w K mg base N qual st k (as x) (ow x) (ow' x) (φ x)) : DefM P w K mg base C m (k + 1) ps (spO pre as ow ow' φ) := by
  obtain ⟨f, fd, F, hm⟩ := T.ex
  exact ⟨f, fd, fn_bodyO F S hl hN hb, hm, F.bindsN hbind⟩
end

/-! expressions that write owned cells -/
def tEX (B : Hp × Hp) (ρ : List Slot) (ow : Ow) (φ : Pr) (ow' : Ow) : TE := fun σ H Q => ∃ G, Ok B ρ ow G σ H ∧ ∀ v G' H', Ok B ρ ow' G' σ H' → Same G G' → φ.p G' v → Q v H'
def EX (X : Cx) (B : Hp × Hp) (ρ : List Slot) (ow : Ow) (e : Expr) (φ : Pr) (ow' : Ow) : Prop := PE X e (tEX B ρ ow φ ow')
/-- behind a call over owned cells -/
theorem Ok.called {B : Hp × Hp} {ρ : List Slot} {ow ow' r : Ow} {G H G' H' : Hp} {σ : St} (ok : Ok B ρ (ow ++ r) G σ H) (hs : ow'.map (·.1) = ow.map (·.1)) (g : Gr (G, hidO H (ow.map (·.1))) G' H') (ho : ∀ q ∈ ow', OwAt G' H' q) : Ok B ρ (ow' ++ r) G' σ H' := by
  have inn : ∀ q ∈ ow ++ r, OwOk B G H q := ok.own
  have nd := ok.ap
  rw [List.map_append] at nd
  have hnew : ∀ a o, B.2 a = some o → a ∉ ow.map (·.1) := fun a o e z => by
    obtain ⟨q, hq, rfl⟩ := List.mem_map.mp z
    rw [(inn q (List.mem_append_left _ hq)).new] at e
    cases e
  have hrest : ∀ q ∈ r, q.1 ∉ ow.map (·.1) := fun q hq z => (List.nodup_append.mp nd).2.2 _ z _ (List.mem_map.mpr ⟨q, hq, rfl⟩) rfl
  refine ⟨⟨ok.gr.g.trans g.g, fun a o e => g.h a o ((hidO_of (hnew a o e)).trans (ok.gr.h a o e)), g.s, fun a h1 h2 => ?_⟩, fun i s e => (ok.sl i s e).mono g.g, ok.len, fun q hq => ?_, by rw [List.map_append, hs]; exact nd⟩
  · obtain ⟨o, e⟩ := Option.ne_none_iff_exists'.mp h2
    exact g.n a (ok.gr.n a h1 h2) (by
      show hidO H _ a ≠ none
      rw [hidO_of (hnew a o e), ok.gr.h a o e]
      simp)
  · rcases List.mem_append.mp hq with hq | hq
    · have h1 : q.1 ∈ ow.map (·.1) := by rw [← hs]; exact List.mem_map.mpr ⟨q, hq, rfl⟩
      obtain ⟨q0, hq0, e0⟩ := List.mem_map.mp h1
      refine ⟨?_, (ho q hq).out, (ho q hq).at_⟩
      have := (inn q0 (List.mem_append_left _ hq0)).new
      rw [e0] at this
      exact this
    · obtain ⟨n, out, o, e, p⟩ := inn q (List.mem_append_right _ hq)
      have h1 := hrest q hq
      have h2 : hidO H (ow.map (·.1)) q.1 = some o := (hidO_of h1).trans e
      exact ⟨n, g.n _ out (by show hidO H _ q.1 ≠ none; rw [h2]; simp), o, g.h _ _ h2, q.2.mono g.g p⟩
section
variable {X : Cx} {B : Hp × Hp} {ρ : List Slot} {ow ow' : Ow} {e o : Expr} {es : List Expr} {φ ψ : Pr} {pos : Pos} {k : Nat} {ps : List Str} {α : Type} {pre : α → Prop} {as : α → List Slot} {wa wb : α → Ow} {r : α → Pr} {nm : Str} {p : Pos}
theorem pv (n : Nat) {nm : Str} {p : Addr} (h : ρ[n]? = some (.ptr p) := by rfl) (hN : X.N[n]? = some nm := by rfl)
    (hv : Vis X.env.scope nm := by first | exact Or.inl rfl | exact Or.inr (Or.inl rfl) | exact Or.inr (Or.inr rfl)) (hd : (nm == ("__debug__" : Str)) = false := by decide) (hcd : (nm == ("__classdict__" : Str)) = false := by decide) : EV X B ρ ow (.Name nm pos) (pp p) :=
  L2.PE.weak (pe_var hN hv hd hcd) fun σ H Q ⟨G, ok, k⟩ => ⟨.ref p, ok.ptr h, k _ G H (.refl ok.gr.s) rfl⟩
/-- an owned cell, looked at -/
theorem ep_own {p : Addr} {o : PrO} (he : EV X B ρ ow e (pp p)) (ho : (p, o) ∈ ow) (w : ∀ H u, H p = some u → o.p H u → φ.p H (.ref p)) : EP X B ρ ow e φ := L2.PE.weak he fun σ H Q ⟨G, ok, k⟩ => ⟨G, ok, fun v G1 H1 g1 p1 => by
  cases (show v = .ref p from p1)
  obtain ⟨_, _, u, e1, q⟩ := (ok.grow g1).own _ ho
  exact k _ G1 H1 g1 (w H1 u e1 (o.mono g1.s q))⟩
/-- o.f, o an owned instance -/
theorem ev_fldO {C : Addr} {p : Addr} {fs : List (Str × Pr)} {f : Str} (c : Cls X.K C) (n : NoAttr X.K C f) (he : EV X B ρ ow e (pp p)) (ho : (p, oin C fs) ∈ ow) (h : fs.lookup f = some ψ) (hb : attributeBase e f X.env (eval e X.env) = eval e X.env := by rfl) : EV X B ρ ow (.Attribute e f pos) ψ :=
  L2.PE.weak (pe_fld he hb) fun σ H Q ⟨G, ok, q⟩ => ⟨G, ok, fun v G1 H1 g1 p1 => by
    cases (show v = .ref p from p1)
    obtain ⟨_, _, u, e1, dx, us, rfl, t⟩ := (ok.grow g1).own _ ho
    obtain ⟨z, h1, h2⟩ := t.look h
    exact ⟨p, C, dx, us, z, rfl, e1, c, n, h1, q z G1 H1 g1 h2⟩⟩
theorem ex_call (d : Def X.prog X.w X.K X.mg X.base nm k ps (spO pre as wa wb r)) (x : α) (hp : pre x) (hr : Room k X.A) (ha : EA X B ρ (wa x ++ ow) (e :: es) ((as x).map slPr)) (hs : (wb x).map (·.1) = (wa x).map (·.1) := by rfl) (hg : Gl X nm := by rfl) (hdb : (nm == ("__debug__" : Str)) = false := by decide)
    (he : starEach (e :: es) X.env = (false, eval e X.env) :: starEach es X.env := by rfl) (hpl : (backTo pos (starEach es X.env)).any (·.1) = false := by rfl) : EX X B ρ (wa x ++ ow) (.Call (.Name nm p) (e :: es) [] pos) (r x) (wb x ++ ow) := by
  obtain ⟨f, fd, F, hm, kp, b⟩ := d.ex
  refine L2.PE.weak (pe_call F hr hg hm kp b .nil pass0 ha hdb he hpl) fun σ H Q ⟨G, ok, q⟩ => ⟨G, ok, fun vs G1 H1 g1 t => ?_⟩
  show spO pre as wa wb r (vs ++ []) H1 Q E0
  rw [List.append_nil]
  have ok1 := ok.grow g1
  have nd := ok1.ap
  rw [List.map_append] at nd
  exact ⟨x, G1, hp, g1.s, t, fun z hz => ⟨(ok1.own z (List.mem_append_left _ hz)).out, (ok1.own z (List.mem_append_left _ hz)).at_⟩, (List.nodup_append.mp nd).1, fun v G2 H2 g2 o2 p2 => q v G2 H2 (ok1.called hs g2 o2) (g1.g.trans g2.g) p2⟩
theorem ex_meth0 {C : Addr} {m : Str} {apos : Pos} {pl : Sem Bool} {a : Addr} {fs : List (Str × Pr)} (c : Cls X.K C) (d : DefM X.prog X.w X.K X.mg X.base C m k ps (spO pre as wa wb r)) (x : α) (hp : pre x) (hr : Room k X.A) (ho : EV X B ρ (wa x ++ ow) o (pp a)) (hi : (a, oin C fs) ∈ wa x) (hm0 : fs.lookup m = none) (hx : as x = [.ptr a]) (hs : (wb x).map (·.1) = (wa x).map (·.1) := by rfl)
    (hc : eval (.Call (.Attribute o m apos) [] [] pos) X.env = (do
      let ov ← eval o X.env
      standAt apos.atName
      let (f, first) ← holding [ov] (getMethod ov m pl)
      callWith pos f first (backTo pos (starEach [] X.env)) (backToKw pos (keywordEach [] X.env))) := by rfl) : EX X B ρ (wa x ++ ow) (.Call (.Attribute o m apos) [] [] pos) (r x) (wb x ++ ow) := by
  obtain ⟨f, fd, F, hm, b⟩ := d.ex
  refine L2.PE.weak (pe_meth0 ho c hm F hr b .nil pass0 hc) fun σ H Q ⟨G, ok, q⟩ => ⟨G, ok, fun v G1 H1 g1 p1 => ?_⟩
  cases (show v = .ref a from p1)
  have ok1 := ok.grow g1
  have nd := ok1.ap
  rw [List.map_append] at nd
  obtain ⟨_, _, u, e1, dx, us, rfl, t⟩ := ok1.own _ (List.mem_append_left _ hi)
  refine ⟨a, dx, us, rfl, e1, t.look0 hm0, x, G1, hp, g1.s, by rw [hx]; exact .cons rfl .nil, fun z hz => ⟨(ok1.own z (List.mem_append_left _ hz)).out, (ok1.own z (List.mem_append_left _ hz)).at_⟩, (List.nodup_append.mp nd).1, fun v G2 H2 g2 o2 p2 => q v G2 H2 (ok1.called hs g2 o2) (g1.g.trans g2.g) p2⟩
theorem ex_meth {C : Addr} {m : Str} {apos : Pos} {pl : Sem Bool} {a : Addr} {fs : List (Str × Pr)} {ss : List Slot} (c : Cls X.K C) (d : DefM X.prog X.w X.K X.mg X.base C m k ps (spO pre as wa wb r)) (x : α) (hp : pre x) (hr : Room k X.A) (ho : EV X B ρ (wa x ++ ow) o (pp a)) (hi : (a, oin C fs) ∈ wa x) (hm0 : fs.lookup m = none) (ha : EA X B ρ (wa x ++ ow) (e :: es) (ss.map slPr)) (hx : as x = .ptr a :: ss) (hs : (wb x).map (·.1) = (wa x).map (·.1) := by rfl)
    (hc : eval (.Call (.Attribute o m apos) (e :: es) [] pos) X.env = (do
      let ov ← eval o X.env
      standAt apos.atName
      let (f, first) ← holding [ov] (getMethod ov m pl)
      callWith pos f first (backTo pos (starEach (e :: es) X.env)) (backToKw pos (keywordEach [] X.env))) := by rfl)
    (he : starEach (e :: es) X.env = (false, eval e X.env) :: starEach es X.env := by rfl) (hpl : (backTo pos (starEach es X.env)).any (·.1) = false := by rfl) : EX X B ρ (wa x ++ ow) (.Call (.Attribute o m apos) (e :: es) [] pos) (r x) (wb x ++ ow) := by
  obtain ⟨f, fd, F, hm, b⟩ := d.ex
  refine L2.PE.weak (pe_meth ho c hm F hr b .nil pass0 ha he hpl hc) fun σ H Q ⟨G, ok, q⟩ => ⟨G, ok, fun v G1 H1 g1 p1 => ?_⟩
  cases (show v = .ref a from p1)
  have ok1 := ok.grow g1
  obtain ⟨_, _, u, e1, dx, us, rfl, t⟩ := ok1.own _ (List.mem_append_left _ hi)
  refine ⟨a, dx, us, rfl, e1, t.look0 hm0, G1, ok1, fun vs G2 H2 g2 t2 => ?_⟩
  have ok2 := ok1.grow g2
  have nd := ok2.ap
  rw [List.map_append] at nd
  show spO pre as wa wb r (.ref a :: (vs ++ [])) H2 Q E0
  rw [List.append_nil]
  exact ⟨x, G2, hp, g2.s, by rw [hx]; exact .cons rfl t2, fun z hz => ⟨(ok2.own z (List.mem_append_left _ hz)).out, (ok2.own z (List.mem_append_left _ hz)).at_⟩, (List.nodup_append.mp nd).1, fun v G3 H3 g3 o3 p3 => q v G3 H3 (ok2.called hs g3 o3) ((g1.g.trans g2.g).trans g3.g) p3⟩
theorem ex_of (h : EV X B ρ ow e φ) : EX X B ρ ow e φ ow := L2.PE.weak h fun σ H Q ⟨G, ok, k⟩ => ⟨G, ok, fun v G' H' g p => k v G' H' (ok.grow g) g.g p⟩
theorem ex_as (h : EX X B ρ ow e φ ow') (w : ∀ H v, φ.p H v → ψ.p H v) : EX X B ρ ow e ψ ow' := L2.PE.weak h fun σ H Q ⟨G, ok, k⟩ => ⟨G, ok, fun v G' H' g s p => k v G' H' g s (w _ _ p)⟩
/-! blocks -/
variable {rest : List Stmt} {D : Out} {i : Nat} {p' : Pos}
theorem sv_setX (hN : X.N.Nodup) (he : EX X B ρ ow e φ ow') (hr : SV X B (ρ.set i (.val φ)) ow' rest D) (hi : X.N[i]? = some nm := by rfl) (hx : Loc X.env.scope nm := by first | exact Or.inl rfl | exact Or.inr rfl)
    (hs : swapsWith e (some (.Name nm p')) pos.line X.env = pure false := by rfl) (hf : X.fn nm = true ∨ X.env.scope.names.lookup nm = some .local := by first | exact .inl rfl | exact .inr rfl) : SV X B ρ ow (.Assign [.Name nm p'] e pos :: rest) D :=
  sv_step (ps_set hN hi hx he hs hf) fun E σ H ⟨⟨G, ok⟩, o⟩ => ⟨G, ok, fun v G' H' g s p => sv_go hr (g.set (s := .val φ) ⟨v, rfl, p⟩) o⟩
theorem sv_exprX (he : EX X B ρ ow e φ ow') (hr : SV X B ρ ow' rest D) (hs : swapsWith e none pos.line X.env = pure false := by rfl) : SV X B ρ ow (.Expr e pos :: rest) D :=
  sv_step (ps_expr he hs) fun E σ H ⟨⟨G, ok⟩, o⟩ => ⟨G, ok, fun v G' H' g s p => sv_go hr g o⟩
theorem sv_retX (he : EX X B ρ ow e φ ow') (hq : ∀ H v, φ.p H v → D.rt.p H v) (ho : ∀ v, D.ro v ow' := by exact fun _ => True.intro) : SV X B ρ ow (.Return (some e) pos :: rest) D :=
  sv_step (ps_ret he) fun E σ H ⟨⟨G, ok⟩, o⟩ => ⟨G, ok, fun v G' H' g s p => o.rt v ow' G' H' (ho v) g.own g.gr (hq _ _ p)⟩
/-- self.f = e -/
theorem sv_fld {C : Addr} {a : Addr} {fs : List (Str × Pr)} {f : Str} {apos : Pos} (c : Cls X.K C) (n : NoAttr X.K C f) (ho : EV X B ρ ((a, oin C fs) :: ow) o (pp a)) (he : EV X B ρ ((a, oin C fs) :: ow) e φ) (hf : fs.lookup f = none) (hl : fs.length < 1000) (hr : SV X B ρ ((a, oin C (fs ++ [(f, φ)])) :: ow) rest D)
    (hs : swapsWith e (some (.Attribute o f apos)) pos.line X.env = pure false := by rfl) : SV X B ρ ((a, oin C fs) :: ow) (.Assign [.Attribute o f apos] e pos :: rest) D :=
  sv_step (ps_fld ho he hs) fun E σ H ⟨⟨G, ok⟩, oo⟩ => ⟨G, ok, fun v G1 H1 g1 p1 => ⟨G1, ok.grow g1, fun u G2 H2 g2 p2 => by
    cases (show u = .ref a from p2)
    have ok2 := (ok.grow g1).grow g2
    obtain ⟨_, _, _, e1, dx, us, rfl, t⟩ := ok2.own _ List.mem_cons_self
    have h0 := t.look0 hf
    refine ⟨a, C, dx, us, rfl, e1, c, n, by rw [t.length]; exact hl, ?_⟩
    rw [putF_new h0]
    exact sv_go hr (ok2.write ⟨dx, _, rfl, t.add (φ.mono g2.g p1)⟩) oo⟩⟩
/-- self.f = [..], owned -/
theorem sv_fldL {C : Addr} {a : Addr} {fs : List (Str × Pr)} {f : Str} {apos lp : Pos} {ds : List PyData} (c : Cls X.K C) (n : NoAttr X.K C f) (ho : ∀ q, EV X B ρ ((q, ol ds) :: (a, oin C fs) :: ow) o (pp a)) (he : ED X B ρ ((a, oin C fs) :: ow) es ds) (hf : fs.lookup f = none) (hl : fs.length < 1000) (hds : ds.length ≤ sizeLine) (hr : ∀ q, SV X B ρ ((a, oin C (fs ++ [(f, pp q)])) :: (q, ol ds) :: ow) rest D)
    (hs : swapsWith (.List es lp) (some (.Attribute o f apos)) pos.line X.env = pure false := by rfl) : SV X B ρ ((a, oin C fs) :: ow) (.Assign [.Attribute o f apos] (.List es lp) pos :: rest) D :=
  sv_step (ps_fld (pe_w (X := X)) (pe_lst he) hs) fun E σ H ⟨⟨G, ok⟩, oo⟩ => ⟨G, ok, fun vs G1 H1 g1 t => ⟨by rw [t.length]; exact hds, fun q hq => by
    have ok1 := (ok.grow g1).mk_own (ψ := ol ds) hq ⟨vs, rfl, t⟩
    refine L2.PE.to (ho q) ⟨G1, ok1, fun u G2 H2 g2 p2 => ?_⟩
    cases (show u = .ref a from p2)
    have ok2 := ok1.grow g2
    obtain ⟨_, _, _, e1, dx, us, rfl, t⟩ := ok2.own _ (List.mem_cons_of_mem _ List.mem_cons_self)
    have h0 := t.look0 hf
    refine ⟨a, C, dx, us, rfl, e1, c, n, by rw [t.length]; exact hl, ?_⟩
    rw [putF_new h0]
    have nd := ok2.ap
    simp only [List.map_cons, List.nodup_cons, List.mem_cons, not_or] at nd
    have ok3 : Ok B ρ ((a, oin C fs) :: (q, ol ds) :: ow) G2 σ H2 := ok2.perm (fun z hz => by
      rcases List.mem_cons.mp hz with e | hz
      · rw [e]; simp
      · rcases List.mem_cons.mp hz with e | hz
        · rw [e]; simp
        · exact List.mem_cons_of_mem _ (List.mem_cons_of_mem _ hz)) (by
      simp only [List.map_cons, List.nodup_cons, List.mem_cons, not_or]
      exact ⟨⟨fun z => nd.1.1 z.symm, nd.2.1⟩, nd.1.2, nd.2.2⟩)
    exact sv_go (hr q) (ok3.write ⟨dx, _, rfl, t.add rfl⟩) oo⟩⟩
end
end L2.My
end
section
set_option Elab.async false
set_option linter.all false
set_option maxRecDepth 100000
set_option autoImplicit false
/-! Lay12: an owned receiver of a pure method; making instances. -/
namespace L2.My
open PySem PySem.Spec PyProof.Rows
mutual
theorem Da.hid1 {H : Hp} {p C dx : Addr} {us : List (Str × V)} (e0 : H p = some (.ins C dx us)) : ∀ {v : V} {d : PyData}, Da H v d → Da (hidO H [p]) v d
  | _, _, .non => .non
  | _, _, .bl b => .bl b
  | _, _, .int i => .int i
  | _, _, .str x => .str x
  | _, _, .lst (a := a) e t => .lst ((hidO_of (fun z => by rw [List.mem_singleton.mp z, e0] at e; cases e)).trans e) (Das.hid1 e0 t)
  | _, _, .tup (a := a) e t => .tup ((hidO_of (fun z => by rw [List.mem_singleton.mp z, e0] at e; cases e)).trans e) (Das.hid1 e0 t)
  | _, _, .dct (a := a) e t q => .dct ((hidO_of (fun z => by rw [List.mem_singleton.mp z, e0] at e; cases e)).trans e) (Dae.hid1 e0 t) q
theorem Das.hid1 {H : Hp} {p C dx : Addr} {us : List (Str × V)} (e0 : H p = some (.ins C dx us)) : ∀ {vs : List V} {ds : List PyData}, Das H vs ds → Das (hidO H [p]) vs ds
  | _, _, .nil => .nil
  | _, _, .cons a t => .cons (Da.hid1 e0 a) (Das.hid1 e0 t)
theorem Dae.hid1 {H : Hp} {p C dx : Addr} {us : List (Str × V)} (e0 : H p = some (.ins C dx us)) : ∀ {vs : List (Key × V)} {ds : List (Key × PyData)}, Dae H vs ds → Dae (hidO H [p]) vs ds
  | _, _, .nil => .nil
  | _, _, .cons a t => .cons (Da.hid1 e0 a) (Dae.hid1 e0 t)
end
section
variable {X : Cx} {B : Hp × Hp} {ρ : List Slot} {ow ow' : Ow} {e o : Expr} {es : List Expr} {φ ψ χ : Pr} {pos : Pos} {k : Nat} {ps : List Str} {α : Type} {nm : Str} {p : Pos}
/-- self.m(), self an owned instance, m pure -/
theorem ev_methO {pre : α → Prop} {as : α → List Pr} {r : α → Pr} {C : Addr} {m : Str} {apos : Pos} {pl : Sem Bool} {a : Addr} {fs : List (Str × Pr)} {d : PyData} (c : Cls X.K C) (F0 : DefM X.prog X.w X.K X.mg X.base C m k ps (spA pre as r)) (x : α) (hp : pre x) (hr : Room k X.A) (ho : EV X B ρ ow o (pp a)) (hi : (a, oin C fs) ∈ ow) (hm0 : fs.lookup m = none) (hx : as x = [χ]) (hrx : r x = da d)
    (hχ : ∀ G u, (oin C fs).p G u → G a = some u → χ.p G (.ref a))
    (hc : eval (.Call (.Attribute o m apos) [] [] pos) X.env = (do
      let ov ← eval o X.env
      standAt apos.atName
      let (f, first) ← holding [ov] (getMethod ov m pl)
      callWith pos f first (backTo pos (starEach [] X.env)) (backToKw pos (keywordEach [] X.env))) := by rfl) : EV X B ρ ow (.Call (.Attribute o m apos) [] [] pos) (da d) := by
  obtain ⟨f, fd, F, hm, b⟩ := F0.ex
  refine L2.PE.weak (pe_meth0 ho c hm F hr b .nil pass0 hc) fun σ H Q ⟨G, ok, q⟩ => ⟨G, ok, fun v G1 H1 g1 p1 => ?_⟩
  cases (show v = .ref a from p1)
  have ok1 := ok.grow g1
  obtain ⟨nw, out, u, e1, q1⟩ := ok1.own _ hi
  obtain ⟨dx, us, rfl, t⟩ := q1
  have sg : Same G1 (upd G1 a (.ins C dx us)) := fun z y hz => by rw [upd_ne (ne_of_none hz out)]; exact hz
  refine ⟨a, dx, us, rfl, e1, t.look0 hm0, x, hp, upd G1 a (.ins C dx us), fun z y hz => ?_, ?_, fun v2 G2 H2 g2 p2 => ?_⟩
  · by_cases hb : z = a
    · subst hb; rw [upd_same] at hz; cases hz; exact e1
    · rw [upd_ne hb] at hz; exact g1.s z y hz
  · rw [hx]
    exact .cons (hχ _ _ ⟨dx, us, rfl, t.mono sg⟩ upd_same) .nil
  · rw [hrx] at p2
    have ea : G2 a = some (.ins C dx us) := g2.g a _ upd_same
    refine q v2 (hidO G2 [a]) H2 (g1.trans ⟨fun z y hz => ?_, g2.h, hidO_same.trans g2.s, fun z h1 h2 => ?_⟩) (Da.hid1 ea p2)
    · have ne : z ≠ a := ne_of_none hz out
      rw [hidO_of (by simpa using ne)]
      exact g2.g z y (sg z y hz)
    · by_cases hb : z = a
      · subst hb; exact if_pos (List.mem_singleton.mpr rfl)
      · rw [hidO_of (by simpa using hb)]
        exact g2.n z (by show upd G1 a _ z = none; rw [upd_ne hb]; exact h1) h2
/-! keywords -/
def EK (X : Cx) (B : Hp × Hp) (ρ : List Slot) (ow : Ow) (kws : List Keyword) (φs : List Pr) : Prop := PK X kws (tEA B ρ ow φs)
theorem ek_nil : EK X B ρ ow [] [] := ⟨fun pos pins s σ H Q I ⟨G, ok, k⟩ => pk_nil.run pos pins s σ H Q I (k [] G H (.refl ok.gr.s) .nil)⟩
theorem _root_.L2.PK.weak {X : Cx} {kws : List Keyword} {t u : TA} (h : PK X kws t) (w : ∀ σ H Q, u σ H Q → t σ H Q) : PK X kws u := ⟨fun pos pins s σ H Q I q => h.run pos pins s σ H Q I (w σ H Q q)⟩
theorem ek_cons {kws : List Keyword} {φs : List Pr} {n : Option Str} {kp : Pos} (h : EV X B ρ ow e φ) (hr : EK X B ρ ow kws φs) : EK X B ρ ow (⟨n, e, kp⟩ :: kws) (φ :: φs) :=
  L2.PK.weak (pk_cons h hr) fun σ H Q ⟨G, ok, k⟩ => ⟨G, ok, fun v G1 H1 g1 p1 => ⟨G1, ok.grow g1, fun vs G2 H2 g2 t => k (v :: vs) G2 H2 (g1.trans g2) (.cons (φ.mono g2.g p1) t)⟩⟩
/-- an owned instance made and let go -/
theorem made_gr {G H G2 H2 : Hp} {a dx C : Addr} {o : HO} (s : Same G H) (ha : H a = none) (hd : H dx = none) (hne : dx ≠ a) (g : Gr (G, hidO (upd (upd H dx (.own a)) a (.ins C dx [])) [a]) G2 H2) (out : G2 a = none) (hat : H2 a = some o) : Gr (G, H) (upd G2 a o) H2 ∧ Same G2 (upd G2 a o) := by
  have hH : ∀ z y, H z = some y → z ≠ a ∧ z ≠ dx := fun z y hz => ⟨fun e => (by rw [e, ha] at hz; cases hz), fun e => (by rw [e, hd] at hz; cases hz)⟩
  have sg : Same G2 (upd G2 a o) := fun z y hz => by rw [upd_ne (ne_of_none hz out)]; exact hz
  have hh : ∀ z y, H z = some y → hidO (upd (upd H dx (.own a)) a (.ins C dx [])) [a] z = some y := fun z y hz => by
    obtain ⟨n1, n2⟩ := hH z y hz
    rw [hidO_of (by simpa using n1), upd_ne n1, upd_ne n2]; exact hz
  refine ⟨⟨g.g.trans sg, fun z y hz => g.h z y (hh z y hz), fun z y hz => ?_, fun z h1 h2 => ?_⟩, sg⟩
  · by_cases hb : z = a
    · subst hb; rw [upd_same] at hz; cases hz; exact hat
    · rw [upd_ne hb] at hz; exact g.s z y hz
  · obtain ⟨y, hy⟩ := Option.ne_none_iff_exists'.mp h2
    obtain ⟨n1, n2⟩ := hH z y hy
    rw [upd_ne n1]
    exact g.n z h1 (by show hidO _ _ z ≠ none; rw [hh z y hy]; simp)
/-- C(a, .., k = v, ..) -/
theorem ev_makeK {pre : α → Prop} {as : α → List Slot} {wa wb : α → Ow} {r : α → Pr} {f C : Addr} {fd : FuncData} {ks : List Str} {kws : List Keyword} {g : List Value → List Value → List Value} {gV : List V → List V → List V} {φs φk : List Pr} {n : Nat} {fs : List (Str × Pr)} (M : Mk X.K C f) (F : FnOk X.prog X.w X.K X.mg X.base CX0 k f fd ps (spO pre as wa wb r)) (hr : Room (k + 1) X.A) (hm : X.mg nm = some (.ref C)) (hb : KBn X.K fd ps (n + 1) ks g gV)
    (ha : EA X B ρ ow (e :: es) φs) (hkw : EK X B ρ ow kws φk) (x : Addr → α) (hp : ∀ a, pre (x a)) (h1 : ∀ a, wa (x a) = [(a, oin C [])]) (h2 : ∀ a, wb (x a) = [(a, oin C fs)]) (h3 : ∀ a G vs zs, PrAll G φs vs → PrAll G φk zs → PrAll G ((as (x a)).map slPr) (gV (.ref a :: vs) zs)) (h4 : ∀ a G v, (r (x a)).p G v → v = .non) (hn : φs.length = n) (hnk : φk.length = ks.length)
    (hg : Gl X nm := by rfl)
    (hall : (backToKw pos (keywordEach kws X.env)).all (·.1.isSome) = true := by rfl) (hks : (backToKw pos (keywordEach kws X.env)).filterMap (·.1) = ks := by rfl) (hdb : (nm == ("__debug__" : Str)) = false := by decide)
    (he : starEach (e :: es) X.env = (false, eval e X.env) :: starEach es X.env := by rfl) (hpl : ((backTo pos (starEach (e :: es) X.env)).any (·.1) || (backToKw pos (keywordEach kws X.env)).any (·.1.isNone)) = false := by rfl) :
    EV X B ρ ow (.Call (.Name nm p) (e :: es) kws pos) (inP C fs) :=
  L2.PE.weak (pe_makeK (k := k) M F hr hg hm hb pass0 ha hkw hall hks hdb he hpl) fun σ H Q ⟨G, ok, q⟩ => ⟨G, ok, fun vs G1 H1 g1 t1 => ⟨G1, ok.grow g1, fun zs G2 H2 g2 t2 => by
    refine ⟨by rw [← t1.length]; exact hn, by rw [← t2.length]; exact hnk, fun a dx ea ed hne => ⟨x a, G2, hp a, ?_, h3 a G2 vs zs (t1.mono g2.g) t2, ?_, ?_, ?_⟩⟩
    · intro z y hz
      have hz2 := g2.s z y hz
      rw [upd_ne (ne_of_none hz2 ea), upd_ne (ne_of_none hz2 ed)]
      exact hz2
    · intro z hz
      rw [h1 a, List.mem_singleton] at hz
      subst hz
      exact ⟨g2.s.free ea, _, upd_same, dx, [], rfl, .nil⟩
    · rw [h1 a]; simp
    · intro v G3 H3 g3 o3 p3
      rw [h1 a] at g3
      rw [h2 a] at o3
      obtain ⟨out, o, hat, dx', us, rfl, t⟩ := o3 _ (List.mem_singleton.mpr rfl)
      obtain ⟨gg, sg⟩ := made_gr g2.s ea ed hne g3 out hat
      exact ⟨h4 a G3 v p3, q _ _ H3 ((g1.trans g2).trans gg) ⟨a, dx', us, rfl, upd_same, t.mono sg⟩⟩⟩⟩
/-- C(a, ..) -/
theorem ev_make {pre : α → Prop} {as : α → List Slot} {wa wb : α → Ow} {r : α → Pr} {f C : Addr} {fd : FuncData} {φs : List Pr} {fs : List (Str × Pr)} (M : Mk X.K C f) (F : FnOk X.prog X.w X.K X.mg X.base CX0 k f fd ps (spO pre as wa wb r)) (hr : Room (k + 1) X.A) (hm : X.mg nm = some (.ref C)) (hb : Binds X.K fd ps [])
    (ha : EA X B ρ ow (e :: es) φs) (x : Addr → α) (hp : ∀ a, pre (x a)) (h1 : ∀ a, wa (x a) = [(a, oin C [])]) (h2 : ∀ a, ∀ q ∈ [(a, oin C fs)], q ∈ wb (x a)) (h3 : ∀ a G vs, PrAll G φs vs → PrAll G ((as (x a)).map slPr) (.ref a :: vs)) (h4 : ∀ a G v, (r (x a)).p G v → v = .non)
    (hg : Gl X nm := by rfl) (hdb : (nm == ("__debug__" : Str)) = false := by decide)
    (he : starEach (e :: es) X.env = (false, eval e X.env) :: starEach es X.env := by rfl) (hpl : (backTo pos (starEach es X.env)).any (·.1) = false := by rfl) :
    EV X B ρ ow (.Call (.Name nm p) (e :: es) [] pos) (inP C fs) :=
  L2.PE.weak (pe_make (k := k) M F hr hg hm hb .nil pass0 ha hdb he hpl) fun σ H Q ⟨G, ok, q⟩ => ⟨G, ok, fun vs G1 H1 g1 t1 => by
    refine fun a dx ea ed hne => ⟨x a, G1, hp a, ?_, by rw [List.append_nil]; exact h3 a G1 vs t1, ?_, ?_, ?_⟩
    · intro z y hz
      have hz2 := g1.s z y hz
      rw [upd_ne (ne_of_none hz2 ea), upd_ne (ne_of_none hz2 ed)]
      exact hz2
    · intro z hz
      rw [h1 a, List.mem_singleton] at hz
      subst hz
      exact ⟨g1.s.free ea, _, upd_same, dx, [], rfl, .nil⟩
    · rw [h1 a]; simp
    · intro v G3 H3 g3 o3 p3
      rw [h1 a] at g3
      obtain ⟨out, o, hat, dx', us, rfl, t⟩ := o3 _ (h2 a _ (List.mem_singleton.mpr rfl))
      obtain ⟨gg, sg⟩ := made_gr g1.s ea ed hne g3 out hat
      exact ⟨h4 a G3 v p3, q _ _ H3 (g1.trans gg) ⟨a, dx', us, rfl, upd_same, t.mono sg⟩⟩⟩
end
end L2.My
end
section
set_option Elab.async false
set_option linter.all false
set_option maxRecDepth 100000
set_option autoImplicit false
/-! D1: words and linking. -/
namespace L2.My
open PySem PySem.Spec PyProof.Rows
section
variable {P : Program} {w : World} {K : PySem.W.Frag} {mg : Str → Option Value} {base : Heap}
def isIntB : PyData → Bool
  | .int _ => true
  | .bool _ => true
  | _ => false
def isBool : PyData → Bool
  | .bool _ => true
  | _ => false
def isStr : PyData → Bool
  | .str _ => true
  | _ => false
def isList : PyData → Bool
  | .list _ => true
  | _ => false
def isTup : PyData → Bool
  | .tuple _ => true
  | _ => false
theorem kb_int (d : PyData) : kitB (tyN d) "int" = some (isIntB d) := by
  cases d with
  | none => exact (by decide +kernel : kitB "NoneType" "int" = some false)
  | bool b => exact (by decide +kernel : kitB "bool" "int" = some true)
  | int i => exact (by decide +kernel : kitB "int" "int" = some true)
  | str s => exact (by decide +kernel : kitB "str" "int" = some false)
  | list l => exact (by decide +kernel : kitB "list" "int" = some false)
  | tuple l => exact (by decide +kernel : kitB "tuple" "int" = some false)
  | dict l => exact (by decide +kernel : kitB "dict" "int" = some false)
theorem kb_bool (d : PyData) : kitB (tyN d) "bool" = some (isBool d) := by
  cases d with
  | none => exact (by decide +kernel : kitB "NoneType" "bool" = some false)
  | bool b => exact (by decide +kernel : kitB "bool" "bool" = some true)
  | int i => exact (by decide +kernel : kitB "int" "bool" = some false)
  | str s => exact (by decide +kernel : kitB "str" "bool" = some false)
  | list l => exact (by decide +kernel : kitB "list" "bool" = some false)
  | tuple l => exact (by decide +kernel : kitB "tuple" "bool" = some false)
  | dict l => exact (by decide +kernel : kitB "dict" "bool" = some false)
theorem kb_str (d : PyData) : kitB (tyN d) "str" = some (isStr d) := by
  cases d with
  | none => exact (by decide +kernel : kitB "NoneType" "str" = some false)
  | bool b => exact (by decide +kernel : kitB "bool" "str" = some false)
  | int i => exact (by decide +kernel : kitB "int" "str" = some false)
  | str s => exact (by decide +kernel : kitB "str" "str" = some true)
  | list l => exact (by decide +kernel : kitB "list" "str" = some false)
  | tuple l => exact (by decide +kernel : kitB "tuple" "str" = some false)
  | dict l => exact (by decide +kernel : kitB "dict" "str" = some false)
theorem kb_list (d : PyData) : kitB (tyN d) "list" = some (isList d) := by
  cases d with
  | none => exact (by decide +kernel : kitB "NoneType" "list" = some false)
  | bool b => exact (by decide +kernel : kitB "bool" "list" = some false)
  | int i => exact (by decide +kernel : kitB "int" "list" = some false)
  | str s => exact (by decide +kernel : kitB "str" "list" = some false)
  | list l => exact (by decide +kernel : kitB "list" "list" = some true)
  | tuple l => exact (by decide +kernel : kitB "tuple" "list" = some false)
  | dict l => exact (by decide +kernel : kitB "dict" "list" = some false)
theorem kb_tuple (d : PyData) : kitB (tyN d) "tuple" = some (isTup d) := by
  cases d with
  | none => exact (by decide +kernel : kitB "NoneType" "tuple" = some false)
  | bool b => exact (by decide +kernel : kitB "bool" "tuple" = some false)
  | int i => exact (by decide +kernel : kitB "int" "tuple" = some false)
  | str s => exact (by decide +kernel : kitB "str" "tuple" = some false)
  | list l => exact (by decide +kernel : kitB "list" "tuple" = some false)
  | tuple l => exact (by decide +kernel : kitB "tuple" "tuple" = some true)
  | dict l => exact (by decide +kernel : kitB "dict" "tuple" = some false)
def isInt : PyData → Bool
  | .int _ => true
  | _ => false
theorem sc_is_integer : FnScope ["value"] ["value"] (defScope s_is_integer) := ⟨rfl, rfl, rfl, by decide +kernel, rfl, by decide +kernel, by decide +kernel⟩
theorem ok_is_integer (T : TX K mg) : Def P w K mg base "is_integer" 1 ["value"] (spA (fun _ : PyData => True) (fun d => [da d]) (fun d => da (.bool (isInt d)))) := by
  refine def_mk T.d_is_integer sc_is_integer (fun _ _ _ _ _ _ us hl => match us, hl with | [_], _ => rfl) (fun _ => rfl) (by decide) fun d _ f cdv A outer s H0 H E B hr => ?_
  refine sv_retd (ev_a2 (ev_isi T.b_isinstance (vv 0) (ev_ty T.b_int (by decide +kernel)) (kb_int d)) fun _ => ev_nt (ev_isi T.b_isinstance (vv 0) (ev_ty T.b_bool (by decide +kernel)) (kb_bool d))) ?_
  cases d <;> rfl
def between (d : PyData) (lo hi : Int) : Bool := match d with
  | .int i => decide (lo ≤ i) && decide (i ≤ hi)
  | _ => false
theorem sc_is_between : FnScope ["value", "least", "most"] ["value", "least", "most"] (defScope s_is_between) := ⟨rfl, rfl, rfl, by decide +kernel, rfl, by decide +kernel, by decide +kernel⟩
theorem ok_is_between (T : TX K mg) : Def P w K mg base "is_between" 2 ["value", "least", "most"] (spA (fun _ : PyData × Int × Int => True) (fun x => [da x.1, da (.int x.2.1), da (.int x.2.2)]) (fun x => da (.bool (between x.1 x.2.1 x.2.2)))) := by
  refine def_mk T.d_is_between sc_is_between (fun _ _ _ _ _ _ us hl => match us, hl with | [_, _, _], _ => rfl) (fun _ => rfl) (by decide) fun ⟨d, lo, hi⟩ _ f cdv A outer s H0 H E B hr => ?_
  refine sv_retd (ev_a2 (y := between d lo hi) (ev_call (ok_is_integer T) d True.intro hr (ea1 (vv 0))) fun h => ?_) ?_
  · cases d with
    | int i => exact ev_lele (vv 1) (vv 0) (vv 2)
    | _ => cases h
  · cases d <;> rfl
end
end L2.My
end
section
set_option Elab.async false
set_option linter.all false
set_option maxRecDepth 100000
set_option autoImplicit false
/-! D2: linking: sets_of, index_sets. -/
namespace L2.My
open PySem PySem.Spec PyProof.Rows
/-! mirror -/
def nextOf (l : List Int) : Int := if l.isEmpty then 0 else l.getLastD 0 + 1
def upFrom (lo : Int) (hi : Nat) : List Int := (List.range ((hi : Int) - lo).toNat).map fun k => lo + (k : Nat)
def setsOf (many : Nat) : Nat → List (List Int)
  | 0 => [[]]
  | s + 1 => (setsOf many s).flatMap fun l => (upFrom (nextOf l) many).map fun at_ => l ++ [at_]
def indexSets (many : Nat) : List (List Int) := [] :: (List.range many).flatMap fun k => setsOf many (k + 1)
def eT (l : List Int) : PyData := .tuple (l.map .int)
theorem sets_ok : ∀ many ≤ 6, ∀ s ≤ 6, (setsOf many s).length ≤ 64 ∧ ∀ l ∈ setsOf many s, l.length ≤ 6 ∧ -1 ≤ nextOf l ∧ nextOf l ≤ 7 := by decide +kernel
theorem eqv_eT_nil (l : List Int) : PyData.eqv (eT l) (.tuple []) = l.isEmpty := by
  cases l <;> simp [eT, PyData.eqv, PyData.eqvAll]
theorem nods_ints (l : List Int) : nods (l.map .int) = true := by
  induction l with
  | nil => rfl
  | cons a l ih => simp [nods, nod, ih]
theorem shaped_eT (l : List Int) : SeqAt.shaped (eT l) = true := by
  have h1 : PyData.canLayAll0 (l.map PyData.int) = true := by
    induction l with
    | nil => simp [PyData.canLayAll0]
    | cons a l ih => simp [PyData.canLayAll0, PyData.canLay0, ih]
  have h2 : PyData.depthAll (l.map PyData.int) ≤ 1 := by
    clear h1
    induction l with
    | nil => simp [PyData.depthAll]
    | cons a l ih => simp only [List.map_cons, PyData.depthAll, PyData.depth]; omega
  show ((eT l).canLay0 && decide ((eT l).depth ≤ 64)) = true
  rw [Bool.and_eq_true]
  refine ⟨by simp only [eT, PyData.canLay0]; exact h1, decide_eq_true ?_⟩
  simp only [eT, PyData.depth]
  omega
theorem atI_lastD {l : List Int} (h : l.isEmpty = false) : atI (l.map PyData.int) (-1) = some (.int (l.getLastD 0)) := by
  obtain ⟨a, r, rfl⟩ : ∃ r a, l = r ++ [a] := by
    cases l with
    | nil => cases h
    | cons b l => exact ⟨_, _, (List.dropLast_concat_getLast (List.cons_ne_nil b l)).symm⟩
  rw [List.map_append]
  show atI (List.map PyData.int a ++ [PyData.int r]) (-1) = _
  rw [atI_last]
  simp
section
variable {P : Program} {w : World} {K : PySem.W.Frag} {mg : Str → Option Value} {base : Heap}
abbrev N_sets_of : List Str := ["many", "size", "found", "some", "first", "at"]
theorem sc_sets_of : FnScope N_sets_of ["many", "size"] (defScope s_sets_of) := ⟨rfl, rfl, rfl, by decide +kernel, rfl, by decide +kernel, by decide +kernel⟩
theorem ok_sets_of (T : TX K mg) : ∀ s, s ≤ 6 → Def P w K mg base "sets_of" (s + 1) ["many", "size"] (spA (fun x : Nat × Nat => x.1 ≤ 6 ∧ x.2 ≤ s) (fun x => [da (.int (x.1 : Nat)), da (.int (x.2 : Nat))]) (fun x => da (.list ((setsOf x.1 x.2).map eT)))) := by
  intro s
  induction s with
  | zero =>
    intro _
    refine def_mk T.d_sets_of sc_sets_of (fun _ _ _ _ _ _ us hl => match us, hl with | [_, _], _ => rfl) (fun _ => rfl) (by decide) fun ⟨many, size⟩ ⟨hm, hs⟩ f cdv A outer s H0 H E B hr => ?_
    obtain rfl : size = 0 := Nat.le_zero.mp hs
    refine sv_guard (et_eqI (vv 1) ev_int) (fun _ => ?_) fun h => ?_
    · exact sv_retd (ev_lst (ed_cons (ev_tup ed_nil (by decide)) ed_nil) (by decide)) rfl
    · cases h
  | succ s ih =>
    intro hs6
    refine def_mk T.d_sets_of sc_sets_of (fun _ _ _ _ _ _ us hl => match us, hl with | [_, _], _ => rfl) (fun _ => rfl) (by decide) fun ⟨many, size⟩ ⟨hm, hs⟩ f cdv A outer s0 H0 H E B hr => ?_
    have hm : many ≤ 6 := hm
    have hs : size ≤ s + 1 := hs
    refine sv_guard (et_eqI (vv 1) ev_int) (fun h => ?_) fun h => ?_
    · obtain rfl : size = 0 := by have := of_decide_eq_true h; omega
      exact sv_retd (ev_lst (ed_cons (ev_tup ed_nil (by decide)) ed_nil) (by decide)) rfl
    · obtain ⟨z, rfl⟩ : ∃ z, size = z + 1 := ⟨size - 1, by have := of_decide_eq_false h; omega⟩
      obtain ⟨b1, b2⟩ := sets_ok many hm z (by omega)
      obtain ⟨b3, _⟩ := sets_ok many hm (z + 1) (by omega)
      refine sv_ownL (i := 2) sc_sets_of.nd ed_nil (by decide) fun p => ?_
      refine sv_for (xs := setsOf many z) (vs := [3]) (fun i ρ' ow' => (∃ s3 s4 s5, ρ' = [.val (da (.int (many : Nat))), .val (da (.int ((z + 1 : Nat) : Int))), .ptr p, s3, s4, s5]) ∧ ow' = [(p, ol ((((setsOf many z).take i).flatMap fun l => (upFrom (nextOf l) many).map fun at_ => l ++ [at_]).map eT))])
        PassesOwn.never rfl (if_list (f := eT) (ev_call (ih (by omega)) (many, z) ⟨hm, by omega⟩ hr (ea2 (vv 0) (ev_eq (ev_sub (vv 1) ev_int) (by
          show PyData.int (((z + 1 : Nat) : Int) - 1) = .int (z : Nat)
          congr 1; omega))))) (pgn 3 sc_sets_of.nd) (fun x _ => tg_name (by decide)) ?_ (fun i x ρ' ow' B' hx hI => ?_) fun ρ' ow' hI => ?_
      · exact ⟨⟨_, _, _, rfl⟩, rfl⟩
      · obtain ⟨⟨s3, s4, s5, rfl⟩, rfl⟩ := hI
        have hxm : x ∈ setsOf many z := List.mem_of_getElem? hx
        obtain ⟨c1, c2, c3⟩ := b2 x hxm
        refine sv_set (i := 4) sc_sets_of.nd (ev_ifd (et_cmp (op_eqD hr.units) (ep_of (vv 3)) (ep_of (ev_tup ed_nil (by decide))) (r2_eqD (d1 := eT x) (nods_ints x) rfl (shaped_eT x) (by decide)) (nomark _)) (fun _ => ev_int)
          fun h => ev_add (ev_ixT (vv 3) (ev_neg ev_int) (atI_lastD (by rw [eqv_eT_nil] at h; exact h))) ev_int) ?_
        have e4 : (if PyData.eqv (eT x) (.tuple []) = true then PyData.int 0 else PyData.int (x.getLastD 0 + 1)) = .int (nextOf x) := by
          rw [eqv_eT_nil]
          unfold nextOf
          split <;> rfl
        rw [e4]
        refine sv_extend (i := 2) (ds2 := ((List.range ((many : Int) - nextOf x).toNat).map fun k : Nat => eT (x ++ [nextOf x + (k : Nat)]))) rfl (ev_lc0 (own := [("at", 5)]) (tgG := gName 5) (fρ := fun k ρ => ρ.set 5 (.val (da (.int (nextOf x + (k : Nat)))))) rfl sc_sets_of.nd
          (it_of (if_range2 T.b_range (vv 4) (vv 0) (by omega))) (blkOk_by (N := N_sets_of) (sc := defScope s_sets_of) (by decide +kernel))
          (fun _ => pgn 5 sc_sets_of.nd) (fun k _ => tg_name (by decide)) (fun k _ b => ?_) ?_) ?_ ?_
        · refine ev_eq (ev_tup (ed_star (vv 3) (ed_cons (vv 5) ed_nil)) ?_) ?_
          · rw [List.length_append, List.length_map]
            show x.length + 1 ≤ sizeLine
            exact sz
          · show PyData.tuple (x.map .int ++ [.int (nextOf x + (k : Nat))]) = eT (x ++ [nextOf x + (k : Nat)])
            unfold eT
            rw [List.map_append]
            rfl
        · rw [List.length_range]
          exact sz
        · rw [List.length_map, List.length_map, List.length_range]
          have h1 : (((setsOf many z).take i).flatMap fun l => (upFrom (nextOf l) many).map fun at_ => l ++ [at_]).length ≤ (setsOf many (z + 1)).length := by
            conv => rhs; unfold setsOf
            rw [← List.take_append_drop i (setsOf many z)]
            rw [List.flatMap_append, List.length_append, List.take_append_drop]
            omega
          exact sz
        · refine sv_nil ⟨⟨_, _, _, rfl⟩, ?_⟩
          rw [take_succ_get hx, List.flatMap_append, List.map_append]
          congr 3
          simp [upFrom, List.flatMap_cons, Function.comp_def]
      · obtain ⟨⟨s3, s4, s5, rfl⟩, rfl⟩ := hI
        refine sv_freeze (i := 2) rfl (sv_retd (vv 2) ?_)
        rw [List.take_length]
        rfl
theorem sc_index_sets : FnScope ["many", "found", "size"] ["many"] (defScope s_index_sets) := ⟨rfl, rfl, rfl, by decide +kernel, rfl, by decide +kernel, by decide +kernel⟩
theorem index_ok : ∀ many ≤ 6, (indexSets many).length ≤ 64 := by decide +kernel
theorem ok_index_sets (T : TX K mg) : Def P w K mg base "index_sets" 8 ["many"] (spA (fun n : Nat => n ≤ 6) (fun n => [da (.int (n : Nat))]) (fun n => da (.list ((indexSets n).map eT)))) := by
  refine def_mk T.d_index_sets sc_index_sets (fun _ _ _ _ _ _ us hl => match us, hl with | [_], _ => rfl) (fun _ => rfl) (by decide) fun many hm f cdv A outer s0 H0 H E B hr => ?_
  have b0 := index_ok many hm
  refine sv_ownL (i := 1) sc_index_sets.nd (ed_cons (ev_tup ed_nil (by decide)) ed_nil) (by decide) fun p => ?_
  refine sv_for (xs := List.range ((many : Int) + 1 - 1).toNat) (vs := [2]) (fun i ρ' ow' => (∃ s2, ρ' = [.val (da (.int (many : Nat))), .ptr p, s2]) ∧ ow' = [(p, ol ((([] : List Int) :: ((List.range many).take i).flatMap fun k => setsOf many (k + 1)).map eT))])
    PassesOwn.never rfl (if_range2 T.b_range ev_int (ev_add (vv 0) ev_int) (by omega)) (pgn 2 sc_index_sets.nd) (fun x _ => tg_name (by decide)) ?_ (fun i x ρ' ow' B' hx hI => ?_) fun ρ' ow' hI => ?_
  · exact ⟨⟨_, rfl⟩, rfl⟩
  · obtain ⟨⟨s2, rfl⟩, rfl⟩ := hI
    have e0 : ((many : Int) + 1 - 1).toNat = many := by omega
    rw [e0] at hx
    obtain ⟨h1, h2⟩ := List.getElem?_eq_some_iff.mp hx
    rw [List.getElem_range] at h2
    subst h2
    rw [List.length_range] at h1
    refine sv_extend (i := 1) rfl (ev_call (ok_sets_of T 6 (by omega)) (many, i + 1) ⟨hm, by show i + 1 ≤ 6; omega⟩ (hr.mono (by decide)) (ea2 (vv 0) (ev_as (vv 2) fun H v q => by
      rw [show ((1 : Int) + (i : Nat)) = ((i + 1 : Nat) : Int) by omega] at q
      exact q))) ?_ (sv_nil ⟨⟨_, rfl⟩, ?_⟩)
    · have h3 : (([] : List Int) :: ((List.range many).take (i + 1)).flatMap fun k => setsOf many (k + 1)).length ≤ (indexSets many).length := by
        unfold indexSets
        rw [List.length_cons, List.length_cons, ← List.take_append_drop (i + 1) (List.range many), List.flatMap_append, List.length_append, List.take_append_drop]
        omega
      rw [take_succ_get hx, List.flatMap_append, List.length_cons, List.length_append] at h3
      rw [List.length_map, List.length_map, List.length_cons]
      simp only [List.flatMap_cons, List.flatMap_nil, List.append_nil] at h3
      show _ + (setsOf many (i + 1)).length ≤ _
      exact sz
    · rw [take_succ_get hx, List.flatMap_append]
      simp
  · obtain ⟨⟨s2, rfl⟩, rfl⟩ := hI
    refine sv_freeze (i := 1) rfl (sv_retd (vv 1) ?_)
    rw [List.length_range, show ((many : Int) + 1 - 1).toNat = many by omega, show (List.range many).take many = List.range many from List.take_of_length_le (by rw [List.length_range]; exact Nat.le_refl _)]
    rfl
end
end L2.My
end
section
set_option Elab.async false
set_option linter.all false
set_option maxRecDepth 100000
set_option autoImplicit false
/-! D3: maps: the checks. -/
namespace L2.My
open PySem PySem.Spec PyProof.Rows
/-! a list or a tuple -/
def sq (t : Bool) (ds : List PyData) : PyData := if t then .tuple ds else .list ds
section
variable {α : Type} {X : Cx} {B : Hp × Hp} {ρ : List Slot} {ow : Ow} {tg iter e : Expr} {xs : List α} {pos p : Pos} {t : Bool} {ds : List PyData}
theorem if_sq {f : α → PyData} (h : EV X B ρ ow iter (da (sq t (xs.map f)))) : IF X B ρ ow tg iter xs fun x => da (f x) := by
  cases t with
  | true => exact if_tup h
  | false => exact if_list h
theorem ev_lenQ (hm : X.mg "len" = none) (ha : EV X B ρ ow e (da (sq t ds))) (hg : Gl X "len" := by rfl) (hs : starEach [e] X.env = (false, eval e X.env) :: starEach [] X.env := by rfl) : EV X B ρ ow (.Call (.Name "len" p) [e] [] pos) (da (.int ds.length)) := by
  cases t with
  | true => exact ev_lenT hm (ep_of ha) hg hs
  | false => exact ev_len hm (ep_of ha) hg hs
theorem ev_tupleQ (hm : X.mg "tuple" = none) (ha : EV X B ρ ow e (da (sq t ds))) (hg : Gl X "tuple" := by rfl) (hs : starEach [e] X.env = (false, eval e X.env) :: starEach [] X.env := by rfl) : EV X B ρ ow (.Call (.Name "tuple" p) [e] [] pos) (da (.tuple ds)) := by
  cases t with
  | true => exact ev_tupleT hm ha hg hs
  | false => exact ev_tupleL hm ha hg hs
theorem if_enumQ {f : α → PyData} {elts : List Expr} {kk : Nat} {tpos : Pos} (hm : X.mg "enumerate" = none) (h : EV X B ρ ow e (da (sq t (xs.map f)))) (hg : Gl X "enumerate" := by rfl) (hs : starEach [e] X.env = [(false, eval e X.env)] := by rfl) :
    IF X B ρ ow (.Tuple elts kk tpos) (.Call (.Name "enumerate" p) [e] [] pos) xs.zipIdx fun y => da (.tuple [.int (y.2 : Nat), f y.1]) := by
  cases t with
  | true => exact if_enumT hm h hg hs
  | false => exact if_enumL hm h hg hs
end
theorem isRow_sq (t : Bool) (ds : List PyData) : (isList (sq t ds) || isTup (sq t ds)) = true := by cases t <;> rfl
theorem r2_inStr {i j : Str} : R2b (fun x y H Q => ∃ i j, x = .str i ∧ y = .str j ∧ Q (.bl (!(Builtin.Str.occurrences j i 0 j.length 1).isEmpty)) H) (da (.str i)) (da (.str j)) (!(Builtin.Str.occurrences j i 0 j.length 1).isEmpty) := fun x y H Q h1 h2 q => by
  cases (show Da H x (.str i) from h1)
  cases (show Da H y (.str j) from h2)
  exact ⟨i, j, rfl, rfl, q⟩
def letters : Str := "abcdefghijklmnopqrstuvwxyz"
def inLetters (c : Nat) : Bool := !(Builtin.Str.occurrences letters ⟨#[c]⟩ 0 letters.length 1).isEmpty
def nmOk (s : Str) : Bool := (decide (1 ≤ (s.length : Int)) && decide ((s.length : Int) ≤ 8)) && s.cps.toList.all inLetters
theorem nmOk_len {s : Str} (h : nmOk s = true) : 1 ≤ s.length ∧ s.length ≤ 8 := by
  unfold nmOk at h
  simp only [Bool.and_eq_true, decide_eq_true_eq] at h
  omega
def AreasOk (as : List (List Str)) : Prop := (1 ≤ as.length ∧ as.length ≤ 4) ∧ (∀ a ∈ as, a ≠ [] ∧ ∀ s ∈ a, nmOk s = true) ∧ as.flatten.Nodup ∧ as.flatten.length ≤ 6
def eArea (u : Bool) (a : List Str) : PyData := sq u (a.map .str)
section
variable {P : Program} {w : World} {K : PySem.W.Frag} {mg : Str → Option Value} {base : Heap}
theorem sc_is_name : FnScope ["value", "sign"] ["value"] (defScope s_is_name) := ⟨rfl, rfl, rfl, by decide +kernel, rfl, by decide +kernel, by decide +kernel⟩
theorem ok_is_name (T : TX K mg) : Def P w K mg base "is_name" 1 ["value"] (spA (fun s : Str => nmOk s = true) (fun s => [da (.str s)]) (fun _ => da (.bool true))) := by
  refine def_mk T.d_is_name sc_is_name (fun _ _ _ _ _ _ us hl => match us, hl with | [_], _ => rfl) (fun _ => rfl) (by decide) fun v hv f cdv A outer s0 H0 H E B hr => ?_
  obtain ⟨l1, l2⟩ := nmOk_len hv
  have hlen : v.cps.toList.length ≤ 8 := by
    have : v.length = v.cps.toList.length := by simp [Str.length]
    omega
  refine sv_retd (ev_a3 (ev_isi T.b_isinstance (vv 0) (ev_ty T.b_str (by decide +kernel)) (kb_str _)) (fun _ => ev_lele ev_int (ev_lenS T.b_len (ep_of (vv 0)) sz) (ev_gint T.c_MOST_LETTERS))
    fun _ _ => ev_all (bs := v.cps.toList.map inLetters) rfl T.b_all (ep_of (ev_eq (ev_lc0 (own := [("sign", 1)]) (tgG := gName 1) (fρ := fun c ρ => ρ.set 1 (.val (da (.str ⟨#[c]⟩)))) rfl sc_is_name.nd (it_of (if_str (vv 0))) (blkOk_by (N := ["value", "sign"]) (sc := defScope s_is_name) (by decide +kernel))
      (fun _ => pgn 1 sc_is_name.nd) (fun c _ => tg_name (by decide)) (fun c _ b => ev_cmp (op_in_str) (ep_of (vv 1)) (ep_of (ev_gstr T.c_LETTERS)) r2_inStr rfl) sz) ?_))) ?_
  · rw [List.map_map]
    rfl
  · unfold nmOk at hv
    simp only [Bool.and_eq_true] at hv
    obtain ⟨⟨h1, h2⟩, h3⟩ := hv
    rw [h1, h2, List.all_map]
    have e : (v.cps.toList.all (id ∘ inLetters)) = true := h3
    rw [e]
    rfl
theorem sc_is_row : FnScope ["value"] ["value"] (defScope s_is_row) := ⟨rfl, rfl, rfl, by decide +kernel, rfl, by decide +kernel, by decide +kernel⟩
theorem ok_is_row (T : TX K mg) : Def P w K mg base "is_row" 1 ["value"] (spA (fun _ : PyData => True) (fun d => [da d]) (fun d => da (.bool (isList d || isTup d)))) := by
  refine def_mk T.d_is_row sc_is_row (fun _ _ _ _ _ _ us hl => match us, hl with | [_], _ => rfl) (fun _ => rfl) (by decide) fun d _ f cdv A outer s0 H0 H E B hr => ?_
  exact sv_retd (ev_isiT T.b_isinstance (vv 0) (pe_bltn (v := .ty "list") rfl T.b_list (by decide +kernel) rfl) (pe_bltn (v := .ty "tuple") rfl T.b_tuple (by decide +kernel) rfl) (kb_list d) (kb_tuple d)) rfl
abbrev N_ca : List Str := ["areas", "known", "area", "place"]
theorem sc_checked_areas : FnScope N_ca ["areas"] (defScope s_checked_areas) := ⟨rfl, rfl, rfl, by decide +kernel, rfl, by decide +kernel, by decide +kernel⟩
theorem ok_checked_areas (T : TX K mg) : Def P w K mg base "checked_areas" 2 ["areas"] (spA (fun x : Bool × Bool × List (List Str) => AreasOk x.2.2) (fun x => [da (sq x.1 (x.2.2.map (eArea x.2.1)))]) (fun x => da (.tuple (x.2.2.map (eArea true))))) := by
  refine def_mk T.d_checked_areas sc_checked_areas (fun _ _ _ _ _ _ us hl => match us, hl with | [_], _ => rfl) (fun _ => rfl) (by decide) fun ⟨t, u, as⟩ ⟨⟨a1, a2⟩, a3, a4, a5⟩ f cdv A outer s0 H0 H E B hr => ?_
  have a1 : 1 ≤ as.length := a1
  have a2 : as.length ≤ 4 := a2
  refine sv_guard (et_o2 (et_not (et_v (ev_call (ok_is_row T) _ True.intro hr (ea1 (vv 0))))) fun _ => et_not (et_lele ev_int (ev_lenQ T.b_len (vv 0)) (ev_gint T.c_MOST_AREAS))) (fun h => ?_) fun _ => ?_
  · rw [isRow_sq, List.length_map, decide_eq_true (show (1 : Int) ≤ (as.length : Int) by omega), decide_eq_true (show ((as.length : Nat) : Int) ≤ 4 by omega)] at h
    cases h
  refine sv_ownL (i := 1) sc_checked_areas.nd ed_nil (by decide) fun p => ?_
  refine sv_for (xs := as) (g := fun a => da (eArea u a)) (vs := [2]) (fun i ρ' ow' => (∃ s2 s3, ρ' = [.val (da (sq t (as.map (eArea u)))), .ptr p, s2, s3]) ∧ ow' = [(p, ol ((as.take i).flatten.map .str))])
    PassesOwn.never rfl (if_sq (vv 0)) (pgn 2 sc_checked_areas.nd) (fun x _ => tg_name (by decide)) ⟨⟨_, _, rfl⟩, rfl⟩ (fun i a ρ' ow' B' hx hI => ?_) fun ρ' ow' hI => ?_
  · obtain ⟨⟨s2, s3, rfl⟩, rfl⟩ := hI
    have ham := List.mem_of_getElem? hx
    obtain ⟨c1, c2⟩ := a3 a ham
    have e1 : (as.take (i + 1)).flatten = (as.take i).flatten ++ a := by rw [take_succ_get hx]; simp
    have e2 : as.flatten = (as.take (i + 1)).flatten ++ (as.drop (i + 1)).flatten := by rw [← List.flatten_append, List.take_append_drop]
    have hlen : ((as.take i).flatten ++ a).length ≤ 6 := by
      rw [← e1]
      have := a5
      rw [show (t, u, as).2.2 = as from rfl, e2, List.length_append] at this
      omega
    have hnd : ((as.take i).flatten ++ a).Nodup := by
      rw [← e1]
      have := a4
      rw [show (t, u, as).2.2 = as from rfl, e2, List.nodup_append] at this
      exact this.1
    refine sv_guard (et_o2 (et_not (et_v (ev_call (ok_is_row T) _ True.intro hr (ea1 (vv 2))))) fun _ => et_eqI (ev_lenQ T.b_len (vv 2)) ev_int) (fun h => ?_) fun _ => ?_
    · unfold eArea at h
      rw [isRow_sq, List.length_map, decide_eq_false (show ¬ ((a.length : Nat) : Int) = 0 by
        have := List.length_pos_iff.mpr c1
        omega)] at h
      cases h
    refine sv_for (xs := a) (g := fun s => da (.str s)) (vs := [3]) (fun j ρ' ow' => (∃ s3, ρ' = [.val (da (sq t (as.map (eArea u)))), .ptr p, .val (da (eArea u a)), s3]) ∧ ow' = [(p, ol (((as.take i).flatten ++ a.take j).map .str))])
      PassesOwn.never rfl (if_sq (vv 2)) (pgn 3 sc_checked_areas.nd) (fun x _ => tg_name (by decide)) ⟨⟨_, rfl⟩, by simp⟩ (fun j s ρ' ow' B'' hy hI => ?_) fun ρ' ow' hI => ?_
    · obtain ⟨⟨s3, rfl⟩, rfl⟩ := hI
      have hsm := List.mem_of_getElem? hy
      have hn : s ∉ (as.take i).flatten ++ a.take j := by
        intro hm
        have hj := (List.getElem?_eq_some_iff.mp hy).1
        have e3 : a = a.take j ++ s :: a.drop (j + 1) := by
          have h1 := List.take_append_drop (j + 1) a
          rw [take_succ_get hy] at h1
          simpa using h1.symm
        rw [e3, ← List.append_assoc, List.nodup_append] at hnd
        exact hnd.2.2 s hm s (List.mem_cons_self) rfl
      refine sv_guard (et_o2 (et_not (et_v (ev_call (ok_is_name T) s (c2 s hsm) hr (ea1 (vv 3))))) fun _ => et_cmp op_in_seq (ep_of (vv 3)) (ep_ol (n := 1) (p := p) rfl List.mem_cons_self) r2_inS_l rfl) (fun h => ?_) fun _ => ?_
      · rw [decide_eq_false hn] at h
        cases h
      · have hjl : (a.take j).length ≤ a.length := by rw [List.length_take]; omega
        refine sv_append (i := 1) rfl (vv 3) ?_ (sv_nil ⟨⟨_, rfl⟩, ?_⟩)
        · rw [List.length_map, List.length_append]
          rw [List.length_append] at hlen
          exact szl
        · rw [take_succ_get hy]
          simp
    · obtain ⟨⟨s3, rfl⟩, rfl⟩ := hI
      refine sv_nil ⟨⟨_, _, rfl⟩, ?_⟩
      rw [e1, List.take_length]
  · obtain ⟨⟨s2, s3, rfl⟩, rfl⟩ := hI
    rw [List.take_length]
    refine sv_guard (et_gt (ev_len T.b_len (ep_ol (n := 1) (p := p) rfl List.mem_cons_self)) (ev_gint T.c_MOST_PLACES)) (fun h => ?_) fun _ => ?_
    · have h2 := of_decide_eq_true h
      have h3 : as.flatten.length ≤ 6 := a5
      rw [List.length_map] at h2
      omega
    · refine sv_retd (ev_tupleL T.b_tuple (ev_lc0 (xs := as) (own := [("area", 2)]) (tgG := gName 2) (f := eArea true) (fρ := fun a ρ => ρ.set 2 (.val (da (eArea u a)))) rfl sc_checked_areas.nd (it_of (if_sq (vv 0))) (blkOk_by (N := N_ca) (sc := defScope s_checked_areas) (by decide +kernel))
        (fun _ => pgn 2 sc_checked_areas.nd) (fun a _ => tg_name (by decide)) (fun a _ b => ev_tupleQ T.b_tuple (vv 2)) sz)) rfl
end
end L2.My
end
section
set_option Elab.async false
set_option linter.all false
set_option maxRecDepth 100000
set_option autoImplicit false
/-! D4: maps: paths, borders, outages. -/
namespace L2.My
open PySem PySem.Spec PyProof.Rows
def ePath (p : Str × Str) : PyData := .tuple [.str p.1, .str p.2]
def jt (p : Str × Str) : Str := Txt.join " " [p.1, p.2]
structure PathsOk (ps : List (Str × Str)) (places : List Str) : Prop where
  mem : ∀ p ∈ ps, (p.1 ∈ places ∧ p.2 ∈ places) ∧ p.1.cps.toList < p.2.cps.toList ∧ (p.1.length ≤ 8 ∧ p.2.length ≤ 8) ∧ PyData.strOk p.1 = true ∧ PyData.strOk p.2 = true
  nd : ps.Nodup
  key : (ps.map jt).Nodup
  srt : ∀ zs : List Str, zs.Perm (ps.map jt) → sortedS zs = true → zs = ps.map jt
  few : ps.length ≤ 20
theorem eqv_str (a b : Str) : PyData.eqv (.str a) (.str b) = decide (a = b) := by
  simp only [PyData.eqv]
  rw [Bool.beq_eq_decide_eq]
theorem eqv_ePath (p q : Str × Str) : PyData.eqv (ePath p) (ePath q) = decide (p = q) := by
  have e : PyData.eqv (ePath p) (ePath q) = (decide (p.1 = q.1) && (decide (p.2 = q.2) && true)) := by
    simp only [ePath, PyData.eqv, PyData.eqvAll, Bool.beq_eq_decide_eq]
  rw [e]
  by_cases h : p = q
  · subst h; simp
  · rw [decide_eq_false h]
    by_cases h1 : p.1 = q.1
    · by_cases h2 : p.2 = q.2
      · exact absurd (Prod.ext h1 h2) h
      · simp [h2]
    · simp [h1]
theorem shaped_ePath (p : Str × Str) (h : PyData.strOk p.1 = true ∧ PyData.strOk p.2 = true) : SeqAt.shaped (ePath p) = true := by
  show ((ePath p).canLay0 && decide ((ePath p).depth ≤ 64)) = true
  simp [ePath, PyData.canLay0, PyData.canLayAll0, PyData.depth, PyData.depthAll, h.1, h.2]
theorem shaped_ePaths (t : Bool) (ps : List (Str × Str)) (h : ∀ p ∈ ps, PyData.strOk p.1 = true ∧ PyData.strOk p.2 = true) : SeqAt.shaped (sq t (ps.map ePath)) = true := by
  have h1 : PyData.canLayAll0 (ps.map ePath) = true := by
    induction ps with
    | nil => simp [PyData.canLayAll0]
    | cons p ps ih =>
      obtain ⟨a, b⟩ := h p List.mem_cons_self
      rw [List.map_cons, PyData.canLayAll0, ih fun q hq => h q (List.mem_cons_of_mem _ hq)]
      simp [ePath, PyData.canLay0, PyData.canLayAll0, a, b]
  have h2 : PyData.depthAll (ps.map ePath) ≤ 1 := by
    clear h1 h
    induction ps with
    | nil => simp [PyData.depthAll]
    | cons p ps ih =>
      rw [List.map_cons, PyData.depthAll]
      have : (ePath p).depth = 1 := by simp [ePath, PyData.depth, PyData.depthAll]
      omega
  cases t with
  | true =>
    show ((PyData.tuple (ps.map ePath)).canLay0 && decide ((PyData.tuple (ps.map ePath)).depth ≤ 64)) = true
    rw [Bool.and_eq_true]
    refine ⟨by simp only [PyData.canLay0]; exact h1, decide_eq_true ?_⟩
    simp only [PyData.depth]
    omega
  | false =>
    show ((PyData.list (ps.map ePath)).canLay0 && decide ((PyData.list (ps.map ePath)).depth ≤ 64)) = true
    rw [Bool.and_eq_true]
    refine ⟨by simp only [PyData.canLay0]; exact h1, decide_eq_true ?_⟩
    simp only [PyData.depth]
    omega
theorem nods_ePaths (ps : List (Str × Str)) : nods (ps.map ePath) = true := by
  induction ps with
  | nil => rfl
  | cons p ps ih => rw [List.map_cons, nods, ih]; rfl
theorem nods_strs (ps : List Str) : nods (ps.map PyData.str) = true := by
  induction ps with
  | nil => rfl
  | cons p ps ih => rw [List.map_cons, nods, ih]; rfl
section
variable {P : Program} {w : World} {K : PySem.W.Frag} {mg : Str → Option Value} {base : Heap}
theorem sc_is_path : FnScope ["value", "places", "place"] ["value", "places"] (defScope s_is_path) := ⟨rfl, rfl, rfl, by decide +kernel, rfl, by decide +kernel, by decide +kernel⟩
theorem ok_is_path (T : TX K mg) : Def P w K mg base "is_path" 1 ["value", "places"] (spA (fun _ : (Str × Str) × List Str => True) (fun x => [da (ePath x.1), da (.list (x.2.map .str))]) (fun x => da (.bool (decide (x.1.1 ∈ x.2) && (decide (x.1.2 ∈ x.2) && decide (x.1.1.cps.toList < x.1.2.cps.toList)))))) := by
  refine def_mk T.d_is_path sc_is_path (fun _ _ _ _ _ _ us hl => match us, hl with | [_, _], _ => rfl) (fun _ => rfl) (by decide) fun ⟨⟨a, b⟩, ss⟩ _ f cdv A outer s0 H0 H E B hr => ?_
  refine sv_guard (et_o3 (et_not (et_v (ev_isi T.b_isinstance (vv 0) (ev_ty T.b_tuple (by decide +kernel)) (kb_tuple _)))) (fun _ => et_neI (ev_lenT T.b_len (ds := [.str a, .str b]) (ep_of (vv 0))) ev_int) fun _ _ => et_not (et_v (ev_all (bs := [true, true]) rfl T.b_all (ep_of (ev_lc0 (xs := [a, b]) (f := fun _ => .bool true) (g := fun s => da (.str s)) (own := [("place", 2)]) (tgG := gName 2) (fρ := fun c ρ => ρ.set 2 (.val (da (.str c)))) rfl sc_is_path.nd
    (it_of (if_tup (f := PyData.str) (vv 0))) (blkOk_by (N := ["value", "places", "place"]) (sc := defScope s_is_path) (by decide +kernel)) (fun _ => pgn 2 sc_is_path.nd) (fun c _ => tg_name (by decide)) (fun c _ bk => ev_isi (n := "str") (b := true) T.b_isinstance (vv 2) (ev_ty T.b_str (by decide +kernel)) (kb_str _)) (by show 2 ≤ sizeLine; decide)))))) (fun h => ?_) fun _ => ?_
  · cases h
  · exact sv_retd (ev_a3 (ev_cmp op_in_seq (ep_of (ev_ixT (ds := [.str a, .str b]) (vv 0) ev_int rfl)) (ep_of (vv 1)) r2_inS_l rfl) (fun _ => ev_cmp op_in_seq (ep_of (ev_ixT (ds := [.str a, .str b]) (vv 0) ev_int rfl)) (ep_of (vv 1)) r2_inS_l rfl)
      fun _ _ => ev_cmp op_lt_str (ep_of (ev_ixT (ds := [.str a, .str b]) (vv 0) ev_int rfl)) (ep_of (ev_ixT (ds := [.str a, .str b]) (vv 0) ev_int rfl)) r2_ltS (nomark _)) rfl
abbrev N_cp : List Str := ["paths", "places", "index", "value", "texts", "text"]
theorem sc_checked_paths : FnScope N_cp ["paths", "places"] (defScope s_checked_paths) := ⟨rfl, rfl, rfl, by decide +kernel, rfl, by decide +kernel, by decide +kernel⟩
theorem ok_checked_paths (T : TX K mg) : Def P w K mg base "checked_paths" 2 ["paths", "places"] (spA (fun x : Bool × List (Str × Str) × List Str => PathsOk x.2.1 x.2.2) (fun x => [da (sq x.1 (x.2.1.map ePath)), da (.list (x.2.2.map .str))]) (fun x => da (.tuple (x.2.1.map ePath)))) := by
  refine def_mk T.d_checked_paths sc_checked_paths (fun _ _ _ _ _ _ us hl => match us, hl with | [_, _], _ => rfl) (fun _ => rfl) (by decide) fun ⟨t, ps, ss⟩ hp f cdv A outer s0 H0 H E B hr => ?_
  have hp : PathsOk ps ss := hp
  have few := hp.few
  refine sv_guard (et_not (et_v (ev_call (ok_is_row T) _ True.intro hr (ea1 (vv 0))))) (fun h => ?_) fun _ => ?_
  · rw [isRow_sq] at h; cases h
  refine sv_for (xs := ps.zipIdx) (g := fun y => da (.tuple [.int (y.2 : Nat), ePath y.1])) (vs := [2, 3]) (fun i ρ' ow' => (∃ s2 s3, ρ' = [.val (da (sq t (ps.map ePath))), .val (da (.list (ss.map .str))), s2, s3, .no, .no]) ∧ ow' = [])
    PassesOwn.never rfl (if_enumQ T.b_enumerate (vv 0)) (pg_tup rfl (pgs_cons (pgn 2 sc_checked_paths.nd) (pgs_cons (pgn 3 sc_checked_paths.nd) pgs_nil))) (fun x _ => tg_tup (tgs_cons (by decide) (tgs_cons (by decide) tgs_nil)) rfl) ⟨⟨_, _, rfl⟩, rfl⟩ (fun i x ρ' ow' B' hx hI => ?_) fun ρ' ow' hI => ?_
  · obtain ⟨⟨s2, s3, rfl⟩, rfl⟩ := hI
    obtain ⟨q, n⟩ := x
    obtain ⟨e1, e2⟩ := zipIdx_get hx
    have e1 : ps[i]? = some q := e1
    obtain rfl : n = i := e2
    have hqm := List.mem_of_getElem? e1
    obtain ⟨⟨m1, m2⟩, m3, _⟩ := hp.mem q hqm
    have hnot : ((ps.take n).map ePath).any (fun z => PyData.eqv z (ePath q)) = false := by
      rw [Bool.eq_false_iff]
      intro hz
      obtain ⟨d, hd, hz⟩ := List.any_eq_true.mp hz
      obtain ⟨r, hr, rfl⟩ := List.mem_map.mp hd
      rw [eqv_ePath] at hz
      have hrq := of_decide_eq_true hz
      subst hrq
      have nd := hp.nd
      rw [← List.take_append_drop (n + 1) ps, take_succ_get e1, List.append_assoc, List.nodup_append] at nd
      exact nd.2.2 r hr r (by simp) rfl
    have hall : ∀ r ∈ ps.take n, PyData.strOk r.1 = true ∧ PyData.strOk r.2 = true := fun r hr => (hp.mem r (List.mem_of_mem_take hr)).2.2.2
    have hq4 : PyData.strOk q.1 = true ∧ PyData.strOk q.2 = true := (hp.mem q hqm).2.2.2
    refine sv_guard (et_o2 (y := false) (et_not (et_v (ev_call (ok_is_path T) (q, ss) True.intro hr (ea2 (vv 3) (vv 1))))) fun _ => ?_) (fun h => ?_) fun _ => sv_nil ⟨⟨_, _, rfl⟩, rfl⟩
    · cases t with
      | true =>
        refine et_eq (et_cmp (op_inTD (by have := hr.un; omega)) (ep_of (vv 3)) (ep_of (ev_sliceT (vv 0) eo_none (eo_some (vv 2)))) (r2_inTD (by rfl) ?_ (shaped_ePath _ hq4) ?_) rfl) ?_
        · rw [cutL_map]; exact nods_ePaths _
        · rw [cutL_map, cutL_to]; exact shaped_ePaths true _ hall
        · rw [cutL_map, cutL_to]; exact hnot
      | false =>
        refine et_eq (et_cmp (op_inD (by have := hr.un; omega)) (ep_of (vv 3)) (ep_of (ev_sliceL (vv 0) eo_none (eo_some (vv 2)))) (r2_inD (by rfl) ?_ (shaped_ePath _ hq4) ?_) rfl) ?_
        · rw [cutL_map]; exact nods_ePaths _
        · rw [cutL_map, cutL_to]; exact shaped_ePaths false _ hall
        · rw [cutL_map, cutL_to]; exact hnot
    · rw [decide_eq_true m1, decide_eq_true m2, decide_eq_true m3] at h
      cases h
  · obtain ⟨⟨s2, s3, rfl⟩, rfl⟩ := hI
    have e0 : dcF (fun q : Str × Str => (Sum.inr (jt q) : Key)) ePath ps = ps.map fun q => ((Sum.inr (jt q) : Key), ePath q) := dcF_nodup (by
      rw [show (ps.map fun q => (Sum.inr (jt q) : Key)) = (ps.map jt).map Sum.inr by rw [List.map_map]; rfl]
      exact hp.key.map Sum.inr fun a b h e => h (Sum.inr.inj e))
    refine sv_ownDc (i := 4) (xs := ps) (g := fun q => da (ePath q)) (own := [("value", 3)]) (tgG := gName 3) (kf := fun q => Sum.inr (jt q)) (f := ePath) (fρ := fun q ρ => ρ.set 3 (.val (da (ePath q)))) rfl sc_checked_paths.nd (if_sq (vv 0)) (blkOk_by (N := N_cp) (sc := defScope s_checked_paths) (by decide +kernel))
      (fun _ => pgn 3 sc_checked_paths.nd) (fun q _ => tg_name (by decide)) (fun q hq b => ev_join (t := true) (ss := [q.1, q.2]) ev_str (vv 3) ?_) (fun q _ b => vv 3) sz fun p => ?_
    · obtain ⟨_, _, ⟨l1, l2⟩, _⟩ := hp.mem q hq
      show q.1.length + (q.2.length + 0) + 2 * (1 : Nat) ≤ 16777216
      omega
    rw [e0]
    refine sv_retd (ev_tupleL T.b_tuple (ev_eq (ev_lc0 (xs := ps) (g := fun q => da (.str (jt q))) (f := ePath) (own := [("text", 5)]) (tgG := gName 5) (fρ := fun q ρ => ρ.set 5 (.val (da (.str (jt q))))) rfl sc_checked_paths.nd (it_of (if_list (f := fun q => PyData.str (jt q)) (ev_eq (ev_sortedS (ss := ps.map jt) (ys := ps.map jt) T.b_sorted (ev_lock (ev_eq (ev_lc0 (xs := ps.map fun q => ((Sum.inr (jt q) : Key), ePath q)) (f := fun z => kd z.1) (own := [("text", 5)]) (tgG := gName 5) (fρ := fun z ρ => ρ.set 5 (.val (da (kd z.1)))) rfl sc_checked_paths.nd
      (it_keys (n := 4) (p := p) rfl List.mem_cons_self) (blkOk_by (N := N_cp) (sc := defScope s_checked_paths) (by decide +kernel)) (fun _ => pgn 5 sc_checked_paths.nd) (fun z _ => tg_name (by decide)) (fun z hz b => ?_) ?_) ?_)) ?_ ?_) ?_))) (blkOk_by (N := N_cp) (sc := defScope s_checked_paths) (by decide +kernel))
      (fun _ => pgn 5 sc_checked_paths.nd) (fun z _ => tg_name (by decide)) (fun q hq b => ev_dgetO (key := Sum.inr (jt q)) (hu_of hr) (n := 4) (q := p) rfl List.mem_cons_self (vv 5) (lkD_map ?_ hq)) sz) rfl)) rfl
    · obtain ⟨q, hq, rfl⟩ := List.mem_map.mp hz
      exact ev_strS T.b_str (vv 5)
    · rw [List.length_map]; exact sz
    · rw [List.map_map, List.map_map]; rfl
    · rw [List.length_map]; omega
    · exact hp.srt
    · rw [List.map_map]; rfl
    · rw [show (ps.map fun q => (Sum.inr (jt q) : Key)) = (ps.map jt).map Sum.inr by rw [List.map_map]; rfl]
      exact hp.key.map Sum.inr fun a b h e => h (Sum.inr.inj e)
end
end L2.My
end
section
set_option Elab.async false
set_option linter.all false
set_option maxRecDepth 100000
set_option autoImplicit false
/-! D5: maps: borders, outages; a Map; its methods. -/
namespace L2.My
open PySem PySem.Spec PyProof.Rows
def eO : Option Int → PyData
  | none => .none
  | some i => .int i
def oOk : Option Int → Bool
  | none => true
  | some i => decide (0 ≤ i) && decide (i ≤ 6)
theorem Das.rep {H : Hp} {vs : List V} {d : PyData} (t : Das H vs [d]) : ∀ n : Nat, Das H (List.replicate n vs).flatten (List.replicate n d)
  | 0 => .nil
  | n + 1 => by
    rw [List.replicate_succ, List.flatten_cons, List.replicate_succ]
    exact t.append (t.rep n)
theorem ev_repT {X : Cx} {B : Hp × Hp} {ρ : List Slot} {ow : Ow} {a b : Expr} {pos : Pos} {d : PyData} {n : Nat} (ha : EV X B ρ ow a (da (.tuple [d]))) (hb : EV X B ρ ow b (da (.int (n : Nat)))) (h : 2 ≤ n ∧ n ≤ 1000) : EV X B ρ ow (.BinOp a .Mult b pos) (da (.tuple (List.replicate n d))) :=
  L2.PE.weak (pe_op op_repT ha hb) fun σ H Q ⟨G, ok, k⟩ => ⟨G, ok, fun v1 G1 H1 g1 p1 => ⟨G1, ok.grow g1, fun v2 G2 H2 g2 p2 => by
    cases (show Da G2 v2 (.int (n : Nat)) from p2)
    obtain ⟨l, vs, rfl, e, t⟩ : ∃ a vs, v1 = .ref a ∧ G2 a = some (.tup vs) ∧ Das G2 vs [d] := by
      cases Da.mono g2.g (show Da G1 v1 (.tuple [d]) from p1) with
      | tup e t => exact ⟨_, _, rfl, e, t⟩
    have hl := t.length
    refine ⟨l, (n : Int), vs, rfl, rfl, .of (g2.s _ _ e), fun z => by rw [z] at hl; simp at hl, by omega, by omega, by rw [hl]; simp, fun p hp => ?_⟩
    have al := Gr.alloc (o := .tup (List.replicate (n : Int).toNat vs).flatten) g2.s hp
    refine k _ _ _ ((g1.trans g2).trans al) (.tup upd_same ?_)
    rw [Int.toNat_natCast]
    exact (t.mono al.g).rep n⟩⟩
section
variable {P : Program} {w : World} {K : PySem.W.Frag} {mg : Str → Option Value} {base : Heap}
theorem sc_is_outage : FnScope ["value"] ["value"] (defScope s_is_outage) := ⟨rfl, rfl, rfl, by decide +kernel, rfl, by decide +kernel, by decide +kernel⟩
theorem ok_is_outage (T : TX K mg) : Def P w K mg base "is_outage" 3 ["value"] (spA (fun _ : Option Int => True) (fun o => [da (eO o)]) (fun o => da (.bool (oOk o)))) := by
  refine def_mk T.d_is_outage sc_is_outage (fun _ _ _ _ _ _ us hl => match us, hl with | [_], _ => rfl) (fun _ => rfl) (by decide) fun o _ f cdv A outer s0 H0 H E B hr => ?_
  refine sv_retd (ev_o2 (ev_is (vv 0) ev_non) fun _ => ev_call (ok_is_between T) (eO o, 0, 6) True.intro hr (ea3 (vv 0) ev_int (ev_gint T.c_MOST_OUTAGE))) ?_
  cases o <;> rfl
abbrev N_cb : List Str := ["borders", "many", "length", "border"]
theorem sc_checked_borders : FnScope N_cb ["borders", "many", "length"] (defScope s_checked_borders) := ⟨rfl, rfl, rfl, by decide +kernel, rfl, by decide +kernel, by decide +kernel⟩
def eB : Option (Bool × List Int) → PyData
  | none => .none
  | some (t, bs) => sq t (bs.map .int)
def bordsOf (many : Nat) : Option (Bool × List Int) → List Int
  | none => List.replicate many 0
  | some (_, bs) => bs
def BordsOk (x : Option (Bool × List Int)) (many : Nat) (len : Int) : Prop := match x with
  | none => 2 ≤ many ∧ many ≤ 4
  | some (_, bs) => bs.length = many ∧ many ≤ 4 ∧ ∀ b ∈ bs, 0 ≤ b ∧ b ≤ len - 1
theorem ok_checked_borders (T : TX K mg) : Def P w K mg base "checked_borders" 3 ["borders", "many", "length"] (spA (fun x : Option (Bool × List Int) × Nat × Int => BordsOk x.1 x.2.1 x.2.2) (fun x => [da (eB x.1), da (.int (x.2.1 : Nat)), da (.int x.2.2)]) (fun x => da (.tuple ((bordsOf x.2.1 x.1).map .int)))) := by
  refine def_mk T.d_checked_borders sc_checked_borders (fun _ _ _ _ _ _ us hl => match us, hl with | [_, _, _], _ => rfl) (fun _ => rfl) (by decide) fun ⟨o, many, len⟩ hp f cdv A outer s0 H0 H E B hr => ?_
  cases o with
  | none =>
    have hp : 2 ≤ many ∧ many ≤ 4 := hp
    refine sv_guard (et_is (vv 0) ev_non) (fun _ => ?_) fun h => by cases h
    refine sv_retd (ev_repT (ev_tup (ed_cons ev_int ed_nil) (by decide)) (vv 1) (show 2 ≤ many ∧ many ≤ 1000 by omega)) ?_
    show PyData.tuple (List.replicate many (.int 0)) = .tuple ((List.replicate many (0 : Int)).map .int)
    rw [List.map_replicate]
  | some tb =>
    obtain ⟨t, bs⟩ := tb
    obtain ⟨h1, h2, h3⟩ : bs.length = many ∧ many ≤ 4 ∧ ∀ b ∈ bs, 0 ≤ b ∧ b ≤ len - 1 := hp
    have hN : isN (sq t (bs.map PyData.int)) = false := by cases t <;> rfl
    refine sv_guard (et_is (d := sq t (bs.map .int)) (vv 0) ev_non) (fun h => by rw [hN] at h; cases h) fun _ => ?_
    refine sv_guard (et_o2 (et_not (et_v (ev_call (ok_is_row T) (sq t (bs.map .int)) True.intro (hr.mono (by decide)) (ea1 (vv 0))))) fun _ => et_neI (ev_lenQ (t := t) (ds := bs.map .int) T.b_len (vv 0)) (vv 1)) (fun h => ?_) fun _ => ?_
    · rw [isRow_sq, List.length_map, decide_eq_true (show ((bs.length : Nat) : Int) = (many : Nat) by omega)] at h
      cases h
    refine sv_guard (et_not (et_v (ev_all (bs := bs.map fun b => between (.int b) 0 (len - 1)) rfl T.b_all (ep_of (ev_eq (ev_lc0 (xs := bs) (f := fun b => .bool (between (.int b) 0 (len - 1))) (g := fun b => da (.int b)) (own := [("border", 3)]) (tgG := gName 3) (fρ := fun b ρ => ρ.set 3 (.val (da (.int b)))) rfl sc_checked_borders.nd (it_of (if_sq (t := t) (f := PyData.int) (vv 0)))
      (blkOk_by (N := N_cb) (sc := defScope s_checked_borders) (by decide +kernel)) (fun _ => pgn 3 sc_checked_borders.nd) (fun c _ => tg_name (by decide)) (fun b _ bk => ev_call (ok_is_between T) (.int b, 0, len - 1) True.intro hr (ea3 (vv 3) ev_int (ev_sub (vv 2) ev_int))) sz) (by rw [List.map_map]; rfl)))))) (fun h => ?_) fun _ => ?_
    · have : (bs.map fun b => between (.int b) 0 (len - 1)).all id = true := by
        rw [List.all_map, List.all_eq_true]
        intro b hb
        obtain ⟨a1, a2⟩ := h3 b hb
        show (decide ((0 : Int) ≤ b) && decide (b ≤ len - 1)) = true
        rw [decide_eq_true a1, decide_eq_true a2]
        rfl
      rw [this] at h
      cases h
    · exact sv_retd (ev_tupleQ (t := t) T.b_tuple (vv 0)) rfl
abbrev N_co : List Str := ["outages", "many", "outage"]
theorem sc_checked_outages : FnScope N_co ["outages", "many"] (defScope s_checked_outages) := ⟨rfl, rfl, rfl, by decide +kernel, rfl, by decide +kernel, by decide +kernel⟩
theorem ok_checked_outages (T : TX K mg) : Def P w K mg base "checked_outages" 4 ["outages", "many"] (spA (fun x : Bool × List (Option Int) => x.2.length ≤ 4 ∧ ∀ o ∈ x.2, oOk o = true) (fun x => [da (sq x.1 (x.2.map eO)), da (.int x.2.length)]) (fun x => da (.tuple (x.2.map eO)))) := by
  refine def_mk T.d_checked_outages sc_checked_outages (fun _ _ _ _ _ _ us hl => match us, hl with | [_, _], _ => rfl) (fun _ => rfl) (by decide) fun ⟨t, os⟩ hp f cdv A outer s0 H0 H E B hr => ?_
  obtain ⟨h1, h2⟩ : os.length ≤ 4 ∧ ∀ o ∈ os, oOk o = true := hp
  have hN : isN (sq t (os.map eO)) = false := by cases t <;> rfl
  refine sv_guard (et_is (d := sq t (os.map eO)) (vv 0) ev_non) (fun h => by rw [hN] at h; cases h) fun _ => ?_
  refine sv_guard (et_o3 (z := !(os.map oOk).all id) (et_not (et_v (ev_call (ok_is_row T) (sq t (os.map eO)) True.intro (hr.mono (by decide)) (ea1 (vv 0))))) (fun _ => et_neI (ev_lenQ (t := t) (ds := os.map eO) T.b_len (vv 0)) (vv 1)) fun _ _ => et_not (et_v (ev_all (bs := os.map oOk) rfl T.b_all (ep_of (ev_eq (ev_lc0 (xs := os) (f := fun o => .bool (oOk o)) (g := fun o => da (eO o)) (own := [("outage", 2)]) (tgG := gName 2) (fρ := fun o ρ => ρ.set 2 (.val (da (eO o)))) rfl sc_checked_outages.nd (it_of (if_sq (t := t) (vv 0)))
      (blkOk_by (N := N_co) (sc := defScope s_checked_outages) (by decide +kernel)) (fun _ => pgn 2 sc_checked_outages.nd) (fun c _ => tg_name (by decide)) (fun o _ bk => ev_call (ok_is_outage T) o True.intro hr (ea1 (vv 2))) sz) (by rw [List.map_map]; rfl)))))) (fun h => ?_) fun _ => ?_
  · have : (os.map oOk).all id = true := by
      rw [List.all_map, List.all_eq_true]
      exact h2
    rw [isRow_sq, List.length_map, decide_eq_true (show ((os.length : Nat) : Int) = os.length by rfl), this] at h
    cases h
  · exact sv_retd (ev_tupleQ (t := t) T.b_tuple (vv 0)) rfl
end
end L2.My
end
section
set_option Elab.async false
set_option linter.all false
set_option maxRecDepth 100000
set_option autoImplicit false
set_option maxHeartbeats 4000000
/-! Lay13: tuple * 1. -/
namespace L2.My
open PySem PySem.Spec PyProof.Rows
theorem tuple_mulW1 (l : Addr) (items : Array Value) (n : Nat) (dd : Option Addr) (sl : Array (Option Value)) (u : Tok) :
    Meets (Builtin.«tuple.__mul__» ⟨[.ref l, .int 1 u], []⟩) (fun _ R s => s.heap.get? l = some { cls := .type "tuple", dict := dd, data := .seq items n, slots := sl } ∧ R (.ok (.ret (Value.ref l))) s) :=
  .of_wp fun prog w A R s h => by
    obtain ⟨hp, g, d, tk, os⟩ := s
    obtain ⟨hl, h⟩ := h
    have f1 := AutoSeq1.idx_int
    have c1 : (items.isEmpty || (1 : Int) == 1) = true := by simp
    wp_walk using wpAny_loadPart' hl
    exact ⟨_, rfl, h⟩
def rRepT1 (K : PySem.W.Frag) : R2 := fun x y H Q => ∃ l xs, x = .ref l ∧ y = .int 1 ∧ SqT K H l xs ∧ Q (.ref l) H
theorem op_repT1 {X : Cx} : OpR X (binaryOp .Mult) (rRepT1 X.K) := by
  intro pins s σ H x y v u Q I rx ry h
  obtain ⟨l, xs, rfl, rfl, hT, q⟩ := h
  cases rx
  obtain ⟨t, rfl⟩ := ry
  obtain ⟨its, r, ⟨⟨cls, dd, data, sl⟩, ho, hc, n, hd⟩, hs⟩ := I.tuple hT
  simp only at hc hd
  subst hc hd
  refine wpAny_binaryOp_repeat_ref (T := "tuple") (U := "int") (by decide) ⟨_, ho, rfl⟩ (fun s' => typeIs_int s' 1 t) noFill_tuple_mul F.fills_int_mul F.slot_int_rmul repeat_tuple F.slot_int_index.lookup
    (call_meets F.slot_int_rmul (typeIs_int s 1 t) F.entry_int_rmul (F.args_int_rmul_2 _ _) (int_rmul_tuple 1 t l its.toArray n dd sl)
      ⟨ho, rfl, ⟨_, ho, rfl⟩, call_meets F.slot_tuple_mul ⟨_, ho, rfl⟩ F.entry_tuple_mul (F.args_tuple_mul_2 _ _) (tuple_mulW1 l its.toArray n dd sl t) ⟨ho, ?_⟩⟩)
  exact ⟨.ref l, H, I, rfl, q⟩
theorem ev_repT1 {X : Cx} {B : Hp × Hp} {ρ : List Slot} {ow : Ow} {a b : Expr} {pos : Pos} {d : PyData} (ha : EV X B ρ ow a (da (.tuple [d]))) (hb : EV X B ρ ow b (da (.int 1))) : EV X B ρ ow (.BinOp a .Mult b pos) (da (.tuple [d])) :=
  L2.PE.weak (pe_op op_repT1 ha hb) fun σ H Q ⟨G, ok, k⟩ => ⟨G, ok, fun v1 G1 H1 g1 p1 => ⟨G1, ok.grow g1, fun v2 G2 H2 g2 p2 => by
    cases (show Da G2 v2 (.int 1) from p2)
    have p3 : Da G2 v1 (.tuple [d]) := Da.mono g2.g (show Da G1 v1 (.tuple [d]) from p1)
    obtain ⟨l, vs, rfl, e, t⟩ : ∃ a vs, v1 = .ref a ∧ G2 a = some (.tup vs) ∧ Das G2 vs [d] := by
      cases p3 with
      | tup e t => exact ⟨_, _, rfl, e, t⟩
    exact ⟨l, vs, rfl, rfl, .of (g2.s _ _ e), k _ _ _ (g1.trans g2) p3⟩⟩⟩
/-- (x,) * n, n at least 1 -/
theorem ev_repTn {X : Cx} {B : Hp × Hp} {ρ : List Slot} {ow : Ow} {a b : Expr} {pos : Pos} {d : PyData} {n : Nat} (ha : EV X B ρ ow a (da (.tuple [d]))) (hb : EV X B ρ ow b (da (.int (n : Nat)))) (h : 1 ≤ n ∧ n ≤ 1000) : EV X B ρ ow (.BinOp a .Mult b pos) (da (.tuple (List.replicate n d))) := by
  by_cases h1 : n = 1
  · subst h1
    exact ev_repT1 ha hb
  · exact ev_repT ha hb ⟨by omega, h.2⟩
end L2.My
end
section
set_option Elab.async false
set_option linter.all false
set_option maxRecDepth 100000
set_option autoImplicit false
set_option maxHeartbeats 2000000
/-! Lay14: {k: v for .. for ..}, the store told by its own reading. -/
namespace L2.My
open PySem PySem.Spec PyProof.Rows
abbrev dcx (kx vx t0 i0 t1 i1 : Expr) (js ks : List Expr) (scope : Scope) (pos : Pos) : Expr := .DictComp kx vx [⟨t0, i0, js, 0⟩, ⟨t1, i1, ks, 0⟩] scope pos
theorem dturn_out (kx vx t0 i0 t1 i1 : Expr) (js ks : List Expr) (scope : Scope) (pos : Pos) (z acc : Value) (ev : Env) :
    compTurn (dcx kx vx t0 i0 t1 i1 js ks scope pos) 0 z acc ev = (do
      standAt i0.pos
      match ← pyNext z with
      | none => pure (.done .next)
      | some y =>
        letOwnedTupleGo t0 z y
        assign t0 ev y
        let mut fine := true
        for q in js do
          if fine then fine ← isTrue q ev (eval q ev)
        if fine then
          let x ← eval i1 ev
          standAt i1.pos
          let x ← foldedSetIterable i1 ev x
          let _ ← runOwn (.compStart (dcx kx vx t0 i0 t1 i1 js ks scope pos) 1 (← holding [x] (pyIter x)) acc ev) ev
        again (.compLoop (dcx kx vx t0 i0 t1 i1 js ks scope pos) 0 z acc ev)) := by rfl
theorem dturn_in (kx vx t0 i0 t1 i1 : Expr) (js ks : List Expr) (scope : Scope) (pos : Pos) (z : Value) (D : Addr) (ev : Env) :
    compTurn (dcx kx vx t0 i0 t1 i1 js ks scope pos) 1 z (.ref D) ev = (do
      standAt i1.pos
      match ← pyNext z with
      | none => pure (.done .next)
      | some y =>
        letOwnedTupleGo t1 z y
        assign t1 ev y
        let mut fine := true
        for q in ks do
          if fine then fine ← isTrue q ev (eval q ev)
        if fine then
          (do
            let a ← eval kx ev
            let b ← holding [a] (eval vx ev)
            standAt { kx.pos with endLine := vx.pos.endLine, endCol := vx.pos.endCol }
            holding [a, b] (dictSet D a b))
        again (.compLoop (dcx kx vx t0 i0 t1 i1 js ks scope pos) 1 z (.ref D) ev)) := by rfl
section
variable {prog : Program} {w : World} {A : Around} {R : Result → Shared → Prop} {s : Shared} {kx vx t0 i0 t1 i1 : Expr} {js ks : List Expr} {scope : Scope} {pos : Pos} {z acc : Value} {D : Addr} {ev : Env}
abbrev NB (prog : Program) (w : World) (A : Around) (ev : Env) (R : Result → Shared → Prop) : Value → Shared → Prop := notedBy (model prog w) A ev fun x s' => R (.error x) s'
theorem dloop_out (hfs : ∀ x, foldedSetIterable i1 ev x = pure x) (J : Nat → Shared → Prop)
    (turn : ∀ n u, J n u → wpAny (model prog w) A (pyNext z) (fun r u1 => match r with
      | none => R (.ok .next) u1
      | some y => wpAny (model prog w) A (letOwnedTupleGo t0 z y) (fun _ u2 => wpAny (model prog w) A (assign t0 ev y) (fun _ u3 =>
          wpAny (model prog w) A (forIn js true fun c r => if r = true then do let ok ← isTrue c ev (eval c ev); pure (ForInStep.yield ok) else pure (ForInStep.yield r)) (fun fine u4 =>
            if fine = true then wpAny (model prog w) A (eval i1 ev) (fun x u5 => wpAny (model prog w) A (pyIter x) (fun z1 u6 =>
              codeAny (model prog w) A (.compStart (dcx kx vx t0 i0 t1 i1 js ks scope pos) 1 z1 acc ev) (fun r u7 => match r with
                | .ok _ => ∃ m, m < n ∧ J m u7
                | .error _ => False) u6) (NB prog w A ev R) u5) (NB prog w A ev R) u4
            else ∃ m, m < n ∧ J m u4) (NB prog w A ev R) u3) (NB prog w A ev R) u2) (NB prog w A ev R) u1) (NB prog w A ev R) u)
    (n : Nat) (h : J n s) : codeAny (model prog w) A (.compLoop (dcx kx vx t0 i0 t1 i1 js ks scope pos) 0 z acc ev) R s := by
  refine codeAny_loop rfl J (fun n u hJ => ?_) n h
  show wpAny _ A ((compTurn (dcx kx vx t0 i0 t1 i1 js ks scope pos) 0 z acc ev).onRaise (fun x => do noteFrame x ev; theTreesLotGoes x)) _ _ u
  refine wpAny_noted ?_
  rw [dturn_out]
  refine wpAny_bind (wpAny_standAt (wpAny_bind (wpAny_mono (turn n u hJ) (fun r u1 k1 => ?_) fun _ _ k => k)))
  cases r with
  | none => exact wpAny_pure k1
  | some y =>
    refine wpAny_bind (wpAny_mono k1 (fun _ u2 k2 => ?_) fun _ _ k => k)
    refine wpAny_bind (wpAny_mono k2 (fun _ u3 k3 => wpAny_bind (wpAny_mono k3 (fun fine u4 k4 => ?_) fun _ _ k => k)) fun _ _ k => k)
    cases fine with
    | false => exact wpAny_pure ⟨rfl, k4⟩
    | true =>
      refine wpAny_bind (wpAny_mono k4 (fun x u5 k5 => ?_) fun _ _ k => k)
      refine wpAny_bind (wpAny_standAt (wpAny_bind (wpAny_of_eq (hfs x) (wpAny_bind (wpAny_holding (wpAny_mono k5 (fun z1 u6 k6 => ?_) fun _ _ k => k))))))
      refine wpAny_bind (wpAny_runOwn ?_)
      rw [Around.mark_none]
      refine codeAny_mono k6 fun r u7 k7 => ?_
      cases r with
      | ok f => first | exact wpAny_pure ⟨rfl, k7⟩ | exact wpAny_bind (wpAny_pure (wpAny_pure ⟨rfl, k7⟩))
      | error e => exact k7.elim
theorem dloop_in (J : Nat → Shared → Prop)
    (turn : ∀ n u, J n u → wpAny (model prog w) A (pyNext z) (fun r u1 => match r with
      | none => R (.ok .next) u1
      | some y => wpAny (model prog w) A (letOwnedTupleGo t1 z y) (fun _ u2 => wpAny (model prog w) A (assign t1 ev y) (fun _ u3 =>
          wpAny (model prog w) A (forIn ks true fun c r => if r = true then do let ok ← isTrue c ev (eval c ev); pure (ForInStep.yield ok) else pure (ForInStep.yield r)) (fun fine u4 =>
            if fine = true then wpAny (model prog w) A (eval kx ev) (fun a u5 => wpAny (model prog w) A (eval vx ev) (fun b u6 =>
              wpAny (model prog w) A (dictSet D a b) (fun _ u7 => ∃ m, m < n ∧ J m u7) (NB prog w A ev R) u6) (NB prog w A ev R) u5) (NB prog w A ev R) u4
            else ∃ m, m < n ∧ J m u4) (NB prog w A ev R) u3) (NB prog w A ev R) u2) (NB prog w A ev R) u1) (NB prog w A ev R) u)
    (n : Nat) (h : J n s) : codeAny (model prog w) A (.compLoop (dcx kx vx t0 i0 t1 i1 js ks scope pos) 1 z (.ref D) ev) R s := by
  refine codeAny_loop rfl J (fun n u hJ => ?_) n h
  show wpAny _ A ((compTurn (dcx kx vx t0 i0 t1 i1 js ks scope pos) 1 z (.ref D) ev).onRaise (fun x => do noteFrame x ev; theTreesLotGoes x)) _ _ u
  refine wpAny_noted ?_
  rw [dturn_in]
  refine wpAny_bind (wpAny_standAt (wpAny_bind (wpAny_mono (turn n u hJ) (fun r u1 k1 => ?_) fun _ _ k => k)))
  cases r with
  | none => exact wpAny_pure k1
  | some y =>
    refine wpAny_bind (wpAny_mono k1 (fun _ u2 k2 => ?_) fun _ _ k => k)
    refine wpAny_bind (wpAny_mono k2 (fun _ u3 k3 => wpAny_bind (wpAny_mono k3 (fun fine u4 k4 => ?_) fun _ _ k => k)) fun _ _ k => k)
    cases fine with
    | false => exact wpAny_pure ⟨rfl, k4⟩
    | true =>
      exact wpAny_bind (wpAny_bind (wpAny_mono k4 (fun a u5 k5 => wpAny_bind (wpAny_holding (wpAny_mono k5 (fun b u6 k6 => wpAny_bind (wpAny_standAt (wpAny_holding (wpAny_mono k6 (fun _ u7 k7 => wpAny_pure ⟨rfl, k7⟩) fun _ _ k => k)))) fun _ _ k => k))) fun _ _ k => k))
theorem dstart1 (h0 : codeAny (model prog w) A (.compLoop (dcx kx vx t0 i0 t1 i1 js ks scope pos) 1 z acc ev) R s)
    (h : wpAny (model prog w) A (pyIter z) (fun z' s' => codeAny (model prog w) A (.compLoop (dcx kx vx t0 i0 t1 i1 js ks scope pos) 1 z' acc ev) R s') (NB prog w A ev R) s) :
    codeAny (model prog w) A (.compStart (dcx kx vx t0 i0 t1 i1 js ks scope pos) 1 z acc ev) R s := by
  refine codeAny_of_tree ?_
  show wpAny _ _ ((compStart (dcx kx vx t0 i0 t1 i1 js ks scope pos) 1 z acc ev).onRaise (fun x => do noteFrame x ev; standAt theWindowsPlace)) _ _ s
  refine wpAny_notedAt ?_
  unfold compStart
  show wpAny _ _ (ask >>= _) _ _ s
  refine wpAny_bind (wpAny_askSetting (wpAny_ite ?_))
  split
  · first | exact wpAny_bind (wpAny_pure (wpAny_pure (And.intro rfl h0))) | exact wpAny_pure (And.intro rfl h0)
  · first
      | exact wpAny_bind (wpAny_rule (wpAny_bind (wpAny_standAt (wpAny_bind (wpAny_mono h (fun z' u k => wpAny_pure (And.intro rfl k)) fun _ _ x => x)))))
      | (refine wpAny_bind (wpAny_rule ?_); show wpAny _ _ (standAt i1.pos >>= _) _ _ s; exact wpAny_bind (wpAny_standAt (wpAny_bind (wpAny_mono h (fun z' u k => wpAny_pure (And.intro rfl k)) fun _ _ x => x))))
end
end L2.My
end
section
set_option Elab.async false
set_option linter.all false
set_option maxRecDepth 100000
set_option autoImplicit false
set_option maxHeartbeats 2000000
/-! Lay15: {k: v for .. for ..}: the rule. -/
namespace L2.My
open PySem PySem.Spec PyProof.Rows
/-- how d[k] = v is told -/
abbrev Sto := Addr → V → V → Hp → (Hp → Prop) → Prop
def StoOk (Y : Cx) (sto : Sto) : Prop := ∀ (pins : List (Addr × Obj)) (σ : St) (H : Hp) (s : Shared) (D : Addr) (y v : V) (u r : Value) (Nx : Hp → Prop) (Q : Unit → Shared → Prop) (E : Value → Shared → Prop), Inv Y pins σ H s → RelV y u → RelV v r → sto D y v H Nx →
  (∀ H' s', Inv Y pins σ H' s' → Nx H' → Q () s') → wpAny (model Y.prog Y.w) Y.A (dictSet D u r) Q E s
section
variable {X : Cx}
def tDc2 (wi : TI) (g : TG) (tt : TT) (wi1 : TI) (g1 : TG) (tt1 : TT) (tk tv : TE) (sto : Sto) (vs vs1 : List Nat) : TE := fun σ H Q => wi σ H fun J H1 => ∀ D, H1 D = none → ∃ W : Nat → Nat → Hp → Prop, (∃ m, W 0 m (upd H1 D (.dK []))) ∧ ∀ i m H, W i m H →
  (J.stop i H ∧ Q (.ref D) H) ∨ (J.go i H ∧ ∃ Nx : Hp → Prop, (∀ H', Nx H' → ∃ m', m' < m ∧ W (i + 1) m' H') ∧ ∀ x H', J.yld i H x H' → g x (wipe σ vs) H' fun σ2 H2 => wipe σ2 vs = wipe σ vs ∧ tt σ2 H2 fun b H3 =>
    if b = true then wi1 σ2 H3 fun J1 H4 => ∃ W1 : Nat → Nat → Hp → Prop, (∃ m, W1 0 m H4) ∧ ∀ j k H, W1 j k H →
      (J1.stop j H ∧ Nx H) ∨ (J1.go j H ∧ ∃ Nx1 : Hp → Prop, (∀ H', Nx1 H' → ∃ k', k' < k ∧ W1 (j + 1) k' H') ∧ ∀ x H', J1.yld j H x H' → g1 x (wipe σ2 vs1) H' fun σ3 H5 => wipe σ3 vs1 = wipe σ2 vs1 ∧ tt1 σ3 H5 fun b H6 =>
        if b = true then tk σ3 H6 fun y H7 => tv σ3 H7 fun z H8 => sto D y z H8 Nx1 else Nx1 H6)
    else Nx H3)
abbrev BK (X : Cx) (s : Shared) (H : Hp) (scope : Scope) (C : Addr) (cl : List (Str × Addr)) (fp : List Addr) : Cx := X.blk s H scope (compEnvC scope cl C X.env) fp
theorem dc2_core {pins : List (Addr × Obj)} {s : Shared} {σ : St} {H : Hp} {Q : VK} {kx vx tg iter tg1 iter1 : Expr} {ifs ifs1 : List Expr} {scope : Scope} {own : List (Str × Nat)} {vs1 : List Nat} {pos pos' : Pos} {wi wi1 : TI} {g g1 : TG} {tt tt1 : TT} {tk tv : TE} {sto : Sto} {use : Option (Value → Sem Unit)} {Qf : Value → Shared → Prop}
    (hc : X.calm = true) (hN : X.N.Nodup) (I : Inv X pins σ H s) (hi : PI X tg iter wi) (ok : BlkOk X.N X.env.scope scope own) (hv : ∀ i ∈ vs1, i ∈ own.map (·.2))
    (hg : ∀ s H C cl fp, PG (BK X s H scope C cl fp) tg g) (ht : ∀ s H C cl fp, PTs (BK X s H scope C cl fp) ifs tt)
    (hk : ∀ s H C cl fp, PE (BK X s H scope C cl fp) kx tk) (he : ∀ s H C cl fp, PE (BK X s H scope C cl fp) vx tv) (hst : ∀ s H C cl fp, StoOk (BK X s H scope C cl fp) sto) (hs : ∀ x, foldedSetIterable iter X.env x = pure x)
    (hi1 : ∀ s H C cl fp, PI (BK X s H scope C cl fp) tg1 iter1 wi1) (hg1 : ∀ s H C cl fp, PG (BK X s H scope C cl fp) tg1 g1) (ht1 : ∀ s H C cl fp, PTs (BK X s H scope C cl fp) ifs1 tt1)
    (hs1 : ∀ env x, foldedSetIterable iter1 env x = pure x)
    (h : tDc2 wi g tt wi1 g1 tt1 tk tv sto (own.map (·.2)) vs1 σ H Q)
    (hRR : ∀ D C s' m H', Inv X pins σ H' s' → Q (.ref D) H' → s'.heap.Ns C m → FpOk X pins H' C → compPost (model X.prog X.w) X.A X.xe use Qf (.ref D) C (.ok .next) s') :
    wpAny (model X.prog X.w) X.A (comprehension (dcx kx vx tg iter tg1 iter1 ifs ifs1 scope pos) scope X.env pos' newDict false (eval iter X.env) use) Qf X.xe s := by
  have hcap : ∀ y ∈ scope.names, y.2 = .free → ∃ c, X.env.cells.lookup y.1 = some c := fun y hy e => by
    rcases ok.free y hy e with k | k <;> first | exact I.ok.has _ (.inl k) | exact I.ok.has _ (.inr k)
  refine wpAny_comprehension_free (use := use) rfl hs (closure_ok hcap) ok.kind (fun y hy e => by rw [ok.uniq y hy, e]) (thn (hi.run pins s σ H _ I h) fun xv t1 hx => thn hx fun itv t2 h2 => ?_)
  obtain ⟨it, fp, tn, J, H2, e, I2, T, st2, f2, q⟩ := h2
  subst e
  refine wpAny_newObj_type (newEnv_comp ?_)
  generalize hD : t2.heap.objs.size = D
  have hDn : H2 D = none := I2.hok.fresh (Nat.le_of_eq hD)
  obtain ⟨W, ⟨m0, w0⟩, turn⟩ := q D hDn
  generalize hs3 : ({ t2 with heap := t2.heap.push { cls := .type "dict", data := .dict #[] } } : Shared) = t3
  have I3 : Inv X pins σ (upd H2 D (.dK [])) t3 := by
    rw [← hs3]
    refine I2.laid (t' := t2.toks) (fun b o e => Heap.get?_push_of_some _ e) (Nat.le_of_eq hD) ?_
    rw [← hD]
    exact dk_empty t2.heap I2.big
  have h3 : t3.heap = t2.heap.push { cls := .type "dict", data := .dict #[] } := by rw [← hs3]
  have szf : ∀ b ∈ fp, b < t2.heap.objs.size := fun b hb => by
    obtain ⟨o, e, _⟩ := T.obj _ _ st2 b hb
    exact Heap.lt_size e
  have f3 : ∀ b ∈ fp, FpOk X pins (upd H2 D (.dK [])) b ∧ b < t3.heap.objs.size := fun b hb => by
    have hlt := szf b hb
    refine ⟨⟨?_, (f2 b hb).2⟩, by rw [h3, Heap.size_push]; exact Nat.lt_succ_of_lt hlt⟩
    rw [upd_ne (by rw [← hD]; exact Nat.ne_of_lt hlt)]
    exact (f2 b hb).1
  have st3 : tn 0 t3.heap := T.keep _ _ _ st2 fun b _ o e => by rw [h3]; exact Heap.get?_push_of_some _ e
  have I4 := block_start I3 ok hN f3
  generalize hcl : cellsFrom (t3.heap.objs.size + 1) scope.names (cloFrom X.env.cells scope.names []) = cl at I4
  have pg := hg t3 (upd H2 D (.dK [])) t3.heap.objs.size cl fp
  have pt := ht t3 (upd H2 D (.dK [])) t3.heap.objs.size cl fp
  have pk := hk t3 (upd H2 D (.dK [])) t3.heap.objs.size cl fp
  have pe := he t3 (upd H2 D (.dK [])) t3.heap.objs.size cl fp
  have pst := hst t3 (upd H2 D (.dK [])) t3.heap.objs.size cl fp
  have pi1 := hi1 t3 (upd H2 D (.dK [])) t3.heap.objs.size cl fp
  have pg1 := hg1 t3 (upd H2 D (.dK [])) t3.heap.objs.size cl fp
  have pt1 := ht1 t3 (upd H2 D (.dK [])) t3.heap.objs.size cl fp
  show codeAny _ _ (.compStart (dcx kx vx tg iter tg1 iter1 ifs ifs1 scope pos) 0 (.ref it) (.ref D) (compEnvC scope cl t3.heap.objs.size X.env)) (compPost (model X.prog X.w) X.A X.xe use Qf (.ref D) t3.heap.objs.size) { t3 with heap := pushCells (t3.heap.push { cls := .type "dict", data := .dict #[] }) scope.names }
  have nfp : ∀ b ∈ fp, (upd H2 D (.dK [])) b = none := fun b hb => (f3 b hb).1.1
  unfold BK at pg pt pk pe pst pi1 pg1 pt1
  generalize hce : compEnvC scope cl t3.heap.objs.size X.env = ce at I4 pg pt pk pe pst pi1 pg1 pt1 ⊢
  have cL : ce.locals = t3.heap.objs.size := by subst hce; rfl
  generalize hH3 : upd H2 D (.dK []) = H3 at I3 I4 pg pt pk pe pst pi1 pg1 pt1 w0 nfp f3
  generalize hs4 : ({ t3 with heap := pushCells (t3.heap.push { cls := .type "dict", data := .dict #[] }) scope.names } : Shared) = t4 at I4 ⊢
  have st4 : tn 0 t4.heap := T.keep _ _ _ st3 fun b _ o e => by rw [← hs4]; exact pushCells_keeps _ _ _ _ (Heap.get?_push_of_some _ e)
  generalize hY : X.blk t3 H3 scope ce fp = Y at I4 pg pt pk pe pst pi1 pg1 pt1
  have yA : Y.A = X.A := by subst hY; rfl
  have yP : Y.prog = X.prog := by subst hY; rfl
  have yW : Y.w = X.w := by subst hY; rfl
  subst hY
  have stat : ∀ {σ' : St} {H' : Hp} {s' : Shared}, Inv (X.blk t3 H3 scope ce fp) [] σ' H' s' → (∀ b ∈ fp, H' b = none) → ∀ b ∈ fp, FpOk (X.blk t3 H3 scope ce fp) [] H' b := fun {_ _ _} Iz hn b hb =>
    ⟨hn b hb, (Iz.ok.exf b hb).1, Iz.ok.exfs b hb, .inl hb, fun x c e => (Iz.ok.exf b hb).2 x c e, fun p hp => absurd (show p ∈ ([] : List (Addr × Obj)) ++ [] from hp) (by simp)⟩
  let Inn : Nat → Shared → Prop := fun n s' => ∃ i H', Inv (X.blk t3 H3 scope ce fp) [] (wipe σ (own.map (·.2))) H' s' ∧ tn i s'.heap ∧ (∀ b ∈ fp, H' b = none) ∧ W i n H'
  have whole : codeAny (model X.prog X.w) X.A (.compLoop (dcx kx vx tg iter tg1 iter1 ifs ifs1 scope pos) 0 (.ref it) (.ref D) ce) (compPost (model X.prog X.w) X.A X.xe use Qf (.ref D) t3.heap.objs.size) t4 := by
    refine dloop_out (hs1 ce) Inn ?_ m0 ⟨0, H3, I4, st4, nfp, w0⟩
    rintro n t5 ⟨i, H5, I5, st5, n5, w5⟩
    rcases turn i n H5 w5 with ⟨hstop, qq⟩ | ⟨hgo, Nx, hNx, step⟩
    · refine thnF (T.done (X.blk t3 H3 scope ce fp) rfl rfl rfl hc i [] t5 _ H5 (fun _ _ => False) I5 (stat I5 n5) st5 hstop) fun r t6 ⟨hr, I6⟩ => ?_
      subst hr
      have I7 : Inv X pins σ H5 t6 := I3.call' (ch := fp) I6.os I6.base I6.hok I6.bare fun b hb => let z := (f3 b hb).1; ⟨z.2.2.2.1, z.2.1, z.2.2.2.2.1, z.2.2.2.2.2⟩
      have nC : H5 ce.locals = none := I6.free
      obtain ⟨m, hn, _⟩ := I6.loc
      replace hn : t6.heap.Ns ce.locals m := hn
      rw [cL] at hn nC
      exact hRR D t3.heap.objs.size t6 m H5 I7 qq hn (I3.fpOk (Nat.le_refl _) nC)
    · refine thnF (T.item (X.blk t3 H3 scope ce fp) rfl rfl rfl hc i [] t5 _ H5 (fun _ _ => False) I5 (stat I5 n5) st5 hgo) fun r t6 ⟨u, hr, k6⟩ => ?_
      subst hr
      refine thnF k6 fun _ t7 ⟨x, H7, I7, r7, y7, st7, n7⟩ => ?_
      refine thnF (pg.run _ t7 _ H7 x u _ (I7.pinned (stat I7 n7) (T.obj _ _ st7)) r7 (step x H7 y7)) fun _ t8 ⟨σ8, H8, I8, hw8, q8⟩ => ?_
      refine thnF (pt.run _ t8 σ8 H8 _ I8 q8) fun b t9 ⟨H9, I9, q9⟩ => ?_
      have fin : ∀ {σ9 : St} {s' : Shared} {H' : Hp}, Inv (X.blk t3 H3 scope ce fp) ([] ++ pinsAt fp t7.heap) σ9 H' s' → (wipe σ (own.map (·.2))).length = σ9.length → (∀ (j : Nat) v, (wipe σ (own.map (·.2)))[j]? = some (some v) → σ9[j]? = some (some v)) → Nx H' → ∃ m, m < n ∧ Inn m s' := fun {_ s' H'} Iz hl hkp nx => by
        obtain ⟨m', hm, w'⟩ := hNx H' nx
        have pn : ∀ b ∈ fp, ∀ o, t7.heap.get? b = some o → s'.heap.get? b = some o ∧ H' b = none := fun b hb o e =>
          let z := Iz.pin (b, o) (List.mem_append_right _ (List.mem_append_right _ (mem_pinsAt hb e)))
          ⟨z.1, z.2.1⟩
        refine ⟨m', hm, i + 1, H', (Iz.unpinned (pins := [])).weak hl hkp, T.keep _ _ _ st7 fun b hb o e => (pn b hb o e).1, fun b hb => ?_, w'⟩
        obtain ⟨o, e, _⟩ := T.obj _ _ st7 b hb
        exact (pn b hb o e).2
      have hl8 : (wipe σ (own.map (·.2))).length = σ8.length := by rw [← hw8, wipe_length]
      have hk8 : ∀ (j : Nat) v, (wipe σ (own.map (·.2)))[j]? = some (some v) → σ8[j]? = some (some v) := fun j v e => (wipe_some (hw8 ▸ e)).1
      have hk9 : ∀ (j : Nat) v, (wipe σ (own.map (·.2)))[j]? = some (some v) → (wipe σ8 vs1)[j]? = some (some v) := fun j v e => by
        obtain ⟨e1, e2⟩ := wipe_some (hw8 ▸ e)
        rw [wipe_out fun z => e2 (hv j z)]
        exact e1
      cases b with
      | false =>
        simp only [Bool.false_eq_true, if_false] at q9 ⊢
        exact fin I9 hl8 hk8 q9
      | true =>
        simp only [if_true] at q9 ⊢
        refine thnF (pi1.run _ t9 σ8 H9 _ I9 q9) fun xv t10 hx => thnF hx fun itv k11 h11 => ?_
        obtain ⟨it1, fp1, tn1, J1, H11, e1, I11, T1, st11, f11, W1, ⟨m1, w1⟩, turn1⟩ := h11
        subst e1
        have stat1 : ∀ {H' : Hp}, (∀ b ∈ fp1, H' b = none) → ∀ b ∈ fp1, FpOk (X.blk t3 H3 scope ce fp) ([] ++ pinsAt fp t7.heap) H' b := fun hn b hb => ⟨hn b hb, (f11 b hb).2⟩
        let In1 : Nat → Shared → Prop := fun k s' => ∃ j H', Inv (X.blk t3 H3 scope ce fp) ([] ++ pinsAt fp t7.heap) (wipe σ8 vs1) H' s' ∧ tn1 j s'.heap ∧ (∀ b ∈ fp1, H' b = none) ∧ W1 j k H'
        have inner : codeAny (model X.prog X.w) X.A (.compLoop (dcx kx vx tg iter tg1 iter1 ifs ifs1 scope pos) 1 (.ref it1) (.ref D) ce) (fun r s' => match r with
              | .ok _ => ∃ m, m < n ∧ Inn m s'
              | .error _ => False) k11 := by
          refine dloop_in In1 ?_ m1 ⟨0, H11, I11.weak (wipe_length _ _) (fun j v e => (wipe_some e).1), st11, fun b hb => (f11 b hb).1, w1⟩
          rintro k t12 ⟨j, H12, I12, st12, n12, w12⟩
          rcases turn1 j k H12 w12 with ⟨hstop1, nx1⟩ | ⟨hgo1, Nx1, hNx1, step1⟩
          · refine thnF (T1.done (X.blk t3 H3 scope ce fp) rfl rfl rfl hc j _ t12 (wipe σ8 vs1) H12 (fun _ _ => False) I12 (stat1 n12) st12 hstop1) fun r t13 ⟨hr, I13⟩ => ?_
            subst hr
            exact fin I13 (hl8.trans (wipe_length σ8 vs1).symm) hk9 nx1
          · refine thnF (T1.item (X.blk t3 H3 scope ce fp) rfl rfl rfl hc j _ t12 (wipe σ8 vs1) H12 (fun _ _ => False) I12 (stat1 n12) st12 hgo1) fun r t13 ⟨u1, hr, h13⟩ => ?_
            subst hr
            refine thnF h13 fun _ t14 ⟨x1, H14, I14, r14, y14, st14, n14⟩ => ?_
            refine thnF (pg1.run _ t14 (wipe σ8 vs1) H14 x1 u1 _ (I14.pinned (stat1 n14) (T1.obj _ _ st14)) r14 (step1 x1 H14 y14)) fun _ t15 ⟨σ15, H15, I15, hw15, q15⟩ => ?_
            refine thnF (pt1.run _ t15 σ15 H15 _ I15 q15) fun b1 t16 ⟨H16, I16, q16⟩ => ?_
            have fin1 : ∀ {s' : Shared} {H' : Hp}, Inv (X.blk t3 H3 scope ce fp) (([] ++ pinsAt fp t7.heap) ++ pinsAt fp1 t14.heap) σ15 H' s' → Nx1 H' → ∃ m, m < k ∧ In1 m s' := fun {s' H'} Iz nx => by
              obtain ⟨m', hm, w'⟩ := hNx1 H' nx
              have pn : ∀ b ∈ fp1, ∀ o, t14.heap.get? b = some o → s'.heap.get? b = some o ∧ H' b = none := fun b hb o e =>
                let z := Iz.pin (b, o) (List.mem_append_right _ (List.mem_append_right _ (mem_pinsAt hb e)))
                ⟨z.1, z.2.1⟩
              refine ⟨m', hm, j + 1, H', Iz.unpinned.weak (by rw [← hw15, wipe_length]) (fun j v e => (wipe_some (hw15 ▸ e)).1), T1.keep _ _ _ st14 fun b hb o e => (pn b hb o e).1, fun b hb => ?_, w'⟩
              obtain ⟨o, e, _⟩ := T1.obj _ _ st14 b hb
              exact (pn b hb o e).2
            cases b1 with
            | false =>
              simp only [Bool.false_eq_true, if_false] at q16 ⊢
              exact fin1 I16 q16
            | true =>
              simp only [if_true] at q16 ⊢
              refine thnF (pk.run _ t16 σ15 H16 _ I16 q16) fun ak t17 ⟨yk, H17, I17, r17, q17⟩ => ?_
              refine thnF (pe.run _ t17 σ15 H17 _ I17 q17) fun av t18 ⟨yv, H18, I18, r18, q18⟩ => ?_
              exact pst _ _ _ _ _ _ _ _ _ _ _ _ I18 r17 r18 q18 fun H' s' Iz nx => fin1 Iz nx
        exact dstart1 inner (T1.self X.A 0 _ _ _ st11 inner)
  exact codeAny_compStart_dict whole (T.self X.A 0 _ _ _ st4 whole)
/-- x = {k: v for .. for ..} -/
theorem ps_setDc2 {i : Nat} {y : Str} {py : Pos} {kx vx tg iter tg1 iter1 : Expr} {ifs ifs1 : List Expr} {scope : Scope} {own : List (Str × Nat)} {vs1 : List Nat} {pos spos : Pos} {wi wi1 : TI} {g g1 : TG} {tt tt1 : TT} {tk tv : TE} {sto : Sto} (hc : X.calm = true) (hN : X.N.Nodup) (hy : X.N[i]? = some y) (hyl : X.env.scope.names.lookup y = some .local)
    (hsw : swapsWith (dcx kx vx tg iter tg1 iter1 ifs ifs1 scope pos) (some (.Name y py)) spos.line X.env = pure true) (hi : PI X tg iter wi) (ok : BlkOk X.N X.env.scope scope own) (hv : ∀ i ∈ vs1, i ∈ own.map (·.2))
    (hg : ∀ s H C cl fp, PG (BK X s H scope C cl fp) tg g) (ht : ∀ s H C cl fp, PTs (BK X s H scope C cl fp) ifs tt)
    (hk : ∀ s H C cl fp, PE (BK X s H scope C cl fp) kx tk) (he : ∀ s H C cl fp, PE (BK X s H scope C cl fp) vx tv) (hst : ∀ s H C cl fp, StoOk (BK X s H scope C cl fp) sto)
    (hi1 : ∀ s H C cl fp, PI (BK X s H scope C cl fp) tg1 iter1 wi1) (hg1 : ∀ s H C cl fp, PG (BK X s H scope C cl fp) tg1 g1) (ht1 : ∀ s H C cl fp, PTs (BK X s H scope C cl fp) ifs1 tt1)
    (hs : ∀ x, foldedSetIterable iter X.env x = pure x := by intro _; rfl) (hs1 : ∀ env x, foldedSetIterable iter1 env x = pure x := by intro _ _; rfl) :
    PS X (.Assign [.Name y py] (dcx kx vx tg iter tg1 iter1 ifs ifs1 scope pos) spos) (tAsg (tDc2 wi g tt wi1 g1 tt1 tk tv sto (own.map (·.2)) vs1) (gName i)) := by
  refine ⟨fun pins s σ H D I h => ?_⟩
  rw [exec_Assign_Name_used _ _ _ _ hsw]
  refine wpAny_bind (wpAny_standAt (wpAny_bind ?_))
  show wpAny _ X.A (do let _ ← comprehension (dcx kx vx tg iter tg1 iter1 ifs ifs1 scope pos) scope X.env (firstIterPos [⟨tg, iter, ifs, 0⟩, ⟨tg1, iter1, ifs1, 0⟩] pos) newDict false (eval iter X.env) (some (assign (.Name y py) X.env))) _ _ s
  replace h : tDc2 wi g tt wi1 g1 tt1 tk tv sto (own.map (·.2)) vs1 σ H (fun x H1 => gName i x σ H1 D.nx) := h
  refine wpAny_bind (thn (dc2_core (Qf := fun _ s' => SP X pins D .next s') hc hN I hi ok hv hg ht hk he hst hs hi1 hg1 ht1 hs1 h fun L C s' m H' Iz q hn f => ?_) fun _ s' hq => wpAny_pure (wpAny_pure hq))
  show wpAny _ _ (assign (.Name y py) X.env (.ref L)) _ _ _
  refine wpAny_assign_Name (store_ok2 (v := V.ref L) Iz hN hy (.inl hyl) rfl (fun t2 I2 ⟨a, sb, ha⟩ => ?_) (.inr hyl))
  obtain ⟨f0, f1, f2, f3, f4, f5⟩ := f
  have hCa : C ≠ a := by
    rcases ha with z | z
    · rw [z]; exact f1
    · exact fun e => f4 y a z e.symm
  exact ⟨m, hn.sameBut sb hCa, fun h3 sb3 => ⟨_, H', I2.turned (t' := t2.toks) (fun b o hb e => (sb3.2 b hb).trans e) f0 f1 f3 f4 f5, q⟩⟩
end
end L2.My
end
section
set_option Elab.async false
set_option linter.all false
set_option maxRecDepth 100000
set_option autoImplicit false
set_option maxHeartbeats 2000000
/-! Lay16: dicts whose keys are nested tuples, as owned cells. -/
namespace L2.My
open PySem PySem.Spec PyProof.Rows
mutual
def nkey : PyData → NestedKey
  | .none => .none
  | .bool b => .num (if b = true then 1 else 0)
  | .int i => .num i
  | .str s => .text s
  | .tuple ds => .tup (nkeys ds)
  | .list _ => .none
  | .dict _ => .none
def nkeys : List PyData → List NestedKey
  | [] => []
  | d :: ds => nkey d :: nkeys ds
end
mutual
def kok : PyData → Bool
  | .tuple ds => koks ds
  | .list _ => false
  | .dict _ => false
  | _ => true
def koks : List PyData → Bool
  | [] => true
  | d :: ds => kok d && koks ds
end
mutual
theorem Da.nk {P : Program} {w : World} {G H : Hp} {h : Heap} (s : Same G H) (hok : HOk P w H h) : ∀ {v : V} {d : PyData} {u : Value}, Da G v d → kok d = true → RelV v u → NestedIs h (nkey d) u
  | _, _, _, .non, _, r => by cases (show _ = Value.none from r); exact .none
  | _, _, _, .bl b, _, r => by cases (show _ = Value.bool b from r); exact .bool rfl
  | _, _, _, .int i, _, r => by obtain ⟨t, e⟩ := (show ∃ t, _ = Value.int i t from r); cases e; exact .int i t
  | _, _, _, .str x, _, r => by obtain ⟨t, e⟩ := (show ∃ t, _ = Value.str x t from r); cases e; exact .text x t
  | _, _, _, .lst e t, k, r => by simp [kok] at k
  | _, _, _, .tup (a := a) (xs := xs) (ds := ds) e t, k, r => by
    cases (show _ = Value.ref a from r)
    obtain ⟨_, its, rv, o, h1, h2, n, h3⟩ := (show ObjOk P w H h a (.tup xs) from hok a _ (s _ _ e))
    exact .tup h1 h2 h3 (by simpa using Das.nk s hok t (by simpa [kok] using k) rv)
  | _, _, _, .dct e t q, k, r => by simp [kok] at k
theorem Das.nk {P : Program} {w : World} {G H : Hp} {h : Heap} (s : Same G H) (hok : HOk P w H h) : ∀ {vs : List V} {ds : List PyData} {us : List Value}, Das G vs ds → koks ds = true → Vals vs us → NestedAll h (nkeys ds) us
  | _, _, _, .nil, _, .nil => .nil
  | _, d :: ds, _, .cons a t, k, .cons r rs => by
    have k2 : (kok d && koks ds) = true := by simpa [koks] using k
    obtain ⟨k3, k4⟩ := Bool.and_eq_true_iff.mp k2
    exact .cons (Da.nk s hok a k3 r) (Das.nk s hok t k4 rs)
end
/-- may be a key: a tuple of such, not too deep -/
def isKey : PyData → Bool
  | .tuple ds => koks ds && decide ((nkey (.tuple ds)).depth ≤ 8)
  | _ => false
abbrev NX := List (NestedKey × Addr × V)
abbrev NY := List (NestedKey × Addr × Value)
def NRel (x : NestedKey × Addr × V) (y : NestedKey × Addr × Value) : Prop := x.1 = y.1 ∧ x.2.1 = y.2.1 ∧ RelV x.2.2 y.2.2
def ndF (P : Program) (w : World) (p : Addr) (xs : NX) (h : Heap) : Prop := (p == sysModules) = false ∧ ∃ (ys : NY) (o : Obj) (es : Array DictEntry) (ep : Nat), Paired NRel xs ys ∧ h.get? p = some o ∧ o.ExactDict ∧ o.data = .dict es ep ∧ es.toList = ys.map (entryOfKey (nestedKind P w)) ∧ (ys.map (·.1)).Nodup
inductive NdAll (G : Hp) : NX → List (PyData × PyData) → Prop where
  | nil : NdAll G [] []
  | cons {a : Addr} {v : V} {k d : PyData} {xs : NX} {l : List (PyData × PyData)} : Da G (.ref a) k → isKey k = true → Da G v d → NdAll G xs l → NdAll G ((nkey k, a, v) :: xs) ((k, d) :: l)
theorem NdAll.mono {G G' : Hp} (s : Same G G') : ∀ {xs : NX} {l : List (PyData × PyData)}, NdAll G xs l → NdAll G' xs l
  | _, _, .nil => .nil
  | _, _, .cons a k b t => .cons (a.mono s) k (b.mono s) (NdAll.mono s t)
theorem NdAll.length {G : Hp} : ∀ {xs : NX} {l : List (PyData × PyData)}, NdAll G xs l → xs.length = l.length
  | _, _, .nil => rfl
  | _, _, .cons _ _ _ t => congrArg Nat.succ (NdAll.length t)
/-- an owned dict with nested keys -/
def nd (P : Program) (w : World) (p : Addr) (l : List (PyData × PyData)) : PrO := ⟨fun G o => (l = [] ∧ o = .dK []) ∨ ∃ xs, o = .ext (ndF P w p xs) ∧ NdAll G xs l, fun s h => by
  rcases h with h | ⟨xs, e, t⟩
  · exact .inl h
  · exact .inr ⟨xs, e, t.mono s⟩⟩
def ptN (l : List (PyData × PyData)) (k d : PyData) : List (PyData × PyData) := if (l.any fun q => decide (nkey q.1 = nkey k)) then l.map fun q => if nkey q.1 = nkey k then (q.1, d) else q else l ++ [(k, d)]
def lkN (l : List (PyData × PyData)) (k : PyData) : Option PyData := (l.find? fun q => decide (nkey q.1 = nkey k)).map (·.2)
section
variable {P : Program} {w : World} {G H : Hp} {h : Heap} {p : Addr} {o : HO} {l : List (PyData × PyData)}
theorem isKey_kok {k : PyData} (hk : isKey k = true) : kok k = true ∧ (nkey k).depth ≤ 8 := by
  cases k with
  | tuple ds =>
    have h2 : (koks ds && decide ((nkey (.tuple ds)).depth ≤ 8)) = true := hk
    obtain ⟨h3, h4⟩ := Bool.and_eq_true_iff.mp h2
    exact ⟨by simpa [kok] using h3, of_decide_eq_true h4⟩
  | _ => cases hk
theorem NdAll.is (s : Same G H) (hok : HOk P w H h) : ∀ {xs : NX} {ys : NY} {l : List (PyData × PyData)}, NdAll G xs l → Paired NRel xs ys → ∀ y ∈ ys, (nestedKind P w).is h y.1 y.2.1
  | _, _, _, .nil, .nil, y, hy => by cases hy
  | _, y0 :: ys, _, .cons a k b t, .cons r rs, y, hy => by
    rcases List.mem_cons.mp hy with e | hy
    · subst e
      obtain ⟨k1, k2⟩ := isKey_kok k
      obtain ⟨r1, r2, r3⟩ := r
      exact ⟨by rw [← r1, ← r2]; exact Da.nk s hok a k1 rfl, by rw [← r1]; exact k2⟩
    · exact NdAll.is s hok t rs y hy
theorem nd_of (hok : HOk P w H h) (e : H p = some o) (q : (nd P w p l).p G o) (s : Same G H) : (p == sysModules) = false ∧ ∃ xs ys, NdAll G xs l ∧ Paired NRel xs ys ∧ h.DictOfH (nestedKind P w) p ys := by
  rcases q with ⟨rfl, rfl⟩ | ⟨xs, rfl, t⟩
  · obtain ⟨_, hd, vs, rel, ob, es, ep, h1, h2, h3, h4, h5, h6⟩ := dk_of hok e
    cases rel
    refine ⟨hd, [], [], .nil, .nil, ob, es, ep, h1, h2, h3, ?_, fun x hx => (by cases hx), List.nodup_nil⟩
    cases hes : es.toList with
    | nil => rfl
    | cons a b => rw [hes] at h5; cases h5
  · obtain ⟨⟨hd, ys, ob, es, ep, rel, h1, h2, h3, h4, h5⟩, _⟩ := (show ObjOk P w H h p (.ext (ndF P w p xs)) from hok p _ e)
    exact ⟨hd, xs, ys, t, rel, ob, es, ep, h1, h2, h3, h4, t.is s hok rel, h5⟩
theorem ndF_ok {xs : NX} {ys : NY} (hd : (p == sysModules) = false) (rel : Paired NRel xs ys) (dd : h.DictOfH (nestedKind P w) p ys) : ObjOk P w H h p (.ext (ndF P w p xs)) := by
  obtain ⟨ob, es, ep, h1, h2, h3, h4, _, h5⟩ := dd
  refine ⟨⟨hd, ys, ob, es, ep, rel, h1, h2, h3, h4, h5⟩, ⟨ob, h1⟩, fun a b z k => ?_⟩
  obtain ⟨hd, ys, ob, es, ep, rel, h1, r⟩ := z
  exact ⟨hd, ys, ob, es, ep, rel, k _ h1, r⟩
def putNX (xs : NX) (k : NestedKey) (a : Addr) (v : V) : NX := if (xs.any fun x => decide (x.1 = k)) then xs.map fun x => if x.1 = k then (x.1, x.2.1, v) else x else xs ++ [(k, a, v)]
theorem paired_any {k : NestedKey} : ∀ {xs : NX} {ys : NY}, Paired NRel xs ys → (atKey ys k).isSome = xs.any fun x => decide (x.1 = k)
  | _, _, .nil => rfl
  | x :: xs, y :: ys, .cons r rs => by
    have ih := paired_any (k := k) rs
    unfold atKey at ih ⊢
    rw [List.any_cons, ← ih, r.1, List.find?_cons]
    by_cases e : y.1 = k
    · rw [decide_eq_true e]; rfl
    · rw [decide_eq_false e, Bool.false_or]
theorem paired_app {x : NestedKey × Addr × V} {y : NestedKey × Addr × Value} (r : NRel x y) : ∀ {xs : NX} {ys : NY}, Paired NRel xs ys → Paired NRel (xs ++ [x]) (ys ++ [y])
  | _, _, .nil => .cons r .nil
  | _, _, .cons a t => .cons a (paired_app r t)
theorem paired_map {k : NestedKey} {v : V} {u : Value} (rv : RelV v u) : ∀ {xs : NX} {ys : NY}, Paired NRel xs ys → Paired NRel (xs.map fun x => if x.1 = k then (x.1, x.2.1, v) else x) (ys.map (putAt k u))
  | _, _, .nil => .nil
  | x :: xs, y :: ys, .cons r t => by
    refine .cons ?_ (paired_map rv t)
    show NRel (if x.1 = k then (x.1, x.2.1, v) else x) (if y.1 = k then (y.1, y.2.1, u) else y)
    by_cases e : x.1 = k
    · rw [if_pos e, if_pos (r.1 ▸ e)]
      exact ⟨r.1, r.2.1, rv⟩
    · rw [if_neg e, if_neg (fun z => e (r.1.trans z))]
      exact r
theorem paired_put {xs : NX} {ys : NY} {k : NestedKey} {a : Addr} {v : V} {u : Value} (rv : RelV v u) (r : Paired NRel xs ys) : Paired NRel (putNX xs k a v) (storedH ys k a u) := by
  unfold putNX storedH
  rw [paired_any r]
  split
  · exact paired_map rv r
  · exact paired_app ⟨rfl, rfl, rv⟩ r
theorem NdAll.any {k : PyData} : ∀ {xs : NX} {l : List (PyData × PyData)}, NdAll G xs l → (xs.any fun x => decide (x.1 = nkey k)) = l.any fun q => decide (nkey q.1 = nkey k)
  | _, _, .nil => rfl
  | _, _, .cons a kk b t => by rw [List.any_cons, List.any_cons, NdAll.any t]
theorem NdAll.app {a : Addr} {v : V} {k d : PyData} (ha : Da G (.ref a) k) (hk : isKey k = true) (hv : Da G v d) : ∀ {xs : NX} {l : List (PyData × PyData)}, NdAll G xs l → NdAll G (xs ++ [(nkey k, a, v)]) (l ++ [(k, d)])
  | _, _, .nil => .cons ha hk hv .nil
  | _, _, .cons a' kk b t => .cons a' kk b (NdAll.app ha hk hv t)
theorem NdAll.put {a : Addr} {v : V} {k d : PyData} (ha : Da G (.ref a) k) (hk : isKey k = true) (hv : Da G v d) {xs : NX} {l : List (PyData × PyData)} (t : NdAll G xs l) : NdAll G (putNX xs (nkey k) a v) (ptN l k d) := by
  have mp : ∀ {xs : NX} {l : List (PyData × PyData)}, NdAll G xs l → NdAll G (xs.map fun x => if x.1 = nkey k then (x.1, x.2.1, v) else x) (l.map fun q => if nkey q.1 = nkey k then (q.1, d) else q) := by
    intro xs l t
    induction t with
    | nil => exact .nil
    | cons a' kk b t ih =>
      rename_i k' _ _ _
      by_cases e : nkey k' = nkey k
      · simp only [List.map_cons, if_pos e]
        exact .cons a' kk hv ih
      · simp only [List.map_cons, if_neg e]
        exact .cons a' kk b ih
  unfold putNX ptN
  rw [t.any]
  split
  · exact mp t
  · exact t.app ha hk hv
theorem ptN_len (l : List (PyData × PyData)) (k d : PyData) : (ptN l k d).length ≤ l.length + 1 := by
  unfold ptN
  split
  · rw [List.length_map]; omega
  · rw [List.length_append]; simp
theorem NdAll.look {k d : PyData} {xs : NX} {ys : NY} {l : List (PyData × PyData)} (t : NdAll G xs l) (r : Paired NRel xs ys) (e : lkN l k = some d) : ∃ a v u, atKey ys (nkey k) = some (a, u) ∧ RelV v u ∧ Da G v d := by
  induction t generalizing ys with
  | nil => cases e
  | cons a' kk b t ih =>
    rename_i a0 v0 k0 d0 xs0 l0
    cases r with
    | cons r rs =>
      rename_i y0 ys0
      unfold lkN at e
      rw [List.find?_cons] at e
      unfold atKey
      rw [List.find?_cons]
      have e1 : y0.1 = nkey k0 := r.1.symm
      by_cases q : nkey k0 = nkey k
      · have d1 : decide (nkey k0 = nkey k) = true := decide_eq_true q
        rw [d1] at e
        have d2 : decide (y0.1 = nkey k) = true := by rw [e1]; exact d1
        rw [d2]
        cases e
        exact ⟨y0.2.1, v0, y0.2.2, rfl, r.2.2, b⟩
      · have d1 : decide (nkey k0 = nkey k) = false := decide_eq_false q
        rw [d1] at e
        have d2 : decide (y0.1 = nkey k) = false := by rw [e1]; exact d1
        rw [d2]
        exact ih rs e
end
section
variable {X : Cx}
/-- p[a] = v told of an owned dict with nested keys -/
theorem nd_set {pins : List (Addr × Obj)} {σ : St} {H G : Hp} {s : Shared} {p a : Addr} {v : V} {u : Value} {o : HO} {l : List (PyData × PyData)} {k d : PyData} {tk : Nat} {h' : Heap} {ys : NY} {xs : NX} (I : Inv X pins σ H s) (e : H p = some o) (q : (nd X.prog X.w p l).p G o) (hd : (p == sysModules) = false)
    (ha : Da G (.ref a) k) (hk : isKey k = true) (hv : Da G v d) (rv : RelV v u) (t : NdAll G xs l) (rel : Paired NRel xs ys) (dd : h'.DictOfH (nestedKind X.prog X.w) p (storedH ys (nkey k) a u)) (sb : Heap.SameBut p s.heap h') :
    ∃ o', (nd X.prog X.w p (ptN l k d)).p G o' ∧ Inv X pins σ (upd H p o') { s with heap := h', toks := tk } := by
  have mu : Mut (H p) := by
    rw [e]
    rcases q with ⟨_, rfl⟩ | ⟨xs, rfl, _⟩ <;> exact True.intro
  refine ⟨.ext (ndF X.prog X.w p (putNX xs (nkey k) a v)), .inr ⟨_, rfl, t.put ha hk hv⟩, d_write I mu sb ?_ (ndF_ok hd (paired_put rv rel) dd)⟩
  obtain ⟨ob, _, _, h1, _⟩ := dd
  exact ⟨ob, h1⟩
theorem tup_ref {G : Hp} {v : V} {k : PyData} (h : Da G v k) (hk : isKey k = true) : ∃ a, v = .ref a := by
  cases h with
  | tup e t => exact ⟨_, rfl⟩
  | _ => cases hk
/-- what a look into it tells -/
def NG (X : Cx) (x y : V) (H : Hp) (Q : VK) : Prop := ∃ (p a : Addr) (G : Hp) (o : HO) (l : List (PyData × PyData)) (k d : PyData), x = .ref p ∧ y = .ref a ∧ H p = some o ∧ (nd X.prog X.w p l).p G o ∧ Same G H ∧ Da G (.ref a) k ∧ isKey k = true ∧ lkN l k = some d ∧ ∀ v, Da G v d → Q v H
def tNget (X : Cx) (td ty : TE) : TE := fun σ H Q => td σ H fun x H1 => ty σ H1 fun y H2 => NG X x y H2 Q
theorem pe_nget {o i : Expr} {pos : Pos} {td ty : TE} (hu : X.A.units + 10 < cLine) (ho : PE X o td) (hi : PE X i ty) (hs : PlainIx i) : PE X (.Subscript o i pos) (tNget X td ty) := by
  refine ⟨fun pins s σ H Q I h => ?_⟩
  refine subD_of PySem.F.slot_dict_getitem.lookup hs (thn (ho.run pins s σ H _ I h) fun u s1 ⟨x, H1, I1, rx, q1⟩ => thn (hi.run pins s1 σ H1 _ I1 q1) fun iv s2 ⟨y, H2, I2, ry, q2⟩ => ?_)
  obtain ⟨p, c, G, o, l, k, d, rfl, rfl, e1, qn, sm, hc, hk, hl, q3⟩ := q2
  cases (show u = Value.ref p from rx)
  cases (show iv = Value.ref c from ry)
  obtain ⟨hd, xs, ys, t, rel, dd⟩ := nd_of I2.hok e1 qn sm
  obtain ⟨a0, v, u, h1, h2, h3⟩ := t.look rel hl
  obtain ⟨k1, k2⟩ := isKey_kok hk
  exact ⟨dd.typeIs, wpAny_getItem_heap (knd := nestedKind X.prog X.w) (by show X.A.in1.units + 8 < cLine; exact (show X.A.units + 1 + 8 < cLine by omega)) ⟨Da.nk sm I2.hok hc k1 rfl, k2⟩ dd h1 ⟨v, H2, I2.tok _, h2, q3 v h3⟩⟩
/-- what a store tells -/
def NP (X : Cx) (x y v : V) (H : Hp) (Q : Hp → Prop) : Prop := ∃ (p a : Addr) (G : Hp) (o : HO) (l : List (PyData × PyData)) (k d : PyData), x = .ref p ∧ y = .ref a ∧ H p = some o ∧ (nd X.prog X.w p l).p G o ∧ Same G H ∧ Da G (.ref a) k ∧ isKey k = true ∧ l.length < sizeLine ∧ Da G v d ∧ ∀ o', (nd X.prog X.w p (ptN l k d)).p G o' → Q (upd H p o')
def sNput (X : Cx) (td ty tv : TE) : TS := fun D σ H => tv σ H fun v H1 => td σ H1 fun x H2 => ty σ H2 fun y H3 => NP X x y v H3 (D.nx σ)
theorem ps_nput {o i value : Expr} {pos pos' : Pos} {td ty tv : TE} (hu : X.A.units + 10 < cLine) (ho : PE X o td) (hi : PE X i ty) (hv : PE X value tv) (hs : swapsWith value (some (.Subscript o i pos')) pos.line X.env = pure false) : PS X (.Assign [.Subscript o i pos'] value pos) (sNput X td ty tv) := by
  refine ⟨fun pins s σ H D I h => ?_⟩
  refine wpAny_Assign_Subscript (thn (hv.run pins s σ H _ I h) fun r s1 ⟨v, H1, I1, rv, q1⟩ => thn (ho.run pins s1 σ H1 _ I1 q1) fun u s2 ⟨x, H2, I2, rx, q2⟩ => thn (hi.run pins s2 σ H2 _ I2 q2) fun iv s3 ⟨y, H3, I3, ry, q3⟩ => ?_) hs
  obtain ⟨p, c, G, o, l, k, d, rfl, rfl, e1, qn, sm, hc, hk, hl, hv', q4⟩ := q3
  cases (show u = Value.ref p from rx)
  cases (show iv = Value.ref c from ry)
  obtain ⟨hd, xs, ys, t, rel, dd⟩ := nd_of I3.hok e1 qn sm
  obtain ⟨k1, k2⟩ := isKey_kok hk
  refine wpAny_setItem_heap (hsz := by rw [← Paired.length rel, t.length]; omega) (knd := nestedKind X.prog X.w) (by show X.A.in1.units + 8 < cLine; exact (show X.A.units + 1 + 8 < cLine by omega)) ⟨Da.nk sm I3.hok hc k1 rfl, k2⟩ dd fun h' dd' sb => ?_
  obtain ⟨o', n', I4⟩ := nd_set I3 e1 qn hd hc hk hv' rv t rel dd' sb
  exact ⟨σ, _, I4, q4 o' n'⟩
/-- the store of a comprehension -/
def stoN (X : Cx) : Sto := fun D y v H Nx => NP X (.ref D) y v H Nx
theorem stoN_ok {Y : Cx} (hu : Y.A.units + 10 < cLine) : StoOk Y (stoN Y) := fun pins σ H s D y v u r Nx Q E I ry rv q hq => by
  obtain ⟨p, c, G, o, l, k, d, e0, rfl, e1, qn, sm, hc, hk, hl, hv', q4⟩ := q
  cases e0
  cases (show u = Value.ref c from ry)
  obtain ⟨hd, xs, ys, t, rel, dd⟩ := nd_of I.hok e1 qn sm
  obtain ⟨k1, k2⟩ := isKey_kok hk
  refine wpAny_dictSet_heap (hsz := by rw [← Paired.length rel, t.length]; omega) (knd := nestedKind Y.prog Y.w) (by show Y.A.units + 8 < cLine; omega) ⟨Da.nk sm I.hok hc k1 rfl, k2⟩ dd fun h' dd' sb => ?_
  obtain ⟨o', n', I4⟩ := nd_set I e1 qn hd hc hk hv' rv t rel dd' sb
  exact hq _ _ I4 (q4 o' n')
/-- len(d) -/
def rLenN (X : Cx) : List V → Hp → VK → Prop := fun xs H Q => ∃ (p : Addr) (G : Hp) (o : HO) (l : List (PyData × PyData)), xs = [.ref p] ∧ H p = some o ∧ (nd X.prog X.w p l).p G o ∧ Same G H ∧ l.length < 2 ^ 62 ∧ Q (.int l.length) H
theorem call_lenN : CallR X (.builtin "len") (rLenN X) := by
  intro pins s σ H xs us Q I r h
  obtain ⟨p, G, o, l, rfl, e1, qn, sm, hl, q⟩ := h
  obtain ⟨u, rfl, rx⟩ := vals1 r
  obtain rfl : u = .ref p := rx
  obtain ⟨hd, xs, ys, t, rel, dd⟩ := nd_of I.hok e1 qn sm
  have el : ys.length = l.length := by rw [← Paired.length rel, t.length]
  refine call_len_dictH hd dd (by rw [el]; omega) ?_
  rw [el]
  exact ⟨.int l.length, H, I.tok _, ⟨_, rfl⟩, q⟩
/-- list(d) -/
def rListN (X : Cx) : List V → Hp → VK → Prop := fun xs H Q => ∃ (p : Addr) (G : Hp) (o : HO) (l : List (PyData × PyData)), xs = [.ref p] ∧ H p = some o ∧ (nd X.prog X.w p l).p G o ∧ Same G H ∧ l.length ≤ sizeLine ∧ ∀ q vs, H q = none → Das G vs (l.map (·.1)) → Q (.ref q) (upd H q (.lst vs))
theorem nd_keys {G : Hp} : ∀ {xs : NX} {ys : NY} {l : List (PyData × PyData)}, NdAll G xs l → Paired NRel xs ys → Das G (ys.map fun y => V.ref y.2.1) (l.map (·.1))
  | _, _, _, .nil, .nil => .nil
  | _, y :: ys, _, .cons a k b t, .cons r rs => .cons (by show Da G (.ref y.2.1) _; rw [← r.2.1]; exact a) (nd_keys t rs)
theorem vals_keys : ∀ ys : NY, Vals (ys.map fun y => V.ref y.2.1) (ys.map fun y => Value.ref y.2.1)
  | [] => .nil
  | _ :: r => .cons rfl (vals_keys r)
theorem call_listN (hc : X.calm = true) : CallR X (.type "list") (rListN X) := by
  intro pins s σ H xs us Q I r h
  obtain ⟨p, G, o, l, rfl, e1, qn, sm, hl, q⟩ := h
  obtain ⟨u, rfl, rx⟩ := r.one
  cases rx
  obtain ⟨hd, xs, ys, t, rel, ob, es, ep, h1, h2, h3, h4, _, _⟩ := nd_of I.hok e1 qn sm
  have el : ys.length = l.length := by rw [← Paired.length rel, t.length]
  have l1 : es.size = ys.length := size_of_entries h4
  refine PySem.W.kdl_call (kdl_raw hd h2 h3) (I.ok.hd hc) h1 (by omega) fun h' tk acc' c' kp e it => ?_
  have ea : acc'.toList = ys.map fun y => Value.ref y.2.1 := by
    apply List.ext_getElem?
    intro j
    rw [List.getElem?_map]
    cases hj : acc'.toList[j]? with
    | none =>
      have z := List.getElem?_eq_none_iff.mp hj
      rw [Array.length_toList, it.1] at z
      rw [List.getElem?_eq_none (by omega)]
      rfl
    | some v =>
      obtain ⟨en, hen, hv⟩ := it.2 j v (by rw [← Array.getElem?_toList]; exact hj)
      have qe := entry_at h4 j
      rw [hen] at qe
      cases hb : ys[j]? with
      | none =>
        rw [hb] at qe
        exact nomatch (show some en = none from qe)
      | some b =>
        rw [hb] at qe
        have e2 : en = entryOfKey (nestedKind X.prog X.w) b := Option.some.inj qe
        rw [hv, e2]
        rfl
  refine ⟨.ref s.heap.objs.size, _, I.laid (t' := tk) (o := .lst (ys.map fun y => V.ref y.2.1)) kp (Nat.le_refl _) ?_, rfl, q _ _ (I.hok.fresh (Nat.le_refl _)) (nd_keys t rel)⟩
  exact ⟨by rw [List.length_map]; omega, acc'.toList, c', by rw [ea]; exact vals_keys ys, by rw [Array.toArray_toList]; exact e⟩
variable {B : Hp × Hp} {ρ : List Slot} {ow : Ow} {e a b : Expr} {φ : Pr} {pos : Pos} {l : List (PyData × PyData)} {k d : PyData} {p : Addr}
/-- a[b], a an owned dict with nested keys -/
theorem ev_getN (hu : X.A.units + 10 < cLine) (ha : EV X B ρ ow a (pp p)) (ho : (p, nd X.prog X.w p l) ∈ ow) (hb : EV X B ρ ow b (da k)) (hk : isKey k = true) (hl : lkN l k = some d) (hs : PlainIx b := by intro _ _; rfl) : EV X B ρ ow (.Subscript a b pos) (da d) :=
  L2.PE.weak (pe_nget hu ha hb hs) fun σ H Q ⟨G, ok, q⟩ => ⟨G, ok, fun v1 G1 H1 g1 p1 => ⟨G1, ok.grow g1, fun v2 G2 H2 g2 p2 => by
    cases (show v1 = .ref p from p1)
    obtain ⟨c, rfl⟩ := tup_ref (show Da G2 v2 k from p2) hk
    obtain ⟨_, _, o, e1, q1⟩ := ((ok.grow g1).grow g2).own _ ho
    exact ⟨p, c, G2, o, l, k, d, rfl, rfl, e1, q1, g2.s, p2, hk, hl, fun v hv => q v G2 H2 (g1.trans g2) hv⟩⟩⟩
/-- len(a) -/
theorem ev_lenN {q2 : Pos} (hm : X.mg "len" = none) (ha : EV X B ρ ow a (pp p)) (ho : (p, nd X.prog X.w p l) ∈ ow) (hl : l.length < 2 ^ 62) (hg : Gl X "len" := by rfl) (hs : starEach [a] X.env = (false, eval a X.env) :: starEach [] X.env := by rfl) : EV X B ρ ow (.Call (.Name "len" q2) [a] [] pos) (da (.int l.length)) :=
  L2.PE.weak (pe_callB call_lenN hg hm (by decide +kernel) (pa_cons ha pa_nil hs) (by decide) (by decide) hs (by rfl)) fun σ H Q ⟨G, ok, q⟩ => ⟨G, ok, fun v1 G1 H1 g1 p1 => by
    cases (show v1 = .ref p from p1)
    obtain ⟨_, _, o, e1, q1⟩ := (ok.grow g1).own _ ho
    exact ⟨p, G1, o, l, rfl, e1, q1, g1.s, hl, q _ G1 H1 g1 (.int _)⟩⟩
/-- list(a) -/
theorem ev_listN {q2 : Pos} (hc : X.calm = true) (hm : X.mg "list" = none) (ha : EV X B ρ ow a (pp p)) (ho : (p, nd X.prog X.w p l) ∈ ow) (hl : l.length ≤ sizeLine) (hg : Gl X "list" := by rfl) (hs : starEach [a] X.env = (false, eval a X.env) :: starEach [] X.env := by rfl) : EV X B ρ ow (.Call (.Name "list" q2) [a] [] pos) (da (.list (l.map (·.1)))) :=
  L2.PE.weak (pe_callTy (call_listN hc) hg hm (by decide +kernel) (pa_cons ha pa_nil hs) (by decide) (by decide) hs (by rfl)) fun σ H Q ⟨G, ok, q⟩ => ⟨G, ok, fun v1 G1 H1 g1 p1 => by
    cases (show v1 = .ref p from p1)
    obtain ⟨_, _, o, e1, q1⟩ := (ok.grow g1).own _ ho
    refine ⟨p, G1, o, l, rfl, e1, q1, g1.s, hl, fun z vs hz t => ?_⟩
    have al := Gr.alloc (o := .lst vs) g1.s hz
    exact q _ _ _ (g1.trans al) (.lst upd_same (t.mono al.g))⟩
/-- a[b] = e, a an owned dict with nested keys -/
theorem sv_setN {rest : List Stmt} {D : Out} {spos : Pos} (hu : X.A.units + 10 < cLine) (he : EX X B ρ ((p, nd X.prog X.w p l) :: ow) e (da d) ((p, nd X.prog X.w p l) :: ow)) (ha : EV X B ρ ((p, nd X.prog X.w p l) :: ow) a (pp p)) (hb : EV X B ρ ((p, nd X.prog X.w p l) :: ow) b (da k)) (hk : isKey k = true) (hl : l.length < sizeLine) (hr : SV X B ρ ((p, nd X.prog X.w p (ptN l k d)) :: ow) rest D)
    (hs : swapsWith e (some (.Subscript a b spos)) pos.line X.env = pure false := by rfl) : SV X B ρ ((p, nd X.prog X.w p l) :: ow) (.Assign [.Subscript a b spos] e pos :: rest) D :=
  sv_step (ps_nput hu ha hb he hs) fun E σ H ⟨⟨G, ok⟩, oo⟩ => ⟨G, ok, fun v G1 H1 ok1 s1 p1 => ⟨G1, ok1, fun v1 G2 H2 g2 p2 => ⟨G2, ok1.grow g2, fun v2 G3 H3 g3 p3 => by
    cases (show v1 = .ref p from p2)
    obtain ⟨c, rfl⟩ := tup_ref (show Da G3 v2 k from p3) hk
    have ok3 := (ok1.grow g2).grow g3
    obtain ⟨_, _, o, e1, q1⟩ := ok3.own _ List.mem_cons_self
    exact ⟨p, c, G3, o, l, k, d, rfl, rfl, e1, q1, g3.s, p3, hk, hl, Da.mono (g2.g.trans g3.g) p1, fun o' n' => sv_go hr (ok3.write n') oo⟩⟩⟩⟩
end
end L2.My
end
section
set_option Elab.async false
set_option linter.all false
set_option maxRecDepth 100000
set_option autoImplicit false
set_option maxHeartbeats 1000000
/-! Lay17: x = {k: v for .. for ..}, an owned dict with nested keys. -/
namespace L2.My
open PySem PySem.Spec PyProof.Rows
section
variable {α β : Type} {X : Cx} {B : Hp × Hp} {ρ : List Slot} {ow : Ow} {tg iter tg1 iter1 kx vx : Expr} {xs : List α} {g : α → Pr} {pos : Pos} {scope : Scope} {own : List (Str × Nat)} {tgG tgG1 : TG} {fρ : α → List Slot → List Slot} {ys : α → List β} {g1 : α → β → Pr} {fρ1 : α → β → List Slot → List Slot} {kf f : β → PyData} {vs1 : List Nat}
theorem sw_trueD {kx vx : Expr} {gs : List Comprehension} {scope : Scope} {pos py : Pos} {y : Str} {l : Nat} {env : Env} (hk : env.scope.kind = .function) (hy : env.scope.names.lookup y = some .local) (hl : (py.line == pos.line) = true) (hn : (scope.names.any fun q => q.1 == y && (q.2 == .local || q.2 == .cell)) = false) :
    swapsWith (.DictComp kx vx gs scope pos) (some (.Name y py)) l env = pure true := by
  have e1 : env.blockKind = .function := by
    unfold Env.blockKind
    rw [hk]
    rfl
  have e2 : env.kindOf y = some .local := hy
  show (pure (env.blockKind == .function && env.kindOf y == some .local && py.line == pos.line && !(scope.names.any fun q => q.1 == y && (q.2 == .local || q.2 == .cell))) : Sem Bool) = pure true
  rw [e1, e2, hl, hn]
  rfl
def dnF (kf f : β → PyData) (zs : List β) : List (PyData × PyData) := zs.foldl (fun l z => ptN l (kf z) (f z)) []
theorem dnF_len (kf f : β → PyData) (zs : List β) : (dnF kf f zs).length ≤ zs.length := by
  have gen : ∀ (zs : List β) (l : List (PyData × PyData)), (zs.foldl (fun l z => ptN l (kf z) (f z)) l).length ≤ l.length + zs.length := by
    intro zs
    induction zs with
    | nil => intro l; simp
    | cons z zs ih =>
      intro l
      have h1 := ih (ptN l (kf z) (f z))
      have h2 := ptN_len l (kf z) (f z)
      rw [List.foldl_cons, List.length_cons]
      omega
  simpa [dnF] using gen zs []
theorem dnF_snoc (kf f : β → PyData) (zs : List β) (z : β) : dnF kf f (zs ++ [z]) = ptN (dnF kf f zs) (kf z) (f z) := by
  unfold dnF
  rw [List.foldl_append]
  rfl
theorem dc2_read (htg : ∀ x ∈ xs, TgOk tgG (g x) (fρ x) (own.map (·.2)))
    (hi1 : ∀ x ∈ xs, ∀ b : Bk, IF (blkOf X scope b) B (fρ x (wipeS ρ (own.map (·.2)))) ow tg1 iter1 (ys x) (g1 x))
    (htg1 : ∀ x ∈ xs, ∀ y ∈ ys x, TgOk tgG1 (g1 x y) (fρ1 x y) vs1)
    (hk : ∀ x ∈ xs, ∀ y ∈ ys x, ∀ b : Bk, EV (blkOf X scope b) B (fρ1 x y (wipeS (fρ x (wipeS ρ (own.map (·.2)))) vs1)) ow kx (da (kf y)))
    (he : ∀ x ∈ xs, ∀ y ∈ ys x, ∀ b : Bk, EV (blkOf X scope b) B (fρ1 x y (wipeS (fρ x (wipeS ρ (own.map (·.2)))) vs1)) ow vx (da (f y)))
    (hkey : ∀ x ∈ xs, ∀ y ∈ ys x, isKey (kf y) = true)
    (hl : (xs.flatMap ys).length ≤ sizeLine) {σ : St} {H : Hp} {Q : VK} {G : Hp} (ok : Ok B ρ ow G σ H)
    (k2 : ∀ D G' H', Ok B ρ ((D, nd X.prog X.w D (dnF kf f (xs.flatMap ys))) :: ow) G' σ H' → Q (.ref D) H') : tDc2 (tIF B ρ ow xs g) tgG (bTs X scope []) (bI X scope tg1 iter1) tgG1 (bTs X scope []) (bE X scope kx) (bE X scope vx) (stoN X) (own.map (·.2)) vs1 σ H Q := by
  refine ⟨G, ok, fun J G1 H1 gr1 w D hD => ?_⟩
  refine ⟨fun i m H' => m = xs.length - i ∧ i ≤ xs.length ∧ ∃ G', Ok B ρ ((D, nd X.prog X.w D (dnF kf f ((xs.take i).flatMap ys))) :: ow) G' σ H' ∧ Same G1 G', ⟨xs.length, rfl, Nat.zero_le _, G1, ?_, Same.refl _⟩, ?_⟩
  · exact (ok.grow gr1).mk_own hD (.inl ⟨rfl, rfl⟩)
  · rintro i m H' ⟨rfl, hi', G', z, sg⟩
    by_cases hlt : i < xs.length
    · refine .inr ⟨w.goes i G' H' hlt sg z.gr.s, fun H'' => i + 1 ≤ xs.length ∧ ∃ G'', Ok B ρ ((D, nd X.prog X.w D (dnF kf f ((xs.take (i + 1)).flatMap ys))) :: ow) G'' σ H'' ∧ Same G1 G'', fun H'' q => ⟨xs.length - (i + 1), by omega, rfl, q⟩, fun v H2 y => ?_⟩
      have hx : xs[i]? = some xs[i] := List.getElem?_eq_getElem hlt
      have hm : xs[i] ∈ xs := List.getElem_mem hlt
      obtain ⟨G2, g2, p2⟩ := w.yields i _ G' H' v H2 hx sg z.gr.s y
      have ok2 := z.grow g2
      refine htg _ hm B _ _ G2 _ H2 v _ (ok2.wipe (own.map (·.2))) p2 fun σ2 ok3 hw => ⟨hw.trans (wipe_wipe _ _), fun b => ?_⟩
      refine fun pins s0 I0 => ets_nil.run pins s0 _ _ _ I0 ⟨G2, ok3.drop, fun G3 H3 g3 => iteT fun b' pins' s' I' => (hi1 _ hm b').run pins' s' _ _ _ I' ⟨G3, (ok3.grow g3).drop, fun J1 G4 H4 g4 w1 => ?_⟩⟩
      have e0 : (xs.take (i + 1)).flatMap ys = (xs.take i).flatMap ys ++ ys xs[i] := by
        rw [take_succ_get hx, List.flatMap_append, List.flatMap_singleton]
      have hlen : ((xs.take (i + 1)).flatMap ys).length ≤ sizeLine := by
        have e : xs = xs.take (i + 1) ++ xs.drop (i + 1) := (List.take_append_drop _ _).symm
        have e2 : (xs.flatMap ys).length = ((xs.take (i + 1)).flatMap ys).length + ((xs.drop (i + 1)).flatMap ys).length := by
          rw [← List.length_append, ← List.flatMap_append, ← e]
        omega
      refine ⟨fun j m H' => m = (ys xs[i]).length - j ∧ j ≤ (ys xs[i]).length ∧ ∃ G', Ok B ρ ((D, nd X.prog X.w D (dnF kf f ((xs.take i).flatMap ys ++ (ys xs[i]).take j))) :: ow) G' σ H' ∧ Ok B (fρ xs[i] (wipeS ρ (own.map (·.2)))) ((D, nd X.prog X.w D (dnF kf f ((xs.take i).flatMap ys ++ (ys xs[i]).take j))) :: ow) G' σ2 H' ∧ Same G4 G', ⟨_, rfl, Nat.zero_le _, G4, ?_, ?_, Same.refl _⟩, ?_⟩
      · simpa using (ok2.grow g3).grow g4
      · simpa using (ok3.grow g3).grow g4
      · rintro j m H5 ⟨rfl, hj, G5, z5, ok5, sg5⟩
        by_cases hlj : j < (ys xs[i]).length
        · refine .inr ⟨w1.goes j G5 H5 hlj sg5 z5.gr.s, fun H'' => j + 1 ≤ (ys xs[i]).length ∧ ∃ G', Ok B ρ ((D, nd X.prog X.w D (dnF kf f ((xs.take i).flatMap ys ++ (ys xs[i]).take (j + 1)))) :: ow) G' σ H'' ∧ Ok B (fρ xs[i] (wipeS ρ (own.map (·.2)))) ((D, nd X.prog X.w D (dnF kf f ((xs.take i).flatMap ys ++ (ys xs[i]).take (j + 1)))) :: ow) G' σ2 H'' ∧ Same G4 G', fun H'' q => ⟨(ys xs[i]).length - (j + 1), by omega, rfl, q⟩, fun v5 H6 y5 => ?_⟩
          have hy : (ys xs[i])[j]? = some (ys xs[i])[j] := List.getElem?_eq_getElem hlj
          have hmy : (ys xs[i])[j] ∈ ys xs[i] := List.getElem_mem hlj
          obtain ⟨G6, g6, p6⟩ := w1.yields j _ G5 H5 v5 H6 hy sg5 z5.gr.s y5
          refine htg1 _ hm _ hmy B _ _ G6 _ H6 v5 _ ((ok5.grow g6).wipe vs1) p6 fun σ3 ok7 hw3 => ⟨hw3.trans (wipe_wipe _ _), fun b7 => ?_⟩
          refine fun pins7 s7 I7 => ets_nil.run pins7 s7 _ _ _ I7 ⟨G6, ok7.drop, fun G7 H7 g7 => iteT fun b8 pins8 s8 I8 => (hk _ hm _ hmy b8).run pins8 s8 _ _ _ I8 ⟨G7, (ok7.grow g7).drop, fun u G8 H8 g8 p8 => fun b9 pins9 s9 I9 => (he _ hm _ hmy b9).run pins9 s9 _ _ _ I9 ⟨G8, ((ok7.grow g7).grow g8).drop, fun u9 G9 H9 g9 p9 => ?_⟩⟩⟩
          have zz := (((z5.grow g6).grow g7).grow g8).grow g9
          have oo := (((ok5.grow g6).grow g7).grow g8).grow g9
          obtain ⟨hn, ho, o, e, qn⟩ := zz.own _ List.mem_cons_self
          have hky := hkey _ hm _ hmy
          obtain ⟨c, rfl⟩ := tup_ref (show Da G8 u _ from p8) hky
          have e2 : dnF kf f ((xs.take i).flatMap ys ++ (ys xs[i]).take (j + 1)) = ptN (dnF kf f ((xs.take i).flatMap ys ++ (ys xs[i]).take j)) (kf (ys xs[i])[j]) (f (ys xs[i])[j]) := by
            rw [take_succ_get hy, ← List.append_assoc, dnF_snoc]
          refine ⟨D, c, G9, o, _, kf (ys xs[i])[j], f (ys xs[i])[j], rfl, rfl, e, qn, zz.gr.s, Da.mono g9.g p8, hky, ?_, p9, fun o' n' => ⟨hlj, G9, ?_, ?_, (((sg5.trans g6.g).trans g7.g).trans g8.g).trans g9.g⟩⟩
          · have h1 := dnF_len kf f ((xs.take i).flatMap ys ++ (ys xs[i]).take j)
            have h2 : ((ys xs[i]).take j).length ≤ j := List.length_take_le j _
            rw [e0, List.length_append] at hlen
            rw [List.length_append] at h1
            omega
          · rw [e2]; exact zz.write n'
          · rw [e2]; exact oo.write n'
        · have ej : j = (ys xs[i]).length := by omega
          subst ej
          refine .inl ⟨w1.stops G5 H5 sg5 z5.gr.s, hlt, G5, ?_, ((((sg.trans g2.g).trans g3.g).trans g4.g).trans sg5)⟩
          rw [e0]
          rw [List.take_length] at z5
          exact z5
    · have e : i = xs.length := by omega
      subst e
      rw [List.take_length] at z
      exact .inl ⟨w.stops G' H' sg z.gr.s, k2 D G' H' z⟩
/-- x = {k: v for .. for ..} -/
theorem sv_ownDn {nm : Str} {i : Nat} {py spos : Pos} {rest : List Stmt} {D : Out} (hu : X.A.units + 10 < cLine) (hc : X.calm = true) (hN : X.N.Nodup) (hi : IF X B ρ ow tg iter xs g) (hok : BlkOk X.N X.env.scope scope own) (hv : ∀ i ∈ vs1, i ∈ own.map (·.2))
    (hg : ∀ b : Bk, PG (blkOf X scope b) tg tgG) (htg : ∀ x ∈ xs, TgOk tgG (g x) (fρ x) (own.map (·.2)))
    (hi1 : ∀ x ∈ xs, ∀ b : Bk, IF (blkOf X scope b) B (fρ x (wipeS ρ (own.map (·.2)))) ow tg1 iter1 (ys x) (g1 x))
    (hg1 : ∀ b : Bk, PG (blkOf X scope b) tg1 tgG1) (htg1 : ∀ x ∈ xs, ∀ y ∈ ys x, TgOk tgG1 (g1 x y) (fρ1 x y) vs1)
    (hk : ∀ x ∈ xs, ∀ y ∈ ys x, ∀ b : Bk, EV (blkOf X scope b) B (fρ1 x y (wipeS (fρ x (wipeS ρ (own.map (·.2)))) vs1)) ow kx (da (kf y)))
    (he : ∀ x ∈ xs, ∀ y ∈ ys x, ∀ b : Bk, EV (blkOf X scope b) B (fρ1 x y (wipeS (fρ x (wipeS ρ (own.map (·.2)))) vs1)) ow vx (da (f y)))
    (hkey : ∀ x ∈ xs, ∀ y ∈ ys x, isKey (kf y) = true)
    (hl : (xs.flatMap ys).length ≤ sizeLine) (hr : ∀ p, SV X B (ρ.set i (.ptr p)) ((p, nd X.prog X.w p (dnF kf f (xs.flatMap ys))) :: ow) rest D) (hy : X.N[i]? = some nm := by rfl) (hyl : X.env.scope.names.lookup nm = some .local := by rfl)
    (hsw : swapsWith (dcx kx vx tg iter tg1 iter1 [] [] scope pos) (some (.Name nm py)) spos.line X.env = pure true := by exact sw_trueD rfl rfl rfl (by decide +kernel)) (hs : ∀ x, foldedSetIterable iter X.env x = pure x := by intro _; rfl) (hs1 : ∀ env x, foldedSetIterable iter1 env x = pure x := by intro _ _; rfl) :
    SV X B ρ ow (.Assign [.Name nm py] (.DictComp kx vx [⟨tg, iter, [], 0⟩, ⟨tg1, iter1, [], 0⟩] scope pos) spos :: rest) D :=
  sv_step (ps_setDc2 (sto := stoN X) (tt := bTs X scope []) (tt1 := bTs X scope []) (wi1 := bI X scope tg1 iter1) (tk := bE X scope kx) (tv := bE X scope vx) hc hN hy hyl hsw hi hok hv (fun s H C cl fp => hg (s, H, C, cl, fp)) (fun s H C cl fp => pts_b (s, H, C, cl, fp)) (fun s H C cl fp => pe_b (s, H, C, cl, fp)) (fun s H C cl fp => pe_b (s, H, C, cl, fp)) (fun s H C cl fp => stoN_ok (Y := BK X s H scope C cl fp) hu) (fun s H C cl fp => pi_b (s, H, C, cl, fp)) (fun s H C cl fp => hg1 (s, H, C, cl, fp)) (fun s H C cl fp => pts_b (s, H, C, cl, fp)) hs hs1) fun E σ H ⟨⟨G, ok⟩, o⟩ =>
    dc2_read htg hi1 htg1 hk he hkey hl ok fun D G' H' z => sv_go (hr D) (z.set (s := .ptr D) rfl) o
end
end L2.My
end
section
set_option Elab.async false
set_option linter.all false
set_option maxRecDepth 100000
set_option autoImplicit false
set_option maxHeartbeats 1000000
/-! Lay18: an instance with owned parts. -/
namespace L2.My
open PySem PySem.Spec PyProof.Rows
/-- a promise of an __init__: the cells behind it may be new ones -/
def spN {α β : Type} (pre : α → Prop) (as : α → List Slot) (ow : α → Ow) (ow' : α → β → Ow) : Sp := fun vs H Q _ => ∃ x G, pre x ∧ Same G H ∧ PrAll G ((as x).map slPr) vs ∧ (∀ q ∈ ow x, OwAt G H q) ∧ ((ow x).map (·.1)).Nodup ∧
  ∀ y G' H', Gr (G, hidO H ((ow x).map (·.1))) G' H' → (∀ q ∈ ow' x y, OwAt G' H' q ∧ hidO H ((ow x).map (·.1)) q.1 = none) → ((ow' x y).map (·.1)).Nodup → Q .non H'
section
variable {P : Program} {w : World} {K : PySem.W.Frag} {mg : Str → Option Value} {base : Heap}
def BodyN (P : Program) (w : World) (K : PySem.W.Frag) (mg : Str → Option Value) (base : Heap) (N : List Str) (qual : Str) (st : Stmt) (k : Nat) (as : List Slot) (ow : Ow) {β : Type} (ow' : β → Ow) : Prop :=
  ∀ (f : Addr) (cdv : Value) (A : Around) (outer : List Env) (s : Shared) (H0 H : Hp) (E : XK) (B : Hp × Hp), Room k (cxF P w K mg base N qual st f cdv A outer s H E).A →
    SV (cxF P w K mg base N qual st f cdv A outer s H E) B (startL N as) ow (defBody st) { nx := fun _ ow2 => ∃ y, ow2 = ow' y, rt := ⟨fun _ _ => False, fun _ h => h⟩ }
theorem fn_bodyN {x qual : Str} {st : Stmt} {f : Addr} {fd : FuncData} {N ps : List Str} {k : Nat} {α β : Type} {pre : α → Prop} {as : α → List Slot} {ow : α → Ow} {ow' : α → β → Ow} {dvs : List V} {kws : List (Str × V)} (F : FunD K x qual (defArgs st) (defBody st) (defScope st) dvs kws f fd) (S : FnScope N ps (defScope st))
    (hl : ∀ x, (as x).length = ps.length) (hN : ps.length ≤ N.length) (hb : ∀ x, pre x → BodyN P w K mg base N qual st k (as x) (ow x) (ow' x)) : FnOk P w K mg base CX0 (k + 1) f fd ps (spN pre as ow ow') := by
  refine F.ok S (fun vs H Q E ⟨x, G, _, _, t, _⟩ => by
    have := t.length
    rw [List.length_map, hl x] at this
    exact this.symm) fun cdv A outer s H vs Q E hr ⟨x, G, hp, sm, t, ho, nd, q⟩ => ?_
  refine ⟨_, L2.PSs.nox (hb x hp f cdv A outer s H H E _ hr), ⟨G, ok_startL sm t (by rw [hl x]; exact hN) ho nd⟩, ⟨fun ρ ow2 G' σ H' ⟨y, z⟩ ok => q y G' H' ok.gr (fun r hr => ⟨⟨(ok.own r (z ▸ hr)).out, (ok.own r (z ▸ hr)).at_⟩, (ok.own r (z ▸ hr)).new⟩) (z ▸ ok.ap), fun v ow2 G' H' z oo g p => p.elim, fun ρ ow G' σ H' z ok => z.elim, fun ρ ow G' σ H' z ok => z.elim⟩⟩
end
section
variable {X : Cx} {B : Hp × Hp} {ρ : List Slot} {ow ow' ow2 ow2' : Ow} {e a b o : Expr} {es : List Expr} {φ : Pr} {pos p' : Pos} {d : PyData} {i : Int} {rest : List Stmt} {D : Out}
theorem Ok.permP {G H : Hp} {σ : St} (ok : Ok B ρ ow G σ H) (h : ow.Perm ow') : Ok B ρ ow' G σ H := ok.perm (fun q hq => h.mem_iff.mpr hq) ((h.map (·.1)).nodup_iff.mp ok.ap)
theorem sv_perm {sts : List Stmt} (h : ow.Perm ow') (hr : SV X B ρ ow' sts D) : SV X B ρ ow sts D := sv_weak hr fun G σ H ok => ⟨G, ok.permP h⟩
theorem ex_perm (h : ow.Perm ow2) (h' : ow2'.Perm ow') (he : EX X B ρ ow2 e φ ow2') : EX X B ρ ow e φ ow' := L2.PE.weak he fun σ H Q ⟨G, ok, k⟩ => ⟨G, ok.permP h, fun v G' H' ok' s p => k v G' H' (ok'.permP h') s p⟩
theorem rot3 {α : Type} (a b c : α) (l : List α) : (a :: b :: c :: l).Perm (c :: a :: b :: l) := ((List.Perm.swap c b l).cons a).trans (List.Perm.swap c a (b :: l))
/-- a[b], a an owned list -/
theorem ev_ixP {ds : List PyData} {q : Addr} (ha : EV X B ρ ow a (pp q)) (ho : (q, ol ds) ∈ ow) (hb : EV X B ρ ow b (da (.int i))) (hx : atI ds i = some d) (hs : PlainIx b := by intro _ _; rfl) : EV X B ρ ow (.Subscript a b pos) (da d) :=
  L2.PE.weak (pe_ix ix_list ha hb hs) fun σ H Q ⟨G, ok, k⟩ => ⟨G, ok, fun v1 G1 H1 g1 p1 => ⟨G1, ok.grow g1, fun v2 G2 H2 g2 p2 => by
    cases (show v1 = .ref q from p1)
    cases (show Da G2 v2 (.int i) from p2)
    obtain ⟨_, _, u, e1, vs, rfl, t⟩ := ((ok.grow g1).grow g2).own _ ho
    have e1' : H2 q = some (.lst vs) := e1
    obtain ⟨v, h1, h2⟩ := atI_of t hx
    exact ⟨q, vs, i, v, rfl, rfl, .of e1', h1, k v G2 H2 (g1.trans g2) h2⟩⟩⟩
/-- a[b], a an owned dict with nested keys, b writing owned cells -/
theorem ex_getN {p : Addr} {l : List (PyData × PyData)} {k : PyData} (hu : X.A.units + 10 < cLine) (ha : EV X B ρ ow a (pp p)) (hb : EX X B ρ ow b (da k) ow) (ho : (p, nd X.prog X.w p l) ∈ ow) (hk : isKey k = true) (hl : lkN l k = some d) (hs : PlainIx b := by intro _ _; rfl) : EX X B ρ ow (.Subscript a b pos) (da d) ow :=
  L2.PE.weak (pe_nget hu ha hb hs) fun σ H Q ⟨G, ok, q⟩ => ⟨G, ok, fun v1 G1 H1 g1 p1 => ⟨G1, ok.grow g1, fun v2 G2 H2 ok2 s2 p2 => by
    cases (show v1 = .ref p from p1)
    obtain ⟨c, rfl⟩ := tup_ref (show Da G2 v2 k from p2) hk
    obtain ⟨_, _, o, e1, q1⟩ := ok2.own _ ho
    exact ⟨p, c, G2, o, l, k, d, rfl, rfl, e1, q1, ok2.gr.s, p2, hk, hl, fun v hv => q v G2 H2 ok2 (g1.g.trans s2) hv⟩⟩⟩
/-- a[::-1], a an owned list -/
theorem ev_revP {ds : List PyData} {q : Addr} {k : Nat} {p1 p2 p3 : Pos} (ha : EV X B ρ ow a (pp q)) (ho : (q, ol ds) ∈ ow) : EV X B ρ ow (.Subscript a (.Slice none none (some (.UnaryOp .USub (.Constant (.int 1) k p1) p2)) p3) pos) (da (.list ds.reverse)) :=
  L2.PE.weak (pe_revL ha) fun σ H Q ⟨G, ok, k⟩ => ⟨G, ok, fun v1 G1 H1 g1 p1 => by
    cases (show v1 = .ref q from p1)
    obtain ⟨_, _, u, e1, vs, rfl, t⟩ := (ok.grow g1).own _ ho
    have e1' : H1 q = some (.lst vs) := e1
    refine ⟨q, vs, rfl, .of e1', fun z hz => ?_⟩
    have al := Gr.alloc (o := .lst vs.reverse) g1.s hz
    have tr : ∀ {vs : List V} {ds : List PyData}, Das G1 vs ds → Das G1 vs.reverse ds.reverse := by
      intro vs ds t
      induction ds generalizing vs with
      | nil => cases t; exact .nil
      | cons d ds ih =>
        cases t with
        | cons a t =>
          rw [List.reverse_cons, List.reverse_cons]
          exact (ih t).append (.cons a .nil)
    exact k _ _ _ (g1.trans al) (.lst upd_same ((tr t).mono al.g))⟩
/-- self.f = {}, owned, with nested keys -/
theorem sv_fldN {C : Addr} {a : Addr} {fs : List (Str × Pr)} {f : Str} {apos dp : Pos} (c : Cls X.K C) (n : NoAttr X.K C f) (ho : ∀ q, EV X B ρ ((q, nd X.prog X.w q []) :: (a, oin C fs) :: ow) o (pp a)) (hf : fs.lookup f = none) (hl : fs.length < 1000) (hr : ∀ q, SV X B ρ ((a, oin C (fs ++ [(f, pp q)])) :: (q, nd X.prog X.w q []) :: ow) rest D)
    (hs : swapsWith (.Dict [] [] dp) (some (.Attribute o f apos)) pos.line X.env = pure false := by rfl) : SV X B ρ ((a, oin C fs) :: ow) (.Assign [.Attribute o f apos] (.Dict [] [] dp) pos :: rest) D :=
  sv_step (ps_fld (pe_w (X := X)) pe_dnewK hs) fun E σ H ⟨⟨G, ok⟩, oo⟩ q hq => by
    have ok1 := ok.mk_own (ψ := nd X.prog X.w q []) hq (.inl ⟨rfl, rfl⟩)
    refine L2.PE.to (ho q) ⟨G, ok1, fun u G2 H2 g2 p2 => ?_⟩
    cases (show u = .ref a from p2)
    have ok2 := ok1.grow g2
    obtain ⟨_, _, _, e1, dx, us, rfl, t⟩ := ok2.own _ (List.mem_cons_of_mem _ List.mem_cons_self)
    have h0 := t.look0 hf
    refine ⟨a, C, dx, us, rfl, e1, c, n, by rw [t.length]; exact hl, ?_⟩
    rw [putF_new h0]
    exact sv_go (hr q) ((ok2.permP (List.Perm.swap _ _ _)).write ⟨dx, _, rfl, t.add rfl⟩) oo
/-- o.append(e), o an owned list, e writing owned cells -/
theorem sv_appendX {p : Addr} {ds : List PyData} {apos cpos : Pos} (ho : EV X B ρ ((p, ol ds) :: ow) o (pp p)) (he : EX X B ρ ((p, ol ds) :: ow) e (da d) ((p, ol ds) :: ow)) (hl : ds.length < sizeLine) (hr : SV X B ρ ((p, ol (ds ++ [d])) :: ow) rest D)
    (hbase : attributeBase o "append" X.env (eval o X.env) = eval o X.env := by rfl)
    (hfew : ((backTo cpos (starEach [e] X.env)).all (fun x => !x.1) && (backToKw cpos (keywordEach [] X.env)).all (fun x => x.1.isSome)
      && decide ([e].length + ([] : List Keyword).length + (if ([] : List Keyword).isEmpty then 0 else 1) < 30)) = true := by rfl)
    (hline : (apos.endLine == cpos.line) = true := by rfl) (hs1 : starEach [e] X.env = (false, eval e X.env) :: starEach [] X.env := by rfl) (hplain : (backTo cpos (starEach [] X.env)).any (·.1) = false := by rfl)
    (hs : swapsWith (.Call (.Attribute o "append" apos) [e] [] cpos) none pos.line X.env = pure false := by rfl) : SV X B ρ ((p, ol ds) :: ow) (.Expr (.Call (.Attribute o "append" apos) [e] [] cpos) pos :: rest) D :=
  sv_step (ps_expr (pe_bm PySem.F.plainAttrs_list PySem.F.slot_list_append PySem.F.type_list_append mt_append ho (pa_cons he pa_nil hs1) hbase hfew hline hs1 hplain) hs) fun E σ H ⟨⟨G, ok⟩, oo⟩ => ⟨G, ok, fun v1 G1 H1 g1 p1 => by
    cases (show v1 = .ref p from p1)
    have ok1 := ok.grow g1
    obtain ⟨_, _, ob, e1, vs, rfl, t⟩ := ok1.own _ List.mem_cons_self
    have e1' : H1 p = some (.lst vs) := e1
    refine ⟨.inl ⟨rfl, _, SqL.of e1'⟩, G1, ok1, fun v G2 H2 ok2 s2 p2 => ?_⟩
    obtain ⟨_, _, ob2, e2, vs2, rfl, t2⟩ := ok2.own _ List.mem_cons_self
    have e2' : H2 p = some (.lst vs2) := e2
    exact ⟨p, vs2, v, rfl, rfl, e2', by rw [t2.length]; exact hl, sv_go hr (ok2.write ⟨_, rfl, t2.append (.cons p2 .nil)⟩) oo⟩⟩
/-- x = C(e, ..), the instance and its parts owned -/
theorem sv_make {α β : Type} {pre : α → Prop} {as : α → List Slot} {wa : α → Ow} {wb : α → β → Ow} {k n : Nat} {ps : List Str} {f C : Addr} {fd : FuncData} {φs : List Pr} {nm y : Str} {py p0 : Pos} (M : Mk X.K C f) (F : FnOk X.prog X.w X.K X.mg X.base CX0 k f fd ps (spN pre as wa wb)) (hr : Room (k + 1) X.A) (hm : X.mg nm = some (.ref C)) (hb : Binds X.K fd ps [])
    (hN : X.N.Nodup) (ha : EA X B ρ ow (e :: es) φs) (x : Addr → α) (hp : ∀ a, pre (x a)) (h1 : ∀ a, wa (x a) = [(a, oin C [])]) (h3 : ∀ a G vs, PrAll G φs vs → PrAll G ((as (x a)).map slPr) (.ref a :: vs)) (hk : ∀ a y, SV X B (ρ.set n (.ptr a)) (wb (x a) y ++ ow) rest D)
    (hy : X.N[n]? = some y := by rfl) (hx : Loc X.env.scope y := by first | exact Or.inl rfl | exact Or.inr rfl)
    (hg : Gl X nm := by rfl) (hdb : (nm == ("__debug__" : Str)) = false := by decide)
    (he : starEach (e :: es) X.env = (false, eval e X.env) :: starEach es X.env := by rfl) (hpl : (backTo p0 (starEach es X.env)).any (·.1) = false := by rfl)
    (hs : swapsWith (.Call (.Name nm p') (e :: es) [] p0) (some (.Name y py)) pos.line X.env = pure false := by rfl) (hf : X.fn y = true ∨ X.env.scope.names.lookup y = some .local := by first | exact .inl rfl | exact .inr rfl) :
    SV X B ρ ow (.Assign [.Name y py] (.Call (.Name nm p') (e :: es) [] p0) pos :: rest) D :=
  sv_step (ps_set hN hy hx (pe_make (k := k) M F hr hg hm hb .nil pass0 ha hdb he hpl) hs hf) fun E σ H ⟨⟨G, ok⟩, oo⟩ => ⟨G, ok, fun vs G1 H1 g1 t1 a dx ea ed hne => by
    have ok1 := ok.grow g1
    refine ⟨x a, G1, hp a, ?_, by rw [List.append_nil]; exact h3 a G1 vs t1, ?_, ?_, ?_⟩
    · intro z y hz
      have hz2 := g1.s z y hz
      rw [upd_ne (ne_of_none hz2 ea), upd_ne (ne_of_none hz2 ed)]
      exact hz2
    · intro z hz
      rw [h1 a, List.mem_singleton] at hz
      subst hz
      exact ⟨g1.s.free ea, _, upd_same, dx, [], rfl, .nil⟩
    · rw [h1 a]; simp
    · intro y G3 H3 g3 o3 nd3
      rw [h1 a] at g3 o3
      have hH : ∀ z u, H1 z = some u → z ≠ a ∧ z ≠ dx := fun z u hz => ⟨fun e => (by rw [e, ea] at hz; cases hz), fun e => (by rw [e, ed] at hz; cases hz)⟩
      have hh : ∀ z u, H1 z = some u → hidO (upd (upd H1 dx (.own a)) a (.ins C dx [])) [a] z = some u := fun z u hz => by
        obtain ⟨n1, n2⟩ := hH z u hz
        rw [hidO_of (by simpa using n1), upd_ne n1, upd_ne n2]; exact hz
      have gg : Gr (G1, H1) G3 H3 := ⟨g3.g, fun z u hz => g3.h z u (hh z u hz), g3.s, fun z q1 q2 => by
        obtain ⟨u, hu⟩ := Option.ne_none_iff_exists'.mp q2
        exact g3.n z q1 (by show hidO _ [a] z ≠ none; rw [hh z u hu]; simp)⟩
      have ok3 := ok1.grow gg
      have fresh : ∀ q ∈ wb (x a) y, H1 q.1 = none := fun q hq => by
        cases hz : H1 q.1 with
        | none => rfl
        | some u =>
          have := (o3 q hq).2
          have h9 : hidO (upd (upd H1 dx (.own a)) a (.ins C dx [])) [a] q.1 = some u := hh _ _ hz
          have h8 : hidO (upd (upd H1 dx (.own a)) a (.ins C dx [])) (List.map (·.1) [(a, oin C [])]) q.1 = none := this
          rw [show List.map (·.1) [(a, oin C [])] = [a] from rfl, h9] at h8
          cases h8
      refine ⟨rfl, sv_go (hk a y) (Ok.set (s := .ptr a) ⟨ok3.gr, ok3.sl, ok3.len, fun q hq => ?_, ?_⟩ rfl) oo⟩
      · rcases List.mem_append.mp hq with hq | hq
        · exact ⟨ok1.gr.h.free (fresh q hq), (o3 q hq).1.out, (o3 q hq).1.at_⟩
        · exact ok3.own q hq
      · rw [List.map_append]
        refine List.nodup_append.mpr ⟨nd3, ok3.ap, fun z hz1 z2 hz2 e => ?_⟩
        subst e
        obtain ⟨q, hq, rfl⟩ := List.mem_map.mp hz1
        obtain ⟨q2, hq2, e2⟩ := List.mem_map.mp hz2
        obtain ⟨_, _, u, e3, _⟩ := ok1.own q2 hq2
        rw [e2, fresh q hq] at e3
        cases e3⟩
end
end L2.My
end
section
set_option Elab.async false
set_option linter.all false
set_option maxRecDepth 100000
set_option autoImplicit false
/-! Lay19: three comparisons in a row, lists and tuples added, list(range(..)), tuples of anything. -/
namespace L2.My
open PySem PySem.Spec PyProof.Rows
section
variable {X : Cx} {B : Hp × Hp} {ρ : List Slot} {ow : Ow} {a b c d e : Expr} {es : List Expr} {φ ψ : Pr} {pos : Pos} {i j k l : Int} {rest : List Stmt} {D : Out}
def tCh3 (ta tb tc td : TE) (P1 P2 P3 : Int → Int → Prop) [∀ i j, Decidable (P1 i j)] [∀ i j, Decidable (P2 i j)] [∀ i j, Decidable (P3 i j)] : TE := fun σ H Q => ta σ H fun x H1 => tb σ H1 fun y H2 => ∃ i j, x = .int i ∧ y = .int j ∧
  (if P1 i j then tc σ H2 fun z H3 => ∃ k, z = .int k ∧ (if P2 j k then td σ H3 fun u H4 => ∃ l, u = .int l ∧ Q (.bl (decide (P3 k l))) H4 else Q (.bl false) H3) else Q (.bl false) H2)
theorem pe_lelt2 {ta tb tc td : TE} (ha : PE X a ta) (hb : PE X b tb) (hc : PE X c tc) (hd : PE X d td) (hm : lastMarks [.LtE, .Lt, .Lt] [b, c, d] = false := by with_unfolding_all rfl) : PE X (.Compare a [.LtE, .Lt, .Lt] [b, c, d] pos) (tCh3 ta tb tc td (· ≤ ·) (· < ·) (· < ·)) := by
  refine ⟨fun pins s σ H Q I h => ?_⟩
  refine Compare_chain (thn (ha.run pins s σ H _ I h) fun v s1 ⟨x, H1, I1, r1, q1⟩ => chain_link (thn (hb.run pins s1 σ H1 _ I1 q1) fun u s2 ⟨y, H2, I2, r2, i, j, ex, ey, q2⟩ => ?_)) hm
  subst ex ey
  refine thn (op_le pins s2 σ H2 (.int i) (.int j) v u (fun z H => z = .bl (decide (i ≤ j)) ∧ H = H2) I2 r1 r2 ⟨i, j, rfl, rfl, rfl, rfl⟩) fun w1 s3 ⟨z, H3, I3, r3, ez, eH⟩ => ?_
  subst ez eH
  cases r3
  refine wpAny_truthy_bool ?_
  by_cases p1 : i ≤ j
  · rw [decide_eq_true p1]
    rw [if_pos p1] at q2
    refine ite_tt (chain_link (thn (hc.run pins s3 σ _ _ I3 q2) fun u3 s4 ⟨z, H4, I4, r4, k, ez, q4⟩ => ?_))
    subst ez
    refine thn (op_lt pins s4 σ H4 (.int j) (.int k) u u3 (fun z H => z = .bl (decide (j < k)) ∧ H = H4) I4 r2 r4 ⟨j, k, rfl, rfl, rfl, rfl⟩) fun w2 s5 ⟨z, H5, I5, r5, ez, eH⟩ => ?_
    subst ez eH
    cases r5
    refine wpAny_truthy_bool ?_
    by_cases p2 : j < k
    · rw [decide_eq_true p2]
      rw [if_pos p2] at q4
      refine ite_tt (chain_last (thn (hd.run pins s5 σ _ _ I5 q4) fun u4 s6 ⟨z, H6, I6, r6, l, ez, q6⟩ => ?_))
      subst ez
      exact op_lt pins s6 σ H6 (.int k) (.int l) u3 u4 Q I6 r4 r6 ⟨k, l, rfl, rfl, q6⟩
    · rw [decide_eq_false p2]
      rw [if_neg p2] at q4
      exact ite_ff ⟨.bl false, _, I5, rfl, q4⟩
  · rw [decide_eq_false p1]
    rw [if_neg p1] at q2
    exact ite_ff ⟨.bl false, _, I3, rfl, q2⟩
theorem ev_lelt2 (ha : EV X B ρ ow a (da (.int i))) (hb : EV X B ρ ow b (da (.int j))) (hc : EV X B ρ ow c (da (.int k))) (hd : EV X B ρ ow d (da (.int l))) (hm : lastMarks [.LtE, .Lt, .Lt] [b, c, d] = false := by with_unfolding_all rfl) : EV X B ρ ow (.Compare a [.LtE, .Lt, .Lt] [b, c, d] pos) (da (.bool (decide (i ≤ j) && (decide (j < k) && decide (k < l))))) :=
  L2.PE.weak (pe_lelt2 ha hb hc hd hm) fun σ H Q ⟨G, ok, q⟩ => ⟨G, ok, fun v1 G1 H1 g1 p1 => ⟨G1, ok.grow g1, fun v2 G2 H2 g2 p2 => by
    cases (show Da G1 v1 (.int i) from p1)
    cases (show Da G2 v2 (.int j) from p2)
    refine ⟨i, j, rfl, rfl, ?_⟩
    by_cases h1 : i ≤ j
    · rw [if_pos h1]
      refine ⟨G2, (ok.grow g1).grow g2, fun v3 G3 H3 g3 p3 => ?_⟩
      cases (show Da G3 v3 (.int k) from p3)
      refine ⟨k, rfl, ?_⟩
      by_cases h2 : j < k
      · rw [if_pos h2]
        refine ⟨G3, ((ok.grow g1).grow g2).grow g3, fun v4 G4 H4 g4 p4 => ?_⟩
        cases (show Da G4 v4 (.int l) from p4)
        refine ⟨l, rfl, q _ G4 H4 (((g1.trans g2).trans g3).trans g4) ?_⟩
        rw [decide_eq_true h1, decide_eq_true h2]
        exact .bl _
      · rw [if_neg h2]
        refine q _ G3 H3 ((g1.trans g2).trans g3) ?_
        rw [decide_eq_false h2, Bool.false_and, Bool.and_false]
        exact .bl _
    · rw [if_neg h1]
      refine q _ G2 H2 (g1.trans g2) ?_
      rw [decide_eq_false h1, Bool.false_and]
      exact .bl _⟩⟩
/-- list + list -/
theorem ev_catL {ds ds2 : List PyData} (ha : EV X B ρ ow a (da (.list ds))) (hb : EV X B ρ ow b (da (.list ds2))) (hl : ds.length + ds2.length ≤ sizeLine) : EV X B ρ ow (.BinOp a .Add b pos) (da (.list (ds ++ ds2))) :=
  L2.PE.weak (pe_op op_cat ha hb) fun σ H Q ⟨G, ok, k⟩ => ⟨G, ok, fun v1 G1 H1 g1 p1 => ⟨G1, ok.grow g1, fun v2 G2 H2 g2 p2 => by
    obtain ⟨x, xs, rfl, e, t⟩ : ∃ a vs, v1 = .ref a ∧ G2 a = some (.lst vs) ∧ Das G2 vs ds := by
      cases Da.mono g2.g (show Da G1 v1 (.list ds) from p1) with
      | lst e t => exact ⟨_, _, rfl, e, t⟩
    obtain ⟨y, ys, rfl, e2, t2⟩ : ∃ a vs, v2 = .ref a ∧ G2 a = some (.lst vs) ∧ Das G2 vs ds2 := by
      cases (show Da G2 v2 (.list ds2) from p2) with
      | lst e t => exact ⟨_, _, rfl, e, t⟩
    refine ⟨x, y, xs, ys, rfl, rfl, g2.s _ _ e, g2.s _ _ e2, by rw [t.length, t2.length]; exact hl, fun p hp => ?_⟩
    have al := Gr.alloc (o := .lst (xs ++ ys)) g2.s hp
    exact k _ _ _ ((g1.trans g2).trans al) (.lst upd_same ((t.append t2).mono al.g))⟩⟩
/-- tuple + tuple -/
theorem ev_catT {ds ds2 : List PyData} (ha : EV X B ρ ow a (da (.tuple ds))) (hb : EV X B ρ ow b (da (.tuple ds2))) (hl : ds.length + ds2.length ≤ sizeLine) : EV X B ρ ow (.BinOp a .Add b pos) (da (.tuple (ds ++ ds2))) :=
  L2.PE.weak (pe_op op_catA ha hb) fun σ H Q ⟨G, ok, k⟩ => ⟨G, ok, fun v1 G1 H1 g1 p1 => ⟨G1, ok.grow g1, fun v2 G2 H2 g2 p2 => by
    have p3 := Da.mono g2.g (show Da G1 v1 (.tuple ds) from p1)
    obtain ⟨x, xs, rfl, e, t⟩ : ∃ a vs, v1 = .ref a ∧ G2 a = some (.tup vs) ∧ Das G2 vs ds := by
      cases p3 with
      | tup e t => exact ⟨_, _, rfl, e, t⟩
    have p4 : Da G2 v2 (.tuple ds2) := p2
    obtain ⟨y, ys, rfl, e2, t2⟩ : ∃ a vs, v2 = .ref a ∧ G2 a = some (.tup vs) ∧ Das G2 vs ds2 := by
      cases p4 with
      | tup e t => exact ⟨_, _, rfl, e, t⟩
    refine ⟨x, y, xs, ys, rfl, rfl, .of (g2.s _ _ e), .of (g2.s _ _ e2), by rw [t.length, t2.length]; exact hl, fun z => ?_, fun _ z => ?_, fun _ _ p hp => ?_⟩
    · subst z
      cases t
      exact k _ _ _ (g1.trans g2) p4
    · subst z
      cases t2
      rw [List.append_nil] at k
      exact k _ _ _ (g1.trans g2) p3
    · have al := Gr.alloc (o := .tup (xs ++ ys)) g2.s hp
      exact k _ _ _ ((g1.trans g2).trans al) (.tup upd_same ((t.append t2).mono al.g))⟩⟩
theorem Das.repN {H : Hp} {vs : List V} {ds : List PyData} (t : Das H vs ds) : ∀ n : Nat, Das H (List.replicate n vs).flatten (List.replicate n ds).flatten
  | 0 => .nil
  | n + 1 => by
    rw [List.replicate_succ, List.flatten_cons, List.replicate_succ, List.flatten_cons]
    exact t.append (t.repN n)
/-- list * n -/
theorem ev_repL {ds : List PyData} {n : Nat} (ha : EV X B ρ ow a (da (.list ds))) (hb : EV X B ρ ow b (da (.int (n : Nat)))) (hn : n < 2 ^ 63) (hl : ds.length * n ≤ sizeLine) : EV X B ρ ow (.BinOp a .Mult b pos) (da (.list (List.replicate n ds).flatten)) :=
  L2.PE.weak (pe_op op_rep ha hb) fun σ H Q ⟨G, ok, k⟩ => ⟨G, ok, fun v1 G1 H1 g1 p1 => ⟨G1, ok.grow g1, fun v2 G2 H2 g2 p2 => by
    cases (show Da G2 v2 (.int (n : Nat)) from p2)
    obtain ⟨x, xs, rfl, e, t⟩ : ∃ a vs, v1 = .ref a ∧ G2 a = some (.lst vs) ∧ Das G2 vs ds := by
      cases Da.mono g2.g (show Da G1 v1 (.list ds) from p1) with
      | lst e t => exact ⟨_, _, rfl, e, t⟩
    refine ⟨x, (n : Int), xs, rfl, rfl, g2.s _ _ e, by omega, by omega, by rw [t.length, Int.toNat_natCast]; exact hl, fun p hp => ?_⟩
    have al := Gr.alloc (o := .lst (List.replicate (n : Int).toNat xs).flatten) g2.s hp
    refine k _ _ _ ((g1.trans g2).trans al) (.lst upd_same ?_)
    rw [Int.toNat_natCast]
    exact (t.mono al.g).repN n⟩⟩
/-- list(range(n)) -/
theorem ev_listRg {n : Nat} {p p2 pos2 : Pos} (hc : X.calm = true) (hm : X.mg "list" = none) (hm2 : X.mg "range" = none) (ha : EV X B ρ ow a (da (.int (n : Nat)))) (hn : n ≤ 1000000) (hg : Gl X "list" := by rfl) (hg2 : Gl X "range" := by rfl)
    (na : starEach [a] X.env = (false, eval a X.env) :: starEach [] X.env := by rfl) (na2 : starEach [.Call (.Name "range" p2) [a] [] pos2] X.env = (false, eval (.Call (.Name "range" p2) [a] [] pos2) X.env) :: starEach [] X.env := by rfl) :
    EV X B ρ ow (.Call (.Name "list" p) [.Call (.Name "range" p2) [a] [] pos2] [] pos) (da (.list ((List.range n).map fun i => .int (i : Nat)))) :=
  L2.PE.weak (pe_listRg hc hg hm (prg_1 hg2 hm2 ha na) na2) fun σ H Q ⟨G, ok, k⟩ => ⟨G, ok, fun v1 G1 H1 g1 p1 => by
    cases (show Da G1 v1 (.int (n : Nat)) from p1)
    refine ⟨(n : Int), rfl, RgOk.of_le (by omega) (by omega) (by omega) (by omega), fun q hq => ?_⟩
    have al := Gr.alloc (o := .lst (rgV 0 (n : Int))) g1.s hq
    refine k _ _ _ (g1.trans al) (.lst upd_same ?_)
    unfold rgV
    rw [show ((n : Int) - 0).toNat = n by omega]
    have gen : ∀ (H : Hp) (l : List Nat), Das H (l.map fun i => V.int (0 + (i : Nat))) (l.map fun i => .int (i : Nat)) := by
      intro H l
      induction l with
      | nil => exact .nil
      | cons x l ih => exact .cons (by show Da H (.int (0 + (x : Nat))) (.int (x : Nat)); rw [Int.zero_add]; exact .int _) ih
    exact gen _ _⟩
/-! tuples of anything -/
def tuP (φs : List Pr) : Pr := ⟨fun H v => ∃ t vs, v = .ref t ∧ H t = some (.tup vs) ∧ PrAll H φs vs, fun s ⟨t, vs, e, e2, h⟩ => ⟨t, vs, e, s _ _ e2, h.mono s⟩⟩
theorem ev_tupP {φs : List Pr} {k : Nat} (h : EA X B ρ ow es φs) (hl : φs.length ≤ sizeLine) : EV X B ρ ow (.Tuple es k pos) (tuP φs) := L2.PE.weak (pe_tup h) fun σ H Q ⟨G, ok, q⟩ => ⟨G, ok, fun vs G1 H1 g1 t => ⟨by rw [← t.length]; exact hl, fun p hp => by
  have al := Gr.alloc (o := .tup vs) g1.s hp
  exact q _ _ _ (g1.trans al) ⟨p, vs, rfl, upd_same, t.mono al.g⟩⟩⟩
def TgsP (g : TGs) (φs : List Pr) (f : List Slot → List Slot) : Prop := ∀ (B : Hp × Hp) (ρ : List Slot) (ow : Ow) (G : Hp) (σ : St) (H : Hp) (us : List V) (Q : St → Hp → Prop), Ok B ρ ow G σ H → PrAll G φs us → (∀ σ', Ok B (f ρ) ow G σ' H → Q σ' H) → g us σ H Q
theorem tgsp_nil : TgsP gNil [] (fun ρ => ρ) := fun B ρ ow G σ H us Q ok t q => by
  cases t
  exact ⟨rfl, q σ ok⟩
theorem tgsp_cons {g : TGs} {k : Nat} {φ : Pr} {φs : List Pr} {f : List Slot → List Slot} (hr : TgsP g φs f) : TgsP (gCons (gName k) g) (φ :: φs) (fun ρ => f (ρ.set k (.val φ))) := fun B ρ ow G σ H us Q ok t q => by
  cases t with
  | cons p t => exact ⟨_, _, rfl, hr B _ ow G _ H _ Q (ok.set (s := .val φ) ⟨_, rfl, p⟩) t q⟩
/-- a, b = e, e a tuple of anything -/
theorem sv_asgP {tgs : List Expr} {kt : Nat} {tp : Pos} {g : TGs} {f : List Slot → List Slot} {φs : List Pr} {n : Nat} (he : EV X B ρ ow e (tuP φs)) (hg : PG X (.Tuple tgs kt tp) (gTup X.K n g)) (ht : TgsP g φs f) (hn : φs.length = n) (hr : SV X B (f ρ) ow rest D)
    (hs : swapsWithSole [.Tuple tgs kt tp] e pos.line X.env = pure false := by rfl) (hw : swappedStores [.Tuple tgs kt tp] e X.env = pure none := by rfl)
    (h1 : (assignEach [.Tuple tgs kt tp] X.env).map (·.2) = [assign (.Tuple tgs kt tp) X.env] := by rfl) : SV X B ρ ow (.Assign [.Tuple tgs kt tp] e pos :: rest) D :=
  sv_step (ps_asg he hg hs hw h1) fun E σ H ⟨⟨G, ok⟩, o⟩ => ⟨G, ok, fun v G1 H1 g1 ⟨t, vs, ev, e2, h⟩ => by
    subst ev
    exact ⟨t, vs, rfl, .of (g1.s _ _ e2), by rw [← h.length]; exact hn, ht B ρ ow G1 σ H1 vs _ (ok.grow g1) h fun σ' ok' => sv_go hr ok' o⟩⟩
/-- x, y = a, b: two local names, anything -/
theorem sv_parP {n m : Nat} {x y : Str} {px py pt : Pos} {kt k2 : Nat} {pt2 : Pos} (hc : X.calm = true) (hN : X.N.Nodup) (ha : EA X B ρ ow [a, b] [φ, ψ]) (hr : SV X B ((ρ.set n (.val φ)).set m (.val ψ)) ow rest D)
    (hi : X.N[n]? = some x := by rfl) (hj : X.N[m]? = some y := by rfl) (hij : n ≠ m := by decide)
    (hx : X.env.scope.names.lookup x = some .local := by rfl) (hy : X.env.scope.names.lookup y = some .local := by rfl)
    (hw : swappedStores [.Tuple [.Name x px, .Name y py] kt pt] (.Tuple [a, b] k2 pt2) X.env = pure (some [x, y]) := by rfl)
    (hs : swapsWithSole [.Tuple [.Name x px, .Name y py] kt pt] (.Tuple [a, b] k2 pt2) pos.line X.env = pure false := by rfl) : SV X B ρ ow (.Assign [.Tuple [.Name x px, .Name y py] kt pt] (.Tuple [a, b] k2 pt2) pos :: rest) D :=
  sv_step (ps_par hc hN hi hj hij hx hy ha hw hs) fun E σ H ⟨⟨G, ok⟩, o⟩ => ⟨G, ok, fun vs G' H' g t => by
    cases t with
    | cons q1 t =>
      cases t with
      | cons q2 t =>
        cases t
        exact ⟨_, _, rfl, sv_go hr (((ok.grow g).set (s := .val φ) ⟨_, rfl, q1⟩).set (s := .val ψ) ⟨_, rfl, q2⟩) o⟩⟩
end
end L2.My
end
section
set_option Elab.async false
set_option linter.all false
set_option maxRecDepth 100000
set_option autoImplicit false
/-! Lay21: values known up to a choice; drawing. -/
namespace L2.My
open PySem PySem.Spec PyProof.Rows
def exP {α : Type} (p : α → Prop) (φ : α → Pr) : Pr := ⟨fun H v => ∃ x, p x ∧ (φ x).p H v, fun s ⟨x, hx, h⟩ => ⟨x, hx, (φ x).mono s h⟩⟩
section
variable {X : Cx} {B : Hp × Hp} {ρ : List Slot} {ow ow' : Ow} {a b c e : Expr} {φ ψ : Pr} {pos : Pos} {i j : Int} {rest : List Stmt} {D : Out}
theorem Ok.reslot {G H : Hp} {σ : St} {n : Nat} {v : V} (h : Ok B ρ ow G σ H) (e : σ[n]? = some (some v)) (q : φ.p G v) : Ok B (ρ.set n (.val φ)) ow G σ H := by
  refine ⟨h.gr, fun m s hs => ?_, by rw [List.length_set]; exact h.len, h.own, h.ap⟩
  by_cases hm : m = n
  · subst hm
    by_cases hl : m < ρ.length
    · rw [List.getElem?_set_self hl] at hs
      cases hs
      exact ⟨v, e, q⟩
    · rw [List.getElem?_eq_none_iff.mpr (by rw [List.length_set]; omega)] at hs
      cases hs
  · rw [List.getElem?_set_ne (Ne.symm hm)] at hs
    exact h.sl m s hs
theorem sv_open {α : Type} {p : α → Prop} {ψ : α → Pr} {sts : List Stmt} (n : Nat) (hi : ρ[n]? = some (.val (exP p ψ))) (h : ∀ x, p x → SV X B (ρ.set n (.val (ψ x))) ow sts D) : SV X B ρ ow sts D := ⟨fun pins s σ H E I ⟨⟨G, ok⟩, o⟩ => by
  obtain ⟨v, e, x, hx, hp⟩ := ok.get hi
  exact (h x hx).run pins s σ H E I ⟨⟨G, ok.reslot e hp⟩, o⟩⟩
/-- a slot told otherwise -/
theorem sv_reslot {sts : List Stmt} (n : Nat) (hi : ρ[n]? = some (.val φ)) (w : ∀ H v, φ.p H v → ψ.p H v) (h : SV X B (ρ.set n (.val ψ)) ow sts D) : SV X B ρ ow sts D := sv_weak h fun G σ H ok => by
  obtain ⟨v, e, hp⟩ := ok.get hi
  exact ⟨G, ok.reslot e (w G v hp)⟩
theorem ex_op1 {op : Operator} {r : R2} {χ : Pr} (ho : OpR X (binaryOp op) r) (ha : EV X B ρ ow a φ) (hb : EX X B ρ ow b ψ ow') (k : ∀ x y G H Q, Same G H → φ.p G x → ψ.p G y → (∀ z G' H', Gr (G, H) G' H' → χ.p G' z → Q z H') → r x y H Q) : EX X B ρ ow (.BinOp a op b pos) χ ow' :=
  L2.PE.weak (pe_op ho ha hb) fun σ H Q ⟨G, ok, q⟩ => ⟨G, ok, fun v1 G1 H1 g1 p1 => ⟨G1, ok.grow g1, fun v2 G2 H2 ok2 s2 p2 => k _ _ G2 H2 _ ok2.gr.s (φ.mono s2 p1) p2 fun z G3 H3 g3 p3 => q z G3 H3 (ok2.grow g3) ((g1.g.trans s2).trans g3.g) p3⟩⟩
/-- i + (a drawn number) -/
theorem ex_add {p : Int → Prop} (ha : EV X B ρ ow a (da (.int i))) (hb : EX X B ρ ow b (exP p fun n => da (.int n)) ow') : EX X B ρ ow (.BinOp a .Add b pos) (exP p fun n => da (.int (i + n))) ow' :=
  ex_op1 op_add ha hb fun x y G H Q s p1 ⟨n, hn, p2⟩ k => by
    cases (show Da G x (.int i) from p1)
    cases (show Da G y (.int n) from p2)
    exact ⟨i, n, rfl, rfl, k _ G H (.refl s) ⟨n, hn, .int _⟩⟩
/-- row[a drawn place] -/
theorem ex_ix {ds : List PyData} (ha : EV X B ρ ow a (da (.list ds))) (hb : EX X B ρ ow b (exP (fun n : Int => 0 ≤ n ∧ n < (ds.length : Nat)) fun n => da (.int n)) ow') (hs : PlainIx b := by intro _ _; rfl) : EX X B ρ ow (.Subscript a b pos) (exP (fun d => d ∈ ds) da) ow' :=
  L2.PE.weak (pe_ix ix_list ha hb hs) fun σ H Q ⟨G, ok, k⟩ => ⟨G, ok, fun v1 G1 H1 g1 p1 => ⟨G1, ok.grow g1, fun v2 G2 H2 ok2 s2 ⟨n, ⟨h0, h1⟩, p2⟩ => by
    cases (show Da G2 v2 (.int n) from p2)
    obtain ⟨q, vs, rfl, e, t⟩ : ∃ q vs, v1 = .ref q ∧ G2 q = some (.lst vs) ∧ Das G2 vs ds := by
      cases Da.mono s2 (show Da G1 v1 (.list ds) from p1) with
      | lst e t => exact ⟨_, _, rfl, e, t⟩
    have hn : n.toNat < ds.length := by omega
    have hx := atI_nat (xs := ds) (j := n.toNat) (List.getElem?_eq_getElem hn)
    have en : ((n.toNat : Nat) : Int) = n := by omega
    rw [en] at hx
    obtain ⟨v, h1, h2⟩ := atI_of t hx
    exact ⟨q, vs, n, v, rfl, rfl, .of (ok2.gr.s _ _ e), h1, k v G2 H2 ok2 (g1.g.trans s2) ⟨_, List.getElem_mem hn, h2⟩⟩⟩⟩
/-- a test of a drawn number: either way -/
theorem sv_ifX {p : Int → Prop} {s1 s2 : List Stmt} {p1 p2 : Pos} {k : Nat} (he : EX X B ρ ow e (exP p fun n => da (.int n)) ow') (ha : SV X B ρ ow' s1 { D with nx := fun ρ' ow' => SV X B ρ' ow' rest D }) (hb : SV X B ρ ow' s2 { D with nx := fun ρ' ow' => SV X B ρ' ow' rest D }) :
    SV X B ρ ow (.If (.Compare e [.Eq] [.Constant (.int i) k p2] p1) s1 s2 pos :: rest) D := by
  have oo : ∀ E, OutOk B D E → OutOk B { D with nx := fun ρ' ow' => SV X B ρ' ow' rest D } { E with nx := wSs X rest E } := fun E o => ⟨fun ρ' ow' G σ H q ok => sv_go q ok o, o.rt, o.bk, o.ct⟩
  refine sv_step (ps_if (pt_cmpR op_eq he pe_int (nomark _)) ha hb) fun E σ H ⟨⟨G, ok⟩, o⟩ => ⟨G, ok, fun v G1 H1 ok1 g1 ⟨n, hn, p1⟩ => ?_⟩
  cases (show Da G1 v (.int n) from p1)
  simp only [tC, rEq]
  refine ⟨rfl, decide (V.int n = V.int i), rfl, ?_⟩
  by_cases h : decide (V.int n = V.int i) = true
  · rw [h]
    exact iteT ⟨⟨G1, ok1⟩, oo E o⟩
  · rw [Bool.eq_false_iff.mpr h]
    exact iteF ⟨⟨G1, ok1⟩, oo E o⟩
end
end L2.My
end
section
set_option Elab.async false
set_option linter.all false
set_option maxRecDepth 100000
set_option autoImplicit false
/-! Lay22: the script, the pool, owned answers. -/
namespace L2.My
open PySem PySem.Spec PyProof.Rows
/-- a list of ints, wherever it stands -/
def scP (K : PySem.W.Frag) (ns : List Int) : Pr := ⟨fun H v => ∃ a, v = .ref a ∧ SqL K H a (ns.map .int), fun s ⟨a, e, h⟩ => ⟨a, e, h.ext s⟩⟩
def poolO : PrO := ⟨fun _ o => ∃ a b : Int, o = .lst [.int a, .int b] ∧ 0 ≤ a ∧ 0 ≤ b ∧ b < 2147483647, fun _ h => h⟩
/-- ow' within ow, weakened -/
def OwSub (ow' ow : Ow) : Prop := ∀ q ∈ ow', ∃ r ∈ ow, r.1 = q.1 ∧ ∀ G o, r.2.p G o → q.2.p G o
section
variable {P : Program} {w : World} {K : PySem.W.Frag} {mg : Str → Option Value} {base : Heap}
def BodyW (P : Program) (w : World) (K : PySem.W.Frag) (mg : Str → Option Value) (base : Heap) (N : List Str) (qual : Str) (st : Stmt) (k : Nat) (as : List Slot) (ow ow' : Ow) (φ : Pr) : Prop :=
  ∀ (f : Addr) (cdv : Value) (A : Around) (outer : List Env) (s : Shared) (H0 H : Hp) (E : XK) (B : Hp × Hp), Room k (cxF P w K mg base N qual st f cdv A outer s H E).A →
    SV (cxF P w K mg base N qual st f cdv A outer s H E) B (startL N as) ow (defBody st) { nx := fun _ _ => False, rt := φ, ro := fun _ ow2 => OwSub ow' ow2 }
theorem fn_bodyW {x qual : Str} {st : Stmt} {f : Addr} {fd : FuncData} {N ps : List Str} {k : Nat} {α : Type} {pre : α → Prop} {as : α → List Slot} {ow ow' : α → Ow} {φ : α → Pr} {dvs : List V} {kws : List (Str × V)} (F : FunD K x qual (defArgs st) (defBody st) (defScope st) dvs kws f fd) (S : FnScope N ps (defScope st))
    (hl : ∀ x, (as x).length = ps.length) (hN : ps.length ≤ N.length) (hb : ∀ x, pre x → BodyW P w K mg base N qual st k (as x) (ow x) (ow' x) (φ x)) : FnOk P w K mg base CX0 (k + 1) f fd ps (spO pre as ow ow' φ) := by
  refine F.ok S (fun vs H Q E ⟨x, G, _, _, t, _⟩ => by
    have := t.length
    rw [List.length_map, hl x] at this
    exact this.symm) fun cdv A outer s H vs Q E hr ⟨x, G, hp, sm, t, ho, nd, q⟩ => ?_
  refine ⟨_, L2.PSs.nox (hb x hp f cdv A outer s H H E _ hr), ⟨G, ok_startL sm t (by rw [hl x]; exact hN) ho nd⟩, ⟨fun ρ ow2 G' σ H' z ok => z.elim, fun v ow2 G' H' z oo g p => q v G' H' g (fun r hr => ?_) p, fun ρ ow G' σ H' z ok => z.elim, fun ρ ow G' σ H' z ok => z.elim⟩⟩
  obtain ⟨r2, h1, h2, h3⟩ := z r hr
  obtain ⟨_, out, o, e, hp2⟩ := oo r2 h1
  exact ⟨h2 ▸ out, o, h2 ▸ e, h3 G' o hp2⟩
theorem def_mkW {nm : Str} {st : Stmt} {N ps : List Str} {k : Nat} {α : Type} {pre : α → Prop} {as : α → List Slot} {ow ow' : α → Ow} {φ : α → Pr} (T : FunAt K mg nm st) (S : FnScope N ps (defScope st))
    (hbind : ∀ (kV doc pm : Value) (an : Option Addr) (cdv ct : Value) (us : List Value), us.length = ps.length → bindArgs (PySem.W.fnOf nm nm (defArgs st) (defBody st) (defScope st) .none kV doc pm an cdv ct) ⟨us, []⟩ = pure (ps.zip us))
    (hl : ∀ x, (as x).length = ps.length) (hN : ps.length ≤ N.length) (hb : ∀ x, pre x → BodyW P w K mg base N nm st k (as x) (ow x) (ow' x) (φ x)) : Def P w K mg base nm (k + 1) ps (spO pre as ow ow' φ) := by
  obtain ⟨f, fd, F, hm⟩ := T.ex
  exact ⟨f, fd, fn_bodyW F S hl hN hb, hm, F.kp, F.bindsN hbind⟩
/-! an owned answer -/
def spR {α : Type} (pre : α → Prop) (as : α → List Pr) (ψ : α → PrO) : Sp := fun vs H Q _ => ∃ x G, pre x ∧ Same G H ∧ PrAll G (as x) vs ∧
  ∀ p G' H', Gr (G, H) G' H' → H p = none → OwAt G' H' (p, ψ x) → Q (.ref p) H'
def BodyR (P : Program) (w : World) (K : PySem.W.Frag) (mg : Str → Option Value) (base : Heap) (N : List Str) (qual : Str) (st : Stmt) (k : Nat) (as : List Pr) (ψ : PrO) : Prop :=
  ∀ (f : Addr) (cdv : Value) (A : Around) (outer : List Env) (s : Shared) (H0 H : Hp) (E : XK) (B : Hp × Hp), Room k (cxF P w K mg base N qual st f cdv A outer s H E).A →
    SV (cxF P w K mg base N qual st f cdv A outer s H E) B (startS N as) [] (defBody st) { nx := fun _ _ => False, rt := ⟨fun _ _ => True, fun _ h => h⟩, ro := fun v ow2 => ∃ p, v = .ref p ∧ OwSub [(p, ψ)] ow2 }
theorem fn_bodyR {x qual : Str} {st : Stmt} {f : Addr} {fd : FuncData} {N ps : List Str} {k : Nat} {α : Type} {pre : α → Prop} {as : α → List Pr} {ψ : α → PrO} {dvs : List V} {kws : List (Str × V)} (F : FunD K x qual (defArgs st) (defBody st) (defScope st) dvs kws f fd) (S : FnScope N ps (defScope st))
    (hl : ∀ x, (as x).length = ps.length) (hN : ps.length ≤ N.length) (hb : ∀ x, pre x → BodyR P w K mg base N qual st k (as x) (ψ x)) : FnOk P w K mg base CX0 (k + 1) f fd ps (spR pre as ψ) := by
  refine F.ok S (fun vs H Q E ⟨x, G, _, _, t, _⟩ => t.length.symm.trans (hl x)) fun cdv A outer s H vs Q E hr ⟨x, G, hp, sm, t, q⟩ => ?_
  refine ⟨_, L2.PSs.nox (hb x hp f cdv A outer s H H E (G, H) hr), ⟨G, ok_start sm t (by rw [hl x]; exact hN)⟩, ⟨fun ρ ow2 G' σ H' z ok => z.elim, fun v ow2 G' H' ⟨p, ev, z⟩ oo g _ => ?_, fun ρ ow G' σ H' z ok => z.elim, fun ρ ow G' σ H' z ok => z.elim⟩⟩
  subst ev
  obtain ⟨r2, h1, h2, h3⟩ := z _ (List.mem_singleton.mpr rfl)
  obtain ⟨nw, out, o, e, hp2⟩ := oo r2 h1
  have h2 : r2.1 = p := h2
  rw [h2] at nw out e
  exact q p G' H' g nw ⟨out, o, e, h3 G' o hp2⟩
theorem def_mkR {nm : Str} {st : Stmt} {N ps : List Str} {k : Nat} {α : Type} {pre : α → Prop} {as : α → List Pr} {ψ : α → PrO} (T : FunAt K mg nm st) (S : FnScope N ps (defScope st))
    (hbind : ∀ (kV doc pm : Value) (an : Option Addr) (cdv ct : Value) (us : List Value), us.length = ps.length → bindArgs (PySem.W.fnOf nm nm (defArgs st) (defBody st) (defScope st) .none kV doc pm an cdv ct) ⟨us, []⟩ = pure (ps.zip us))
    (hl : ∀ x, (as x).length = ps.length) (hN : ps.length ≤ N.length) (hb : ∀ x, pre x → BodyR P w K mg base N nm st k (as x) (ψ x)) : Def P w K mg base nm (k + 1) ps (spR pre as ψ) := by
  obtain ⟨f, fd, F, hm⟩ := T.ex
  exact ⟨f, fd, fn_bodyR F S hl hN hb, hm, F.kp, F.bindsN hbind⟩
end
section
variable {X : Cx} {B : Hp × Hp} {ρ : List Slot} {ow ow' : Ow} {a b e : Expr} {es : List Expr} {φ : Pr} {pos : Pos} {rest : List Stmt} {D : Out} {nm : Str}
/-- len(script) -/
theorem ev_lenSc {ns : List Int} {p : Pos} (hm : X.mg "len" = none) (ha : EV X B ρ ow e (scP X.K ns)) (hg : Gl X "len" := by rfl) (hs : starEach [e] X.env = (false, eval e X.env) :: starEach [] X.env := by rfl) : EV X B ρ ow (.Call (.Name "len" p) [e] [] pos) (da (.int ns.length)) :=
  ev_callB call_len_seq hm (ea_cons ha ea_nil hs) (fun vs G H Q s t k => by
    cases t with
    | cons q t =>
      cases t
      obtain ⟨c, rfl, h⟩ := q
      exact ⟨c, ns.map .int, rfl, .inl (h.ext s), k _ G H (.refl s) (by rw [List.length_map]; exact .int _)⟩) hg (by decide +kernel) (by decide) (by decide) hs (by rfl)
/-- script[k] -/
theorem ev_ixSc {ns : List Int} {k : Nat} {n : Int} (ha : EV X B ρ ow a (scP X.K ns)) (hb : EV X B ρ ow b (da (.int (k : Nat)))) (h : ns[k]? = some n) (hs : PlainIx b := by intro _ _; rfl) : EV X B ρ ow (.Subscript a b pos) (da (.int n)) :=
  L2.PE.weak (pe_ix ix_list ha hb hs) fun σ H Q ⟨G, ok, q⟩ => ⟨G, ok, fun v1 G1 H1 g1 p1 => ⟨G1, ok.grow g1, fun v2 G2 H2 g2 p2 => by
    cases (show Da G2 v2 (.int (k : Nat)) from p2)
    obtain ⟨c, rfl, hq⟩ := (scP X.K ns).mono g2.h ((scP X.K ns).mono g1.s p1)
    exact ⟨c, ns.map .int, (k : Int), .int n, rfl, rfl, hq, atI_nat (by rw [List.getElem?_map, h]; rfl), q _ G2 H2 (g1.trans g2) (.int n)⟩⟩⟩
/-- the pool told by its numbers -/
theorem sv_openP {p : Addr} {sts : List Stmt} (h : ∀ x y : Int, 0 ≤ x → 0 ≤ y → y < 2147483647 → SV X B ρ ((p, ol [.int x, .int y]) :: ow) sts D) : SV X B ρ ((p, poolO) :: ow) sts D := ⟨fun pins s σ H E I ⟨⟨G, ok⟩, o⟩ => by
  obtain ⟨nw, out, u, e, x, y, rfl, h0, h1, h2⟩ := ok.own _ List.mem_cons_self
  refine (h x y h0 h1 h2).run pins s σ H E I ⟨⟨G, ok.gr, ok.sl, ok.len, fun q hq => ?_, ok.ap⟩, o⟩
  rcases List.mem_cons.mp hq with z | hq
  · subst z
    exact ⟨nw, out, _, e, _, rfl, .cons (.int x) (.cons (.int y) .nil)⟩
  · exact ok.own q (List.mem_cons_of_mem _ hq)⟩
theorem pool_sub {p : Addr} {x y : Int} (h0 : 0 ≤ x) (h1 : 0 ≤ y) (h2 : y < 2147483647) : OwSub [(p, poolO)] ((p, ol [.int x, .int y]) :: ow) := fun q hq => by
  rw [List.mem_singleton] at hq
  subst hq
  refine ⟨_, List.mem_cons_self, rfl, fun G o ⟨vs, e, t⟩ => ?_⟩
  subst e
  cases t with
  | cons a t =>
    cases t with
    | cons b t =>
      cases t
      cases a
      cases b
      exact ⟨x, y, rfl, h0, h1, h2⟩
theorem pool_self {p : Addr} : OwSub [(p, poolO)] ((p, poolO) :: ow) := fun q hq => ⟨q, by rw [List.mem_singleton.mp hq]; exact List.mem_cons_self, rfl, fun _ _ h => h⟩
/-- x = f(..), the answer owned -/
theorem sv_setR {α : Type} {pre : α → Prop} {as : α → List Pr} {ψ : α → PrO} {k n : Nat} {ps : List Str} {y : Str} {py p0 p1 : Pos} (d : Def X.prog X.w X.K X.mg X.base nm k ps (spR pre as ψ)) (x : α) (hp : pre x) (hr : Room k X.A) (hN : X.N.Nodup) (ha : EA X B ρ ow (e :: es) (as x)) (hk : ∀ p, SV X B (ρ.set n (.ptr p)) ((p, ψ x) :: ow) rest D)
    (hy : X.N[n]? = some y := by rfl) (hx : Loc X.env.scope y := by first | exact Or.inl rfl | exact Or.inr rfl) (hg : Gl X nm := by rfl) (hdb : (nm == ("__debug__" : Str)) = false := by decide)
    (he : starEach (e :: es) X.env = (false, eval e X.env) :: starEach es X.env := by rfl) (hpl : (backTo p0 (starEach es X.env)).any (·.1) = false := by rfl)
    (hs : swapsWith (.Call (.Name nm p1) (e :: es) [] p0) (some (.Name y py)) pos.line X.env = pure false := by rfl) (hf : X.fn y = true ∨ X.env.scope.names.lookup y = some .local := by first | exact .inl rfl | exact .inr rfl) : SV X B ρ ow (.Assign [.Name y py] (.Call (.Name nm p1) (e :: es) [] p0) pos :: rest) D := by
  obtain ⟨f, fd, F, hm, kp, b⟩ := d.ex
  refine sv_step (ps_set hN hy hx (pe_call F hr hg hm kp b .nil pass0 ha hdb he hpl) hs hf) fun E σ H ⟨⟨G, ok⟩, oo⟩ => ⟨G, ok, fun vs G1 H1 g1 t => ?_⟩
  show spR pre as ψ (vs ++ []) H1 _ E0
  rw [List.append_nil]
  have ok1 := ok.grow g1
  refine ⟨x, G1, hp, g1.s, t, fun p G2 H2 g2 hn oa => ?_⟩
  have ok2 := ok1.grow g2
  refine sv_go (hk p) (Ok.set (s := .ptr p) ⟨ok2.gr, ok2.sl, ok2.len, fun q hq => ?_, ?_⟩ rfl) oo
  · rcases List.mem_cons.mp hq with z | hq
    · subst z; exact ⟨ok1.gr.h.free hn, oa.out, oa.at_⟩
    · exact ok2.own q hq
  · rw [List.map_cons, List.nodup_cons]
    refine ⟨fun z => ?_, ok2.ap⟩
    obtain ⟨q, hq, ez⟩ := List.mem_map.mp z
    obtain ⟨_, _, u, e3, _⟩ := ok1.own q hq
    rw [ez, hn] at e3
    cases e3
end
end L2.My
end
section
set_option Elab.async false
set_option linter.all false
set_option maxRecDepth 100000
set_option autoImplicit false
/-! Lay23: expressions that make owned cells. -/
namespace L2.My
open PySem PySem.Spec PyProof.Rows
def tEvO (B : Hp × Hp) (ρ : List Slot) (ow : Ow) (ψ : PrO) : TE := fun σ H Q => ∃ G, Ok B ρ ow G σ H ∧ ∀ p G' H', Ok B ρ ((p, ψ) :: ow) G' σ H' → Same G G' → Q (.ref p) H'
/-- e makes a new cell -/
def EvO (X : Cx) (B : Hp × Hp) (ρ : List Slot) (ow : Ow) (e : Expr) (ψ : PrO) : Prop := PE X e (tEvO B ρ ow ψ)
section
variable {X : Cx} {B : Hp × Hp} {ρ : List Slot} {ow : Ow} {a b c e : Expr} {es : List Expr} {pos : Pos} {rest : List Stmt} {D : Out} {ds : List PyData} {l : List (Key × PyData)} {φ : Pr} {ψ χ θ : PrO} {nm : Str}
theorem evo_list {p : Pos} (hm : X.mg "list" = none) (ha : EV X B ρ ow e (da (.list ds))) (hg : Gl X "list" := by rfl) (hs : starEach [e] X.env = (false, eval e X.env) :: starEach [] X.env := by rfl) : EvO X B ρ ow (.Call (.Name "list" p) [e] [] pos) (ol ds) :=
  L2.PE.weak (pe_callTy call_list_of hg hm (by decide +kernel) (pa_cons ha pa_nil hs) (by decide) (by decide) hs (by rfl)) fun σ H Q ⟨G, ok, q⟩ => ⟨G, ok, fun v1 G1 H1 g1 p1 => by
    obtain ⟨x, xs, rfl, e, t⟩ : ∃ a vs, v1 = .ref a ∧ G1 a = some (.lst vs) ∧ Das G1 vs ds := by
      cases (show Da G1 v1 (.list ds) from p1) with
      | lst e t => exact ⟨_, _, rfl, e, t⟩
    exact ⟨x, xs, rfl, .inl (.of (g1.s _ _ e)), fun z hz => q z G1 _ ((ok.grow g1).mk_own (ψ := ol ds) hz ⟨xs, rfl, t⟩) g1.g⟩⟩
theorem evo_dict {p : Pos} (hm : X.mg "dict" = none) (ha : EV X B ρ ow e (da (dk l))) (hg : Gl X "dict" := by rfl) (hs : starEach [e] X.env = (false, eval e X.env) :: starEach [] X.env := by rfl) : EvO X B ρ ow (.Call (.Name "dict" p) [e] [] pos) (od l) :=
  L2.PE.weak (pe_callTy call_dictD hg hm (by decide +kernel) (pa_cons ha pa_nil hs) (by decide) (by decide) hs (by rfl)) fun σ H Q ⟨G, ok, q⟩ => ⟨G, ok, fun v1 G1 H1 g1 p1 => by
    obtain ⟨x, kvs, rfl, e, t⟩ := Da.dict (show Da G1 v1 (dk l) from p1)
    exact ⟨x, kvs, rfl, .inl (g1.s _ _ e), fun z hz => q z G1 _ ((ok.grow g1).mk_own (ψ := od l) hz ⟨kvs, rfl, t⟩) g1.g⟩⟩
theorem evo_lst (h : ED X B ρ ow es ds) (hl : ds.length ≤ sizeLine) : EvO X B ρ ow (.List es pos) (ol ds) := L2.PE.weak (pe_lst h) fun σ H Q ⟨G, ok, q⟩ => ⟨G, ok, fun vs G1 H1 g1 t => ⟨by rw [t.length]; exact hl, fun p hp => q p G1 _ ((ok.grow g1).mk_own (ψ := ol ds) hp ⟨vs, rfl, t⟩) g1.g⟩⟩
theorem evo_dnew : EvO X B ρ ow (.Dict [] [] pos) (od []) := L2.PE.weak pe_dnewK fun σ H Q ⟨G, ok, q⟩ p hp => q p G _ (ok.mk_own (ψ := od []) hp ⟨[], rfl, .nil⟩) (Same.refl _)
/-- x = e, a new cell -/
theorem sv_setO {n : Nat} {py : Pos} (hN : X.N.Nodup) (he : EvO X B ρ ow e ψ) (hr : ∀ p, SV X B (ρ.set n (.ptr p)) ((p, ψ) :: ow) rest D) (hi : X.N[n]? = some nm := by rfl) (hx : Loc X.env.scope nm := by first | exact Or.inl rfl | exact Or.inr rfl)
    (hs : swapsWith e (some (.Name nm py)) pos.line X.env = pure false := by rfl) (hf : X.fn nm = true ∨ X.env.scope.names.lookup nm = some .local := by first | exact .inl rfl | exact .inr rfl) : SV X B ρ ow (.Assign [.Name nm py] e pos :: rest) D :=
  sv_step (ps_set hN hi hx he hs hf) fun E σ H ⟨⟨G, ok⟩, o⟩ => ⟨G, ok, fun p G' H' ok' s => sv_go (hr p) (ok'.set (s := .ptr p) rfl) o⟩
/-- x, y = a, b: a value, a new cell -/
theorem sv_parVO {n m : Nat} {x y : Str} {px py pt : Pos} {kt k2 : Nat} {pt2 : Pos} (hc : X.calm = true) (hN : X.N.Nodup) (ha : EV X B ρ ow a φ) (hb : EvO X B ρ ow b ψ) (hr : ∀ p, SV X B ((ρ.set n (.val φ)).set m (.ptr p)) ((p, ψ) :: ow) rest D)
    (hi : X.N[n]? = some x := by rfl) (hj : X.N[m]? = some y := by rfl) (hij : n ≠ m := by decide)
    (hx : X.env.scope.names.lookup x = some .local := by rfl) (hy : X.env.scope.names.lookup y = some .local := by rfl)
    (he1 : starEach [a, b] X.env = (false, eval a X.env) :: starEach [b] X.env := by rfl) (he2 : starEach [b] X.env = (false, eval b X.env) :: starEach [] X.env := by rfl)
    (hw : swappedStores [.Tuple [.Name x px, .Name y py] kt pt] (.Tuple [a, b] k2 pt2) X.env = pure (some [x, y]) := by rfl)
    (hs : swapsWithSole [.Tuple [.Name x px, .Name y py] kt pt] (.Tuple [a, b] k2 pt2) pos.line X.env = pure false := by rfl) : SV X B ρ ow (.Assign [.Tuple [.Name x px, .Name y py] kt pt] (.Tuple [a, b] k2 pt2) pos :: rest) D :=
  sv_step (ps_par hc hN hi hj hij hx hy (pa_cons ha (pa_cons hb pa_nil he2) he1) hw hs) fun E σ H ⟨⟨G, ok⟩, o⟩ => ⟨G, ok, fun v G1 H1 g1 p1 => ⟨G1, ok.grow g1, fun p G2 H2 ok2 s2 => ⟨v, .ref p, rfl, sv_go (hr p) ((ok2.set (s := .val φ) ⟨v, rfl, φ.mono s2 p1⟩).set (s := .ptr p) rfl) o⟩⟩⟩
/-- x, y = a, b: two new cells -/
theorem sv_parOO {n m : Nat} {x y : Str} {px py pt : Pos} {kt k2 : Nat} {pt2 : Pos} (hc : X.calm = true) (hN : X.N.Nodup) (ha : EvO X B ρ ow a χ) (hb : ∀ p, EvO X B ρ ((p, χ) :: ow) b ψ) (hr : ∀ p q, SV X B ((ρ.set n (.ptr p)).set m (.ptr q)) ((q, ψ) :: (p, χ) :: ow) rest D)
    (hi : X.N[n]? = some x := by rfl) (hj : X.N[m]? = some y := by rfl) (hij : n ≠ m := by decide)
    (hx : X.env.scope.names.lookup x = some .local := by rfl) (hy : X.env.scope.names.lookup y = some .local := by rfl)
    (he1 : starEach [a, b] X.env = (false, eval a X.env) :: starEach [b] X.env := by rfl) (he2 : starEach [b] X.env = (false, eval b X.env) :: starEach [] X.env := by rfl)
    (hw : swappedStores [.Tuple [.Name x px, .Name y py] kt pt] (.Tuple [a, b] k2 pt2) X.env = pure (some [x, y]) := by rfl)
    (hs : swapsWithSole [.Tuple [.Name x px, .Name y py] kt pt] (.Tuple [a, b] k2 pt2) pos.line X.env = pure false := by rfl) : SV X B ρ ow (.Assign [.Tuple [.Name x px, .Name y py] kt pt] (.Tuple [a, b] k2 pt2) pos :: rest) D :=
  sv_step (ps_par hc hN hi hj hij hx hy (pa_cons ha (pa_cons pe_w pa_nil he2) he1) hw hs) fun E σ H ⟨⟨G, ok⟩, o⟩ => ⟨G, ok, fun p G1 H1 ok1 s1 => L2.PE.to (hb p) ⟨G1, ok1, fun q G2 H2 ok2 s2 => ⟨.ref p, .ref q, rfl, sv_go (hr p q) ((ok2.set (s := .ptr p) rfl).set (s := .ptr q) rfl) o⟩⟩⟩
/-- x, y, z = a, b, c: three new cells -/
theorem sv_par3O {n1 n2 n3 : Nat} {x y z : Str} {px py pz pt : Pos} {kt k2 : Nat} {pt2 : Pos} (hc : X.calm = true) (hN : X.N.Nodup) (ha : EvO X B ρ ow a χ) (hb : ∀ p, EvO X B ρ ((p, χ) :: ow) b ψ) (h3 : ∀ p q, EvO X B ρ ((q, ψ) :: (p, χ) :: ow) c θ) (hr : ∀ p q r, SV X B (((ρ.set n1 (.ptr p)).set n2 (.ptr q)).set n3 (.ptr r)) ((r, θ) :: (q, ψ) :: (p, χ) :: ow) rest D)
    (i1 : X.N[n1]? = some x := by rfl) (i2 : X.N[n2]? = some y := by rfl) (i3 : X.N[n3]? = some z := by rfl) (d1 : n1 ≠ n2 := by decide) (d2 : n1 ≠ n3 := by decide) (d3 : n2 ≠ n3 := by decide)
    (hx : X.env.scope.names.lookup x = some .local := by rfl) (hy : X.env.scope.names.lookup y = some .local := by rfl) (hz : X.env.scope.names.lookup z = some .local := by rfl)
    (he1 : starEach [a, b, c] X.env = (false, eval a X.env) :: starEach [b, c] X.env := by rfl) (he2 : starEach [b, c] X.env = (false, eval b X.env) :: starEach [c] X.env := by rfl) (he3 : starEach [c] X.env = (false, eval c X.env) :: starEach [] X.env := by rfl)
    (hw : swappedStores [.Tuple [.Name x px, .Name y py, .Name z pz] kt pt] (.Tuple [a, b, c] k2 pt2) X.env = pure (some [x, y, z]) := by rfl)
    (hs : swapsWithSole [.Tuple [.Name x px, .Name y py, .Name z pz] kt pt] (.Tuple [a, b, c] k2 pt2) pos.line X.env = pure false := by rfl) : SV X B ρ ow (.Assign [.Tuple [.Name x px, .Name y py, .Name z pz] kt pt] (.Tuple [a, b, c] k2 pt2) pos :: rest) D :=
  sv_step (ps_par3 hc hN i1 i2 i3 d1 d2 d3 hx hy hz (pa_cons ha (pa_cons pe_w (pa_cons pe_w pa_nil he3) he2) he1) hw hs) fun E σ H ⟨⟨G, ok⟩, o⟩ => ⟨G, ok, fun p G1 H1 ok1 s1 => L2.PE.to (hb p) ⟨G1, ok1, fun q G2 H2 ok2 s2 => L2.PE.to (h3 p q) ⟨G2, ok2, fun r G3 H3 ok3 s3 =>
    ⟨.ref p, .ref q, .ref r, rfl, sv_go (hr p q r) (((ok3.set (s := .ptr p) rfl).set (s := .ptr q) rfl).set (s := .ptr r) rfl) o⟩⟩⟩⟩
/-- a[b] = e, a an owned dict (text or int keys) -/
theorem sv_setKP {p : Addr} {ds : List (Key × PyData)} {d : PyData} {k : Key} {sp : Pos} (hu : X.A.units + 1 < cLine) (he : EV X B ρ ((p, od ds) :: ow) e (da d)) (ha : EV X B ρ ((p, od ds) :: ow) a (pp p)) (hx : EV X B ρ ((p, od ds) :: ow) b (da (kd k))) (hl : ds.length < sizeLine) (hr : SV X B ρ ((p, od (ptD ds k d)) :: ow) rest D)
    (hs : swapsWith e (some (.Subscript a b sp)) pos.line X.env = pure false := by rfl) : SV X B ρ ((p, od ds) :: ow) (.Assign [.Subscript a b sp] e pos :: rest) D :=
  sv_step (ps_dput hu ha hx he hs) fun E σ H ⟨⟨G, ok⟩, o⟩ => ⟨G, ok, fun v G1 H1 g1 q => ⟨G1, ok.grow g1, fun v0 G2 H2 g2 p2 => ⟨G2, (ok.grow g1).grow g2, fun u G3 H3 g3 q3 => by
    cases (show v0 = .ref p from p2)
    have ek : u = kV k := by
      have p2' : Da G3 u (kd k) := q3
      cases k <;> (cases p2'; rfl)
    have ok3 := ((ok.grow g1).grow g2).grow g3
    obtain ⟨_, _, ob, e1, kvs, rfl, t⟩ := ok3.own _ List.mem_cons_self
    have e1' : H3 p = some (.dK kvs) := e1
    refine ⟨p, _, rfl, by rw [ek]; exact DPut.k e1' (by rw [t.length]; exact hl), ?_⟩
    exact sv_go hr (ok3.write ⟨_, rfl, Dae.put k (Da.mono (g2.g.trans g3.g) q) t⟩) o⟩⟩⟩
/-- sorted(e), ints -/
theorem ev_sortedI {ns ys : List Int} {p : Pos} (hm : X.mg "sorted" = none) (ha : EV X B ρ ow e (da (.list (ns.map .int)))) (hu : ∀ zs : List Int, zs.Perm ns → zs.Pairwise (· ≤ ·) → zs = ys) (hg : Gl X "sorted" := by rfl) (hs : starEach [e] X.env = (false, eval e X.env) :: starEach [] X.env := by rfl) :
    EV X B ρ ow (.Call (.Name "sorted" p) [e] [] pos) (da (.list (ys.map .int))) :=
  ev_callB cr_sortedI hm (ea_cons ha ea_nil hs) (fun vs G H Q s t k => by
    cases t with
    | cons p t =>
      cases t
      cases (show Da G _ (.list (ns.map .int)) from p) with
      | lst e t =>
        rw [Das.ints t] at e
        refine ⟨_, ns, rfl, .of (s _ _ e), fun zs q h1 h2 h3 => ?_⟩
        rw [hu zs h1 h2]
        exact k _ _ _ (.alloc s h3) (.lst upd_same (Das.of_ints ys))) hg (by decide +kernel) (by decide) (by decide) hs (by rfl)
/-- slices of owned lists -/
theorem ev_sliceP {ds : List PyData} {q : Addr} {lo hi : Option Expr} {l u : Option Int} {p2 : Pos} (ha : EV X B ρ ow a (pp q)) (ho : (q, ol ds) ∈ ow) (hl : EO X B ρ ow lo l) (hu : EO X B ρ ow hi u) : EV X B ρ ow (.Subscript a (.Slice lo hi none p2) pos) (da (.list (cutL ds l u))) :=
  L2.PE.weak (pe_slice sl_list ha hl hu) fun σ H Q ⟨G, ok, k⟩ => ⟨G, ok, fun v G1 H1 g1 p1 => ⟨G1, ok.grow g1, fun G2 H2 g2 => ⟨G2, (ok.grow g1).grow g2, fun G3 H3 g3 => by
    cases (show v = .ref q from p1)
    obtain ⟨_, _, ob, e1, vs, rfl, t⟩ := (((ok.grow g1).grow g2).grow g3).own _ ho
    have e1' : H3 q = some (.lst vs) := e1
    refine ⟨q, vs, rfl, .of e1', fun z hz => ?_⟩
    have al := Gr.alloc (o := .lst (cutV vs l u)) g3.s hz
    exact k _ _ _ (((g1.trans g2).trans g3).trans al) (.lst upd_same ((t.cut l u).mono al.g))⟩⟩⟩
end
end L2.My
end
section
set_option Elab.async false
set_option linter.all false
set_option maxRecDepth 100000
set_option autoImplicit false
/-! Lay24: dict displays, get. -/
namespace L2.My
open PySem PySem.Spec PyProof.Rows
section
variable {X : Cx} {B : Hp × Hp} {ρ : List Slot} {ow : Ow} {a b c e : Expr} {pos : Pos} {rest : List Stmt} {D : Out} {φ : Pr} {d : PyData}
theorem ev_more {q : Addr × PrO} (h : EV X B ρ ow e φ) : EV X B ρ (q :: ow) e φ := L2.PE.weak h fun σ H Q ⟨G, ok, k⟩ => ⟨G, ok.drop, k⟩
/-- the entries of a display -/
inductive DL (X : Cx) (B : Hp × Hp) (ρ : List Slot) (ow : Ow) : List (Option Expr) → List Expr → List (Key × PyData) → Prop where
  | nil : DL X B ρ ow [] [] []
  | cons {k v : Expr} {key : Key} {d : PyData} {ks : List (Option Expr)} {vs : List Expr} {l : List (Key × PyData)} : EV X B ρ ow k (da (kd key)) → EV X B ρ ow v (da d) → DL X B ρ ow ks vs l → DL X B ρ ow (some k :: ks) (v :: vs) ((key, d) :: l)
theorem DL.len {ks : List (Option Expr)} {vs : List Expr} {l : List (Key × PyData)} (h : DL X B ρ ow ks vs l) : ks.length = l.length ∧ vs.length = l.length ∧ ks.all (·.isSome) = true := by
  induction h with
  | nil => exact ⟨rfl, rfl, rfl⟩
  | cons h1 h2 t ih => exact ⟨congrArg Nat.succ ih.1, congrArg Nat.succ ih.2.1, by rw [List.all_cons, ih.2.2]; rfl⟩
theorem DL.pps {ks : List (Option Expr)} {vs : List Expr} {l : List (Key × PyData)} (h : DL X B ρ ow ks vs l) : ∃ trs, PPs X pos ks vs trs ∧ ∀ (G : Hp) (σ : St) (H : Hp) (Q : List (V × V) → Hp → Prop), Ok B ρ ow G σ H → (∀ kvs G' H', Gr (G, H) G' H' → Dae G' kvs l → Q (kvs.map fun kv => (kV kv.1, kv.2)) H') → tPairs trs σ H Q := by
  induction h with
  | nil => exact ⟨[], pps_nil, fun G σ H Q ok k => k [] G H (.refl ok.gr.s) .nil⟩
  | cons h1 h2 t ih =>
    rename_i k v key d ks vs l
    obtain ⟨trs, hp, hr⟩ := ih
    refine ⟨_, pps_cons h1 h2 hp, fun G σ H Q ok kk => ⟨G, ok, fun v1 G1 H1 g1 p1 => ⟨G1, ok.grow g1, fun v2 G2 H2 g2 p2 => hr G2 σ H2 _ ((ok.grow g1).grow g2) fun kvs G3 H3 g3 t3 => ?_⟩⟩⟩
    have ek : v1 = kV key := by
      have p2' : Da G1 v1 (kd key) := p1
      cases key <;> (cases p2'; rfl)
    subst ek
    exact kk ((key, v2) :: kvs) G3 H3 ((g1.trans g2).trans g3) (.cons (Da.mono g3.g p2) t3)
theorem mergeK_nodup : ∀ (kvs acc : List (Key × V)), (acc.map (·.1) ++ kvs.map (·.1)).Nodup → mergeK acc kvs = acc ++ kvs
  | [], acc, _ => by show acc = acc ++ []; rw [List.append_nil]
  | p :: kvs, acc, h => by
    have hn : p.1 ∉ acc.map (·.1) := fun z => (List.nodup_append.mp h).2.2 _ z _ (by simp) rfl
    have e : putK acc p.1 p.2 = acc ++ [(p.1, p.2)] := by
      unfold putK
      rw [if_neg]
      rw [any_keys]
      intro z
      obtain ⟨q, hq, e⟩ := List.any_eq_true.mp z
      exact hn (of_decide_eq_true e ▸ hq)
    show mergeK (putK acc p.1 p.2) kvs = _
    rw [e, mergeK_nodup kvs (acc ++ [(p.1, p.2)]) (by simpa [List.map_append, List.append_assoc] using h), List.append_assoc]
    rfl
theorem evo_disp {keys : List (Option Expr)} {values : List Expr} {l : List (Key × PyData)} (h : DL X B ρ ow keys values l) (h0 : l ≠ []) (h15 : l.length ≤ 15) (nd : (l.map (·.1)).Nodup) : EvO X B ρ ow (.Dict keys values pos) (od l) := by
  obtain ⟨l1, l2, l3⟩ := h.len
  obtain ⟨trs, hp, hr⟩ := h.pps (pos := pos)
  refine L2.PE.weak (pe_disp hp l3 (l1.trans l2.symm) (fun e => h0 (List.eq_nil_of_length_eq_zero (by rw [← l1, e]; rfl))) (by omega)) fun σ H Q ⟨G, ok, k⟩ p hn => ?_
  have ok1 := ok.mk_own (ψ := od []) hn ⟨[], rfl, .nil⟩
  refine hr G σ _ _ ok1.drop fun kvs G' H' g t => ?_
  have ok2 := ok1.grow g
  have e : mergeK [] kvs = kvs := mergeK_nodup kvs [] (by rw [t.keys]; simpa using nd)
  refine ⟨g.h _ _ upd_same, kvs, rfl, by rw [t.length]; omega, ?_⟩
  rw [e]
  exact k p G' _ (ok2.write ⟨kvs, rfl, t⟩) g.g
/-- a new cell that is let go at once -/
theorem ev_ofOD {l : List (Key × PyData)} (h : EvO X B ρ ow e (od l)) : EX X B ρ ow e (da (dk l)) ow := L2.PE.weak h fun σ H Q ⟨G, ok, k⟩ => ⟨G, ok, fun p G' H' ok' s => by
  obtain ⟨o, ⟨kvs, rfl, t⟩, ok2, sm⟩ := ok'.freeze
  exact k (.ref p) _ H' ok2 (s.trans sm) (.of_dict upd_same (t.mono sm))⟩
/-- d.get(k, x) -/
theorem ev_get2 {l : List (Key × PyData)} {key : Key} {apos cpos : Pos} (hu : X.A.units + 1 < cLine) (ho : EV X B ρ ow a (da (dk l))) (hk : EV X B ρ ow b (da (kd key))) (hx : EV X B ρ ow c (da d)) (m : M2 X a "get" apos b c cpos := by exact ⟨rfl, rfl, rfl, rfl⟩) : EV X B ρ ow (.Call (.Attribute a "get" apos) [b, c] [] cpos) (da ((lkD l key).getD d)) :=
  L2.PE.weak (pe_dget2 hu ho hk hx m) fun σ H Q ⟨G, ok, q⟩ => ⟨G, ok, fun v1 G1 H1 g1 p1 => by
    obtain ⟨p, kvs, rfl, e, t⟩ := Da.dict (show Da G1 v1 (dk l) from p1)
    refine ⟨p, rfl, .inl ⟨kvs, .inl (g1.s _ _ e)⟩, G1, ok.grow g1, fun v2 G2 H2 g2 p2 => ⟨G2, (ok.grow g1).grow g2, fun v3 G3 H3 g3 p3 => ?_⟩⟩
    have ek : v2 = kV key := by
      have p2' : Da G2 v2 (kd key) := p2
      cases key <;> (cases p2'; rfl)
    subst ek
    have e3 : H3 p = some (.dK kvs) := g3.s _ _ (g3.g _ _ (g2.g _ _ e))
    have t3 := t.mono (g2.g.trans g3.g)
    have gg := (g1.trans g2).trans g3
    rcases t3.val key with ⟨h1, h2⟩ | ⟨v, d', h1, h2, h3⟩
    · refine ⟨none, by rw [← h1]; exact DGet.k e3, ?_⟩
      rw [h2] at q
      exact q v3 G3 H3 gg p3
    · refine ⟨some v, by rw [← h1]; exact DGet.k e3, ?_⟩
      rw [h2] at q
      exact q v G3 H3 gg h3⟩
/-- an owned dict, one entry of which is an owned cell -/
def odM (l1 : List (Key × PyData)) (k : Key) (q : Addr) (l2 : List (Key × PyData)) : PrO := ⟨fun G o => ∃ kvs1 kvs2 : List (Key × V), o = HO.dK (kvs1 ++ (k, V.ref q) :: kvs2) ∧ Dae G kvs1 l1 ∧ Dae G kvs2 l2, fun s ⟨a, b, e, t1, t2⟩ => ⟨a, b, e, t1.mono s, t2.mono s⟩⟩
theorem valV_at {kvs1 kvs2 : List (Key × V)} {k : Key} {v : V} (h : k ∉ kvs1.map (·.1)) : valV (kvs1 ++ (k, v) :: kvs2) k = some v := by
  induction kvs1 with
  | nil => exact valV_pos rfl
  | cons p r ih =>
    rw [List.cons_append, valV_neg (fun e => h (by rw [List.map_cons, e]; exact List.mem_cons_self))]
    exact ih fun z => h (List.mem_cons_of_mem _ z)
/-- a[b], that entry -/
theorem ev_entryM {l1 l2 : List (Key × PyData)} {k : Key} {p q : Addr} (hu : X.A.units + 1 < cLine) (ha : EV X B ρ ow a (pp p)) (ho : (p, odM l1 k q l2) ∈ ow) (hb : EV X B ρ ow b (da (kd k))) (hn : k ∉ l1.map (·.1)) (hs : PlainIx b := by intro _ _; rfl) : EV X B ρ ow (.Subscript a b pos) (pp q) :=
  L2.PE.weak (pe_dget hu ha hb hs) fun σ H Q ⟨G, ok, q0⟩ => ⟨G, ok, fun v1 G1 H1 g1 p1 => ⟨G1, ok.grow g1, fun v2 G2 H2 g2 p2 => by
    cases (show v1 = .ref p from p1)
    have ek : v2 = kV k := by
      have p2' : Da G2 v2 (kd k) := p2
      cases k <;> (cases p2'; rfl)
    subst ek
    obtain ⟨_, _, u, e1, kvs1, kvs2, rfl, t1, t2⟩ := ((ok.grow g1).grow g2).own _ ho
    have e1' : H2 p = some (.dK (kvs1 ++ (k, .ref q) :: kvs2)) := e1
    refine ⟨p, .ref q, rfl, ?_, q0 (.ref q) G2 H2 (g1.trans g2) rfl⟩
    have := DGet.k (k := k) e1'
    rw [valV_at (by rw [t1.keys]; exact hn)] at this
    exact this⟩⟩
/-- a[b] = e, another entry -/
theorem sv_setM {l1 l2 : List (Key × PyData)} {k k' : Key} {p q : Addr} {sp : Pos} (hu : X.A.units + 1 < cLine) (he : EV X B ρ ((p, odM l1 k q l2) :: ow) e (da d)) (ha : EV X B ρ ((p, odM l1 k q l2) :: ow) a (pp p)) (hb : EV X B ρ ((p, odM l1 k q l2) :: ow) b (da (kd k'))) (hk : k' ≠ k) (h1 : k' ∉ l1.map (·.1)) (hl : l1.length + l2.length < 1000) (hr : SV X B ρ ((p, odM l1 k q (ptD l2 k' d)) :: ow) rest D)
    (hs : swapsWith e (some (.Subscript a b sp)) pos.line X.env = pure false := by rfl) : SV X B ρ ((p, odM l1 k q l2) :: ow) (.Assign [.Subscript a b sp] e pos :: rest) D :=
  sv_step (ps_dput hu ha hb he hs) fun E σ H ⟨⟨G, ok⟩, o⟩ => ⟨G, ok, fun v G1 H1 g1 p1 => ⟨G1, ok.grow g1, fun v0 G2 H2 g2 p2 => ⟨G2, (ok.grow g1).grow g2, fun u G3 H3 g3 p3 => by
    cases (show v0 = .ref p from p2)
    have ek : u = kV k' := by
      have p2' : Da G3 u (kd k') := p3
      cases k' <;> (cases p2'; rfl)
    have ok3 := ((ok.grow g1).grow g2).grow g3
    obtain ⟨_, _, ob, e1, kvs1, kvs2, rfl, t1, t2⟩ := ok3.own _ List.mem_cons_self
    have e1' : H3 p = some (.dK (kvs1 ++ (k, .ref q) :: kvs2)) := e1
    have hlen : (kvs1 ++ (k, .ref q) :: kvs2).length < sizeLine := by
      rw [List.length_append, List.length_cons, t1.length, t2.length]
      exact szl
    have hput : putK (kvs1 ++ (k, .ref q) :: kvs2) k' v = kvs1 ++ (k, .ref q) :: putK kvs2 k' v := by
      have hn1 : ∀ r ∈ kvs1, ¬ r.1 = k' := fun r hr e => h1 (by rw [← t1.keys]; exact List.mem_map.mpr ⟨r, hr, e⟩)
      unfold putK
      have e0 : ((kvs1 ++ (k, .ref q) :: kvs2).any fun kv => decide (kv.1 = k')) = kvs2.any fun kv => decide (kv.1 = k') := by
        rw [List.any_append, List.any_cons, decide_eq_false (fun z => hk z.symm), Bool.false_or]
        have : (kvs1.any fun kv => decide (kv.1 = k')) = false := List.any_eq_false.mpr fun r hr => by rw [decide_eq_false (hn1 r hr)]; simp
        rw [this, Bool.false_or]
      rw [e0]
      split
      · rw [List.map_append, List.map_cons, if_neg (fun z => hk z.symm)]
        congr 1
        exact (List.map_congr_left fun r hr => if_neg (hn1 r hr)).trans (List.map_id' _)
      · rw [List.append_assoc]
        rfl
    refine ⟨p, _, rfl, by rw [ek]; exact DPut.k e1' hlen, ?_⟩
    rw [hput]
    exact sv_go hr (ok3.write ⟨_, _, rfl, t1, Dae.put k' (Da.mono (g2.g.trans g3.g) p1) t2⟩) o⟩⟩⟩
/-- both let go -/
theorem sv_freezeM {l1 l2 : List (Key × PyData)} {k : Key} {p q : Addr} {lq : List (Key × PyData)} {i : Nat} {sts : List Stmt} (hi : ρ[i]? = some (.ptr p)) (h : SV X B (ρ.set i (.val (da (dk (l1 ++ (k, dk lq) :: l2))))) ow sts D) : SV X B ρ ((q, od lq) :: (p, odM l1 k q l2) :: ow) sts D := sv_weak h fun G σ H ok => by
  obtain ⟨o, ⟨kvs, rfl, t⟩, ok2, sm⟩ := ok.freeze
  obtain ⟨o2, ⟨kvs1, kvs2, rfl, t1, t2⟩, ok3, sm2⟩ := ok2.freeze
  have e1 := ok.ptr hi
  refine ⟨_, ok3.reslot e1 ?_⟩
  have hq : (upd (upd G q (.dK kvs)) p (.dK (kvs1 ++ (k, .ref q) :: kvs2))) q = some (.dK kvs) := sm2 _ _ upd_same
  refine .of_dict upd_same ((t1.mono sm2).append (.cons (.of_dict hq (t.mono (sm.trans sm2))) (t2.mono sm2)))
end
end L2.My
end
section
set_option Elab.async false
set_option linter.all false
set_option maxRecDepth 100000
set_option autoImplicit false
/-! Lay25: d[a], d[b] = (a new dict), e. -/
namespace L2.My
open PySem PySem.Spec PyProof.Rows
section
variable {X : Cx} {B : Hp × Hp} {ρ : List Slot} {ow : Ow} {a1 b1 a2 b2 e1 e2 : Expr} {pos : Pos} {rest : List Stmt} {D : Out}
theorem sv_subTwo {p : Addr} {l lq : List (Key × PyData)} {d2 : PyData} {k1 k2 : Key} {sp1 sp2 pt pt2 : Pos} {kt kk : Nat} (hc : X.calm = true) (hu : X.A.units + 1 < cLine) (he1 : EvO X B ρ ((p, od l) :: ow) e1 (od lq)) (he2 : ∀ q, EV X B ρ ((q, od lq) :: (p, od l) :: ow) e2 (da d2))
    (ha1 : ∀ q, EV X B ρ ((q, od lq) :: (p, od l) :: ow) a1 (pp p)) (hb1 : ∀ q, EV X B ρ ((q, od lq) :: (p, od l) :: ow) b1 (da (kd k1))) (ha2 : ∀ q, EV X B ρ ((q, od lq) :: (p, odM l k1 q []) :: ow) a2 (pp p)) (hb2 : ∀ q, EV X B ρ ((q, od lq) :: (p, odM l k1 q []) :: ow) b2 (da (kd k2)))
    (hk1 : k1 ∉ l.map (·.1)) (hk2 : k2 ∉ l.map (·.1)) (hk : k1 ≠ k2) (hl : l.length < 1000) (hr : ∀ q, SV X B ρ ((q, od lq) :: (p, odM l k1 q [(k2, d2)]) :: ow) rest D)
    (hs1 : starEach [e1, e2] X.env = (false, eval e1 X.env) :: starEach [e2] X.env := by rfl) (hs2 : starEach [e2] X.env = (false, eval e2 X.env) :: starEach [] X.env := by rfl)
    (hg : PG X (.Tuple [.Subscript a1 b1 sp1, .Subscript a2 b2 sp2] kt pt) (gTup X.K 2 (gCons (gSub (wE X a1) (wE X b1) rSetD) (gCons (gSub (wE X a2) (wE X b2) rSetD) gNil))))
    (hs : swapsWithSole [.Tuple [.Subscript a1 b1 sp1, .Subscript a2 b2 sp2] kt pt] (.Tuple [e1, e2] kk pt2) pos.line X.env = pure false := by rfl) (hw : swappedStores [.Tuple [.Subscript a1 b1 sp1, .Subscript a2 b2 sp2] kt pt] (.Tuple [e1, e2] kk pt2) X.env = pure none := by rfl)
    (h1 : (assignEach [.Tuple [.Subscript a1 b1 sp1, .Subscript a2 b2 sp2] kt pt] X.env).map (·.2) = [assign (.Tuple [.Subscript a1 b1 sp1, .Subscript a2 b2 sp2] kt pt) X.env] := by rfl) :
    SV X B ρ ((p, od l) :: ow) (.Assign [.Tuple [.Subscript a1 b1 sp1, .Subscript a2 b2 sp2] kt pt] (.Tuple [e1, e2] kk pt2) pos :: rest) D :=
  sv_step (ps_asg (pe_tup (pa_cons he1 (pa_cons pe_w pa_nil hs2) hs1)) hg hs hw h1) fun E σ H ⟨⟨G, ok⟩, oo⟩ => ⟨G, ok, fun q G1 H1 ok1 s1 => L2.PE.to (he2 q) ⟨G1, ok1, fun v G2 H2 g2 p2 => ⟨by show 2 ≤ sizeLine; decide, fun t ht => by
    have ok2 := ok1.grow g2
    have al := Gr.alloc (o := .tup [.ref q, v]) ok2.gr.s ht
    have ok3 := ok2.grow al
    have p3 := Da.mono al.g p2
    refine ⟨t, [.ref q, v], rfl, .of upd_same, rfl, .ref q, [v], rfl, L2.PE.to (ha1 q) ⟨_, ok3, fun v1 G4 H4 g4 q4 => L2.PE.to (hb1 q) ⟨G4, ok3.grow g4, fun u1 G5 H5 g5 q5 => ?_⟩⟩⟩
    cases (show v1 = .ref p from q4)
    have ek : u1 = kV k1 := by
      have z : Da G5 u1 (kd k1) := q5
      cases k1 <;> (cases z; rfl)
    subst ek
    have ok5 := (ok3.grow g4).grow g5
    obtain ⟨_, _, ob, e5, kvs, rfl, t5⟩ := ok5.own _ (List.mem_cons_of_mem _ List.mem_cons_self)
    have e5' : H5 p = some (.dK kvs) := e5
    have hp1 : putK kvs k1 (.ref q) = kvs ++ [(k1, .ref q)] := by
      unfold putK
      rw [if_neg]
      rw [any_keys, t5.keys]
      intro z
      obtain ⟨r, hr, er⟩ := List.any_eq_true.mp z
      exact hk1 (of_decide_eq_true er ▸ hr)
    refine ⟨p, _, rfl, DPut.k e5' (by rw [t5.length]; exact szl), v, [], rfl, ?_⟩
    rw [hp1]
    have ok6 : Ok B ρ ((q, od lq) :: (p, odM l k1 q []) :: ow) G5 σ (upd H5 p (.dK (kvs ++ [(k1, .ref q)]))) := ((ok5.permP (List.Perm.swap _ _ _)).write (χ := odM l k1 q []) ⟨kvs, [], rfl, t5, .nil⟩).permP (List.Perm.swap _ _ _)
    refine L2.PE.to (ha2 q) ⟨G5, ok6, fun v7 G7 H7 g7 q7 => L2.PE.to (hb2 q) ⟨G7, ok6.grow g7, fun u8 G8 H8 g8 q8 => ?_⟩⟩
    cases (show v7 = .ref p from q7)
    have ek : u8 = kV k2 := by
      have z : Da G8 u8 (kd k2) := q8
      cases k2 <;> (cases z; rfl)
    subst ek
    have ok8 := (ok6.grow g7).grow g8
    obtain ⟨_, _, ob, e8, kvs1, kvs2, rfl, t8, t9⟩ := ok8.own _ (List.mem_cons_of_mem _ List.mem_cons_self)
    cases t9
    have e8' : H8 p = some (.dK (kvs1 ++ [(k1, .ref q)])) := e8
    have hp2 : putK (kvs1 ++ [(k1, .ref q)]) k2 v = kvs1 ++ (k1, .ref q) :: [(k2, v)] := by
      unfold putK
      rw [if_neg]
      · rw [List.append_assoc]; rfl
      · rw [List.any_append, any_keys, t8.keys]
        intro z
        rcases Bool.or_eq_true_iff.mp z with z | z
        · obtain ⟨r, hr, er⟩ := List.any_eq_true.mp z
          exact hk2 (of_decide_eq_true er ▸ hr)
        · simp at z
          exact hk z
    refine ⟨p, _, rfl, DPut.k e8' (by rw [List.length_append, t8.length]; simp; exact szl), rfl, ?_⟩
    rw [hp2]
    have dv : Da G8 v d2 := Da.mono g8.g (Da.mono g7.g (Da.mono g5.g (Da.mono g4.g p3)))
    exact sv_go (hr q) (((ok8.permP (List.Perm.swap _ _ _)).write (χ := odM l k1 q [(k2, d2)]) ⟨kvs1, [(k2, v)], rfl, t8, .cons dv .nil⟩).permP (List.Perm.swap _ _ _)) oo⟩⟩⟩
end
end L2.My
end
section
set_option Elab.async false
set_option linter.all false
set_option maxRecDepth 100000
set_option autoImplicit false
/-! D6: a Map and its methods. -/
namespace L2.My
open PySem PySem.Spec PyProof.Rows
structure Mp where
  areas : List (List Str)
  paths : List (Str × Str)
  len : Int
  bords : List Int
  outs : List (Option Int)
structure MpOk (m : Mp) : Prop where
  areas : AreasOk m.areas
  paths : PathsOk m.paths m.areas.flatten
  len : 1 ≤ m.len ∧ m.len ≤ 4
  bords : m.bords.length = m.areas.length ∧ ∀ b ∈ m.bords, 0 ≤ b ∧ b ≤ m.len - 1
  outs : m.outs.length = m.areas.length ∧ ∀ o ∈ m.outs, oOk o = true
def eAreas (as : List (List Str)) : PyData := .tuple (as.map (eArea true))
def ePaths (ps : List (Str × Str)) : PyData := .tuple (ps.map ePath)
def eInts (ns : List Int) : PyData := .tuple (ns.map .int)
def eOuts (os : List (Option Int)) : PyData := .tuple (os.map eO)
/-- an instance with areas -/
def areasP (C : Addr) (as : List (List Str)) : Pr := ⟨fun H v => ∃ a dx fs u, v = .ref a ∧ H a = some (.ins C dx fs) ∧ fs.lookup ("areas" : Str) = some u ∧ fs.lookup ("places" : Str) = none ∧ Da H u (eAreas as),
  fun s ⟨a, dx, fs, u, e1, e2, e3, e4, e5⟩ => ⟨a, dx, fs, u, e1, s _ _ e2, e3, e4, e5.mono s⟩⟩
/-- a Map -/
def mapP (C : Addr) (m : Mp) : Pr := ⟨fun H v => ∃ a dx v1 v2 v3 v4 v5, v = .ref a ∧ H a = some (.ins C dx [("areas", v1), ("paths", v2), ("length", v3), ("borders", v4), ("outages", v5)]) ∧ Da H v1 (eAreas m.areas) ∧ Da H v2 (ePaths m.paths) ∧ Da H v3 (.int m.len) ∧ Da H v4 (eInts m.bords) ∧ Da H v5 (eOuts m.outs),
  fun s ⟨a, dx, v1, v2, v3, v4, v5, e1, e2, d1, d2, d3, d4, d5⟩ => ⟨a, dx, v1, v2, v3, v4, v5, e1, s _ _ e2, d1.mono s, d2.mono s, d3.mono s, d4.mono s, d5.mono s⟩⟩
section
variable {C : Addr} {m : Mp}
theorem mapP_areas : HasF C "areas" (mapP C m) (da (eAreas m.areas)) := fun H v ⟨a, dx, v1, v2, v3, v4, v5, e1, e2, d1, d2, d3, d4, d5⟩ => ⟨a, dx, _, v1, e1, e2, by kernel_rfl, d1⟩
theorem mapP_paths : HasF C "paths" (mapP C m) (da (ePaths m.paths)) := fun H v ⟨a, dx, v1, v2, v3, v4, v5, e1, e2, d1, d2, d3, d4, d5⟩ => ⟨a, dx, _, v2, e1, e2, by kernel_rfl, d2⟩
theorem mapP_length : HasF C "length" (mapP C m) (da (.int m.len)) := fun H v ⟨a, dx, v1, v2, v3, v4, v5, e1, e2, d1, d2, d3, d4, d5⟩ => ⟨a, dx, _, v3, e1, e2, by kernel_rfl, d3⟩
theorem mapP_borders : HasF C "borders" (mapP C m) (da (eInts m.bords)) := fun H v ⟨a, dx, v1, v2, v3, v4, v5, e1, e2, d1, d2, d3, d4, d5⟩ => ⟨a, dx, _, v4, e1, e2, by kernel_rfl, d4⟩
theorem mapP_outages : HasF C "outages" (mapP C m) (da (eOuts m.outs)) := fun H v ⟨a, dx, v1, v2, v3, v4, v5, e1, e2, d1, d2, d3, d4, d5⟩ => ⟨a, dx, _, v5, e1, e2, by kernel_rfl, d5⟩
theorem areasP_areas {as : List (List Str)} : HasF C "areas" (areasP C as) (da (eAreas as)) := fun H v ⟨a, dx, fs, u, e1, e2, e3, e4, e5⟩ => ⟨a, dx, fs, u, e1, e2, e3, e5⟩
theorem mapP_areasP (H : Hp) (v : V) (h : (mapP C m).p H v) : (areasP C m.areas).p H v := by
  obtain ⟨a, dx, v1, v2, v3, v4, v5, e1, e2, d1, d2, d3, d4, d5⟩ := h
  exact ⟨a, dx, _, v1, e1, e2, by kernel_rfl, by kernel_rfl, d1⟩
theorem areasP_places {as : List (List Str)} : IsI C "places" (areasP C as) := fun H v ⟨a, dx, fs, u, e1, e2, e3, e4, e5⟩ => ⟨a, dx, fs, e1, e2, e4⟩
theorem mapP_m_area_of : IsI C "area_of" (mapP C m) := fun H v ⟨a, dx, v1, v2, v3, v4, v5, e1, e2, _⟩ => ⟨a, dx, _, e1, e2, by kernel_rfl⟩
theorem mapP_m_near : IsI C "near" (mapP C m) := fun H v ⟨a, dx, v1, v2, v3, v4, v5, e1, e2, _⟩ => ⟨a, dx, _, e1, e2, by kernel_rfl⟩
theorem mapP_m_day : IsI C "day" (mapP C m) := fun H v ⟨a, dx, v1, v2, v3, v4, v5, e1, e2, _⟩ => ⟨a, dx, _, e1, e2, by kernel_rfl⟩
theorem mapP_m_reach_of_time : IsI C "reach_of_time" (mapP C m) := fun H v ⟨a, dx, v1, v2, v3, v4, v5, e1, e2, _⟩ => ⟨a, dx, _, e1, e2, by kernel_rfl⟩
theorem mapP_m_with_outages : IsI C "with_outages" (mapP C m) := fun H v ⟨a, dx, v1, v2, v3, v4, v5, e1, e2, _⟩ => ⟨a, dx, _, e1, e2, by kernel_rfl⟩
end
/-! mirror -/
def areaOf (as : List (List Str)) (p : Str) : Nat := as.findIdx fun a => decide (p ∈ a)
def reachL (ps : List (Str × Str)) (p : Str) : List Str := ps.flatMap fun q => [q.1, q.2].filter fun _ => decide (p ∈ [q.1, q.2])
def nearL (m : Mp) (p : Str) : List Str := m.areas.flatten.filter fun o => decide (o = p) || decide (o ∈ reachL m.paths p)
def bordAt (m : Mp) (a : Nat) : Int := m.bords.getD a 0
def dayOf (m : Mp) (a : Nat) (phase time : Int) : Int := (time + phase - bordAt m a) / m.len
def endsOf (os : List (Option Int)) : List Int := os.filterMap id
def maxL : List Int → Int
  | [] => 0
  | a :: r => r.foldl max a
def lastT (os : List (Option Int)) : Int := maxL (endsOf os)
theorem maxL_max : ∀ {ns : List Int}, ns ≠ [] → IsMax (maxL ns) ns := by
  intro ns h
  cases ns with
  | nil => exact absurd rfl h
  | cons a r =>
    have gen : ∀ (r : List Int) (a : Int), (r.foldl max a = a ∨ r.foldl max a ∈ r) ∧ a ≤ r.foldl max a ∧ ∀ y ∈ r, y ≤ r.foldl max a := by
      intro r
      induction r with
      | nil => intro a; exact ⟨.inl rfl, Int.le_refl _, fun _ h => by cases h⟩
      | cons b r ih =>
        intro a
        obtain ⟨h1, h2, h3⟩ := ih (max a b)
        rw [List.foldl_cons]
        refine ⟨?_, by omega, fun y hy => ?_⟩
        · rcases h1 with h1 | h1
          · rw [h1]
            rcases Int.max_def a b ▸ (by split <;> simp : (if a ≤ b then b else a) = a ∨ (if a ≤ b then b else a) = b) with e | e
            · exact .inl e
            · right; rw [e]; exact List.mem_cons_self
          · exact .inr (List.mem_cons_of_mem _ h1)
        · rcases List.mem_cons.mp hy with e | hy
          · rw [e]; omega
          · exact h3 y hy
    obtain ⟨h1, h2, h3⟩ := gen r a
    refine ⟨?_, fun y hy => ?_⟩
    · show r.foldl max a ∈ a :: r
      rcases h1 with e | e
      · rw [e]; exact List.mem_cons_self
      · exact List.mem_cons_of_mem _ e
    · show y ≤ r.foldl max a
      rcases List.mem_cons.mp hy with e | hy
      · rw [e]; exact h2
      · exact h3 y hy
section
variable {P : Program} {w : World} {K : PySem.W.Frag} {mg : Str → Option Value} {base : Heap}
abbrev CM (K : PySem.W.Frag) : Addr := He.ga K "Map"
abbrev N_pl : List Str := ["self", "area", "place"]
theorem sc_places : FnScope N_pl ["self"] (defScope s_Map_places) := ⟨rfl, rfl, rfl, by decide +kernel, rfl, by decide +kernel, by decide +kernel⟩
theorem flatten_map_str (as : List (List Str)) : (as.flatMap fun a => a.map PyData.str) = as.flatten.map PyData.str := by
  induction as with
  | nil => rfl
  | cons a as ih => rw [List.flatMap_cons, ih, List.flatten_cons, List.map_append]
theorem ok_places (T : TX K mg) : DefM P w K mg base (CM K) "places" 1 ["self"] (spA (fun as : List (List Str) => as.flatten.length ≤ 6 ∧ as.length ≤ 4) (fun as => [areasP (CM K) as]) (fun as => da (.list (as.flatten.map .str)))) := by
  refine defm_mk T.m_Map_places sc_places (fun _ _ _ _ _ _ us hl => match us, hl with | [_], _ => rfl) (fun _ => rfl) (by decide) fun as ⟨h1, h2⟩ f cdv A outer s0 H0 H E B hr => ?_
  refine sv_retd (ev_lc20 (xs := as) (ys := fun a => a) (g := fun a => da (eArea true a)) (g1 := fun _ s => da (.str s)) (f1 := fun _ s => .str s) (own := [("area", 1), ("place", 2)]) (vs1 := [2]) (tgG := gName 1) (tgG1 := gName 2) (fρ := fun a ρ => ρ.set 1 (.val (da (eArea true a)))) (fρ1 := fun _ s ρ => ρ.set 2 (.val (da (.str s)))) rfl sc_places.nd
    (it_of (if_tup (ev_fld T.k_Map T.n_Map_areas (vv 0) areasP_areas))) (blkOk_by (N := N_pl) (sc := defScope s_Map_places) (by decide +kernel)) (by decide) (fun _ => pgn 1 sc_places.nd) (fun a _ => tg_name (by decide)) (fun a _ b => if_tup (f := PyData.str) (vv 1)) (fun _ => pgn 2 sc_places.nd) (fun _ _ s _ => tg_name (by decide)) (fun a _ s _ b => vv 2) ?_) ?_
  · rw [List.flatMap_id']
    exact sz
  · rw [flatten_map_str]
abbrev N_ao : List Str := ["self", "place", "index", "area"]
theorem sc_area_of : FnScope N_ao ["self", "place"] (defScope s_Map_area_of) := ⟨rfl, rfl, rfl, by decide +kernel, rfl, by decide +kernel, by decide +kernel⟩
theorem ok_area_of (T : TX K mg) : DefM P w K mg base (CM K) "area_of" 1 ["self", "place"] (spA (fun x : Mp × Str => x.2 ∈ x.1.areas.flatten) (fun x => [mapP (CM K) x.1, da (.str x.2)]) (fun x => da (.int (areaOf x.1.areas x.2 : Nat)))) := by
  refine defm_mk T.m_Map_area_of sc_area_of (fun _ _ _ _ _ _ us hl => match us, hl with | [_, _], _ => rfl) (fun _ => rfl) (by decide) fun ⟨m, p⟩ hp f cdv A outer s0 H0 H E B hr => ?_
  refine sv_for (xs := m.areas.zipIdx) (g := fun y => da (.tuple [.int (y.2 : Nat), eArea true y.1])) (vs := [2, 3]) (fun i ρ' ow' => (∃ s2 s3, ρ' = [.val (mapP (CM K) m), .val (da (.str p)), s2, s3]) ∧ ow' = [] ∧ ∀ a ∈ m.areas.take i, p ∉ a)
    PassesOwn.never rfl (if_enumT T.b_enumerate (ev_fld T.k_Map T.n_Map_areas (vv 0) mapP_areas)) (pg_tup rfl (pgs_cons (pgn 2 sc_area_of.nd) (pgs_cons (pgn 3 sc_area_of.nd) pgs_nil))) (fun x _ => tg_tup (tgs_cons (by decide) (tgs_cons (by decide) tgs_nil)) rfl) ⟨⟨_, _, rfl⟩, rfl, fun a h => by simp at h⟩ (fun i x ρ' ow' B' hx hI => ?_) fun ρ' ow' hI => ?_
  · obtain ⟨⟨s2, s3, rfl⟩, rfl, hno⟩ := hI
    obtain ⟨a, n⟩ := x
    obtain ⟨e1, e2⟩ := zipIdx_get hx
    have e1 : m.areas[i]? = some a := e1
    obtain rfl : n = i := e2
    refine sv_guard (et_a2 (et_v (ev_isi T.b_isinstance (vv 1) (ev_ty T.b_str (by decide +kernel)) (kb_str _))) fun _ => et_cmp op_in_seq (ep_of (vv 1)) (ep_of (vv 3)) (r2_inS_t (ss := a)) rfl) (fun h => ?_) fun h => ?_
    · have hm : p ∈ a := by simpa [isStr] using h
      refine sv_retd (vv 2) ?_
      have e3 : areaOf m.areas p = n := by
        unfold areaOf
        refine (List.findIdx_eq (List.getElem?_eq_some_iff.mp e1).1).mpr ⟨?_, fun j hj => ?_⟩
        · rw [(List.getElem?_eq_some_iff.mp e1).2]
          exact decide_eq_true hm
        · have hl := (List.getElem?_eq_some_iff.mp e1).1
          refine decide_eq_false (hno _ ?_)
          rw [List.mem_take_iff_getElem]
          exact ⟨j, by omega, rfl⟩
      rw [e3]
    · have hm : p ∉ a := by simpa [isStr] using h
      refine sv_nil ⟨⟨_, _, rfl⟩, rfl, fun b hb => ?_⟩
      rw [take_succ_get e1] at hb
      rcases List.mem_append.mp hb with hb | hb
      · exact hno b hb
      · rw [List.mem_singleton.mp hb]; exact hm
  · obtain ⟨⟨s2, s3, rfl⟩, rfl, hno⟩ := hI
    obtain ⟨a, ha, hpa⟩ := List.mem_flatten.mp hp
    rw [List.length_zipIdx, List.take_length] at hno
    exact absurd hpa (hno a ha)
abbrev N_ne : List Str := ["self", "place", "found", "path", "other"]
theorem sc_near : FnScope N_ne ["self", "place"] (defScope s_Map_near) := ⟨rfl, rfl, rfl, by decide +kernel, rfl, by decide +kernel, by decide +kernel⟩
theorem ok_near (T : TX K mg) : DefM P w K mg base (CM K) "near" 2 ["self", "place"] (spA (fun x : Mp × Str => MpOk x.1 ∧ x.2 ∈ x.1.areas.flatten) (fun x => [mapP (CM K) x.1, da (.str x.2)]) (fun x => da (.list ((nearL x.1 x.2).map .str)))) := by
  refine defm_mk T.m_Map_near sc_near (fun _ _ _ _ _ _ us hl => match us, hl with | [_, _], _ => rfl) (fun _ => rfl) (by decide) fun ⟨m, p⟩ ⟨hm, hp⟩ f cdv A outer s0 H0 H E B hr => ?_
  have hm : MpOk m := hm
  have few := hm.paths.few
  have a4 := hm.areas.2.2.2
  refine sv_expr (ev_meth T.k_Map (ok_area_of T) (m, p) hp hr (vv 0) mapP_m_area_of (ea1 (vv 1)) rfl) ?_
  refine sv_set (i := 2) (φ := da (.list ((reachL m.paths p).map .str))) sc_near.nd (ev_eq (ev_lc2 (xs := m.paths) (ys := fun q => [q.1, q.2]) (g := fun q => da (ePath q)) (g1 := fun _ s => da (.str s)) (c1 := fun q _ => decide (p ∈ [q.1, q.2])) (f1 := fun _ s => .str s) (own := [("path", 3), ("other", 4)]) (vs1 := [4]) (tgG := gName 3) (tgG1 := gName 4) (fρ := fun q ρ => ρ.set 3 (.val (da (ePath q)))) (fρ1 := fun _ s ρ => ρ.set 4 (.val (da (.str s)))) rfl sc_near.nd
    (it_of (if_tup (ev_fld T.k_Map T.n_Map_paths (vv 0) mapP_paths))) (blkOk_by (N := N_ne) (sc := defScope s_Map_near) (by decide +kernel)) (by decide) (fun _ => pgn 3 sc_near.nd) (fun a _ => tg_name (by decide)) (fun _ _ _ => ets_nil) (fun q _ b => if_tup (f := PyData.str) (xs := [q.1, q.2]) (vv 3)) (fun _ => pgn 4 sc_near.nd) (fun _ _ s _ => tg_name (by decide))
    (fun q _ s _ b => ets_one (et_cmp op_in_seq (ep_of (vv 1)) (ep_of (vv 3)) (r2_inS_t (ss := [q.1, q.2])) rfl)) (fun a _ s _ _ b => vv 4) ?_) ?_) ?_
  · have : (m.paths.flatMap fun q => [q.1, q.2]).length = 2 * m.paths.length := by
      induction m.paths with
      | nil => rfl
      | cons q r ih => rw [List.flatMap_cons, List.length_append, ih, List.length_cons]; simp; omega
    rw [this]
    exact sz
  · unfold reachL
    rw [List.map_flatMap]
  · refine sv_retd (ev_lc (xs := m.areas.flatten) (g := fun s => da (.str s)) (c := fun o => decide (o = p) || decide (o ∈ reachL m.paths p)) (f := fun s => .str s) (own := [("other", 4)]) (tgG := gName 4) (fρ := fun s ρ => ρ.set 4 (.val (da (.str s)))) rfl sc_near.nd
      (it_of (if_list (f := PyData.str) (ev_meth0 T.k_Map (ok_places T) m.areas ⟨a4, hm.areas.1.2⟩ (hr.mono (by decide)) (ev_as (vv 0) mapP_areasP) areasP_places rfl))) (blkOk_by (N := N_ne) (sc := defScope s_Map_near) (by decide +kernel)) (fun _ => pgn 4 sc_near.nd) (fun s _ => tg_name (by decide))
      (fun s _ b => ets_one (et_o2 (et_eqS (vv 4) (vv 1)) fun _ => et_cmp op_in_seq (ep_of (vv 4)) (ep_of (vv 2)) r2_inS_l rfl)) (fun s _ _ b => vv 4) sz) rfl
theorem sc_day : FnScope ["self", "area", "phase", "time"] ["self", "area", "phase", "time"] (defScope s_Map_day) := ⟨rfl, rfl, rfl, by decide +kernel, rfl, by decide +kernel, by decide +kernel⟩
theorem ok_day (T : TX K mg) : DefM P w K mg base (CM K) "day" 1 ["self", "area", "phase", "time"] (spA (fun x : Mp × Nat × Int × Int => MpOk x.1 ∧ x.2.1 < x.1.areas.length) (fun x => [mapP (CM K) x.1, da (.int (x.2.1 : Nat)), da (.int x.2.2.1), da (.int x.2.2.2)]) (fun x => da (.int (dayOf x.1 x.2.1 x.2.2.1 x.2.2.2)))) := by
  refine defm_mk T.m_Map_day sc_day (fun _ _ _ _ _ _ us hl => match us, hl with | [_, _, _, _], _ => rfl) (fun _ => rfl) (by decide) fun ⟨m, a, ph, t⟩ ⟨hm, ha⟩ f cdv A outer s0 H0 H E B hr => ?_
  have hm : MpOk m := hm
  have hl := hm.len
  have ha : a < m.bords.length := by rw [hm.bords.1]; exact ha
  have e : (m.bords.map PyData.int)[a]? = some (.int (bordAt m a)) := by
    rw [List.getElem?_map, List.getElem?_eq_getElem ha]
    unfold bordAt
    rw [List.getD_eq_getElem?_getD, List.getElem?_eq_getElem ha]
    rfl
  exact sv_retd (ev_fdiv (ev_sub (ev_add (vv 3) (vv 2)) (ev_ixT (ev_fld T.k_Map T.n_Map_borders (vv 0) mapP_borders) (vv 1) (atI_nat e))) (ev_fld T.k_Map T.n_Map_length (vv 0) mapP_length) (show CDiv _ m.len from ⟨by omega, by omega⟩)) rfl
abbrev N_rt : List Str := ["self", "ends", "outage"]
theorem sc_reach_of_time : FnScope N_rt ["self"] (defScope s_Map_reach_of_time) := ⟨rfl, rfl, rfl, by decide +kernel, rfl, by decide +kernel, by decide +kernel⟩
theorem shaped_ints (l : List Int) : SeqAt.shaped (.list (l.map .int)) = true := by
  have h := shaped_eT l
  unfold eT at h
  have e : SeqAt.shaped (.tuple (l.map PyData.int)) = SeqAt.shaped (.list (l.map PyData.int)) := rfl
  rw [← e]; exact h
theorem eqv_ints_nil (l : List Int) : PyData.eqv (.list (l.map .int)) (.list []) = l.isEmpty := by
  cases l <;> simp [PyData.eqv, PyData.eqvAll]
theorem ok_reach_of_time (T : TX K mg) : DefM P w K mg base (CM K) "reach_of_time" 1 ["self"] (spA (fun m : Mp => MpOk m) (fun m => [mapP (CM K) m]) (fun m => da (.int (lastT m.outs)))) := by
  refine defm_mk T.m_Map_reach_of_time sc_reach_of_time (fun _ _ _ _ _ _ us hl => match us, hl with | [_], _ => rfl) (fun _ => rfl) (by decide) fun m hm f cdv A outer s0 H0 H E B hr => ?_
  have h4 := hm.areas.1.2
  have ho := hm.outs.1
  have hel : (endsOf m.outs).length ≤ m.outs.length := List.length_filterMap_le _ _
  refine sv_setLc (i := 1) (xs := m.outs) (g := fun o => da (eO o)) (c := fun o => !isN (eO o)) (f := eO) (own := [("outage", 2)]) (tgG := gName 2) (fρ := fun o ρ => ρ.set 2 (.val (da (eO o)))) rfl sc_reach_of_time.nd (it_of (if_tup (ev_fld T.k_Map T.n_Map_outages (vv 0) mapP_outages))) (blkOk_by (N := N_rt) (sc := defScope s_Map_reach_of_time) (by decide +kernel)) (fun _ => pgn 2 sc_reach_of_time.nd) (fun o _ => tg_name (by decide))
    (fun o _ b => ets_one (et_isnot (vv 2) ev_non)) (fun o _ hc b => ?_) sz ?_
  · cases o with
    | none => cases hc
    | some i => exact ev_int1 T.b_int (vv 2)
  have e1 : (m.outs.filter fun o => !isN (eO o)).map eO = (endsOf m.outs).map .int := by
    unfold endsOf
    induction m.outs with
    | nil => rfl
    | cons o r ih =>
      cases o with
      | none => simpa [List.filter_cons, isN, eO] using ih
      | some i => simpa [List.filter_cons, isN, eO] using ih
  rw [e1]
  refine sv_retd (ev_ifd (d1 := .int (maxL (endsOf m.outs))) (d2 := .int 0) (et_cmp (op_neD hr.units) (ep_of (vv 1)) (ep_of (ev_lst ed_nil (by decide))) (r2_neD (by show nods _ = true; exact nods_ints _) rfl (shaped_ints _) (by decide)) (nomark _)) (fun h => ?_) fun h => ev_int) ?_
  · rw [eqv_ints_nil] at h
    have hne : endsOf m.outs ≠ [] := by
      intro z; rw [z] at h; cases h
    exact ev_max rfl T.b_max (ep_of (ev_lc0 (xs := endsOf m.outs) (f := .int) (g := fun i => da (.int i)) (own := [("outage", 2)]) (tgG := gName 2) (fρ := fun i ρ => ρ.set 2 (.val (da (.int i)))) rfl sc_reach_of_time.nd (it_of (if_list (f := PyData.int) (vv 1))) (blkOk_by (N := N_rt) (sc := defScope s_Map_reach_of_time) (by decide +kernel)) (fun _ => pgn 2 sc_reach_of_time.nd) (fun o _ => tg_name (by decide)) (fun i _ b => ev_int1 T.b_int (vv 2)) sz)) (maxL_max hne)
  · rw [eqv_ints_nil]
    unfold lastT
    cases endsOf m.outs with
    | nil => rfl
    | cons a r => rfl
end
end L2.My
end
section
set_option Elab.async false
set_option linter.all false
set_option maxRecDepth 100000
set_option autoImplicit false
/-! D7: Map(...), with_outages. -/
namespace L2.My
open PySem PySem.Spec PyProof.Rows
structure MIn where
  ta : Bool
  ua : Bool
  tp : Bool
  tb : Option (Bool × List Int)
  tt : Bool
  m : Mp
structure MInOk (x : MIn) : Prop where
  ok : MpOk x.m
  b1 : BordsOk x.tb x.m.areas.length x.m.len
  b2 : bordsOf x.m.areas.length x.tb = x.m.bords
def mapFs (m : Mp) : List (Str × Pr) := [("areas", da (eAreas m.areas)), ("paths", da (ePaths m.paths)), ("length", da (.int m.len)), ("borders", da (eInts m.bords)), ("outages", da (eOuts m.outs))]
theorem inP_map {C : Addr} {m : Mp} (H : Hp) (v : V) (h : (inP C (mapFs m)).p H v) : (mapP C m).p H v := by
  obtain ⟨a, dx, us, e, e2, t⟩ := h
  cases t with
  | cons p1 t =>
    cases t with
    | cons p2 t =>
      cases t with
      | cons p3 t =>
        cases t with
        | cons p4 t =>
          cases t with
          | cons p5 t =>
            cases t
            exact ⟨a, dx, _, _, _, _, _, e, e2, p1, p2, p3, p4, p5⟩
section
variable {P : Program} {w : World} {K : PySem.W.Frag} {mg : Str → Option Value} {base : Heap}
abbrev ks3 : List Str := ["length", "borders", "outages"]
abbrev ks1 : List Str := ["outages"]
abbrev N_mi : List Str := ["self", "areas", "paths", "length", "borders", "outages"]
theorem sc_Map_init : FnScope N_mi N_mi (defScope s_Map_init) := ⟨rfl, rfl, rfl, by decide +kernel, rfl, by decide +kernel, by decide +kernel⟩
/-- Map.__init__ as it stands behind the top -/
structure MapAt (K : PySem.W.Frag) : Prop where
  ex : ∃ f fd dv, FunD K "__init__" "Map.__init__" (defArgs s_Map_init) (defBody s_Map_init) (defScope s_Map_init) [dv] [("length", .int 1), ("borders", .non), ("outages", .non)] f fd ∧ Mk K (CM K) f
def miA (x : Addr × MIn) : List Slot := [.ptr x.1, .val (da (sq x.2.ta (x.2.m.areas.map (eArea x.2.ua)))), .val (da (sq x.2.tp (x.2.m.paths.map ePath))), .val (da (.int x.2.m.len)), .val (da (eB x.2.tb)), .val (da (sq x.2.tt (x.2.m.outs.map eO)))]
theorem body_Map_init (T : TX K mg) (x : Addr × MIn) (hx : MInOk x.2) : BodyO P w K mg base N_mi "Map.__init__" s_Map_init 4 (miA x) [(x.1, oin (CM K) [])] [(x.1, oin (CM K) (mapFs x.2.m))] (da .none) := by
  obtain ⟨p, ta, ua, tp, tb, tt, m⟩ := x
  have hm : MpOk m := hx.ok
  have h4 := hm.areas.1.2
  refine fun f cdv A outer s H0 H E B hr => ?_
  refine sv_fld T.k_Map T.n_Map_areas (pv 0) (φ := da (eAreas m.areas)) (ev_call (ok_checked_areas T) (ta, ua, m.areas) hm.areas (hr.mono (by decide)) (ea1 (vv 1))) rfl (of_decide_eq_true rfl) ?_
  refine sv_fld T.k_Map T.n_Map_paths (pv 0) (φ := da (ePaths m.paths)) (ev_call (ok_checked_paths T) (tp, m.paths, m.areas.flatten) hm.paths (hr.mono (by decide)) (ea2 (vv 2) (ev_methO T.k_Map (ok_places T) m.areas ⟨hm.areas.2.2.2, h4⟩ (hr.mono (by decide)) (pv 0) List.mem_cons_self rfl rfl rfl ?_))) rfl (of_decide_eq_true rfl) ?_
  · rintro G u ⟨dx, us, rfl, t⟩ e
    obtain ⟨z, z1, z2⟩ := t.look (f := "areas") rfl
    exact ⟨p, dx, us, z, rfl, e, z1, t.look0 rfl, z2⟩
  refine sv_guard (et_not (et_v (ev_call (ok_is_between T) (.int m.len, 1, 4) True.intro (hr.mono (by decide)) (ea3 (vv 3) ev_int (ev_gint T.c_MOST_PARTS))))) (fun h => ?_) fun _ => ?_
  · have h1 := hm.len.1
    have h2 := hm.len.2
    have : between (.int m.len) 1 4 = true := by
      show (decide ((1 : Int) ≤ m.len) && decide (m.len ≤ 4)) = true
      rw [decide_eq_true h1, decide_eq_true h2]
      rfl
    rw [this] at h
    cases h
  refine sv_fld T.k_Map T.n_Map_length (pv 0) (vv 3) rfl (of_decide_eq_true rfl) ?_
  refine sv_fld T.k_Map T.n_Map_borders (pv 0) (φ := da (eInts m.bords)) (ev_eq (ev_call (ok_checked_borders T) (tb, m.areas.length, m.len) hx.b1 (hr.mono (by decide)) (ea3 (vv 4) (ev_eq (ev_lenT T.b_len (ep_of (ev_fldO T.k_Map T.n_Map_areas (pv 0) List.mem_cons_self rfl))) (by rw [List.length_map])) (vv 3))) (by rw [hx.b2]; rfl)) rfl (of_decide_eq_true rfl) ?_
  refine sv_fld T.k_Map T.n_Map_outages (pv 0) (φ := da (eOuts m.outs)) (ev_call (ok_checked_outages T) (tt, m.outs) ⟨by rw [hm.outs.1]; exact h4, hm.outs.2⟩ hr (ea2 (vv 5) (ev_eq (ev_lenT T.b_len (ep_of (ev_fldO T.k_Map T.n_Map_areas (pv 0) List.mem_cons_self rfl))) (by rw [List.length_map, hm.outs.1])))) rfl (of_decide_eq_true rfl) ?_
  exact sv_nil ⟨fun q h => h, fun _ => .non⟩
theorem init_ok (T : TX K mg) {f : Addr} {fd : FuncData} {dvs : List V} {kws : List (Str × V)} (F : FunD K "__init__" "Map.__init__" (defArgs s_Map_init) (defBody s_Map_init) (defScope s_Map_init) dvs kws f fd) : FnOk P w K mg base CX0 5 f fd N_mi (spO (fun x : Addr × MIn => MInOk x.2) miA (fun x => [(x.1, oin (CM K) [])]) (fun x => [(x.1, oin (CM K) (mapFs x.2.m))]) (fun _ => da .none)) :=
  fn_bodyO F sc_Map_init (fun _ => rfl) (by decide) fun x hx => body_Map_init T x hx
theorem PrAll.app {G : Hp} : ∀ {as bs : List Pr} {vs ws : List V}, PrAll G as vs → PrAll G bs ws → PrAll G (as ++ bs) (vs ++ ws)
  | _, _, _, _, .nil, s => s
  | _, _, _, _, .cons a t, s => .cons a (PrAll.app t s)
end
section
variable {X : Cx} {B : Hp × Hp} {ρ : List Slot} {ow : Ow} {a b : Expr} {pos p : Pos} {kws : List Keyword}
theorem ev_map3 (T : TX X.K X.mg) (M : MapAt X.K) (y : MIn) (hy : MInOk y) (hr : Room 6 X.A) (ha : EA X B ρ ow [a, b] [da (sq y.ta (y.m.areas.map (eArea y.ua))), da (sq y.tp (y.m.paths.map ePath))]) (hk : EK X B ρ ow kws [da (.int y.m.len), da (eB y.tb), da (sq y.tt (y.m.outs.map eO))])
    (hall : (backToKw pos (keywordEach kws X.env)).all (·.1.isSome) = true := by rfl) (hks : (backToKw pos (keywordEach kws X.env)).filterMap (·.1) = ks3 := by rfl) (hg : Gl X "Map" := by rfl)
    (he : starEach [a, b] X.env = (false, eval a X.env) :: starEach [b] X.env := by rfl) (hpl : ((backTo pos (starEach [a, b] X.env)).any (·.1) || (backToKw pos (keywordEach kws X.env)).any (·.1.isNone)) = false := by rfl) : EV X B ρ ow (.Call (.Name "Map" p) [a, b] kws pos) (mapP (CM X.K) y.m) := by
  obtain ⟨f, fd, dv, F, Mk⟩ := M.ex
  obtain ⟨its, mv, hb⟩ := F.kbinds (ps := N_mi) 3 ks3 [] (fun us _ _ ws => us ++ ws) (by simp) (by simp) (fun q h => by cases h) (fun a _ _ d => a.append d) fun T' D doc pm an cdv ct us its mv ws h1 h2 h3 h4 => by
    match us, its, mv, ws, h1, h2, h3, h4 with
    | [_, _, _], [_], [], [_, _, _], _, _, _, _ => exact ⟨_, rfl, rfl⟩
  refine ev_as (ev_makeK (k := 5) Mk (init_ok T F) hr T.g_Map hb ha hk (fun a => (a, y)) (fun _ => hy) (fun _ => rfl) (fun _ => rfl) (fun a G vs zs t1 t2 => ?_) (fun a G v h => ?_) rfl rfl hg hall hks (by decide) he hpl) fun H v h => inP_map H v h
  · exact PrAll.app (as := [pp a, _, _]) (.cons rfl t1) t2
  · cases (show Da G v .none from h)
    rfl
theorem ev_map1 (T : TX X.K X.mg) (M : MapAt X.K) (y : MIn) (hy : MInOk y) (hl : y.m.len = 1) (hbn : y.tb = none) (hr : Room 6 X.A) (ha : EA X B ρ ow [a, b] [da (sq y.ta (y.m.areas.map (eArea y.ua))), da (sq y.tp (y.m.paths.map ePath))]) (hk : EK X B ρ ow kws [da (sq y.tt (y.m.outs.map eO))])
    (hall : (backToKw pos (keywordEach kws X.env)).all (·.1.isSome) = true := by rfl) (hks : (backToKw pos (keywordEach kws X.env)).filterMap (·.1) = ks1 := by rfl) (hg : Gl X "Map" := by rfl)
    (he : starEach [a, b] X.env = (false, eval a X.env) :: starEach [b] X.env := by rfl) (hpl : ((backTo pos (starEach [a, b] X.env)).any (·.1) || (backToKw pos (keywordEach kws X.env)).any (·.1.isNone)) = false := by rfl) : EV X B ρ ow (.Call (.Name "Map" p) [a, b] kws pos) (mapP (CM X.K) y.m) := by
  obtain ⟨f, fd, dv, F, Mk⟩ := M.ex
  obtain ⟨its, mv, hb⟩ := F.kbinds (ps := N_mi) 3 ks1 [("length", .int 1), ("borders", .non)] (fun us _ ms ws => us ++ (ms ++ ws)) (by simp) (by simp) (fun q h => by
    rcases List.mem_cons.mp h with e | h
    · rw [e]; simp
    · rw [List.mem_singleton.mp h]; simp) (fun a _ c d => a.append (c.append d)) fun T' D doc pm an cdv ct us its mv ws h1 h2 h3 h4 => by
    match us, its, mv, ws, h1, h2, h3, h4 with
    | [_, _, _], [_], [_, _], [_], _, _, _, _ => exact ⟨_, rfl, ⟨_, _, _, _, _, _, rfl, rfl, _, _, _, _, _, _, rfl, rfl, rfl⟩⟩
  refine ev_as (ev_makeK (k := 5) Mk (init_ok T F) hr T.g_Map hb ha hk (fun a => (a, y)) (fun _ => hy) (fun _ => rfl) (fun _ => rfl) (fun a G vs zs t1 t2 => ?_) (fun a G v h => ?_) rfl rfl hg hall hks (by decide) he hpl) fun H v h => inP_map H v h
  · refine PrAll.app (as := [pp a, _, _]) (.cons rfl t1) (PrAll.app (as := [_, _]) (.cons ?_ (.cons ?_ .nil)) t2)
    · show Da G _ (.int y.m.len)
      rw [hl]
      exact .int 1
    · show Da G _ (eB y.tb)
      rw [hbn]
      exact .non
  · cases (show Da G v .none from h)
    rfl
end
section
variable {P : Program} {w : World} {K : PySem.W.Frag} {mg : Str → Option Value} {base : Heap}
def outsOf (m : Mp) (os : List (Option Int)) : Mp := { m with outs := os }
theorem sc_with_outages : FnScope ["self", "outages", "found"] ["self", "outages"] (defScope s_Map_with_outages) := ⟨rfl, rfl, rfl, by decide +kernel, rfl, by decide +kernel, by decide +kernel⟩
theorem ok_with_outages (T : TX K mg) (M : MapAt K) : DefM P w K mg base (CM K) "with_outages" 7 ["self", "outages"] (spA (fun x : Mp × Bool × List (Option Int) => MpOk x.1 ∧ x.2.2.length = x.1.areas.length ∧ ∀ o ∈ x.2.2, oOk o = true) (fun x => [mapP (CM K) x.1, da (sq x.2.1 (x.2.2.map eO))]) (fun x => mapP (CM K) (outsOf x.1 x.2.2))) := by
  refine defm_mk T.m_Map_with_outages sc_with_outages (fun _ _ _ _ _ _ us hl => match us, hl with | [_, _], _ => rfl) (fun _ => rfl) (by decide) fun ⟨m, t, os⟩ ⟨h1, h2, h3⟩ f cdv A outer s0 H0 H E B hr => ?_
  have h1 : MpOk m := h1
  have h2 : os.length = m.areas.length := h2
  have h4 := h1.areas.1.2
  have ho : MpOk (outsOf m os) := ⟨h1.areas, h1.paths, h1.len, h1.bords, h2, h3⟩
  refine sv_set (i := 2) (φ := da (.tuple (os.map eO))) sc_with_outages.nd (ev_call (ok_checked_outages T) (t, os) ⟨by rw [h2]; exact h4, h3⟩ (hr.mono (by decide)) (ea2 (vv 1) (ev_eq (ev_lenT T.b_len (ep_of (ev_fld T.k_Map T.n_Map_areas (vv 0) mapP_areas))) (by rw [List.length_map, h2])))) ?_
  refine sv_ret (ev_map3 T M ⟨true, true, true, some (true, m.bords), true, outsOf m os⟩ ⟨ho, ⟨h1.bords.1, h4, h1.bords.2⟩, rfl⟩ hr (ea2 (ev_fld T.k_Map T.n_Map_areas (vv 0) (mapP_areas (m := m))) (ev_fld T.k_Map T.n_Map_paths (vv 0) (mapP_paths (m := m)))) (ek_cons (ev_fld T.k_Map T.n_Map_length (vv 0) (mapP_length (m := m))) (ek_cons (ev_fld T.k_Map T.n_Map_borders (vv 0) (mapP_borders (m := m))) (ek_cons (vv 2) ek_nil)))) fun H v h => h
end
end L2.My
end
section
set_option Elab.async false
set_option linter.all false
set_option maxRecDepth 100000
set_option autoImplicit false
/-! D8: marks. -/
namespace L2.My
open PySem PySem.Spec PyProof.Rows
abbrev Mark := List (Option Int) × List Bool
def eBs (bs : List Bool) : PyData := .tuple (bs.map .bool)
def eMark (k : Mark) : PyData := .tuple [eOuts k.1, eBs k.2]
def tr : Option Int → Bool
  | none => false
  | some i => !decide (i = 0)
def firstMark (m : Mp) : Mark := (m.outs.map fun o => if tr o then none else some 0, List.replicate m.areas.length false)
def outAt (m : Mp) (a : Nat) : Option Int := m.outs.getD a none
def canPay (m : Mp) (t : Int) (a : Nat) (k : Mark) : Bool := match outAt m a with
  | none => false
  | some o => (decide (-o ≤ t) && decide (t ≤ o - 1)) && (match k.1.getD a none with
    | none => true
    | some l => decide (0 < l))
def paidLeft (o : Option Int) (t : Int) (l : Option Int) : Option Int := match l with
  | some l => some l
  | none => match o with
    | none => none
    | some o => some (min o (o - t))
def paidMark (m : Mp) (t : Int) (a : Nat) (k : Mark) : Mark := (k.1.set a (paidLeft (outAt m a) t (k.1.getD a none)), k.2.set a true)
def leftBehind (o l : Option Int) (t : Int) : Option Int := if tr o then (match l with
    | none => if t ≤ (o.getD 0) - 1 then none else some 0
    | some l => some (max 0 (l - 1))) else some 0
def movedMark (m : Mp) (ph t : Int) (k : Mark) : Mark := ((m.outs.zip k.1).map fun y => leftBehind y.1 y.2 (t + 1), k.2.zipIdx.map fun y => y.1 && decide (dayOf m y.2 ph t = dayOf m y.2 ph (t + 1)))
def MarkOk (m : Mp) (k : Mark) : Prop := k.1.length = m.areas.length ∧ k.2.length = m.areas.length
theorem getD_map {α : Type} {f : α → PyData} {l : List α} {a : Nat} {d : α} (h : a < l.length) : (l.map f)[a]? = some (f (l.getD a d)) := by
  rw [List.getElem?_map, List.getElem?_eq_getElem h, List.getD_eq_getElem?_getD, List.getElem?_eq_getElem h]
  rfl
theorem tru_eO (o : Option Int) : tru (eO o) = tr o := by
  cases o with
  | none => rfl
  | some i =>
    show (i != 0) = !decide (i = 0)
    rw [bne, Bool.beq_eq_decide_eq]
section
variable {P : Program} {w : World} {K : PySem.W.Frag} {mg : Str → Option Value} {base : Heap}
abbrev N_fm : List Str := ["chart", "lefts", "outage"]
theorem sc_first_mark : FnScope N_fm ["chart"] (defScope s_first_mark) := ⟨rfl, rfl, rfl, by decide +kernel, rfl, by decide +kernel, by decide +kernel⟩
theorem ok_first_mark (T : TX K mg) : Def P w K mg base "first_mark" 1 ["chart"] (spA (fun m : Mp => MpOk m) (fun m => [mapP (CM K) m]) (fun m => da (eMark (firstMark m)))) := by
  refine def_mk T.d_first_mark sc_first_mark (fun _ _ _ _ _ _ us hl => match us, hl with | [_], _ => rfl) (fun _ => rfl) (by decide) fun m hm f cdv A outer s0 H0 H E B hr => ?_
  have h4 := hm.areas.1
  have ho := hm.outs.1
  refine sv_set (i := 1) (φ := da (eOuts (firstMark m).1)) sc_first_mark.nd (ev_eq (ev_tupleL T.b_tuple (ev_lc0 (xs := m.outs) (f := fun o => if tru (eO o) = true then .none else .int 0) (g := fun o => da (eO o)) (own := [("outage", 2)]) (tgG := gName 2) (fρ := fun o ρ => ρ.set 2 (.val (da (eO o)))) rfl sc_first_mark.nd
    (it_of (if_tup (ev_fld T.k_Map T.n_Map_outages (vv 0) mapP_outages))) (blkOk_by (N := N_fm) (sc := defScope s_first_mark) (by decide +kernel)) (fun _ => pgn 2 sc_first_mark.nd) (fun o _ => tg_name (by decide)) (fun o _ b => ev_ifd (et_tru (ep_of (vv 2)) (by cases o <;> rfl)) (fun _ => ev_non) fun _ => ev_int) sz)) ?_) ?_
  · unfold firstMark eOuts
    rw [List.map_map]
    refine congrArg PyData.tuple (List.map_congr_left fun o _ => ?_)
    show (if tru (eO o) = true then PyData.none else .int 0) = eO (if tr o = true then none else some 0)
    rw [tru_eO]
    split <;> rfl
  · refine sv_retd (ev_tup (ed_cons (vv 1) (ed_cons (ev_repTn (n := m.areas.length) (ev_tup (ed_cons ev_bl ed_nil) (by decide)) (ev_eq (ev_lenT T.b_len (ep_of (ev_fld T.k_Map T.n_Map_areas (vv 0) mapP_areas))) (by rw [List.length_map])) (by omega)) ed_nil)) (by show 2 ≤ sizeLine; decide)) ?_
    unfold eMark firstMark eBs
    rw [List.map_replicate]
theorem sc_can_pay : FnScope ["chart", "time", "area", "mark", "outage"] ["chart", "time", "area", "mark"] (defScope s_can_pay) := ⟨rfl, rfl, rfl, by decide +kernel, rfl, by decide +kernel, by decide +kernel⟩
theorem outAt_get {m : Mp} {a : Nat} (ho : m.outs.length = m.areas.length) (ha : a < m.areas.length) : (m.outs.map eO)[a]? = some (eO (outAt m a)) := getD_map (by omega)
theorem ok_can_pay (T : TX K mg) : Def P w K mg base "can_pay" 1 ["chart", "time", "area", "mark"] (spA (fun x : Mp × Int × Nat × Mark => MpOk x.1 ∧ x.2.2.1 < x.1.areas.length ∧ MarkOk x.1 x.2.2.2) (fun x => [mapP (CM K) x.1, da (.int x.2.1), da (.int (x.2.2.1 : Nat)), da (eMark x.2.2.2)]) (fun x => da (.bool (canPay x.1 x.2.1 x.2.2.1 x.2.2.2)))) := by
  refine def_mk T.d_can_pay sc_can_pay (fun _ _ _ _ _ _ us hl => match us, hl with | [_, _, _, _], _ => rfl) (fun _ => rfl) (by decide) fun ⟨m, t, a, k⟩ ⟨hm, ha, hk⟩ f cdv A outer s0 H0 H E B hr => ?_
  have hm : MpOk m := hm
  have ha : a < m.areas.length := ha
  have hk : MarkOk m k := hk
  refine sv_set (i := 4) (φ := da (eO (outAt m a))) sc_can_pay.nd (ev_ixT (ev_fld T.k_Map T.n_Map_outages (vv 0) mapP_outages) (vv 2) (atI_nat (outAt_get hm.outs.1 ha))) ?_
  have hl : (k.1.map eO)[a]? = some (eO (k.1.getD a none)) := getD_map (by rw [hk.1]; exact ha)
  cases e : outAt m a with
  | none =>
    refine sv_guard (et_o2 (y := true) (et_is (vv 4) ev_non) fun h => by cases h) (fun _ => ?_) fun h => by cases h
    exact sv_retd ev_bl (by simp [canPay, e])
  | some o =>
    refine sv_guard (et_o2 (et_is (d := .int o) (vv 4) ev_non) fun _ => et_not (et_lele (ev_neg (i := o) (vv 4)) (vv 1) (ev_sub (i := o) (vv 4) ev_int))) (fun h => sv_retd ev_bl ?_) fun h => ?_
    · have h2 : (decide (-o ≤ t) && decide (t ≤ o - 1)) = false := Bool.not_eq_true' _ ▸ (by simpa only [isN, Bool.false_or] using h)
      simp only [canPay, e, h2, Bool.false_and]
    · have h2 : (decide (-o ≤ t) && decide (t ≤ o - 1)) = true := Bool.not_eq_false' _ ▸ (by simpa only [isN, Bool.false_or] using h)
      cases e2 : k.1.getD a none with
      | none =>
        rw [e2] at hl
        refine sv_retd (ev_o2 (y := true) (ev_is (d := .none) (ev_ixT (ds := k.1.map eO) (ev_ixT (ds := [eOuts k.1, eBs k.2]) (vv 3) ev_int rfl) (vv 2) (atI_nat hl)) ev_non) fun h => by cases h) ?_
        simp only [canPay, e, e2, h2]
        rfl
      | some l =>
        rw [e2] at hl
        refine sv_retd (ev_o2 (ev_is (d := .int l) (ev_ixT (ds := k.1.map eO) (ev_ixT (ds := [eOuts k.1, eBs k.2]) (vv 3) ev_int rfl) (vv 2) (atI_nat hl)) ev_non) fun h => ev_gt (j := 0) (i := l) (ev_ixT (ds := k.1.map eO) (ev_ixT (ds := [eOuts k.1, eBs k.2]) (vv 3) ev_int rfl) (vv 2) (atI_nat hl)) ev_int) ?_
        simp only [canPay, e, e2, h2, Bool.true_and]
        rfl
theorem sc_put : FnScope ["row", "at", "value"] ["row", "at", "value"] (defScope s_put) := ⟨rfl, rfl, rfl, by decide +kernel, rfl, by decide +kernel, by decide +kernel⟩
theorem ok_put (T : TX K mg) : Def P w K mg base "put" 1 ["row", "at", "value"] (spA (fun x : List PyData × Nat × PyData => x.2.1 < x.1.length ∧ x.1.length ≤ 100) (fun x => [da (.tuple x.1), da (.int (x.2.1 : Nat)), da x.2.2]) (fun x => da (.tuple (x.1.set x.2.1 x.2.2)))) := by
  refine def_mk T.d_put sc_put (fun _ _ _ _ _ _ us hl => match us, hl with | [_, _, _], _ => rfl) (fun _ => rfl) (by decide) fun ⟨ds, n, d⟩ ⟨h1, h2⟩ f cdv A outer s0 H0 H E B hr => ?_
  have h1 : n < ds.length := h1
  have h2 : ds.length ≤ 100 := h2
  have e1 : cutL ds none (some ((n : Nat) : Int)) ++ (d :: (cutL ds (some (((n + 1 : Nat)) : Int)) none ++ [])) = ds.set n d := by
    rw [cutL_to, cutL_from, List.append_nil, List.set_eq_take_append_cons_drop, if_pos h1]
  refine sv_retd (ev_tup (ed_star (ev_sliceT (vv 0) eo_none (eo_some (vv 1))) (ed_cons (vv 2) (ed_star (ev_sliceT (vv 0) (eo_some (i := ((n + 1 : Nat) : Int)) (ev_eq (ev_add (i := ((n : Nat) : Int)) (j := 1) (vv 1) ev_int) (congrArg PyData.int (by omega)))) eo_none) ed_nil))) ?_) (congrArg PyData.tuple e1)
  · have e2 : (cutL ds none (some ((n : Nat) : Int)) ++ (d :: (cutL ds (some (((n + 1 : Nat)) : Int)) none ++ []))).length ≤ sizeLine := by
      rw [e1, List.length_set]
      exact sz
    exact e2
theorem sc_paid_mark : FnScope ["chart", "time", "area", "mark", "lefts", "todays", "outage", "left"] ["chart", "time", "area", "mark"] (defScope s_paid_mark) := ⟨rfl, rfl, rfl, by decide +kernel, rfl, by decide +kernel, by decide +kernel⟩
theorem ok_paid_mark (T : TX K mg) : Def P w K mg base "paid_mark" 2 ["chart", "time", "area", "mark"] (spA (fun x : Mp × Int × Nat × Mark => (MpOk x.1 ∧ x.2.2.1 < x.1.areas.length ∧ MarkOk x.1 x.2.2.2) ∧ outAt x.1 x.2.2.1 ≠ none) (fun x => [mapP (CM K) x.1, da (.int x.2.1), da (.int (x.2.2.1 : Nat)), da (eMark x.2.2.2)]) (fun x => da (eMark (paidMark x.1 x.2.1 x.2.2.1 x.2.2.2)))) := by
  refine def_mk T.d_paid_mark sc_paid_mark (fun _ _ _ _ _ _ us hl => match us, hl with | [_, _, _, _], _ => rfl) (fun _ => rfl) (by decide) fun ⟨m, t, a, k⟩ ⟨⟨hm, ha, hk⟩, hne⟩ f cdv A outer s0 H0 H E B hr => ?_
  have hm : MpOk m := hm
  have ha : a < m.areas.length := ha
  have hk : MarkOk m k := hk
  have h4 := hm.areas.1.2
  have hk1 := hk.1
  have hk2 := hk.2
  have hne : outAt m a ≠ none := hne
  obtain ⟨o, e⟩ := Option.ne_none_iff_exists'.mp hne
  have hl : (k.1.map eO)[a]? = some (eO (k.1.getD a none)) := getD_map (by rw [hk.1]; exact ha)
  have hoo := outAt_get hm.outs.1 ha
  rw [e] at hoo
  refine sv_asg (f := fun ρ => (ρ.set 4 (.val (da (eOuts k.1)))).set 5 (.val (da (eBs k.2)))) (vs := [4, 5]) (vv 3) (pg_tup rfl (pgs_cons (pgn 4 sc_paid_mark.nd) (pgs_cons (pgn 5 sc_paid_mark.nd) pgs_nil))) (tg_tup (tgs_cons (by decide) (tgs_cons (by decide) tgs_nil)) rfl) ?_
  refine sv_set (i := 6) (φ := da (.int o)) sc_paid_mark.nd (ev_ixT (ev_fld T.k_Map T.n_Map_outages (vv 0) mapP_outages) (vv 2) (atI_nat hoo)) ?_
  have hif : ∀ {pos ps : Pos} {B1 : Hp × Hp}, True := fun {_ _ _} => True.intro
  refine sv_set (i := 7) (φ := da (eO (paidLeft (outAt m a) t (k.1.getD a none)))) sc_paid_mark.nd ?_ ?_
  · rw [e]
    cases e2 : k.1.getD a none with
    | none =>
      rw [e2] at hl
      refine ev_if (et_is (d := .none) (ev_ixT (ds := k.1.map eO) (vv 4) (vv 2) (atI_nat hl)) ev_non) (fun _ => ?_) fun h => by cases h
      exact ev_min2 rfl T.b_min (ev_int1 T.b_int (vv 6)) (ev_int1 T.b_int (ev_sub (vv 6) (vv 1)))
    | some l =>
      rw [e2] at hl
      refine ev_if (et_is (d := .int l) (ev_ixT (ds := k.1.map eO) (vv 4) (vv 2) (atI_nat hl)) ev_non) (fun h => by cases h) fun _ => ?_
      exact ev_ixT (ds := k.1.map eO) (vv 4) (vv 2) (atI_nat hl)
  · refine sv_retd (ev_tup (ed_cons (ev_call (ok_put T) (k.1.map eO, a, eO (paidLeft (outAt m a) t (k.1.getD a none))) ⟨by show a < (k.1.map eO).length; rw [List.length_map]; omega, by show (k.1.map eO).length ≤ 100; rw [List.length_map]; omega⟩ hr (ea3 (vv 4) (vv 2) (vv 7)))
      (ed_cons (ev_call (ok_put T) (k.2.map .bool, a, .bool true) ⟨by show a < (k.2.map PyData.bool).length; rw [List.length_map]; omega, by show (k.2.map PyData.bool).length ≤ 100; rw [List.length_map]; omega⟩ hr (ea3 (vv 5) (vv 2) ev_bl)) ed_nil)) (by show 2 ≤ sizeLine; decide)) ?_
    unfold eMark paidMark eOuts eBs
    rw [List.map_set, List.map_set]
theorem sc_left_behind : FnScope ["outage", "left", "time"] ["outage", "left", "time"] (defScope s_left_behind) := ⟨rfl, rfl, rfl, by decide +kernel, rfl, by decide +kernel, by decide +kernel⟩
theorem ok_left_behind (T : TX K mg) : Def P w K mg base "left_behind" 1 ["outage", "left", "time"] (spA (fun _ : Option Int × Option Int × Int => True) (fun x => [da (eO x.1), da (eO x.2.1), da (.int x.2.2)]) (fun x => da (eO (leftBehind x.1 x.2.1 x.2.2)))) := by
  refine def_mk T.d_left_behind sc_left_behind (fun _ _ _ _ _ _ us hl => match us, hl with | [_, _, _], _ => rfl) (fun _ => rfl) (by decide) fun ⟨o, l, t⟩ _ f cdv A outer s0 H0 H E B hr => ?_
  refine sv_guard (et_not (et_tru (ep_of (vv 0)) (by cases o <;> rfl))) (fun h => sv_retd ev_int ?_) fun h => ?_
  · have h2 : tr o = false := by rw [← tru_eO]; simpa using h
    show PyData.int 0 = eO (leftBehind o l t)
    unfold leftBehind
    rw [h2]
    rfl
  · have h2 : tr o = true := by rw [← tru_eO]; simpa using h
    cases o with
    | none => cases h2
    | some o =>
      cases l with
      | none =>
        refine sv_guard (et_is (d := .none) (vv 1) ev_non) (fun _ => ?_) fun h => by cases h
        refine sv_retd (ev_ifd (d1 := .none) (d2 := .int 0) (et_le (vv 2) (ev_sub (i := o) (vv 0) ev_int)) (fun _ => ev_non) fun _ => ev_int) ?_
        show (if decide (t ≤ o - 1) = true then PyData.none else .int 0) = eO (leftBehind (some o) none t)
        unfold leftBehind
        rw [h2]
        by_cases z : t ≤ o - 1
        · simp [z, eO]
        · simp [z, eO]
      | some l =>
        refine sv_guard (et_is (d := .int l) (vv 1) ev_non) (fun h => by cases h) fun _ => ?_
        refine sv_retd (ev_max2 rfl T.b_max ev_int (ev_int1 T.b_int (ev_sub (i := l) (vv 1) ev_int))) ?_
        show _ = eO (leftBehind (some o) (some l) t)
        unfold leftBehind
        rw [h2]
        rfl
abbrev N_mm : List Str := ["chart", "phase", "time", "mark", "lefts", "todays", "later", "kept", "area", "today", "outage", "left"]
theorem sc_moved_mark : FnScope N_mm ["chart", "phase", "time", "mark"] (defScope s_moved_mark) := ⟨rfl, rfl, rfl, by decide +kernel, rfl, by decide +kernel, by decide +kernel⟩
theorem take_map_snoc {α β : Type} (f : α → β) {l : List α} {i : Nat} {x : α} (h : l[i]? = some x) : (l.take i).map f ++ [f x] = (l.take (i + 1)).map f := by
  rw [take_succ_get h, List.map_append]
  rfl
theorem ok_moved_mark (T : TX K mg) : Def P w K mg base "moved_mark" 2 ["chart", "phase", "time", "mark"] (spA (fun x : Mp × Int × Int × Mark => MpOk x.1 ∧ MarkOk x.1 x.2.2.2) (fun x => [mapP (CM K) x.1, da (.int x.2.1), da (.int x.2.2.1), da (eMark x.2.2.2)]) (fun x => da (eMark (movedMark x.1 x.2.1 x.2.2.1 x.2.2.2)))) := by
  refine def_mk T.d_moved_mark sc_moved_mark (fun _ _ _ _ _ _ us hl => match us, hl with | [_, _, _, _], _ => rfl) (fun _ => rfl) (by decide) fun ⟨m, ph, t, k⟩ ⟨hm, hk⟩ f cdv A outer s0 H0 H E B hr => ?_
  have hm : MpOk m := hm
  have hk : MarkOk m k := hk
  have h4 := hm.areas.1.2
  have hk1 := hk.1
  have hk2 := hk.2
  have hz : (m.outs.zip k.1).length ≤ 4 := by rw [List.length_zip]; omega
  refine sv_asg (f := fun ρ => (ρ.set 4 (.val (da (eOuts k.1)))).set 5 (.val (da (eBs k.2)))) (vs := [4, 5]) (vv 3) (pg_tup rfl (pgs_cons (pgn 4 sc_moved_mark.nd) (pgs_cons (pgn 5 sc_moved_mark.nd) pgs_nil))) (tg_tup (tgs_cons (by decide) (tgs_cons (by decide) tgs_nil)) rfl) ?_
  refine sv_setLc0 (i := 6) (xs := m.outs.zip k.1) (f := fun y => eO (leftBehind y.1 y.2 (t + 1))) (g := fun y => da (.tuple [eO y.1, eO y.2])) (own := [("outage", 10), ("left", 11)]) (tgG := gTup K 2 (gCons (gName 10) (gCons (gName 11) gNil))) (fρ := fun y ρ => (ρ.set 10 (.val (da (eO y.1)))).set 11 (.val (da (eO y.2)))) rfl sc_moved_mark.nd
    (it_of (if_zipT T.b_zip (ev_fld T.k_Map T.n_Map_outages (vv 0) mapP_outages) (vv 4))) (blkOk_by (N := N_mm) (sc := defScope s_moved_mark) (by decide +kernel)) (fun _ => pg_tup rfl (pgs_cons (pgn 10 sc_moved_mark.nd) (pgs_cons (pgn 11 sc_moved_mark.nd) pgs_nil))) (fun y _ => tg_tup (tgs_cons (by decide) (tgs_cons (by decide) tgs_nil)) rfl)
    (fun y _ b => ev_call (ok_left_behind T) (y.1, y.2, t + 1) True.intro hr (ea3 (vv 10) (vv 11) (ev_add (vv 2) ev_int))) sz ?_
  refine sv_ownL (i := 7) sc_moved_mark.nd ed_nil (by decide) fun p => ?_
  refine sv_for (xs := k.2.zipIdx) (g := fun y => da (.tuple [.int (y.2 : Nat), .bool y.1])) (vs := [8, 9]) (fun i ρ' ow' => (∃ s8 s9, ρ' = [.val (mapP (CM K) m), .val (da (.int ph)), .val (da (.int t)), .val (da (eMark k)), .val (da (eOuts k.1)), .val (da (eBs k.2)), .val (da (.list ((m.outs.zip k.1).map fun y => eO (leftBehind y.1 y.2 (t + 1))))), .ptr p, s8, s9, .no, .no]) ∧ ow' = [(p, ol ((k.2.zipIdx.take i).map fun y => .bool (y.1 && decide (dayOf m y.2 ph t = dayOf m y.2 ph (t + 1)))))])
    PassesOwn.never rfl (if_enumT T.b_enumerate (vv 5)) (pg_tup rfl (pgs_cons (pgn 8 sc_moved_mark.nd) (pgs_cons (pgn 9 sc_moved_mark.nd) pgs_nil))) (fun y _ => tg_tup (tgs_cons (by decide) (tgs_cons (by decide) tgs_nil)) rfl) ⟨⟨_, _, rfl⟩, rfl⟩ (fun i x ρ' ow' B' hx hI => ?_) fun ρ' ow' hI => ?_
  · obtain ⟨⟨s8, s9, rfl⟩, rfl⟩ := hI
    obtain ⟨y, n⟩ := x
    obtain ⟨e1, e2⟩ := zipIdx_get hx
    have e1 : k.2[i]? = some y := e1
    obtain rfl : n = i := e2
    have hn : n < m.areas.length := by
      have := (List.getElem?_eq_some_iff.mp e1).1
      omega
    refine sv_append (i := 7) rfl (ev_a2 (vv 9) fun _ => ev_eqI (ev_meth T.k_Map (ok_day T) (m, n, ph, t) ⟨hm, hn⟩ hr (vv 0) mapP_m_day (ea3 (vv 8) (vv 1) (vv 2)) rfl) (ev_meth T.k_Map (ok_day T) (m, n, ph, t + 1) ⟨hm, hn⟩ hr (vv 0) mapP_m_day (ea3 (vv 8) (vv 1) (ev_add (vv 2) ev_int)) rfl)) ?_ ?_
    · rw [List.length_map, List.length_take, List.length_zipIdx]
      exact szl
    · rw [take_map_snoc (fun y : Bool × Nat => PyData.bool (y.1 && decide (dayOf m y.2 ph t = dayOf m y.2 ph (t + 1)))) hx]
      exact sv_nil ⟨⟨_, _, rfl⟩, rfl⟩
  · obtain ⟨⟨s8, s9, rfl⟩, rfl⟩ := hI
    rw [List.take_length]
    refine sv_freeze (i := 7) rfl ?_
    refine sv_retd (ev_tup (ed_cons (ev_tupleL T.b_tuple (vv 6)) (ed_cons (ev_tupleL T.b_tuple (vv 7)) ed_nil)) (by show 2 ≤ sizeLine; decide)) ?_
    unfold eMark movedMark eOuts eBs
    rw [List.map_map, List.map_map]
    rfl
end
end L2.My
end
section
set_option Elab.async false
set_option linter.all false
set_option maxRecDepth 100000
set_option autoImplicit false
/-! D9: maps and limits checked; steps. -/
namespace L2.My
open PySem PySem.Spec PyProof.Rows
structure IsM (K : PySem.W.Frag) : Prop where
  ha : PySem.W.findIn K (.ref (CM K)) "__class__" = some (some (.builtin "object.__class__"))
  hn : PySem.W.specialIn K (.builtin "object.__class__") "__get__" = some (some (.builtin "getset_descriptor.__get__"))
  htk : PySem.W.takesIn K (.builtin "object.__class__") = some true
  hm : PySem.W.mroIn K (CM K) (.type "object") = some true
  nn : PySem.W.kitOne K (.type "NoneType") (.ref (CM K)) = some false
section
variable {X : Cx} {B : Hp × Hp} {ρ : List Slot} {ow : Ow} {a b e : Expr} {pos p p2 : Pos} {m : Mp} {d : PyData} {i : Int}
theorem ev_isiM (T : TX X.K X.mg) (I : IsM X.K) (ha : EV X B ρ ow e (mapP (CM X.K) m)) (hg : Gl X "isinstance" := by rfl) (hg2 : Gl X "Map" := by rfl)
    (hs : starEach [e, .Name "Map" p2] X.env = (false, eval e X.env) :: starEach [.Name "Map" p2] X.env := by rfl) (hs2 : starEach [.Name "Map" p2] X.env = (false, eval (.Name "Map" p2) X.env) :: starEach [] X.env := by rfl) : EV X B ρ ow (.Call (.Name "isinstance" p) [e, .Name "Map" p2] [] pos) (da (.bool true)) :=
  ev_callB call_isi T.b_isinstance (ea_cons ha (ea_cons (φ := pp (CM X.K)) (ev_c (pe_glob (v := .ref (CM X.K)) hg2 T.g_Map rfl) fun _ => rfl) ea_nil hs2) hs) (fun vs G H Q s t k => by
    cases t with
    | cons q1 t =>
      cases t with
      | cons q2 t =>
        cases t
        cases (show _ = V.ref (CM X.K) from q2)
        obtain ⟨a, dx, v1, v2, v3, v4, v5, rfl, e2, _⟩ := (mapP (CM X.K) m).mono s q1
        exact ⟨_, _, _, _, true, rfl, .own _, .base (.ins e2 T.k_Map I.ha I.hn I.htk I.hm), by unfold PySem.W.kitOne; rw [if_pos]; exact beq_self_eq_true _, k _ G H (.refl s) (.bl true)⟩) hg (by decide +kernel) (by decide) (by decide) hs (by rw [hs2]; rfl)
theorem ev_isiM0 (T : TX X.K X.mg) (I : IsM X.K) (ha : EV X B ρ ow e (da .none)) (hg : Gl X "isinstance" := by rfl) (hg2 : Gl X "Map" := by rfl)
    (hs : starEach [e, .Name "Map" p2] X.env = (false, eval e X.env) :: starEach [.Name "Map" p2] X.env := by rfl) (hs2 : starEach [.Name "Map" p2] X.env = (false, eval (.Name "Map" p2) X.env) :: starEach [] X.env := by rfl) : EV X B ρ ow (.Call (.Name "isinstance" p) [e, .Name "Map" p2] [] pos) (da (.bool false)) :=
  ev_callB call_isi T.b_isinstance (ea_cons ha (ea_cons (φ := pp (CM X.K)) (ev_c (pe_glob (v := .ref (CM X.K)) hg2 T.g_Map rfl) fun _ => rfl) ea_nil hs2) hs) (fun vs G H Q s t k => by
    cases t with
    | cons q1 t =>
      cases t with
      | cons q2 t =>
        cases t
        cases (show _ = V.ref (CM X.K) from q2)
        cases (show Da G _ .none from q1)
        exact ⟨_, _, _, _, false, rfl, .own _, .base .non, I.nn, k _ G H (.refl s) (.bl false)⟩) hg (by decide +kernel) (by decide) (by decide) hs (by rw [hs2]; rfl)
theorem ev_ixQ {t : Bool} {ds : List PyData} (ha : EV X B ρ ow a (da (sq t ds))) (hb : EV X B ρ ow b (da (.int i))) (h : atI ds i = some d) (hs : PlainIx b := by intro _ _; rfl) : EV X B ρ ow (.Subscript a b pos) (da d) := by
  cases t with
  | true => exact ev_ixT ha hb h hs
  | false => exact ev_ixL ha hb h hs
end
def numsOk (many : Nat) : Option (Bool × List Int) → Bool
  | none => false
  | some (_, ls) => decide (ls.length = many) && ls.all fun l => decide (0 ≤ l)
def limAt (ls : List Int) (a : Nat) : Int := ls.getD a 0
def isNo : Option Int → Bool
  | none => true
  | some _ => false
def endless (m : Mp) (ls : List Int) : Option Str := m.areas.flatten.find? fun p => isNo (outAt m (areaOf m.areas p)) && decide (0 < limAt ls (areaOf m.areas p))
def eS : Option Str → PyData
  | none => .none
  | some s => .str s
abbrev Node := Int × Int × Str × Mark
def eNode (n : Node) : PyData := .tuple [.int n.1, .int n.2.1, .str n.2.2.1, eMark n.2.2.2]
def firstNodes (m : Mp) : List Node := (List.range m.len.toNat).flatMap fun ph => m.areas.flatten.map fun p => ((ph : Nat), -lastT m.outs, p, firstMark m)
abbrev Way := Bool × Int × Mark
def eWay (y : Way) : PyData := .tuple [.bool y.1, .int y.2.1, eMark y.2.2]
abbrev Step := Bool × Int × Node
def eStep (y : Step) : PyData := .tuple [.bool y.1, .int y.2.1, eNode y.2.2]
def ways (m : Mp) (ls : List Int) (n : Node) : List Way := (false, 0, n.2.2.2) :: (if canPay m n.2.1 (areaOf m.areas n.2.2.1) n.2.2.2 then [(true, if n.2.2.2.2.getD (areaOf m.areas n.2.2.1) false then 0 else limAt ls (areaOf m.areas n.2.2.1), paidMark m n.2.1 (areaOf m.areas n.2.2.1) n.2.2.2)] else [])
def stepsOf (m : Mp) (n : Node) (y : Way) : List Step := (nearL m n.2.2.1).map fun o => (y.1, y.2.1, (n.1, n.2.1 + 1, o, movedMark m n.1 n.2.1 y.2.2))
def stops (m : Mp) (ls : List Int) (n : Node) : List Step := (ways m ls n).flatMap (stepsOf m n)
def NodeOk (m : Mp) (n : Node) : Prop := n.2.2.1 ∈ m.areas.flatten ∧ MarkOk m n.2.2.2
theorem areaOf_lt {as : List (List Str)} {p : Str} (h : p ∈ as.flatten) : areaOf as p < as.length := by
  obtain ⟨a, ha, hp⟩ := List.mem_flatten.mp h
  exact List.findIdx_lt_length_of_exists ⟨a, ha, decide_eq_true hp⟩
section
variable {P : Program} {w : World} {K : PySem.W.Frag} {mg : Str → Option Value} {base : Heap}
theorem sc_are_numbers : FnScope ["value", "many", "number"] ["value", "many"] (defScope s_are_numbers) := ⟨rfl, rfl, rfl, by decide +kernel, rfl, by decide +kernel, by decide +kernel⟩
theorem ok_are_numbers (T : TX K mg) : Def P w K mg base "are_numbers" 2 ["value", "many"] (spA (fun x : Option (Bool × List Int) × Nat => ∀ t ls, x.1 = some (t, ls) → ls.length ≤ 1000) (fun x => [da (eB x.1), da (.int (x.2 : Nat))]) (fun x => da (.bool (numsOk x.2 x.1)))) := by
  refine def_mk T.d_are_numbers sc_are_numbers (fun _ _ _ _ _ _ us hl => match us, hl with | [_, _], _ => rfl) (fun _ => rfl) (by decide) fun ⟨o, many⟩ hs f cdv A outer s0 H0 H E B hr => ?_
  have tt : ∀ {d : PyData}, kitB (tyN d) "list" = some (isList d) := kb_list _
  cases o with
  | none =>
    refine sv_guard (et_o2 (y := true) (et_not (et_v (ev_isiT T.b_isinstance (d := .none) (vv 0) (pe_bltn (v := .ty "list") rfl T.b_list (by decide +kernel) rfl (by decide) (by decide)) (pe_bltn (v := .ty "tuple") rfl T.b_tuple (by decide +kernel) rfl (by decide) (by decide)) (kb_list _) (kb_tuple _)))) fun h => by cases h) (fun _ => sv_retd ev_bl rfl) fun h => by cases h
  | some tb =>
    obtain ⟨t, ls⟩ := tb
    have hl : ls.length ≤ 1000 := hs t ls rfl
    refine sv_guard (et_o2 (et_not (et_v (ev_isiT T.b_isinstance (d := sq t (ls.map .int)) (vv 0) (pe_bltn (v := .ty "list") rfl T.b_list (by decide +kernel) rfl (by decide) (by decide)) (pe_bltn (v := .ty "tuple") rfl T.b_tuple (by decide +kernel) rfl (by decide) (by decide)) (kb_list _) (kb_tuple _)))) fun _ => et_neI (ev_lenQ (t := t) (ds := ls.map .int) T.b_len (vv 0)) (vv 1)) (fun h => sv_retd ev_bl ?_) fun h => ?_
    · rw [isRow_sq, List.length_map] at h
      have h2 : ¬ ls.length = many := fun z => by
        rw [z, decide_eq_true rfl] at h
        cases h
      simp only [numsOk, decide_eq_false h2, Bool.false_and]
    · rw [isRow_sq, List.length_map] at h
      have h2 : ls.length = many := by
        have : ((ls.length : Nat) : Int) = (many : Nat) := by simpa using h
        omega
      refine sv_retd (ev_all (bs := ls.map fun l => decide (0 ≤ l)) rfl T.b_all (ep_of (ev_eq (ev_lc0 (xs := ls) (f := fun l => .bool (true && decide (0 ≤ l))) (g := fun l => da (.int l)) (own := [("number", 2)]) (tgG := gName 2) (fρ := fun l ρ => ρ.set 2 (.val (da (.int l)))) rfl sc_are_numbers.nd (it_of (if_sq (t := t) (f := PyData.int) (vv 0)))
        (blkOk_by (N := ["value", "many", "number"]) (sc := defScope s_are_numbers) (by decide +kernel)) (fun _ => pgn 2 sc_are_numbers.nd) (fun l _ => tg_name (by decide)) (fun l _ bk => ev_a2 (ev_call (ok_is_integer T) (.int l) True.intro hr (ea1 (vv 2))) fun _ => ev_ge (vv 2) ev_int) sz) (by rw [List.map_map]; rfl)))) ?_
      simp only [numsOk, decide_eq_true h2, Bool.true_and, List.all_map]
      rfl
end
end L2.My
end
section
set_option Elab.async false
set_option linter.all false
set_option maxRecDepth 100000
set_option autoImplicit false
/-! D10: check_map, endless_place, first_nodes, stops_of. -/
namespace L2.My
open PySem PySem.Spec PyProof.Rows
section
variable {X : Cx} {B : Hp × Hp} {ρ : List Slot} {ow : Ow} {a b c d e : Expr} {φ ψ χ θ : Pr} {x : Bool}
theorem ea4 (h : EV X B ρ ow a φ) (h2 : EV X B ρ ow b ψ) (h3 : EV X B ρ ow c χ) (h4 : EV X B ρ ow d θ) (hs : starEach [a, b, c, d] X.env = (false, eval a X.env) :: starEach [b, c, d] X.env := by rfl) (hs2 : starEach [b, c, d] X.env = (false, eval b X.env) :: starEach [c, d] X.env := by rfl) (hs3 : starEach [c, d] X.env = (false, eval c X.env) :: starEach [d] X.env := by rfl) (hs4 : starEach [d] X.env = (false, eval d X.env) :: starEach [] X.env := by rfl) : EA X B ρ ow [a, b, c, d] [φ, ψ, χ, θ] := ea_cons h (ea3 h2 h3 h4 hs2 hs3 hs4) hs
theorem ev_bT (h : EV X B ρ ow e (da (.bool x))) (he : ∀ whole, isTrue e X.env whole = (do let v ← whole; standAt e.pos; holding [v] (truthy v)) := by intro _; rfl) : ET X B ρ ow e x := et_v h he
end
section
variable {P : Program} {w : World} {K : PySem.W.Frag} {mg : Str → Option Value} {base : Heap}
theorem sc_check_map : FnScope ["chart", "limits"] ["chart", "limits"] (defScope s_check_map) := ⟨rfl, rfl, rfl, by decide +kernel, rfl, by decide +kernel, by decide +kernel⟩
theorem ok_check_map (T : TX K mg) (I : IsM K) : Def P w K mg base "check_map" 3 ["chart", "limits"] (spA (fun x : Mp × Bool × List Int => x.2.2.length ≤ 1000 ∧ numsOk x.1.areas.length (some x.2) = true) (fun x => [mapP (CM K) x.1, da (sq x.2.1 (x.2.2.map .int))]) (fun x => da .none)) := by
  refine def_mk T.d_check_map sc_check_map (fun _ _ _ _ _ _ us hl => match us, hl with | [_, _], _ => rfl) (fun _ => rfl) (by decide) fun ⟨m, t, ls⟩ ⟨h1, h2⟩ f cdv A outer s0 H0 H E B hr => ?_
  have h1 : ls.length ≤ 1000 := h1
  have h2 : numsOk m.areas.length (some (t, ls)) = true := h2
  refine sv_guard (et_not (et_v (ev_isiM T I (m := m) (vv 0)))) (fun h => by cases h) fun _ => ?_
  refine sv_guard (et_not (et_v (ev_call (ok_are_numbers T) (some (t, ls), m.areas.length) (fun t' ls' e => by cases e; exact h1) hr (ea2 (vv 1) (ev_eq (ev_lenT T.b_len (ep_of (ev_fld T.k_Map T.n_Map_areas (vv 0) (mapP_areas (m := m))))) (by rw [List.length_map])))))) (fun h => ?_) fun _ => sv_nil fun H => .non
  rw [h2] at h
  cases h
theorem sc_endless_place : FnScope ["chart", "limits", "place", "area"] ["chart", "limits"] (defScope s_endless_place) := ⟨rfl, rfl, rfl, by decide +kernel, rfl, by decide +kernel, by decide +kernel⟩
theorem ok_endless_place (T : TX K mg) : Def P w K mg base "endless_place" 2 ["chart", "limits"] (spA (fun x : Mp × Bool × List Int => MpOk x.1 ∧ x.2.2.length = x.1.areas.length) (fun x => [mapP (CM K) x.1, da (sq x.2.1 (x.2.2.map .int))]) (fun x => da (eS (endless x.1 x.2.2)))) := by
  refine def_mk T.d_endless_place sc_endless_place (fun _ _ _ _ _ _ us hl => match us, hl with | [_, _], _ => rfl) (fun _ => rfl) (by decide) fun ⟨m, t, ls⟩ ⟨hm, hl⟩ f cdv A outer s0 H0 H E B hr => ?_
  have hm : MpOk m := hm
  have hl : ls.length = m.areas.length := hl
  refine sv_for (xs := m.areas.flatten) (g := fun p => da (.str p)) (vs := [2]) (fun i ρ' ow' => (∃ s2 s3, ρ' = [.val (mapP (CM K) m), .val (da (sq t (ls.map .int))), s2, s3]) ∧ ow' = [] ∧ ∀ p ∈ m.areas.flatten.take i, (isNo (outAt m (areaOf m.areas p)) && decide (0 < limAt ls (areaOf m.areas p))) = false)
    PassesOwn.never rfl (if_list (f := PyData.str) (ev_meth0 T.k_Map (ok_places T) m.areas ⟨hm.areas.2.2.2, hm.areas.1.2⟩ hr (ev_as (vv 0) (mapP_areasP (m := m))) areasP_places rfl)) (pgn 2 sc_endless_place.nd) (fun y _ => tg_name (by decide)) ⟨⟨_, _, rfl⟩, rfl, fun p h => by simp at h⟩ (fun i p ρ' ow' B' hx hI => ?_) fun ρ' ow' hI => ?_
  · obtain ⟨⟨s2, s3, rfl⟩, rfl, hno⟩ := hI
    have hp : p ∈ m.areas.flatten := List.mem_of_getElem? hx
    have ha := areaOf_lt hp
    refine sv_set (i := 3) (φ := da (.int (areaOf m.areas p : Nat))) sc_endless_place.nd (ev_meth T.k_Map (ok_area_of T) (m, p) hp hr (vv 0) mapP_m_area_of (ea1 (vv 2)) rfl) ?_
    refine sv_guard (x := isNo (outAt m (areaOf m.areas p)) && decide (0 < limAt ls (areaOf m.areas p))) (et_eq (et_a2 (et_is (ev_ixT (ev_fld T.k_Map T.n_Map_outages (vv 0) (mapP_outages (m := m))) (vv 3) (atI_nat (outAt_get hm.outs.1 ha))) ev_non) fun _ => et_gt (ev_ixQ (t := t) (ds := ls.map .int) (d := .int (limAt ls (areaOf m.areas p))) (vv 1) (vv 3) (atI_nat (getD_map (by omega)))) ev_int) ?_) (fun h => sv_retd (vv 2) ?_) fun h => sv_nil ⟨⟨_, _, rfl⟩, rfl, fun q hq => ?_⟩
    · cases outAt m (areaOf m.areas p) <;> rfl
    · have : endless m ls = some p := by
        unfold endless
        refine List.find?_eq_some_iff_append.mpr ⟨h, m.areas.flatten.take i, m.areas.flatten.drop (i + 1), ?_, fun q hq => ?_⟩
        · have e1 := (List.getElem?_eq_some_iff.mp hx)
          obtain ⟨h1, h2⟩ := e1
          rw [← h2, List.getElem_cons_drop, List.take_append_drop]
        · rw [hno q hq]; rfl
      show PyData.str p = eS (endless m ls)
      rw [this]
      rfl
    · rw [take_succ_get hx] at hq
      rcases List.mem_append.mp hq with hq | hq
      · exact hno q hq
      · rw [List.mem_singleton.mp hq]; exact h
  · obtain ⟨⟨s2, s3, rfl⟩, rfl, hno⟩ := hI
    rw [List.take_length] at hno
    refine sv_retd ev_non ?_
    have : endless m ls = none := List.find?_eq_none.mpr fun p hp => by rw [hno p hp]; simp
    show PyData.none = eS (endless m ls)
    rw [this]
    rfl
abbrev N_fn : List Str := ["chart", "time", "mark", "phase", "place"]
theorem sc_first_nodes : FnScope N_fn ["chart"] (defScope s_first_nodes) := ⟨rfl, rfl, rfl, by decide +kernel, rfl, by decide +kernel, by decide +kernel⟩
theorem eq_map_flatMap {α β γ : Type} (f : β → γ) (xs : List α) (g : α → List β) : (xs.flatMap fun x => (g x).map f) = (xs.flatMap g).map f := by
  induction xs with
  | nil => rfl
  | cons a l ih => rw [List.flatMap_cons, ih, List.flatMap_cons, List.map_append]
theorem len_flatMap_le {α β : Type} (g : α → List β) (k : Nat) : ∀ xs : List α, (∀ x ∈ xs, (g x).length ≤ k) → (xs.flatMap g).length ≤ xs.length * k
  | [], _ => by simp
  | a :: l, h => by
    have ih := len_flatMap_le g k l fun x hx => h x (List.mem_cons_of_mem _ hx)
    have h0 := h a List.mem_cons_self
    rw [List.flatMap_cons, List.length_append, List.length_cons, Nat.add_mul]
    omega
theorem ok_first_nodes (T : TX K mg) : Def P w K mg base "first_nodes" 2 ["chart"] (spA (fun m : Mp => MpOk m) (fun m => [mapP (CM K) m]) (fun m => da (.list ((firstNodes m).map eNode)))) := by
  refine def_mk T.d_first_nodes sc_first_nodes (fun _ _ _ _ _ _ us hl => match us, hl with | [_], _ => rfl) (fun _ => rfl) (by decide) fun m hm f cdv A outer s0 H0 H E B hr => ?_
  have hm : MpOk m := hm
  have hlen := hm.len
  have h4 := hm.areas.2.2.2
  have hn : m.len = ((m.len.toNat : Nat) : Int) := by omega
  refine sv_asg (f := fun ρ => (ρ.set 1 (.val (da (.int (-lastT m.outs))))).set 2 (.val (da (eMark (firstMark m))))) (vs := [1, 2]) (ev_tup (ed_cons (ev_neg (ev_meth0 T.k_Map (ok_reach_of_time T) m hm hr (vv 0) mapP_m_reach_of_time rfl)) (ed_cons (ev_call (ok_first_mark T) m hm hr (ea1 (vv 0))) ed_nil)) (by show 2 ≤ sizeLine; decide)) (pg_tup rfl (pgs_cons (pgn 1 sc_first_nodes.nd) (pgs_cons (pgn 2 sc_first_nodes.nd) pgs_nil))) (tg_tup (tgs_cons (by decide) (tgs_cons (by decide) tgs_nil)) rfl) ?_
  refine sv_retd (ev_lc20 (xs := List.range m.len.toNat) (ys := fun _ => m.areas.flatten) (g := fun i => da (.int (i : Nat))) (g1 := fun _ s => da (.str s)) (f1 := fun i s => eNode ((i : Nat), -lastT m.outs, s, firstMark m)) (own := [("phase", 3), ("place", 4)]) (vs1 := [4]) (tgG := gName 3) (tgG1 := gName 4) (fρ := fun i ρ => ρ.set 3 (.val (da (.int (i : Nat))))) (fρ1 := fun _ s ρ => ρ.set 4 (.val (da (.str s)))) rfl sc_first_nodes.nd
    (it_of (if_range1 T.b_range (ev_eq (ev_fld T.k_Map T.n_Map_length (vv 0) (mapP_length (m := m))) (congrArg PyData.int hn)) (by omega))) (blkOk_by (N := N_fn) (sc := defScope s_first_nodes) (by decide +kernel)) (by decide) (fun _ => pgn 3 sc_first_nodes.nd) (fun i _ => tg_name (by decide)) (fun i _ b => if_list (f := PyData.str) (ev_meth0 T.k_Map (ok_places T) m.areas ⟨hm.areas.2.2.2, hm.areas.1.2⟩ (hr.mono (by decide)) (ev_as (vv 0) (mapP_areasP (m := m))) areasP_places rfl)) (fun _ => pgn 4 sc_first_nodes.nd) (fun i _ s _ => tg_name (by decide))
    (fun i _ s _ b => ev_tup (ed_cons (vv 3) (ed_cons (vv 1) (ed_cons (vv 4) (ed_cons (vv 2) ed_nil)))) (by show 4 ≤ sizeLine; decide)) ?_) ?_
  · have := len_flatMap_le (fun _ : Nat => m.areas.flatten) 6 (List.range m.len.toNat) fun _ _ => h4
    rw [List.length_range] at this
    exact sz
  · unfold firstNodes
    rw [← eq_map_flatMap]
    simp only [List.map_map]
    rfl
abbrev N_so : List Str := ["chart", "limits", "node", "phase", "time", "place", "mark", "area", "ways", "found", "pays", "units", "later", "moved", "other"]
theorem sc_stops_of : FnScope N_so ["chart", "limits", "node"] (defScope s_stops_of) := ⟨rfl, rfl, rfl, by decide +kernel, rfl, by decide +kernel, by decide +kernel⟩
theorem movedMark_len {m : Mp} {ph t : Int} {k : Mark} (ho : m.outs.length = m.areas.length) (hk : MarkOk m k) : MarkOk m (movedMark m ph t k) := by
  obtain ⟨h1, h2⟩ := hk
  refine ⟨?_, ?_⟩
  · show ((m.outs.zip k.1).map _).length = _
    rw [List.length_map, List.length_zip]
    omega
  · show (k.2.zipIdx.map _).length = _
    rw [List.length_map, List.length_zipIdx]
    exact h2
theorem paidMark_len {m : Mp} {t : Int} {a : Nat} {k : Mark} (hk : MarkOk m k) : MarkOk m (paidMark m t a k) := by
  obtain ⟨h1, h2⟩ := hk
  exact ⟨by show (k.1.set _ _).length = _; rw [List.length_set]; exact h1, by show (k.2.set _ _).length = _; rw [List.length_set]; exact h2⟩
theorem canPay_out {m : Mp} {t : Int} {a : Nat} {k : Mark} (h : canPay m t a k = true) : outAt m a ≠ none := fun e => by
  unfold canPay at h
  rw [e] at h
  cases h
theorem ways_ok {m : Mp} {ls : List Int} {n : Node} (hk : NodeOk m n) : ∀ y ∈ ways m ls n, MarkOk m y.2.2 := by
  intro y hy
  unfold ways at hy
  rcases List.mem_cons.mp hy with e | hy
  · rw [e]; exact hk.2
  · split at hy
    · rw [List.mem_singleton.mp hy]; exact paidMark_len hk.2
    · cases hy
theorem near_len (m : Mp) (hm : MpOk m) (p : Str) : (nearL m p).length ≤ 6 := Nat.le_trans (List.length_filter_le _ _) hm.areas.2.2.2
theorem ways_len (m : Mp) (ls : List Int) (n : Node) : (ways m ls n).length ≤ 2 := by
  unfold ways
  split <;> simp
theorem ok_stops_of (T : TX K mg) : Def P w K mg base "stops_of" 3 ["chart", "limits", "node"] (spA (fun x : Mp × (Bool × List Int) × Node => MpOk x.1 ∧ x.2.1.2.length = x.1.areas.length ∧ NodeOk x.1 x.2.2) (fun x => [mapP (CM K) x.1, da (sq x.2.1.1 (x.2.1.2.map .int)), da (eNode x.2.2)]) (fun x => da (.list ((stops x.1 x.2.1.2 x.2.2).map eStep)))) := by
  refine def_mk T.d_stops_of sc_stops_of (fun _ _ _ _ _ _ us hl => match us, hl with | [_, _, _], _ => rfl) (fun _ => rfl) (by decide) fun ⟨m, ⟨t, ls⟩, n⟩ ⟨hm, hl, hn⟩ f cdv A outer s0 H0 H E B hr => ?_
  have hm : MpOk m := hm
  have hl : ls.length = m.areas.length := hl
  have hn : NodeOk m n := hn
  obtain ⟨ph, tm, p, k⟩ := n
  have hp : p ∈ m.areas.flatten := hn.1
  have hk : MarkOk m k := hn.2
  have ha := areaOf_lt hp
  have hsh := nods_ints ls
  refine sv_asg (f := fun ρ => (((ρ.set 3 (.val (da (.int ph)))).set 4 (.val (da (.int tm)))).set 5 (.val (da (.str p)))).set 6 (.val (da (eMark k)))) (vs := [3, 4, 5, 6]) (vv 2) (pg_tup rfl (pgs_cons (pgn 3 sc_stops_of.nd) (pgs_cons (pgn 4 sc_stops_of.nd) (pgs_cons (pgn 5 sc_stops_of.nd) (pgs_cons (pgn 6 sc_stops_of.nd) pgs_nil))))) (tg_tup (tgs_cons (by decide) (tgs_cons (by decide) (tgs_cons (by decide) (tgs_cons (by decide) tgs_nil)))) rfl) ?_
  refine sv_set (i := 7) (φ := da (.int (areaOf m.areas p : Nat))) sc_stops_of.nd (ev_meth T.k_Map (ok_area_of T) (m, p) hp (hr.mono (by decide)) (vv 0) mapP_m_area_of (ea1 (vv 5)) rfl) ?_
  refine sv_ownL (i := 8) (ds := [eWay (false, 0, k)]) sc_stops_of.nd (ed_cons (ev_tup (ed_cons ev_bl (ed_cons ev_int (ed_cons (vv 6) ed_nil))) (by show 3 ≤ sizeLine; decide)) ed_nil) (by show 1 ≤ sizeLine; decide) fun q => ?_
  have hrest : ∀ D : Out, (∀ s8, SV (cxF P w K mg base N_so "stops_of" s_stops_of f cdv A outer s0 H E) B [.val (mapP (CM K) m), .val (da (sq t (ls.map .int))), .val (da (eNode (ph, tm, p, k))), .val (da (.int ph)), .val (da (.int tm)), .val (da (.str p)), .val (da (eMark k)), .val (da (.int (areaOf m.areas p : Nat))), .val (da (.list ((ways m ls (ph, tm, p, k)).map eWay))), s8, .no, .no, .no, .no, .no] [] ((defBody s_stops_of).drop 4) D) → True := fun _ _ => True.intro
  have hmk : (eBs k.2) = .tuple (k.2.map .bool) := rfl
  have hgo : SV (cxF P w K mg base N_so "stops_of" s_stops_of f cdv A outer s0 H E) B [.val (mapP (CM K) m), .val (da (sq t (ls.map .int))), .val (da (eNode (ph, tm, p, k))), .val (da (.int ph)), .val (da (.int tm)), .val (da (.str p)), .val (da (eMark k)), .val (da (.int (areaOf m.areas p : Nat))), .val (da (.list ((ways m ls (ph, tm, p, k)).map eWay))), .no, .no, .no, .no, .no, .no] [] ((defBody s_stops_of).drop 4) { nx := fun _ _ => ∀ H, (da (.list ((stops m ls (ph, tm, p, k)).map eStep))).p H .non, rt := da (.list ((stops m ls (ph, tm, p, k)).map eStep)) } := by
    refine sv_ownL (i := 9) sc_stops_of.nd ed_nil (by decide) fun q2 => ?_
    refine sv_for (xs := ways m ls (ph, tm, p, k)) (g := fun y => da (eWay y)) (vs := [10, 11, 12]) (fun i ρ' ow' => (∃ s10 s11 s12 s13, ρ' = [.val (mapP (CM K) m), .val (da (sq t (ls.map .int))), .val (da (eNode (ph, tm, p, k))), .val (da (.int ph)), .val (da (.int tm)), .val (da (.str p)), .val (da (eMark k)), .val (da (.int (areaOf m.areas p : Nat))), .val (da (.list ((ways m ls (ph, tm, p, k)).map eWay))), .ptr q2, s10, s11, s12, s13, .no]) ∧ ow' = [(q2, ol ((((ways m ls (ph, tm, p, k)).take i).flatMap (stepsOf m (ph, tm, p, k))).map eStep))])
      PassesOwn.never rfl (if_list (f := eWay) (vv 8)) (pg_tup rfl (pgs_cons (pgn 10 sc_stops_of.nd) (pgs_cons (pgn 11 sc_stops_of.nd) (pgs_cons (pgn 12 sc_stops_of.nd) pgs_nil)))) (fun y _ => tg_tup (tgs_cons (by decide) (tgs_cons (by decide) (tgs_cons (by decide) tgs_nil))) rfl) ⟨⟨_, _, _, _, rfl⟩, rfl⟩ (fun i y ρ' ow' B' hx hI => ?_) fun ρ' ow' hI => ?_
    · obtain ⟨⟨s10, s11, s12, s13, rfl⟩, rfl⟩ := hI
      have hy := ways_ok hn y (List.mem_of_getElem? hx)
      refine sv_set (i := 13) (φ := da (eMark (movedMark m ph tm y.2.2))) sc_stops_of.nd (ev_call (ok_moved_mark T) (m, ph, tm, y.2.2) ⟨hm, hy⟩ hr (ea4 (vv 0) (vv 3) (vv 4) (vv 12))) ?_
      refine sv_extend (i := 9) (ds2 := (stepsOf m (ph, tm, p, k) y).map eStep) rfl (ev_eq (ev_lc0 (xs := nearL m p) (f := fun o => eStep (y.1, y.2.1, (ph, tm + 1, o, movedMark m ph tm y.2.2))) (g := fun o => da (.str o)) (own := [("other", 14)]) (tgG := gName 14) (fρ := fun o ρ => ρ.set 14 (.val (da (.str o)))) rfl sc_stops_of.nd (it_of (if_list (f := PyData.str) (ev_meth T.k_Map (ok_near T) (m, p) ⟨hm, hp⟩ hr (vv 0) mapP_m_near (ea1 (vv 5)) rfl))) (blkOk_by (N := N_so) (sc := defScope s_stops_of) (by decide +kernel)) (fun _ => pgn 14 sc_stops_of.nd) (fun o _ => tg_name (by decide))
        (fun o _ b => ev_tup (ed_cons (vv 10) (ed_cons (vv 11) (ed_cons (ev_tup (ed_cons (vv 3) (ed_cons (ev_add (vv 4) ev_int) (ed_cons (vv 14) (ed_cons (vv 13) ed_nil)))) (by show 4 ≤ sizeLine; decide)) ed_nil))) (by show 3 ≤ sizeLine; decide)) (by have := near_len m hm p; exact sz)) (by unfold stepsOf; rw [List.map_map]; rfl)) ?_ ?_
      · rw [List.length_map, List.length_map]
        have h1 := near_len m hm p
        have h2 := len_flatMap_le (stepsOf m (ph, tm, p, k)) 6 ((ways m ls (ph, tm, p, k)).take i) fun z _ => by unfold stepsOf; rw [List.length_map]; exact h1
        have h3 := ways_len m ls (ph, tm, p, k)
        have h4 : ((ways m ls (ph, tm, p, k)).take i).length ≤ 2 := Nat.le_trans (List.length_take_le' _ _) h3
        have h5 : (stepsOf m (ph, tm, p, k) y).length ≤ 6 := by unfold stepsOf; rw [List.length_map]; exact h1
        exact sz
      · refine sv_nil ⟨⟨_, _, _, _, rfl⟩, ?_⟩
        rw [take_succ_get hx, List.flatMap_append, List.map_append, List.flatMap_singleton]
    · obtain ⟨⟨s10, s11, s12, s13, rfl⟩, rfl⟩ := hI
      rw [List.take_length]
      refine sv_freeze (i := 9) rfl ?_
      exact sv_retd (vv 9) rfl
  refine sv_if (ev_bT (ev_call (ok_can_pay T) (m, tm, areaOf m.areas p, k) ⟨hm, ha, hk⟩ (hr.mono (by decide)) (ea4 (vv 0) (vv 4) (vv 7) (vv 6)))) (fun h => ?_) fun h => ?_
  · have hm2 : (k.2.map PyData.bool)[areaOf m.areas p]? = some (.bool (k.2.getD (areaOf m.areas p) false)) := getD_map (by rw [hk.2]; exact ha)
    refine sv_append (i := 8) (d := eWay (true, if k.2.getD (areaOf m.areas p) false = true then 0 else limAt ls (areaOf m.areas p), paidMark m tm (areaOf m.areas p) k)) rfl (ev_tup (ed_cons ev_bl (ed_cons (ev_eq (ev_ifd (d1 := .int 0) (d2 := .int (limAt ls (areaOf m.areas p))) (et_v (ev_ixT (ds := k.2.map .bool) (ev_ixT (ds := [eOuts k.1, eBs k.2]) (vv 6) ev_int rfl) (vv 7) (atI_nat hm2))) (fun _ => ev_int) fun _ => ev_ixQ (t := t) (ds := ls.map .int) (vv 1) (vv 7) (atI_nat (getD_map (by omega)))) (by split <;> rfl)) (ed_cons (ev_call (ok_paid_mark T) (m, tm, areaOf m.areas p, k) ⟨⟨hm, ha, hk⟩, canPay_out h⟩ hr (ea4 (vv 0) (vv 4) (vv 7) (vv 6))) ed_nil))) (by show 3 ≤ sizeLine; decide)) (by show 1 < sizeLine; decide) ?_
    refine sv_nil (sv_freeze (i := 8) rfl ?_)
    have e : ways m ls (ph, tm, p, k) = [(false, 0, k), (true, if k.2.getD (areaOf m.areas p) false = true then 0 else limAt ls (areaOf m.areas p), paidMark m tm (areaOf m.areas p) k)] := by
      unfold ways
      rw [if_pos h]
    rw [e] at hgo
    exact hgo
  · refine sv_nil (sv_freeze (i := 8) rfl ?_)
    have e : ways m ls (ph, tm, p, k) = [(false, 0, k)] := by
      unfold ways
      rw [if_neg (by rw [h]; simp)]
    rw [e] at hgo
    exact hgo
end
end L2.My
end
section
set_option Elab.async false
set_option linter.all false
set_option maxRecDepth 100000
set_option autoImplicit false
/-! D11: heights, in plain Lean. -/
namespace L2.My
open PySem PySem.Spec PyProof.Rows
theorem nkeys_map {α : Type} (f : α → PyData) : ∀ l : List α, nkeys (l.map f) = l.map fun a => nkey (f a)
  | [] => rfl
  | a :: l => by rw [List.map_cons, nkeys, nkeys_map f l, List.map_cons]
theorem koks_map {α : Type} {f : α → PyData} (h : ∀ a, kok (f a) = true) : ∀ l : List α, koks (l.map f) = true
  | [] => rfl
  | a :: l => by rw [List.map_cons, koks, h a, koks_map h l]; rfl
theorem nkey_eO (o : Option Int) : nkey (eO o) = match o with | none => .none | some i => .num i := by cases o <;> rfl
theorem nkey_eO_inj {a b : Option Int} (h : nkey (eO a) = nkey (eO b)) : a = b := by
  cases a <;> cases b <;> simp [eO, nkey] at h <;> simp [h]
theorem nkey_b_inj {a b : Bool} (h : nkey (.bool a) = nkey (.bool b)) : a = b := by
  cases a <;> cases b <;> simp [nkey] at h <;> rfl
theorem map_inj' {α β : Type} {f : α → β} (hf : ∀ a b, f a = f b → a = b) : ∀ {l m : List α}, l.map f = m.map f → l = m
  | [], [], _ => rfl
  | [], _ :: _, h => by cases h
  | _ :: _, [], h => by cases h
  | a :: l, b :: m, h => by
    rw [List.map_cons, List.map_cons] at h
    injection h with h1 h2
    rw [hf a b h1, map_inj' hf h2]
theorem nkey_eNode_inj {a b : Node} (h : nkey (eNode a) = nkey (eNode b)) : a = b := by
  obtain ⟨p1, t1, s1, l1, d1⟩ := a
  obtain ⟨p2, t2, s2, l2, d2⟩ := b
  simp only [eNode, eMark, eOuts, eBs, nkey, nkeys, nkeys_map] at h
  injection h with h
  injection h with h1 h
  injection h with h2 h
  injection h with h3 h
  injection h with h4 _
  injection h4 with h4
  injection h4 with h5 h
  injection h with h6 _
  injection h1 with h1
  injection h2 with h2
  injection h3 with h3
  injection h5 with h5
  injection h6 with h6
  rw [h1, h2, h3, map_inj' (fun _ _ => nkey_eO_inj) h5, map_inj' (fun _ _ => nkey_b_inj) h6]
theorem nkey_eNode (a b : Node) : (nkey (eNode a) = nkey (eNode b)) ↔ a = b := ⟨nkey_eNode_inj, fun h => h ▸ rfl⟩
theorem depthAll0 {α : Type} {f : α → NestedKey} (h : ∀ a, (f a).depth = 0) : ∀ l : List α, NestedKey.depthAll (l.map f) = 0
  | [] => by simp [NestedKey.depthAll]
  | a :: l => by rw [List.map_cons, NestedKey.depthAll, h a, depthAll0 h l]; rfl
theorem isKey_eNode (n : Node) : isKey (eNode n) = true := by
  obtain ⟨p1, t1, s1, l1, d1⟩ := n
  have k1 : koks (l1.map eO) = true := koks_map (fun o => by cases o <;> rfl) l1
  have k2 : koks (d1.map PyData.bool) = true := koks_map (fun o => rfl) d1
  have e1 : NestedKey.depthAll (l1.map fun a => nkey (eO a)) = 0 := depthAll0 (fun o => by cases o <;> simp [eO, nkey, NestedKey.depth]) l1
  have e2 : NestedKey.depthAll (d1.map fun a => NestedKey.num (if a = true then 1 else 0)) = 0 := depthAll0 (fun o => by simp [NestedKey.depth]) d1
  show (koks _ && decide _) = true
  rw [Bool.and_eq_true]
  refine ⟨by simp [koks, kok, eMark, eOuts, eBs, k1, k2], decide_eq_true ?_⟩
  simp only [eMark, eOuts, eBs, nkey, nkeys, nkeys_map, NestedKey.depth, NestedKey.depthAll, e1, e2]
  decide
/-! nodes without repeats -/
def addN (l : List Node) (n : Node) : List Node := if n ∈ l then l else l ++ [n]
def dd (zs : List Node) : List Node := zs.foldl addN []
theorem dd_mem (zs : List Node) (n : Node) : n ∈ dd zs ↔ n ∈ zs := by
  have gen : ∀ (zs l : List Node), n ∈ zs.foldl addN l ↔ n ∈ l ∨ n ∈ zs := by
    intro zs
    induction zs with
    | nil => intro l; simp
    | cons z zs ih =>
      intro l
      rw [List.foldl_cons, ih]
      unfold addN
      split
      · next h =>
        constructor
        · rintro (h1 | h1)
          · exact .inl h1
          · exact .inr (List.mem_cons_of_mem _ h1)
        · rintro (h1 | h1)
          · exact .inl h1
          · rcases List.mem_cons.mp h1 with e | h1
            · rw [e]; exact .inl h
            · exact .inr h1
      · rw [List.mem_append, List.mem_singleton, List.mem_cons]
        constructor
        · rintro ((h1 | h1) | h1)
          · exact .inl h1
          · exact .inr (.inl h1)
          · exact .inr (.inr h1)
        · rintro (h1 | h1 | h1)
          · exact .inl (.inl h1)
          · exact .inl (.inr h1)
          · exact .inr h1
  have := gen zs []
  simpa [dd] using this
theorem dd_nodup (zs : List Node) : (dd zs).Nodup := by
  have gen : ∀ (zs l : List Node), l.Nodup → (zs.foldl addN l).Nodup := by
    intro zs
    induction zs with
    | nil => intro l h; exact h
    | cons z zs ih =>
      intro l h
      rw [List.foldl_cons]
      refine ih _ ?_
      unfold addN
      split
      · exact h
      · next hn => exact List.nodup_append.mpr ⟨h, by simp, fun a ha b hb e => hn (by rw [List.mem_singleton] at hb; rw [← hb, ← e]; exact ha)⟩
  exact gen zs [] List.nodup_nil
theorem dnF_nodes {β : Type} (nf : β → Node) (zs : List β) : (dnF (fun z => eNode (nf z)) (fun _ => .bool true) zs).map (·.1) = (dd (zs.map nf)).map eNode := by
  have gen : ∀ (zs : List β) (l : List (PyData × PyData)) (m : List Node), l.map (·.1) = m.map eNode → (zs.foldl (fun l z => ptN l (eNode (nf z)) (.bool true)) l).map (·.1) = ((zs.map nf).foldl addN m).map eNode := by
    intro zs
    induction zs with
    | nil => intro l m h; exact h
    | cons z zs ih =>
      intro l m h
      rw [List.foldl_cons, List.map_cons, List.foldl_cons]
      refine ih _ _ ?_
      have hany : (l.any fun q => decide (nkey q.1 = nkey (eNode (nf z)))) = decide (nf z ∈ m) := by
        have e1 : (l.any fun q => decide (nkey q.1 = nkey (eNode (nf z)))) = (l.map (·.1)).any fun k => decide (nkey k = nkey (eNode (nf z))) := by rw [List.any_map]; rfl
        rw [e1, h, List.any_map, Bool.eq_iff_iff, List.any_eq_true, decide_eq_true_iff]
        constructor
        · rintro ⟨n, hn, e⟩
          have := nkey_eNode_inj (of_decide_eq_true e)
          rw [← this]; exact hn
        · intro hn
          exact ⟨_, hn, decide_eq_true rfl⟩
      unfold ptN addN
      rw [hany]
      by_cases hn : nf z ∈ m
      · rw [if_pos (decide_eq_true hn), if_pos hn, ← h, List.map_map]
        refine List.map_congr_left fun q _ => ?_
        show (if nkey q.1 = nkey (eNode (nf z)) then (q.1, PyData.bool true) else q).1 = q.1
        split <;> rfl
      · rw [if_neg (by rw [decide_eq_false hn]; simp), if_neg hn, List.map_append, List.map_append, h]
        rfl
  exact gen zs [] [] rfl
/-! known heights -/
def knE (kn : List (Node × Int)) : List (PyData × PyData) := kn.map fun q => (eNode q.1, .int q.2)
def ptM (kn : List (Node × Int)) (n : Node) (v : Int) : List (Node × Int) := if (kn.any fun q => decide (q.1 = n)) then kn.map fun q => if q.1 = n then (q.1, v) else q else kn ++ [(n, v)]
def lkM (kn : List (Node × Int)) (n : Node) : Option Int := (kn.find? fun q => decide (q.1 = n)).map (·.2)
theorem lkN_knE (kn : List (Node × Int)) (n : Node) : lkN (knE kn) (eNode n) = (lkM kn n).map .int := by
  unfold lkN lkM knE
  rw [List.find?_map]
  have e : ((fun q : PyData × PyData => decide (nkey q.1 = nkey (eNode n))) ∘ fun q : Node × Int => (eNode q.1, PyData.int q.2)) = fun q => decide (q.1 = n) := by
    funext q
    show decide (nkey (eNode q.1) = nkey (eNode n)) = _
    rw [Bool.eq_iff_iff, decide_eq_true_iff, decide_eq_true_iff]
    exact nkey_eNode _ _
  rw [e]
  cases kn.find? fun q => decide (q.1 = n) <;> rfl
theorem ptN_knE (kn : List (Node × Int)) (n : Node) (v : Int) : ptN (knE kn) (eNode n) (.int v) = knE (ptM kn n v) := by
  have e : ((knE kn).any fun q => decide (nkey q.1 = nkey (eNode n))) = kn.any fun q => decide (q.1 = n) := by
    unfold knE
    rw [List.any_map]
    refine congrArg (fun p => List.any kn p) (funext fun q => ?_)
    show decide (nkey (eNode q.1) = nkey (eNode n)) = _
    rw [Bool.eq_iff_iff, decide_eq_true_iff, decide_eq_true_iff]
    exact nkey_eNode _ _
  unfold ptN ptM
  rw [e]
  split
  · unfold knE
    rw [List.map_map, List.map_map]
    refine List.map_congr_left fun q _ => ?_
    show (if nkey (eNode q.1) = nkey (eNode n) then (eNode q.1, PyData.int v) else (eNode q.1, PyData.int q.2)) = (fun q : Node × Int => (eNode q.1, PyData.int q.2)) (if q.1 = n then (q.1, v) else q)
    by_cases h : q.1 = n
    · rw [if_pos h, if_pos (by rw [h])]
    · rw [if_neg h, if_neg (fun z => h (nkey_eNode_inj z))]
  · unfold knE
    rw [List.map_append]
    rfl
theorem lkM_pt (kn : List (Node × Int)) (n n' : Node) (v : Int) : lkM (ptM kn n v) n' = if n' = n then some v else lkM kn n' := by
  unfold lkM ptM
  by_cases ha : (kn.any fun q => decide (q.1 = n)) = true
  · rw [if_pos ha]
    induction kn with
    | nil => cases ha
    | cons q kn ih =>
      rw [List.map_cons, List.find?_cons, List.find?_cons]
      by_cases h1 : q.1 = n
      · rw [if_pos h1]
        by_cases h2 : n' = n
        · rw [if_pos h2, h2]
          show ((match decide (q.1 = n) with | true => some (q.1, v) | false => _) : Option (Node × Int)).map (·.2) = some v
          rw [decide_eq_true h1]
          rfl
        · rw [if_neg h2]
          have d1 : decide (q.1 = n') = false := decide_eq_false fun z => h2 (z ▸ h1)
          show ((match decide (q.1 = n') with | true => some (q.1, v) | false => _) : Option (Node × Int)).map (·.2) = _
          rw [d1]
          by_cases h3 : (kn.any fun q => decide (q.1 = n)) = true
          · have := ih h3
            rw [if_neg h2] at this
            exact this
          · have e : (kn.map fun q => if q.1 = n then (q.1, v) else q) = kn := by
              refine (List.map_congr_left fun z hz => ?_).trans (List.map_id kn)
              have : ¬ z.1 = n := fun e => h3 (List.any_eq_true.mpr ⟨z, hz, decide_eq_true e⟩)
              rw [if_neg this]
              rfl
            rw [e]
      · rw [if_neg h1]
        have h3 : (kn.any fun q => decide (q.1 = n)) = true := by
          rw [List.any_cons, decide_eq_false h1, Bool.false_or] at ha
          exact ha
        by_cases h4 : q.1 = n'
        · rw [decide_eq_true h4]
          have h5 : ¬ n' = n := fun e => h1 (h4.trans e)
          rw [if_neg h5]
        · rw [decide_eq_false h4]
          exact ih h3
  · rw [if_neg ha, List.find?_append]
    by_cases h2 : n' = n
    · rw [if_pos h2, h2]
      have e : (kn.find? fun q => decide (q.1 = n)) = none := List.find?_eq_none.mpr fun z hz e => ha (List.any_eq_true.mpr ⟨z, hz, e⟩)
      rw [e, Option.none_or, List.find?_cons, decide_eq_true rfl]
      rfl
    · rw [if_neg h2, List.find?_cons, decide_eq_false (fun z => h2 z.symm), List.find?_nil, Option.or_none]
theorem ptM_len (kn : List (Node × Int)) (n : Node) (v : Int) : (ptM kn n v).length ≤ kn.length + 1 := by
  unfold ptM
  split
  · rw [List.length_map]; omega
  · rw [List.length_append]; simp
/-! sheets, heights -/
def behindL (m : Mp) (ls : List Int) (nodes : List Node) : List Node := dd ((nodes.flatMap (stops m ls)).map (·.2.2))
def sheet (m : Mp) (ls : List Int) : Nat → List Node
  | 0 => firstNodes m
  | i + 1 => behindL m ls (sheet m ls i)
def val (m : Mp) (ls : List Int) : Nat → Node → Int
  | 0, _ => 0
  | k + 1, n => maxL ((stops m ls n).map fun st => st.2.1 + val m ls k st.2.2)
def hgt (m : Mp) (ls : List Int) (n : Node) : Int := val m ls (lastT m.outs - n.2.1).toNat n
theorem nearL_self {m : Mp} {p : Str} (h : p ∈ m.areas.flatten) : p ∈ nearL m p := List.mem_filter.mpr ⟨h, by simp⟩
theorem stops_ne {m : Mp} {ls : List Int} {n : Node} (h : NodeOk m n) : stops m ls n ≠ [] := by
  intro e
  have : (false, (0 : Int), (n.1, n.2.1 + 1, n.2.2.1, movedMark m n.1 n.2.1 n.2.2.2)) ∈ stops m ls n := by
    refine List.mem_flatMap.mpr ⟨(false, 0, n.2.2.2), List.mem_cons_self, ?_⟩
    exact List.mem_map.mpr ⟨n.2.2.1, nearL_self h.1, rfl⟩
  rw [e] at this
  cases this
theorem stops_mem {m : Mp} {ls : List Int} {n : Node} {st : Step} (hm : MpOk m) (h : NodeOk m n) (hs : st ∈ stops m ls n) : NodeOk m st.2.2 ∧ st.2.2.2.1 = n.2.1 + 1 := by
  obtain ⟨y, hy, hz⟩ := List.mem_flatMap.mp hs
  obtain ⟨o, ho, rfl⟩ := List.mem_map.mp hz
  exact ⟨⟨(List.mem_filter.mp ho).1, movedMark_len hm.outs.1 (ways_ok h y hy)⟩, rfl⟩
theorem hgt_step {m : Mp} {ls : List Int} {n : Node} (hm : MpOk m) (h : NodeOk m n) (ht : n.2.1 < lastT m.outs) : hgt m ls n = maxL ((stops m ls n).map fun st => st.2.1 + hgt m ls st.2.2) := by
  unfold hgt
  have e : (lastT m.outs - n.2.1).toNat = (lastT m.outs - (n.2.1 + 1)).toNat + 1 := by omega
  rw [e, val]
  refine congrArg maxL (List.map_congr_left fun st hs => ?_)
  rw [(stops_mem hm h hs).2]
theorem hgt_last {m : Mp} {ls : List Int} {n : Node} (ht : lastT m.outs ≤ n.2.1) : hgt m ls n = 0 := by
  unfold hgt
  rw [show (lastT m.outs - n.2.1).toNat = 0 by omega]
  rfl
theorem firstMark_ok {m : Mp} (hm : MpOk m) : MarkOk m (firstMark m) := ⟨by show (m.outs.map _).length = _; rw [List.length_map]; exact hm.outs.1, by show (List.replicate _ _).length = _; rw [List.length_replicate]⟩
theorem sheet_mem {m : Mp} {ls : List Int} (hm : MpOk m) : ∀ (i : Nat) (n : Node), n ∈ sheet m ls i → NodeOk m n ∧ n.2.1 = -lastT m.outs + i
  | 0, n, h => by
    obtain ⟨ph, _, h⟩ := List.mem_flatMap.mp h
    obtain ⟨p, hp, rfl⟩ := List.mem_map.mp h
    exact ⟨⟨hp, firstMark_ok hm⟩, by simp⟩
  | i + 1, n, h => by
    obtain ⟨st, hs, rfl⟩ := List.mem_map.mp ((dd_mem _ _).mp h)
    obtain ⟨n0, h0, hs⟩ := List.mem_flatMap.mp hs
    obtain ⟨h1, h2⟩ := sheet_mem hm i n0 h0
    obtain ⟨h3, h4⟩ := stops_mem hm h1 hs
    exact ⟨h3, by rw [h4, h2]; omega⟩
theorem sheet_next {m : Mp} {ls : List Int} {i : Nat} {n : Node} {st : Step} (h : n ∈ sheet m ls i) (hs : st ∈ stops m ls n) : st.2.2 ∈ sheet m ls (i + 1) :=
  (dd_mem _ _).mpr (List.mem_map.mpr ⟨st, List.mem_flatMap.mpr ⟨n, h, hs⟩, rfl⟩)
def Few (m : Mp) (ls : List Int) : Prop := ∀ i ≤ 12, (sheet m ls i).length ≤ 20000
def mostBy (m : Mp) (ls : List Int) : Option Int := match endless m ls with
  | some _ => none
  | none => some (maxL ((firstNodes m).map (hgt m ls)))
end L2.My
end
section
set_option Elab.async false
set_option linter.all false
set_option maxRecDepth 100000
set_option autoImplicit false
/-! D12: Heights. -/
namespace L2.My
open PySem PySem.Spec PyProof.Rows
abbrev CH (K : PySem.W.Frag) : Addr := He.ga K "Heights"
def eNodes (ns : List Node) : PyData := .list (ns.map eNode)
structure HIn where
  p : Addr
  q : Addr
  r : Addr
  m : Mp
  t : Bool
  ls : List Int
  kn : List (Node × Int)
  sh : List (List Node)
def hFs (K : PySem.W.Frag) (x : HIn) : List (Str × Pr) := [("chart", mapP (CM K) x.m), ("limits", da (sq x.t (x.ls.map .int))), ("last", da (.int (lastT x.m.outs))), ("known", pp x.q), ("sheets", pp x.r)]
def hOw (P : Program) (w : World) (K : PySem.W.Frag) (x : HIn) : Ow := [(x.p, oin (CH K) (hFs K x)), (x.r, ol (x.sh.map eNodes)), (x.q, nd P w x.q (knE x.kn))]
def HOk0 (x : HIn) : Prop := MpOk x.m ∧ x.ls.length = x.m.areas.length
theorem stops_len (m : Mp) (hm : MpOk m) (ls : List Int) (n : Node) : (stops m ls n).length ≤ 12 := by
  have h1 := near_len m hm n.2.2.1
  have h2 := len_flatMap_le (stepsOf m n) 6 (ways m ls n) fun z _ => by unfold stepsOf; rw [List.length_map]; exact h1
  have h3 := ways_len m ls n
  have h4 : (stops m ls n).length ≤ (ways m ls n).length * 6 := h2
  omega
section
variable {P : Program} {w : World} {K : PySem.W.Frag} {mg : Str → Option Value} {base : Heap}
abbrev N_be : List Str := ["self", "found", "node", "step"]
theorem sc_behind : FnScope N_be ["self"] (defScope s_Heights_behind) := ⟨rfl, rfl, rfl, by decide +kernel, rfl, by decide +kernel, by decide +kernel⟩
theorem ok_behind (T : TX K mg) : DefM P w K mg base (CH K) "behind" 4 ["self"] (spO (fun y : HIn × List (List Node) × List Node => HOk0 y.1 ∧ y.1.sh = y.2.1 ++ [y.2.2] ∧ (∀ n ∈ y.2.2, NodeOk y.1.m n) ∧ y.2.2.length ≤ 20000 ∧ (behindL y.1.m y.1.ls y.2.2).length ≤ 20000) (fun y => [.ptr y.1.p]) (fun y => hOw P w K y.1) (fun y => hOw P w K y.1) (fun y => da (eNodes (behindL y.1.m y.1.ls y.2.2)))) := by
  refine defm_mkO T.m_Heights_behind sc_behind (fun _ _ _ _ _ _ us hl => match us, hl with | [_], _ => rfl) (fun _ => rfl) (by decide) fun ⟨x, sh0, nodes⟩ ⟨⟨hm, hl⟩, hs, hn, hl1, hl2⟩ f cdv A outer s0 H0 H E B hr => ?_
  have hs : x.sh = sh0 ++ [nodes] := hs
  have hn : ∀ n ∈ nodes, NodeOk x.m n := hn
  have hl1 : nodes.length ≤ 20000 := hl1
  have hl2 : (behindL x.m x.ls nodes).length ≤ 20000 := hl2
  have hm : MpOk x.m := hm
  have hl : x.ls.length = x.m.areas.length := hl
  have hlast : atI (x.sh.map eNodes) (-1) = some (eNodes nodes) := by
    rw [hs, List.map_append]
    exact atI_last _ _
  have hst := len_flatMap_le (stops x.m x.ls) 12 nodes fun n _ => stops_len x.m hm x.ls n
  refine sv_ownDn (i := 1) (xs := nodes) (ys := stops x.m x.ls) (g := fun n => da (eNode n)) (g1 := fun _ st => da (eStep st)) (kf := fun st => eNode st.2.2) (f := fun _ => .bool true) (own := [("node", 2), ("step", 3)]) (vs1 := [3]) (tgG := gName 2) (tgG1 := gName 3) (fρ := fun n ρ => ρ.set 2 (.val (da (eNode n)))) (fρ1 := fun _ st ρ => ρ.set 3 (.val (da (eStep st)))) (by have := hr.un; omega) rfl sc_behind.nd
    (if_list (ev_ixP (q := x.r) (ds := x.sh.map eNodes) (ev_fldO (C := CH K) (p := x.p) (fs := hFs K x) T.k_Heights T.n_Heights_sheets (pv 0) (by simp [hOw]) rfl) (by simp [hOw]) (ev_neg ev_int) hlast)) (blkOk_by (N := N_be) (sc := defScope s_Heights_behind) (by decide +kernel)) (by decide) (fun _ => pgn 2 sc_behind.nd) (fun n _ => tg_name (by decide))
    (fun n hn0 b => if_list (ev_call (ok_stops_of T) (x.m, (x.t, x.ls), n) ⟨hm, hl, hn n hn0⟩ hr (ea3 (ev_fldO (C := CH K) (p := x.p) (fs := hFs K x) T.k_Heights T.n_Heights_chart (pv 0) (by simp [hOw]) rfl) (ev_fldO (C := CH K) (p := x.p) (fs := hFs K x) T.k_Heights T.n_Heights_limits (pv 0) (by simp [hOw]) rfl) (vv 2)))) (fun _ => pgn 3 sc_behind.nd) (fun n _ st _ => tg_name (by decide))
    (fun n _ st _ b => ev_ixT (ds := [.bool st.1, .int st.2.1, eNode st.2.2]) (vv 3) ev_int rfl) (fun n _ st _ b => ev_bl) (fun n _ st _ => isKey_eNode _) sz fun d => ?_
  have hk := dnF_nodes (fun st : Step => st.2.2) (nodes.flatMap (stops x.m x.ls))
  have hk : (dnF (fun st : Step => eNode st.2.2) (fun _ => .bool true) (nodes.flatMap (stops x.m x.ls))).map (·.1) = (behindL x.m x.ls nodes).map eNode := hk
  have hlen : (dnF (fun st : Step => eNode st.2.2) (fun _ => .bool true) (nodes.flatMap (stops x.m x.ls))).length ≤ 20000 := by
    rw [← List.length_map (f := (·.1)), hk, List.length_map]
    exact hl2
  refine sv_guard (et_gt (ev_lenN T.b_len (pv 1) List.mem_cons_self (by omega)) (ev_gint T.c_MOST_STATES)) (fun h => ?_) fun _ => ?_
  · have := of_decide_eq_true h
    omega
  · refine sv_ret (ev_listN rfl T.b_list (pv 1) List.mem_cons_self sz) (fun H v p => ?_) (fun _ z hz => List.mem_cons_of_mem _ hz)
    rw [hk] at p
    exact p
end
end L2.My
end
section
set_option Elab.async false
set_option linter.all false
set_option maxRecDepth 100000
set_option autoImplicit false
/-! D13: Heights: height, top_node. -/
namespace L2.My
open PySem PySem.Spec PyProof.Rows
def topN (m : Mp) (ls : List Int) (ns : List Node) : Node := (ns.filter fun n => decide (hgt m ls n = maxL (ns.map (hgt m ls)))).headD (0, 0, "", [], [])
theorem maxL_in {ns : List Int} (h : ns ≠ []) : maxL ns ∈ ns := (maxL_max h).1
theorem topN_mem {m : Mp} {ls : List Int} {ns : List Node} (h : ns ≠ []) : topN m ls ns ∈ ns ∧ hgt m ls (topN m ls ns) = maxL (ns.map (hgt m ls)) ∧ ∃ r, (ns.filter fun n => decide (hgt m ls n = maxL (ns.map (hgt m ls)))) = topN m ls ns :: r := by
  have hne : ns.map (hgt m ls) ≠ [] := fun e => h (List.map_eq_nil_iff.mp e)
  obtain ⟨n, hn, e⟩ := List.mem_map.mp (maxL_in hne)
  have hf : n ∈ ns.filter fun n => decide (hgt m ls n = maxL (ns.map (hgt m ls))) := List.mem_filter.mpr ⟨hn, decide_eq_true e⟩
  unfold topN
  cases hc : ns.filter fun n => decide (hgt m ls n = maxL (ns.map (hgt m ls))) with
  | nil => rw [hc] at hf; cases hf
  | cons a r =>
    have ha : a ∈ ns.filter fun n => decide (hgt m ls n = maxL (ns.map (hgt m ls))) := by rw [hc]; exact List.mem_cons_self
    obtain ⟨h1, h2⟩ := List.mem_filter.mp ha
    exact ⟨h1, of_decide_eq_true h2, r, rfl⟩
section
variable {P : Program} {w : World} {K : PySem.W.Frag} {mg : Str → Option Value} {base : Heap}
theorem hOw_p {x : HIn} : (x.p, oin (CH K) (hFs K x)) ∈ hOw P w K x := List.mem_cons_self
theorem hOw_r {x : HIn} : (x.r, ol (x.sh.map eNodes)) ∈ hOw P w K x := List.mem_cons_of_mem _ List.mem_cons_self
theorem hOw_q {x : HIn} : (x.q, nd P w x.q (knE x.kn)) ∈ hOw P w K x := List.mem_cons_of_mem _ (List.mem_cons_of_mem _ List.mem_cons_self)
abbrev N_he : List Str := ["self", "node", "pays", "units", "later"]
theorem sc_height : FnScope N_he ["self", "node"] (defScope s_Heights_height) := ⟨rfl, rfl, rfl, by decide +kernel, rfl, by decide +kernel, by decide +kernel⟩
theorem ok_height (T : TX K mg) : DefM P w K mg base (CH K) "height" 4 ["self", "node"] (spO (fun y : HIn × Node => HOk0 y.1 ∧ NodeOk y.1.m y.2 ∧ (y.2.2.1 < lastT y.1.m.outs → ∀ st ∈ stops y.1.m y.1.ls y.2, lkM y.1.kn st.2.2 = some (hgt y.1.m y.1.ls st.2.2))) (fun y => [.ptr y.1.p, .val (da (eNode y.2))]) (fun y => hOw P w K y.1) (fun y => hOw P w K y.1) (fun y => da (.int (hgt y.1.m y.1.ls y.2)))) := by
  refine defm_mkO T.m_Heights_height sc_height (fun _ _ _ _ _ _ us hl => match us, hl with | [_, _], _ => rfl) (fun _ => rfl) (by decide) fun ⟨x, n⟩ ⟨⟨hm, hl⟩, hn, hk⟩ f cdv A outer s0 H0 H E B hr => ?_
  have hm : MpOk x.m := hm
  have hl : x.ls.length = x.m.areas.length := hl
  have hn : NodeOk x.m n := hn
  have hk : n.2.1 < lastT x.m.outs → ∀ st ∈ stops x.m x.ls n, lkM x.kn st.2.2 = some (hgt x.m x.ls st.2.2) := hk
  have hsl := stops_len x.m hm x.ls n
  have hu : (cxF P w K mg base N_he "Heights.height" s_Heights_height f cdv A outer s0 H E).A.units + 10 < cLine := by have := hr.un; omega
  refine sv_guard (et_ge (ev_ixT (ds := [.int n.1, .int n.2.1, .str n.2.2.1, eMark n.2.2.2]) (vv 1) ev_int rfl) (ev_fldO (C := CH K) (p := x.p) (fs := hFs K x) T.k_Heights T.n_Heights_last (pv 0) (by simp [hOw]) rfl)) (fun h => ?_) fun h => ?_
  · refine sv_ret (φ := da (.int 0)) ev_int (fun H v p => ?_) fun _ z hz => hz
    have h0 := hgt_last (ls := x.ls) (of_decide_eq_true h)
    show Da H v (.int (hgt x.m x.ls n))
    rw [h0]; exact p
  · have ht : n.2.1 < lastT x.m.outs := by have := of_decide_eq_false h; omega
    have hst := hgt_step (ls := x.ls) hm hn ht
    refine sv_ret (φ := da (.int (maxL ((stops x.m x.ls n).map fun st => st.2.1 + hgt x.m x.ls st.2.2)))) (ev_max rfl T.b_max (ep_of (ev_eq (ev_lc0 (xs := stops x.m x.ls n) (g := fun st => da (eStep st)) (f := fun st => .int (st.2.1 + hgt x.m x.ls st.2.2)) (own := [("pays", 2), ("units", 3), ("later", 4)]) (tgG := gTup K 3 (gCons (gName 2) (gCons (gName 3) (gCons (gName 4) gNil)))) (fρ := fun st ρ => ((ρ.set 2 (.val (da (.bool st.1)))).set 3 (.val (da (.int st.2.1)))).set 4 (.val (da (eNode st.2.2)))) rfl sc_height.nd
      (it_of (if_list (ev_call (ok_stops_of T) (x.m, (x.t, x.ls), n) ⟨hm, hl, hn⟩ hr (ea3 (ev_fldO (C := CH K) (p := x.p) (fs := hFs K x) T.k_Heights T.n_Heights_chart (pv 0) (by simp [hOw]) rfl) (ev_fldO (C := CH K) (p := x.p) (fs := hFs K x) T.k_Heights T.n_Heights_limits (pv 0) (by simp [hOw]) rfl) (vv 1))))) (blkOk_by (N := N_he) (sc := defScope s_Heights_height) (by decide +kernel))
      (fun _ => pg_tup rfl (pgs_cons (pgn 2 sc_height.nd) (pgs_cons (pgn 3 sc_height.nd) (pgs_cons (pgn 4 sc_height.nd) pgs_nil)))) (fun st _ => tg_tup (tgs_cons (by decide) (tgs_cons (by decide) (tgs_cons (by decide) tgs_nil))) rfl)
      (fun st hs b => ev_int1 T.b_int (ev_add (vv 3) (ev_getN (p := x.q) (l := knE x.kn) hu (ev_fldO (C := CH K) (p := x.p) (fs := hFs K x) T.k_Heights T.n_Heights_known (pv 0) (by simp [hOw]) rfl) hOw_q (vv 4) (isKey_eNode _) (by rw [lkN_knE, hk ht st hs]; rfl)))) sz) (congrArg PyData.list (List.map_map (g := PyData.int) (f := fun st : Step => st.2.1 + hgt x.m x.ls st.2.2)).symm))) (maxL_max ?_)) (fun H v p => ?_) fun _ z hz => hz
    · exact fun e => stops_ne (ls := x.ls) hn (List.map_eq_nil_iff.mp e)
    · show Da H v (.int (hgt x.m x.ls n))
      rw [hst]; exact p
abbrev N_tn : List Str := ["self", "most", "node"]
theorem sc_top_node : FnScope N_tn ["self"] (defScope s_Heights_top_node) := ⟨rfl, rfl, rfl, by decide +kernel, rfl, by decide +kernel, by decide +kernel⟩
theorem ok_top_node (T : TX K mg) : DefM P w K mg base (CH K) "top_node" 1 ["self"] (spO (fun y : HIn × List Node × List (List Node) => y.2.1 ≠ [] ∧ y.2.1.length ≤ 20000 ∧ y.1.sh = y.2.1 :: y.2.2 ∧ ∀ n ∈ y.2.1, lkM y.1.kn n = some (hgt y.1.m y.1.ls n)) (fun y => [.ptr y.1.p]) (fun y => hOw P w K y.1) (fun y => hOw P w K y.1) (fun y => da (eNode (topN y.1.m y.1.ls y.2.1)))) := by
  refine defm_mkO T.m_Heights_top_node sc_top_node (fun _ _ _ _ _ _ us hl => match us, hl with | [_], _ => rfl) (fun _ => rfl) (by decide) fun ⟨x, ns, r⟩ ⟨hne, hlen, hs, hk⟩ f cdv A outer s0 H0 H E B hr => ?_
  have hne : ns ≠ [] := hne
  have hlen : ns.length ≤ 20000 := hlen
  have hs : x.sh = ns :: r := hs
  have hk : ∀ n ∈ ns, lkM x.kn n = some (hgt x.m x.ls n) := hk
  have hu : (cxF P w K mg base N_tn "Heights.top_node" s_Heights_top_node f cdv A outer s0 H E).A.units + 10 < cLine := by have := hr.un; omega
  have hfst : atI (x.sh.map eNodes) 0 = some (eNodes ns) := by
    rw [hs]
    exact atI_nat (j := 0) rfl
  refine sv_set (i := 1) (φ := da (.int (maxL (ns.map (hgt x.m x.ls))))) sc_top_node.nd (ev_max rfl T.b_max (ep_of (ev_eq (ev_lc0 (xs := ns) (g := fun n => da (eNode n)) (f := fun n => .int (hgt x.m x.ls n)) (own := [("node", 2)]) (tgG := gName 2) (fρ := fun n ρ => ρ.set 2 (.val (da (eNode n)))) rfl sc_top_node.nd
    (it_of (if_list (ev_ixP (q := x.r) (ds := x.sh.map eNodes) (ev_fldO (C := CH K) (p := x.p) (fs := hFs K x) T.k_Heights T.n_Heights_sheets (pv 0) hOw_p rfl) hOw_r ev_int hfst))) (blkOk_by (N := N_tn) (sc := defScope s_Heights_top_node) (by decide +kernel)) (fun _ => pgn 2 sc_top_node.nd) (fun n _ => tg_name (by decide))
    (fun n hn b => ev_int1 T.b_int (ev_getN (p := x.q) (l := knE x.kn) hu (ev_fldO (C := CH K) (p := x.p) (fs := hFs K x) T.k_Heights T.n_Heights_known (pv 0) hOw_p rfl) hOw_q (vv 2) (isKey_eNode _) (by rw [lkN_knE, hk n hn]; rfl))) sz) (congrArg PyData.list (List.map_map (g := PyData.int) (f := hgt x.m x.ls)).symm))) (maxL_max ?_)) ?_
  · exact fun e => hne (List.map_eq_nil_iff.mp e)
  · obtain ⟨h1, h2, r2, h3⟩ := topN_mem (m := x.m) (ls := x.ls) hne
    refine sv_ret (φ := da (eNode (topN x.m x.ls ns))) (ev_ixL (ds := (ns.filter fun n => decide (hgt x.m x.ls n = maxL (ns.map (hgt x.m x.ls)))).map eNode) (ev_lc (xs := ns) (g := fun n => da (eNode n)) (c := fun n => decide (hgt x.m x.ls n = maxL (ns.map (hgt x.m x.ls)))) (f := eNode) (own := [("node", 2)]) (tgG := gName 2) (fρ := fun n ρ => ρ.set 2 (.val (da (eNode n)))) rfl sc_top_node.nd
      (it_of (if_list (ev_ixP (q := x.r) (ds := x.sh.map eNodes) (ev_fldO (C := CH K) (p := x.p) (fs := hFs K x) T.k_Heights T.n_Heights_sheets (pv 0) hOw_p rfl) hOw_r ev_int hfst))) (blkOk_by (N := N_tn) (sc := defScope s_Heights_top_node) (by decide +kernel)) (fun _ => pgn 2 sc_top_node.nd) (fun n _ => tg_name (by decide))
      (fun n hn b => ets_one (et_eqI (ev_getN (p := x.q) (l := knE x.kn) hu (ev_fldO (C := CH K) (p := x.p) (fs := hFs K x) T.k_Heights T.n_Heights_known (pv 0) hOw_p rfl) hOw_q (vv 2) (isKey_eNode _) (by rw [lkN_knE, hk n hn]; rfl)) (vv 1))) (fun n hn _ b => vv 2) sz) ev_int (by rw [h3]; exact atI_nat (j := 0) rfl)) (fun H v p => p) fun _ z hz => hz
end
end L2.My
end
section
set_option Elab.async false
set_option linter.all false
set_option maxRecDepth 100000
set_option autoImplicit false
/-! D14: Heights made; most_by_days. -/
namespace L2.My
open PySem PySem.Spec PyProof.Rows
theorem if_range2' {X : Cx} {B : Hp × Hp} {ρ : List Slot} {ow : Ow} {tg a b : Expr} {lo hi : Int} {n : Nat} {p pos : Pos} (hm : X.mg "range" = none) (h : EV X B ρ ow a (da (.int lo))) (h2 : EV X B ρ ow b (da (.int hi))) (hn : -(2 ^ 62) ≤ lo ∧ lo < 2 ^ 62 ∧ -(2 ^ 62) ≤ hi ∧ hi < 2 ^ 62) (he : (hi - lo).toNat = n) (hg : Gl X "range" := by rfl)
    (hs : starEach [a, b] X.env = [(false, eval a X.env), (false, eval b X.env)] := by rfl) (hs2 : starEach [b] X.env = [(false, eval b X.env)] := by rfl) :
    IF X B ρ ow tg (.Call (.Name "range" p) [a, b] [] pos) (List.range n) fun k => da (.int (lo + (k : Nat))) := he ▸ if_range2 hm h h2 hn hg hs hs2
theorem lastT_bd {m : Mp} (hm : MpOk m) : 0 ≤ lastT m.outs ∧ lastT m.outs ≤ 6 := by
  have hb : ∀ i ∈ endsOf m.outs, 0 ≤ i ∧ i ≤ 6 := fun i hi => by
    obtain ⟨o, ho, e⟩ := List.mem_filterMap.mp hi
    have e : o = some i := e
    have := hm.outs.2 o ho
    rw [e] at this
    have h2 : (decide (0 ≤ i) && decide (i ≤ 6)) = true := this
    rw [Bool.and_eq_true, decide_eq_true_iff, decide_eq_true_iff] at h2
    exact h2
  unfold lastT
  cases e : endsOf m.outs with
  | nil => exact ⟨by decide, by decide⟩
  | cons a r =>
    have := maxL_in (ns := a :: r) (by simp)
    rw [← e] at this ⊢
    exact hb _ this
def sheets (m : Mp) (ls : List Int) (n : Nat) : List (List Node) := (List.range n).map (sheet m ls)
theorem sheets_succ (m : Mp) (ls : List Int) (n : Nat) : sheets m ls (n + 1) = sheets m ls n ++ [sheet m ls n] := by
  unfold sheets
  rw [List.range_succ, List.map_append]
  rfl
structure HArg where
  m : Mp
  t : Bool
  ls : List Int
def HArgOk (x : HArg) : Prop := (MpOk x.m ∧ x.ls.length = x.m.areas.length) ∧ Few x.m x.ls
def nSh (m : Mp) : Nat := (2 * lastT m.outs).toNat + 1
/-- behind __init__ -/
structure HOut (x : HArg) where
  q : Addr
  r : Addr
  kn : List (Node × Int)
  ok : ∀ n ∈ firstNodes x.m, lkM kn n = some (hgt x.m x.ls n)
def hIn (p : Addr) (x : HArg) (y : HOut x) : HIn := ⟨p, y.q, y.r, x.m, x.t, x.ls, y.kn, sheets x.m x.ls (nSh x.m)⟩
section
variable {P : Program} {w : World} {K : PySem.W.Frag} {mg : Str → Option Value} {base : Heap}
abbrev N_hi : List Str := ["self", "chart", "limits", "time", "nodes", "node"]
theorem sc_Heights_init : FnScope N_hi ["self", "chart", "limits"] (defScope s_Heights_init) := ⟨rfl, rfl, rfl, by decide +kernel, rfl, by decide +kernel, by decide +kernel⟩
/-- Heights.__init__ as it stands behind the top -/
structure HeightsAt (K : PySem.W.Frag) : Prop where
  ex : ∃ f fd, FunD K "__init__" "Heights.__init__" (defArgs s_Heights_init) (defBody s_Heights_init) (defScope s_Heights_init) [] [] f fd ∧ Mk K (CH K) f
def hiA (K : PySem.W.Frag) (y : Addr × HArg) : List Slot := [.ptr y.1, .val (mapP (CM K) y.2.m), .val (da (sq y.2.t (y.2.ls.map .int)))]
theorem body_Heights_init (T : TX K mg) (p : Addr) (x : HArg) (hx : HArgOk x) : BodyN P w K mg base N_hi "Heights.__init__" s_Heights_init 4 (hiA K (p, x)) [(p, oin (CH K) [])] (fun y : HOut x => hOw P w K (hIn p x y)) := by
  obtain ⟨m, t, ls⟩ := x
  obtain ⟨⟨hm, hl⟩, few⟩ := hx
  have hm : MpOk m := hm
  have hl : ls.length = m.areas.length := hl
  have few : Few m ls := few
  obtain ⟨l0, l6⟩ := lastT_bd hm
  refine fun f cdv A outer s H0 H E B hr => ?_
  have hu : (cxF P w K mg base N_hi "Heights.__init__" s_Heights_init f cdv A outer s H E).A.units + 10 < cLine := by have := hr.un; omega
  refine sv_fld T.k_Heights T.n_Heights_chart (pv 0) (vv 1) rfl (of_decide_eq_true rfl) ?_
  refine sv_fld T.k_Heights T.n_Heights_limits (pv 0) (vv 2) rfl (of_decide_eq_true rfl) ?_
  refine sv_fld T.k_Heights T.n_Heights_last (pv 0) (φ := da (.int (lastT m.outs))) (ev_meth0 T.k_Map (ok_reach_of_time T) m hm (hr.mono (by decide)) (vv 1) mapP_m_reach_of_time rfl) rfl (of_decide_eq_true rfl) ?_
  refine sv_fldN T.k_Heights T.n_Heights_known (fun q => pv 0) rfl (of_decide_eq_true rfl) fun q => ?_
  refine sv_fldL T.k_Heights T.n_Heights_sheets (fun r => pv 0) (ds := [eNodes (firstNodes m)]) (ed_cons (ev_call (ok_first_nodes T) m hm (hr.mono (by decide)) (ea1 (vv 1))) ed_nil) rfl (of_decide_eq_true rfl) (by show 1 ≤ sizeLine; decide) fun r => ?_
  refine sv_for (xs := List.range (2 * lastT m.outs).toNat) (g := fun i => da (.int (-lastT m.outs + (i : Nat)))) (vs := [3]) (fun i ρ' ow' => (∃ s3, ρ' = [.ptr p, .val (mapP (CM K) m), .val (da (sq t (ls.map .int))), s3, .no, .no]) ∧ ow' = hOw P w K ⟨p, q, r, m, t, ls, [], sheets m ls (i + 1)⟩)
    PassesOwn.never rfl (if_range2' T.b_range (ev_neg (i := lastT m.outs) (ev_fldO (C := CH K) (p := p) (fs := hFs K ⟨p, q, r, m, t, ls, [], []⟩) T.k_Heights T.n_Heights_last (pv 0) List.mem_cons_self rfl)) (ev_fldO (C := CH K) (p := p) (ψ := da (.int (lastT m.outs))) (fs := hFs K ⟨p, q, r, m, t, ls, [], []⟩) T.k_Heights T.n_Heights_last (pv 0) List.mem_cons_self rfl) (by omega) (by omega)) (pgn 3 sc_Heights_init.nd) (fun y _ => tg_name (by decide)) ⟨⟨_, rfl⟩, rfl⟩ (fun i y ρ' ow' B' hy hI => ?_) fun ρ' ow' hI => ?_
  · obtain ⟨⟨s3, rfl⟩, rfl⟩ := hI
    have hi : i < (2 * lastT m.outs).toNat := by
      have := (List.getElem?_eq_some_iff.mp hy).1
      rw [List.length_range] at this
      exact this
    have hsh : sheets m ls (i + 1) = sheets m ls i ++ [sheet m ls i] := sheets_succ m ls i
    refine sv_perm (List.Perm.swap _ _ _) ?_
    refine sv_appendX (ev_fldO (C := CH K) (p := p) (fs := hFs K ⟨p, q, r, m, t, ls, [], []⟩) T.k_Heights T.n_Heights_sheets (pv 0) (List.mem_cons_of_mem _ List.mem_cons_self) rfl)
      (ex_perm (List.Perm.swap _ _ _) (List.Perm.swap _ _ _) (ex_meth0 (ow := []) (fs := hFs K ⟨p, q, r, m, t, ls, [], sheets m ls (i + 1)⟩) T.k_Heights (ok_behind T) (⟨p, q, r, m, t, ls, [], sheets m ls (i + 1)⟩, sheets m ls i, sheet m ls i) ⟨⟨hm, hl⟩, hsh, fun n hn => (sheet_mem hm i n hn).1, few i (by omega), few (i + 1) (by omega)⟩ hr (pv 0) List.mem_cons_self rfl rfl)) ?_ ?_
    · show ((sheets m ls (i + 1)).map eNodes).length < sizeLine
      unfold sheets
      rw [List.length_map, List.length_map, List.length_range]
      exact szl
    · refine sv_perm (List.Perm.swap _ _ _) (sv_nil ⟨⟨_, rfl⟩, ?_⟩)
      rw [sheets_succ m ls (i + 1)]
      unfold hOw
      rw [List.map_append]
      rfl
  · obtain ⟨⟨s3, rfl⟩, rfl⟩ := hI
    rw [List.length_range]
    have hrev : (sheets m ls (nSh m)).reverse.map eNodes = ((sheets m ls (nSh m)).map eNodes).reverse := by rw [List.map_reverse]
    have hrl : (sheets m ls (nSh m)).reverse.length = nSh m := by
      unfold sheets
      rw [List.length_reverse, List.length_map, List.length_range]
    have hget : ∀ i ns, (sheets m ls (nSh m)).reverse[i]? = some ns → i < nSh m ∧ ns = sheet m ls (nSh m - 1 - i) := fun i ns h => by
      have hi := (List.getElem?_eq_some_iff.mp h).1
      rw [hrl] at hi
      refine ⟨hi, ?_⟩
      unfold sheets at h
      rw [List.getElem?_reverse (by rw [List.length_map, List.length_range]; exact hi), List.length_map, List.length_range, List.getElem?_map, List.getElem?_range (by omega)] at h
      exact (Option.some.inj h).symm
    have hnS : nSh m ≤ 13 := by unfold nSh; omega
    refine sv_for (xs := (sheets m ls (nSh m)).reverse) (g := fun ns => da (eNodes ns)) (vs := [4]) (fun i ρ' ow' => (∃ s3 s4 s5, ρ' = [.ptr p, .val (mapP (CM K) m), .val (da (sq t (ls.map .int))), s3, s4, s5]) ∧ ∃ kn, ow' = hOw P w K ⟨p, q, r, m, t, ls, kn, sheets m ls (nSh m)⟩ ∧ kn.length ≤ i * 20000 ∧ ∀ j, j < nSh m → nSh m ≤ j + i → ∀ n ∈ sheet m ls j, lkM kn n = some (hgt m ls n))
      PassesOwn.never rfl (if_list (ev_eq (ev_revP (q := r) (ds := (sheets m ls (nSh m)).map eNodes) (ev_fldO (C := CH K) (p := p) (fs := hFs K ⟨p, q, r, m, t, ls, [], []⟩) T.k_Heights T.n_Heights_sheets (pv 0) List.mem_cons_self rfl) (List.mem_cons_of_mem _ List.mem_cons_self)) (congrArg PyData.list hrev.symm))) (pgn 4 sc_Heights_init.nd) (fun y _ => tg_name (by decide)) ⟨⟨_, _, _, rfl⟩, [], rfl, by simp, fun j h1 h2 => by omega⟩ (fun i ns ρ' ow' B' hns hI => ?_) fun ρ' ow' hI => ?_
    · obtain ⟨⟨s3, s4, s5, rfl⟩, kn, rfl, hkl, hkn⟩ := hI
      obtain ⟨hi, rfl⟩ := hget i ns hns
      refine sv_for (xs := sheet m ls (nSh m - 1 - i)) (g := fun n => da (eNode n)) (vs := [5]) (fun j ρ' ow' => (∃ s5, ρ' = [.ptr p, .val (mapP (CM K) m), .val (da (sq t (ls.map .int))), s3, .val (da (eNodes (sheet m ls (nSh m - 1 - i)))), s5]) ∧ ∃ kn, ow' = hOw P w K ⟨p, q, r, m, t, ls, kn, sheets m ls (nSh m)⟩ ∧ kn.length ≤ i * 20000 + j ∧ (∀ j, j < nSh m → nSh m ≤ j + i → ∀ n ∈ sheet m ls j, lkM kn n = some (hgt m ls n)) ∧ ∀ n ∈ (sheet m ls (nSh m - 1 - i)).take j, lkM kn n = some (hgt m ls n))
        PassesOwn.never rfl (if_list (f := eNode) (vv 4)) (pgn 5 sc_Heights_init.nd) (fun y _ => tg_name (by decide)) ⟨⟨_, rfl⟩, kn, rfl, hkl, hkn, fun n hn => by simp at hn⟩ (fun j n ρ' ow' B2 hn hI => ?_) fun ρ' ow' hI => ?_
      · obtain ⟨⟨s5, rfl⟩, kn, rfl, hkl, hkn, hkt⟩ := hI
        have hnm := List.mem_of_getElem? hn
        have hjl := (List.getElem?_eq_some_iff.mp hn).1
        obtain ⟨hno, hti⟩ := sheet_mem hm _ n hnm
        have fl := few (nSh m - 1 - i) (by omega)
        refine sv_perm (rot3 _ _ _ _) ?_
        refine sv_setN (k := eNode n) (d := .int (hgt m ls n)) hu (ex_perm (rot3 _ _ _ _).symm (rot3 _ _ _ _) (ex_meth (ow := []) (fs := hFs K ⟨p, q, r, m, t, ls, kn, sheets m ls (nSh m)⟩) (ss := [.val (da (eNode n))]) T.k_Heights (ok_height T) (⟨p, q, r, m, t, ls, kn, sheets m ls (nSh m)⟩, n) ⟨⟨hm, hl⟩, hno, fun hlt st hst => ?_⟩ hr (pv 0) List.mem_cons_self rfl (ea1 (vv 5)) rfl))
          (ev_fldO (C := CH K) (p := p) (fs := hFs K ⟨p, q, r, m, t, ls, [], []⟩) T.k_Heights T.n_Heights_known (pv 0) (List.mem_cons_of_mem _ List.mem_cons_self) rfl) (vv 5) (isKey_eNode _) ?_ ?_
        · have hlt : n.2.1 < lastT m.outs := hlt
          have hst : st ∈ stops m ls n := hst
          have hi0 : nSh m - 1 - i + 1 < nSh m := by
            have : ((nSh m - 1 - i : Nat) : Int) < 2 * lastT m.outs := by omega
            unfold nSh at this ⊢
            omega
          exact hkn _ hi0 (by omega) _ (sheet_next hnm hst)
        · show (knE kn).length < sizeLine
          unfold knE
          rw [List.length_map]
          have : i * 20000 ≤ 13 * 20000 := Nat.mul_le_mul_right _ (by omega)
          exact szl
        · rw [ptN_knE]
          refine sv_perm (rot3 _ _ _ _).symm (sv_nil ⟨⟨_, rfl⟩, ptM kn n (hgt m ls n), rfl, ?_, fun j' h1 h2 n' hn' => ?_, fun n' hn' => ?_⟩)
          · have := ptM_len kn n (hgt m ls n)
            omega
          · rw [lkM_pt]
            by_cases e : n' = n
            · rw [if_pos e, e]
            · rw [if_neg e]; exact hkn j' h1 h2 n' hn'
          · rw [lkM_pt]
            by_cases e : n' = n
            · rw [if_pos e, e]
            · rw [if_neg e]
              rw [take_succ_get hn] at hn'
              rcases List.mem_append.mp hn' with h | h
              · exact hkt n' h
              · exact absurd (List.mem_singleton.mp h) e
      · obtain ⟨⟨s5, rfl⟩, kn, rfl, hkl, hkn, hkt⟩ := hI
        rw [List.take_length] at hkt
        have fl := few (nSh m - 1 - i) (by omega)
        refine sv_nil ⟨⟨_, _, _, rfl⟩, kn, rfl, by omega, fun j h1 h2 n hn => ?_⟩
        by_cases e : j = nSh m - 1 - i
        · subst e; exact hkt n hn
        · exact hkn j h1 (by omega) n hn
    · obtain ⟨⟨s3, s4, s5, rfl⟩, kn, rfl, hkl, hkn⟩ := hI
      rw [hrl] at hkn
      exact sv_nil ⟨⟨q, r, kn, fun n hn => hkn 0 (by unfold nSh; omega) (by omega) n hn⟩, rfl⟩
end
end L2.My
end
section
set_option Elab.async false
set_option linter.all false
set_option maxRecDepth 100000
set_option autoImplicit false
/-! D15: most_by_days. -/
namespace L2.My
open PySem PySem.Spec PyProof.Rows
theorem numsOk_some {many : Nat} {t : Bool} {ls : List Int} (h : numsOk many (some (t, ls)) = true) : ls.length = many ∧ ∀ l ∈ ls, 0 ≤ l := by
  have h : (decide (ls.length = many) && ls.all fun l => decide (0 ≤ l)) = true := h
  rw [Bool.and_eq_true, decide_eq_true_iff, List.all_eq_true] at h
  exact ⟨h.1, fun l hl => of_decide_eq_true (h.2 l hl)⟩
theorem firstNodes_ne {m : Mp} (hm : MpOk m) : firstNodes m ≠ [] := by
  obtain ⟨h1, h2, h3, h4⟩ := hm.areas
  have hlen := hm.len
  have hf : m.areas.flatten ≠ [] := by
    cases e : m.areas with
    | nil => rw [e] at h1; simp at h1
    | cons a r =>
      have := (h2 a (by rw [e]; exact List.mem_cons_self)).1
      cases a with
      | nil => exact absurd rfl this
      | cons s a => simp
  intro e
  obtain ⟨p, hp⟩ := List.exists_mem_of_ne_nil _ hf
  have : ((0 : Nat) : Int) = 0 := rfl
  have hin : (((0 : Nat) : Int), -lastT m.outs, p, firstMark m) ∈ firstNodes m := List.mem_flatMap.mpr ⟨0, List.mem_range.mpr (by omega), List.mem_map.mpr ⟨p, hp, rfl⟩⟩
  rw [e] at hin
  cases hin
theorem firstNodes_len {m : Mp} (hm : MpOk m) : (firstNodes m).length ≤ 24 := by
  have := len_flatMap_le (fun ph : Nat => m.areas.flatten.map fun p => (((ph : Nat) : Int), -lastT m.outs, p, firstMark m)) 6 (List.range m.len.toNat) fun _ _ => by
    rw [List.length_map]; exact hm.areas.2.2.2
  rw [List.length_range] at this
  have hl := hm.len
  have e : (firstNodes m).length ≤ m.len.toNat * 6 := this
  omega
theorem sheets_cons (m : Mp) (ls : List Int) (n : Nat) : ∃ r, sheets m ls (n + 1) = firstNodes m :: r := by
  unfold sheets
  rw [List.range_succ_eq_map, List.map_cons]
  exact ⟨_, rfl⟩
section
variable {P : Program} {w : World} {K : PySem.W.Frag} {mg : Str → Option Value} {base : Heap}
abbrev N_mb : List Str := ["chart", "limits", "heights"]
theorem sc_most_by_days : FnScope N_mb ["chart", "limits"] (defScope s_most_by_days) := ⟨rfl, rfl, rfl, by decide +kernel, rfl, by decide +kernel, by decide +kernel⟩
theorem ok_most_by_days (T : TX K mg) (I : IsM K) (HA : HeightsAt K) : Def P w K mg base "most_by_days" 7 ["chart", "limits"] (spA (fun x : Mp × Bool × List Int => MpOk x.1 ∧ numsOk x.1.areas.length (some x.2) = true ∧ Few x.1 x.2.2) (fun x => [mapP (CM K) x.1, da (sq x.2.1 (x.2.2.map .int))]) (fun x => da (eO (mostBy x.1 x.2.2)))) := by
  refine def_mk T.d_most_by_days sc_most_by_days (fun _ _ _ _ _ _ us hl => match us, hl with | [_, _], _ => rfl) (fun _ => rfl) (by decide) fun ⟨m, t, ls⟩ ⟨hm, hn, few⟩ f cdv A outer s0 H0 H E B hr => ?_
  have hm : MpOk m := hm
  have hn : numsOk m.areas.length (some (t, ls)) = true := hn
  have few : Few m ls := few
  obtain ⟨hl, _⟩ := numsOk_some hn
  have h4 := hm.areas.1.2
  have hu : (cxF P w K mg base N_mb "most_by_days" s_most_by_days f cdv A outer s0 H E).A.units + 10 < cLine := by have := hr.un; omega
  refine sv_expr (ev_call (ok_check_map T I) (m, t, ls) ⟨by show ls.length ≤ 1000; omega, hn⟩ (hr.mono (by decide)) (ea2 (vv 0) (vv 1))) ?_
  cases e : endless m ls with
  | some pl =>
    refine sv_guard (x := true) (et_eq (et_isnot (ev_call (ok_endless_place T) (m, t, ls) ⟨hm, hl⟩ (hr.mono (by decide)) (ea2 (vv 0) (vv 1))) ev_non) (by show (!isN (eS (endless m ls))) = true; rw [e]; rfl)) (fun _ => sv_retd ev_non ?_) fun h => by cases h
    show PyData.none = eO (mostBy m ls)
    unfold mostBy
    rw [e]
    rfl
  | none =>
    refine sv_guard (x := false) (et_eq (et_isnot (ev_call (ok_endless_place T) (m, t, ls) ⟨hm, hl⟩ (hr.mono (by decide)) (ea2 (vv 0) (vv 1))) ev_non) (by show (!isN (eS (endless m ls))) = false; rw [e]; rfl)) (fun h => by cases h) fun _ => ?_
    obtain ⟨fi, fdi, F, Mk⟩ := HA.ex
    have ha : HArgOk ⟨m, t, ls⟩ := ⟨⟨hm, hl⟩, few⟩
    have FO : FnOk P w K mg base CX0 5 fi fdi ["self", "chart", "limits"] (spN (fun _ : Addr => True) (fun p => hiA K (p, ⟨m, t, ls⟩)) (fun p => [(p, oin (CH K) [])]) (fun p (z : HOut ⟨m, t, ls⟩) => hOw P w K (hIn p ⟨m, t, ls⟩ z))) :=
      fn_bodyN F sc_Heights_init (fun _ => rfl) (by decide) fun p _ => body_Heights_init T p ⟨m, t, ls⟩ ha
    refine sv_make (n := 2) (k := 5) (φs := [mapP (CM K) m, da (sq t (ls.map .int))]) Mk FO (hr.mono (by decide)) T.g_Heights (F.bindsN fun _ _ _ _ _ _ us hl => match us, hl with | [_, _, _], _ => rfl) sc_most_by_days.nd (ea2 (vv 0) (vv 1)) (fun a => a) (fun _ => True.intro) (fun _ => rfl) (fun a G vs t1 => .cons rfl t1) fun p z => ?_
    obtain ⟨rs, hrs⟩ := sheets_cons m ls ((2 * lastT m.outs).toNat)
    have htop := topN_mem (m := m) (ls := ls) (firstNodes_ne hm)
    refine sv_retX (φ := da (.int (hgt m ls (topN m ls (firstNodes m))))) (ex_getN (p := z.q) (k := eNode (topN m ls (firstNodes m))) (l := knE z.kn) hu (ev_fldO (C := CH K) (p := p) (fs := hFs K (hIn p ⟨m, t, ls⟩ z)) T.k_Heights T.n_Heights_known (pv 2) List.mem_cons_self rfl)
      (ex_meth0 (ow := []) (fs := hFs K (hIn p ⟨m, t, ls⟩ z)) T.k_Heights (ok_top_node T) (hIn p ⟨m, t, ls⟩ z, firstNodes m, rs) ⟨firstNodes_ne hm, by have := firstNodes_len hm; show (firstNodes m).length ≤ 20000; omega, hrs, z.ok⟩ (hr.mono (by decide)) (pv 2) List.mem_cons_self rfl rfl) (List.mem_cons_of_mem _ (List.mem_cons_of_mem _ List.mem_cons_self)) (isKey_eNode _) (by rw [lkN_knE, z.ok _ htop.1]; rfl)) fun H v q => ?_
    show Da H v (eO (mostBy m ls))
    unfold mostBy
    rw [e]
    have q : Da H v (.int (hgt m ls (topN m ls (firstNodes m)))) := q
    rw [htop.2.1] at q
    exact q
end
end L2.My
end
section
set_option Elab.async false
set_option linter.all false
set_option maxRecDepth 100000
set_option autoImplicit false
/-! D16: areas joined, in plain Lean; without, least_outage. -/
namespace L2.My
open PySem PySem.Spec PyProof.Rows
def withoutL {α : Type} (l : List α) (at_ : Int) (v : α) (gone : Int) : List α := (l.zipIdx.filter fun y => !decide ((y.2 : Int) = gone)).map fun y => if (y.2 : Int) = at_ then v else y.1
def leastO (a b : Option Int) : Option Int := match a, b with
  | none, b => b
  | some a, none => some a
  | some a, some b => some (min a b)
def areaAt (m : Mp) (a : Nat) : List Str := m.areas.getD a []
def joinedM (m : Mp) (a b : Nat) : Mp := ⟨withoutL m.areas a (areaAt m a ++ areaAt m b) b, m.paths, m.len, withoutL m.bords a (bordAt m a) b, withoutL m.outs a (leastO (outAt m a) (outAt m b)) b⟩
def joinedL (ls : List Int) (a b : Nat) : List Int := withoutL ls a (min (limAt ls a) (limAt ls b)) b
theorem withoutL_map {α β : Type} (f : α → β) (l : List α) (at_ : Int) (v : α) (gone : Int) : withoutL (l.map f) at_ (f v) gone = (withoutL l at_ v gone).map f := by
  unfold withoutL
  rw [List.zipIdx_map, List.filter_map, List.map_map, List.map_map]
  have e : ((fun y : β × Nat => !decide ((y.2 : Int) = gone)) ∘ Prod.map f id) = fun y => !decide ((y.2 : Int) = gone) := rfl
  rw [e]
  refine List.map_congr_left fun y _ => ?_
  show (if (y.2 : Int) = at_ then f v else f y.1) = f (if (y.2 : Int) = at_ then v else y.1)
  split <;> rfl
theorem list4 {α : Type} {l : List α} (h : l.length ≤ 4) : l = [] ∨ (∃ a, l = [a]) ∨ (∃ a b, l = [a, b]) ∨ (∃ a b c, l = [a, b, c]) ∨ ∃ a b c d, l = [a, b, c, d] := by
  match l, h with
  | [], _ => exact .inl rfl
  | [a], _ => exact .inr (.inl ⟨a, rfl⟩)
  | [a, b], _ => exact .inr (.inr (.inl ⟨a, b, rfl⟩))
  | [a, b, c], _ => exact .inr (.inr (.inr (.inl ⟨a, b, c, rfl⟩)))
  | [a, b, c, d], _ => exact .inr (.inr (.inr (.inr ⟨a, b, c, d, rfl⟩)))
  | a :: b :: c :: d :: e :: l, h => simp at h
theorem withoutL_len {α : Type} {l : List α} (h : l.length ≤ 4) {a b : Nat} (v : α) (hb : b < l.length) : (withoutL l a v b).length = l.length - 1 := by
  have gen : ∀ (l : List α) (k : Nat), b < k + l.length → k ≤ b → ((l.zipIdx k).filter fun y => !decide ((y.2 : Int) = (b : Int))).length = l.length - 1 := by
    intro l
    induction l with
    | nil => intro k h1 h2; simp at h1; omega
    | cons x l ih =>
      intro k h1 h2
      rw [List.zipIdx_cons, List.filter_cons]
      by_cases e : k = b
      · subst e
        rw [if_neg (by simp)]
        have : ∀ (l : List α) (k' : Nat), k < k' → ((l.zipIdx k').filter fun y => !decide ((y.2 : Int) = (k : Int))) = l.zipIdx k' := by
          intro l k' hk
          refine List.filter_eq_self.mpr fun y hy => ?_
          have := List.le_snd_of_mem_zipIdx hy
          simp only [Bool.not_eq_true', decide_eq_false_iff_not]
          omega
        rw [this l (k + 1) (by omega), List.length_zipIdx, List.length_cons]
        omega
      · rw [if_pos (by simp only [Bool.not_eq_true', decide_eq_false_iff_not]; omega), List.length_cons, ih (k + 1) (by rw [List.length_cons] at h1; omega) (by omega)]
        have : 1 ≤ l.length := by rw [List.length_cons] at h1; omega
        rw [List.length_cons]
        omega
  unfold withoutL
  rw [List.length_map]
  exact gen l 0 (by omega) (by omega)
theorem withoutL_mem {α : Type} {l : List α} {a b : Int} {v x : α} (h : x ∈ withoutL l a v b) : x = v ∨ x ∈ l := by
  obtain ⟨y, hy, rfl⟩ := List.mem_map.mp h
  by_cases e : (y.2 : Int) = a
  · rw [if_pos e]; exact .inl rfl
  · rw [if_neg e]
    exact .inr (List.fst_mem_of_mem_zipIdx (List.mem_filter.mp hy).1)
theorem joined_perm {l : List (List Str)} (h : l.length ≤ 4) {a b : Nat} (hab : a < b) (hb : b < l.length) : (withoutL l a (l.getD a [] ++ l.getD b []) b).flatten.Perm l.flatten := by
  rw [List.perm_iff_count]
  intro s
  rcases list4 h with rfl | ⟨x, rfl⟩ | ⟨x, y, rfl⟩ | ⟨x, y, z, rfl⟩ | ⟨x, y, z, w, rfl⟩
  · simp at hb
  · simp at hb; omega
  · obtain ⟨rfl, rfl⟩ : a = 0 ∧ b = 1 := by simp at hb; omega
    simp [withoutL]
  · have : (a = 0 ∧ b = 1) ∨ (a = 0 ∧ b = 2) ∨ (a = 1 ∧ b = 2) := by simp at hb; omega
    rcases this with ⟨rfl, rfl⟩ | ⟨rfl, rfl⟩ | ⟨rfl, rfl⟩ <;> simp [withoutL, List.zipIdx_cons, List.filter_cons, List.count_append] <;> omega
  · have : (a = 0 ∧ b = 1) ∨ (a = 0 ∧ b = 2) ∨ (a = 1 ∧ b = 2) ∨ (a = 0 ∧ b = 3) ∨ (a = 1 ∧ b = 3) ∨ (a = 2 ∧ b = 3) := by simp at hb; omega
    rcases this with ⟨rfl, rfl⟩ | ⟨rfl, rfl⟩ | ⟨rfl, rfl⟩ | ⟨rfl, rfl⟩ | ⟨rfl, rfl⟩ | ⟨rfl, rfl⟩ <;> simp [withoutL, List.zipIdx_cons, List.filter_cons, List.count_append] <;> omega
theorem getD_mem {α : Type} {l : List α} {a : Nat} {d : α} (h : a < l.length) : l.getD a d ∈ l := by
  rw [List.getD_eq_getElem?_getD, List.getElem?_eq_getElem h]
  exact List.getElem_mem h
theorem joined_ok {m : Mp} (hm : MpOk m) {a b : Nat} (hab : a < b) (hb : b < m.areas.length) : MpOk (joinedM m a b) := by
  obtain ⟨⟨n1, n4⟩, h2, h3, h6⟩ := hm.areas
  have p := joined_perm n4 hab hb
  have hlen := withoutL_len (a := a) n4 (areaAt m a ++ areaAt m b) hb
  have hbl := withoutL_len (l := m.bords) (a := a) (by rw [hm.bords.1]; exact n4) (bordAt m a) (by rw [hm.bords.1]; exact hb)
  have hol := withoutL_len (l := m.outs) (a := a) (by rw [hm.outs.1]; exact n4) (leastO (outAt m a) (outAt m b)) (by rw [hm.outs.1]; exact hb)
  refine ⟨⟨⟨by show 1 ≤ (withoutL _ _ _ _).length; omega, by show (withoutL _ _ _ _).length ≤ 4; omega⟩, fun x hx => ?_, (p.nodup_iff).mpr h3, by rw [show (joinedM m a b).areas.flatten.length = m.areas.flatten.length from p.length_eq]; exact h6⟩, ⟨fun q hq => ?_, hm.paths.nd, hm.paths.key, hm.paths.srt, hm.paths.few⟩, hm.len, ⟨by show (withoutL _ _ _ _).length = (withoutL _ _ _ _).length; rw [hbl, hlen, hm.bords.1], fun x hx => ?_⟩, ⟨by show (withoutL _ _ _ _).length = (withoutL _ _ _ _).length; rw [hol, hlen, hm.outs.1], fun x hx => ?_⟩⟩
  · rcases withoutL_mem hx with rfl | hx
    · have ha := h2 _ (getD_mem (d := []) (show a < m.areas.length by omega))
      have hb' := h2 _ (getD_mem (d := []) hb)
      refine ⟨fun e => ha.1 (List.append_eq_nil_iff.mp e).1, fun s hs => ?_⟩
      rcases List.mem_append.mp hs with hs | hs
      · exact ha.2 s hs
      · exact hb'.2 s hs
    · exact h2 x hx
  · obtain ⟨⟨m1, m2⟩, r⟩ := hm.paths.mem q hq
    exact ⟨⟨p.mem_iff.mpr m1, p.mem_iff.mpr m2⟩, r⟩
  · rcases withoutL_mem hx with rfl | hx
    · exact hm.bords.2 _ (getD_mem (d := 0) (by rw [hm.bords.1]; omega))
    · exact hm.bords.2 x hx
  · rcases withoutL_mem hx with rfl | hx
    · have ha := hm.outs.2 _ (getD_mem (d := none) (show a < m.outs.length by rw [hm.outs.1]; omega))
      have hb' := hm.outs.2 _ (getD_mem (d := none) (show b < m.outs.length by rw [hm.outs.1]; omega))
      unfold outAt
      revert ha hb'
      generalize m.outs.getD a none = oa
      generalize m.outs.getD b none = ob
      intro ha hb'
      cases oa with
      | none => exact hb'
      | some i =>
        cases ob with
        | none => exact ha
        | some j =>
          have hi : (decide (0 ≤ i) && decide (i ≤ 6)) = true := ha
          have hj : (decide (0 ≤ j) && decide (j ≤ 6)) = true := hb'
          show (decide (0 ≤ min i j) && decide (min i j ≤ 6)) = true
          rw [Bool.and_eq_true, decide_eq_true_iff, decide_eq_true_iff] at hi hj ⊢
          omega
    · exact hm.outs.2 x hx
section
variable {P : Program} {w : World} {K : PySem.W.Frag} {mg : Str → Option Value} {base : Heap}
theorem sc_least_outage : FnScope ["one", "other"] ["one", "other"] (defScope s_least_outage) := ⟨rfl, rfl, rfl, by decide +kernel, rfl, by decide +kernel, by decide +kernel⟩
theorem ok_least_outage (T : TX K mg) : Def P w K mg base "least_outage" 1 ["one", "other"] (spA (fun _ : Option Int × Option Int => True) (fun x => [da (eO x.1), da (eO x.2)]) (fun x => da (eO (leastO x.1 x.2)))) := by
  refine def_mk T.d_least_outage sc_least_outage (fun _ _ _ _ _ _ us hl => match us, hl with | [_, _], _ => rfl) (fun _ => rfl) (by decide) fun ⟨a, b⟩ _ f cdv A outer s0 H0 H E B hr => ?_
  cases a with
  | none =>
    refine sv_guard (et_o2 (y := true) (et_is (d := .none) (vv 0) ev_non) fun h => by cases h) (fun _ => ?_) fun h => by cases h
    exact sv_retd (ev_if (x := true) (et_is (d := .none) (vv 0) ev_non) (fun _ => vv 1) fun h => by cases h) rfl
  | some i =>
    cases b with
    | none =>
      refine sv_guard (et_o2 (et_is (d := .int i) (vv 0) ev_non) fun _ => et_is (d := .none) (vv 1) ev_non) (fun _ => ?_) fun h => by cases h
      exact sv_retd (ev_if (x := false) (et_is (d := .int i) (vv 0) ev_non) (fun h => by cases h) fun _ => vv 0) rfl
    | some j =>
      refine sv_guard (et_o2 (et_is (d := .int i) (vv 0) ev_non) fun _ => et_is (d := .int j) (vv 1) ev_non) (fun h => by cases h) fun _ => ?_
      exact sv_retd (ev_min2 rfl T.b_min (ev_int1 T.b_int (vv 0)) (ev_int1 T.b_int (vv 1))) rfl
abbrev N_wo : List Str := ["row", "at", "value", "gone", "index", "item"]
theorem sc_without : FnScope N_wo ["row", "at", "value", "gone"] (defScope s_without) := ⟨rfl, rfl, rfl, by decide +kernel, rfl, by decide +kernel, by decide +kernel⟩
theorem ok_without (T : TX K mg) : Def P w K mg base "without" 1 ["row", "at", "value", "gone"] (spA (fun x : List PyData × Int × PyData × Int => x.1.length ≤ 100) (fun x => [da (.tuple x.1), da (.int x.2.1), da x.2.2.1, da (.int x.2.2.2)]) (fun x => da (.tuple (withoutL x.1 x.2.1 x.2.2.1 x.2.2.2)))) := by
  refine def_mk T.d_without sc_without (fun _ _ _ _ _ _ us hl => match us, hl with | [_, _, _, _], _ => rfl) (fun _ => rfl) (by decide) fun ⟨ds, at_, d, gone⟩ h1 f cdv A outer s0 H0 H E B hr => ?_
  have h1 : ds.length ≤ 100 := h1
  refine sv_retd (ev_tupleL T.b_tuple (ev_lc (xs := ds.zipIdx) (c := fun y => !decide ((y.2 : Int) = gone)) (f := fun y => if decide ((y.2 : Int) = at_) = true then d else y.1) (g := fun y => da (.tuple [.int (y.2 : Nat), y.1])) (own := [("index", 4), ("item", 5)]) (tgG := gTup K 2 (gCons (gName 4) (gCons (gName 5) gNil))) (fρ := fun y ρ => (ρ.set 4 (.val (da (.int (y.2 : Nat))))).set 5 (.val (da y.1))) rfl sc_without.nd
    (it_of (if_enumT (f := fun d => d) T.b_enumerate (ev_eq (vv 0) (by rw [List.map_id'])))) (blkOk_by (N := N_wo) (sc := defScope s_without) (by decide +kernel)) (fun _ => pg_tup rfl (pgs_cons (pgn 4 sc_without.nd) (pgs_cons (pgn 5 sc_without.nd) pgs_nil))) (fun y _ => tg_tup (tgs_cons (by decide) (tgs_cons (by decide) tgs_nil)) rfl)
    (fun y _ b => ets_one (et_neI (vv 4) (vv 3))) (fun y _ _ b => ev_ifd (et_eqI (vv 4) (vv 1)) (fun _ => vv 2) fun _ => vv 5) (by rw [List.length_zipIdx]; exact sz))) ?_
  unfold withoutL
  refine congrArg PyData.tuple (List.map_congr_left fun y _ => ?_)
  by_cases e : (y.2 : Int) = at_
  · rw [if_pos (decide_eq_true e), if_pos e]
  · rw [if_neg (by rw [decide_eq_false e]; simp), if_neg e]
end
end L2.My
end
section
set_option Elab.async false
set_option linter.all false
set_option maxRecDepth 100000
set_option autoImplicit false
/-! D17: is_pair, joined, joined_limits. -/
namespace L2.My
open PySem PySem.Spec PyProof.Rows
abbrev Pair := Nat × Nat
def eP (p : Pair) : PyData := .tuple [.int (p.1 : Nat), .int (p.2 : Nat)]
section
variable {P : Program} {w : World} {K : PySem.W.Frag} {mg : Str → Option Value} {base : Heap}
theorem sc_is_pair : FnScope ["chart", "value", "area"] ["chart", "value"] (defScope s_is_pair) := ⟨rfl, rfl, rfl, by decide +kernel, rfl, by decide +kernel, by decide +kernel⟩
theorem ok_is_pair (T : TX K mg) : Def P w K mg base "is_pair" 2 ["chart", "value"] (spA (fun x : Mp × Pair => x.2.1 < x.2.2 ∧ x.2.2 < x.1.areas.length) (fun x => [mapP (CM K) x.1, da (eP x.2)]) (fun x => da (.bool true))) := by
  refine def_mk T.d_is_pair sc_is_pair (fun _ _ _ _ _ _ us hl => match us, hl with | [_, _], _ => rfl) (fun _ => rfl) (by decide) fun ⟨m, a, b⟩ ⟨h1, h2⟩ f cdv A outer s0 H0 H E B hr => ?_
  have h1 : a < b := h1
  have h2 : b < m.areas.length := h2
  refine sv_guard (et_o3 (et_not (et_v (ev_isi T.b_isinstance (vv 1) (ev_ty T.b_tuple (by decide +kernel)) (kb_tuple _)))) (fun _ => et_neI (ev_lenT T.b_len (ds := [.int (a : Nat), .int (b : Nat)]) (ep_of (vv 1))) ev_int) fun _ _ => et_not (et_v (ev_all (bs := [true, true]) rfl T.b_all (ep_of (ev_lc0 (xs := [(a : Int), (b : Int)]) (f := fun _ => .bool true) (g := fun s => da (.int s)) (own := [("area", 2)]) (tgG := gName 2) (fρ := fun c ρ => ρ.set 2 (.val (da (.int c)))) rfl sc_is_pair.nd
    (it_of (if_tup (f := PyData.int) (vv 1))) (blkOk_by (N := ["chart", "value", "area"]) (sc := defScope s_is_pair) (by decide +kernel)) (fun _ => pgn 2 sc_is_pair.nd) (fun c _ => tg_name (by decide)) (fun c _ bk => ev_call (ok_is_integer T) (.int c) True.intro hr (ea1 (vv 2))) (by show 2 ≤ sizeLine; decide)))))) (fun h => ?_) fun _ => ?_
  · cases h
  · refine sv_retd (ev_lelt2 ev_int (ev_ixT (ds := [.int (a : Nat), .int (b : Nat)]) (vv 1) ev_int rfl) (ev_ixT (ds := [.int (a : Nat), .int (b : Nat)]) (vv 1) ev_int rfl) (ev_lenT T.b_len (ep_of (ev_fld T.k_Map T.n_Map_areas (vv 0) (mapP_areas (m := m)))))) ?_
    rw [decide_eq_true (show (0 : Int) ≤ (a : Nat) by omega), decide_eq_true (show ((a : Nat) : Int) < (b : Nat) by omega), decide_eq_true (show ((b : Nat) : Int) < ((m.areas.map (eArea true)).length : Nat) by rw [List.length_map]; omega)]
    rfl
abbrev N_jo : List Str := ["chart", "pair", "one", "other", "areas", "outage", "borders", "outages"]
theorem sc_joined : FnScope N_jo ["chart", "pair"] (defScope s_joined) := ⟨rfl, rfl, rfl, by decide +kernel, rfl, by decide +kernel, by decide +kernel⟩
theorem area_get {m : Mp} {a : Nat} (ha : a < m.areas.length) : (m.areas.map (eArea true))[a]? = some (.tuple ((areaAt m a).map .str)) := getD_map (f := eArea true) (d := []) ha
theorem bord_get {m : Mp} {a : Nat} (hm : MpOk m) (ha : a < m.areas.length) : (m.bords.map PyData.int)[a]? = some (.int (bordAt m a)) := getD_map (by rw [hm.bords.1]; exact ha)
theorem area_len {m : Mp} (hm : MpOk m) (a : Nat) : (areaAt m a).length ≤ 6 := by
  by_cases ha : a < m.areas.length
  · have h1 := hm.areas.2.2.2
    have h2 := (List.sublist_flatten_of_mem (getD_mem (l := m.areas) (d := []) ha)).length_le
    exact Nat.le_trans h2 h1
  · unfold areaAt
    rw [List.getD_eq_getElem?_getD, List.getElem?_eq_none (by omega)]
    simp
theorem ok_joined (T : TX K mg) (I : IsM K) (M : MapAt K) : Def P w K mg base "joined" 7 ["chart", "pair"] (spA (fun x : Mp × Pair => MpOk x.1 ∧ x.2.1 < x.2.2 ∧ x.2.2 < x.1.areas.length) (fun x => [mapP (CM K) x.1, da (eP x.2)]) (fun x => mapP (CM K) (joinedM x.1 x.2.1 x.2.2))) := by
  refine def_mk T.d_joined sc_joined (fun _ _ _ _ _ _ us hl => match us, hl with | [_, _], _ => rfl) (fun _ => rfl) (by decide) fun ⟨m, a, b⟩ ⟨hm, h1, h2⟩ f cdv A outer s0 H0 H E B hr => ?_
  have hm : MpOk m := hm
  have h1 : a < b := h1
  have h2 : b < m.areas.length := h2
  have ha : a < m.areas.length := by omega
  have h4 := hm.areas.1.2
  have hb1 := hm.bords.1
  have ho1 := hm.outs.1
  have hjo := joined_ok hm h1 h2
  have hla := area_len hm a
  have hlb := area_len hm b
  refine sv_guard (et_not (et_v (ev_isiM T I (m := m) (vv 0)))) (fun h => by cases h) fun _ => ?_
  refine sv_guard (et_not (et_v (ev_call (ok_is_pair T) (m, (a, b)) ⟨h1, h2⟩ (hr.mono (by decide)) (ea2 (vv 0) (vv 1))))) (fun h => by cases h) fun _ => ?_
  refine sv_asg (f := fun ρ => (ρ.set 2 (.val (da (.int (a : Nat))))).set 3 (.val (da (.int (b : Nat))))) (vs := [2, 3]) (vv 1) (pg_tup rfl (pgs_cons (pgn 2 sc_joined.nd) (pgs_cons (pgn 3 sc_joined.nd) pgs_nil))) (tg_tup (tgs_cons (by decide) (tgs_cons (by decide) tgs_nil)) rfl) ?_
  refine sv_set (i := 4) (φ := da (eAreas (joinedM m a b).areas)) sc_joined.nd (ev_eq (ev_call (ok_without T) (m.areas.map (eArea true), (a : Nat), eArea true (areaAt m a ++ areaAt m b), (b : Nat)) (by show (m.areas.map (eArea true)).length ≤ 100; rw [List.length_map]; omega) (hr.mono (by decide)) (ea4 (ev_fld T.k_Map T.n_Map_areas (vv 0) (mapP_areas (m := m))) (vv 2)
    (ev_eq (ev_catT (ev_ixT (ev_fld T.k_Map T.n_Map_areas (vv 0) (mapP_areas (m := m))) (vv 2) (atI_nat (area_get ha))) (ev_ixT (ev_fld T.k_Map T.n_Map_areas (vv 0) (mapP_areas (m := m))) (vv 3) (atI_nat (area_get h2))) (by rw [List.length_map, List.length_map]; exact sz)) (by rw [← List.map_append]; rfl)) (vv 3))) (by show PyData.tuple (withoutL _ _ _ _) = _; rw [withoutL_map]; rfl)) ?_
  refine sv_set (i := 5) (φ := da (eO (leastO (outAt m a) (outAt m b)))) sc_joined.nd (ev_call (ok_least_outage T) (outAt m a, outAt m b) True.intro (hr.mono (by decide)) (ea2 (ev_ixT (ev_fld T.k_Map T.n_Map_outages (vv 0) (mapP_outages (m := m))) (vv 2) (atI_nat (outAt_get ho1 ha))) (ev_ixT (ev_fld T.k_Map T.n_Map_outages (vv 0) (mapP_outages (m := m))) (vv 3) (atI_nat (outAt_get ho1 h2))))) ?_
  refine sv_set (i := 6) (φ := da (eInts (joinedM m a b).bords)) sc_joined.nd (ev_eq (ev_call (ok_without T) (m.bords.map .int, (a : Nat), .int (bordAt m a), (b : Nat)) (by show (m.bords.map PyData.int).length ≤ 100; rw [List.length_map]; omega) (hr.mono (by decide)) (ea4 (ev_fld T.k_Map T.n_Map_borders (vv 0) (mapP_borders (m := m))) (vv 2) (ev_ixT (ev_fld T.k_Map T.n_Map_borders (vv 0) (mapP_borders (m := m))) (vv 2) (atI_nat (bord_get hm ha))) (vv 3))) (by show PyData.tuple (withoutL _ _ _ _) = _; rw [withoutL_map]; rfl)) ?_
  refine sv_set (i := 7) (φ := da (eOuts (joinedM m a b).outs)) sc_joined.nd (ev_eq (ev_call (ok_without T) (m.outs.map eO, (a : Nat), eO (leastO (outAt m a) (outAt m b)), (b : Nat)) (by show (m.outs.map eO).length ≤ 100; rw [List.length_map]; omega) (hr.mono (by decide)) (ea4 (ev_fld T.k_Map T.n_Map_outages (vv 0) (mapP_outages (m := m))) (vv 2) (vv 5) (vv 3))) (by show PyData.tuple (withoutL _ _ _ _) = _; rw [withoutL_map]; rfl)) ?_
  refine sv_ret (ev_map3 T M ⟨true, true, true, some (true, (joinedM m a b).bords), true, joinedM m a b⟩ ⟨hjo, ⟨hjo.bords.1, hjo.areas.1.2, hjo.bords.2⟩, rfl⟩ hr (ea2 (vv 4) (ev_fld T.k_Map T.n_Map_paths (vv 0) (mapP_paths (m := m)))) (ek_cons (ev_fld T.k_Map T.n_Map_length (vv 0) (mapP_length (m := m))) (ek_cons (vv 6) (ek_cons (vv 7) ek_nil)))) fun H v h => h
theorem sc_joined_limits : FnScope ["limits", "pair", "one", "other"] ["limits", "pair"] (defScope s_joined_limits) := ⟨rfl, rfl, rfl, by decide +kernel, rfl, by decide +kernel, by decide +kernel⟩
theorem lim_get {ls : List Int} {a : Nat} (ha : a < ls.length) : (ls.map PyData.int)[a]? = some (.int (limAt ls a)) := getD_map ha
theorem ok_joined_limits (T : TX K mg) : Def P w K mg base "joined_limits" 2 ["limits", "pair"] (spA (fun x : (Bool × List Int) × Pair => x.1.2.length ≤ 100 ∧ x.2.1 < x.1.2.length ∧ x.2.2 < x.1.2.length) (fun x => [da (sq x.1.1 (x.1.2.map .int)), da (eP x.2)]) (fun x => da (eInts (joinedL x.1.2 x.2.1 x.2.2)))) := by
  refine def_mk T.d_joined_limits sc_joined_limits (fun _ _ _ _ _ _ us hl => match us, hl with | [_, _], _ => rfl) (fun _ => rfl) (by decide) fun ⟨⟨t, ls⟩, a, b⟩ ⟨h0, h1, h2⟩ f cdv A outer s0 H0 H E B hr => ?_
  have h0 : ls.length ≤ 100 := h0
  have h1 : a < ls.length := h1
  have h2 : b < ls.length := h2
  refine sv_asg (f := fun ρ => (ρ.set 2 (.val (da (.int (a : Nat))))).set 3 (.val (da (.int (b : Nat))))) (vs := [2, 3]) (vv 1) (pg_tup rfl (pgs_cons (pgn 2 sc_joined_limits.nd) (pgs_cons (pgn 3 sc_joined_limits.nd) pgs_nil))) (tg_tup (tgs_cons (by decide) (tgs_cons (by decide) tgs_nil)) rfl) ?_
  refine sv_retd (ev_call (ok_without T) (ls.map .int, (a : Nat), .int (min (limAt ls a) (limAt ls b)), (b : Nat)) (by show (ls.map PyData.int).length ≤ 100; rw [List.length_map]; omega) hr (ea4 (ev_tupleQ (t := t) T.b_tuple (vv 0)) (vv 2) (ev_min2 rfl T.b_min (ev_int1 T.b_int (ev_ixQ (t := t) (ds := ls.map .int) (vv 0) (vv 2) (atI_nat (lim_get h1)))) (ev_int1 T.b_int (ev_ixQ (t := t) (ds := ls.map .int) (vv 0) (vv 3) (atI_nat (lim_get h2))))) (vv 3))) (by show PyData.tuple (withoutL _ _ _ _) = _; rw [withoutL_map]; rfl)
end
end L2.My
end
section
set_option Elab.async false
set_option linter.all false
set_option maxRecDepth 100000
set_option autoImplicit false
/-! D18: merged. -/
namespace L2.My
open PySem PySem.Spec PyProof.Rows
def mstep (fs : List Nat) (p : Pair) : List Nat := fs.map fun x : Nat => if decide ((x : Int) ∈ [((fs.getD p.1 0 : Nat) : Int), ((fs.getD p.2 0 : Nat) : Int)]) = true then min (fs.getD p.1 0) (fs.getD p.2 0) else x
def mround (ps : List Pair) (fs : List Nat) : List Nat := ps.foldl mstep fs
def mfirsts (n : Nat) (ps : List Pair) : List Nat := ps.foldl (fun fs _ => mround ps fs) (List.range n)
structure Mst where
  m : Mp
  t : Bool
  ls : List Int
def mdown (fs : List Nat) (st : Mst) (b : Nat) : Mst := if fs.getD b 0 = b then st else ⟨joinedM st.m (fs.getD b 0) b, true, joinedL st.ls (fs.getD b 0) b⟩
def mdowns (n : Nat) (fs : List Nat) (st : Mst) (k : Nat) : Mst := (List.range k).foldl (fun st k => mdown fs st (n - 1 - k)) st
def mergedM (st : Mst) (ps : List Pair) : Mst := mdowns st.m.areas.length (mfirsts st.m.areas.length ps) st st.m.areas.length
def FsGood (n : Nat) (fs : List Nat) : Prop := fs.length = n ∧ ∀ i < n, fs.getD i 0 ≤ i
def PsGood (n : Nat) (ps : List Pair) : Prop := ∀ p ∈ ps, p.1 < p.2 ∧ p.2 < n
theorem mstep_good {n : Nat} {fs : List Nat} {p : Pair} (h : FsGood n fs) : FsGood n (mstep fs p) := by
  obtain ⟨h1, h2⟩ := h
  refine ⟨by unfold mstep; rw [List.length_map]; exact h1, fun i hi => ?_⟩
  have hi' : i < fs.length := by omega
  have e1 : fs.getD i 0 = fs[i] := by rw [List.getD_eq_getElem?_getD, List.getElem?_eq_getElem hi']; rfl
  have h3 := h2 i hi
  unfold mstep
  rw [List.getD_eq_getElem?_getD, List.getElem?_map, List.getElem?_eq_getElem hi', Option.map_some, Option.getD_some]
  rw [e1] at h3
  split
  · next h =>
    have := of_decide_eq_true h
    simp only [List.mem_cons, List.not_mem_nil, or_false] at this
    omega
  · exact h3
theorem mround_good {n : Nat} : ∀ (ps : List Pair) {fs : List Nat}, FsGood n fs → FsGood n (ps.foldl mstep fs)
  | [], _, h => h
  | p :: ps, _, h => mround_good ps (mstep_good h)
theorem range_good (n : Nat) : FsGood n (List.range n) := ⟨List.length_range, fun i hi => by rw [List.getD_eq_getElem?_getD, List.getElem?_range hi]; exact Nat.le_refl _⟩
theorem mrounds_good {n : Nat} (ps : List Pair) : ∀ (qs : List Pair) {fs : List Nat}, FsGood n fs → FsGood n (qs.foldl (fun fs _ => mround ps fs) fs)
  | [], _, h => h
  | _ :: qs, _, h => mrounds_good ps qs (mround_good ps h)
structure DnGood (n k : Nat) (st : Mst) : Prop where
  m : MpOk st.m
  ge : n - k ≤ st.m.areas.length
  ls : st.ls.length = st.m.areas.length
  pos : ∀ l ∈ st.ls, 0 ≤ l
theorem joinedL_len {ls : List Int} {m : Mp} (h : ls.length = m.areas.length) (h4 : m.areas.length ≤ 4) {a b : Nat} (hb : b < m.areas.length) : (joinedL ls a b).length = (joinedM m a b).areas.length := by
  show (withoutL _ _ _ _).length = (withoutL _ _ _ _).length
  rw [withoutL_len (by omega) _ (by omega), withoutL_len h4 _ hb, h]
theorem mdown_good {n k : Nat} {fs : List Nat} {st : Mst} (hf : FsGood n fs) (hk : k < n) (h : DnGood n k st) : DnGood n (k + 1) (mdown fs st (n - 1 - k)) ∧ (fs.getD (n - 1 - k) 0 = n - 1 - k ∨ (fs.getD (n - 1 - k) 0 < n - 1 - k ∧ n - 1 - k < st.m.areas.length)) := by
  have h1 := hf.2 (n - 1 - k) (by omega)
  have h2 := h.ge
  have h4 := h.m.areas.1.2
  unfold mdown
  by_cases e : fs.getD (n - 1 - k) 0 = n - 1 - k
  · rw [if_pos e]
    exact ⟨⟨h.m, by omega, h.ls, h.pos⟩, .inl e⟩
  · rw [if_neg e]
    have hb : n - 1 - k < st.m.areas.length := by omega
    have ha : fs.getD (n - 1 - k) 0 < n - 1 - k := by omega
    refine ⟨⟨joined_ok h.m ha hb, ?_, joinedL_len h.ls h4 hb, fun l hl => ?_⟩, .inr ⟨ha, hb⟩⟩
    · show n - (k + 1) ≤ (withoutL _ _ _ _).length
      rw [withoutL_len h4 _ hb]
      omega
    · have hpos : ∀ i, 0 ≤ limAt st.ls i := fun i => by
        unfold limAt
        by_cases hi : i < st.ls.length
        · exact h.pos _ (getD_mem hi)
        · rw [List.getD_eq_getElem?_getD, List.getElem?_eq_none (by omega)]; exact Int.le_refl _
      rcases withoutL_mem hl with rfl | hl
      · have a1 := hpos (fs.getD (n - 1 - k) 0)
        have a2 := hpos (n - 1 - k)
        omega
      · exact h.pos l hl
theorem mdowns_succ (n : Nat) (fs : List Nat) (st : Mst) (k : Nat) : mdowns n fs st (k + 1) = mdown fs (mdowns n fs st k) (n - 1 - k) := by
  unfold mdowns
  rw [List.range_succ, List.foldl_append]
  rfl
theorem mdowns_good {n : Nat} {fs : List Nat} {st : Mst} (hf : FsGood n fs) (h : DnGood n 0 st) : ∀ k ≤ n, DnGood n k (mdowns n fs st k)
  | 0, _ => h
  | k + 1, hk => by
    rw [mdowns_succ]
    exact (mdown_good hf (by omega) (mdowns_good hf h k (by omega))).1
theorem merged_good {st : Mst} (hm : MpOk st.m) (hl : st.ls.length = st.m.areas.length) (hp : ∀ l ∈ st.ls, 0 ≤ l) (ps : List Pair) : DnGood st.m.areas.length st.m.areas.length (mergedM st ps) :=
  mdowns_good (mrounds_good ps ps (range_good _)) ⟨hm, by omega, hl, hp⟩ _ (Nat.le_refl _)
def eFs (fs : List Nat) : PyData := .list (fs.map fun x => .int (x : Nat))
def mstP (K : PySem.W.Frag) (st : Mst) : Pr := tuP [mapP (CM K) st.m, da (sq st.t (st.ls.map .int))]
theorem if_rangeDn' {X : Cx} {B : Hp × Hp} {ρ : List Slot} {ow : Ow} {tg a b c : Expr} {lo hi lo' : Int} {n : Nat} {p pos : Pos} (hm : X.mg "range" = none) (h : EV X B ρ ow a (da (.int lo))) (h2 : EV X B ρ ow b (da (.int hi))) (h3 : EV X B ρ ow c (da (.int (-1)))) (hn : -(2 ^ 62) ≤ lo ∧ lo < 2 ^ 62 ∧ -(2 ^ 62) ≤ hi ∧ hi < 2 ^ 62) (he : (lo - hi).toNat = n) (hlo : lo = lo') (hg : Gl X "range" := by rfl)
    (hs : starEach [a, b, c] X.env = (false, eval a X.env) :: starEach [b, c] X.env := by rfl) (hs2 : starEach [b, c] X.env = (false, eval b X.env) :: starEach [c] X.env := by rfl) (hs3 : starEach [c] X.env = (false, eval c X.env) :: starEach [] X.env := by rfl) :
    IF X B ρ ow tg (.Call (.Name "range" p) [a, b, c] [] pos) (List.range n) fun k => da (.int (lo' - (k : Nat))) := by
  subst he hlo
  exact if_rangeDn hm h h2 h3 hn hg hs hs2 hs3
section
variable {P : Program} {w : World} {K : PySem.W.Frag} {mg : Str → Option Value} {base : Heap}
abbrev N_me : List Str := ["chart", "limits", "pairs", "firsts", "turn", "one", "other", "least", "first"]
theorem sc_merged : FnScope N_me ["chart", "limits", "pairs"] (defScope s_merged) := ⟨rfl, rfl, rfl, by decide +kernel, rfl, by decide +kernel, by decide +kernel⟩
theorem fs_get {fs : List Nat} {a : Nat} (h : a < fs.length) : (fs.map fun x : Nat => PyData.int (x : Nat))[a]? = some (.int (fs.getD a 0 : Nat)) := getD_map (f := fun x : Nat => PyData.int (x : Nat)) h
theorem ok_merged (T : TX K mg) (I : IsM K) (M : MapAt K) : Def P w K mg base "merged" 8 ["chart", "limits", "pairs"] (spA (fun x : Mst × List Pair => MpOk x.1.m ∧ x.1.ls.length = x.1.m.areas.length ∧ (∀ l ∈ x.1.ls, 0 ≤ l) ∧ PsGood x.1.m.areas.length x.2) (fun x => [mapP (CM K) x.1.m, da (sq x.1.t (x.1.ls.map .int)), da (.list (x.2.map eP))]) (fun x => mstP K (mergedM x.1 x.2))) := by
  refine def_mk T.d_merged sc_merged (fun _ _ _ _ _ _ us hl => match us, hl with | [_, _, _], _ => rfl) (fun _ => rfl) (by decide) fun ⟨⟨m, t, ls⟩, ps⟩ ⟨hm, hl, hp, hps⟩ f cdv A outer s0 H0 H E B hr => ?_
  have hm : MpOk m := hm
  have hl : ls.length = m.areas.length := hl
  have hp : ∀ l ∈ ls, 0 ≤ l := hp
  have hps : PsGood m.areas.length ps := hps
  have h4 := hm.areas.1.2
  generalize hn : m.areas.length = n at *
  refine sv_set (i := 3) (φ := da (eFs (List.range n))) sc_merged.nd (ev_listRg (n := n) rfl T.b_list T.b_range (ev_eq (ev_lenT T.b_len (ep_of (ev_fld T.k_Map T.n_Map_areas (vv 0) (mapP_areas (m := m))))) (by rw [List.length_map, hn])) (by omega)) ?_
  refine sv_for (xs := ps) (g := fun p => da (eP p)) (vs := [4]) (fun i ρ' ow' => (∃ s4 s5 s6 s7, ρ' = [.val (mapP (CM K) m), .val (da (sq t (ls.map .int))), .val (da (.list (ps.map eP))), .val (da (eFs ((ps.take i).foldl (fun fs _ => mround ps fs) (List.range n)))), s4, s5, s6, s7, .no]) ∧ ow' = [])
    PassesOwn.never rfl (if_list (f := eP) (vv 2)) (pgn 4 sc_merged.nd) (fun p _ => tg_name (by decide)) ⟨⟨_, _, _, _, rfl⟩, rfl⟩ (fun i p ρ' ow' B' hx hI => ?_) fun ρ' ow' hI => ?_
  · obtain ⟨⟨s4, s5, s6, s7, rfl⟩, rfl⟩ := hI
    have g0 : FsGood n ((ps.take i).foldl (fun fs _ => mround ps fs) (List.range n)) := mrounds_good ps _ (range_good n)
    have esucc : (ps.take (i + 1)).foldl (fun fs _ => mround ps fs) (List.range n) = mround ps ((ps.take i).foldl (fun fs _ => mround ps fs) (List.range n)) := by
      rw [take_succ_get hx, List.foldl_append]
      rfl
    rw [esucc]
    generalize (ps.take i).foldl (fun fs _ => mround ps fs) (List.range n) = fs0 at g0
    refine sv_for (xs := ps) (g := fun p => da (eP p)) (vs := [5, 6]) (fun j ρ' ow' => (∃ s5 s6 s7, ρ' = [.val (mapP (CM K) m), .val (da (sq t (ls.map .int))), .val (da (.list (ps.map eP))), .val (da (eFs ((ps.take j).foldl mstep fs0))), .val (da (eP p)), s5, s6, s7, .no]) ∧ ow' = [])
      PassesOwn.never rfl (if_list (f := eP) (vv 2)) (pg_tup rfl (pgs_cons (pgn 5 sc_merged.nd) (pgs_cons (pgn 6 sc_merged.nd) pgs_nil))) (fun q _ => tg_tup (tgs_cons (by decide) (tgs_cons (by decide) tgs_nil)) rfl) ⟨⟨_, _, _, rfl⟩, rfl⟩ (fun j q ρ' ow' B2 hq hI => ?_) fun ρ' ow' hI => ?_
    · obtain ⟨⟨s5, s6, s7, rfl⟩, rfl⟩ := hI
      have hqm := hps q (List.mem_of_getElem? hq)
      have g1 : FsGood n ((ps.take j).foldl mstep fs0) := mround_good _ g0
      have esucc2 : (ps.take (j + 1)).foldl mstep fs0 = mstep ((ps.take j).foldl mstep fs0) q := by
        rw [take_succ_get hq, List.foldl_append]
        rfl
      rw [esucc2]
      generalize (ps.take j).foldl mstep fs0 = fs at g1
      have l1 : q.1 < fs.length := by rw [g1.1]; omega
      have l2 : q.2 < fs.length := by rw [g1.1]; omega
      refine sv_set (i := 7) (φ := da (.int ((min (fs.getD q.1 0) (fs.getD q.2 0) : Nat) : Int))) sc_merged.nd (ev_eq (ev_min2 rfl T.b_min (ev_int1 T.b_int (ev_ixL (vv 3) (vv 5) (atI_nat (fs_get l1)))) (ev_int1 T.b_int (ev_ixL (vv 3) (vv 6) (atI_nat (fs_get l2))))) (congrArg PyData.int (by omega))) ?_
      refine sv_set (i := 3) (φ := da (eFs (mstep fs q))) sc_merged.nd (ev_eq (ev_lc0 (xs := fs) (g := fun x => da (.int (x : Nat))) (f := fun x => if decide ((x : Int) ∈ [((fs.getD q.1 0 : Nat) : Int), ((fs.getD q.2 0 : Nat) : Int)]) = true then .int ((min (fs.getD q.1 0) (fs.getD q.2 0) : Nat) : Int) else .int (x : Nat)) (own := [("first", 8)]) (tgG := gName 8) (fρ := fun x ρ => ρ.set 8 (.val (da (.int (x : Nat))))) rfl sc_merged.nd
        (it_of (if_list (f := fun x : Nat => PyData.int (x : Nat)) (vv 3))) (blkOk_by (N := N_me) (sc := defScope s_merged) (by decide +kernel)) (fun _ => pgn 8 sc_merged.nd) (fun x _ => tg_name (by decide))
        (fun x _ b => ev_ifd (et_cmp op_in_seq (ep_of (vv 8)) (ep_of (ev_tup (ds := [((fs.getD q.1 0 : Nat) : Int), ((fs.getD q.2 0 : Nat) : Int)].map .int) (ed_cons (ev_ixL (vv 3) (vv 5) (atI_nat (fs_get l1))) (ed_cons (ev_ixL (vv 3) (vv 6) (atI_nat (fs_get l2))) ed_nil)) (by show 2 ≤ sizeLine; decide))) r2_inI_t rfl) (fun _ => vv 7) fun _ => vv 8) (by rw [g1.1]; exact sz)) ?_) (sv_nil ⟨⟨_, _, _, rfl⟩, rfl⟩)
      unfold eFs mstep
      rw [List.map_map]
      refine congrArg PyData.list (List.map_congr_left fun x _ => ?_)
      show _ = PyData.int ((if _ then _ else _ : Nat) : Nat)
      split <;> rfl
    · obtain ⟨⟨s5, s6, s7, rfl⟩, rfl⟩ := hI
      rw [List.take_length]
      exact sv_nil ⟨⟨_, _, _, _, rfl⟩, rfl⟩
  · obtain ⟨⟨s4, s5, s6, s7, rfl⟩, rfl⟩ := hI
    rw [List.take_length]
    have g0 : FsGood n (mfirsts n ps) := mrounds_good ps _ (range_good n)
    have hdn : DnGood n 0 ⟨m, t, ls⟩ := ⟨hm, by show n - 0 ≤ m.areas.length; omega, by show ls.length = m.areas.length; omega, hp⟩
    have hfin : mergedM ⟨m, t, ls⟩ ps = mdowns n (mfirsts n ps) ⟨m, t, ls⟩ n := by
      unfold mergedM
      show mdowns m.areas.length (mfirsts m.areas.length ps) ⟨m, t, ls⟩ m.areas.length = _
      rw [hn]
    show SV _ B [.val (mapP (CM K) m), .val (da (sq t (ls.map .int))), .val (da (.list (ps.map eP))), .val (da (eFs (mfirsts n ps))), s4, s5, s6, s7, .no] [] _ { nx := fun _ _ => ∀ H, (mstP K (mergedM ⟨m, t, ls⟩ ps)).p H .non, rt := mstP K (mergedM ⟨m, t, ls⟩ ps) }
    rw [hfin]
    generalize mfirsts n ps = fs at g0
    refine sv_for (xs := List.range n) (g := fun k => da (.int (((n : Nat) : Int) - 1 - (k : Nat)))) (vs := [6]) (fun k ρ' ow' => (∃ s6, ρ' = [.val (mapP (CM K) (mdowns n fs ⟨m, t, ls⟩ k).m), .val (da (sq (mdowns n fs ⟨m, t, ls⟩ k).t ((mdowns n fs ⟨m, t, ls⟩ k).ls.map .int))), .val (da (.list (ps.map eP))), .val (da (eFs fs)), s4, s5, s6, s7, .no]) ∧ ow' = [])
      PassesOwn.never rfl (if_rangeDn' T.b_range (ev_sub (ev_lenT T.b_len (ep_of (ev_fld T.k_Map T.n_Map_areas (vv 0) (mapP_areas (m := m))))) ev_int) (ev_neg ev_int) (ev_neg ev_int) (by rw [List.length_map]; omega) (by rw [List.length_map]; omega) (by rw [List.length_map]; omega)) (pgn 6 sc_merged.nd) (fun q _ => tg_name (by decide)) ⟨⟨_, rfl⟩, rfl⟩ (fun k y ρ' ow' B2 hy hI => ?_) fun ρ' ow' hI => ?_
    · obtain ⟨⟨s6, rfl⟩, rfl⟩ := hI
      obtain ⟨hk, e⟩ := List.getElem?_eq_some_iff.mp hy
      rw [List.getElem_range] at e
      subst e
      rw [List.length_range] at hk
      have gk := mdowns_good g0 hdn k (by omega)
      obtain ⟨gs, hcase⟩ := mdown_good g0 hk gk
      rw [mdowns_succ]
      generalize mdowns n fs ⟨m, t, ls⟩ k = st at gk gs hcase
      have eb : ((n : Nat) : Int) - 1 - (k : Nat) = ((n - 1 - k : Nat) : Int) := by omega
      rw [eb]
      have lb : n - 1 - k < fs.length := by rw [g0.1]; omega
      have h4' := gk.m.areas.1.2
      have hls := gk.ls
      refine sv_if (et_neI (ev_ixL (vv 3) (vv 6) (atI_nat (fs_get lb))) (vv 6)) (fun h => ?_) fun h => ?_
      · have hne : fs.getD (n - 1 - k) 0 ≠ n - 1 - k := fun z => by
          rw [z, decide_eq_true rfl] at h
          cases h
        rcases hcase with z | ⟨ha, hb⟩
        · exact absurd z hne
        · have em : mdown fs st (n - 1 - k) = ⟨joinedM st.m (fs.getD (n - 1 - k) 0) (n - 1 - k), true, joinedL st.ls (fs.getD (n - 1 - k) 0) (n - 1 - k)⟩ := if_neg hne
          rw [em]
          refine sv_parP (n := 0) (m := 1) (φ := mapP (CM K) (joinedM st.m (fs.getD (n - 1 - k) 0) (n - 1 - k))) (ψ := da (eInts (joinedL st.ls (fs.getD (n - 1 - k) 0) (n - 1 - k)))) rfl sc_merged.nd
            (ea2 (ev_call (ok_joined T I M) (st.m, (fs.getD (n - 1 - k) 0, n - 1 - k)) ⟨gk.m, ha, hb⟩ hr (ea2 (vv 0) (ev_tup (ed_cons (ev_ixL (vv 3) (vv 6) (atI_nat (fs_get lb))) (ed_cons (vv 6) ed_nil)) (by show 2 ≤ sizeLine; decide))))
              (ev_call (ok_joined_limits T) ((st.t, st.ls), (fs.getD (n - 1 - k) 0, n - 1 - k)) ⟨by show st.ls.length ≤ 100; omega, by show fs.getD (n - 1 - k) 0 < st.ls.length; omega, by show n - 1 - k < st.ls.length; omega⟩ (hr.mono (by decide)) (ea2 (vv 1) (ev_tup (ed_cons (ev_ixL (vv 3) (vv 6) (atI_nat (fs_get lb))) (ed_cons (vv 6) ed_nil)) (by show 2 ≤ sizeLine; decide))))) (sv_nil (sv_nil ⟨⟨_, rfl⟩, rfl⟩))
      · have he : fs.getD (n - 1 - k) 0 = n - 1 - k := by
          have : decide (((fs.getD (n - 1 - k) 0 : Nat) : Int) = ((n - 1 - k : Nat) : Int)) = true := by simpa using h
          have := of_decide_eq_true this
          omega
        have em : mdown fs st (n - 1 - k) = st := if_pos he
        rw [em]
        exact sv_nil (sv_nil ⟨⟨_, rfl⟩, rfl⟩)
    · obtain ⟨⟨s6, rfl⟩, rfl⟩ := hI
      rw [List.length_range]
      exact sv_ret (ev_tupP (ea2 (vv 0) (vv 1)) (by show 2 ≤ sizeLine; decide)) fun H v h => h
end
end L2.My
end
section
set_option Elab.async false
set_option linter.all false
set_option maxRecDepth 100000
set_option autoImplicit false
/-! D19: check_wish, keeps_days, all_pairs, lists_of. -/
namespace L2.My
open PySem PySem.Spec PyProof.Rows
def keeps (m : Mp) (ls : List Int) (wish : Int) : Bool := match mostBy m ls with
  | none => false
  | some v => decide (v ≤ wish)
def allPairs (n : Nat) : List Pair := (List.range n).flatMap fun a => (List.range (n - (a + 1))).map fun k => (a, a + 1 + k)
def listsOf (ps : List Pair) : List (List Pair) := (indexSets ps.length).map fun c => c.map fun i => ps.getD i.toNat (0, 0)
theorem index_mem : ∀ many ≤ 6, ∀ c ∈ indexSets many, c.length ≤ 6 ∧ ∀ i ∈ c, 0 ≤ i ∧ i < (many : Int) := by decide +kernel
section
variable {P : Program} {w : World} {K : PySem.W.Frag} {mg : Str → Option Value} {base : Heap}
theorem sc_check_wish : FnScope ["wish"] ["wish"] (defScope s_check_wish) := ⟨rfl, rfl, rfl, by decide +kernel, rfl, by decide +kernel, by decide +kernel⟩
theorem ok_check_wish (T : TX K mg) : Def P w K mg base "check_wish" 2 ["wish"] (spA (fun x : Int => 0 ≤ x ∧ x ≤ 1000) (fun x => [da (.int x)]) (fun _ => da .none)) := by
  refine def_mk T.d_check_wish sc_check_wish (fun _ _ _ _ _ _ us hl => match us, hl with | [_], _ => rfl) (fun _ => rfl) (by decide) fun x ⟨h1, h2⟩ f cdv A outer s0 H0 H E B hr => ?_
  refine sv_guard (et_o2 (et_not (et_v (ev_call (ok_is_integer T) (.int x) True.intro hr (ea1 (vv 0))))) fun _ => et_not (et_lele ev_int (vv 0) (ev_gint T.c_MOST_WISH))) (fun h => ?_) fun _ => sv_nil fun H => .non
  rw [decide_eq_true h1, decide_eq_true (show x ≤ 1000000000000000000000000000000 by omega)] at h
  cases h
theorem sc_keeps_days : FnScope ["chart", "limits", "wish", "most"] ["chart", "limits", "wish"] (defScope s_keeps_days) := ⟨rfl, rfl, rfl, by decide +kernel, rfl, by decide +kernel, by decide +kernel⟩
theorem ok_keeps_days (T : TX K mg) (I : IsM K) (HA : HeightsAt K) : Def P w K mg base "keeps_days" 8 ["chart", "limits", "wish"] (spA (fun x : (Mp × Bool × List Int) × Int => (MpOk x.1.1 ∧ numsOk x.1.1.areas.length (some x.1.2) = true ∧ Few x.1.1 x.1.2.2) ∧ 0 ≤ x.2 ∧ x.2 ≤ 1000) (fun x => [mapP (CM K) x.1.1, da (sq x.1.2.1 (x.1.2.2.map .int)), da (.int x.2)]) (fun x => da (.bool (keeps x.1.1 x.1.2.2 x.2)))) := by
  refine def_mk T.d_keeps_days sc_keeps_days (fun _ _ _ _ _ _ us hl => match us, hl with | [_, _, _], _ => rfl) (fun _ => rfl) (by decide) fun ⟨⟨m, t, ls⟩, wish⟩ ⟨⟨hm, hn, few⟩, hw⟩ f cdv A outer s0 H0 H E B hr => ?_
  have hm : MpOk m := hm
  have hn : numsOk m.areas.length (some (t, ls)) = true := hn
  have h4 := hm.areas.1.2
  have hl := (numsOk_some hn).1
  refine sv_expr (ev_call (ok_check_map T I) (m, t, ls) ⟨by show ls.length ≤ 1000; omega, hn⟩ (hr.mono (by decide)) (ea2 (vv 0) (vv 1))) ?_
  refine sv_expr (ev_call (ok_check_wish T) wish hw (hr.mono (by decide)) (ea1 (vv 2))) ?_
  refine sv_set (i := 3) (φ := da (eO (mostBy m ls))) sc_keeps_days.nd (ev_call (ok_most_by_days T I HA) (m, t, ls) ⟨hm, hn, few⟩ hr (ea2 (vv 0) (vv 1))) ?_
  cases e : mostBy m ls with
  | none => exact sv_retd (ev_a2 (y := false) (ev_isnot (d := .none) (vv 3) ev_non) fun h => by cases h) (by show PyData.bool _ = .bool (keeps m ls wish); unfold keeps; rw [e]; rfl)
  | some v => exact sv_retd (ev_a2 (ev_isnot (d := .int v) (vv 3) ev_non) fun h => ev_le (i := v) (vv 3) (vv 2)) (by show PyData.bool _ = .bool (keeps m ls wish); unfold keeps; rw [e]; rfl)
theorem sc_all_pairs : FnScope ["chart", "many", "one", "other"] ["chart"] (defScope s_all_pairs) := ⟨rfl, rfl, rfl, by decide +kernel, rfl, by decide +kernel, by decide +kernel⟩
theorem ok_all_pairs (T : TX K mg) : Def P w K mg base "all_pairs" 1 ["chart"] (spA (fun m : Mp => MpOk m) (fun m => [mapP (CM K) m]) (fun m => da (.list ((allPairs m.areas.length).map eP)))) := by
  refine def_mk T.d_all_pairs sc_all_pairs (fun _ _ _ _ _ _ us hl => match us, hl with | [_], _ => rfl) (fun _ => rfl) (by decide) fun m hm f cdv A outer s0 H0 H E B hr => ?_
  have h4 := hm.areas.1.2
  refine sv_set (i := 1) (φ := da (.int (m.areas.length : Nat))) sc_all_pairs.nd (ev_eq (ev_lenT T.b_len (ep_of (ev_fld T.k_Map T.n_Map_areas (vv 0) (mapP_areas (m := m))))) (by rw [List.length_map])) ?_
  refine sv_retd (ev_lc20 (xs := List.range m.areas.length) (ys := fun a => List.range (m.areas.length - (a + 1))) (g := fun a => da (.int (a : Nat))) (g1 := fun a k => da (.int ((((a : Nat) : Int) + 1) + (k : Nat)))) (f1 := fun a k => eP (a, a + 1 + k)) (own := [("one", 2), ("other", 3)]) (vs1 := [3]) (tgG := gName 2) (tgG1 := gName 3) (fρ := fun a ρ => ρ.set 2 (.val (da (.int (a : Nat))))) (fρ1 := fun a k ρ => ρ.set 3 (.val (da (.int ((((a : Nat) : Int) + 1) + (k : Nat)))))) rfl sc_all_pairs.nd
    (it_of (if_range1 T.b_range (vv 1) (by omega))) (blkOk_by (N := ["chart", "many", "one", "other"]) (sc := defScope s_all_pairs) (by decide +kernel)) (by decide) (fun _ => pgn 2 sc_all_pairs.nd) (fun a _ => tg_name (by decide)) (fun a ha b => if_range2' T.b_range (ev_add (vv 2) ev_int) (vv 1) (by have := List.mem_range.mp ha; omega) (by have := List.mem_range.mp ha; omega)) (fun _ => pgn 3 sc_all_pairs.nd) (fun a _ k _ => tg_name (by decide))
    (fun a _ k _ b => ev_eq (ev_tup (ed_cons (vv 2) (ed_cons (vv 3) ed_nil)) (by show 2 ≤ sizeLine; decide)) (by show PyData.tuple [.int _, .int _] = .tuple [.int _, .int _]; congr 4)) ?_) ?_
  · have := len_flatMap_le (fun a => List.range (m.areas.length - (a + 1))) 4 (List.range m.areas.length) fun x _ => by rw [List.length_range]; omega
    rw [List.length_range] at this
    exact sz
  · unfold allPairs
    rw [← eq_map_flatMap]
    simp only [List.map_map]
    rfl
abbrev N_lo : List Str := ["items", "choice", "at"]
theorem sc_lists_of : FnScope N_lo ["items"] (defScope s_lists_of) := ⟨rfl, rfl, rfl, by decide +kernel, rfl, by decide +kernel, by decide +kernel⟩
theorem ok_lists_of (T : TX K mg) : Def P w K mg base "lists_of" 9 ["items"] (spA (fun ps : List Pair => ps.length ≤ 6) (fun ps => [da (.list (ps.map eP))]) (fun ps => da (.list ((listsOf ps).map fun l => .list (l.map eP))))) := by
  refine def_mk T.d_lists_of sc_lists_of (fun _ _ _ _ _ _ us hl => match us, hl with | [_], _ => rfl) (fun _ => rfl) (by decide) fun ps hp f cdv A outer s0 H0 H E B hr => ?_
  have hp : ps.length ≤ 6 := hp
  have h64 := index_ok ps.length hp
  refine sv_retd (ev_lc0 (xs := indexSets ps.length) (g := fun c => da (eT c)) (f := fun c => .list (c.map fun i => eP (ps.getD i.toNat (0, 0)))) (own := [("choice", 1)]) (tgG := gName 1) (fρ := fun c ρ => ρ.set 1 (.val (da (eT c)))) rfl sc_lists_of.nd
    (it_of (if_list (ev_call (ok_index_sets T) ps.length hp hr (ea1 (ev_eq (ev_len T.b_len (ds := ps.map eP) (ep_of (vv 0))) (by rw [List.length_map])))))) (blkOk_by (N := N_lo) (sc := defScope s_lists_of) (by decide +kernel)) (fun _ => pgn 1 sc_lists_of.nd) (fun c _ => tg_name (by decide))
    (fun c hc b => ev_lc0 (xs := c) (g := fun i => da (.int i)) (f := fun i => eP (ps.getD i.toNat (0, 0))) (own := [("at", 2)]) (tgG := gName 2) (fρ := fun i ρ => ρ.set 2 (.val (da (.int i)))) rfl sc_lists_of.nd (it_of (if_tup (f := PyData.int) (vv 1))) (blkOk_by (N := N_lo) (sc := relS _ (defScope s_lists_of)) (by decide +kernel)) (fun _ => pgn 2 sc_lists_of.nd) (fun i _ => tg_name (by decide))
      (fun i hi b2 => ev_ixL (vv 0) (vv 2) ?_) ?_) sz) ?_
  · obtain ⟨_, hb⟩ := index_mem _ hp c hc
    obtain ⟨h0, h1⟩ := hb i hi
    have e : i = ((i.toNat : Nat) : Int) := by omega
    rw [e, Int.toNat_natCast]
    exact atI_nat (getD_map (f := eP) (d := (0, 0)) (by omega))
  · have := (index_mem _ hp c hc).1
    exact sz
  · unfold listsOf
    rw [List.map_map]
    refine congrArg PyData.list (List.map_congr_left fun c _ => ?_)
    show PyData.list _ = .list ((c.map fun i => ps.getD i.toNat (0, 0)).map eP)
    rw [List.map_map]
    rfl
end
end L2.My
end
section
set_option Elab.async false
set_option linter.all false
set_option maxRecDepth 100000
set_option autoImplicit false
/-! D20: least_joins, with_outage, greatest_outages. -/
namespace L2.My
open PySem PySem.Spec PyProof.Rows
def subB (o ps : List Pair) : Bool := o.all fun p => decide (p ∈ ps)
def ljStep (st : Mst) (wish : Int) (found : List (List Pair)) (ps : List Pair) : List (List Pair) := if found.any (fun o => subB o ps) = true then found else if keeps (mergedM st ps).m (mergedM st ps).ls wish = true then found ++ [ps] else found
def leastJ (st : Mst) (wish : Int) : List (List Pair) := (listsOf (allPairs st.m.areas.length)).foldl (ljStep st wish) []
theorem pairs_ok : ∀ n ≤ 4, (allPairs n).length ≤ 6 ∧ (listsOf (allPairs n)).length ≤ 64 ∧ ∀ ps ∈ listsOf (allPairs n), ps.length ≤ 6 ∧ ∀ p ∈ ps, p.1 < p.2 ∧ p.2 < n := by decide +kernel
theorem eqv_eP (p q : Pair) : PyData.eqv (eP p) (eP q) = decide (p = q) := by
  have e : PyData.eqv (eP p) (eP q) = (decide ((p.1 : Int) = q.1) && (decide ((p.2 : Int) = q.2) && true)) := by
    simp only [eP, PyData.eqv, PyData.eqvAll, Bool.beq_eq_decide_eq]
  rw [e]
  obtain ⟨a, b⟩ := p
  obtain ⟨c, d⟩ := q
  rw [Bool.eq_iff_iff]
  simp only [Bool.and_eq_true, decide_eq_true_eq, and_true, Prod.mk.injEq]
  omega
theorem any_eP (ps : List Pair) (p : Pair) : ((ps.map eP).any fun z => PyData.eqv z (eP p)) = decide (p ∈ ps) := by
  rw [List.any_map, Bool.eq_iff_iff, List.any_eq_true, decide_eq_true_iff]
  constructor
  · rintro ⟨q, hq, e⟩
    have e : PyData.eqv (eP q) (eP p) = true := e
    rw [eqv_eP] at e
    rw [← of_decide_eq_true e]
    exact hq
  · intro h
    exact ⟨p, h, by show PyData.eqv (eP p) (eP p) = true; rw [eqv_eP]; exact decide_eq_true rfl⟩
theorem nods_eP (ps : List Pair) : nods (ps.map eP) = true := by
  induction ps with
  | nil => rfl
  | cons p ps ih => rw [List.map_cons, nods, ih]; rfl
theorem shaped_ePs (ps : List Pair) : SeqAt.shaped (.list (ps.map eP)) = true := by
  have h1 : PyData.canLayAll0 (ps.map eP) = true := by
    induction ps with
    | nil => simp [PyData.canLayAll0]
    | cons p ps ih =>
      rw [List.map_cons, PyData.canLayAll0, ih]
      simp [eP, PyData.canLay0, PyData.canLayAll0]
  have h2 : PyData.depthAll (ps.map eP) ≤ 1 := by
    clear h1
    induction ps with
    | nil => simp [PyData.depthAll]
    | cons p ps ih =>
      rw [List.map_cons, PyData.depthAll]
      have : (eP p).depth = 1 := by simp [eP, PyData.depth, PyData.depthAll]
      omega
  show ((PyData.list (ps.map eP)).canLay0 && decide ((PyData.list (ps.map eP)).depth ≤ 64)) = true
  rw [Bool.and_eq_true]
  refine ⟨by simp only [PyData.canLay0]; exact h1, decide_eq_true ?_⟩
  simp only [PyData.depth]
  omega
theorem shaped_eP (p : Pair) : SeqAt.shaped (eP p) = true := by
  show ((eP p).canLay0 && decide ((eP p).depth ≤ 64)) = true
  simp [eP, PyData.canLay0, PyData.canLayAll0, PyData.depth, PyData.depthAll]
def ePs (ps : List Pair) : PyData := .list (ps.map eP)
theorem numsOk_of {many : Nat} {t : Bool} {ls : List Int} (h1 : ls.length = many) (h2 : ∀ l ∈ ls, 0 ≤ l) : numsOk many (some (t, ls)) = true := by
  show (decide (ls.length = many) && ls.all fun l => decide (0 ≤ l)) = true
  rw [Bool.and_eq_true, decide_eq_true_iff, List.all_eq_true]
  exact ⟨h1, fun l hl => decide_eq_true (h2 l hl)⟩
def FewJ (st : Mst) : Prop := ∀ ps ∈ listsOf (allPairs st.m.areas.length), Few (mergedM st ps).m (mergedM st ps).ls
section
variable {P : Program} {w : World} {K : PySem.W.Frag} {mg : Str → Option Value} {base : Heap}
abbrev N_lj : List Str := ["chart", "limits", "wish", "found", "pairs", "later", "lesser", "other", "pair"]
theorem sc_least_joins : FnScope N_lj ["chart", "limits", "wish"] (defScope s_least_joins) := ⟨rfl, rfl, rfl, by decide +kernel, rfl, by decide +kernel, by decide +kernel⟩
theorem ok_least_joins (T : TX K mg) (I : IsM K) (M : MapAt K) (HA : HeightsAt K) : Def P w K mg base "least_joins" 10 ["chart", "limits", "wish"] (spA (fun x : Mst × Int => (MpOk x.1.m ∧ numsOk x.1.m.areas.length (some (x.1.t, x.1.ls)) = true ∧ FewJ x.1) ∧ 0 ≤ x.2 ∧ x.2 ≤ 1000) (fun x => [mapP (CM K) x.1.m, da (sq x.1.t (x.1.ls.map .int)), da (.int x.2)]) (fun x => da (.list ((leastJ x.1 x.2).map ePs)))) := by
  refine def_mk T.d_least_joins sc_least_joins (fun _ _ _ _ _ _ us hl => match us, hl with | [_, _, _], _ => rfl) (fun _ => rfl) (by decide) fun ⟨⟨m, t, ls⟩, wish⟩ ⟨⟨hm, hn, few⟩, hw⟩ f cdv A outer s0 H0 H E B hr => ?_
  have hm : MpOk m := hm
  have hn : numsOk m.areas.length (some (t, ls)) = true := hn
  have few : FewJ ⟨m, t, ls⟩ := few
  have h4 := hm.areas.1.2
  obtain ⟨hl, hpos⟩ := numsOk_some hn
  obtain ⟨p1, p2, p3⟩ := pairs_ok _ h4
  have hu65 : (cxF P w K mg base N_lj "least_joins" s_least_joins f cdv A outer s0 H E).A.units + 65 < cLine := by have := hr.un; omega
  refine sv_expr (ev_call (ok_check_map T I) (m, t, ls) ⟨by show ls.length ≤ 1000; omega, hn⟩ (hr.mono (by decide)) (ea2 (vv 0) (vv 1))) ?_
  refine sv_expr (ev_call (ok_check_wish T) wish hw (hr.mono (by decide)) (ea1 (vv 2))) ?_
  refine sv_ownL (i := 3) sc_least_joins.nd ed_nil (by decide) fun p => ?_
  refine sv_for (xs := listsOf (allPairs m.areas.length)) (g := fun ps => da (ePs ps)) (vs := [4]) (fun i ρ' ow' => (∃ s4 s5 s6, ρ' = [.val (mapP (CM K) m), .val (da (sq t (ls.map .int))), .val (da (.int wish)), .ptr p, s4, s5, s6, .no, .no]) ∧ ∃ fd : List (List Pair), fd = ((listsOf (allPairs m.areas.length)).take i).foldl (ljStep ⟨m, t, ls⟩ wish) [] ∧ fd.length ≤ i ∧ (∀ o ∈ fd, o.length ≤ 6) ∧ ow' = [(p, ol (fd.map ePs))])
    PassesOwn.never rfl (if_list (f := ePs) (ev_call (ok_lists_of T) (allPairs m.areas.length) p1 hr (ea1 (ev_call (ok_all_pairs T) m hm (hr.mono (by decide)) (ea1 (vv 0)))))) (pgn 4 sc_least_joins.nd) (fun q _ => tg_name (by decide)) ⟨⟨_, _, _, rfl⟩, [], rfl, Nat.zero_le _, fun o h => (by cases h), rfl⟩ (fun i ps ρ' ow' B' hx hI => ?_) fun ρ' ow' hI => ?_
  · obtain ⟨⟨s4, s5, s6, rfl⟩, fd, hfd, hfl, hfo, rfl⟩ := hI
    have hpm := List.mem_of_getElem? hx
    have hil := (List.getElem?_eq_some_iff.mp hx).1
    obtain ⟨q1, q2⟩ := p3 ps hpm
    have esucc : ((listsOf (allPairs m.areas.length)).take (i + 1)).foldl (ljStep ⟨m, t, ls⟩ wish) [] = ljStep ⟨m, t, ls⟩ wish fd ps := by
      rw [take_succ_get hx, List.foldl_append, ← hfd]
      rfl
    rw [esucc]
    refine sv_if (x := !(fd.any fun o => subB o ps)) (et_not (et_v (ev_eq (ev_any (bs := fd.map fun o => subB o ps) rfl T.b_any (ep_of (ev_eq (ev_lc0 (xs := fd) (g := fun o => da (ePs o)) (f := fun o => .bool (subB o ps)) (own := [("other", 7)]) (tgG := gName 7) (fρ := fun o ρ => ρ.set 7 (.val (da (ePs o)))) rfl sc_least_joins.nd (it_own (n := 3) (p := p) rfl List.mem_cons_self) (blkOk_by (N := N_lj) (sc := defScope s_least_joins) (by decide +kernel)) (fun _ => pgn 7 sc_least_joins.nd) (fun o _ => tg_name (by decide))
      (fun o ho b => ev_eq (ev_all (bs := o.map fun q => decide (q ∈ ps)) rfl T.b_all (ep_of (ev_eq (ev_lc0 (xs := o) (g := fun q => da (eP q)) (f := fun q => .bool (decide (q ∈ ps))) (own := [("pair", 8)]) (tgG := gName 8) (fρ := fun q ρ => ρ.set 8 (.val (da (eP q)))) rfl sc_least_joins.nd (it_of (if_list (f := eP) (vv 7))) (blkOk_by (N := N_lj) (sc := relS _ (defScope s_least_joins)) (by decide +kernel)) (fun _ => pgn 8 sc_least_joins.nd) (fun q _ => tg_name (by decide))
        (fun q _ b2 => ev_eq (ev_cmp (op_inD hu65) (ep_of (vv 8)) (ep_of (vv 4)) (r2_inD (ds := ps.map eP) (d := eP q) rfl (nods_eP ps) (shaped_eP q) (shaped_ePs ps)) rfl) (congrArg PyData.bool (any_eP ps q))) (by have := hfo o ho; exact sz)) (by rw [List.map_map]; rfl)))) (by rw [List.all_map]; rfl)) sz) (by rw [List.map_map]; rfl)))) (by rw [List.any_map]; rfl)))) (fun h => ?_) fun h => ?_
    · have hno : (fd.any fun o => subB o ps) = false := by simpa using h
      have gm := merged_good (st := ⟨m, t, ls⟩) hm hl hpos ps
      have fw : Few (mergedM ⟨m, t, ls⟩ ps).m (mergedM ⟨m, t, ls⟩ ps).ls := few ps hpm
      have e1 : ljStep ⟨m, t, ls⟩ wish fd ps = if keeps (mergedM ⟨m, t, ls⟩ ps).m (mergedM ⟨m, t, ls⟩ ps).ls wish = true then fd ++ [ps] else fd := by
        unfold ljStep
        rw [hno]
        rfl
      rw [e1]
      refine sv_asgP (φs := [mapP (CM K) (mergedM ⟨m, t, ls⟩ ps).m, da (sq (mergedM ⟨m, t, ls⟩ ps).t ((mergedM ⟨m, t, ls⟩ ps).ls.map .int))]) (f := fun ρ => (ρ.set 5 (.val (mapP (CM K) (mergedM ⟨m, t, ls⟩ ps).m))).set 6 (.val (da (sq (mergedM ⟨m, t, ls⟩ ps).t ((mergedM ⟨m, t, ls⟩ ps).ls.map .int))))) (ev_call (ok_merged T I M) (⟨m, t, ls⟩, ps) ⟨hm, hl, hpos, q2⟩ (hr.mono (by decide)) (ea3 (vv 0) (vv 1) (vv 4))) (pg_tup rfl (pgs_cons (pgn 5 sc_least_joins.nd) (pgs_cons (pgn 6 sc_least_joins.nd) pgs_nil))) (tgsp_cons (tgsp_cons tgsp_nil)) rfl ?_
      refine sv_if (x := keeps (mergedM ⟨m, t, ls⟩ ps).m (mergedM ⟨m, t, ls⟩ ps).ls wish) (et_v (ev_call (ok_keeps_days T I HA) (((mergedM ⟨m, t, ls⟩ ps).m, (mergedM ⟨m, t, ls⟩ ps).t, (mergedM ⟨m, t, ls⟩ ps).ls), wish) ⟨⟨gm.m, numsOk_of gm.ls gm.pos, fw⟩, hw⟩ (hr.mono (by decide)) (ea3 (vv 5) (vv 6) (vv 2)))) (fun hk => ?_) fun hk => ?_
      · rw [if_pos hk]
        refine sv_append (i := 3) (d := ePs ps) rfl (vv 4) (by rw [List.length_map]; exact szl) (sv_nil (sv_nil (sv_nil ⟨⟨_, _, _, rfl⟩, fd ++ [ps], rfl, by rw [List.length_append]; simp; omega, fun o ho => ?_, by rw [List.map_append]; rfl⟩)))
        rcases List.mem_append.mp ho with ho | ho
        · exact hfo o ho
        · rw [List.mem_singleton.mp ho]; exact q1
      · rw [if_neg (by rw [hk]; simp)]
        exact sv_nil (sv_nil (sv_nil ⟨⟨_, _, _, rfl⟩, fd, rfl, by omega, hfo, rfl⟩))
    · have hyes : (fd.any fun o => subB o ps) = true := by simpa using h
      have e1 : ljStep ⟨m, t, ls⟩ wish fd ps = fd := by
        unfold ljStep
        rw [if_pos hyes]
      rw [e1]
      exact sv_nil (sv_nil ⟨⟨_, _, _, rfl⟩, fd, rfl, by omega, hfo, rfl⟩)
  · obtain ⟨⟨s4, s5, s6, rfl⟩, fd, hfd, hfl, hfo, rfl⟩ := hI
    rw [List.take_length] at hfd
    have e : fd = leastJ ⟨m, t, ls⟩ wish := hfd
    subst e
    refine sv_freeze (i := 3) rfl ?_
    exact sv_retd (vv 3) rfl
end
end L2.My
end
section
set_option Elab.async false
set_option linter.all false
set_option maxRecDepth 100000
set_option autoImplicit false
/-! D21: with_outage, greatest_outages. -/
namespace L2.My
open PySem PySem.Spec PyProof.Rows
def withOut (m : Mp) (a : Nat) (o : Option Int) : Mp := outsOf m (withoutL m.outs a o (-1))
theorem withoutL_all {α : Type} (l : List α) (a : Nat) (v : α) : withoutL l a v (-1) = l.set a v := by
  unfold withoutL
  have e : (l.zipIdx.filter fun y => !decide ((y.2 : Int) = -1)) = l.zipIdx := List.filter_eq_self.mpr fun y _ => by
    simp only [Bool.not_eq_true', decide_eq_false_iff_not]
    omega
  rw [e]
  refine List.ext_getElem? fun i => ?_
  rw [List.getElem?_map, List.getElem?_zipIdx, List.getElem?_set, Option.map_map]
  by_cases h : a = i
  · subst h
    by_cases hi : a < l.length
    · rw [List.getElem?_eq_getElem hi]
      simp [hi]
    · rw [List.getElem?_eq_none (by omega)]
      simp [hi]
  · rw [if_neg h]
    cases l[i]? with
    | none => rfl
    | some x =>
      show some (if (((0 + i : Nat) : Nat) : Int) = (a : Int) then v else x) = some x
      rw [if_neg (by omega)]
theorem withOut_ok {m : Mp} (hm : MpOk m) (a : Nat) {o : Option Int} (ho : oOk o = true) : MpOk (withOut m a o) := by
  have e : (withOut m a o).outs = m.outs.set a o := withoutL_all _ _ _
  refine ⟨hm.areas, hm.paths, hm.len, hm.bords, by rw [e, List.length_set]; exact hm.outs.1, fun x hx => ?_⟩
  rw [e] at hx
  rcases List.mem_or_eq_of_mem_set hx with h | h
  · exact hm.outs.2 x h
  · rw [h]; exact ho
def keptOf (m : Mp) (ls : List Int) (wish : Int) (a : Nat) : List Nat := (List.range 7).filter fun o => keeps (withOut m a (some (o : Nat))) ls wish
inductive GE where
  | any
  | most (k : Int)
  | none
  deriving DecidableEq
def eGE : GE → PyData
  | .any => .tuple [.str "any"]
  | .most k => .tuple [.str "most", .int k]
  | .none => .tuple [.str "none"]
def greatAt (m : Mp) (ls : List Int) (wish : Int) (a : Nat) : GE := if keeps (withOut m a none) ls wish = true then .any else if (keptOf m ls wish a).isEmpty = true then .none else .most ((keptOf m ls wish a).getLastD 0 : Nat)
def FewG (m : Mp) (ls : List Int) : Prop := ∀ a < m.areas.length, Few (withOut m a none) ls ∧ ∀ o < 7, Few (withOut m a (some (o : Nat))) ls
section
variable {P : Program} {w : World} {K : PySem.W.Frag} {mg : Str → Option Value} {base : Heap}
theorem sc_with_outage : FnScope ["chart", "area", "outage"] ["chart", "area", "outage"] (defScope s_with_outage) := ⟨rfl, rfl, rfl, by decide +kernel, rfl, by decide +kernel, by decide +kernel⟩
theorem ok_with_outage (T : TX K mg) (M : MapAt K) : Def P w K mg base "with_outage" 8 ["chart", "area", "outage"] (spA (fun x : Mp × Nat × Option Int => MpOk x.1 ∧ oOk x.2.2 = true) (fun x => [mapP (CM K) x.1, da (.int (x.2.1 : Nat)), da (eO x.2.2)]) (fun x => mapP (CM K) (withOut x.1 x.2.1 x.2.2))) := by
  refine def_mk T.d_with_outage sc_with_outage (fun _ _ _ _ _ _ us hl => match us, hl with | [_, _, _], _ => rfl) (fun _ => rfl) (by decide) fun ⟨m, a, o⟩ ⟨hm, ho⟩ f cdv A outer s0 H0 H E B hr => ?_
  have hm : MpOk m := hm
  have ho : oOk o = true := ho
  have h4 := hm.areas.1.2
  have hlo := hm.outs.1
  have hw := withOut_ok hm a ho
  refine sv_ret (ev_meth T.k_Map (ok_with_outages T M) (m, true, withoutL m.outs a o (-1)) ⟨hm, hw.outs.1, hw.outs.2⟩ hr (vv 0) (mapP_m_with_outages (m := m)) (ea1 (ev_eq (ev_call (ok_without T) (m.outs.map eO, (a : Nat), eO o, -1) (by show (m.outs.map eO).length ≤ 100; rw [List.length_map]; omega) (hr.mono (by decide)) (ea4 (ev_fld T.k_Map T.n_Map_outages (vv 0) (mapP_outages (m := m))) (vv 1) (vv 2) (ev_neg ev_int))) (by show PyData.tuple (withoutL _ _ _ _) = _; rw [withoutL_map]; rfl))) rfl) fun H v h => h
abbrev N_go : List Str := ["chart", "limits", "wish", "found", "area", "outages", "kept", "outage"]
theorem sc_greatest_outages : FnScope N_go ["chart", "limits", "wish"] (defScope s_greatest_outages) := ⟨rfl, rfl, rfl, by decide +kernel, rfl, by decide +kernel, by decide +kernel⟩
theorem oOk_nat {o : Nat} (h : o < 7) : oOk (some (o : Nat)) = true := by
  show (decide ((0 : Int) ≤ (o : Nat)) && decide (((o : Nat) : Int) ≤ 6)) = true
  rw [Bool.and_eq_true, decide_eq_true_iff, decide_eq_true_iff]
  omega
theorem ok_greatest_outages (T : TX K mg) (I : IsM K) (M : MapAt K) (HA : HeightsAt K) : Def P w K mg base "greatest_outages" 9 ["chart", "limits", "wish"] (spA (fun x : (Mp × Bool × List Int) × Int => (MpOk x.1.1 ∧ numsOk x.1.1.areas.length (some x.1.2) = true ∧ FewG x.1.1 x.1.2.2) ∧ 0 ≤ x.2 ∧ x.2 ≤ 1000) (fun x => [mapP (CM K) x.1.1, da (sq x.1.2.1 (x.1.2.2.map .int)), da (.int x.2)]) (fun x => da (.list ((List.range x.1.1.areas.length).map fun a => eGE (greatAt x.1.1 x.1.2.2 x.2 a))))) := by
  refine def_mk T.d_greatest_outages sc_greatest_outages (fun _ _ _ _ _ _ us hl => match us, hl with | [_, _, _], _ => rfl) (fun _ => rfl) (by decide) fun ⟨⟨m, t, ls⟩, wish⟩ ⟨⟨hm, hn, few⟩, hw⟩ f cdv A outer s0 H0 H E B hr => ?_
  have hm : MpOk m := hm
  have hn : numsOk m.areas.length (some (t, ls)) = true := hn
  have few : FewG m ls := few
  have h4 := hm.areas.1.2
  obtain ⟨hl, hpos⟩ := numsOk_some hn
  refine sv_expr (ev_call (ok_check_map T I) (m, t, ls) ⟨by show ls.length ≤ 1000; omega, hn⟩ (hr.mono (by decide)) (ea2 (vv 0) (vv 1))) ?_
  refine sv_expr (ev_call (ok_check_wish T) wish hw (hr.mono (by decide)) (ea1 (vv 2))) ?_
  refine sv_ownL (i := 3) sc_greatest_outages.nd ed_nil (by decide) fun p => ?_
  refine sv_for (xs := List.range m.areas.length) (g := fun a => da (.int (a : Nat))) (vs := [4]) (fun i ρ' ow' => (∃ s4 s5 s6, ρ' = [.val (mapP (CM K) m), .val (da (sq t (ls.map .int))), .val (da (.int wish)), .ptr p, s4, s5, s6, .no]) ∧ ow' = [(p, ol (((List.range m.areas.length).take i).map fun a => eGE (greatAt m ls wish a)))])
    PassesOwn.never rfl (if_range1 T.b_range (ev_eq (ev_lenT T.b_len (ep_of (ev_fld T.k_Map T.n_Map_areas (vv 0) (mapP_areas (m := m))))) (by rw [List.length_map])) (by omega)) (pgn 4 sc_greatest_outages.nd) (fun q _ => tg_name (by decide)) ⟨⟨_, _, _, rfl⟩, rfl⟩ (fun i a ρ' ow' B' hx hI => ?_) fun ρ' ow' hI => ?_
  · obtain ⟨⟨s4, s5, s6, rfl⟩, rfl⟩ := hI
    have ha := List.mem_range.mp (List.mem_of_getElem? hx)
    obtain ⟨fw0, fwn⟩ := few a ha
    refine sv_set (i := 5) (φ := da (.list ((List.range 7).map fun o => .int (o : Nat)))) sc_greatest_outages.nd (ev_listRg (n := 7) rfl T.b_list T.b_range (ev_eq (ev_add (ev_gint T.c_MOST_OUTAGE) ev_int) rfl) (by decide)) ?_
    have hwo : ∀ o : Option Int, oOk o = true → numsOk (withOut m a o).areas.length (some (t, ls)) = true := fun o _ => hn
    refine sv_setLc (i := 6) (xs := List.range 7) (g := fun o => da (.int (o : Nat))) (c := fun o => keeps (withOut m a (some (o : Nat))) ls wish) (f := fun o => .int (o : Nat)) (own := [("outage", 7)]) (tgG := gName 7) (fρ := fun o ρ => ρ.set 7 (.val (da (.int (o : Nat))))) rfl sc_greatest_outages.nd (it_of (if_list (f := fun o : Nat => PyData.int (o : Nat)) (vv 5))) (blkOk_by (N := N_go) (sc := defScope s_greatest_outages) (by decide +kernel)) (fun _ => pgn 7 sc_greatest_outages.nd) (fun o _ => tg_name (by decide))
      (fun o ho b => ets_one (et_v (ev_call (ok_keeps_days T I HA) ((withOut m a (some (o : Nat)), t, ls), wish) ⟨⟨withOut_ok hm a (oOk_nat (List.mem_range.mp ho)), hwo _ (oOk_nat (List.mem_range.mp ho)), fwn o (List.mem_range.mp ho)⟩, hw⟩ (hr.mono (by decide)) (ea3 (ev_call (ok_with_outage T M) (m, a, some (o : Nat)) ⟨hm, oOk_nat (List.mem_range.mp ho)⟩ hr (ea3 (vv 0) (vv 4) (vv 7))) (vv 1) (vv 2))))) (fun o _ _ b => vv 7) (by show 7 ≤ sizeLine; decide) ?_
    have hsucc : ∀ d, d = eGE (greatAt m ls wish a) → (((List.range m.areas.length).take i).map fun a => eGE (greatAt m ls wish a)) ++ [d] = ((List.range m.areas.length).take (i + 1)).map fun a => eGE (greatAt m ls wish a) := fun d e => by
      rw [e]
      exact take_map_snoc (fun a => eGE (greatAt m ls wish a)) hx
    have hsz : (((List.range m.areas.length).take i).map fun a => eGE (greatAt m ls wish a)).length < sizeLine := by
      rw [List.length_map, List.length_take, List.length_range]
      exact szl
    have hkept : ((List.range 7).filter fun o => keeps (withOut m a (some (o : Nat))) ls wish) = keptOf m ls wish a := rfl
    rw [hkept]
    refine sv_if (x := keeps (withOut m a none) ls wish) (et_v (ev_call (ok_keeps_days T I HA) ((withOut m a none, t, ls), wish) ⟨⟨withOut_ok hm a rfl, hwo _ rfl, fw0⟩, hw⟩ (hr.mono (by decide)) (ea3 (ev_call (ok_with_outage T M) (m, a, none) ⟨hm, rfl⟩ hr (ea3 (vv 0) (vv 4) ev_non)) (vv 1) (vv 2)))) (fun hk => ?_) fun hk => ?_
    · refine sv_append (i := 3) (d := eGE .any) rfl (ev_tup (ed_cons ev_str ed_nil) (by show 1 ≤ sizeLine; decide)) hsz (sv_nil (sv_nil ⟨⟨_, _, _, rfl⟩, ?_⟩))
      rw [hsucc _ (by unfold greatAt; rw [if_pos hk])]
    · have e1 : (keptOf m ls wish a).map (fun o : Nat => PyData.int (o : Nat)) = ((keptOf m ls wish a).map fun o => ((o : Nat) : Int)).map .int := by rw [List.map_map]; rfl
      have hg : greatAt m ls wish a = if (keptOf m ls wish a).isEmpty = true then .none else .most ((keptOf m ls wish a).getLastD 0 : Nat) := by
        unfold greatAt
        rw [if_neg (by rw [hk]; simp)]
      rw [e1]
      refine sv_append (i := 3) (d := eGE (greatAt m ls wish a)) rfl (ev_eq (ev_ifd (d1 := .tuple [.str "most", .int ((keptOf m ls wish a).getLastD 0 : Nat)]) (d2 := .tuple [.str "none"]) (et_cmp (op_neD hr.units) (ep_of (vv 6)) (ep_of (ev_lst ed_nil (by decide))) (r2_neD (by show nods _ = true; exact nods_ints _) rfl (shaped_ints _) (by decide)) (nomark _)) (fun h => ?_) fun h => ev_tup (ed_cons ev_str ed_nil) (by show 1 ≤ sizeLine; decide)) ?_) hsz (sv_nil (sv_nil ⟨⟨_, _, _, rfl⟩, ?_⟩))
      · rw [eqv_ints_nil] at h
        have hne : ((keptOf m ls wish a).map fun o => ((o : Nat) : Int)).isEmpty = false := by simpa using h
        refine ev_tup (ed_cons ev_str (ed_cons (ev_eq (ev_ixL (vv 6) (ev_neg ev_int) (atI_lastD hne)) (congrArg PyData.int ?_)) ed_nil)) (by show 2 ≤ sizeLine; decide)
        generalize keptOf m ls wish a = l
        rcases List.eq_nil_or_concat l with rfl | ⟨r, b, rfl⟩
        · rfl
        · simp
      · rw [eqv_ints_nil, hg]
        cases keptOf m ls wish a <;> rfl
      · rw [hsucc _ rfl]
  · obtain ⟨⟨s4, s5, s6, rfl⟩, rfl⟩ := hI
    rw [List.take_length]
    refine sv_freeze (i := 3) rfl ?_
    exact sv_retd (vv 3) rfl
end
end L2.My
end
section
set_option Elab.async false
set_option linter.all false
set_option maxRecDepth 100000
set_option autoImplicit false
/-! D22: the law's pool. -/
namespace L2.My
open PySem PySem.Spec PyProof.Rows
section
variable {P : Program} {w : World} {K : PySem.W.Frag} {mg : Str → Option Value} {base : Heap}
abbrev N_lp : List Str := ["_law_script", "_law_k", "_law_size", "_law_mixed"]
theorem sc_law_pool : FnScope N_lp ["_law_script", "_law_k"] (defScope s_law_pool) := ⟨rfl, rfl, rfl, by decide +kernel, rfl, by decide +kernel, by decide +kernel⟩
theorem ok_law_pool (T : TX K mg) : Def P w K mg base "_law_pool" 1 ["_law_script", "_law_k"] (spR (fun x : List Int × Nat => x.2 ≤ 10 ∧ x.1.length ≤ 1000) (fun x => [scP K x.1, da (.int (x.2 : Nat))]) (fun _ => poolO)) := by
  refine def_mkR T.d_law_pool sc_law_pool (fun _ _ _ _ _ _ us hl => match us, hl with | [_, _], _ => rfl) (fun _ => rfl) (by decide) fun ⟨ns, k⟩ ⟨hk, hl⟩ f cdv A outer s0 H0 H E B hr => ?_
  have hk : k ≤ 10 := hk
  refine sv_set (i := 2) (φ := exP (fun n : Int => 0 ≤ n) fun n => da (.int n)) sc_law_pool.nd ?_ ?_
  · by_cases h : k < ns.length
    · refine ev_if (x := true) (et_eq (et_lt (i := (k : Nat)) (j := (ns.length : Nat)) (vv 1) (ev_lenSc (ns := ns) T.b_len (vv 0))) (decide_eq_true (by omega))) (fun _ => ?_) fun z => by cases z
      have hx := List.getElem?_eq_getElem h
      refine ev_as (ev_max2 rfl T.b_max (ev_int1 T.b_int (ev_ixSc (vv 0) (vv 1) hx)) (ev_int1 T.b_int (ev_sub (ev_neg ev_int) (ev_ixSc (vv 0) (vv 1) hx)))) fun H v q => ⟨_, ?_, q⟩
      omega
    · refine ev_if (x := false) (et_eq (et_lt (i := (k : Nat)) (j := (ns.length : Nat)) (vv 1) (ev_lenSc (ns := ns) T.b_len (vv 0))) (decide_eq_false (by omega))) (fun z => by cases z) fun _ => ?_
      exact ev_as (ev_int (n := 7)) fun H v q => ⟨7, by decide, q⟩
  · refine sv_open 2 rfl fun n hn => ?_
    have b1 : 0 ≤ n % 2147483629 ∧ n % 2147483629 < 2147483629 := ⟨Int.emod_nonneg _ (by decide), Int.emod_lt_of_pos _ (by decide)⟩
    refine sv_set (i := 3) (φ := exP (fun m : Int => 0 ≤ m ∧ m ≤ 2147483629) fun m => da (.int m)) sc_law_pool.nd (ev_as (ev_add (ev_mod (ev_int1 T.b_int (ev_mul (ev_add (ev_mod (ev_int1 T.b_int (vv 2)) ev_int (by decide)) (ev_mul ev_int (ev_add (vv 1) ev_int) (.inl ⟨by decide, by decide⟩))) ev_int (.inr ⟨by decide, by decide⟩))) ev_int (by decide)) ev_int) fun H v q => ⟨_, ?_, q⟩) ?_
    · have h1 := Int.emod_nonneg ((n % 2147483629 + 104729 * ((k : Int) + 1)) * 48271) (show (2147483629 : Int) ≠ 0 by decide)
      have h2 := Int.emod_lt_of_pos ((n % 2147483629 + 104729 * ((k : Int) + 1)) * 48271) (show (0 : Int) < 2147483629 by decide)
      exact ⟨by omega, by omega⟩
    · refine sv_open 3 rfl fun m hm => ?_
      have h1 := Int.emod_nonneg (m * m) (show (2147483629 : Int) ≠ 0 by decide)
      have h2 := Int.emod_lt_of_pos (m * m) (show (0 : Int) < 2147483629 by decide)
      refine sv_retL (ed_cons (ev_mul (vv 2) (ev_intB T.b_int (ev_ge (vv 2) (ev_pow (i := 10) (j := 18) ev_int ev_int ⟨by decide, by decide, by decide⟩))) (.inr ?_)) (ed_cons (ev_mod (ev_int1 T.b_int (ev_mul (vv 3) (vv 3) (.inl ⟨by omega, by omega⟩))) ev_int (by decide)) ed_nil)) (by show 2 ≤ sizeLine; decide) (fun p G => True.intro) fun p => ⟨p, rfl, pool_sub ?_ h1 (by omega)⟩
      · split <;> exact ⟨by decide, by decide⟩
      · refine Int.mul_nonneg hn ?_
        split <;> decide
theorem sc_law_draw : FnScope ["_law_pool_here", "_law_many", "_law_found"] ["_law_pool_here", "_law_many"] (defScope s_law_draw) := ⟨rfl, rfl, rfl, by decide +kernel, rfl, by decide +kernel, by decide +kernel⟩
def drawP (n : Nat) : Pr := exP (fun r : Int => 0 ≤ r ∧ r < (n : Nat)) fun r => da (.int r)
theorem ok_law_draw (T : TX K mg) : Def P w K mg base "_law_draw" 1 ["_law_pool_here", "_law_many"] (spO (fun x : Addr × Nat => 1 ≤ x.2 ∧ x.2 ≤ 1000) (fun x => [.ptr x.1, .val (da (.int (x.2 : Nat)))]) (fun x => [(x.1, poolO)]) (fun x => [(x.1, poolO)]) (fun x => drawP x.2)) := by
  refine def_mkW T.d_law_draw sc_law_draw (fun _ _ _ _ _ _ us hl => match us, hl with | [_, _], _ => rfl) (fun _ => rfl) (by decide) fun ⟨p, n⟩ ⟨h1, h2⟩ f cdv A outer s0 H0 H E B hr => ?_
  have h1 : 1 ≤ n := h1
  have h2 : n ≤ 1000 := h2
  have hpos : (0 : Int) < (n : Nat) := by omega
  refine sv_openP fun x y hx hy0 hy => ?_
  refine sv_if (et_gt (j := 0) (i := x) (ev_ixO (n := 0) (q := p) rfl List.mem_cons_self ev_int rfl) ev_int) (fun _ => ?_) fun _ => ?_
  · refine sv_set (i := 2) (φ := da (.int (x % (n : Nat)))) sc_law_draw.nd (ev_mod (ev_int1 T.b_int (ev_ixO (n := 0) (q := p) rfl List.mem_cons_self ev_int rfl)) (vv 1) hpos) ?_
    refine sv_setIx (i := 0) (k := 0) (j := 0) (d := .int (x / (n : Nat))) rfl (ev_fdiv (ev_ixO (n := 0) (q := p) rfl List.mem_cons_self ev_int rfl) (vv 1) ⟨hpos, by omega⟩) ev_int rfl ?_
    have q0 : 0 ≤ x / (n : Nat) := Int.ediv_nonneg hx (by omega)
    refine sv_ret (vv 2) (fun H v q => ⟨_, ⟨Int.emod_nonneg _ (by omega), Int.emod_lt_of_pos _ hpos⟩, q⟩) fun _ => pool_sub q0 hy0 hy
  · refine sv_nil ?_
    refine sv_setIx (i := 0) (k := 1) (j := 1) (d := .int ((y * 48271 + 11) % 2147483647)) rfl (ev_mod (ev_int1 T.b_int (ev_add (ev_mul (ev_ixO (n := 0) (q := p) rfl List.mem_cons_self ev_int rfl) ev_int (.inr ⟨by decide, by decide⟩)) ev_int)) ev_int (by decide)) ev_int rfl ?_
    have g1 := Int.emod_nonneg (y * 48271 + 11) (show (2147483647 : Int) ≠ 0 by decide)
    have g2 := Int.emod_lt_of_pos (y * 48271 + 11) (show (0 : Int) < 2147483647 by decide)
    generalize (y * 48271 + 11) % 2147483647 = z at g1 g2
    show SV _ B _ ((p, ol [.int x, .int z]) :: _) _ _
    refine sv_ret (ev_mod (ev_int1 T.b_int (ev_fdiv (ev_mod (ev_int1 T.b_int (ev_mul (ev_ixO (n := 0) (q := p) (d := .int z) rfl List.mem_cons_self ev_int rfl) (ev_ixO (n := 0) (q := p) (d := .int z) rfl List.mem_cons_self ev_int rfl) (.inl ⟨by omega, by omega⟩))) ev_int (by decide)) ev_int ⟨by decide, by decide⟩)) (vv 1) hpos) (fun H v q => ⟨_, ⟨Int.emod_nonneg _ (by omega), Int.emod_lt_of_pos _ hpos⟩, q⟩) fun _ => pool_sub hx g1 g2
theorem sc_law_pick : FnScope ["_law_pool_here", "_law_row"] ["_law_pool_here", "_law_row"] (defScope s_law_pick) := ⟨rfl, rfl, rfl, by decide +kernel, rfl, by decide +kernel, by decide +kernel⟩
theorem ok_law_pick (T : TX K mg) : Def P w K mg base "_law_pick" 2 ["_law_pool_here", "_law_row"] (spO (fun x : Addr × List PyData => 1 ≤ x.2.length ∧ x.2.length ≤ 1000) (fun x => [.ptr x.1, .val (da (.list x.2))]) (fun x => [(x.1, poolO)]) (fun x => [(x.1, poolO)]) (fun x => exP (fun d => d ∈ x.2) da)) := by
  refine def_mkW T.d_law_pick sc_law_pick (fun _ _ _ _ _ _ us hl => match us, hl with | [_, _], _ => rfl) (fun _ => rfl) (by decide) fun ⟨p, ds⟩ hx f cdv A outer s0 H0 H E B hr => ?_
  exact sv_retX (φ := exP (fun d => d ∈ ds) da) (ex_ix (vv 1) (ex_call (ow := []) (ok_law_draw T) (p, ds.length) hx hr (ea2 (pv 0) (ev_len T.b_len (ds := ds) (ep_of (vv 1)))))) (fun H v q => q) fun _ => pool_self
end
end L2.My
end
section
set_option Elab.async false
set_option linter.all false
set_option maxRecDepth 100000
set_option autoImplicit false
/-! D23: the law's map: chart, spots, area, nexts, last, may. -/
namespace L2.My
open PySem PySem.Spec PyProof.Rows
/-- the law's map as a dict -/
def lmK (m : Mp) : List (Key × PyData) := [(.inr "rows", .list (m.areas.map (eArea false))), (.inr "ways", .list (m.paths.map ePath)), (.inr "size", .int m.len), (.inr "cuts", .list (m.bords.map .int)), (.inr "ends", .list (m.outs.map eO))]
def eLM (m : Mp) : PyData := dk (lmK m)
section
variable {X : Cx} {B : Hp × Hp} {ρ : List Slot} {ow : Ow} {a b c e : Expr} {pos : Pos} {m : Mp} {φ ψ χ : Pr} {rest : List Stmt} {D : Out}
theorem ev_rows {k : Nat} {p : Pos} (hu : X.A.units + 1 < cLine) (ha : EV X B ρ ow a (da (eLM m))) : EV X B ρ ow (.Subscript a (.Constant (.str "rows") k p) pos) (da (.list (m.areas.map (eArea false)))) := ev_dget (k := .inr "rows") hu ha ev_str rfl
theorem ev_ways {k : Nat} {p : Pos} (hu : X.A.units + 1 < cLine) (ha : EV X B ρ ow a (da (eLM m))) : EV X B ρ ow (.Subscript a (.Constant (.str "ways") k p) pos) (da (.list (m.paths.map ePath))) := ev_dget (k := .inr "ways") hu ha ev_str rfl
theorem ev_size {k : Nat} {p : Pos} (hu : X.A.units + 1 < cLine) (ha : EV X B ρ ow a (da (eLM m))) : EV X B ρ ow (.Subscript a (.Constant (.str "size") k p) pos) (da (.int m.len)) := ev_dget (k := .inr "size") hu ha ev_str rfl
theorem ev_cuts {k : Nat} {p : Pos} (hu : X.A.units + 1 < cLine) (ha : EV X B ρ ow a (da (eLM m))) : EV X B ρ ow (.Subscript a (.Constant (.str "cuts") k p) pos) (da (.list (m.bords.map .int))) := ev_dget (k := .inr "cuts") hu ha ev_str rfl
theorem ev_ends {k : Nat} {p : Pos} (hu : X.A.units + 1 < cLine) (ha : EV X B ρ ow a (da (eLM m))) : EV X B ρ ow (.Subscript a (.Constant (.str "ends") k p) pos) (da (.list (m.outs.map eO))) := ev_dget (k := .inr "ends") hu ha ev_str rfl
/-- x, y, z = a, b, c: three local names -/
theorem sv_par3 {n1 n2 n3 : Nat} {x y z : Str} {px py pz pt : Pos} {kt k2 : Nat} {pt2 : Pos} (hc : X.calm = true) (hN : X.N.Nodup) (ha : EA X B ρ ow [a, b, c] [φ, ψ, χ]) (hr : SV X B (((ρ.set n1 (.val φ)).set n2 (.val ψ)).set n3 (.val χ)) ow rest D)
    (h1 : X.N[n1]? = some x := by rfl) (h2 : X.N[n2]? = some y := by rfl) (h3 : X.N[n3]? = some z := by rfl) (d1 : n1 ≠ n2 := by decide) (d2 : n1 ≠ n3 := by decide) (d3 : n2 ≠ n3 := by decide)
    (hx : X.env.scope.names.lookup x = some .local := by rfl) (hy : X.env.scope.names.lookup y = some .local := by rfl) (hz : X.env.scope.names.lookup z = some .local := by rfl)
    (hw : swappedStores [.Tuple [.Name x px, .Name y py, .Name z pz] kt pt] (.Tuple [a, b, c] k2 pt2) X.env = pure (some [x, y, z]) := by rfl)
    (hs : swapsWithSole [.Tuple [.Name x px, .Name y py, .Name z pz] kt pt] (.Tuple [a, b, c] k2 pt2) pos.line X.env = pure false := by rfl) : SV X B ρ ow (.Assign [.Tuple [.Name x px, .Name y py, .Name z pz] kt pt] (.Tuple [a, b, c] k2 pt2) pos :: rest) D :=
  sv_step (ps_par3 hc hN h1 h2 h3 d1 d2 d3 hx hy hz ha hw hs) fun E σ H ⟨⟨G, ok⟩, o⟩ => ⟨G, ok, fun vs G' H' g t => by
    cases t with
    | cons q1 t =>
      cases t with
      | cons q2 t =>
        cases t with
        | cons q3 t =>
          cases t
          exact ⟨_, _, _, rfl, sv_go hr ((((ok.grow g).set (s := .val φ) ⟨_, rfl, q1⟩).set (s := .val ψ) ⟨_, rfl, q2⟩).set (s := .val χ) ⟨_, rfl, q3⟩) o⟩⟩
end
def isWay (m : Mp) (a b : Str) : Bool := decide (a = b) || (decide ((a, b) ∈ m.paths) || decide ((b, a) ∈ m.paths))
def nextsL (m : Mp) (p : Str) : List Str := m.areas.flatten.filter fun o => isWay m o p
def maxO : List (Option Int) → Int → Int
  | [], x => x
  | none :: r, x => maxO r x
  | some i :: r, x => maxO r (max x i)
def lawLast (m : Mp) : Int := maxO m.outs 0
abbrev fK (fs : List (Nat × Int)) : List (Key × PyData) := fs.map fun q => ((.inl ((q.1 : Nat) : Int) : Key), PyData.int q.2)
def eFirsts (fs : List (Nat × Int)) : PyData := dk (fK fs)
def getF (fs : List (Nat × Int)) (a : Nat) : Option Int := (fs.find? fun q => decide (q.1 = a)).map (·.2)
def mayL (m : Mp) (fs : List (Nat × Int)) (a : Nat) (t : Int) : Bool := match outAt m a with
  | none => false
  | some o => (decide (0 - o ≤ t) && decide (t ≤ o - 1)) && (match getF fs a with
    | none => true
    | some f => decide (t - f < o))
theorem lkD_firsts (fs : List (Nat × Int)) (a : Nat) : lkD (fK fs) (.inl (a : Nat)) = (getF fs a).map .int := by
  unfold lkD getF fK
  rw [List.find?_map]
  have e : ((fun kv : Key × PyData => decide (kv.1 = (Sum.inl ((a : Nat) : Int)))) ∘ fun q : Nat × Int => ((.inl (q.1 : Nat) : Key), PyData.int q.2)) = fun q => decide (q.1 = a) := by
    funext q
    show decide ((Sum.inl ((q.1 : Nat) : Int) : Key) = .inl (a : Nat)) = _
    rw [Bool.eq_iff_iff, decide_eq_true_iff, decide_eq_true_iff]
    constructor
    · intro h; injection h with h; omega
    · intro h; rw [h]
  rw [e]
  cases fs.find? fun q => decide (q.1 = a) <;> rfl
section
variable {P : Program} {w : World} {K : PySem.W.Frag} {mg : Str → Option Value} {base : Heap}
theorem sc_law_chart : FnScope ["_law_m", "_law_size", "_law_cuts", "_law_ends"] ["_law_m"] (defScope s_law_chart) := ⟨rfl, rfl, rfl, by decide +kernel, rfl, by decide +kernel, by decide +kernel⟩
theorem ok_law_chart (T : TX K mg) (M : MapAt K) : Def P w K mg base "_law_chart" 7 ["_law_m"] (spA (fun m : Mp => MpOk m) (fun m => [da (eLM m)]) (fun m => mapP (CM K) m)) := by
  refine def_mk T.d_law_chart sc_law_chart (fun _ _ _ _ _ _ us hl => match us, hl with | [_], _ => rfl) (fun _ => rfl) (by decide) fun m hm f cdv A outer s0 H0 H E B hr => ?_
  have hm : MpOk m := hm
  have hu : (cxF P w K mg base ["_law_m", "_law_size", "_law_cuts", "_law_ends"] "_law_chart" s_law_chart f cdv A outer s0 H E).A.units + 1 < cLine := by have := hr.un; omega
  refine sv_par3 (n1 := 1) (n2 := 2) (n3 := 3) rfl sc_law_chart.nd (ea3 (ev_size (m := m) hu (vv 0)) (ev_cuts (m := m) hu (vv 0)) (ev_ends (m := m) hu (vv 0))) ?_
  exact sv_ret (ev_map3 T M ⟨false, false, false, some (false, m.bords), false, m⟩ ⟨hm, ⟨hm.bords.1, hm.areas.1.2, hm.bords.2⟩, rfl⟩ hr (ea2 (ev_rows (m := m) hu (vv 0)) (ev_ways (m := m) hu (vv 0))) (ek_cons (vv 1) (ek_cons (vv 2) (ek_cons (vv 3) ek_nil)))) fun H v h => h
theorem sc_law_spots : FnScope ["_law_m", "_law_found", "_law_row"] ["_law_m"] (defScope s_law_spots) := ⟨rfl, rfl, rfl, by decide +kernel, rfl, by decide +kernel, by decide +kernel⟩
theorem ok_law_spots (T : TX K mg) : Def P w K mg base "_law_spots" 1 ["_law_m"] (spA (fun m : Mp => m.areas.flatten.length ≤ 1000) (fun m => [da (eLM m)]) (fun m => da (.list (m.areas.flatten.map .str)))) := by
  refine def_mk T.d_law_spots sc_law_spots (fun _ _ _ _ _ _ us hl => match us, hl with | [_], _ => rfl) (fun _ => rfl) (by decide) fun m hm f cdv A outer s0 H0 H E B hr => ?_
  have hm : m.areas.flatten.length ≤ 1000 := hm
  have hu : (cxF P w K mg base ["_law_m", "_law_found", "_law_row"] "_law_spots" s_law_spots f cdv A outer s0 H E).A.units + 1 < cLine := by have := hr.un; omega
  refine sv_set (i := 1) (φ := da (.list [])) sc_law_spots.nd (ev_lst ed_nil (by decide)) ?_
  refine sv_for (xs := m.areas) (g := fun a => da (eArea false a)) (vs := [2]) (fun i ρ' ow' => (∃ s2, ρ' = [.val (da (eLM m)), .val (da (.list ((m.areas.take i).flatten.map .str))), s2]) ∧ ow' = [])
    PassesOwn.never rfl (if_list (f := eArea false) (ev_rows (m := m) hu (vv 0))) (pgn 2 sc_law_spots.nd) (fun a _ => tg_name (by decide)) ⟨⟨_, rfl⟩, rfl⟩ (fun i a ρ' ow' B' hx hI => ?_) fun ρ' ow' hI => ?_
  · obtain ⟨⟨s2, rfl⟩, rfl⟩ := hI
    have hle : (m.areas.take i).flatten.length + a.length ≤ 1000 := by
      have e : m.areas = m.areas.take (i + 1) ++ m.areas.drop (i + 1) := (List.take_append_drop _ _).symm
      have e2 : m.areas.flatten.length = (m.areas.take (i + 1)).flatten.length + (m.areas.drop (i + 1)).flatten.length := by
        rw [← List.length_append, ← List.flatten_append, ← e]
      rw [take_succ_get hx, List.flatten_append, List.length_append] at e2
      simp only [List.flatten_cons, List.flatten_nil, List.append_nil] at e2
      omega
    refine sv_set (i := 1) (φ := da (.list ((m.areas.take (i + 1)).flatten.map .str))) sc_law_spots.nd (ev_eq (ev_catL (ds := (m.areas.take i).flatten.map .str) (ds2 := a.map .str) (vv 1) (vv 2) (by rw [List.length_map, List.length_map]; exact sz)) ?_) (sv_nil ⟨⟨_, rfl⟩, rfl⟩)
    rw [take_succ_get hx, List.flatten_append, List.map_append]
    simp
  · obtain ⟨⟨s2, rfl⟩, rfl⟩ := hI
    rw [List.take_length]
    exact sv_retd (vv 1) rfl
abbrev N_la : List Str := ["_law_m", "_law_place", "_law_at"]
theorem sc_law_area : FnScope N_la ["_law_m", "_law_place"] (defScope s_law_area) := ⟨rfl, rfl, rfl, by decide +kernel, rfl, by decide +kernel, by decide +kernel⟩
theorem ok_law_area (T : TX K mg) : Def P w K mg base "_law_area" 1 ["_law_m", "_law_place"] (spA (fun x : Mp × Str => x.2 ∈ x.1.areas.flatten ∧ x.1.areas.length ≤ 1000) (fun x => [da (eLM x.1), da (.str x.2)]) (fun x => da (.int (areaOf x.1.areas x.2 : Nat)))) := by
  refine def_mk T.d_law_area sc_law_area (fun _ _ _ _ _ _ us hl => match us, hl with | [_, _], _ => rfl) (fun _ => rfl) (by decide) fun ⟨m, p⟩ ⟨hp, hl⟩ f cdv A outer s0 H0 H E B hr => ?_
  have hp : p ∈ m.areas.flatten := hp
  have hl : m.areas.length ≤ 1000 := hl
  have hu : (cxF P w K mg base N_la "_law_area" s_law_area f cdv A outer s0 H E).A.units + 1 < cLine := by have := hr.un; omega
  have ha := areaOf_lt hp
  have hg : ∀ i, i < m.areas.length → (m.areas.map (eArea false))[i]? = some (.list ((m.areas.getD i []).map .str)) := fun i hi => getD_map (f := eArea false) (d := []) hi
  refine sv_retd (ev_ixL (ds := ((List.range m.areas.length).filter fun i => decide (p ∈ m.areas.getD i [])).map fun i => .int (i : Nat)) (ev_lc (xs := List.range m.areas.length) (g := fun i => da (.int (i : Nat))) (c := fun i => decide (p ∈ m.areas.getD i [])) (f := fun i => .int (i : Nat)) (own := [("_law_at", 2)]) (tgG := gName 2) (fρ := fun i ρ => ρ.set 2 (.val (da (.int (i : Nat))))) rfl sc_law_area.nd
    (it_of (if_range1 T.b_range (ev_eq (ev_len T.b_len (ds := m.areas.map (eArea false)) (ep_of (ev_rows (m := m) hu (vv 0)))) (by rw [List.length_map])) (by omega))) (blkOk_by (N := N_la) (sc := defScope s_law_area) (by decide +kernel)) (fun _ => pgn 2 sc_law_area.nd) (fun i _ => tg_name (by decide))
    (fun i hi b => ets_one (et_cmp op_in_seq (ep_of (vv 1)) (ep_of (ev_ixL (ev_rows (m := m) hu (vv 0)) (vv 2) (atI_nat (hg i (List.mem_range.mp hi))))) r2_inS_l rfl)) (fun i _ _ b => vv 2) (by rw [List.length_range]; exact sz)) ev_int (atI_nat (j := 0) ?_)) rfl
  have e : (List.range m.areas.length).filter (fun i => decide (p ∈ m.areas.getD i [])) = areaOf m.areas p :: ((List.range m.areas.length).filter fun i => decide (p ∈ m.areas.getD i [])).tail := by
    have h1 : ∀ i < areaOf m.areas p, decide (p ∈ m.areas.getD i []) = false := fun i hi => by
      have h2 := List.not_of_lt_findIdx (p := fun a => decide (p ∈ a)) (xs := m.areas) hi
      rw [List.getD_eq_getElem?_getD, List.getElem?_eq_getElem (by omega), Option.getD_some]
      simpa using h2
    have h3 : decide (p ∈ m.areas.getD (areaOf m.areas p) []) = true := by
      rw [List.getD_eq_getElem?_getD, List.getElem?_eq_getElem ha, Option.getD_some]
      have := List.findIdx_getElem (p := fun a => decide (p ∈ a)) (xs := m.areas) (w := ha)
      exact this
    have er : List.range m.areas.length = List.range (areaOf m.areas p) ++ (areaOf m.areas p :: (List.range (m.areas.length - (areaOf m.areas p + 1))).map fun k => areaOf m.areas p + 1 + k) := by
      have e1 : m.areas.length = areaOf m.areas p + 1 + (m.areas.length - (areaOf m.areas p + 1)) := by omega
      rw [e1, List.range_add, List.range_succ, List.append_assoc]
      congr 2
      rw [← e1]
      simp
    rw [er, List.filter_append, List.filter_cons, h3]
    have e0 : (List.range (areaOf m.areas p)).filter (fun i => decide (p ∈ m.areas.getD i [])) = [] := List.filter_eq_nil_iff.mpr fun i hi => by rw [h1 i (List.mem_range.mp hi)]; simp
    rw [e0]
    simp
  rw [e]
  rfl
abbrev N_ln : List Str := ["_law_m", "_law_place", "_law_found", "_law_one"]
theorem sc_law_nexts : FnScope N_ln ["_law_m", "_law_place"] (defScope s_law_nexts) := ⟨rfl, rfl, rfl, by decide +kernel, rfl, by decide +kernel, by decide +kernel⟩
theorem any_ePath (ps : List (Str × Str)) (p : Str × Str) : ((ps.map ePath).any fun z => PyData.eqv z (ePath p)) = decide (p ∈ ps) := by
  rw [List.any_map, Bool.eq_iff_iff, List.any_eq_true, decide_eq_true_iff]
  constructor
  · rintro ⟨q, hq, e⟩
    have e : PyData.eqv (ePath q) (ePath p) = true := e
    rw [eqv_ePath] at e
    rw [← of_decide_eq_true e]
    exact hq
  · intro h
    exact ⟨p, h, by show PyData.eqv (ePath p) (ePath p) = true; rw [eqv_ePath]; exact decide_eq_true rfl⟩
theorem ok_law_nexts (T : TX K mg) : Def P w K mg base "_law_nexts" 2 ["_law_m", "_law_place"] (spA (fun x : Mp × Str => MpOk x.1 ∧ PyData.strOk x.2 = true ∧ ∀ s ∈ x.1.areas.flatten, PyData.strOk s = true) (fun x => [da (eLM x.1), da (.str x.2)]) (fun x => da (.list ((nextsL x.1 x.2).map .str)))) := by
  refine def_mk T.d_law_nexts sc_law_nexts (fun _ _ _ _ _ _ us hl => match us, hl with | [_, _], _ => rfl) (fun _ => rfl) (by decide) fun ⟨m, p⟩ ⟨hm, hp, hso⟩ f cdv A outer s0 H0 H E B hr => ?_
  have hm : MpOk m := hm
  have hp : PyData.strOk p = true := hp
  have hso : ∀ s ∈ m.areas.flatten, PyData.strOk s = true := hso
  have h6 := hm.areas.2.2.2
  have hu : (cxF P w K mg base N_ln "_law_nexts" s_law_nexts f cdv A outer s0 H E).A.units + 65 < cLine := by have := hr.un; omega
  have hu1 : (cxF P w K mg base N_ln "_law_nexts" s_law_nexts f cdv A outer s0 H E).A.units + 1 < cLine := by omega
  have hall : ∀ q ∈ m.paths, PyData.strOk q.1 = true ∧ PyData.strOk q.2 = true := fun q hq => (hm.paths.mem q hq).2.2.2
  refine sv_ownL (i := 2) sc_law_nexts.nd ed_nil (by decide) fun q => ?_
  refine sv_for (xs := m.areas.flatten) (g := fun s => da (.str s)) (vs := [3]) (fun i ρ' ow' => (∃ s3, ρ' = [.val (da (eLM m)), .val (da (.str p)), .ptr q, s3]) ∧ ow' = [(q, ol (((m.areas.flatten.take i).filter fun o => isWay m o p).map .str))])
    PassesOwn.never rfl (if_list (f := PyData.str) (ev_call (ok_law_spots T) m (by show m.areas.flatten.length ≤ 1000; omega) hr (ea1 (vv 0)))) (pgn 3 sc_law_nexts.nd) (fun s _ => tg_name (by decide)) ⟨⟨_, rfl⟩, rfl⟩ (fun i s ρ' ow' B' hx hI => ?_) fun ρ' ow' hI => ?_
  · obtain ⟨⟨s3, rfl⟩, rfl⟩ := hI
    have hss := hso s (List.mem_of_getElem? hx)
    refine sv_if (x := isWay m s p) (et_o3 (et_eqS (vv 3) (vv 1)) (fun _ => et_eq (et_cmp (op_inD hu) (ep_of (ev_tup (ds := [.str s, .str p]) (ed_cons (vv 3) (ed_cons (vv 1) ed_nil)) (by show 2 ≤ sizeLine; decide))) (ep_of (ev_ways (m := m) hu1 (vv 0))) (r2_inD (d := ePath (s, p)) rfl (nods_ePaths _) (shaped_ePath _ ⟨hss, hp⟩) (shaped_ePaths false _ hall)) rfl) (any_ePath m.paths (s, p))) fun _ _ => et_eq (et_cmp (op_inD hu) (ep_of (ev_tup (ds := [.str p, .str s]) (ed_cons (vv 1) (ed_cons (vv 3) ed_nil)) (by show 2 ≤ sizeLine; decide))) (ep_of (ev_ways (m := m) hu1 (vv 0))) (r2_inD (d := ePath (p, s)) rfl (nods_ePaths _) (shaped_ePath _ ⟨hp, hss⟩) (shaped_ePaths false _ hall)) rfl) (any_ePath m.paths (p, s))) (fun h => ?_) fun h => ?_
    · refine sv_append (i := 2) (d := .str s) rfl (vv 3) ?_ (sv_nil (sv_nil ⟨⟨_, rfl⟩, ?_⟩))
      · rw [List.length_map]
        have h1 := List.length_filter_le (fun o => isWay m o p) (m.areas.flatten.take i)
        have h2 : (m.areas.flatten.take i).length ≤ m.areas.flatten.length := List.length_take_le' _ _
        exact szl
      · rw [take_succ_get hx, List.filter_append, List.map_append, List.filter_cons, if_pos h]
        rfl
    · refine sv_nil (sv_nil ⟨⟨_, rfl⟩, ?_⟩)
      rw [take_succ_get hx, List.filter_append, List.filter_cons, if_neg (by rw [h]; simp), List.filter_nil, List.append_nil]
  · obtain ⟨⟨s3, rfl⟩, rfl⟩ := hI
    rw [List.take_length]
    exact sv_freeze (i := 2) rfl (sv_retd (vv 2) rfl)
theorem sc_law_last : FnScope ["_law_m", "_law_found", "_law_end"] ["_law_m"] (defScope s_law_last) := ⟨rfl, rfl, rfl, by decide +kernel, rfl, by decide +kernel, by decide +kernel⟩
theorem maxO_app (l : List (Option Int)) (o : Option Int) (x : Int) : maxO (l ++ [o]) x = match o with | none => maxO l x | some i => max (maxO l x) i := by
  induction l generalizing x with
  | nil => cases o <;> rfl
  | cons a l ih => cases a <;> exact ih _
theorem ok_law_last (T : TX K mg) : Def P w K mg base "_law_last" 1 ["_law_m"] (spA (fun _ : Mp => True) (fun m => [da (eLM m)]) (fun m => da (.int (lawLast m)))) := by
  refine def_mk T.d_law_last sc_law_last (fun _ _ _ _ _ _ us hl => match us, hl with | [_], _ => rfl) (fun _ => rfl) (by decide) fun m _ f cdv A outer s0 H0 H E B hr => ?_
  have hu : (cxF P w K mg base ["_law_m", "_law_found", "_law_end"] "_law_last" s_law_last f cdv A outer s0 H E).A.units + 1 < cLine := by have := hr.un; omega
  refine sv_set (i := 1) (φ := da (.int 0)) sc_law_last.nd ev_int ?_
  refine sv_for (xs := m.outs) (g := fun o => da (eO o)) (vs := [2]) (fun i ρ' ow' => (∃ s2, ρ' = [.val (da (eLM m)), .val (da (.int (maxO (m.outs.take i) 0))), s2]) ∧ ow' = [])
    PassesOwn.never rfl (if_list (f := eO) (ev_ends (m := m) hu (vv 0))) (pgn 2 sc_law_last.nd) (fun s _ => tg_name (by decide)) ⟨⟨_, rfl⟩, rfl⟩ (fun i o ρ' ow' B' hx hI => ?_) fun ρ' ow' hI => ?_
  · obtain ⟨⟨s2, rfl⟩, rfl⟩ := hI
    rw [take_succ_get hx, maxO_app]
    cases o with
    | none => exact sv_guard (x := false) (et_isnot (d := .none) (vv 2) ev_non) (fun h => by cases h) fun _ => sv_nil ⟨⟨_, rfl⟩, rfl⟩
    | some j =>
      refine sv_if (x := true) (et_isnot (d := .int j) (vv 2) ev_non) (fun _ => ?_) fun h => by cases h
      exact sv_set (i := 1) sc_law_last.nd (ev_max2 rfl T.b_max (ev_int1 T.b_int (vv 1)) (ev_int1 T.b_int (i := j) (vv 2))) (sv_nil (sv_nil ⟨⟨_, rfl⟩, rfl⟩))
  · obtain ⟨⟨s2, rfl⟩, rfl⟩ := hI
    rw [List.take_length]
    exact sv_retd (vv 1) rfl
abbrev N_ly : List Str := ["_law_m", "_law_firsts", "_law_area_here", "_law_time", "_law_end"]
theorem sc_law_may : FnScope N_ly ["_law_m", "_law_firsts", "_law_area_here", "_law_time"] (defScope s_law_may) := ⟨rfl, rfl, rfl, by decide +kernel, rfl, by decide +kernel, by decide +kernel⟩
theorem ok_law_may (T : TX K mg) : Def P w K mg base "_law_may" 1 ["_law_m", "_law_firsts", "_law_area_here", "_law_time"] (spA (fun x : Mp × List (Nat × Int) × Nat × Int => x.2.2.1 < x.1.outs.length) (fun x => [da (eLM x.1), da (eFirsts x.2.1), da (.int (x.2.2.1 : Nat)), da (.int x.2.2.2)]) (fun x => da (.bool (mayL x.1 x.2.1 x.2.2.1 x.2.2.2)))) := by
  refine def_mk T.d_law_may sc_law_may (fun _ _ _ _ _ _ us hl => match us, hl with | [_, _, _, _], _ => rfl) (fun _ => rfl) (by decide) fun ⟨m, fs, a, t⟩ ha f cdv A outer s0 H0 H E B hr => ?_
  have ha : a < m.outs.length := ha
  have hu : (cxF P w K mg base N_ly "_law_may" s_law_may f cdv A outer s0 H E).A.units + 1 < cLine := by have := hr.un; omega
  have hoo : (m.outs.map eO)[a]? = some (eO (outAt m a)) := getD_map ha
  refine sv_set (i := 4) (φ := da (eO (outAt m a))) sc_law_may.nd (ev_ixL (ev_ends (m := m) hu (vv 0)) (vv 2) (atI_nat hoo)) ?_
  cases e : outAt m a with
  | none =>
    refine sv_guard (et_o2 (y := true) (et_is (d := .none) (vv 4) ev_non) fun h => by cases h) (fun _ => ?_) fun h => by cases h
    exact sv_retd ev_bl (by simp [mayL, e])
  | some o =>
    refine sv_guard (et_o2 (et_is (d := .int o) (vv 4) ev_non) fun _ => et_not (et_lele (ev_sub (i := 0) (j := o) ev_int (vv 4)) (vv 3) (ev_sub (i := o) (vv 4) ev_int))) (fun h => sv_retd ev_bl ?_) fun h => ?_
    · have h2 : (decide (0 - o ≤ t) && decide (t ≤ o - 1)) = false := Bool.not_eq_true' _ ▸ (by simpa only [isN, Bool.false_or] using h)
      simp only [mayL, e, h2, Bool.false_and]
    · have h2 : (decide (0 - o ≤ t) && decide (t ≤ o - 1)) = true := Bool.not_eq_false' _ ▸ (by simpa only [isN, Bool.false_or] using h)
      have hlk := lkD_firsts fs a
      cases e2 : getF fs a with
      | none =>
        rw [e2] at hlk
        refine sv_retd (ev_o2 (x := true) (y := false) (ev_eq (ev_dnotin (k := .inl (a : Nat)) (l := fK fs) hu (vv 2) (ep_of (vv 1))) (by rw [hlk]; rfl)) fun h => by cases h) ?_
        simp only [mayL, e, e2, h2]
        rfl
      | some f0 =>
        rw [e2] at hlk
        refine sv_retd (ev_o2 (x := false) (ev_eq (ev_dnotin (k := .inl (a : Nat)) (l := fK fs) hu (vv 2) (ep_of (vv 1))) (by rw [hlk]; rfl)) fun _ => ev_lt (j := o) (ev_sub (j := f0) (vv 3) (ev_dget (k := .inl (a : Nat)) (l := fK fs) hu (vv 1) (vv 2) hlk)) (vv 4)) ?_
        simp only [mayL, e, e2, h2]
        rfl
end
end L2.My
end
section
set_option Elab.async false
set_option linter.all false
set_option maxRecDepth 100000
set_option autoImplicit false
/-! D24: the law: with, joined, count. -/
namespace L2.My
open PySem PySem.Spec PyProof.Rows
theorem ptD_ends (m : Mp) (os : List (Option Int)) : ptD (lmK m) (.inr "ends") (.list (os.map eO)) = lmK (outsOf m os) := by
  have h1 : ¬ ("rows" : Str) = "ends" := by decide
  have h2 : ¬ ("ways" : Str) = "ends" := by decide
  have h3 : ¬ ("size" : Str) = "ends" := by decide
  have h4 : ¬ ("cuts" : Str) = "ends" := by decide
  simp [ptD, lmK, outsOf, h1, h2, h3, h4]
theorem ptD_rows (m : Mp) (as : List (List Str)) : ptD (lmK m) (.inr "rows") (.list (as.map (eArea false))) = lmK { m with areas := as } := by
  have h1 : ¬ ("ways" : Str) = "rows" := by decide
  have h2 : ¬ ("size" : Str) = "rows" := by decide
  have h3 : ¬ ("cuts" : Str) = "rows" := by decide
  have h4 : ¬ ("ends" : Str) = "rows" := by decide
  simp [ptD, lmK, h1, h2, h3, h4]
theorem ptD_cuts (m : Mp) (bs : List Int) : ptD (lmK m) (.inr "cuts") (.list (bs.map .int)) = lmK { m with bords := bs } := by
  have h1 : ¬ ("ways" : Str) = "cuts" := by decide
  have h2 : ¬ ("size" : Str) = "cuts" := by decide
  have h3 : ¬ ("rows" : Str) = "cuts" := by decide
  have h4 : ¬ ("ends" : Str) = "cuts" := by decide
  simp [ptD, lmK, h1, h2, h3, h4]
section
variable {P : Program} {w : World} {K : PySem.W.Frag} {mg : Str → Option Value} {base : Heap}
theorem sc_law_with : FnScope ["_law_m", "_law_at", "_law_end", "_law_found"] ["_law_m", "_law_at", "_law_end"] (defScope s_law_with) := ⟨rfl, rfl, rfl, by decide +kernel, rfl, by decide +kernel, by decide +kernel⟩
theorem ok_law_with (T : TX K mg) : Def P w K mg base "_law_with" 1 ["_law_m", "_law_at", "_law_end"] (spA (fun x : Mp × Nat × Option Int => x.2.1 < x.1.outs.length ∧ x.1.outs.length ≤ 1000) (fun x => [da (eLM x.1), da (.int (x.2.1 : Nat)), da (eO x.2.2)]) (fun x => da (eLM (withOut x.1 x.2.1 x.2.2)))) := by
  refine def_mk T.d_law_with sc_law_with (fun _ _ _ _ _ _ us hl => match us, hl with | [_, _, _], _ => rfl) (fun _ => rfl) (by decide) fun ⟨m, a, o⟩ ⟨ha, hl⟩ f cdv A outer s0 H0 H E B hr => ?_
  have ha : a < m.outs.length := ha
  have hl : m.outs.length ≤ 1000 := hl
  have hu : (cxF P w K mg base ["_law_m", "_law_at", "_law_end", "_law_found"] "_law_with" s_law_with f cdv A outer s0 H E).A.units + 1 < cLine := by have := hr.un; omega
  refine sv_setO (n := 3) sc_law_with.nd (evo_dict (l := lmK m) T.b_dict (vv 0)) fun p => ?_
  have e1 : (cutL (m.outs.map eO) none (some ((a : Nat) : Int)) ++ [eO o]) ++ cutL (m.outs.map eO) (some (((a + 1 : Nat)) : Int)) none = (withoutL m.outs a o (-1)).map eO := by
    rw [cutL_to, cutL_from, withoutL_all, List.map_set, List.set_eq_take_append_cons_drop, if_pos (by rw [List.length_map]; exact ha), List.append_assoc]
    rfl
  refine sv_setKP (k := .inr "ends") (d := .list ((withoutL m.outs a o (-1)).map eO)) hu (ev_eq (ev_catL (ev_catL (ev_sliceL (ev_ends (m := m) hu (vv 0)) eo_none (eo_some (vv 1))) (ev_lst (ed_cons (vv 2) ed_nil) (by show 1 ≤ sizeLine; decide)) ?_) (ev_sliceL (ev_ends (m := m) hu (vv 0)) (eo_some (i := ((a + 1 : Nat) : Int)) (ev_eq (ev_add (i := ((a : Nat) : Int)) (j := 1) (vv 1) ev_int) (congrArg PyData.int (by omega)))) eo_none) ?_) (congrArg PyData.list e1)) (pv 3) ev_str (by show 5 < sizeLine; decide) ?_
  · rw [cutL_to, List.length_take, List.length_map]
    exact sz (by simp; omega)
  · have e2 := congrArg List.length e1
    rw [List.length_append, List.length_map, withoutL_all, List.length_set] at e2
    exact sz (by omega)
  · rw [ptD_ends]
    exact sv_freezeD (i := 3) rfl (sv_retd (vv 3) rfl)
end
end L2.My
end
section
set_option Elab.async false
set_option linter.all false
set_option maxRecDepth 100000
set_option autoImplicit false
/-! D25: the law: two areas joined; count. -/
namespace L2.My
open PySem PySem.Spec PyProof.Rows
structure Two where
  r0 : List Str
  r1 : List Str
  ps : List (Str × Str)
  len : Int
  c0 : Int
  c1 : Int
  e0 : Option Int
  e1 : Option Int
  l0 : Int
  l1 : Int
def Two.m (x : Two) : Mp := ⟨[x.r0, x.r1], x.ps, x.len, [x.c0, x.c1], [x.e0, x.e1]⟩
def Two.ls (x : Two) : List Int := [x.l0, x.l1]
theorem two_joined (x : Two) : joinedM x.m 0 1 = ⟨[x.r0 ++ x.r1], x.ps, x.len, [x.c0], [leastO x.e0 x.e1]⟩ := rfl
theorem two_limits (x : Two) : joinedL x.ls 0 1 = [min x.l0 x.l1] := rfl
theorem perm2 {a b : Int} {zs : List Int} (h : zs.Perm [a, b]) (hs : zs.Pairwise (· ≤ ·)) : zs = [min a b, max a b] := by
  have hl := h.length_eq
  match zs, hl with
  | [x, y], _ =>
    rw [List.pairwise_cons] at hs
    have h1 := hs.1 y (by simp)
    have hx : x = a ∨ x = b := by have := h.mem_iff.mp (show x ∈ [x, y] by simp); simpa using this
    have hy : y = a ∨ y = b := by have := h.mem_iff.mp (show y ∈ [x, y] by simp); simpa using this
    have ha : a = x ∨ a = y := by have := h.mem_iff.mpr (show a ∈ [a, b] by simp); simpa using this
    have hb : b = x ∨ b = y := by have := h.mem_iff.mpr (show b ∈ [a, b] by simp); simpa using this
    have e1 : x = min a b := by omega
    have e2 : y = max a b := by omega
    rw [e1, e2]
theorem perm1 {a : Int} {zs : List Int} (h : zs.Perm [a]) : zs = [a] := List.perm_singleton.mp h
def srt2 : List Int → List Int
  | [] => []
  | [a] => [a]
  | a :: b :: _ => [min a b, max a b]
theorem two_sorted (a b : Option Int) : ∀ zs : List Int, zs.Perm (endsOf [a, b]) → zs.Pairwise (· ≤ ·) → zs = srt2 (endsOf [a, b]) := fun zs h hs => by
  cases a with
  | none =>
    cases b with
    | none => exact List.perm_nil.mp h
    | some j => exact perm1 h
  | some i =>
    cases b with
    | none => exact perm1 h
    | some j => exact perm2 h hs
theorem two_head (a b : Option Int) (h : endsOf [a, b] ≠ []) : atI ((srt2 (endsOf [a, b])).map PyData.int) 0 = some (.int ((leastO a b).getD 0)) := by
  refine atI_nat (j := 0) ?_
  cases a with
  | none =>
    cases b with
    | none => exact absurd rfl h
    | some j => rfl
  | some i => cases b <;> rfl
theorem rot4 {α : Type} (a b c d : α) (l : List α) : (a :: b :: c :: d :: l).Perm (d :: a :: b :: c :: l) := ((rot3 b c d l).cons a).trans (List.Perm.swap d a (b :: c :: l))
section
variable {P : Program} {w : World} {K : PySem.W.Frag} {mg : Str → Option Value} {base : Heap}
abbrev N_lw : List Str := ["_law_m", "_law_limits", "_law_one", "_law_other", "_law_found", "_law_rows", "_law_ends", "_law_least", "_law_both", "_law_end"]
theorem sc_law_joined : FnScope N_lw ["_law_m", "_law_limits", "_law_one", "_law_other"] (defScope s_law_joined) := ⟨rfl, rfl, rfl, by decide +kernel, rfl, by decide +kernel, by decide +kernel⟩
theorem ok_law_joined (T : TX K mg) : Def P w K mg base "_law_joined" 1 ["_law_m", "_law_limits", "_law_one", "_law_other"] (spA (fun x : Two => x.r0.length ≤ 100 ∧ x.r1.length ≤ 100) (fun x => [da (eLM x.m), da (.list (x.ls.map .int)), da (.int 0), da (.int 1)]) (fun x => da (.list [eLM (joinedM x.m 0 1), .list ((joinedL x.ls 0 1).map .int)]))) := by
  refine def_mk T.d_law_joined sc_law_joined (fun _ _ _ _ _ _ us hl => match us, hl with | [_, _, _, _], _ => rfl) (fun _ => rfl) (by decide) fun x ⟨h0, h1⟩ f cdv A outer s0 H0 H E B hr => ?_
  have hu : (cxF P w K mg base N_lw "_law_joined" s_law_joined f cdv A outer s0 H E).A.units + 1 < cLine := by have := hr.un; omega
  refine sv_setO (n := 4) sc_law_joined.nd (evo_dict (l := lmK x.m) T.b_dict (vv 0)) fun p => ?_
  refine sv_par3O (n1 := 5) (n2 := 6) (n3 := 7) rfl sc_law_joined.nd (evo_list T.b_list (ev_rows (m := x.m) hu (vv 0))) (fun _ => evo_list T.b_list (ev_ends (m := x.m) hu (vv 0))) (fun _ _ => evo_list (ds := [.int x.l0, .int x.l1]) T.b_list (vv 1)) fun q1 q2 q3 => ?_
  show SV _ B _ [(q3, ol [.int x.l0, .int x.l1]), (q2, ol [eO x.e0, eO x.e1]), (q1, ol [eArea false x.r0, eArea false x.r1]), (p, od (lmK x.m))] _ _
  refine sv_perm (rot3 _ _ _ _) ?_
  refine sv_setIx (i := 5) (k := 0) (j := 0) (d := eArea false (x.r0 ++ x.r1)) rfl (ev_eq (ev_catL (ds := x.r0.map .str) (ds2 := x.r1.map .str) (ev_ixO (n := 5) (q := q1) (d := eArea false x.r0) rfl List.mem_cons_self (vv 2) rfl) (ev_ixO (n := 5) (q := q1) (d := eArea false x.r1) rfl List.mem_cons_self (vv 3) rfl) (by rw [List.length_map, List.length_map]; exact sz)) (by rw [← List.map_append]; rfl)) (vv 2) rfl ?_
  show SV _ B _ [(q1, ol [eArea false (x.r0 ++ x.r1), eArea false x.r1]), (q3, ol [.int x.l0, .int x.l1]), (q2, ol [eO x.e0, eO x.e1]), (p, od (lmK x.m))] _ _
  refine sv_perm (rot3 _ _ _ _) ?_
  have hfl : ([x.e0, x.e1].filter fun o => !isN (eO o)).map eO = (endsOf [x.e0, x.e1]).map .int := by
    cases x.e0 <;> cases x.e1 <;> rfl
  refine sv_setLc (i := 8) (xs := [x.e0, x.e1]) (g := fun o => da (eO o)) (c := fun o => !isN (eO o)) (f := eO) (own := [("_law_end", 9)]) (tgG := gName 9) (fρ := fun o ρ => ρ.set 9 (.val (da (eO o)))) rfl sc_law_joined.nd (it_of (if_list (f := eO) (ev_lst (ed_cons (ev_ixO (n := 6) (q := q2) (d := eO x.e0) rfl List.mem_cons_self (vv 2) rfl) (ed_cons (ev_ixO (n := 6) (q := q2) (d := eO x.e1) rfl List.mem_cons_self (vv 3) rfl) ed_nil)) (by show 2 ≤ sizeLine; decide)))) (blkOk_by (N := N_lw) (sc := defScope s_law_joined) (by decide +kernel)) (fun _ => pgn 9 sc_law_joined.nd) (fun o _ => tg_name (by decide))
    (fun o _ b => ets_one (et_isnot (vv 9) ev_non)) (fun o _ hc b => ?_) (by show 2 ≤ sizeLine; decide) ?_
  · cases o with
    | none => cases hc
    | some i => exact ev_int1 T.b_int (vv 9)
  rw [hfl]
  refine sv_setIx (i := 6) (k := 0) (j := 0) (d := eO (leastO x.e0 x.e1)) rfl (ev_eq (ev_ifd (d1 := .int ((leastO x.e0 x.e1).getD 0)) (d2 := .none) (et_cmp (op_neD hr.units) (ep_of (vv 8)) (ep_of (ev_lst ed_nil (by decide))) (r2_neD (by show nods _ = true; exact nods_ints _) rfl (shaped_ints _) (by decide)) (nomark _)) (fun h => ?_) fun h => ev_non) ?_) (vv 2) rfl ?_
  · rw [eqv_ints_nil] at h
    have hne : endsOf [x.e0, x.e1] ≠ [] := fun z => by rw [z] at h; cases h
    exact ev_ixL (ev_sortedI (ns := endsOf [x.e0, x.e1]) (ys := srt2 (endsOf [x.e0, x.e1])) T.b_sorted (ev_lc0 (xs := endsOf [x.e0, x.e1]) (f := .int) (g := fun i => da (.int i)) (own := [("_law_end", 9)]) (tgG := gName 9) (fρ := fun i ρ => ρ.set 9 (.val (da (.int i)))) rfl sc_law_joined.nd (it_of (if_list (f := PyData.int) (vv 8))) (blkOk_by (N := N_lw) (sc := defScope s_law_joined) (by decide +kernel)) (fun _ => pgn 9 sc_law_joined.nd) (fun o _ => tg_name (by decide)) (fun i _ b => ev_int1 T.b_int (vv 9)) (by have : (endsOf [x.e0, x.e1]).length ≤ 2 := List.length_filterMap_le _ _; exact sz)) (two_sorted x.e0 x.e1)) ev_int (two_head x.e0 x.e1 hne)
  · rw [eqv_ints_nil]
    cases x.e0 <;> cases x.e1 <;> rfl
  · show SV _ B _ [(q2, ol [eO (leastO x.e0 x.e1), eO x.e1]), (q1, ol [eArea false (x.r0 ++ x.r1), eArea false x.r1]), (q3, ol [.int x.l0, .int x.l1]), (p, od (lmK x.m))] _ _
    refine sv_perm (rot3 _ _ _ _) ?_
    refine sv_setIx (i := 7) (k := 0) (j := 0) (d := .int (min x.l0 x.l1)) rfl (ev_min2 rfl T.b_min (ev_int1 T.b_int (ev_ixL (ds := [.int x.l0, .int x.l1]) (vv 1) (vv 2) rfl)) (ev_int1 T.b_int (ev_ixL (ds := [.int x.l0, .int x.l1]) (vv 1) (vv 3) rfl))) (vv 2) rfl ?_
    show SV _ B _ [(q3, ol [.int (min x.l0 x.l1), .int x.l1]), (q2, ol [eO (leastO x.e0 x.e1), eO x.e1]), (q1, ol [eArea false (x.r0 ++ x.r1), eArea false x.r1]), (p, od (lmK x.m))] _ _
    refine sv_perm (rot4 _ _ _ _ _) ?_
    refine sv_setKP (k := .inr "rows") (d := .list ([x.r0 ++ x.r1].map (eArea false))) hu (ev_catL (ds := [eArea false (x.r0 ++ x.r1)]) (ds2 := []) (ev_sliceP (ds := [eArea false (x.r0 ++ x.r1), eArea false x.r1]) (l := none) (u := some 1) (pv 5) (by simp) eo_none (eo_some (vv 3))) (ev_sliceP (ds := [eArea false (x.r0 ++ x.r1), eArea false x.r1]) (l := some 2) (u := none) (pv 5) (by simp) (eo_some (i := 2) (ev_eq (ev_add (i := 1) (j := 1) (vv 3) ev_int) rfl)) eo_none) (by show 1 ≤ sizeLine; decide)) (pv 4) ev_str (by show 5 < sizeLine; decide) ?_
    rw [ptD_rows]
    refine sv_setKP (k := .inr "cuts") (d := .list ([x.c0].map .int)) hu (ev_catL (ds := [.int x.c0]) (ds2 := []) (ev_sliceL (ds := [.int x.c0, .int x.c1]) (l := none) (u := some 1) (ev_cuts (m := x.m) hu (vv 0)) eo_none (eo_some (vv 3))) (ev_sliceL (ds := [.int x.c0, .int x.c1]) (l := some 2) (u := none) (ev_cuts (m := x.m) hu (vv 0)) (eo_some (i := 2) (ev_eq (ev_add (i := 1) (j := 1) (vv 3) ev_int) rfl)) eo_none) (by show 1 ≤ sizeLine; decide)) (pv 4) ev_str (by show 5 < sizeLine; decide) ?_
    rw [ptD_cuts]
    refine sv_setKP (k := .inr "ends") (d := .list ([leastO x.e0 x.e1].map eO)) hu (ev_catL (ds := [eO (leastO x.e0 x.e1)]) (ds2 := []) (ev_sliceP (ds := [eO (leastO x.e0 x.e1), eO x.e1]) (l := none) (u := some 1) (pv 6) (by simp) eo_none (eo_some (vv 3))) (ev_sliceP (ds := [eO (leastO x.e0 x.e1), eO x.e1]) (l := some 2) (u := none) (pv 6) (by simp) (eo_some (i := 2) (ev_eq (ev_add (i := 1) (j := 1) (vv 3) ev_int) rfl)) eo_none) (by show 1 ≤ sizeLine; decide)) (pv 4) ev_str (by show 5 < sizeLine; decide) ?_
    rw [ptD_ends]
    refine sv_freezeD (i := 4) rfl ?_
    exact sv_retd (ev_lst (ed_cons (vv 4) (ed_cons (ev_catL (ds := [.int (min x.l0 x.l1)]) (ds2 := []) (ev_sliceP (ds := [.int (min x.l0 x.l1), .int x.l1]) (l := none) (u := some 1) (pv 7) (by simp) eo_none (eo_some (vv 3))) (ev_sliceP (ds := [.int (min x.l0 x.l1), .int x.l1]) (l := some 2) (u := none) (pv 7) (by simp) (eo_some (i := 2) (ev_eq (ev_add (i := 1) (j := 1) (vv 3) ev_int) rfl)) eo_none) (by show 1 ≤ sizeLine; decide)) ed_nil)) (by show 2 ≤ sizeLine; decide)) rfl
end
end L2.My
end
section
set_option Elab.async false
set_option linter.all false
set_option maxRecDepth 100000
set_option autoImplicit false
/-! D26: the law: a walk goes on. -/
namespace L2.My
open PySem PySem.Spec PyProof.Rows
structure Wk where
  ph : Int
  tm : Int
  stops : List (Str × Bool)
  firsts : List (Nat × Int)
  days : List (Nat × Int)
  deriving DecidableEq
def eSt (s : Str × Bool) : PyData := .tuple [.str s.1, .bool s.2]
def eDy (d : Nat × Int) : PyData := .tuple [.int (d.1 : Nat), .int d.2]
def wkK (k : Wk) : List (Key × PyData) := [(.inr "phase", .int k.ph), (.inr "time", .int k.tm), (.inr "stops", .list (k.stops.map eSt)), (.inr "firsts", eFirsts k.firsts), (.inr "days", .list (k.days.map eDy))]
def eWk (k : Wk) : PyData := dk (wkK k)
def ptF (fs : List (Nat × Int)) (a : Nat) (v : Int) : List (Nat × Int) := if (fs.any fun q => decide (q.1 = a)) then fs.map fun q => if q.1 = a then (q.1, v) else q else fs ++ [(a, v)]
def dayL (m : Mp) (a : Nat) (ph t : Int) : Int := (t + ph - bordAt m a) / m.len
def onW (m : Mp) (k : Wk) (p : Str) (pays : Bool) : Wk :=
  if pays then ⟨k.ph, k.tm + 1, k.stops ++ [(p, pays)], ptF k.firsts (areaOf m.areas p) ((getF k.firsts (areaOf m.areas p)).getD k.tm), if (areaOf m.areas p, dayL m (areaOf m.areas p) k.ph k.tm) ∈ k.days then k.days else k.days ++ [(areaOf m.areas p, dayL m (areaOf m.areas p) k.ph k.tm)]⟩
  else ⟨k.ph, k.tm + 1, k.stops ++ [(p, pays)], k.firsts, k.days⟩
theorem k2_nd : ([.inr "phase", .inr "time"] : List Key).Nodup := by decide
theorem k3_f : (.inr "firsts" : Key) ∉ ([.inr "phase", .inr "time", .inr "stops"] : List Key) := by
  intro h
  simp only [List.mem_cons, List.not_mem_nil, or_false, Sum.inr.injEq] at h
  revert h
  decide
theorem k3_d : (.inr "days" : Key) ∉ ([.inr "phase", .inr "time", .inr "stops"] : List Key) := by
  intro h
  simp only [List.mem_cons, List.not_mem_nil, or_false, Sum.inr.injEq] at h
  revert h
  decide
theorem ptD_fK (fs : List (Nat × Int)) (a : Nat) (v : Int) : ptD (fK fs) (.inl (a : Nat)) (.int v) = fK (ptF fs a v) := by
  have hk : ∀ q : Nat × Int, ((Sum.inl ((q.1 : Nat) : Int) : Key) = .inl (a : Nat)) ↔ q.1 = a := fun q => by
    constructor
    · intro h; injection h with h; omega
    · intro h; rw [h]
  have e : ((fK fs).any fun kv => decide (kv.1 = (.inl (a : Nat) : Key))) = fs.any fun q => decide (q.1 = a) := by
    unfold fK
    rw [List.any_map]
    refine congrArg (fun p => List.any fs p) (funext fun q => ?_)
    show decide ((Sum.inl ((q.1 : Nat) : Int) : Key) = .inl (a : Nat)) = _
    rw [Bool.eq_iff_iff, decide_eq_true_iff, decide_eq_true_iff]
    exact hk q
  unfold ptD ptF
  rw [e]
  split
  · unfold fK
    rw [List.map_map, List.map_map]
    refine List.map_congr_left fun q _ => ?_
    show (if (Sum.inl ((q.1 : Nat) : Int) : Key) = .inl (a : Nat) then _ else _) = (fun q : Nat × Int => ((.inl ((q.1 : Nat) : Int) : Key), PyData.int q.2)) (if q.1 = a then (q.1, v) else q)
    by_cases h : q.1 = a
    · rw [if_pos h, if_pos ((hk q).mpr h)]
    · rw [if_neg h, if_neg (fun z => h ((hk q).mp z))]
  · unfold fK
    rw [List.map_append]
    rfl
theorem eqv_eDy (p q : Nat × Int) : PyData.eqv (eDy p) (eDy q) = decide (p = q) := by
  have e : PyData.eqv (eDy p) (eDy q) = (decide ((p.1 : Int) = q.1) && (decide (p.2 = q.2) && true)) := by
    simp only [eDy, PyData.eqv, PyData.eqvAll, Bool.beq_eq_decide_eq]
  rw [e]
  obtain ⟨a, b⟩ := p
  obtain ⟨c, d⟩ := q
  rw [Bool.eq_iff_iff]
  simp only [Bool.and_eq_true, decide_eq_true_eq, and_true, Prod.mk.injEq]
  omega
theorem any_eDy (ds : List (Nat × Int)) (d : Nat × Int) : ((ds.map eDy).any fun z => PyData.eqv z (eDy d)) = decide (d ∈ ds) := by
  rw [List.any_map, Bool.eq_iff_iff, List.any_eq_true, decide_eq_true_iff]
  constructor
  · rintro ⟨q, hq, e⟩
    have e : PyData.eqv (eDy q) (eDy d) = true := e
    rw [eqv_eDy] at e
    rw [← of_decide_eq_true e]
    exact hq
  · intro h
    exact ⟨d, h, by show PyData.eqv (eDy d) (eDy d) = true; rw [eqv_eDy]; exact decide_eq_true rfl⟩
theorem nods_eDy (ds : List (Nat × Int)) : nods (ds.map eDy) = true := by
  induction ds with
  | nil => rfl
  | cons p ps ih => rw [List.map_cons, nods, ih]; rfl
theorem shaped_eDys (ds : List (Nat × Int)) : SeqAt.shaped (.list (ds.map eDy)) = true := by
  have h1 : PyData.canLayAll0 (ds.map eDy) = true := by
    induction ds with
    | nil => simp [PyData.canLayAll0]
    | cons p ps ih =>
      rw [List.map_cons, PyData.canLayAll0, ih]
      simp [eDy, PyData.canLay0, PyData.canLayAll0]
  have h2 : PyData.depthAll (ds.map eDy) ≤ 1 := by
    clear h1
    induction ds with
    | nil => simp [PyData.depthAll]
    | cons p ps ih =>
      rw [List.map_cons, PyData.depthAll]
      have : (eDy p).depth = 1 := by simp [eDy, PyData.depth, PyData.depthAll]
      omega
  show ((PyData.list (ds.map eDy)).canLay0 && decide ((PyData.list (ds.map eDy)).depth ≤ 64)) = true
  rw [Bool.and_eq_true]
  refine ⟨by simp only [PyData.canLay0]; exact h1, decide_eq_true ?_⟩
  simp only [PyData.depth]
  omega
theorem shaped_eDy (p : Nat × Int) : SeqAt.shaped (eDy p) = true := by
  show ((eDy p).canLay0 && decide ((eDy p).depth ≤ 64)) = true
  simp [eDy, PyData.canLay0, PyData.canLayAll0, PyData.depth, PyData.depthAll]
section
variable {X : Cx} {B : Hp × Hp} {ρ : List Slot} {ow : Ow} {a : Expr} {pos : Pos} {k : Wk}
theorem ev_wph {n : Nat} {p : Pos} (hu : X.A.units + 1 < cLine) (ha : EV X B ρ ow a (da (eWk k))) : EV X B ρ ow (.Subscript a (.Constant (.str "phase") n p) pos) (da (.int k.ph)) := ev_dget (k := .inr "phase") hu ha ev_str rfl
theorem ev_wtm {n : Nat} {p : Pos} (hu : X.A.units + 1 < cLine) (ha : EV X B ρ ow a (da (eWk k))) : EV X B ρ ow (.Subscript a (.Constant (.str "time") n p) pos) (da (.int k.tm)) := ev_dget (k := .inr "time") hu ha ev_str rfl
theorem ev_wst {n : Nat} {p : Pos} (hu : X.A.units + 1 < cLine) (ha : EV X B ρ ow a (da (eWk k))) : EV X B ρ ow (.Subscript a (.Constant (.str "stops") n p) pos) (da (.list (k.stops.map eSt))) := ev_dget (k := .inr "stops") hu ha ev_str rfl
theorem ev_wfi {n : Nat} {p : Pos} (hu : X.A.units + 1 < cLine) (ha : EV X B ρ ow a (da (eWk k))) : EV X B ρ ow (.Subscript a (.Constant (.str "firsts") n p) pos) (da (eFirsts k.firsts)) := ev_dget (k := .inr "firsts") hu ha ev_str rfl
theorem ev_wdy {n : Nat} {p : Pos} (hu : X.A.units + 1 < cLine) (ha : EV X B ρ ow a (da (eWk k))) : EV X B ρ ow (.Subscript a (.Constant (.str "days") n p) pos) (da (.list (k.days.map eDy))) := ev_dget (k := .inr "days") hu ha ev_str rfl
end
section
variable {P : Program} {w : World} {K : PySem.W.Frag} {mg : Str → Option Value} {base : Heap}
abbrev N_lo2 : List Str := ["_law_m", "_law_walk", "_law_place", "_law_pays", "_law_time", "_law_area_here", "_law_later", "_law_day"]
theorem sc_law_on : FnScope N_lo2 ["_law_m", "_law_walk", "_law_place", "_law_pays"] (defScope s_law_on) := ⟨rfl, rfl, rfl, by decide +kernel, rfl, by decide +kernel, by decide +kernel⟩
def baseK (k : Wk) (p : Str) (pays : Bool) : List (Key × PyData) := [(.inr "phase", .int k.ph), (.inr "time", .int (k.tm + 1)), (.inr "stops", .list ((k.stops ++ [(p, pays)]).map eSt))]
theorem ok_law_on (T : TX K mg) : Def P w K mg base "_law_on" 2 ["_law_m", "_law_walk", "_law_place", "_law_pays"] (spA (fun x : Mp × Wk × Str × Bool => MpOk x.1 ∧ x.2.2.1 ∈ x.1.areas.flatten ∧ x.2.1.stops.length ≤ 100 ∧ x.2.1.firsts.length ≤ 100 ∧ x.2.1.days.length ≤ 100) (fun x => [da (eLM x.1), da (eWk x.2.1), da (.str x.2.2.1), da (.bool x.2.2.2)]) (fun x => da (eWk (onW x.1 x.2.1 x.2.2.1 x.2.2.2)))) := by
  refine def_mk T.d_law_on sc_law_on (fun _ _ _ _ _ _ us hl => match us, hl with | [_, _, _, _], _ => rfl) (fun _ => rfl) (by decide) fun ⟨m, k, p, pays⟩ ⟨hm, hp, hs, hf, hd⟩ f cdv A outer s0 H0 H E B hr => ?_
  have hm : MpOk m := hm
  have hp : p ∈ m.areas.flatten := hp
  have hs : k.stops.length ≤ 100 := hs
  have hf : k.firsts.length ≤ 100 := hf
  have hd : k.days.length ≤ 100 := hd
  have hlen := hm.len
  have ha := areaOf_lt hp
  have h4 := hm.areas.1.2
  have hu65 : (cxF P w K mg base N_lo2 "_law_on" s_law_on f cdv A outer s0 H E).A.units + 65 < cLine := by have := hr.un; omega
  have hu : (cxF P w K mg base N_lo2 "_law_on" s_law_on f cdv A outer s0 H E).A.units + 1 < cLine := by omega
  refine sv_parP (n := 4) (m := 5) (φ := da (.int k.tm)) (ψ := da (.int (areaOf m.areas p : Nat))) rfl sc_law_on.nd (ea2 (ev_wtm (k := k) hu (vv 1)) (ev_call (ok_law_area T) (m, p) ⟨hp, by show m.areas.length ≤ 1000; omega⟩ hr (ea2 (vv 0) (vv 2)))) ?_
  refine sv_setO (n := 6) sc_law_on.nd (evo_disp (l := [(.inr "phase", .int k.ph), (.inr "time", .int (k.tm + 1))]) (.cons ev_str (ev_wph (k := k) hu (vv 1)) (.cons ev_str (ev_add (vv 4) ev_int) .nil)) (by simp) (show 2 ≤ 15 by decide) k2_nd) fun c => ?_
  refine sv_setKP (k := .inr "stops") (d := .list ((k.stops ++ [(p, pays)]).map eSt)) hu (ev_eq (ev_catL (ds2 := [eSt (p, pays)]) (ev_wst (k := k) hu (vv 1)) (ev_lst (ed_cons (ev_tup (ed_cons (vv 2) (ed_cons (vv 3) ed_nil)) (by show 2 ≤ sizeLine; decide)) ed_nil) (by show 1 ≤ sizeLine; decide)) (by rw [List.length_map]; exact sz (by simp; omega))) (by rw [List.map_append]; rfl)) (pv 6) ev_str (by show 2 < sizeLine; decide) ?_
  show SV _ B _ ((c, od (baseK k p pays)) :: _) _ _
  refine sv_subTwo (lq := fK k.firsts) (d2 := .list (k.days.map eDy)) (k1 := .inr "firsts") (k2 := .inr "days") rfl hu (evo_dict T.b_dict (ev_wfi (k := k) hu (vv 1))) (fun q => ev_listL T.b_list (ev_wdy (k := k) hu (vv 1))) (fun q => pv 6) (fun q => ev_str) (fun q => pv 6) (fun q => ev_str) k3_f k3_d (by decide) (by show 3 < 1000; decide) (fun q => ?_) rfl rfl (pg_tup rfl (pgs_cons (pg_sub pe_w pe_w (set_dict hu)) (pgs_cons (pg_sub pe_w pe_w (set_dict hu)) pgs_nil)))
  cases pays with
  | false =>
    refine sv_if (x := false) (et_v (vv 3)) (fun h => by cases h) fun _ => sv_nil ?_
    refine sv_freezeM (i := 6) rfl ?_
    exact sv_retd (vv 6) rfl
  | true =>
    refine sv_if (x := true) (et_v (vv 3)) (fun _ => ?_) fun h => by cases h
    have hlk := lkD_firsts k.firsts (areaOf m.areas p)
    refine sv_setKP (k := .inl (areaOf m.areas p : Nat)) (d := .int ((getF k.firsts (areaOf m.areas p)).getD k.tm)) hu (ev_eq (ev_get2 (l := fK k.firsts) (key := .inl (areaOf m.areas p : Nat)) hu (ev_wfi (k := k) hu (vv 1)) (vv 5) (vv 4)) (by rw [hlk]; cases getF k.firsts (areaOf m.areas p) <;> rfl)) (ev_entryM (k := .inr "firsts") hu (pv 6) (List.mem_cons_of_mem _ List.mem_cons_self) ev_str k3_f) (vv 5) (by show (fK k.firsts).length < sizeLine; rw [List.length_map]; exact szl) ?_
    rw [ptD_fK]
    have hb : (m.bords.map PyData.int)[areaOf m.areas p]? = some (.int (bordAt m (areaOf m.areas p))) := bord_get hm ha
    refine sv_set (i := 7) (φ := da (eDy (areaOf m.areas p, dayL m (areaOf m.areas p) k.ph k.tm))) sc_law_on.nd (ev_tup (ds := [.int (areaOf m.areas p : Nat), .int (dayL m (areaOf m.areas p) k.ph k.tm)]) (ed_cons (vv 5) (ed_cons (ev_fdiv (ev_int1 T.b_int (ev_sub (ev_add (vv 4) (ev_wph (k := k) hu (vv 1))) (ev_ixL (ev_cuts (m := m) hu (vv 0)) (vv 5) (atI_nat hb)))) (ev_size (m := m) hu (vv 0)) (show CDiv _ m.len from ⟨by omega, by omega⟩)) ed_nil)) (by show 2 ≤ sizeLine; decide)) ?_
    refine sv_perm (List.Perm.swap _ _ _) ?_
    refine sv_setM (k' := .inr "days") (d := .list ((onW m k p true).days.map eDy)) hu (ev_eq (ev_catL (ev_wdy (k := k) hu (vv 1)) (ev_repL (n := if (areaOf m.areas p, dayL m (areaOf m.areas p) k.ph k.tm) ∈ k.days then 0 else 1) (ds := [eDy (areaOf m.areas p, dayL m (areaOf m.areas p) k.ph k.tm)]) (ev_lst (ed_cons (vv 7) ed_nil) (by show 1 ≤ sizeLine; decide)) (ev_eq (ev_intB T.b_int (ev_cmp (op_notInD hu65) (ep_of (vv 7)) (ep_of (ev_wdy (k := k) hu (vv 1))) (r2_notInD (d := eDy (areaOf m.areas p, dayL m (areaOf m.areas p) k.ph k.tm)) rfl (nods_eDy _) (shaped_eDy _) (shaped_eDys _)) rfl)) ?_) ?_ ?_) ?_) ?_) (pv 6) ev_str (by decide) k3_d (by show 3 + 1 < 1000; decide) ?_
    · rw [any_eDy]
      by_cases h : (areaOf m.areas p, dayL m (areaOf m.areas p) k.ph k.tm) ∈ k.days
      · rw [decide_eq_true h, if_pos h]; rfl
      · rw [decide_eq_false h, if_neg h]; rfl
    · split <;> decide
    · split <;> exact sz (by simp)
    · rw [List.length_map]
      split <;> exact sz (by simp; omega)
    · show PyData.list _ = .list ((if _ then k.days else k.days ++ [_]).map eDy)
      split
      · simp
      · simp
    · refine sv_perm (List.Perm.swap _ _ _) (sv_nil ?_)
      refine sv_freezeM (i := 6) rfl ?_
      refine sv_retd (vv 6) ?_
      show dk (baseK k p true ++ _ :: ptD _ _ _) = eWk (onW m k p true)
      have e : ptD [(Sum.inr ("days" : Str), PyData.list (k.days.map eDy))] (.inr "days") (.list ((onW m k p true).days.map eDy)) = [(.inr "days", .list ((onW m k p true).days.map eDy))] := by simp [ptD]
      rw [e]
      rfl
end
end L2.My
end
section
set_option Elab.async false
set_option linter.all false
set_option maxRecDepth 100000
set_option autoImplicit false
/-! D27: the law: count. -/
namespace L2.My
open PySem PySem.Spec PyProof.Rows
def cntL (k : Wk) (a : Nat) : Int := ((k.days.filter fun d => decide ((d.1 : Int) = (a : Nat))).length : Nat)
def countL (m : Mp) (k : Wk) : List Int := (List.range m.areas.length).map (cntL k)
section
variable {P : Program} {w : World} {K : PySem.W.Frag} {mg : Str → Option Value} {base : Heap}
abbrev N_lc : List Str := ["_law_m", "_law_walk", "_law_found", "_law_area_here", "_law_day"]
theorem sc_law_count : FnScope N_lc ["_law_m", "_law_walk"] (defScope s_law_count) := ⟨rfl, rfl, rfl, by decide +kernel, rfl, by decide +kernel, by decide +kernel⟩
theorem ok_law_count (T : TX K mg) : Def P w K mg base "_law_count" 1 ["_law_m", "_law_walk"] (spA (fun x : Mp × Wk => x.1.areas.length ≤ 100 ∧ x.2.days.length ≤ 1000) (fun x => [da (eLM x.1), da (eWk x.2)]) (fun x => da (eInts (countL x.1 x.2)))) := by
  refine def_mk T.d_law_count sc_law_count (fun _ _ _ _ _ _ us hl => match us, hl with | [_, _], _ => rfl) (fun _ => rfl) (by decide) fun ⟨m, k⟩ ⟨hm, hd⟩ f cdv A outer s0 H0 H E B hr => ?_
  have hm : m.areas.length ≤ 100 := hm
  have hd : k.days.length ≤ 1000 := hd
  have hu : (cxF P w K mg base N_lc "_law_count" s_law_count f cdv A outer s0 H E).A.units + 1 < cLine := by have := hr.un; omega
  refine sv_ownL (i := 2) sc_law_count.nd ed_nil (by decide) fun q => ?_
  refine sv_for (xs := List.range m.areas.length) (g := fun a => da (.int (a : Nat))) (vs := [3]) (fun i ρ' ow' => (∃ s3, ρ' = [.val (da (eLM m)), .val (da (eWk k)), .ptr q, s3, .no]) ∧ ow' = [(q, ol (((List.range m.areas.length).take i).map fun a => .int (cntL k a)))])
    PassesOwn.never rfl (if_range1 T.b_range (ev_eq (ev_len T.b_len (ds := m.areas.map (eArea false)) (ep_of (ev_rows (m := m) hu (vv 0)))) (by rw [List.length_map])) (by omega)) (pgn 3 sc_law_count.nd) (fun s _ => tg_name (by decide)) ⟨⟨_, rfl⟩, rfl⟩ (fun i a ρ' ow' B' hx hI => ?_) fun ρ' ow' hI => ?_
  · obtain ⟨⟨s3, rfl⟩, rfl⟩ := hI
    refine sv_append (i := 2) (d := .int (cntL k a)) rfl (ev_eq (ev_len T.b_len (ds := (k.days.filter fun d => decide ((d.1 : Int) = (a : Nat))).map eDy) (ep_of (ev_lc (xs := k.days) (g := fun d => da (eDy d)) (c := fun d => decide ((d.1 : Int) = (a : Nat))) (f := eDy) (own := [("_law_day", 4)]) (tgG := gName 4) (fρ := fun d ρ => ρ.set 4 (.val (da (eDy d)))) rfl sc_law_count.nd (it_of (if_list (f := eDy) (ev_wdy (k := k) hu (vv 1)))) (blkOk_by (N := N_lc) (sc := defScope s_law_count) (by decide +kernel)) (fun _ => pgn 4 sc_law_count.nd) (fun d _ => tg_name (by decide))
      (fun d _ b => ets_one (et_eqI (i := (d.1 : Nat)) (ev_ixT (ds := [.int (d.1 : Nat), .int d.2]) (vv 4) ev_int rfl) (vv 3))) (fun d _ _ b => vv 4) sz))) (by rw [List.length_map]; rfl)) ?_ ?_
    · rw [List.length_map, List.length_take, List.length_range]
      exact szl
    · rw [take_map_snoc (fun a => PyData.int (cntL k a)) hx]
      exact sv_nil ⟨⟨_, rfl⟩, rfl⟩
  · obtain ⟨⟨s3, rfl⟩, rfl⟩ := hI
    rw [List.take_length]
    refine sv_freeze (i := 2) rfl ?_
    refine sv_retd (ev_tupleL T.b_tuple (vv 2)) ?_
    show PyData.tuple _ = .tuple ((countL m k).map .int)
    unfold countL
    rw [List.map_map]
    rfl
end
end L2.My
end
section
set_option Elab.async false
set_option linter.all false
set_option maxRecDepth 100000
set_option autoImplicit false
/-! D28: the law: joins. -/
namespace L2.My
open PySem PySem.Spec PyProof.Rows
section
variable {X : Cx} {B : Hp × Hp} {ρ : List Slot} {ow : Ow} {a1 b1 a2 b2 e1 e2 : Expr} {pos : Pos} {rest : List Stmt} {D : Out}
/-- x[i], x[j] = a, b: an owned list, ints -/
theorem sv_setTwoL {p : Addr} {ds : List PyData} {d1 d2 k1 k2 : Int} {j1 j2 : Nat} {sp1 sp2 pt pt2 : Pos} {kt kk : Nat} (he1 : EV X B ρ ((p, ol ds) :: ow) e1 (da (.int d1))) (he2 : EV X B ρ ((p, ol ds) :: ow) e2 (da (.int d2)))
    (ha1 : EV X B ρ ((p, ol ds) :: ow) a1 (pp p)) (hb1 : EV X B ρ ((p, ol ds) :: ow) b1 (da (.int k1))) (ha2 : EV X B ρ ((p, ol (ds.set j1 (.int d1))) :: ow) a2 (pp p)) (hb2 : EV X B ρ ((p, ol (ds.set j1 (.int d1))) :: ow) b2 (da (.int k2)))
    (h1 : ixN ds.length k1 = some j1) (h2 : ixN ds.length k2 = some j2) (hr : SV X B ρ ((p, ol ((ds.set j1 (.int d1)).set j2 (.int d2))) :: ow) rest D)
    (hs1 : starEach [e1, e2] X.env = (false, eval e1 X.env) :: starEach [e2] X.env := by rfl) (hs2 : starEach [e2] X.env = (false, eval e2 X.env) :: starEach [] X.env := by rfl)
    (hg : PG X (.Tuple [.Subscript a1 b1 sp1, .Subscript a2 b2 sp2] kt pt) (gTup X.K 2 (gCons (gSub (wE X a1) (wE X b1) rSetL) (gCons (gSub (wE X a2) (wE X b2) rSetL) gNil))))
    (hs : swapsWithSole [.Tuple [.Subscript a1 b1 sp1, .Subscript a2 b2 sp2] kt pt] (.Tuple [e1, e2] kk pt2) pos.line X.env = pure false := by rfl) (hw : swappedStores [.Tuple [.Subscript a1 b1 sp1, .Subscript a2 b2 sp2] kt pt] (.Tuple [e1, e2] kk pt2) X.env = pure none := by rfl)
    (hh : (assignEach [.Tuple [.Subscript a1 b1 sp1, .Subscript a2 b2 sp2] kt pt] X.env).map (·.2) = [assign (.Tuple [.Subscript a1 b1 sp1, .Subscript a2 b2 sp2] kt pt) X.env] := by rfl) :
    SV X B ρ ((p, ol ds) :: ow) (.Assign [.Tuple [.Subscript a1 b1 sp1, .Subscript a2 b2 sp2] kt pt] (.Tuple [e1, e2] kk pt2) pos :: rest) D :=
  sv_step (ps_asg (pe_tup (pa_cons he1 (pa_cons he2 pa_nil hs2) hs1)) hg hs hw hh) fun E σ H ⟨⟨G, ok⟩, oo⟩ => ⟨G, ok, fun v1 G1 H1 g1 p1 => ⟨G1, ok.grow g1, fun v2 G2 H2 g2 p2 => ⟨by show 2 ≤ sizeLine; decide, fun t ht => by
    cases (show Da G1 v1 (.int d1) from p1)
    cases (show Da G2 v2 (.int d2) from p2)
    have ok2 := (ok.grow g1).grow g2
    have al := Gr.alloc (o := .tup [.int d1, .int d2]) ok2.gr.s ht
    have ok3 := ok2.grow al
    refine ⟨t, [.int d1, .int d2], rfl, .of upd_same, rfl, .int d1, [.int d2], rfl, L2.PE.to ha1 ⟨_, ok3, fun v4 G4 H4 g4 q4 => L2.PE.to hb1 ⟨G4, ok3.grow g4, fun u5 G5 H5 g5 q5 => ?_⟩⟩⟩
    cases (show v4 = .ref p from q4)
    cases (show Da G5 u5 (.int k1) from q5)
    have ok5 := (ok3.grow g4).grow g5
    obtain ⟨_, _, ob, e5, vs, rfl, t5⟩ := ok5.own _ List.mem_cons_self
    have e5' : H5 p = some (.lst vs) := e5
    refine ⟨p, vs, k1, j1, rfl, rfl, e5', by rw [t5.length]; exact h1, .int d2, [], rfl, ?_⟩
    have ok6 := ok5.write (χ := ol (ds.set j1 (.int d1))) ⟨_, rfl, t5.set (.int d1) j1⟩
    refine L2.PE.to ha2 ⟨G5, ok6, fun v7 G7 H7 g7 q7 => L2.PE.to hb2 ⟨G7, ok6.grow g7, fun u8 G8 H8 g8 q8 => ?_⟩⟩
    cases (show v7 = .ref p from q7)
    cases (show Da G8 u8 (.int k2) from q8)
    have ok8 := (ok6.grow g7).grow g8
    obtain ⟨_, _, ob, e8, vs2, rfl, t8⟩ := ok8.own _ List.mem_cons_self
    have e8' : H8 p = some (.lst vs2) := e8
    refine ⟨p, vs2, k2, j2, rfl, rfl, e8', by rw [t8.length, List.length_set]; exact h2, rfl, ?_⟩
    exact sv_go hr (ok8.write ⟨_, rfl, t8.set (.int d2) j2⟩) oo⟩⟩⟩
end
def jstep (fs : List Int) (p : Pair) : List Int := (fs.set p.1 (min (fs.getD p.1 0) (fs.getD p.2 0))).set p.2 (min (fs.getD p.1 0) (fs.getD p.2 0))
def jround (ps : List Pair) (fs : List Int) : List Int := ps.foldl jstep fs
def joinsL (ps : List Pair) : Bool := decide ((List.range 3).foldl (fun fs _ => jround ps fs) [0, 1, 2, 3] = [0, 0, 0, 0])
theorem jstep_len (fs : List Int) (p : Pair) : (jstep fs p).length = fs.length := by
  unfold jstep
  rw [List.length_set, List.length_set]
theorem jround_len (ps : List Pair) : ∀ fs : List Int, (ps.foldl jstep fs).length = fs.length := by
  induction ps with
  | nil => intro fs; rfl
  | cons p ps ih => intro fs; rw [List.foldl_cons, ih, jstep_len]
theorem jrounds_len (ps : List Pair) : ∀ (l : List Nat) (fs : List Int), (l.foldl (fun fs _ => jround ps fs) fs).length = fs.length := by
  intro l
  induction l with
  | nil => intro fs; rfl
  | cons p l ih => intro fs; rw [List.foldl_cons, ih]; exact jround_len ps fs
theorem eqv_ints : ∀ a b : List Int, PyData.eqv (.list (a.map .int)) (.list (b.map .int)) = decide (a = b) := by
  have gen : ∀ a b : List Int, PyData.eqvAll (a.map .int) (b.map .int) = decide (a = b) := by
    intro a
    induction a with
    | nil => intro b; cases b <;> simp [PyData.eqvAll]
    | cons x a ih =>
      intro b
      cases b with
      | nil => simp [PyData.eqvAll]
      | cons y b =>
        rw [List.map_cons, List.map_cons, PyData.eqvAll, ih b]
        simp only [PyData.eqv, Bool.beq_eq_decide_eq]
        rw [Bool.eq_iff_iff]
        simp
  intro a b
  rw [PyData.eqv]
  exact gen a b
section
variable {P : Program} {w : World} {K : PySem.W.Frag} {mg : Str → Option Value} {base : Heap}
abbrev N_jn : List Str := ["_law_pairs", "_law_firsts", "_law_turn", "_law_one", "_law_other", "_law_least"]
theorem sc_law_joins : FnScope N_jn ["_law_pairs"] (defScope s_law_joins) := ⟨rfl, rfl, rfl, by decide +kernel, rfl, by decide +kernel, by decide +kernel⟩
theorem ixN_nat {n j : Nat} (h : j < n) : ixN n (j : Nat) = some j := by
  unfold ixN
  simp
  omega
theorem ok_law_joins (T : TX K mg) : Def P w K mg base "_law_joins" 1 ["_law_pairs"] (spA (fun ps : List Pair => ∀ p ∈ ps, p.1 < 4 ∧ p.2 < 4) (fun ps => [da (.list (ps.map eP))]) (fun ps => da (.bool (joinsL ps)))) := by
  refine def_mk T.d_law_joins sc_law_joins (fun _ _ _ _ _ _ us hl => match us, hl with | [_], _ => rfl) (fun _ => rfl) (by decide) fun ps hps f cdv A outer s0 H0 H E B hr => ?_
  have hps : ∀ p ∈ ps, p.1 < 4 ∧ p.2 < 4 := hps
  refine sv_ownL (i := 1) (ds := ([0, 1, 2, 3] : List Int).map .int) sc_law_joins.nd (ed_cons ev_int (ed_cons ev_int (ed_cons ev_int (ed_cons ev_int ed_nil)))) (by decide) fun q => ?_
  refine sv_for (xs := List.range 3) (g := fun i => da (.int (i : Nat))) (vs := [2]) (fun i ρ' ow' => (∃ s2 s3 s4 s5, ρ' = [.val (da (.list (ps.map eP))), .ptr q, s2, s3, s4, s5]) ∧ ow' = [(q, ol ((((List.range 3).take i).foldl (fun fs _ => jround ps fs) [0, 1, 2, 3]).map .int))])
    PassesOwn.never rfl (if_range1 (n := 3) T.b_range ev_int (by decide)) (pgn 2 sc_law_joins.nd) (fun s _ => tg_name (by decide)) ⟨⟨_, _, _, _, rfl⟩, rfl⟩ (fun i x ρ' ow' B' hx hI => ?_) fun ρ' ow' hI => ?_
  · obtain ⟨⟨s2, s3, s4, s5, rfl⟩, rfl⟩ := hI
    have esucc : ((List.range 3).take (i + 1)).foldl (fun fs _ => jround ps fs) [0, 1, 2, 3] = jround ps (((List.range 3).take i).foldl (fun fs _ => jround ps fs) [0, 1, 2, 3]) := by
      rw [take_succ_get hx, List.foldl_append]
      rfl
    have hlen : (((List.range 3).take i).foldl (fun fs _ => jround ps fs) [0, 1, 2, 3]).length = 4 := jrounds_len ps _ _
    rw [esucc]
    generalize ((List.range 3).take i).foldl (fun fs _ => jround ps fs) [0, 1, 2, 3] = fs0 at hlen
    refine sv_for (xs := ps) (g := fun p => da (eP p)) (vs := [3, 4]) (fun j ρ' ow' => (∃ s3 s4 s5, ρ' = [.val (da (.list (ps.map eP))), .ptr q, .val (da (.int (x : Nat))), s3, s4, s5]) ∧ ow' = [(q, ol (((ps.take j).foldl jstep fs0).map .int))])
      PassesOwn.never rfl (if_list (f := eP) (vv 0)) (pg_tup rfl (pgs_cons (pgn 3 sc_law_joins.nd) (pgs_cons (pgn 4 sc_law_joins.nd) pgs_nil))) (fun q _ => tg_tup (tgs_cons (by decide) (tgs_cons (by decide) tgs_nil)) rfl) ⟨⟨_, _, _, rfl⟩, rfl⟩ (fun j p ρ' ow' B2 hp hI => ?_) fun ρ' ow' hI => ?_
    · obtain ⟨⟨s3, s4, s5, rfl⟩, rfl⟩ := hI
      obtain ⟨p1, p2⟩ := hps p (List.mem_of_getElem? hp)
      have esucc2 : (ps.take (j + 1)).foldl jstep fs0 = jstep ((ps.take j).foldl jstep fs0) p := by
        rw [take_succ_get hp, List.foldl_append]
        rfl
      have hl2 : ((ps.take j).foldl jstep fs0).length = 4 := by rw [jround_len, hlen]
      rw [esucc2]
      generalize (ps.take j).foldl jstep fs0 = fs at hl2
      have g1 : (fs.map PyData.int)[p.1]? = some (.int (fs.getD p.1 0)) := getD_map (by omega)
      have g2 : (fs.map PyData.int)[p.2]? = some (.int (fs.getD p.2 0)) := getD_map (by omega)
      refine sv_set (i := 5) (φ := da (.int (min (fs.getD p.1 0) (fs.getD p.2 0)))) sc_law_joins.nd (ev_min2 rfl T.b_min (ev_int1 T.b_int (ev_ixO (n := 1) (q := q) rfl List.mem_cons_self (vv 3) (atI_nat g1))) (ev_int1 T.b_int (ev_ixO (n := 1) (q := q) rfl List.mem_cons_self (vv 4) (atI_nat g2)))) ?_
      refine sv_setTwoL (k1 := (p.1 : Nat)) (k2 := (p.2 : Nat)) (j1 := p.1) (j2 := p.2) (vv 5) (vv 5) (pv 1) (vv 3) (pv 1) (vv 4) (ixN_nat (by rw [List.length_map]; omega)) (ixN_nat (by rw [List.length_map]; omega)) ?_ rfl rfl (pg_tup rfl (pgs_cons (pg_sub pe_w pe_w set_list) (pgs_cons (pg_sub pe_w pe_w set_list) pgs_nil)))
      refine sv_nil ⟨⟨_, _, _, rfl⟩, ?_⟩
      unfold jstep
      rw [List.map_set, List.map_set]
    · obtain ⟨⟨s3, s4, s5, rfl⟩, rfl⟩ := hI
      rw [List.take_length]
      exact sv_nil ⟨⟨_, _, _, _, rfl⟩, rfl⟩
  · obtain ⟨⟨s2, s3, s4, s5, rfl⟩, rfl⟩ := hI
    refine sv_freeze (i := 1) rfl ?_
    refine sv_retd (ev_cmp (op_eqD hr.units) (ep_of (vv 1)) (ep_of (ev_repL (n := 4) (ds := [.int 0]) (ev_lst (ed_cons ev_int ed_nil) (by show 1 ≤ sizeLine; decide)) ev_int (by decide) (by show 4 ≤ sizeLine; decide))) (r2_eqD (by show nods _ = true; exact nods_ints _) (by decide) (shaped_ints _) (by decide)) (nomark _)) ?_
    show PyData.bool (PyData.eqv (.list _) (.list (([0, 0, 0, 0] : List Int).map .int))) = _
    rw [eqv_ints]
    rfl
end
end L2.My
end
section
set_option Elab.async false
set_option linter.all false
set_option maxRecDepth 100000
set_option autoImplicit false
/-! P1: one sorted order of texts; the four-area map is good. -/
namespace L2.My
open PySem PySem.Spec PyProof.Rows
def leS (a b : Str) : Prop := ¬ (b.cps.toList < a.cps.toList)
theorem leS_asymm {a b : Str} (h : leS a b) (h2 : leS b a) : a = b := by
  have e : a.cps.toList = b.cps.toList := List.le_antisymm (show a.cps.toList ≤ b.cps.toList from h) h2
  cases a; cases b
  simp only [Array.toList_inj] at e
  rw [e]
theorem leS_trans {a b c : Str} (h : leS a b) (h2 : leS b c) : leS a c :=
  List.le_trans (show a.cps.toList ≤ b.cps.toList from h) (show b.cps.toList ≤ c.cps.toList from h2)
theorem rising_pw : ∀ (r : List Str) (x : Str), risingS x r = true → (x :: r).Pairwise leS := by
  intro r
  induction r with
  | nil => intro x _; exact List.pairwise_singleton _ _
  | cons y r ih =>
    intro x h
    rw [risingS, Bool.and_eq_true, ltCps_eq, Bool.not_eq_true', decide_eq_false_iff_not] at h
    have hy := ih y h.2
    refine List.pairwise_cons.mpr ⟨fun z hz => ?_, hy⟩
    rcases List.mem_cons.mp hz with rfl | hz
    · exact h.1
    · exact leS_trans h.1 ((List.pairwise_cons.mp hy).1 z hz)
theorem sorted_pw {l : List Str} (h : sortedS l = true) : l.Pairwise leS := by
  cases l with
  | nil => exact List.Pairwise.nil
  | cons x r => exact rising_pw r x h
theorem sorted_unique {ys : List Str} (hy : sortedS ys = true) (zs : List Str) (hp : zs.Perm ys) (hz : sortedS zs = true) : zs = ys :=
  List.Perm.eq_of_pairwise (fun a b _ _ h h2 => leS_asymm h h2) (sorted_pw hz) (sorted_pw hy) hp
theorem paths_ok {ps : List (Str × Str)} {places : List Str} (h1 : ∀ p ∈ ps, (p.1 ∈ places ∧ p.2 ∈ places) ∧ p.1.cps.toList < p.2.cps.toList ∧ (p.1.length ≤ 8 ∧ p.2.length ≤ 8) ∧ PyData.strOk p.1 = true ∧ PyData.strOk p.2 = true) (h2 : ps.Nodup) (h3 : (ps.map jt).Nodup) (h4 : sortedS (ps.map jt) = true) (h5 : ps.length ≤ 20) : PathsOk ps places := ⟨h1, h2, h3, fun zs hp hz => sorted_unique h4 zs hp hz, h5⟩
def fourM : Mp := ⟨[["a"], ["b"], ["c"], ["d"]], [("a", "b"), ("a", "c"), ("a", "d"), ("b", "c"), ("b", "d"), ("c", "d")], 1, [0, 0, 0, 0], [some 1, some 1, some 1, some 1]⟩
theorem four_ok : MpOk fourM := ⟨⟨by decide, by decide +kernel, by decide +kernel, by decide⟩, paths_ok (by decide +kernel) (by decide +kernel) (by decide +kernel) (by decide +kernel) (by decide), by decide, by decide, by decide⟩
end L2.My
end
section
set_option Elab.async false
set_option linter.all false
set_option maxRecDepth 100000
set_option autoImplicit false
/-! P3: how many nodes a sheet may have. -/
namespace L2.My
open PySem PySem.Spec PyProof.Rows
def optOk (o l : Option Int) : Prop := match l with
  | none => True
  | some x => 0 ≤ x ∧ x ≤ max 0 (o.getD 0)
def opts (o : Option Int) : List (Option Int) := none :: (List.range ((o.getD 0).toNat + 1)).map fun i => some (i : Nat)
theorem opts_mem {o l : Option Int} (h : optOk o l) : l ∈ opts o := by
  cases l with
  | none => exact List.mem_cons_self
  | some x =>
    have h : 0 ≤ x ∧ x ≤ max 0 (o.getD 0) := h
    refine List.mem_cons_of_mem _ (List.mem_map.mpr ⟨x.toNat, List.mem_range.mpr (by omega), ?_⟩)
    rw [Int.toNat_of_nonneg h.1]
def prodL {α : Type} : List (List α) → List (List α)
  | [] => [[]]
  | xs :: r => xs.flatMap fun x => (prodL r).map (x :: ·)
theorem prodL_mem {α : Type} [Inhabited α] : ∀ (xss : List (List α)) (ys : List α), ys.length = xss.length → (∀ i, i < xss.length → ys.getD i default ∈ xss.getD i []) → ys ∈ prodL xss
  | [], [], _, _ => List.mem_cons_self
  | [], _ :: _, h, _ => by cases h
  | _ :: _, [], h, _ => by cases h
  | xs :: r, y :: ys, h, g => by
    refine List.mem_flatMap.mpr ⟨y, g 0 (by simp), List.mem_map.mpr ⟨ys, prodL_mem r ys (by simpa using h) fun i hi => ?_, rfl⟩⟩
    have := g (i + 1) (by simp; omega)
    simpa using this
def LOk (m : Mp) (k : Mark) : Prop := ∀ a < m.areas.length, optOk (outAt m a) (k.1.getD a none)
theorem leftBehind_ok {o l : Option Int} {t : Int} (h : optOk o l) : optOk o (leftBehind o l t) := by
  unfold leftBehind
  split
  · cases l with
    | none =>
      show optOk o (if t ≤ (o.getD 0) - 1 then none else some 0)
      split
      · trivial
      · exact ⟨Int.le_refl _, by omega⟩
    | some x =>
      have h : 0 ≤ x ∧ x ≤ max 0 (o.getD 0) := h
      exact ⟨by omega, by show max 0 (x - 1) ≤ _; omega⟩
  · exact ⟨Int.le_refl _, by omega⟩
theorem firstMark_l {m : Mp} (hm : MpOk m) : LOk m (firstMark m) := by
  intro a ha
  have ha2 : a < m.outs.length := by rw [hm.outs.1]; exact ha
  show optOk _ ((m.outs.map _).getD a none)
  rw [List.getD_eq_getElem?_getD, List.getElem?_map, List.getElem?_eq_getElem ha2]
  show optOk _ (if tr m.outs[a] then none else some 0)
  split
  · trivial
  · exact ⟨Int.le_refl _, by omega⟩
theorem moved_l {m : Mp} {ph t : Int} {k : Mark} (hm : MpOk m) (hk : MarkOk m k) (h : LOk m k) : LOk m (movedMark m ph t k) := by
  intro a ha
  have ha2 : a < m.outs.length := by rw [hm.outs.1]; exact ha
  have ha3 : a < k.1.length := by rw [hk.1]; exact ha
  have ha4 : a < (m.outs.zip k.1).length := by rw [List.length_zip]; omega
  show optOk _ (((m.outs.zip k.1).map fun y => leftBehind y.1 y.2 (t + 1)).getD a none)
  rw [List.getD_eq_getElem?_getD, List.getElem?_map, List.getElem?_eq_getElem ha4, List.getElem_zip]
  have h1 := h a ha
  have e1 : outAt m a = m.outs[a] := by
    unfold outAt
    rw [List.getD_eq_getElem?_getD, List.getElem?_eq_getElem ha2]
    rfl
  have e2 : k.1.getD a none = k.1[a] := by
    rw [List.getD_eq_getElem?_getD, List.getElem?_eq_getElem ha3]
    rfl
  rw [e1, e2] at h1
  rw [e1]
  exact leftBehind_ok h1
theorem paid_l {m : Mp} {t : Int} {b : Nat} {k : Mark} (hc : canPay m t b k = true) (h : LOk m k) : LOk m (paidMark m t b k) := by
  intro a ha
  show optOk _ ((k.1.set b _).getD a none)
  by_cases e : b = a
  · subst e
    rw [List.getD_eq_getElem?_getD]
    by_cases hb : b < k.1.length
    · rw [List.getElem?_set_self hb]
      show optOk _ (paidLeft (outAt m b) t (k.1.getD b none))
      have h1 := h b ha
      cases hk : k.1.getD b none with
      | some l => rw [hk] at h1; exact h1
      | none =>
        unfold canPay at hc
        cases ho : outAt m b with
        | none => rw [ho] at hc; cases hc
        | some o =>
          rw [ho] at hc
          simp only [Bool.and_eq_true, decide_eq_true_eq] at hc
          show optOk (some o) (some (min o (o - t)))
          exact ⟨by omega, by show _ ≤ max 0 o; omega⟩
    · rw [List.getElem?_eq_none (by rw [List.length_set]; omega)]
      trivial
  · have := h a ha
    rw [List.getD_eq_getElem?_getD] at this ⊢
    rw [List.getElem?_set_ne e]
    exact this
open Classical in
theorem nodup_len {α : Type} : ∀ (l L : List α), l.Nodup → (∀ x ∈ l, x ∈ L) → l.length ≤ L.length
  | [], _, _, _ => Nat.zero_le _
  | x :: l, L, h, hs => by
    have hx : x ∈ L := hs x List.mem_cons_self
    have hn := List.nodup_cons.mp h
    have := nodup_len l (L.erase x) hn.2 fun y hy => (List.mem_erase_of_ne (fun e : _ = x => hn.1 (e ▸ hy))).mpr (hs y (List.mem_cons_of_mem _ hy))
    rw [List.length_erase_of_mem hx] at this
    have h1 : 0 < L.length := List.length_pos_of_mem hx
    rw [List.length_cons]
    omega
theorem sheet_l {m : Mp} {ls : List Int} (hm : MpOk m) : ∀ (i : Nat) (n : Node), n ∈ sheet m ls i → LOk m n.2.2.2 ∧ 0 ≤ n.1 ∧ n.1 < m.len
  | 0, n, h => by
    obtain ⟨ph, hph, h⟩ := List.mem_flatMap.mp h
    obtain ⟨p, hp, rfl⟩ := List.mem_map.mp h
    have := List.mem_range.mp hph
    exact ⟨firstMark_l hm, by show (0 : Int) ≤ (ph : Nat); omega, by show ((ph : Nat) : Int) < _; omega⟩
  | i + 1, n, h => by
    obtain ⟨st, hs, rfl⟩ := List.mem_map.mp ((dd_mem _ _).mp h)
    obtain ⟨n0, h0, hs⟩ := List.mem_flatMap.mp hs
    obtain ⟨h1, h2⟩ := sheet_l hm i n0 h0
    obtain ⟨h3, _⟩ := sheet_mem hm i n0 h0
    obtain ⟨y, hy, hz⟩ := List.mem_flatMap.mp hs
    obtain ⟨o, ho, rfl⟩ := List.mem_map.mp hz
    refine ⟨moved_l hm (ways_ok h3 y hy) ?_, h2⟩
    rcases List.mem_cons.mp hy with rfl | hy
    · exact h1
    · split at hy
      · next hc =>
        rw [List.mem_singleton.mp hy]
        exact paid_l hc h1
      · cases hy
def markAll (m : Mp) : List Mark := (prodL (m.outs.map opts)).flatMap fun a => (prodL (List.replicate m.areas.length [true, false])).map fun b => (a, b)
def nodeAll (m : Mp) (t : Int) : List Node := (List.range m.len.toNat).flatMap fun ph => m.areas.flatten.flatMap fun p => (markAll m).map fun k => ((ph : Nat), t, p, k)
theorem mark_mem {m : Mp} {k : Mark} (hm : MpOk m) (h : MarkOk m k) (hl : LOk m k) : k ∈ markAll m := by
  refine List.mem_flatMap.mpr ⟨k.1, prodL_mem _ _ (by rw [List.length_map, h.1, hm.outs.1]) fun i hi => ?_, List.mem_map.mpr ⟨k.2, prodL_mem _ _ (by rw [List.length_replicate]; exact h.2) fun i hi => ?_, rfl⟩⟩
  · rw [List.length_map] at hi
    have e : (m.outs.map opts).getD i [] = opts (outAt m i) := by
      unfold outAt
      rw [List.getD_eq_getElem?_getD, List.getElem?_map, List.getD_eq_getElem?_getD, List.getElem?_eq_getElem hi]
      rfl
    rw [e]
    exact opts_mem (hl i (by rw [← hm.outs.1]; exact hi))
  · rw [List.length_replicate] at hi
    have e : (List.replicate m.areas.length [true, false]).getD i [] = [true, false] := by
      rw [List.getD_eq_getElem?_getD, List.getElem?_replicate, if_pos hi]
      rfl
    rw [e]
    cases k.2.getD i default <;> simp
theorem sheet_len {m : Mp} {ls : List Int} (hm : MpOk m) (i : Nat) : (sheet m ls i).length ≤ m.len.toNat * (m.areas.flatten.length * ((markAll m).length + 1)) := by
  have key : ∀ t : Int, (nodeAll m t).length ≤ m.len.toNat * (m.areas.flatten.length * ((markAll m).length + 1)) := by
    intro t
    have h := len_flatMap_le (fun ph : Nat => m.areas.flatten.flatMap fun p => (markAll m).map fun k => (((ph : Nat) : Int), t, p, k)) (m.areas.flatten.length * ((markAll m).length + 1)) (List.range m.len.toNat) fun ph _ => len_flatMap_le _ _ _ fun p _ => by rw [List.length_map]; omega
    rw [List.length_range] at h
    exact h
  cases i with
  | zero =>
    have h := len_flatMap_le (fun ph : Nat => m.areas.flatten.map fun p => (((ph : Nat) : Int), -lastT m.outs, p, firstMark m)) m.areas.flatten.length (List.range m.len.toNat) fun ph _ => by rw [List.length_map]; exact Nat.le_refl _
    rw [List.length_range] at h
    exact Nat.le_trans h (Nat.mul_le_mul_left _ (Nat.le_mul_of_pos_right _ (by omega)))
  | succ i =>
    refine Nat.le_trans (nodup_len _ (nodeAll m (-lastT m.outs + (i + 1 : Nat))) (dd_nodup _) fun n hn => ?_) (key _)
    obtain ⟨h1, h2, h3⟩ := sheet_l hm (i + 1) n hn
    obtain ⟨h4, h5⟩ := sheet_mem hm (i + 1) n hn
    refine List.mem_flatMap.mpr ⟨n.1.toNat, List.mem_range.mpr (by omega), List.mem_flatMap.mpr ⟨n.2.2.1, h4.1, List.mem_map.mpr ⟨n.2.2.2, mark_mem hm h4.2 h1, ?_⟩⟩⟩
    rw [← h5, Int.toNat_of_nonneg h2]
end L2.My
end
section
set_option Elab.async false
set_option linter.all false
set_option maxRecDepth 100000
set_option autoImplicit false
/-! P4: few nodes. -/
namespace L2.My
open PySem PySem.Spec PyProof.Rows
def prodN : List Nat → Nat
  | [] => 1
  | x :: r => x * prodN r
theorem flatMap_const {α β : Type} (g : α → List β) (k : Nat) : ∀ xs : List α, (∀ x ∈ xs, (g x).length = k) → (xs.flatMap g).length = xs.length * k
  | [], _ => by simp
  | x :: xs, h => by
    rw [List.flatMap_cons, List.length_append, h x List.mem_cons_self, flatMap_const g k xs fun y hy => h y (List.mem_cons_of_mem _ hy), List.length_cons, Nat.succ_mul, Nat.add_comm]
theorem prodL_len {α : Type} : ∀ xss : List (List α), (prodL xss).length = prodN (xss.map List.length)
  | [] => rfl
  | xs :: r => by
    rw [prodL, flatMap_const _ (prodL r).length xs fun x _ => List.length_map .., prodL_len r]
    rfl
theorem prodN_two (n : Nat) : prodN ((List.replicate n [true, false]).map List.length) = 2 ^ n := by
  induction n with
  | zero => rfl
  | succ n ih =>
    rw [List.replicate_succ, List.map_cons, prodN, ih, Nat.pow_succ]
    show 2 * _ = _
    omega
def cntN (m : Mp) : Nat := m.len.toNat * (m.areas.flatten.length * (prodN (m.outs.map fun o => (o.getD 0).toNat + 2) * 2 ^ m.areas.length + 1))
theorem markAll_len (m : Mp) : (markAll m).length = prodN (m.outs.map fun o => (o.getD 0).toNat + 2) * 2 ^ m.areas.length := by
  unfold markAll
  rw [flatMap_const _ (2 ^ m.areas.length) _ fun x _ => by rw [List.length_map, prodL_len, prodN_two], prodL_len, List.map_map]
  congr 2
  refine List.map_congr_left fun o _ => ?_
  show (opts o).length = _
  unfold opts
  rw [List.length_cons, List.length_map, List.length_range]
theorem few_of {m : Mp} {ls : List Int} (hm : MpOk m) (h : cntN m ≤ 20000) : Few m ls := fun i _ => by
  have := sheet_len (ls := ls) hm i
  rw [markAll_len] at this
  exact Nat.le_trans this h
theorem four_cnt : ∀ ps ∈ listsOf (allPairs 4), cntN (mergedM ⟨fourM, false, [1, 1, 1, 1]⟩ ps).m ≤ 20000 := by decide +kernel
theorem four_few2 : FewJ ⟨fourM, false, [1, 1, 1, 1]⟩ := fun ps hps => few_of (merged_good (st := ⟨fourM, false, [1, 1, 1, 1]⟩) four_ok rfl (by decide) ps).m (four_cnt ps hps)
end L2.My
end
section
set_option Elab.async false
set_option linter.all false
set_option maxRecDepth 100000
set_option autoImplicit false
/-! P5: least joins of one and two areas. -/
namespace L2.My
open PySem PySem.Spec PyProof.Rows
theorem lists_one : listsOf (allPairs 1) = [[]] := by decide +kernel
theorem lists_two : listsOf (allPairs 2) = [[], [(0, 1)]] := by decide +kernel
theorem merged_nil1 {st : Mst} (h : st.m.areas.length = 1) : mergedM st [] = st := by
  unfold mergedM mdowns
  rw [h]
  show mdown (mfirsts 1 []) st 0 = st
  unfold mdown
  rw [if_pos (by decide)]
theorem merged_nil2 {st : Mst} (h : st.m.areas.length = 2) : mergedM st [] = st := by
  unfold mergedM mdowns
  rw [h]
  show mdown (mfirsts 2 []) (mdown (mfirsts 2 []) st 1) 0 = st
  have e : mdown (mfirsts 2 []) st 1 = st := by
    unfold mdown
    rw [if_pos (by decide)]
  rw [e]
  unfold mdown
  rw [if_pos (by decide)]
theorem merged_two {st : Mst} (h : st.m.areas.length = 2) : mergedM st [(0, 1)] = ⟨joinedM st.m 0 1, true, joinedL st.ls 0 1⟩ := by
  unfold mergedM mdowns
  rw [h]
  show mdown (mfirsts 2 [(0, 1)]) (mdown (mfirsts 2 [(0, 1)]) st 1) 0 = _
  have e : mfirsts 2 [(0, 1)] = [0, 0] := by decide +kernel
  rw [e]
  have e2 : mdown [0, 0] st 1 = ⟨joinedM st.m 0 1, true, joinedL st.ls 0 1⟩ := by
    unfold mdown
    rw [if_neg (by decide)]
    rfl
  rw [e2]
  unfold mdown
  rw [if_pos (by decide)]
theorem leastJ_one {st : Mst} {wish : Int} (h : st.m.areas.length = 1) : leastJ st wish = if keeps st.m st.ls wish = true then [[]] else [] := by
  unfold leastJ
  rw [h, lists_one, List.foldl_cons, List.foldl_nil]
  unfold ljStep
  rw [merged_nil1 h]
  rfl
theorem leastJ_two {st : Mst} {wish : Int} (h : st.m.areas.length = 2) : leastJ st wish = if keeps st.m st.ls wish = true then [[]] else if keeps (joinedM st.m 0 1) (joinedL st.ls 0 1) wish = true then [[(0, 1)]] else [] := by
  unfold leastJ
  rw [h, lists_two, List.foldl_cons, List.foldl_cons, List.foldl_nil]
  have e1 : ljStep st wish [] [] = if keeps st.m st.ls wish = true then [[]] else [] := by
    unfold ljStep
    rw [merged_nil2 h]
    rfl
  rw [e1]
  split
  · unfold ljStep
    rw [if_pos (by decide)]
  · unfold ljStep
    rw [if_neg (by decide), merged_two h]
    rfl
end L2.My
end
section
set_option Elab.async false
set_option linter.all false
set_option maxRecDepth 100000
set_option autoImplicit false
/-! P6: the law's walks, none left out. -/
namespace L2.My
open PySem PySem.Spec PyProof.Rows
def wk0 (m : Mp) (ph : Int) : Wk := ⟨ph, -lawLast m, [], [], []⟩
def lastP (k : Wk) : Option Str := k.stops.getLast?.map (·.1)
def nearW (m : Mp) (k : Wk) : List Str := match lastP k with
  | none => m.areas.flatten
  | some p => nextsL m p
def nextW (m : Mp) (k : Wk) : List Wk := (nearW m k).flatMap fun p => onW m k p false :: (if mayL m k.firsts (areaOf m.areas p) k.tm = true then [onW m k p true] else [])
def levW (m : Mp) (ph : Int) : Nat → List Wk
  | 0 => [wk0 m ph]
  | i + 1 => (levW m ph i).flatMap (nextW m)
structure Sim (k j : Wk) : Prop where
  ph : k.ph = j.ph
  tm : k.tm = j.tm
  last : lastP k = lastP j
  firsts : k.firsts = j.firsts
  days : k.days.Perm j.days
theorem Sim.refl (k : Wk) : Sim k k := ⟨rfl, rfl, rfl, rfl, List.Perm.refl _⟩
theorem Sim.symm {k j : Wk} (h : Sim k j) : Sim j k := ⟨h.ph.symm, h.tm.symm, h.last.symm, h.firsts.symm, h.days.symm⟩
theorem Sim.trans {k j l : Wk} (h : Sim k j) (h2 : Sim j l) : Sim k l := ⟨h.ph.trans h2.ph, h.tm.trans h2.tm, h.last.trans h2.last, h.firsts.trans h2.firsts, h.days.trans h2.days⟩
theorem on_sim {m : Mp} {k j : Wk} (h : Sim k j) (p : Str) (b : Bool) : Sim (onW m k p b) (onW m j p b) := by
  cases b with
  | false =>
    refine ⟨h.ph, ?_, ?_, h.firsts, h.days⟩
    · show k.tm + 1 = j.tm + 1
      rw [h.tm]
    · show ((k.stops ++ [(p, false)]).getLast?).map _ = ((j.stops ++ [(p, false)]).getLast?).map _
      simp
  | true =>
    refine ⟨h.ph, ?_, ?_, ?_, ?_⟩
    · show k.tm + 1 = j.tm + 1
      rw [h.tm]
    · show ((k.stops ++ [(p, true)]).getLast?).map _ = ((j.stops ++ [(p, true)]).getLast?).map _
      simp
    · show ptF k.firsts _ ((getF k.firsts _).getD k.tm) = ptF j.firsts _ ((getF j.firsts _).getD j.tm)
      rw [h.firsts, h.tm]
    · show (if _ ∈ k.days then k.days else k.days ++ _).Perm (if _ ∈ j.days then j.days else j.days ++ _)
      rw [h.ph, h.tm]
      by_cases hd : (areaOf m.areas p, dayL m (areaOf m.areas p) j.ph j.tm) ∈ j.days
      · rw [if_pos hd, if_pos (h.days.mem_iff.mpr hd)]
        exact h.days
      · rw [if_neg hd, if_neg (fun z => hd (h.days.mem_iff.mp z))]
        exact h.days.append_right _
theorem next_sim {m : Mp} {k j y : Wk} (h : Sim k j) (hy : y ∈ nextW m k) : ∃ z ∈ nextW m j, Sim y z := by
  have e : nearW m k = nearW m j := by
    unfold nearW
    rw [h.last]
  obtain ⟨p, hp, hy⟩ := List.mem_flatMap.mp hy
  rw [e] at hp
  rcases List.mem_cons.mp hy with rfl | hy
  · exact ⟨_, List.mem_flatMap.mpr ⟨p, hp, List.mem_cons_self⟩, on_sim h p false⟩
  · split at hy
    · next hc =>
      rw [List.mem_singleton.mp hy]
      refine ⟨_, List.mem_flatMap.mpr ⟨p, hp, List.mem_cons_of_mem _ ?_⟩, on_sim h p true⟩
      rw [if_pos (by rw [← h.firsts, ← h.tm]; exact hc)]
      exact List.mem_cons_self
    · cases hy
/-- a level of walks with some left out that have their like -/
def Thin (ws vs : List Wk) : Prop := (∀ v ∈ vs, v ∈ ws) ∧ ∀ w ∈ ws, ∃ v ∈ vs, Sim w v
def Like (ws vs : List Wk) : Prop := (∀ v ∈ vs, ∃ w ∈ ws, Sim v w) ∧ ∀ w ∈ ws, ∃ v ∈ vs, Sim w v
theorem like_next {m : Mp} {ws vs us : List Wk} (h : Like ws vs) (ht : Thin (vs.flatMap (nextW m)) us) : Like (ws.flatMap (nextW m)) us := by
  refine ⟨fun u hu => ?_, fun w hw => ?_⟩
  · obtain ⟨v, hv, hu⟩ := List.mem_flatMap.mp (ht.1 u hu)
    obtain ⟨w, hw, hs⟩ := h.1 v hv
    obtain ⟨z, hz, hs2⟩ := next_sim hs hu
    exact ⟨z, List.mem_flatMap.mpr ⟨w, hw, hz⟩, hs2⟩
  · obtain ⟨w0, hw0, hw⟩ := List.mem_flatMap.mp hw
    obtain ⟨v, hv, hs⟩ := h.2 w0 hw0
    obtain ⟨z, hz, hs2⟩ := next_sim hs hw
    obtain ⟨u, hu, hs3⟩ := ht.2 z (List.mem_flatMap.mpr ⟨v, hv, hz⟩)
    exact ⟨u, hu, hs2.trans hs3⟩
theorem cntL_sim {k j : Wk} (h : Sim k j) (a : Nat) : cntL k a = cntL j a := by
  unfold cntL
  rw [(h.days.filter _).length_eq]
theorem countL_sim {m : Mp} {k j : Wk} (h : Sim k j) : countL m k = countL m j := by
  unfold countL
  exact List.map_congr_left fun a _ => cntL_sim h a
def sumW (m : Mp) (ls : List Int) (k : Wk) : Int := (((countL m k).zip ls).map fun y => y.1 * y.2).sum
theorem sumW_sim {m : Mp} {ls : List Int} {k j : Wk} (h : Sim k j) : sumW m ls k = sumW m ls j := by
  unfold sumW
  rw [countL_sim h]
end L2.My
end
section
set_option Elab.async false
set_option linter.all false
set_option maxRecDepth 100000
set_option autoImplicit false
/-! P7: the greatest sum. -/
namespace L2.My
open PySem PySem.Spec PyProof.Rows
def mx (l : List Int) : Int := l.foldl max 0
theorem mx_gen : ∀ (l : List Int) (a : Int), a ≤ l.foldl max a ∧ (∀ x ∈ l, x ≤ l.foldl max a) ∧ (l.foldl max a = a ∨ l.foldl max a ∈ l)
  | [], a => ⟨Int.le_refl _, fun x h => (by cases h), Or.inl rfl⟩
  | y :: l, a => by
    obtain ⟨h1, h2, h3⟩ := mx_gen l (max a y)
    rw [List.foldl_cons]
    refine ⟨by omega, fun x hx => ?_, ?_⟩
    · rcases List.mem_cons.mp hx with rfl | hx
      · omega
      · exact h2 x hx
    · rcases h3 with h3 | h3
      · rw [h3]
        by_cases h : a ≤ y
        · right; rw [Int.max_eq_right h]; exact List.mem_cons_self
        · left; exact Int.max_eq_left (by omega)
      · right; exact List.mem_cons_of_mem _ h3
theorem mx_nonneg (l : List Int) : 0 ≤ mx l := (mx_gen l 0).1
theorem mx_ge {l : List Int} {x : Int} (h : x ∈ l) : x ≤ mx l := (mx_gen l 0).2.1 x h
theorem mx_le {l : List Int} {b : Int} (h0 : 0 ≤ b) (h : ∀ x ∈ l, x ≤ b) : mx l ≤ b := by
  rcases (mx_gen l 0).2.2 with e | e
  · show l.foldl max 0 ≤ b
    omega
  · exact h _ e
theorem mx_like {α β : Type} {f : α → Int} {g : β → Int} {xs : List α} {ys : List β} (h : ∀ x ∈ xs, ∃ y ∈ ys, f x = g y) (h2 : ∀ y ∈ ys, ∃ x ∈ xs, g y = f x) : mx (xs.map f) = mx (ys.map g) := by
  apply Int.le_antisymm
  · refine mx_le (mx_nonneg _) fun x hx => ?_
    obtain ⟨a, ha, rfl⟩ := List.mem_map.mp hx
    obtain ⟨b, hb, e⟩ := h a ha
    rw [e]
    exact mx_ge (List.mem_map.mpr ⟨b, hb, rfl⟩)
  · refine mx_le (mx_nonneg _) fun x hx => ?_
    obtain ⟨b, hb, rfl⟩ := List.mem_map.mp hx
    obtain ⟨a, ha, e⟩ := h2 b hb
    rw [e]
    exact mx_ge (List.mem_map.mpr ⟨a, ha, rfl⟩)
/-- every walk of the law, over all phases -/
def allW (m : Mp) : List Wk := (List.range m.len.toNat).flatMap fun ph => levW m (ph : Nat) (2 * lawLast m).toNat
def topW (m : Mp) (ls : List Int) : Int := mx ((allW m).map (sumW m ls))
theorem like_top {m : Mp} {ls : List Int} {us : List Wk} (h : Like (allW m) us) : mx (us.map (sumW m ls)) = topW m ls :=
  mx_like (fun u hu => (h.1 u hu).imp fun w hw => ⟨hw.1, sumW_sim hw.2⟩) fun w hw => (h.2 w hw).imp fun u hu => ⟨hu.1, sumW_sim hu.2⟩
theorem like_append {a b c d : List Wk} (h : Like a b) (h2 : Like c d) : Like (a ++ c) (b ++ d) := by
  refine ⟨fun v hv => ?_, fun w hw => ?_⟩
  · rcases List.mem_append.mp hv with hv | hv
    · obtain ⟨w, hw, hs⟩ := h.1 v hv
      exact ⟨w, List.mem_append_left _ hw, hs⟩
    · obtain ⟨w, hw, hs⟩ := h2.1 v hv
      exact ⟨w, List.mem_append_right _ hw, hs⟩
  · rcases List.mem_append.mp hw with hw | hw
    · obtain ⟨v, hv, hs⟩ := h.2 w hw
      exact ⟨v, List.mem_append_left _ hv, hs⟩
    · obtain ⟨v, hv, hs⟩ := h2.2 w hw
      exact ⟨v, List.mem_append_right _ hv, hs⟩
theorem maxL_mx {l : List Int} (h : ∀ x ∈ l, 0 ≤ x) : maxL l = mx l := by
  cases l with
  | nil => rfl
  | cons a r =>
    show r.foldl max a = r.foldl max (max 0 a)
    rw [Int.max_eq_right (h a List.mem_cons_self)]
theorem maxO_fold : ∀ (os : List (Option Int)) (x : Int), maxO os x = (endsOf os).foldl max x
  | [], _ => rfl
  | none :: r, x => maxO_fold r x
  | some i :: r, x => maxO_fold r (max x i)
theorem lawLast_eq {m : Mp} (h : ∀ o ∈ m.outs, ∀ i, o = some i → 0 ≤ i) : lawLast m = lastT m.outs := by
  unfold lawLast lastT
  rw [maxO_fold]
  exact (maxL_mx fun x hx => by
    obtain ⟨o, ho, e⟩ := List.mem_filterMap.mp hx
    exact h o ho x e).symm
end L2.My
end
section
set_option Elab.async false
set_option linter.all false
set_option maxRecDepth 100000
set_option autoImplicit false
/-! P8: near places. -/
namespace L2.My
open PySem PySem.Spec PyProof.Rows
theorem near_nexts (m : Mp) (p : Str) : nearL m p = nextsL m p := by
  unfold nearL nextsL
  refine List.filter_congr fun o _ => ?_
  rw [Bool.eq_iff_iff]
  unfold isWay
  simp only [Bool.or_eq_true, decide_eq_true_eq]
  constructor
  · rintro (h | h)
    · exact .inl h
    · obtain ⟨q, hq, h⟩ := List.mem_flatMap.mp h
      obtain ⟨h1, h2⟩ := List.mem_filter.mp h
      have h2 := of_decide_eq_true h2
      simp only [List.mem_cons, List.not_mem_nil, or_false] at h1 h2
      rcases h1 with rfl | rfl <;> rcases h2 with rfl | rfl
      · exact .inl rfl
      · exact .inr (.inl hq)
      · exact .inr (.inr hq)
      · exact .inl rfl
  · rintro (h | h | h)
    · exact .inl h
    · exact .inr (List.mem_flatMap.mpr ⟨_, h, List.mem_filter.mpr ⟨by simp, decide_eq_true (by simp)⟩⟩)
    · exact .inr (List.mem_flatMap.mpr ⟨_, h, List.mem_filter.mpr ⟨by simp, decide_eq_true (by simp)⟩⟩)
def leftF (o g : Option Int) (t : Int) : Option Int := match o with
  | none => some 0
  | some o => if o ≤ 0 then some 0 else match g with
    | some f => some (max 0 (min o (o - f) - (t - f)))
    | none => if t ≤ o - 1 then none else some 0
/-- a place's mark against a walk's memory -/
structure Mem (m : Mp) (ph t : Int) (k : Wk) (mk : Mark) : Prop where
  ok : MarkOk m mk
  left : ∀ a < m.areas.length, mk.1.getD a none = leftF (outAt m a) (getF k.firsts a) t
  day : ∀ a < m.areas.length, mk.2.getD a false = decide ((a, dayL m a ph t) ∈ k.days)
theorem getD_eq_getElem' {α : Type} {l : List α} {a : Nat} {d : α} (h : a < l.length) : l.getD a d = l[a] := by
  rw [List.getD_eq_getElem?_getD, List.getElem?_eq_getElem h]
  rfl
theorem mem_first {m : Mp} {ph : Int} (hm : MpOk m) (hle : ∀ a < m.areas.length, ∀ o, outAt m a = some o → 0 < o → -lastT m.outs ≤ o - 1) : Mem m ph (-lastT m.outs) ⟨ph, -lastT m.outs, [], [], []⟩ (firstMark m) := by
  refine ⟨firstMark_ok hm, fun a ha => ?_, fun a ha => ?_⟩
  · have ha2 : a < m.outs.length := by rw [hm.outs.1]; exact ha
    have e1 : outAt m a = m.outs[a] := getD_eq_getElem' ha2
    show (m.outs.map _).getD a none = _
    rw [getD_eq_getElem' (by rw [List.length_map]; exact ha2), List.getElem_map, ← e1]
    cases ho : outAt m a with
    | none => rfl
    | some o =>
      have hk := hm.outs.2 m.outs[a] (List.getElem_mem ha2)
      rw [← e1, ho] at hk
      show (if (!decide (o = 0)) = true then none else some 0) = if o ≤ 0 then some 0 else if -lastT m.outs ≤ o - 1 then none else some 0
      by_cases h0 : o = 0
      · subst h0; rfl
      · have hp : 0 ≤ o := by
          unfold oOk at hk
          simp at hk
          omega
        rw [if_pos (by simp [h0]), if_neg (by omega), if_pos (hle a ha o ho (by omega))]
  · show (List.replicate _ _).getD a false = _
    rw [getD_eq_getElem' (by rw [List.length_replicate]; exact ha)]
    simp
end L2.My
end
section
set_option Elab.async false
set_option linter.all false
set_option maxRecDepth 100000
set_option autoImplicit false
/-! P9: who may pay. -/
namespace L2.My
open PySem PySem.Spec PyProof.Rows
theorem may_can {m : Mp} {ph t : Int} {k : Wk} {mk : Mark} (h : Mem m ph t k mk) {a : Nat} (ha : a < m.areas.length) : canPay m t a mk = mayL m k.firsts a t := by
  have hl := h.left a ha
  unfold leftF at hl
  unfold canPay mayL
  cases ho : outAt m a with
  | none => rfl
  | some o =>
    rw [ho] at hl
    dsimp only at hl ⊢
    by_cases hw : -o ≤ t ∧ t ≤ o - 1
    · have h0 : ¬ o ≤ 0 := by omega
      rw [if_neg h0] at hl
      cases hf : getF k.firsts a with
      | none =>
        rw [hf] at hl
        dsimp only at hl
        rw [if_pos hw.2] at hl
        rw [hl]
        simp [hw.1, hw.2]
        try omega
      | some f =>
        rw [hf] at hl
        dsimp only at hl
        rw [hl]
        dsimp only
        rw [Bool.eq_iff_iff]
        simp only [Bool.and_eq_true, Bool.or_eq_true, decide_eq_true_eq]
        omega
    · rw [Bool.eq_iff_iff]
      simp only [Bool.and_eq_true, decide_eq_true_eq]
      constructor
      · rintro ⟨⟨h1, h2⟩, _⟩; exact absurd ⟨h1, h2⟩ hw
      · intro hx
        exfalso
        apply hw
        first | (obtain ⟨⟨h1, h2⟩, _⟩ := hx; omega) | (obtain ⟨h1, _⟩ := hx; omega)
end L2.My
end
section
set_option Elab.async false
set_option linter.all false
set_option maxRecDepth 100000
set_option autoImplicit false
/-! P10: a mark moves on. -/
namespace L2.My
open PySem PySem.Spec PyProof.Rows
theorem out_pos {m : Mp} (hm : MpOk m) {a : Nat} {o : Int} (ho : outAt m a = some o) : 0 ≤ o := by
  unfold outAt at ho
  rw [List.getD_eq_getElem?_getD] at ho
  cases e : m.outs[a]? with
  | none => rw [e] at ho; cases ho
  | some x =>
    rw [e] at ho
    have ho : x = some o := ho
    have hk := hm.outs.2 x (List.mem_of_getElem? e)
    subst ho
    unfold oOk at hk
    simp at hk
    omega
theorem left_step {m : Mp} (hm : MpOk m) {a : Nat} {t : Int} {g l : Option Int} (h : l = leftF (outAt m a) g t) : leftBehind (outAt m a) l (t + 1) = leftF (outAt m a) g (t + 1) := by
  unfold leftF at h ⊢
  cases ho : outAt m a with
  | none => rfl
  | some o =>
    rw [ho] at h
    dsimp only at h ⊢
    have hp := out_pos hm ho
    by_cases h0 : o = 0
    · subst h0; rfl
    · rw [if_neg (by omega)] at h ⊢
      have ht : tr (some o) = true := by show (!decide (o = 0)) = true; simp [h0]
      unfold leftBehind
      rw [if_pos ht, h]
      cases g with
      | some f =>
        dsimp only
        congr 1
        omega
      | none =>
        dsimp only
        by_cases h1 : t ≤ o - 1
        · rw [if_pos h1]
          rfl
        · rw [if_neg h1]
          show some (max 0 (0 - 1)) = if t + 1 ≤ o - 1 then none else some 0
          rw [if_neg (by omega)]
          rfl
theorem dayL_mono {m : Mp} (hm : MpOk m) (a : Nat) (ph t : Int) : dayL m a ph t ≤ dayL m a ph (t + 1) := by
  unfold dayL
  exact Int.ediv_le_ediv (by have := hm.len; omega) (by omega)
theorem mem_stay {m : Mp} (hm : MpOk m) {ph t : Int} {k : Wk} {mk : Mark} (h : Mem m ph t k mk) (hd : ∀ d ∈ k.days, d.2 ≤ dayL m d.1 ph t) (p : Str) : Mem m ph (t + 1) (onW m k p false) (movedMark m ph t mk) := by
  refine ⟨movedMark_len hm.outs.1 h.ok, fun a ha => ?_, fun a ha => ?_⟩
  · have ha2 : a < m.outs.length := by rw [hm.outs.1]; exact ha
    have ha3 : a < mk.1.length := by rw [h.ok.1]; exact ha
    have ha4 : a < (m.outs.zip mk.1).length := by rw [List.length_zip]; omega
    show ((m.outs.zip mk.1).map fun y => leftBehind y.1 y.2 (t + 1)).getD a none = _
    rw [getD_eq_getElem' (by rw [List.length_map]; exact ha4), List.getElem_map, List.getElem_zip]
    have e1 : outAt m a = m.outs[a] := getD_eq_getElem' ha2
    have e2 : mk.1.getD a none = mk.1[a] := getD_eq_getElem' ha3
    dsimp only
    rw [← e1, ← e2]
    exact left_step hm (h.left a ha)
  · have ha3 : a < mk.2.length := by rw [h.ok.2]; exact ha
    show (mk.2.zipIdx.map fun y => y.1 && decide (dayOf m y.2 ph t = dayOf m y.2 ph (t + 1))).getD a false = _
    rw [getD_eq_getElem' (by rw [List.length_map, List.length_zipIdx]; exact ha3), List.getElem_map, List.getElem_zipIdx]
    have e2 : mk.2.getD a false = mk.2[a] := getD_eq_getElem' ha3
    have h3 := h.day a ha
    dsimp only
    rw [← e2, h3]
    show (decide ((a, dayL m a ph t) ∈ k.days) && decide (dayL m (0 + a) ph t = dayL m (0 + a) ph (t + 1))) = decide ((a, dayL m a ph (t + 1)) ∈ k.days)
    rw [Nat.zero_add, Bool.eq_iff_iff]
    simp only [Bool.and_eq_true, decide_eq_true_eq]
    constructor
    · rintro ⟨h1, h2⟩
      rw [← h2]; exact h1
    · intro h1
      have h2 := hd _ h1
      have h4 := dayL_mono hm a ph t
      have e : dayL m a ph t = dayL m a ph (t + 1) := Int.le_antisymm h4 h2
      exact ⟨by rw [e]; exact h1, e⟩
end L2.My
end
section
set_option Elab.async false
set_option linter.all false
set_option maxRecDepth 100000
set_option autoImplicit false
/-! P11: first days. -/
namespace L2.My
open PySem PySem.Spec PyProof.Rows
theorem getF_cons (q : Nat × Int) (fs : List (Nat × Int)) (a : Nat) : getF (q :: fs) a = if q.1 = a then some q.2 else getF fs a := by
  unfold getF
  rw [List.find?_cons]
  by_cases h : q.1 = a
  · rw [if_pos h]; simp [h]
  · rw [if_neg h]; simp [h]
theorem getF_map (fs : List (Nat × Int)) (b : Nat) (v : Int) (a : Nat) : getF (fs.map fun q => if q.1 = b then (q.1, v) else q) a = if a = b then (getF fs a).map fun _ => v else getF fs a := by
  induction fs with
  | nil => unfold getF; simp
  | cons q fs ih =>
    rw [List.map_cons, getF_cons, getF_cons, ih]
    by_cases h1 : q.1 = b
    · rw [if_pos h1]
      by_cases h2 : q.1 = a
      · rw [if_pos h2, if_pos h2, if_pos (by omega)]; rfl
      · rw [if_neg h2, if_neg h2]
    · rw [if_neg h1]
      by_cases h2 : q.1 = a
      · rw [if_pos h2, if_neg (by omega), if_pos h2]
      · rw [if_neg h2, if_neg h2]
theorem getF_snoc (fs : List (Nat × Int)) (b : Nat) (v : Int) (a : Nat) : getF (fs ++ [(b, v)]) a = match getF fs a with
  | some f => some f
  | none => if b = a then some v else none := by
  induction fs with
  | nil =>
    rw [List.nil_append, getF_cons]
    rfl
  | cons q fs ih =>
    rw [List.cons_append, getF_cons, getF_cons, ih]
    by_cases h : q.1 = a
    · rw [if_pos h, if_pos h]
    · rw [if_neg h, if_neg h]
theorem any_getF (fs : List (Nat × Int)) (b : Nat) : (fs.any fun q => decide (q.1 = b)) = (getF fs b).isSome := by
  induction fs with
  | nil => rfl
  | cons q fs ih =>
    rw [List.any_cons, getF_cons, ih]
    by_cases h : q.1 = b
    · rw [if_pos h]; simp [h]
    · rw [if_neg h]; simp [h]
theorem getF_ptF (fs : List (Nat × Int)) (b : Nat) (v : Int) (a : Nat) : getF (ptF fs b v) a = if a = b then some v else getF fs a := by
  unfold ptF
  rw [any_getF]
  cases hb : getF fs b with
  | some f =>
    rw [if_pos (show (some f).isSome = true from rfl), getF_map]
    by_cases h : a = b
    · subst h; rw [if_pos rfl, if_pos rfl, hb]; rfl
    · rw [if_neg h, if_neg h]
  | none =>
    rw [if_neg (by simp), getF_snoc]
    by_cases h : a = b
    · subst h; rw [if_pos rfl, hb]; simp
    · rw [if_neg h]
      cases getF fs a with
      | some f => rfl
      | none => exact if_neg (fun e => h e.symm)
end L2.My
end
section
set_option Elab.async false
set_option linter.all false
set_option maxRecDepth 100000
set_option autoImplicit false
/-! P12: a paid mark. -/
namespace L2.My
open PySem PySem.Spec PyProof.Rows
theorem getD_set {α : Type} {l : List α} {b : Nat} (hb : b < l.length) (v d : α) (a : Nat) : (l.set b v).getD a d = if a = b then v else l.getD a d := by
  rw [List.getD_eq_getElem?_getD]
  by_cases e : a = b
  · subst e
    rw [List.getElem?_set_self hb, if_pos rfl]
    rfl
  · rw [List.getElem?_set_ne (fun z => e z.symm), if_neg e, List.getD_eq_getElem?_getD]
theorem mem_paid {m : Mp} {ph t : Int} {k k' : Wk} {mk : Mark} (h : Mem m ph t k mk) {b : Nat} (hb : b < m.areas.length) (hc : canPay m t b mk = true) (hf : k'.firsts = ptF k.firsts b ((getF k.firsts b).getD t)) (hd : ∀ d, d ∈ k'.days ↔ d ∈ k.days ∨ d = (b, dayL m b ph t)) : Mem m ph t k' (paidMark m t b mk) := by
  refine ⟨⟨by show (mk.1.set b _).length = _; rw [List.length_set]; exact h.ok.1, by show (mk.2.set b _).length = _; rw [List.length_set]; exact h.ok.2⟩, fun a ha => ?_, fun a ha => ?_⟩
  · show (mk.1.set b (paidLeft (outAt m b) t (mk.1.getD b none))).getD a none = _
    rw [getD_set (by rw [h.ok.1]; exact hb), hf, getF_ptF]
    by_cases e : a = b
    · subst e
      rw [if_pos rfl, if_pos rfl]
      have hl := h.left a ha
      have hm := may_can h ha
      rw [hc] at hm
      unfold mayL at hm
      cases ho : outAt m a with
      | none => rw [ho] at hm; cases hm
      | some o =>
        rw [ho] at hm hl
        simp only [eq_comm (a := true), Bool.and_eq_true, decide_eq_true_eq] at hm
        unfold leftF at hl ⊢
        dsimp only at hl ⊢
        rw [if_neg (by omega)] at hl ⊢
        cases hg : getF k.firsts a with
        | some f =>
          rw [hg] at hl
          dsimp only at hl
          rw [hl]
          rfl
        | none =>
          rw [hg] at hl
          dsimp only at hl
          rw [if_pos hm.1.2] at hl
          rw [hl]
          show some (min o (o - t)) = some (max 0 (min o (o - t) - (t - t)))
          congr 1
          omega
    · rw [if_neg e, if_neg e]
      exact h.left a ha
  · show (mk.2.set b true).getD a false = _
    rw [getD_set (by rw [h.ok.2]; exact hb)]
    have h3 := h.day a ha
    by_cases e : a = b
    · subst e
      rw [if_pos rfl]
      exact (decide_eq_true ((hd _).mpr (.inr rfl))).symm
    · rw [if_neg e, h3, Bool.eq_iff_iff, decide_eq_true_iff, decide_eq_true_iff, hd]
      exact ⟨.inl, fun z => z.resolve_right fun z => e (congrArg Prod.fst z)⟩
end L2.My
end
section
set_option Elab.async false
set_option linter.all false
set_option maxRecDepth 100000
set_option autoImplicit false
/-! P13: a step of a walk against a step of a node. -/
namespace L2.My
open PySem PySem.Spec PyProof.Rows
/-- the walk's memory fits the node's mark, and no day lies ahead -/
structure Fit (m : Mp) (k : Wk) (mk : Mark) : Prop where
  mem : Mem m k.ph k.tm k mk
  late : ∀ d ∈ k.days, d.2 ≤ dayL m d.1 k.ph k.tm
theorem fit_stay {m : Mp} (hm : MpOk m) {k : Wk} {mk : Mark} (h : Fit m k mk) (p : Str) : Fit m (onW m k p false) (movedMark m k.ph k.tm mk) :=
  ⟨mem_stay hm h.mem h.late p, fun d hd => Int.le_trans (h.late d hd) (dayL_mono hm _ _ _)⟩
theorem fit_pay {m : Mp} (hm : MpOk m) {k : Wk} {mk : Mark} (h : Fit m k mk) {p : Str} (hp : p ∈ m.areas.flatten) (hc : canPay m k.tm (areaOf m.areas p) mk = true) : Fit m (onW m k p true) (movedMark m k.ph k.tm (paidMark m k.tm (areaOf m.areas p) mk)) := by
  have hb := areaOf_lt hp
  have hdd : ∀ d, d ∈ (onW m k p true).days ↔ d ∈ k.days ∨ d = (areaOf m.areas p, dayL m (areaOf m.areas p) k.ph k.tm) := by
    intro d
    show d ∈ (if _ ∈ k.days then k.days else k.days ++ _) ↔ _
    split
    · next hi =>
      exact ⟨.inl, fun z => z.elim id fun z => z ▸ hi⟩
    · rw [List.mem_append, List.mem_singleton]
  have h1 : Mem m k.ph k.tm ⟨k.ph, k.tm, [], (onW m k p true).firsts, (onW m k p true).days⟩ (paidMark m k.tm (areaOf m.areas p) mk) := mem_paid h.mem hb hc rfl hdd
  have hl : ∀ d ∈ (onW m k p true).days, d.2 ≤ dayL m d.1 k.ph k.tm := by
    intro d hd
    rcases (hdd d).mp hd with hd | rfl
    · exact h.late d hd
    · exact Int.le_refl _
  have h2 := mem_stay hm h1 hl p
  exact ⟨⟨h2.ok, h2.left, h2.day⟩, fun d hd => Int.le_trans (hl d hd) (dayL_mono hm _ _ _)⟩
end L2.My
end
section
set_option Elab.async false
set_option linter.all false
set_option maxRecDepth 100000
set_option autoImplicit false
/-! P14: how a sum grows. -/
namespace L2.My
open PySem PySem.Spec PyProof.Rows
theorem cntL_on {m : Mp} {k : Wk} {p : Str} (a : Nat) : cntL (onW m k p true) a = cntL k a + (if a = areaOf m.areas p ∧ (areaOf m.areas p, dayL m (areaOf m.areas p) k.ph k.tm) ∉ k.days then 1 else 0) := by
  unfold cntL
  show (((List.filter _ (if _ ∈ k.days then k.days else k.days ++ _)).length : Nat) : Int) = _
  split
  · next hi =>
    rw [if_neg (fun z => z.2 hi)]
    omega
  · next hi =>
    rw [List.filter_append, List.length_append]
    by_cases e : a = areaOf m.areas p
    · rw [if_pos ⟨e, hi⟩, List.filter_cons_of_pos (by simp [e])]
      simp
    · rw [if_neg (fun z => e z.1), List.filter_cons_of_neg (by simp; omega)]
      simp
end L2.My
end
section
set_option Elab.async false
set_option linter.all false
set_option maxRecDepth 100000
set_option autoImplicit false
/-! P15: the sum of a walk as a sum over areas. -/
namespace L2.My
open PySem PySem.Spec PyProof.Rows
def sumR (f : Nat → Int) : Nat → Int
  | 0 => 0
  | n + 1 => sumR f n + f n
theorem sumR_range (f : Nat → Int) : ∀ n, ((List.range n).map f).sum = sumR f n
  | 0 => rfl
  | n + 1 => by
    rw [List.range_succ, List.map_append, List.sum_append, sumR_range f n]
    simp [sumR]
theorem sumR_congr {f g : Nat → Int} : ∀ n, (∀ a < n, f a = g a) → sumR f n = sumR g n
  | 0, _ => rfl
  | n + 1, h => by
    rw [sumR, sumR, sumR_congr n fun a ha => h a (by omega), h n (by omega)]
theorem sumR_add (f : Nat → Int) (b : Nat) (v : Int) : ∀ n, sumR (fun a => f a + if a = b then v else 0) n = sumR f n + if b < n then v else 0
  | 0 => by simp [sumR]
  | n + 1 => by
    rw [sumR, sumR, sumR_add f b v n]
    by_cases h : n = b
    · subst h
      rw [if_pos rfl, if_neg (by omega), if_pos (by omega)]
      omega
    · rw [if_neg h]
      by_cases h2 : b < n
      · rw [if_pos h2, if_pos (by omega)]; omega
      · rw [if_neg h2, if_neg (by omega)]; omega
theorem sumW_sumR {m : Mp} {ls : List Int} (hl : ls.length = m.areas.length) (k : Wk) : sumW m ls k = sumR (fun a => cntL k a * limAt ls a) m.areas.length := by
  rw [← sumR_range]
  unfold sumW countL
  congr 1
  apply List.ext_getElem
  · simp [hl]
  · intro i h1 h2
    simp only [List.length_map, List.length_zip, List.length_range] at h1 h2
    rw [List.getElem_map, List.getElem_zip, List.getElem_map, List.getElem_map, List.getElem_range]
    unfold limAt
    rw [getD_eq_getElem' (by omega)]
end L2.My
end
section
set_option Elab.async false
set_option linter.all false
set_option maxRecDepth 100000
set_option autoImplicit false
/-! P16: a paid step adds the units of the stop. -/
namespace L2.My
open PySem PySem.Spec PyProof.Rows
theorem sumW_pay {m : Mp} {ls : List Int} (hl : ls.length = m.areas.length) {k : Wk} {mk : Mark} (h : Fit m k mk) {p : Str} (hp : p ∈ m.areas.flatten) : sumW m ls (onW m k p true) = sumW m ls k + (if mk.2.getD (areaOf m.areas p) false = true then 0 else limAt ls (areaOf m.areas p)) := by
  have hb := areaOf_lt hp
  rw [sumW_sumR hl, sumW_sumR hl, h.mem.day _ hb]
  by_cases hd : (areaOf m.areas p, dayL m (areaOf m.areas p) k.ph k.tm) ∈ k.days
  · rw [if_pos (decide_eq_true hd), Int.add_zero]
    refine sumR_congr _ fun a _ => ?_
    rw [cntL_on, if_neg (fun z => z.2 hd), Int.add_zero]
  · rw [if_neg (by simp [hd])]
    have e := sumR_add (fun a => cntL k a * limAt ls a) (areaOf m.areas p) (limAt ls (areaOf m.areas p)) m.areas.length
    rw [if_pos hb] at e
    rw [← e]
    refine sumR_congr _ fun a _ => ?_
    show cntL (onW m k p true) a * limAt ls a = _
    rw [cntL_on]
    by_cases ea : a = areaOf m.areas p
    · rw [if_pos ⟨ea, hd⟩, if_pos ea, Int.add_mul, Int.one_mul, ← ea]
    · rw [if_neg (fun z => ea z.1), if_neg ea, Int.add_zero, Int.add_zero]
theorem sumW_stay {m : Mp} {ls : List Int} (k : Wk) (p : Str) : sumW m ls (onW m k p false) = sumW m ls k := rfl
end L2.My
end
section
set_option Elab.async false
set_option linter.all false
set_option maxRecDepth 100000
set_option autoImplicit false
/-! P17: walks from the front. -/
namespace L2.My
open PySem PySem.Spec PyProof.Rows
def stepW (m : Mp) (k : Wk) (p : Str) : List Wk := onW m k p false :: (if mayL m k.firsts (areaOf m.areas p) k.tm = true then [onW m k p true] else [])
def endW (m : Mp) : Nat → Str → Wk → List Wk
  | 0, _, k => [k]
  | r + 1, p, k => (stepW m k p).flatMap fun k' => (nearL m p).flatMap fun o => endW m r o k'
theorem stepW_last {m : Mp} {k j : Wk} {p : Str} (h : j ∈ stepW m k p) : lastP j = some p := by
  rcases List.mem_cons.mp h with rfl | h
  · show ((k.stops ++ [(p, false)]).getLast?).map _ = _
    simp
  · split at h
    · rw [List.mem_singleton.mp h]
      show ((k.stops ++ [(p, true)]).getLast?).map _ = _
      simp
    · cases h
theorem next_step {m : Mp} {k y : Wk} : y ∈ nextW m k ↔ ∃ p ∈ nearW m k, y ∈ stepW m k p := List.mem_flatMap
def goW (m : Mp) : Nat → Wk → List Wk
  | 0, k => [k]
  | r + 1, k => (nextW m k).flatMap (goW m r)
theorem nearW_mem {m : Mp} {k : Wk} {p : Str} (h : p ∈ nearW m k) : p ∈ m.areas.flatten := by
  unfold nearW at h
  split at h
  · exact h
  · exact (List.mem_filter.mp h).1
theorem nearW_step {m : Mp} {k j : Wk} {p : Str} (h : j ∈ stepW m k p) : nearW m j = nearL m p := by
  unfold nearW
  rw [stepW_last h, near_nexts]
theorem go_end {m : Mp} : ∀ (r : Nat) (y : Wk) (k : Wk), y ∈ goW m (r + 1) k ↔ ∃ p ∈ nearW m k, y ∈ endW m (r + 1) p k
  | 0, y, k => by
    constructor
    · intro h
      obtain ⟨j, hj, hy⟩ := List.mem_flatMap.mp h
      obtain ⟨p, hp, hj⟩ := next_step.mp hj
      exact ⟨p, hp, List.mem_flatMap.mpr ⟨j, hj, List.mem_flatMap.mpr ⟨p, nearL_self (nearW_mem hp), hy⟩⟩⟩
    · rintro ⟨p, hp, h⟩
      obtain ⟨j, hj, h⟩ := List.mem_flatMap.mp h
      obtain ⟨o, ho, hy⟩ := List.mem_flatMap.mp h
      exact List.mem_flatMap.mpr ⟨j, next_step.mpr ⟨p, hp, hj⟩, hy⟩
  | r + 1, y, k => by
    constructor
    · intro h
      obtain ⟨j, hj, hy⟩ := List.mem_flatMap.mp h
      obtain ⟨p, hp, hj⟩ := next_step.mp hj
      obtain ⟨o, ho, hy⟩ := (go_end r y j).mp hy
      rw [nearW_step hj] at ho
      exact ⟨p, hp, List.mem_flatMap.mpr ⟨j, hj, List.mem_flatMap.mpr ⟨o, ho, hy⟩⟩⟩
    · rintro ⟨p, hp, h⟩
      obtain ⟨j, hj, h⟩ := List.mem_flatMap.mp h
      obtain ⟨o, ho, hy⟩ := List.mem_flatMap.mp h
      exact List.mem_flatMap.mpr ⟨j, next_step.mpr ⟨p, hp, hj⟩, (go_end r y j).mpr ⟨o, by rw [nearW_step hj]; exact ho, hy⟩⟩
end L2.My
end
section
set_option Elab.async false
set_option linter.all false
set_option maxRecDepth 100000
set_option autoImplicit false
/-! P18: levels are walks from the front. -/
namespace L2.My
open PySem PySem.Spec PyProof.Rows
theorem go_snoc {m : Mp} : ∀ (r : Nat) (k : Wk), goW m (r + 1) k = (goW m r k).flatMap (nextW m)
  | 0, k => by
    show (nextW m k).flatMap (goW m 0) = [k].flatMap (nextW m)
    rw [List.flatMap_singleton]
    show (nextW m k).flatMap (fun j => [j]) = _
    exact List.flatMap_singleton' _
  | r + 1, k => by
    show (nextW m k).flatMap (goW m (r + 1)) = ((nextW m k).flatMap (goW m r)).flatMap (nextW m)
    rw [List.flatMap_assoc]
    exact congrArg (fun f => List.flatMap f (nextW m k)) (funext fun j => go_snoc r j)
theorem lev_go {m : Mp} {ph : Int} : ∀ r, levW m ph r = goW m r (wk0 m ph)
  | 0 => rfl
  | r + 1 => by
    show (levW m ph r).flatMap (nextW m) = _
    rw [lev_go r, go_snoc]
end L2.My
end
section
set_option Elab.async false
set_option linter.all false
set_option maxRecDepth 100000
set_option autoImplicit false
/-! P19: the height of a node is the best of the walks. -/
namespace L2.My
open PySem PySem.Spec PyProof.Rows
theorem val_up {m : Mp} {ls : List Int} (hm : MpOk m) (hl : ls.length = m.areas.length) : ∀ (r : Nat) (k : Wk) (mk : Mark) (p : Str) (y : Wk), Fit m k mk → p ∈ m.areas.flatten → y ∈ endW m r p k → sumW m ls y ≤ sumW m ls k + val m ls r (k.ph, k.tm, p, mk)
  | 0, k, mk, p, y, _, _, hy => by
    rw [List.mem_singleton.mp hy]
    show _ ≤ sumW m ls k + 0
    omega
  | r + 1, k, mk, p, y, hf, hp, hy => by
    obtain ⟨j, hj, hy⟩ := List.mem_flatMap.mp hy
    obtain ⟨o, ho, hy⟩ := List.mem_flatMap.mp hy
    have hop : o ∈ m.areas.flatten := (List.mem_filter.mp ho).1
    have hb := areaOf_lt hp
    have ge : ∀ st ∈ stops m ls (k.ph, k.tm, p, mk), st.2.1 + val m ls r st.2.2 ≤ val m ls (r + 1) (k.ph, k.tm, p, mk) := by
      intro st hst
      have hmem : st.2.1 + val m ls r st.2.2 ∈ (stops m ls (k.ph, k.tm, p, mk)).map fun st => st.2.1 + val m ls r st.2.2 := List.mem_map.mpr ⟨st, hst, rfl⟩
      have hM := maxL_max (ns := (stops m ls (k.ph, k.tm, p, mk)).map fun st => st.2.1 + val m ls r st.2.2) (List.ne_nil_of_mem hmem)
      exact hM.2 _ hmem
    rcases List.mem_cons.mp hj with rfl | hj
    · have h1 := val_up hm hl r _ _ o y (fit_stay hm hf p) hop hy
      have h2 := ge (false, 0, (k.ph, k.tm + 1, o, movedMark m k.ph k.tm mk)) (List.mem_flatMap.mpr ⟨(false, 0, mk), List.mem_cons_self, List.mem_map.mpr ⟨o, ho, rfl⟩⟩)
      rw [sumW_stay] at h1
      have h1 : sumW m ls y ≤ sumW m ls k + val m ls r (k.ph, k.tm + 1, o, movedMark m k.ph k.tm mk) := h1
      dsimp only at h2
      omega
    · split at hj
      · next hc =>
        rw [List.mem_singleton.mp hj] at hy
        have hcan : canPay m k.tm (areaOf m.areas p) mk = true := (may_can hf.mem hb).trans hc
        have h1 := val_up hm hl r _ _ o y (fit_pay hm hf hp hcan) hop hy
        rw [sumW_pay hl hf hp] at h1
        have h2 := ge (true, (if mk.2.getD (areaOf m.areas p) false = true then 0 else limAt ls (areaOf m.areas p)), (k.ph, k.tm + 1, o, movedMark m k.ph k.tm (paidMark m k.tm (areaOf m.areas p) mk))) (List.mem_flatMap.mpr ⟨(true, (if mk.2.getD (areaOf m.areas p) false = true then 0 else limAt ls (areaOf m.areas p)), paidMark m k.tm (areaOf m.areas p) mk), List.mem_cons_of_mem _ (by rw [if_pos hcan]; exact List.mem_cons_self), List.mem_map.mpr ⟨o, ho, rfl⟩⟩)
        have h1 : sumW m ls y ≤ sumW m ls k + (if mk.2.getD (areaOf m.areas p) false = true then 0 else limAt ls (areaOf m.areas p)) + val m ls r (k.ph, k.tm + 1, o, movedMark m k.ph k.tm (paidMark m k.tm (areaOf m.areas p) mk)) := h1
        dsimp only at h2
        omega
      · cases hj
end L2.My
end
section
set_option Elab.async false
set_option linter.all false
set_option maxRecDepth 100000
set_option autoImplicit false
/-! P20: some walk reaches the height. -/
namespace L2.My
open PySem PySem.Spec PyProof.Rows
theorem val_down {m : Mp} {ls : List Int} (hm : MpOk m) (hl : ls.length = m.areas.length) : ∀ (r : Nat) (k : Wk) (mk : Mark) (p : Str), Fit m k mk → p ∈ m.areas.flatten → ∃ y ∈ endW m r p k, sumW m ls y = sumW m ls k + val m ls r (k.ph, k.tm, p, mk)
  | 0, k, mk, p, _, _ => ⟨k, List.mem_cons_self, by show _ = sumW m ls k + 0; omega⟩
  | r + 1, k, mk, p, hf, hp => by
    have hb := areaOf_lt hp
    have hne : (stops m ls (k.ph, k.tm, p, mk)).map (fun st => st.2.1 + val m ls r st.2.2) ≠ [] := by
      intro e
      exact stops_ne (n := (k.ph, k.tm, p, mk)) ⟨hp, hf.mem.ok⟩ (List.map_eq_nil_iff.mp e)
    have hM := maxL_max hne
    obtain ⟨st, hst, e⟩ := List.mem_map.mp hM.1
    have ev : val m ls (r + 1) (k.ph, k.tm, p, mk) = st.2.1 + val m ls r st.2.2 := e.symm
    rw [ev]
    obtain ⟨w, hw, hz⟩ := List.mem_flatMap.mp hst
    obtain ⟨o, ho, rfl⟩ := List.mem_map.mp hz
    have hop : o ∈ m.areas.flatten := (List.mem_filter.mp ho).1
    rcases List.mem_cons.mp hw with rfl | hw
    · obtain ⟨y, hy, h1⟩ := val_down hm hl r _ _ o (fit_stay hm hf p) hop
      refine ⟨y, List.mem_flatMap.mpr ⟨_, List.mem_cons_self, List.mem_flatMap.mpr ⟨o, ho, hy⟩⟩, ?_⟩
      rw [h1, sumW_stay]
      show _ = sumW m ls k + (0 + val m ls r (k.ph, k.tm + 1, o, movedMark m k.ph k.tm mk))
      rw [Int.zero_add]
      rfl
    · split at hw
      · next hcan =>
        have hc : mayL m k.firsts (areaOf m.areas p) k.tm = true := (may_can hf.mem hb).symm.trans hcan
        rw [List.mem_singleton.mp hw]
        obtain ⟨y, hy, h1⟩ := val_down hm hl r _ _ o (fit_pay hm hf hp hcan) hop
        refine ⟨y, List.mem_flatMap.mpr ⟨_, List.mem_cons_of_mem _ (by rw [if_pos hc]; exact List.mem_cons_self), List.mem_flatMap.mpr ⟨o, ho, hy⟩⟩, ?_⟩
        rw [h1, sumW_pay hl hf hp, Int.add_assoc]
        rfl
      · cases hw
end L2.My
end
section
set_option Elab.async false
set_option linter.all false
set_option maxRecDepth 100000
set_option autoImplicit false
/-! P21: the most is the greatest sum of the walks. -/
namespace L2.My
open PySem PySem.Spec PyProof.Rows
theorem outs_nn {m : Mp} (hm : MpOk m) {o : Option Int} {i : Int} (h : o ∈ m.outs) (e : o = some i) : 0 ≤ i := by
  have hk := hm.outs.2 o h
  subst e
  unfold oOk at hk
  simp at hk
  omega
theorem last_eq {m : Mp} (hm : MpOk m) : lawLast m = lastT m.outs := lawLast_eq fun o ho i e => outs_nn hm ho e
theorem last_ge {m : Mp} (hm : MpOk m) {o : Option Int} {i : Int} (h : o ∈ m.outs) (e : o = some i) : i ≤ lastT m.outs := by
  unfold lastT
  rw [maxL_mx fun x hx => by
    obtain ⟨o, ho, e⟩ := List.mem_filterMap.mp hx
    exact outs_nn hm ho e]
  exact mx_ge (List.mem_filterMap.mpr ⟨o, h, e⟩)
theorem last_nn {m : Mp} (hm : MpOk m) : 0 ≤ lastT m.outs := by
  rw [← last_eq hm]
  unfold lawLast
  rw [maxO_fold]
  exact mx_nonneg _
end L2.My
end
section
set_option Elab.async false
set_option linter.all false
set_option maxRecDepth 100000
set_option autoImplicit false
/-! P22: the first mark fits the first walk. -/
namespace L2.My
open PySem PySem.Spec PyProof.Rows
theorem fit_first {m : Mp} (hm : MpOk m) (ph : Int) : Fit m (wk0 m ph) (firstMark m) := by
  unfold wk0
  rw [last_eq hm]
  refine ⟨mem_first hm fun a ha o ho h0 => ?_, fun d hd => by cases hd⟩
  have := last_nn hm
  omega
theorem sumR_zero {f : Nat → Int} : ∀ n, (∀ a < n, f a = 0) → sumR f n = 0
  | 0, _ => rfl
  | n + 1, h => by rw [sumR, sumR_zero n fun a ha => h a (by omega), h n (by omega)]; rfl
theorem sumW_first {m : Mp} {ls : List Int} (hl : ls.length = m.areas.length) (ph : Int) : sumW m ls (wk0 m ph) = 0 := by
  rw [sumW_sumR hl]
  refine sumR_zero _ fun a _ => ?_
  show (0 : Int) * _ = 0
  omega
end L2.My
end
section
set_option Elab.async false
set_option linter.all false
set_option maxRecDepth 100000
set_option autoImplicit false
/-! P23: the most of a map. -/
namespace L2.My
open PySem PySem.Spec PyProof.Rows
theorem top_le {m : Mp} {ls : List Int} (hm : MpOk m) (hl : ls.length = m.areas.length) {y : Wk} (hy : y ∈ allW m) : sumW m ls y = 0 ∨ ∃ n ∈ firstNodes m, sumW m ls y ≤ hgt m ls n := by
  obtain ⟨ph, hph, hy⟩ := List.mem_flatMap.mp hy
  rw [lev_go] at hy
  cases e : (2 * lawLast m).toNat with
  | zero =>
    rw [e] at hy
    rw [List.mem_singleton.mp hy]
    exact .inl (sumW_first hl _)
  | succ r =>
    rw [e] at hy
    obtain ⟨p, hp, hy⟩ := (go_end r y _).mp hy
    have h := val_up hm hl (r + 1) _ _ p y (fit_first hm ph) (nearW_mem hp) hy
    rw [sumW_first hl, Int.zero_add] at h
    refine .inr ⟨((ph : Nat), -lastT m.outs, p, firstMark m), List.mem_flatMap.mpr ⟨ph, hph, List.mem_map.mpr ⟨p, nearW_mem hp, rfl⟩⟩, ?_⟩
    unfold hgt
    rw [last_eq hm] at e
    rw [show (lastT m.outs - -lastT m.outs).toNat = r + 1 by omega]
    rw [show -lastT m.outs = (wk0 m ph).tm from by rw [← last_eq hm]; rfl]
    exact h
end L2.My
end
section
set_option Elab.async false
set_option linter.all false
set_option maxRecDepth 100000
set_option autoImplicit false
/-! P24: the most is the greatest sum. -/
namespace L2.My
open PySem PySem.Spec PyProof.Rows
theorem first_walk {m : Mp} {ls : List Int} (hm : MpOk m) (hl : ls.length = m.areas.length) {n : Node} (hn : n ∈ firstNodes m) : ∃ y ∈ allW m, sumW m ls y = hgt m ls n := by
  obtain ⟨ph, hph, hn⟩ := List.mem_flatMap.mp hn
  obtain ⟨p, hp, rfl⟩ := List.mem_map.mp hn
  obtain ⟨y, hy, h⟩ := val_down hm hl (2 * lawLast m).toNat (wk0 m (ph : Nat)) (firstMark m) p (fit_first hm _) hp
  refine ⟨y, List.mem_flatMap.mpr ⟨ph, hph, ?_⟩, ?_⟩
  · rw [lev_go]
    cases e : (2 * lawLast m).toNat with
    | zero =>
      rw [e] at hy
      exact hy
    | succ r =>
      rw [e] at hy
      exact (go_end r y _).mpr ⟨p, hp, hy⟩
  · rw [h, sumW_first hl, Int.zero_add]
    unfold hgt
    rw [last_eq hm]
    rw [show (lastT m.outs - ((ph : Nat), -lastT m.outs, p, firstMark m).2.1).toNat = (2 * lastT m.outs).toNat by show (lastT m.outs - -lastT m.outs).toNat = _; omega]
    rw [show -lastT m.outs = (wk0 m ph).tm from by rw [← last_eq hm]; rfl]
    rfl
theorem sumR_nn {f : Nat → Int} : ∀ n, (∀ a < n, 0 ≤ f a) → 0 ≤ sumR f n
  | 0, _ => Int.le_refl _
  | n + 1, h => by
    have h1 := sumR_nn n fun a ha => h a (by omega)
    have h2 := h n (by omega)
    rw [sumR]
    omega
theorem limAt_nn {ls : List Int} (hp : ∀ l ∈ ls, 0 ≤ l) (a : Nat) : 0 ≤ limAt ls a := by
  unfold limAt
  rw [List.getD_eq_getElem?_getD]
  cases e : ls[a]? with
  | none => exact Int.le_refl _
  | some x => exact hp x (List.mem_of_getElem? e)
theorem sumW_nn {m : Mp} {ls : List Int} (hl : ls.length = m.areas.length) (hp : ∀ l ∈ ls, 0 ≤ l) (k : Wk) : 0 ≤ sumW m ls k := by
  rw [sumW_sumR hl]
  refine sumR_nn _ fun a _ => Int.mul_nonneg ?_ (limAt_nn hp a)
  unfold cntL
  omega
theorem most_top {m : Mp} {ls : List Int} (hm : MpOk m) (hl : ls.length = m.areas.length) (hp : ∀ l ∈ ls, 0 ≤ l) : maxL ((firstNodes m).map (hgt m ls)) = topW m ls := by
  have hne : (firstNodes m).map (hgt m ls) ≠ [] := fun e => firstNodes_ne hm (List.map_eq_nil_iff.mp e)
  obtain ⟨h1, h2⟩ := maxL_max hne
  apply Int.le_antisymm
  · obtain ⟨n, hn, e⟩ := List.mem_map.mp h1
    obtain ⟨y, hy, h⟩ := first_walk hm hl hn
    rw [← e, ← h]
    exact mx_ge (List.mem_map.mpr ⟨y, hy, rfl⟩)
  · have h0 : 0 ≤ maxL ((firstNodes m).map (hgt m ls)) := by
      obtain ⟨n, hn, e⟩ := List.mem_map.mp h1
      obtain ⟨y, hy, h⟩ := first_walk hm hl hn
      rw [← e, ← h]
      exact sumW_nn hl hp y
    refine mx_le h0 fun x hx => ?_
    obtain ⟨y, hy, rfl⟩ := List.mem_map.mp hx
    rcases top_le hm hl hy with e | ⟨n, hn, h⟩
    · rw [e]; exact h0
    · exact Int.le_trans h (h2 _ (List.mem_map.mpr ⟨n, hn, rfl⟩))
/-- the law's answer -/
def endlessL (m : Mp) (ls : List Int) : Bool := (List.range ls.length).any fun a => isNo (outAt m a) && decide (0 < limAt ls a)
def topS (m : Mp) (ls : List Int) : Int := if endlessL m ls = true then 10 ^ 6 else topW m ls
theorem area_some {as : List (List Str)} (hne : ∀ a ∈ as, a ≠ []) (hnd : as.flatten.Nodup) {a : Nat} (ha : a < as.length) : ∃ p ∈ as.flatten, areaOf as p = a := by
  have h1 : as[a] ≠ [] := hne _ (List.getElem_mem ha)
  obtain ⟨p, hp⟩ := List.exists_mem_of_ne_nil _ h1
  refine ⟨p, List.mem_flatten.mpr ⟨_, List.getElem_mem ha, hp⟩, ?_⟩
  have hlt := areaOf_lt (as := as) (p := p) (List.mem_flatten.mpr ⟨_, List.getElem_mem ha, hp⟩)
  have hin : p ∈ as[areaOf as p] := by
    have := List.findIdx_getElem (p := fun a => decide (p ∈ a)) (xs := as) (w := hlt)
    exact of_decide_eq_true this
  by_cases e : areaOf as p = a
  · exact e
  · exfalso
    have hpw := (List.pairwise_flatten.mp hnd).2
    rw [List.pairwise_iff_getElem] at hpw
    rcases Nat.lt_or_gt_of_ne e with hh | hh
    · exact hpw _ _ hlt ha hh p hin p hp rfl
    · exact hpw _ _ ha hlt hh p hp p hin rfl
theorem endless_iff {m : Mp} {ls : List Int} (hm : MpOk m) (hl : ls.length = m.areas.length) : (endless m ls).isSome = endlessL m ls := by
  rw [Bool.eq_iff_iff]
  unfold endless endlessL
  rw [List.find?_isSome, List.any_eq_true]
  constructor
  · rintro ⟨p, hp, h⟩
    exact ⟨_, List.mem_range.mpr (by rw [hl]; exact areaOf_lt hp), h⟩
  · rintro ⟨a, ha, h⟩
    obtain ⟨p, hp, rfl⟩ := area_some (fun a ha => (hm.areas.2.1 a ha).1) hm.areas.2.2.1 (by rw [← hl]; exact List.mem_range.mp ha)
    exact ⟨p, hp, h⟩
theorem keeps_top {m : Mp} {ls : List Int} {wish : Int} (hm : MpOk m) (hl : ls.length = m.areas.length) (hp : ∀ l ∈ ls, 0 ≤ l) (hw : wish < 10 ^ 6) : keeps m ls wish = decide (topS m ls ≤ wish) := by
  have h := endless_iff hm hl
  unfold keeps mostBy topS
  rw [← h]
  cases e : endless m ls with
  | some s =>
    have e2 : (if (some s).isSome = true then (10 : Int) ^ 6 else topW m ls) = 10 ^ 6 := if_pos rfl
    rw [e2]
    exact (decide_eq_false (by omega)).symm
  | none =>
    rw [if_neg (by simp)]
    show decide (maxL _ ≤ wish) = _
    rw [most_top hm hl hp]
end L2.My
end
section
set_option Elab.async false
set_option linter.all false
set_option maxRecDepth 100000
set_option autoImplicit false
/-! P25: a longer outage lets no less be paid. -/
namespace L2.My
open PySem PySem.Spec PyProof.Rows
theorem on_sim0 {m : Mp} {k j : Wk} (h1 : k.ph = j.ph) (h2 : k.tm = j.tm) (h3 : k.firsts = j.firsts) (h4 : k.days.Perm j.days) (p : Str) (b : Bool) : Sim (onW m k p b) (onW m j p b) := by
  cases b with
  | false =>
    refine ⟨h1, ?_, ?_, h3, h4⟩
    · show k.tm + 1 = j.tm + 1
      rw [h2]
    · show ((k.stops ++ [(p, false)]).getLast?).map _ = ((j.stops ++ [(p, false)]).getLast?).map _
      simp
  | true =>
    refine ⟨h1, ?_, ?_, ?_, ?_⟩
    · show k.tm + 1 = j.tm + 1
      rw [h2]
    · show ((k.stops ++ [(p, true)]).getLast?).map _ = ((j.stops ++ [(p, true)]).getLast?).map _
      simp
    · show ptF k.firsts _ ((getF k.firsts _).getD k.tm) = ptF j.firsts _ ((getF j.firsts _).getD j.tm)
      rw [h3, h2]
    · show (if _ ∈ k.days then k.days else k.days ++ _).Perm (if _ ∈ j.days then j.days else j.days ++ _)
      rw [h1, h2]
      by_cases hd : (areaOf m.areas p, dayL m (areaOf m.areas p) j.ph j.tm) ∈ j.days
      · rw [if_pos hd, if_pos (h4.mem_iff.mpr hd)]
        exact h4
      · rw [if_neg hd, if_neg (fun z => hd (h4.mem_iff.mp z))]
        exact h4.append_right _
theorem go_sim {m : Mp} : ∀ (r : Nat) {k j y : Wk}, Sim k j → y ∈ goW m r k → ∃ z ∈ goW m r j, Sim y z
  | 0, k, j, y, h, hy => by
    rw [List.mem_singleton.mp hy]
    exact ⟨j, List.mem_cons_self, h⟩
  | r + 1, k, j, y, h, hy => by
    obtain ⟨k1, hk1, hy⟩ := List.mem_flatMap.mp hy
    obtain ⟨j1, hj1, h1⟩ := next_sim h hk1
    obtain ⟨z, hz, h2⟩ := go_sim r h1 hy
    exact ⟨z, List.mem_flatMap.mpr ⟨j1, hj1, hz⟩, h2⟩
theorem go_append {m : Mp} : ∀ (a b : Nat) {k y z : Wk}, y ∈ goW m a k → z ∈ goW m b y → z ∈ goW m (a + b) k
  | 0, b, k, y, z, hy, hz => by
    rw [List.mem_singleton.mp hy] at hz
    rw [Nat.zero_add]
    exact hz
  | a + 1, b, k, y, z, hy, hz => by
    obtain ⟨k1, hk1, hy⟩ := List.mem_flatMap.mp hy
    rw [show a + 1 + b = (a + b) + 1 by omega]
    exact List.mem_flatMap.mpr ⟨k1, hk1, go_append a b hy hz⟩
/-- standing still, unpaid -/
def padW (m : Mp) (p : Str) : Nat → Wk → Wk
  | 0, k => k
  | d + 1, k => padW m p d (onW m k p false)
theorem pad_facts {m : Mp} {p : Str} : ∀ (d : Nat) (k : Wk), (padW m p d k).ph = k.ph ∧ (padW m p d k).tm = k.tm + d ∧ (padW m p d k).firsts = k.firsts ∧ (padW m p d k).days = k.days
  | 0, k => ⟨rfl, by show k.tm = k.tm + (0 : Nat); omega, rfl, rfl⟩
  | d + 1, k => by
    obtain ⟨h1, h2, h3, h4⟩ := pad_facts (m := m) (p := p) d (onW m k p false)
    refine ⟨h1, ?_, h3, h4⟩
    have e : (onW m k p false).tm = k.tm + 1 := rfl
    show (padW m p d (onW m k p false)).tm = _
    rw [h2, e]
    omega
theorem last_on (m : Mp) (k : Wk) (p : Str) (b : Bool) : lastP (onW m k p b) = some p := by
  cases b
  · show ((k.stops ++ [(p, false)]).getLast?).map _ = _
    simp
  · show ((k.stops ++ [(p, true)]).getLast?).map _ = _
    simp
theorem pad_last {m : Mp} {p : Str} : ∀ (d : Nat) (k : Wk), lastP k = none ∨ lastP k = some p → lastP (padW m p d k) = none ∨ lastP (padW m p d k) = some p
  | 0, k, h => h
  | d + 1, k, h => pad_last d _ (.inr (last_on m k p false))
theorem near_self {m : Mp} {p : Str} (hp : p ∈ m.areas.flatten) {k : Wk} (h : lastP k = none ∨ lastP k = some p) : p ∈ nearW m k := by
  unfold nearW
  rcases h with h | h
  · rw [h]; exact hp
  · rw [h]
    show p ∈ nextsL m p
    rw [← near_nexts]; exact nearL_self hp
theorem pad_go {m : Mp} {p : Str} (hp : p ∈ m.areas.flatten) : ∀ (d : Nat) (k : Wk), lastP k = none ∨ lastP k = some p → padW m p d k ∈ goW m d k
  | 0, k, _ => List.mem_cons_self
  | d + 1, k, h => List.mem_flatMap.mpr ⟨_, next_step.mpr ⟨p, near_self hp h, List.mem_cons_self⟩, pad_go hp d _ (.inr (last_on m k p false))⟩
theorem go_last {m : Mp} : ∀ (r : Nat) {k y : Wk}, (∀ p, lastP k = some p → p ∈ m.areas.flatten) → y ∈ goW m r k → ∀ p, lastP y = some p → p ∈ m.areas.flatten
  | 0, k, y, h, hy => by
    rw [List.mem_singleton.mp hy]
    exact h
  | r + 1, k, y, h, hy => by
    obtain ⟨k1, hk1, hy⟩ := List.mem_flatMap.mp hy
    refine go_last r (fun p hp => ?_) hy
    obtain ⟨q, hq, hk1⟩ := next_step.mp hk1
    rw [stepW_last hk1] at hp
    cases hp
    exact nearW_mem hq
/-- two maps alike but for what may be paid -/
structure MoreM (m m' : Mp) : Prop where
  areas : m'.areas = m.areas
  near : ∀ k, nearW m' k = nearW m k
  on : ∀ k p b, onW m' k p b = onW m k p b
  may : ∀ fs a t, mayL m fs a t = true → mayL m' fs a t = true
theorem step_sub {m m' : Mp} (h : MoreM m m') {k j : Wk} {p : Str} (hj : j ∈ stepW m k p) : j ∈ stepW m' k p := by
  rcases List.mem_cons.mp hj with rfl | hj
  · rw [← h.on]
    exact List.mem_cons_self
  · split at hj
    · next hc =>
      rw [List.mem_singleton.mp hj, ← h.on]
      refine List.mem_cons_of_mem _ ?_
      rw [if_pos (by rw [h.areas]; exact h.may _ _ _ hc)]
      exact List.mem_cons_self
    · cases hj
theorem go_sub {m m' : Mp} (h : MoreM m m') : ∀ (r : Nat) {k y : Wk}, y ∈ goW m r k → y ∈ goW m' r k
  | 0, k, y, hy => hy
  | r + 1, k, y, hy => by
    obtain ⟨k1, hk1, hy⟩ := List.mem_flatMap.mp hy
    obtain ⟨p, hp, hk1⟩ := next_step.mp hk1
    exact List.mem_flatMap.mpr ⟨k1, next_step.mpr ⟨p, by rw [h.near]; exact hp, step_sub h hk1⟩, go_sub h r hy⟩
theorem count_days {m m' : Mp} (ha : m'.areas = m.areas) {k j : Wk} (hd : k.days.Perm j.days) (ls : List Int) : sumW m ls k = sumW m' ls j := by
  unfold sumW countL
  rw [ha]
  congr 3
  refine List.map_congr_left fun a _ => ?_
  unfold cntL
  rw [(hd.filter _).length_eq]
theorem top_more {m m' : Mp} (h : MoreM m m') (hlen : m'.len = m.len) (h0 : 0 ≤ lawLast m) (hle : lawLast m ≤ lawLast m') {ls : List Int} (hl : ls.length = m.areas.length) : topW m ls ≤ topW m' ls := by
  unfold topW
  refine mx_le (mx_nonneg _) fun x hx => ?_
  obtain ⟨y, hy, rfl⟩ := List.mem_map.mp hx
  obtain ⟨ph, hph, hy⟩ := List.mem_flatMap.mp hy
  rw [lev_go] at hy
  cases e : (2 * lawLast m).toNat with
  | zero =>
    rw [e] at hy
    rw [List.mem_singleton.mp hy, sumW_first hl]
    exact mx_nonneg _
  | succ r =>
    rw [e] at hy
    obtain ⟨j, hj, hy⟩ := List.mem_flatMap.mp hy
    obtain ⟨p, hp, hj⟩ := next_step.mp hj
    have hpf : p ∈ m'.areas.flatten := by rw [h.areas]; exact nearW_mem hp
    obtain ⟨d, hd⟩ : ∃ d : Nat, lawLast m' = lawLast m + d := ⟨(lawLast m' - lawLast m).toNat, by omega⟩
    obtain ⟨f1, f2, f3, f4⟩ := pad_facts (m := m') (p := p) d (wk0 m' (ph : Nat))
    have fl := pad_last (m := m') (p := p) d (wk0 m' (ph : Nat)) (.inl rfl)
    have hj2 := step_sub h hj
    have ht : (wk0 m (ph : Nat)).tm = (padW m' p d (wk0 m' (ph : Nat))).tm := by
      rw [f2]
      show -lawLast m = -lawLast m' + d
      omega
    have hph2 : (wk0 m (ph : Nat)).ph = (padW m' p d (wk0 m' (ph : Nat))).ph := f1.symm
    have hfi : (wk0 m (ph : Nat)).firsts = (padW m' p d (wk0 m' (ph : Nat))).firsts := f3.symm
    have hdy : (wk0 m (ph : Nat)).days.Perm (padW m' p d (wk0 m' (ph : Nat))).days := by rw [f4]; exact List.Perm.refl _
    obtain ⟨j', hj', hs⟩ : ∃ j' ∈ stepW m' (padW m' p d (wk0 m' (ph : Nat))) p, Sim j j' := by
      rcases List.mem_cons.mp hj2 with rfl | hj2
      · exact ⟨_, List.mem_cons_self, on_sim0 hph2 ht hfi hdy p false⟩
      · split at hj2
        · next hc =>
          rw [List.mem_singleton.mp hj2]
          refine ⟨_, List.mem_cons_of_mem _ ?_, on_sim0 hph2 ht hfi hdy p true⟩
          rw [if_pos (by rw [f3, ← ht]; exact hc)]
          exact List.mem_cons_self
        · cases hj2
    obtain ⟨z, hz, hs2⟩ := go_sim r hs (go_sub h r hy)
    have hlastj : ∀ q, lastP j' = some q → q ∈ m'.areas.flatten := fun q hq => by
      rw [stepW_last hj'] at hq
      cases hq
      exact hpf
    have hlast := go_last r hlastj hz
    have g1 := pad_go hpf d (wk0 m' (ph : Nat)) (.inl rfl)
    have g2 : z ∈ goW m' (r + 1) (padW m' p d (wk0 m' (ph : Nat))) := List.mem_flatMap.mpr ⟨j', next_step.mpr ⟨p, near_self hpf fl, hj'⟩, hz⟩
    have g3 := go_append d (r + 1) g1 g2
    obtain ⟨q, hq, hqz⟩ : ∃ q ∈ m'.areas.flatten, lastP z = none ∨ lastP z = some q := by
      cases eq : lastP z with
      | none => exact ⟨p, hpf, .inl rfl⟩
      | some q => exact ⟨q, hlast q eq, .inr rfl⟩
    have g4 := go_append _ d g3 (pad_go hq d z hqz)
    have e2 : d + (r + 1) + d = (2 * lawLast m').toNat := by omega
    rw [e2] at g4
    have hmem : padW m' q d z ∈ allW m' := List.mem_flatMap.mpr ⟨ph, by rw [hlen]; exact hph, by rw [lev_go]; exact g4⟩
    have hsum : sumW m ls y = sumW m' ls (padW m' q d z) := count_days h.areas (by rw [(pad_facts d z).2.2.2]; exact hs2.days) ls
    rw [hsum]
    exact mx_ge (List.mem_map.mpr ⟨_, hmem, rfl⟩)
/-! one area, one outage -/
theorem more_with {m : Mp} {o o' : Int} (h1 : m.outs.length = 1) (hle : o ≤ o') : MoreM (withOut m 0 (some o)) (withOut m 0 (some o')) := by
  refine ⟨rfl, fun k => rfl, fun k p b => rfl, fun fs a t h => ?_⟩
  have e : ∀ x : Int, (withOut m 0 (some x)).outs = [some x] := fun x => by
    show withoutL m.outs ((0 : Nat) : Int) (some x) (-1) = _
    rw [withoutL_all]
    cases ho : m.outs with
    | nil => rw [ho] at h1; cases h1
    | cons b r =>
      rw [ho] at h1
      cases r with
      | nil => rfl
      | cons _ _ => cases h1
  unfold mayL outAt at h ⊢
  rw [e] at h ⊢
  cases a with
  | succ n => cases h
  | zero =>
    change ((decide (0 - o ≤ t) && decide (t ≤ o - 1)) && (match getF fs 0 with | none => true | some f => decide (t - f < o))) = true at h
    show ((decide (0 - o' ≤ t) && decide (t ≤ o' - 1)) && (match getF fs 0 with | none => true | some f => decide (t - f < o'))) = true
    cases hf : getF fs 0 with
    | none =>
      rw [hf] at h
      dsimp only at h ⊢
      simp only [Bool.and_eq_true, decide_eq_true_eq, and_true] at h ⊢
      omega
    | some f =>
      rw [hf] at h
      dsimp only at h ⊢
      simp only [Bool.and_eq_true, decide_eq_true_eq, and_true] at h ⊢
      omega
theorem outs_with {m : Mp} (h1 : m.outs.length = 1) (x : Option Int) : (withOut m 0 x).outs = [x] := by
  show withoutL m.outs ((0 : Nat) : Int) x (-1) = _
  rw [withoutL_all]
  cases ho : m.outs with
  | nil => rw [ho] at h1; cases h1
  | cons b r =>
    rw [ho] at h1
    cases r with
    | nil => rfl
    | cons _ _ => cases h1
theorem last_with {m : Mp} (h1 : m.outs.length = 1) {o : Int} (h0 : 0 ≤ o) : lawLast (withOut m 0 (some o)) = o := by
  unfold lawLast
  rw [outs_with h1]
  show max 0 o = o
  omega
theorem top_mono {m : Mp} {ls : List Int} (h1 : m.outs.length = 1) (hl : ls.length = m.areas.length) (hl1 : ls.length = 1) {o o' : Int} (h0 : 0 ≤ o) (hle : o ≤ o') : topS (withOut m 0 (some o)) ls ≤ topS (withOut m 0 (some o')) ls := by
  have e : ∀ x : Int, endlessL (withOut m 0 (some x)) ls = false := fun x => by
    unfold endlessL outAt
    rw [outs_with h1, hl1]
    rfl
  unfold topS
  rw [e, e]
  show topW _ ls ≤ topW _ ls
  refine top_more (more_with h1 hle) rfl ?_ ?_ hl
  · rw [last_with h1 h0]; exact h0
  · rw [last_with h1 h0, last_with h1 (by omega)]; exact hle
end L2.My
end
section
set_option Elab.async false
set_option linter.all false
set_option maxRecDepth 100000
set_option autoImplicit false
/-! P26: the greatest outage is right. -/
namespace L2.My
open PySem PySem.Spec PyProof.Rows
def kept3 (m : Mp) (ls : List Int) (wish : Int) : List Nat := [0, 1, 2].filter fun o => decide (topS (withOut m 0 (some (o : Nat))) ls ≤ wish)
def rightG (m : Mp) (ls : List Int) (wish : Int) (g : GE) : Bool :=
  if topS (withOut m 0 none) ls ≤ wish then decide (g = .any)
  else if kept3 m ls wish ≠ [0, 1, 2] then decide (g = if kept3 m ls wish ≠ [] then .most ((kept3 m ls wish).getLastD 0 : Nat) else .none)
  else match g with
    | .most k => decide (2 ≤ k) && decide (k ≤ 6)
    | _ => false
theorem range7 : List.range 7 = [0, 1, 2, 3, 4, 5, 6] := rfl
theorem anti_filter {f : Nat → Bool} (h : ∀ a b, a ≤ b → f b = true → f a = true) (hne : [0, 1, 2].filter f ≠ [0, 1, 2]) : (List.range 7).filter f = [0, 1, 2].filter f := by
  have h2 : f 2 = false := by
    cases e : f 2 with
    | false => rfl
    | true =>
      exact absurd (by rw [List.filter_cons, h 0 2 (by omega) e, List.filter_cons, h 1 2 (by omega) e, List.filter_cons, e]; rfl) hne
  have hb : ∀ b, 2 ≤ b → f b = false := fun b hb => by
    cases e : f b with
    | false => rfl
    | true => rw [h 2 b hb e] at h2; cases h2
  rw [range7, show ([0, 1, 2, 3, 4, 5, 6] : List Nat) = [0, 1, 2] ++ [3, 4, 5, 6] from rfl, List.filter_append]
  have e : ([3, 4, 5, 6] : List Nat).filter f = [] := by
    rw [List.filter_cons, hb 3 (by omega), List.filter_cons, hb 4 (by omega), List.filter_cons, hb 5 (by omega), List.filter_cons, hb 6 (by omega)]
    rfl
  rw [e, List.append_nil]
theorem last_ge_two {f : Nat → Bool} (h : [0, 1, 2].filter f = [0, 1, 2]) : 2 ≤ ((List.range 7).filter f).getLastD 0 ∧ ((List.range 7).filter f).getLastD 0 ≤ 6 ∧ ((List.range 7).filter f).isEmpty = false := by
  rw [range7, show ([0, 1, 2, 3, 4, 5, 6] : List Nat) = [0, 1, 2] ++ [3, 4, 5, 6] from rfl, List.filter_append, h]
  generalize hx : ([3, 4, 5, 6] : List Nat).filter f = xs
  have hm : ∀ x ∈ xs, 3 ≤ x ∧ x ≤ 6 := fun x hxx => by
    rw [← hx] at hxx
    have := (List.mem_filter.mp hxx).1
    simp only [List.mem_cons, List.not_mem_nil, or_false] at this
    omega
  rcases List.eq_nil_or_concat xs with e | ⟨r, b, e⟩
  · rw [e]
    exact ⟨by decide, by decide, rfl⟩
  · rw [e]
    have hb := hm b (by rw [e]; simp)
    have e2 : ([0, 1, 2] ++ (r ++ [b])).getLastD 0 = b := by
      rw [← List.append_assoc, List.getLastD_eq_getLast?, List.getLast?_append]
      rfl
    rw [List.concat_eq_append, e2]
    exact ⟨by omega, by omega, rfl⟩
theorem great_right {m : Mp} {ls : List Int} {wish : Int} (hm : MpOk m) (h1 : m.areas.length = 1) (hl : ls.length = 1) (hp : ∀ l ∈ ls, 0 ≤ l) (hw : wish < 10 ^ 6) : rightG m ls wish (greatAt m ls wish 0) = true := by
  have ho1 : m.outs.length = 1 := hm.outs.1.trans h1
  have hla : ls.length = m.areas.length := hl.trans h1.symm
  have kt : ∀ o : Option Int, oOk o = true → keeps (withOut m 0 o) ls wish = decide (topS (withOut m 0 o) ls ≤ wish) := fun o ho => keeps_top (withOut_ok hm 0 ho) hla hp hw
  have hkept : keptOf m ls wish 0 = (List.range 7).filter fun o => decide (topS (withOut m 0 (some (o : Nat))) ls ≤ wish) := by
    unfold keptOf
    refine List.filter_congr fun o ho => kt _ (oOk_nat (List.mem_range.mp ho))
  have hanti : ∀ a b : Nat, a ≤ b → decide (topS (withOut m 0 (some (b : Nat))) ls ≤ wish) = true → decide (topS (withOut m 0 (some (a : Nat))) ls ≤ wish) = true := fun a b hab h => by
    have := top_mono ho1 hla hl (o := (a : Nat)) (o' := (b : Nat)) (by omega) (by omega)
    rw [decide_eq_true_iff] at h ⊢
    omega
  have hg : greatAt m ls wish 0 = if decide (topS (withOut m 0 none) ls ≤ wish) = true then GE.any else if (keptOf m ls wish 0).isEmpty = true then GE.none else .most ((keptOf m ls wish 0).getLastD 0 : Nat) := by
    unfold greatAt
    rw [kt none rfl]
  unfold rightG
  by_cases hn : topS (withOut m 0 none) ls ≤ wish
  · rw [if_pos hn, hg, if_pos (decide_eq_true hn)]
    exact decide_eq_true rfl
  · have hn' : ¬ decide (topS (withOut m 0 none) ls ≤ wish) = true := by simpa using hn
    rw [if_neg hn, hg, if_neg hn', hkept]
    by_cases hk : kept3 m ls wish = [0, 1, 2]
    · rw [if_neg (fun z => z hk)]
      obtain ⟨g1, g2, g3⟩ := last_ge_two hk
      rw [g3]
      show (decide _ && decide _) = true
      rw [Bool.and_eq_true, decide_eq_true_iff, decide_eq_true_iff]
      omega
    · rw [if_pos hk, anti_filter hanti hk]
      apply decide_eq_true
      show (if (kept3 m ls wish).isEmpty = true then GE.none else GE.most ((kept3 m ls wish).getLastD 0 : Nat)) = _
      cases kept3 m ls wish <;> rfl
end L2.My
end
section
set_option Elab.async false
set_option linter.all false
set_option maxRecDepth 100000
set_option autoImplicit false
/-! P2: the four-area map, by the kernel. -/
namespace L2.My
open PySem PySem.Spec PyProof.Rows
def fourDue : List (List Pair) := (List.range 4).flatMap fun a => ((List.range (4 - a)).map (· + a + 1)).flatMap fun b => ((List.range (5 - b)).map (· + b + 1)).filterMap fun c =>
  let s := [([(0, 1), (0, 2), (0, 3), (1, 2), (1, 3), (2, 3)] : List Pair).getD a (0,0), ([(0, 1), (0, 2), (0, 3), (1, 2), (1, 3), (2, 3)] : List Pair).getD b (0,0), ([(0, 1), (0, 2), (0, 3), (1, 2), (1, 3), (2, 3)] : List Pair).getD c (0,0)]
  if joinsL s = true then some s else none
theorem four_due : fourDue.length = 16 := by decide +kernel
theorem four_least : leastJ ⟨fourM, false, [1, 1, 1, 1]⟩ 1 = fourDue := by decide +kernel
theorem four_few : FewJ ⟨fourM, false, [1, 1, 1, 1]⟩ := four_few2
end L2.My
end
section
set_option Elab.async false
set_option linter.all false
set_option maxRecDepth 100000
set_option autoImplicit false
set_option maxHeartbeats 1000000
/-! D29: the law: four areas. -/
namespace L2.My
open PySem PySem.Spec PyProof.Rows
theorem foldl_len {α β : Type} {c : Nat} (f : List α → β → List α) (h : ∀ a x, (f a x).length ≤ a.length + c) (l : List β) : ∀ a, (l.foldl f a).length ≤ a.length + c * l.length := by
  induction l with
  | nil => intro a; simp
  | cons x l ih =>
    intro a
    have h1 := ih (f a x)
    have h2 := h a x
    rw [List.foldl_cons, List.length_cons, Nat.mul_succ]
    omega
def sixP : List Pair := [(0, 1), (0, 2), (0, 3), (1, 2), (1, 3), (2, 3)]
def some3 (a b c : Nat) : List Pair := [sixP.getD a (0, 0), sixP.getD b (0, 0), sixP.getD c (0, 0)]
def d3s (a b : Nat) (acc : List (List Pair)) (k : Nat) : List (List Pair) := if joinsL (some3 a b (b + 1 + k)) = true then acc ++ [some3 a b (b + 1 + k)] else acc
def d2s (a : Nat) (acc : List (List Pair)) (j : Nat) : List (List Pair) := (List.range (5 - (a + 1 + j))).foldl (d3s a (a + 1 + j)) acc
def d1s (acc : List (List Pair)) (a : Nat) : List (List Pair) := (List.range (4 - a)).foldl (d2s a) acc
def d0s : List (List Pair) := (List.range 4).foldl d1s []
theorem d0s_four : leastJ ⟨fourM, false, [1, 1, 1, 1]⟩ 1 = d0s := four_least.trans (by decide +kernel)
theorem d3s_len (a b : Nat) (acc : List (List Pair)) (k : Nat) : (d3s a b acc k).length ≤ acc.length + 1 := by
  unfold d3s
  split
  · simp
  · omega
theorem d2s_len (a : Nat) (acc : List (List Pair)) (j : Nat) : (d2s a acc j).length ≤ acc.length + 5 := by
  have := foldl_len _ (d3s_len a (a + 1 + j)) (List.range (5 - (a + 1 + j))) acc
  rw [List.length_range] at this
  unfold d2s
  omega
theorem d1s_len (acc : List (List Pair)) (a : Nat) : (d1s acc a).length ≤ acc.length + 20 := by
  have := foldl_len _ (d2s_len a) (List.range (4 - a)) acc
  rw [List.length_range] at this
  unfold d1s
  omega
theorem sixP_get {i : Nat} (h : i < 6) : atI (sixP.map eP) (i : Nat) = some (eP (sixP.getD i (0, 0))) := atI_nat (by
  rw [List.getElem?_map, List.getD_eq_getElem?_getD, List.getElem?_eq_getElem (show i < sixP.length from h)]
  rfl)
theorem six_four {i : Nat} : (sixP.getD i (0, 0)).1 < 4 ∧ (sixP.getD i (0, 0)).2 < 4 := by
  have h : ∀ p ∈ sixP, p.1 < 4 ∧ p.2 < 4 := by decide
  rw [List.getD_eq_getElem?_getD]
  cases e : sixP[i]? with
  | none => exact ⟨by decide, by decide⟩
  | some p => exact h p (List.mem_of_getElem? e)
theorem four_bords : BordsOk none 4 1 := by
  unfold BordsOk
  decide
section
variable {P : Program} {w : World} {K : PySem.W.Frag} {mg : Str → Option Value} {base : Heap}
abbrev N_fr : List Str := ["_law_pairs", "_law_due_here", "_law_ways", "_law_one", "_law_two", "_law_three", "_law_some", "_law_chart_here"]
theorem sc_law_four : FnScope N_fr [] (defScope s_law_four_right) := ⟨rfl, rfl, rfl, by decide +kernel, rfl, by decide +kernel, by decide +kernel⟩
theorem ok_law_four (T : TX K mg) (I : IsM K) (M : MapAt K) (HA : HeightsAt K) : Def P w K mg base "_law_four_right" 11 [] (spA (fun _ : Unit => True) (fun _ => []) (fun _ => da (.bool true))) := by
  refine def_mk T.d_law_four_right sc_law_four (fun _ _ _ _ _ _ us hl => match us, hl with | [], _ => rfl) (fun _ => rfl) (by decide) fun _ _ f cdv A outer s0 H0 H E B hr => ?_
  have hu65 : (cxF P w K mg base N_fr "_law_four_right" s_law_four_right f cdv A outer s0 H E).A.units + 65 < cLine := by have := hr.un; omega
  refine sv_parVO (n := 0) (m := 1) (φ := da (.list (sixP.map eP))) (ψ := ol []) rfl sc_law_four.nd (ev_lst (ed_cons (ev_tup (ed_cons ev_int (ed_cons ev_int ed_nil)) (by show 2 ≤ sizeLine; decide)) (ed_cons (ev_tup (ed_cons ev_int (ed_cons ev_int ed_nil)) (by show 2 ≤ sizeLine; decide)) (ed_cons (ev_tup (ed_cons ev_int (ed_cons ev_int ed_nil)) (by show 2 ≤ sizeLine; decide)) (ed_cons (ev_tup (ed_cons ev_int (ed_cons ev_int ed_nil)) (by show 2 ≤ sizeLine; decide)) (ed_cons (ev_tup (ed_cons ev_int (ed_cons ev_int ed_nil)) (by show 2 ≤ sizeLine; decide)) (ed_cons (ev_tup (ed_cons ev_int (ed_cons ev_int ed_nil)) (by show 2 ≤ sizeLine; decide)) ed_nil)))))) (by show 6 ≤ sizeLine; decide)) (evo_lst ed_nil (by decide)) fun q => ?_
  refine sv_set (i := 2) (φ := da (.list (fourM.paths.map ePath))) sc_law_four.nd (ev_lst (ed_cons (ev_tup (ed_cons ev_str (ed_cons ev_str ed_nil)) (by show 2 ≤ sizeLine; decide)) (ed_cons (ev_tup (ed_cons ev_str (ed_cons ev_str ed_nil)) (by show 2 ≤ sizeLine; decide)) (ed_cons (ev_tup (ed_cons ev_str (ed_cons ev_str ed_nil)) (by show 2 ≤ sizeLine; decide)) (ed_cons (ev_tup (ed_cons ev_str (ed_cons ev_str ed_nil)) (by show 2 ≤ sizeLine; decide)) (ed_cons (ev_tup (ed_cons ev_str (ed_cons ev_str ed_nil)) (by show 2 ≤ sizeLine; decide)) (ed_cons (ev_tup (ed_cons ev_str (ed_cons ev_str ed_nil)) (by show 2 ≤ sizeLine; decide)) ed_nil)))))) (by show 6 ≤ sizeLine; decide)) ?_
  refine sv_for (xs := List.range 4) (g := fun i => da (.int (i : Nat))) (vs := [3]) (fun i ρ' ow' => (∃ s3 s4 s5 s6, ρ' = [.val (da (.list (sixP.map eP))), .ptr q, .val (da (.list (fourM.paths.map ePath))), s3, s4, s5, s6, .no]) ∧ ∃ fd : List (List Pair), fd = ((List.range 4).take i).foldl d1s [] ∧ fd.length ≤ 20 * i ∧ ow' = [(q, ol (fd.map ePs))])
    PassesOwn.never rfl (if_range1 (n := 4) T.b_range ev_int (by decide)) (pgn 3 sc_law_four.nd) (fun s _ => tg_name (by decide)) ⟨⟨_, _, _, _, rfl⟩, [], rfl, Nat.zero_le _, rfl⟩ (fun i x ρ' ow' B' hx hI => ?_) fun ρ' ow' hI => ?_
  · obtain ⟨⟨s3, s4, s5, s6, rfl⟩, fd, hfd, hfl, rfl⟩ := hI
    have hil := (List.getElem?_eq_some_iff.mp hx).1
    have hx4 : x < 4 := List.mem_range.mp (List.mem_of_getElem? hx)
    rw [List.length_range] at hil
    have esucc : ((List.range 4).take (i + 1)).foldl d1s [] = d1s fd x := by
      rw [take_succ_get hx, List.foldl_append, ← hfd, List.foldl_cons, List.foldl_nil]
    rw [esucc]
    have hl1 := d1s_len fd x
    refine sv_for (xs := List.range (4 - x)) (g := fun k => da (.int ((x : Int) + 1 + (k : Nat)))) (vs := [4]) (fun j ρ' ow' => (∃ s4 s5 s6, ρ' = [.val (da (.list (sixP.map eP))), .ptr q, .val (da (.list (fourM.paths.map ePath))), .val (da (.int (x : Nat))), s4, s5, s6, .no]) ∧ ∃ fd2 : List (List Pair), fd2 = ((List.range (4 - x)).take j).foldl (d2s x) fd ∧ fd2.length ≤ 60 + 5 * j ∧ ow' = [(q, ol (fd2.map ePs))])
      PassesOwn.never rfl (if_range2' (lo := (x : Int) + 1) (hi := 5) T.b_range (ev_add (vv 3) ev_int) ev_int (by omega) (by omega)) (pgn 4 sc_law_four.nd) (fun s _ => tg_name (by decide)) ⟨⟨_, _, _, rfl⟩, fd, rfl, by omega, rfl⟩ (fun j y ρ' ow' B2 hy hI => ?_) fun ρ' ow' hI => ?_
    · obtain ⟨⟨s4, s5, s6, rfl⟩, fd2, hfd2, hfl2, rfl⟩ := hI
      have hjl := (List.getElem?_eq_some_iff.mp hy).1
      have hy4 : y < 4 - x := List.mem_range.mp (List.mem_of_getElem? hy)
      rw [List.length_range] at hjl
      have esucc2 : ((List.range (4 - x)).take (j + 1)).foldl (d2s x) fd = d2s x fd2 y := by
        rw [take_succ_get hy, List.foldl_append, ← hfd2, List.foldl_cons, List.foldl_nil]
      rw [esucc2]
      have hl2 := d2s_len x fd2 y
      refine sv_for (xs := List.range (5 - (x + 1 + y))) (g := fun k => da (.int ((x : Int) + 1 + (y : Nat) + 1 + (k : Nat)))) (vs := [5]) (fun k ρ' ow' => (∃ s5 s6, ρ' = [.val (da (.list (sixP.map eP))), .ptr q, .val (da (.list (fourM.paths.map ePath))), .val (da (.int (x : Nat))), .val (da (.int ((x : Int) + 1 + (y : Nat)))), s5, s6, .no]) ∧ ∃ fd3 : List (List Pair), fd3 = ((List.range (5 - (x + 1 + y))).take k).foldl (d3s x (x + 1 + y)) fd2 ∧ fd3.length ≤ 100 + k ∧ ow' = [(q, ol (fd3.map ePs))])
        PassesOwn.never rfl (if_range2' (lo := (x : Int) + 1 + (y : Nat) + 1) (hi := 6) T.b_range (ev_add (vv 4) ev_int) ev_int (by omega) (by omega)) (pgn 5 sc_law_four.nd) (fun s _ => tg_name (by decide)) ⟨⟨_, _, rfl⟩, fd2, rfl, by omega, rfl⟩ (fun k z ρ' ow' B3 hz hI => ?_) fun ρ' ow' hI => ?_
      · obtain ⟨⟨s5, s6, rfl⟩, fd3, hfd3, hfl3, rfl⟩ := hI
        have hkl := (List.getElem?_eq_some_iff.mp hz).1
        have hz4 : z < 5 - (x + 1 + y) := List.mem_range.mp (List.mem_of_getElem? hz)
        rw [List.length_range] at hkl
        have esucc3 : ((List.range (5 - (x + 1 + y))).take (k + 1)).foldl (d3s x (x + 1 + y)) fd2 = d3s x (x + 1 + y) fd3 z := by
          rw [take_succ_get hz, List.foldl_append, ← hfd3, List.foldl_cons, List.foldl_nil]
        rw [esucc3]
        have g1 := sixP_get (i := x) (by omega)
        have g2 : atI (sixP.map eP) ((x : Int) + 1 + (y : Nat)) = some (eP (sixP.getD (x + 1 + y) (0, 0))) := by
          have := sixP_get (i := x + 1 + y) (by omega)
          rw [← this]; congr 1
        have g3 : atI (sixP.map eP) ((x : Int) + 1 + (y : Nat) + 1 + (z : Nat)) = some (eP (sixP.getD (x + 1 + y + 1 + z) (0, 0))) := by
          have := sixP_get (i := x + 1 + y + 1 + z) (by omega)
          rw [← this]; congr 1
        refine sv_set (i := 6) (φ := da (ePs (some3 x (x + 1 + y) (x + 1 + y + 1 + z)))) sc_law_four.nd (ev_lst (ds := (some3 x (x + 1 + y) (x + 1 + y + 1 + z)).map eP) (ed_cons (ev_ixL (vv 0) (vv 3) g1) (ed_cons (ev_ixL (vv 0) (vv 4) g2) (ed_cons (ev_ixL (vv 0) (vv 5) g3) ed_nil))) (by show 3 ≤ sizeLine; decide)) ?_
        refine sv_if (x := joinsL (some3 x (x + 1 + y) (x + 1 + y + 1 + z))) (et_v (ev_call (ok_law_joins T) (some3 x (x + 1 + y) (x + 1 + y + 1 + z)) (fun p hp => by
          rcases List.mem_cons.mp hp with rfl | hp
          · exact six_four
          rcases List.mem_cons.mp hp with rfl | hp
          · exact six_four
          rcases List.mem_cons.mp hp with rfl | hp
          · exact six_four
          cases hp) (hr.mono (by decide)) (ea1 (vv 6)))) (fun hk => ?_) fun hk => ?_
        · refine sv_append (i := 1) (d := ePs (some3 x (x + 1 + y) (x + 1 + y + 1 + z))) rfl (vv 6) (by rw [List.length_map]; exact szl) (sv_nil (sv_nil ⟨⟨_, _, rfl⟩, _, rfl, by have := d3s_len x (x + 1 + y) fd3 z; omega, ?_⟩))
          unfold d3s
          rw [if_pos hk, List.map_append]
          rfl
        · refine sv_nil (sv_nil ⟨⟨_, _, rfl⟩, _, rfl, by have := d3s_len x (x + 1 + y) fd3 z; omega, ?_⟩)
          unfold d3s
          rw [if_neg (by rw [hk]; simp)]
      · obtain ⟨⟨s5, s6, rfl⟩, fd3, hfd3, hfl3, rfl⟩ := hI
        rw [List.take_length] at hfd3
        have hfd3 : fd3 = d2s x fd2 y := hfd3
        subst hfd3
        exact sv_nil ⟨⟨_, _, _, rfl⟩, _, rfl, by omega, rfl⟩
    · obtain ⟨⟨s4, s5, s6, rfl⟩, fd2, hfd2, hfl2, rfl⟩ := hI
      rw [List.take_length] at hfd2
      have hfd2 : fd2 = d1s fd x := hfd2
      subst hfd2
      exact sv_nil ⟨⟨_, _, _, _, rfl⟩, _, rfl, by omega, rfl⟩
  · obtain ⟨⟨s3, s4, s5, s6, rfl⟩, fd, hfd, hfl, rfl⟩ := hI
    rw [List.take_length] at hfd
    have e : fd = d0s := hfd
    subst e
    refine sv_freeze (i := 1) rfl ?_
    refine sv_set (i := 7) (φ := mapP (CM K) fourM) sc_law_four.nd (ev_map1 T M ⟨false, false, false, none, false, fourM⟩ ⟨four_ok, four_bords, rfl⟩ rfl rfl (hr.mono (by decide)) (ea2 (ev_lst (ed_cons (ev_lst (ed_cons ev_str ed_nil) (by show 1 ≤ sizeLine; decide)) (ed_cons (ev_lst (ed_cons ev_str ed_nil) (by show 1 ≤ sizeLine; decide)) (ed_cons (ev_lst (ed_cons ev_str ed_nil) (by show 1 ≤ sizeLine; decide)) (ed_cons (ev_lst (ed_cons ev_str ed_nil) (by show 1 ≤ sizeLine; decide)) ed_nil)))) (by show 4 ≤ sizeLine; decide)) (vv 2)) (ek_cons (ev_repL (n := 4) (ds := [.int 1]) (ev_lst (ed_cons ev_int ed_nil) (by show 1 ≤ sizeLine; decide)) ev_int (by decide) (by show 4 ≤ sizeLine; decide)) ek_nil)) ?_
    refine sv_retd (ev_a2 (x := true) (y := true) (ev_eq (ev_cmp (op_eqD hr.units) (ep_of (ev_eq (ev_call (ok_least_joins T I M HA) (⟨fourM, false, [1, 1, 1, 1]⟩, 1) ⟨⟨four_ok, rfl, four_few⟩, by decide⟩ hr (ea3 (vv 7) (ev_repL (n := 4) (ds := [.int 1]) (ev_lst (ed_cons ev_int ed_nil) (by show 1 ≤ sizeLine; decide)) ev_int (by decide) (by show 4 ≤ sizeLine; decide)) ev_int)) (congrArg (fun l : List (List Pair) => PyData.list (l.map ePs)) d0s_four))) (ep_of (vv 1)) (r2_eqD (by decide +kernel) (by decide +kernel) (by decide +kernel) (by decide +kernel)) (nomark _)) ?_) fun _ => ev_eq (ev_cmp (op_eqD hr.units) (ep_of (ev_len T.b_len (ep_of (vv 1)))) (ep_of ev_int) (r2_eqD rfl rfl rfl rfl) (nomark _)) ?_) rfl
    · show PyData.bool (PyData.eqv (.list (d0s.map ePs)) (.list (d0s.map ePs))) = _
      exact congrArg PyData.bool (by decide +kernel)
    · rfl
end
end L2.My
end
section
set_option Elab.async false
set_option linter.all false
set_option maxRecDepth 100000
set_option autoImplicit false
/-! LayR: the texts of data by repr and str. -/
namespace L2.My
open PySem PySem.Spec PyProof.Rows
theorem flat_reads {h : Heap} {H : Hp} {v : V} {d : PyData} {u : Value} (a : Da H v d) (f : flat d = true) (r : RelV v u) : Reads h u d [] := by
  cases a with
  | non =>
    cases r
    exact .none
  | bl b =>
    cases r
    exact .bool b
  | int i =>
    obtain ⟨t, rfl⟩ := r
    exact .int i t
  | str x =>
    obtain ⟨t, rfl⟩ := r
    exact .str x t
  | _ => cases f
theorem dict_reads0 {P : Program} {w : World} {h : Heap} {H : Hp} : ∀ {kvs : List (Key × V)} {l : List (Key × PyData)} {vs : List (Key × Value)} {es : List DictEntry}, Dae H kvs l → KV kvs vs → Pairs (mixKind P w) es vs → (∀ q ∈ l, flat q.2 = true) →
    ReadsAll h (es.map (·.key)) (l.map fun q => kd q.1) [] ∧ ReadsAll h (es.map (·.val)) (l.map (·.2)) []
  | _, _, _, _, .nil, .nil, .nil, _ => ⟨.nil, .nil⟩
  | _, _, _, _, .cons a t, .cons r rs, .cons k e ps, f => by
    obtain ⟨h1, h2⟩ := dict_reads0 t rs ps fun q hq => f q (List.mem_cons_of_mem _ hq)
    refine ⟨.cons (as := []) ?_ h1, .cons (as := []) ?_ h2⟩
    · have k : keyIs _ _ = true := k
      rw [← r.1] at k
      dsimp only at k ⊢
      rcases keyIs_shape k with ⟨i, t, e1, e2⟩ | ⟨x, t, e1, e2⟩
      · rw [e1, e2]; exact .int i t
      · rw [e1, e2]; exact .str x t
    · dsimp only
      rw [e]
      exact flat_reads a (f _ List.mem_cons_self) r.2
section
variable {X : Cx} {pins : List (Addr × Obj)} {σ : St} {H : Hp} {s : Shared}
theorem dict_reads (I : Inv X pins σ H s) {dd : Addr} {kvs : List (Key × V)} {l : List (Key × PyData)} (e : H dd = some (.dK kvs)) (t : Dae H kvs l) (f : ∀ q ∈ l, flat q.2 = true) : Reads s.heap (.ref dd) (dk l) [dd] ∧ (dd == sysModules) = false := by
  obtain ⟨_, hs, vs, kv, o, es, ep, ho, hx, hd, _, ps, _⟩ := I.hok _ _ e
  obtain ⟨h1, h2⟩ := dict_reads0 (h := s.heap) t kv ps f
  refine ⟨?_, hs⟩
  unfold dk
  refine .dict (as := []) (bs := []) ho hx.1 hd ?_ ?_
  · rw [List.map_map]; exact h1
  · rw [List.map_map]; exact h2
/-- [a text, a dict of flat things, a list of texts] -/
def kD (x : Str) (l : List (Key × PyData)) (ts : List Str) : PyData := .list [.str x, dk l, .list (ts.map .str)]
theorem dasl_get {H : Hp} {v : V} {ds : List PyData} (h : Da H v (.list ds)) : ∃ a xs, v = .ref a ∧ H a = some (.lst xs) ∧ Das H xs ds := by
  cases h with
  | lst e t => exact ⟨_, _, rfl, e, t⟩
theorem allK_append {P : Program} {w : World} {h : Heap} {as bs : List Addr} {n m : Nat} {us ws : List Value} {ts rs : List Str} (a : ReprAllK P w as h n us ts) (b : ReprAllK P w bs h m ws rs) : ReprAllK P w (as ++ bs) h (max n m) (us ++ ws) (ts ++ rs) := by
  have a2 := a.more_le (as' := as ++ bs) (d' := max n m) (fun x hx => List.mem_append_left _ hx) (Nat.le_max_left _ _)
  have b2 := b.more_le (as' := as ++ bs) (d' := max n m) (fun x hx => List.mem_append_right _ hx) (Nat.le_max_right _ _)
  clear a
  induction a2 with
  | nil => exact b2
  | cons k _ ih => exact .cons k ih
theorem nodict_flat : ∀ {ds : List PyData}, (∀ d ∈ ds, flat d = true) → PyData.hasDictAll ds = false
  | [], _ => by simp [PyData.hasDictAll]
  | d :: ds, h => by
    have h1 := h d List.mem_cons_self
    have h2 := nodict_flat fun x hx => h x (List.mem_cons_of_mem _ hx)
    cases d <;> first | (simp [flat] at h1; done) | simp [PyData.hasDictAll, PyData.hasDict, h2]
theorem showable_strs : ∀ ts : List Str, PyData.showableAll (ts.map .str) = true
  | [] => by simp [PyData.showableAll]
  | t :: ts => by simp [PyData.showableAll, PyData.showable, showable_strs ts]
theorem depth_strs (ts : List Str) : PyData.depthAll (ts.map .str) = 0 := by
  induction ts with
  | nil => simp [PyData.depthAll]
  | cons t ts ih => simp [PyData.depthAll, PyData.depth, ih]
theorem depth_keys : ∀ l : List (Key × PyData), (∀ q ∈ l, flat q.2 = true) → PyData.depthKv (l.map fun q => (kd q.1, q.2)) = 0
  | [], _ => by simp [PyData.depthKv]
  | q :: l, h => by
    have h1 := depth_keys l fun x hx => h x (List.mem_cons_of_mem _ hx)
    have h2 := h q List.mem_cons_self
    obtain ⟨k, d⟩ := q
    have e1 : (kd k).depth = 0 := by cases k <;> simp [kd, PyData.depth]
    have e2 : d.depth = 0 := by cases d <;> first | (simp [flat] at h2; done) | simp [PyData.depth]
    simp [PyData.depthKv, h1, e1, e2]
def rKey (X : Cx) : List V → Hp → VK → Prop := fun xs H Q => ∃ v x l ts, xs = [v] ∧ Da H v (kD x l ts) ∧ (∀ q ∈ l, flat q.2 = true) ∧ PyData.showableKv (l.map fun q => (kd q.1, q.2)) = true ∧ (kD x l ts).shown.length ≤ sizeLine ∧ Q (.str (kD x l ts).shown) H
theorem call_repr_key (hg : X.A.guards = some []) (hu : X.A.units + 8 < cLine) : CallR X (.builtin "repr") (rKey X) := by
  intro pins s σ H xs us Q I r h
  obtain ⟨v, x, l, ts, rfl, hv, fl, sh, hz, q⟩ := h
  obtain ⟨u, rfl, ru⟩ := vals1 r
  obtain ⟨a, ys, rfl, ea, ta⟩ := dasl_get (show Da H v (.list [.str x, dk l, .list (ts.map .str)]) from hv)
  obtain rfl : u = .ref a := ru
  cases ta with
  | cons t1 ta =>
  cases ta with
  | cons t2 ta =>
  cases ta with
  | cons t3 ta =>
  cases ta
  cases t1
  obtain ⟨dd, kvs, rfl, ed, td⟩ := t2.dict
  obtain ⟨ll, zs, rfl, el, tl⟩ := dasl_get t3
  obtain ⟨its, rv, ⟨o, n, ho, hc, _, hd⟩, _⟩ := I.list (SqL.of ea)
  cases rv with
  | cons r1 rv =>
  cases rv with
  | cons r2 rv =>
  cases rv with
  | cons r3 rv =>
  cases rv
  obtain ⟨tk, rfl⟩ := r1
  cases r2
  cases r3
  obtain ⟨rd, hsys⟩ := dict_reads I ed td fl
  have nd3 : nod (.list (ts.map .str)) = true := by
    show nods _ = true
    clear hv hz q t3 tl
    induction ts with
    | nil => rfl
    | cons t ts ih => rw [List.map_cons, nods, ih]; rfl
  obtain ⟨as3, rl⟩ := Dp.reads I _ _ (.ref ll) (Da.dp t3 nd3) rfl
  have hz2 : (listText (PyData.shownAll [.str x, dk l, .list (ts.map .str)])).length ≤ sizeLine := by
    have := hz
    unfold kD at this
    simpa only [PyData.shown] using this
  have hmem : ∀ t ∈ PyData.shownAll [.str x, dk l, .list (ts.map .str)], t.length ≤ sizeLine := fun t ht => Nat.le_trans (listText_mem_le ht) hz2
  have mem12 : ∀ t ∈ PyData.shownAll [.str x, dk l], t.length ≤ sizeLine := fun t ht => hmem t (by
    simp only [PyData.shownAll, List.mem_cons, List.not_mem_nil, or_false] at ht ⊢
    rcases ht with h | h
    · exact .inl h
    · exact .inr (.inl h))
  have mem3 : ∀ t ∈ PyData.shownAll [.list (ts.map .str)], t.length ≤ sizeLine := fun t ht => hmem t (by
    simp only [PyData.shownAll, List.mem_cons, List.not_mem_nil, or_false] at ht ⊢
    exact .inr (.inr ht))
  have rall12 : ReadsAll s.heap [.str x tk, .ref dd] [.str x, dk l] ([] ++ ([dd] ++ [])) := .cons (.str x tk) (.cons rd .nil)
  have rall3 : ReadsAll s.heap [.ref ll] [.list (ts.map .str)] (as3 ++ []) := .cons rl .nil
  have sh12 : PyData.showableAll [.str x, dk l] = true := by
    unfold dk
    simp only [PyData.showableAll, PyData.showable, sh, Bool.and_self]
  have sh3 : PyData.showableAll [.list (ts.map .str)] = true := by simp only [PyData.showableAll, PyData.showable, showable_strs, Bool.and_self]
  obtain ⟨b1, hb1, k1⟩ := ReprAllK.of_readsAll (prog := X.prog) (w := X.w) rall12 sh12 (fun _ hm => by
    simp only [List.nil_append, List.append_nil, List.mem_singleton] at hm
    rw [← hm] at hsys
    simp at hsys) mem12
  have hnd3 : PyData.hasDictAll [.list (ts.map .str)] = false := by
    simp only [PyData.hasDictAll, PyData.hasDict, Bool.or_false]
    exact nodict_flat fun d hd => by
      obtain ⟨t, _, rfl⟩ := List.mem_map.mp hd
      rfl
  obtain ⟨b2, hb2, k2⟩ := ReprAllK.of_readsAll (prog := X.prog) (w := X.w) rall3 sh3 (fun hx => by rw [hnd3] at hx; cases hx) mem3
  have kk := allK_append k1 k2
  have hb := (hb1.mono (Nat.le_max_left _ (PyData.depthAll [.list (ts.map .str)]))).append (hb2.mono (Nat.le_max_right (PyData.depthAll [.str x, dk l]) _))
  have dep : max (PyData.depthAll [.str x, dk l]) (PyData.depthAll [.list (ts.map .str)]) = 1 := by
    unfold dk
    simp only [PyData.depthAll, PyData.depth, depth_strs, depth_keys l fl]
    rfl
  have rtop : Reads s.heap (.ref a) (kD x l ts) (a :: ([] ++ ([dd] ++ (as3 ++ [])))) := .list ho hc hd (.cons (.str x tk) (.cons rd (.cons rl .nil)))
  have dtop : (kD x l ts).depth = 2 := by
    unfold kD
    unfold dk
    simp only [PyData.depthAll, PyData.depth, depth_strs, depth_keys l fl]
    rfl
  have hna : a ∉ b1 ++ b2 := not_mem_of_deeper rtop (by rw [dtop, dep]; decide) hb
  have hT : s.TypeIs (.ref a) "list" := ⟨o, ho, hc⟩
  have e1 : listText (PyData.shownAll [.str x, dk l] ++ PyData.shownAll [.list (ts.map .str)]) = (kD x l ts).shown := by
    unfold kD
    simp only [PyData.shown, PyData.shownAll]
    rfl
  have key := call_list_reprK (as := b1 ++ b2) (prog := X.prog) (w := X.w) (x := .str x tk) (l := [.ref dd, .ref ll]) ho hc hd hna (by simpa using kk.length_eq) (fun i y e => kk.item i y (by simpa using e)) (A := X.A.in1) (g := []) (E := X.xe) (s := s) (Q := fun r s1 => ∃ z t, r = .str z t ∧ L2.EP X pins σ Q r s1) hg (fun b _ => Clear.nil b) (by rw [dep]; show X.A.units + 1 + 2 < cLine; omega) (fun _ _ e => e) (fun h' u' tk' hk => by
    rw [e1]
    exact ⟨_, _, rfl, .str _, H, I.kept hk, ⟨u', rfl⟩, q⟩) hz2
  exact call_repr_slot (by omega) hT F.slot_list_repr.toG key
/-- str of a tuple, a list without dicts -/
def rStr : List V → Hp → VK → Prop := fun xs H Q => ∃ v ds, xs = [v] ∧ Da H v (.tuple ds) ∧ (∀ d ∈ ds, flat d = true) ∧ PyData.showableAll ds = true ∧ (PyData.tuple ds).shown.length ≤ sizeLine ∧ Q (.str (PyData.tuple ds).shown) H
theorem depth_flat : ∀ {ds : List PyData}, (∀ d ∈ ds, flat d = true) → PyData.depthAll ds = 0
  | [], _ => by simp [PyData.depthAll]
  | d :: ds, h => by
    have h1 := h d List.mem_cons_self
    have h2 := depth_flat fun x hx => h x (List.mem_cons_of_mem _ hx)
    cases d <;> first | (simp [flat] at h1; done) | simp [PyData.depthAll, PyData.depth, h2]
theorem nods_flat : ∀ {ds : List PyData}, (∀ d ∈ ds, flat d = true) → nods ds = true
  | [], _ => rfl
  | d :: ds, h => by
    have h1 := h d List.mem_cons_self
    rw [nods, nods_flat fun x hx => h x (List.mem_cons_of_mem _ hx)]
    cases d <;> first | (simp [flat] at h1; done) | rfl
theorem call_str_tup (hg : X.A.guards = some []) (hu : X.A.units + 8 < cLine) : CallR X (.type "str") rStr := by
  intro pins s σ H xs us Q I r h
  obtain ⟨v, ds, rfl, hv, fl, sh, hz, q⟩ := h
  obtain ⟨u, rfl, ru⟩ := vals1 r
  obtain ⟨as, rd⟩ := Dp.reads I _ _ u (Da.dp hv (nods_flat fl)) ru
  obtain ⟨a, rfl⟩ : ∃ a, u = .ref a := by
    cases hv
    exact ⟨_, ru⟩
  have hnd : (PyData.tuple ds).hasDict = false := by
    show PyData.hasDictAll ds = false
    exact nodict_flat fl
  have dep : (PyData.tuple ds).depth = 1 := by
    simp only [PyData.depth, depth_flat fl]
  exact str_of_reads rd (by simpa only [PyData.showable] using sh) (PyData.noDict_hsm hnd) hg (by rw [dep]; omega) (fun _ _ e => e) (fun h' u' tk hk => ⟨.str _, H, I.kept hk, ⟨u', rfl⟩, q⟩) hz
end
section
variable {X : Cx} {B : Hp × Hp} {ρ : List Slot} {ow : Ow} {e : Expr} {pos p : Pos}
theorem ev_reprKey {x : Str} {l : List (Key × PyData)} {ts : List Str} (hga : X.A.guards = some []) (hu : X.A.units + 8 < cLine) (hm : X.mg "repr" = none) (ha : EV X B ρ ow e (da (kD x l ts))) (fl : ∀ q ∈ l, flat q.2 = true) (sh : PyData.showableKv (l.map fun q => (kd q.1, q.2)) = true) (hz : (kD x l ts).shown.length ≤ sizeLine)
    (hg : Gl X "repr" := by rfl) (hs : starEach [e] X.env = (false, eval e X.env) :: starEach [] X.env := by rfl) : EV X B ρ ow (.Call (.Name "repr" p) [e] [] pos) (da (.str (kD x l ts).shown)) :=
  ev_callBF (call_repr_key hga hu) hm (ep_of ha) (fun v H Q h k => ⟨v, x, l, ts, rfl, h, fl, sh, hz, k _ fun _ => .str _⟩) hg (by decide +kernel) (by decide) (by decide) hs
theorem ev_strTup {ds : List PyData} (hga : X.A.guards = some []) (hu : X.A.units + 8 < cLine) (hm : X.mg "str" = none) (ha : EV X B ρ ow e (da (.tuple ds))) (fl : ∀ d ∈ ds, flat d = true) (sh : PyData.showableAll ds = true) (hz : (PyData.tuple ds).shown.length ≤ sizeLine)
    (hg : Gl X "str" := by rfl) (hs : starEach [e] X.env = (false, eval e X.env) :: starEach [] X.env := by rfl) : EV X B ρ ow (.Call (.Name "str" p) [e] [] pos) (da (.str (PyData.tuple ds).shown)) :=
  ev_callT (call_str_tup hga hu) hm (ea_cons ha ea_nil hs) (fun vs G H Q s t k => by
    cases t with
    | cons p t =>
      cases t
      exact ⟨_, ds, rfl, Da.mono s p, fl, sh, hz, k _ G H (.refl s) (.str _)⟩) hg (by decide +kernel) (by decide) (by decide) hs (by rfl)
end
end L2.My
end
section
set_option Elab.async false
set_option linter.all false
set_option maxRecDepth 100000
set_option autoImplicit false
/-! LayG: defs whose caller stands under no guard (repr of data asks that). -/
namespace L2.My
open PySem PySem.Spec PyProof.Rows
/-- FnOk where no guard stands below -/
structure FnG (P : Program) (w : World) (K : PySem.W.Frag) (mg : Str → Option Value) (base : Heap) (k : Nat) (f : Addr) (fd : FuncData) (ps : List Str) (sp : Sp) : Prop where
  len : ∀ vs H Q E, sp vs H Q E → vs.length = ps.length
  run : ∀ (B : Around) (lo : List Env) (s0 : Shared) (H0 : Hp) (ar : Args) (ws : List Value) (vs : List V) (Q : VK) (E : XK), B.guards = some [] → Room k B → Env0 P w K mg base B lo s0 H0 → BindsTo s0 fd ar (ps.zip ws) → Vals vs ws → sp vs H0 Q E →
    codeAny (model P w) B (.call (.ref f) ar) (CR CX0 lo P w H0 s0 Q E) s0
structure DefG (P : Program) (w : World) (K : PySem.W.Frag) (mg : Str → Option Value) (base : Heap) (nm : Str) (k : Nat) (ps : List Str) (sp : Sp) : Prop where
  ex : ∃ f fd, FnG P w K mg base k f fd ps sp ∧ mg nm = some (.ref f) ∧ PySem.W.keepIn K (.ref f) = true ∧ Binds K fd ps []
section
variable {P : Program} {w : World} {K : PySem.W.Frag} {mg : Str → Option Value} {base : Heap}
theorem Def.g {nm : Str} {k : Nat} {ps : List Str} {sp : Sp} (d : Def P w K mg base nm k ps sp) : DefG P w K mg base nm k ps sp := by
  obtain ⟨f, fd, F, h1, h2, h3⟩ := d.ex
  exact ⟨f, fd, ⟨F.len, fun B lo s0 H0 ar ws vs Q E _ => F.run B lo s0 H0 ar ws vs Q E⟩, h1, h2, h3⟩
/-- the body of such a def -/
def BodyG (P : Program) (w : World) (K : PySem.W.Frag) (mg : Str → Option Value) (base : Heap) (N : List Str) (qual : Str) (st : Stmt) (k : Nat) (as : List Pr) (φ : Pr) : Prop :=
  ∀ (f : Addr) (cdv : Value) (A : Around) (outer : List Env) (s : Shared) (H0 H : Hp) (E : XK) (B : Hp × Hp), (cxF P w K mg base N qual st f cdv A outer s H E).A.guards = some [] → Room k (cxF P w K mg base N qual st f cdv A outer s H E).A →
    SV (cxF P w K mg base N qual st f cdv A outer s H E) B (startS N as) [] (defBody st) { nx := fun _ _ => ∀ H, φ.p H .non, rt := φ }
theorem fn_bodyG {x qual : Str} {st : Stmt} {f : Addr} {fd : FuncData} {N ps : List Str} {k : Nat} {α : Type} {pre : α → Prop} {as : α → List Pr} {φ : α → Pr} {dvs : List V} {kws : List (Str × V)} (F : FunD K x qual (defArgs st) (defBody st) (defScope st) dvs kws f fd) (S : FnScope N ps (defScope st))
    (hl : ∀ x, (as x).length = ps.length) (hN : ps.length ≤ N.length) (hb : ∀ x, pre x → BodyG P w K mg base N qual st k (as x) (φ x)) : FnG P w K mg base (k + 1) f fd ps (spA pre as φ) := by
  obtain ⟨oc, od, dV, kV, doc, pm, an, cdv, ct, osl, rfl, lk, hcd, _, _⟩ := F.ex
  have hlen : ∀ vs H Q E, spA pre as φ vs H Q E → vs.length = ps.length := fun vs H Q E ⟨x, _, G, _, t, _⟩ => t.length.symm.trans (hl x)
  refine ⟨hlen, fun B0 lo s0 H0 ar ws vs Q E hga hr he hbd hv hs => ?_⟩
  have hn := hlen _ _ _ _ hs
  have stay : ∀ b o, base.get? b = some o → s0.heap.get? b = some o := fun b o e => (he.bs b o e).1
  have kin := he.mod.kin.keeps stay
  have nol := he.mod.nolimit.keeps stay
  have kinds : ∀ y ∈ ps.zip ws, (defScope st).names.lookup y.1 = some .local ∨ ((defScope st).names.lookup y.1 = some .cell ∧ ((cellsFrom (s0.heap.objs.size + 1) (defScope st).names []).lookup y.1).isSome = true) := by
    rintro ⟨a, b⟩ hy
    exact (S.par a (List.of_mem_zip hy).1).imp id fun q => ⟨q, PySem.W.cellsFrom_some _ _ _ (.inl q)⟩
  refine codeAny_call_function hr.depth (kin _ _ lk) rfl S.co S.gen rfl (PySem.W.codeRec_of kin hcd) (hbd _ _ _ _ ?_)
  refine wpAny_newFunctionEnv_cells S.kind kinds fun ev ee s1 x1 => ?_
  subst ee
  refine ⟨nol.keeps x1.toInCall.keep, codeAny_func ?_⟩
  obtain ⟨x, hp, G, sm, t, q⟩ := hs
  have body := hb x hp f cdv B0 lo s0 H0 H0 E (G, H0) hga (hr.deeper _)
  have J : Inv (cxOf CX0 P w K mg base N qual (defScope st) f cdv B0 lo s0 H0 E) [] (start N vs) H0 s1 := inv_start S hr.hd he hn hv x1
  have run := (L2.PSs.nox body).run [] s1 (start N vs) H0 { nx := fun _ H' => Q .non H', rt := Q } J ⟨⟨G, ok_start sm t (by rw [hl x]; exact hN)⟩, ⟨fun ρ ow G' σ H' z ok => q .non G' H' ok.gr (z G'), fun v ow G' H' _ _ g p => q v G' H' g p, fun ρ ow G' σ H' z ok => z.elim, fun ρ ow G' σ H' z ok => z.elim⟩⟩
  have out : ∀ {σ' : St} {H' : Hp} {v : V} {u : Value} {s' : Shared}, Inv (cxOf CX0 P w K mg base N qual (defScope st) f cdv B0 lo s0 H0 E) [] σ' H' s' → RelV v u → Q v H' → CE lo P w H0 s0 Q u s' := fun J2 r2 q2 => ⟨_, _, J2.os, J2.bare, J2.base, J2.hok, r2, q2⟩
  refine wpAny_mono run (fun fl s' h => ?_) fun e s' h => h
  cases fl with
  | next => exact let ⟨_, _, J2, q2⟩ := h; out (v := V.non) (u := Value.none) J2 rfl q2
  | brk => exact let ⟨_, _, _, q2⟩ := h; q2.elim
  | cont => exact let ⟨_, _, _, q2⟩ := h; q2.elim
  | ret u => exact let ⟨_, _, _, J2, r2, q2⟩ := h; out J2 r2 q2
theorem def_mkG {nm : Str} {st : Stmt} {N ps : List Str} {k : Nat} {α : Type} {pre : α → Prop} {as : α → List Pr} {φ : α → Pr} (T : FunAt K mg nm st) (S : FnScope N ps (defScope st))
    (hbind : ∀ (kV doc pm : Value) (an : Option Addr) (cdv ct : Value) (us : List Value), us.length = ps.length → bindArgs (PySem.W.fnOf nm nm (defArgs st) (defBody st) (defScope st) .none kV doc pm an cdv ct) ⟨us, []⟩ = pure (ps.zip us))
    (hl : ∀ x, (as x).length = ps.length) (hN : ps.length ≤ N.length) (hb : ∀ x, pre x → BodyG P w K mg base N nm st k (as x) (φ x)) : DefG P w K mg base nm (k + 1) ps (spA pre as φ) := by
  obtain ⟨f, fd, F, hm⟩ := T.ex
  exact ⟨f, fd, fn_bodyG F S hl hN hb, hm, F.kp, F.bindsN hbind⟩
end
section
variable {X : Cx} {B : Hp × Hp} {ρ : List Slot} {ow : Ow} {e : Expr} {es : List Expr} {pos p : Pos} {k : Nat} {ps : List Str} {α : Type} {pre : α → Prop} {as : α → List Pr} {r : α → Pr} {nm : Str}
/-- f(e, ..) of such a def -/
theorem ev_callG (d : DefG X.prog X.w X.K X.mg X.base nm k ps (spA pre as r)) (x : α) (hp : pre x) (hga : X.A.guards = some []) (hr : Room k X.A) (ha : EA X B ρ ow (e :: es) (as x)) (hg : Gl X nm := by rfl) (hdb : (nm == ("__debug__" : Str)) = false := by decide)
    (he : starEach (e :: es) X.env = (false, eval e X.env) :: starEach es X.env := by rfl) (hpl : (backTo pos (starEach es X.env)).any (·.1) = false := by rfl) : EV X B ρ ow (.Call (.Name nm p) (e :: es) [] pos) (r x) := by
  obtain ⟨f, fd, F, hm, kp, b⟩ := d.ex
  refine ⟨fun pins s σ H Q I ⟨G, ok, q⟩ => wpAny_Call_Name_kw (ld_glob I hg hm (PySem.W.callWith_K (h₀ := X.base) I.ok.mod.kin kp ?_ he hpl) hdb)⟩
  refine thn (ha.run pos pins s σ H (fun vs H1 => spA pre as r vs H1 Q E0) I ⟨G, ok, fun vs G1 H1 g1 t => ⟨x, hp, G1, g1.s, t, fun v G2 H2 g2 p2 => q v G2 H2 (g1.trans g2) p2⟩⟩) fun us s1 ⟨vs, H1, I1, rv, q1⟩ => ⟨I1.kIn, ?_⟩
  have hl : (us ++ []).length = ps.length := by rw [List.append_nil, ← rv.length]; exact F.len _ _ _ _ q1
  have bb := b s1 us I1.kIn hl
  rw [List.append_nil] at bb
  refine wpAny_call (codeAny_mono (F.run X.A X.stack s1 H1 ⟨us, []⟩ us vs Q E0 hga hr I1.env0 bb rv q1) fun z s2 hz => ?_)
  match z, hz with
  | .ok (.ret u), hz => exact I1.after hz
  | .error e', hz => exact pass0 pins σ H1 s1 e' s2 I1 hz
end
end L2.My
end
section
set_option Elab.async false
set_option linter.all false
set_option maxRecDepth 100000
set_option autoImplicit false
/-! P27: the law's keys tell walks apart. -/
namespace L2.My
open PySem PySem.Spec PyProof.Rows
abbrev cod (s : Str) : List Nat := s.cps.toList
theorem cod_app (a b : Str) : cod (a ++ b) = cod a ++ cod b := by
  show (a.cps ++ b.cps).toList = _
  rw [Array.toList_append]
theorem cod_inj {a b : Str} (h : cod a = cod b) : a = b := by
  cases a; cases b
  simp only [cod, Array.toList_inj] at h
  rw [h]
theorem split_at {c : Nat} : ∀ {u v x y : List Nat}, u ++ c :: x = v ++ c :: y → c ∉ u → c ∉ v → u = v ∧ x = y
  | [], [], x, y, h, _, _ => by
    injection h with _ h
    exact ⟨rfl, h⟩
  | [], b :: v, x, y, h, _, hv => by
    injection h with h _
    exact absurd (by rw [h]; exact List.mem_cons_self) hv
  | a :: u, [], x, y, h, hu, _ => by
    injection h with h _
    exact absurd (by rw [← h]; exact List.mem_cons_self) hu
  | a :: u, b :: v, x, y, h, hu, hv => by
    injection h with h1 h2
    obtain ⟨e1, e2⟩ := split_at h2 (fun z => hu (List.mem_cons_of_mem _ z)) (fun z => hv (List.mem_cons_of_mem _ z))
    exact ⟨by rw [h1, e1], e2⟩
/-! the little world of the law's texts -/
def box : List (Nat × Int) := [(0, -2), (0, -1), (0, 0), (0, 1), (1, -2), (1, -1), (1, 0), (1, 1)]
def inBox (q : Nat × Int) : Prop := q.1 < 2 ∧ -2 ≤ q.2 ∧ q.2 ≤ 1
theorem box_mem {q : Nat × Int} (h : inBox q) : q ∈ box := by
  obtain ⟨a, t⟩ := q
  obtain ⟨h1, h2, h3⟩ := h
  dsimp only at h1 h2 h3
  have e1 : a = 0 ∨ a = 1 := by omega
  have e2 : t = -2 ∨ t = -1 ∨ t = 0 ∨ t = 1 := by omega
  rcases e1 with rfl | rfl <;> rcases e2 with rfl | rfl | rfl | rfl <;> decide
def box2 : List (List (Nat × Int)) := [] :: (box.map fun q => [q]) ++ box.flatMap fun q => box.map fun r => [q, r]
theorem box2_mem {l : List (Nat × Int)} (hl : l.length ≤ 2) (h : ∀ q ∈ l, inBox q) : l ∈ box2 := by
  match l, hl with
  | [], _ => exact List.mem_append_left _ List.mem_cons_self
  | [q], _ => exact List.mem_append_left _ (List.mem_cons_of_mem _ (List.mem_map.mpr ⟨q, box_mem (h q (by simp)), rfl⟩))
  | [q, r], _ => exact List.mem_append_right _ (List.mem_flatMap.mpr ⟨q, box_mem (h q (by simp)), List.mem_map.mpr ⟨r, box_mem (h r (by simp)), rfl⟩⟩)
def menu6 : List Str := ["a", "b", "c", "d", "zz", "m"]
/-- the text of a day -/
def dtx (q : Nat × Int) : Str := (eDy q).shown
/-- the text of the first days -/
def ftx (l : List (Nat × Int)) : Str := (eFirsts l).shown
def unD (s : Str) : Nat × Int := (box.find? fun q => decide (dtx q = s)).getD (0, 0)
def unF (s : Str) : List (Nat × Int) := (box2.find? fun q => decide (ftx q = s)).getD []
def unP (s : Str) : Str := (menu6.find? fun q => decide (reprText q = s)).getD ""
theorem unD_eq : ∀ q ∈ box, unD (dtx q) = q := by decide +kernel
theorem unF_eq : ∀ l ∈ box2, unF (ftx l) = l := by decide +kernel
theorem unP_eq : ∀ p ∈ menu6, unP (reprText p) = p := by decide +kernel
theorem cut_p : ∀ p ∈ menu6, 44 ∉ cod (reprText p) := by decide +kernel
theorem cut_f : ∀ l ∈ box2, ∃ u, cod (ftx l) = u ++ [125] ∧ 125 ∉ u := by
  have h : ∀ l ∈ box2, cod (ftx l) = (cod (ftx l)).dropLast ++ [125] ∧ 125 ∉ (cod (ftx l)).dropLast := by decide +kernel
  exact fun l hl => ⟨_, h l hl⟩
theorem cut_d : ∀ q ∈ box, ∃ u, cod (reprText (dtx q)) = u ++ [41, 39] ∧ 41 ∉ u := by
  have h : ∀ q ∈ box, cod (reprText (dtx q)) = (cod (reprText (dtx q))).dropLast.dropLast ++ [41, 39] ∧ 41 ∉ (cod (reprText (dtx q))).dropLast.dropLast := by decide +kernel
  exact fun q hq => ⟨_, h q hq⟩
def unR (s : Str) : Str := (box.find? fun q => decide (reprText (dtx q) = s)).elim "" dtx
theorem unR_eq : ∀ q ∈ box, unR (reprText (dtx q)) = dtx q := by decide +kernel
theorem size_d : ∀ q ∈ box, (dtx q).length ≤ 10 ∧ (reprText (dtx q)).length ≤ 12 := by decide +kernel
theorem size_f : ∀ l ∈ box2, (ftx l).length ≤ 30 := by decide +kernel
theorem size_p : ∀ p ∈ menu6, (reprText p).length ≤ 10 := by decide +kernel
/-! lists of texts -/
def tl : List Str → List Nat
  | [] => []
  | t :: ts => 44 :: 32 :: (cod t ++ tl ts)
theorem textFrom_tl : ∀ (ts : List Str) (k : Nat) (acc : Str), cod (textFrom (k + 1) acc ts) = cod acc ++ tl ts
  | [], k, acc => by
    show cod acc = cod acc ++ []
    rw [List.append_nil]
  | t :: ts, k, acc => by
    show cod (textFrom (k + 1 + 1) (acc ++ (if k + 1 > 0 then ", " else "" : String) ++ t) ts) = _
    rw [textFrom_tl ts, if_pos (by omega), cod_app, cod_app, tl]
    simp only [List.append_assoc]
    rfl
def hd1 : List Str → List Nat
  | [] => []
  | t :: ts => cod t ++ tl ts
theorem listText_cod (ts : List Str) : cod (listText ts) = 91 :: (hd1 ts ++ [93]) := by
  unfold listText
  rw [cod_app]
  cases ts with
  | nil => rfl
  | cons t ts =>
    show cod (textFrom (0 + 1) (("[" : Str) ++ (if 0 > 0 then ", " else "" : String) ++ t) ts) ++ _ = _
    rw [textFrom_tl ts, if_neg (by omega), cod_app, cod_app]
    rfl
theorem tl_inj : ∀ {ts rs : List Str}, (∀ t ∈ ts, ∃ u, cod t = u ++ [41, 39] ∧ 41 ∉ u) → (∀ t ∈ rs, ∃ u, cod t = u ++ [41, 39] ∧ 41 ∉ u) → tl ts ++ [93] = tl rs ++ [93] → ts = rs
  | [], [], _, _, _ => rfl
  | [], r :: rs, _, _, h => by
    rw [tl, tl] at h
    injection h with h _
    cases h
  | t :: ts, [], _, _, h => by
    rw [tl, tl] at h
    injection h with h _
    cases h
  | t :: ts, r :: rs, ht, hr, h => by
    obtain ⟨u, e1, n1⟩ := ht t List.mem_cons_self
    obtain ⟨v, e2, n2⟩ := hr r List.mem_cons_self
    rw [tl, tl] at h
    injection h with _ h
    injection h with _ h
    rw [e1, e2] at h
    have h : ((u ++ [41, 39]) ++ tl ts) ++ [93] = ((v ++ [41, 39]) ++ tl rs) ++ [93] := h
    simp only [List.append_assoc, List.cons_append, List.nil_append] at h
    obtain ⟨e3, e4⟩ := split_at h n1 n2
    injection e4 with _ e4
    have ih := tl_inj (fun x hx => ht x (List.mem_cons_of_mem _ hx)) (fun x hx => hr x (List.mem_cons_of_mem _ hx)) e4
    rw [ih, cod_inj (show cod t = cod r by rw [e1, e2, e3])]
theorem hd1_inj {ts rs : List Str} (ht : ∀ t ∈ ts, ∃ u, cod t = u ++ [41, 39] ∧ 41 ∉ u) (hr : ∀ t ∈ rs, ∃ u, cod t = u ++ [41, 39] ∧ 41 ∉ u) (h : hd1 ts ++ [93] = hd1 rs ++ [93]) : ts = rs := by
  have key : ∀ (t : Str) (ts : List Str), (∃ u, cod t = u ++ [41, 39] ∧ 41 ∉ u) → [93] ≠ cod t ++ tl ts ++ [93] := by
    rintro t ts ⟨u, e, _⟩ h
    have := congrArg List.length h
    rw [e] at this
    simp at this
    omega
  cases ts with
  | nil =>
    cases rs with
    | nil => rfl
    | cons r rs => exact absurd h (key r rs (hr r List.mem_cons_self))
  | cons t ts =>
    cases rs with
    | nil => exact absurd h.symm (key t ts (ht t List.mem_cons_self))
    | cons r rs =>
      exact tl_inj ht hr (by
        show 44 :: 32 :: (cod t ++ tl ts) ++ [93] = 44 :: 32 :: (cod r ++ tl rs) ++ [93]
        exact congrArg (fun z => 44 :: 32 :: z) h)
theorem shownAll_strs (ts : List Str) : PyData.shownAll (ts.map .str) = ts.map reprText := by
  induction ts with
  | nil => simp [PyData.shownAll]
  | cons t ts ih => simp [PyData.shownAll, PyData.shown, ih]
theorem kD_cod (p : Str) (l : List (Nat × Int)) (ts : List Str) : cod (kD p (fK l) ts).shown = 91 :: (cod (reprText p) ++ 44 :: 32 :: (cod (ftx l) ++ 44 :: 32 :: (91 :: (hd1 (ts.map reprText) ++ [93]) ++ [93]))) := by
  unfold kD
  rw [PyData.shown, listText_cod]
  have e : PyData.shownAll [.str p, dk (fK l), .list (ts.map .str)] = [reprText p, ftx l, listText (ts.map reprText)] := by
    simp only [PyData.shownAll, PyData.shown, shownAll_strs]
    rfl
  rw [e]
  show 91 :: (cod (reprText p) ++ (44 :: 32 :: (cod (ftx l) ++ (44 :: 32 :: (cod (listText (ts.map reprText)) ++ [])))) ++ [93]) = _
  rw [listText_cod]
  simp
theorem kD_inj {p q : Str} {l m : List (Nat × Int)} {ts rs : List Str} {ds es : List (Nat × Int)} (hp : p ∈ menu6) (hq : q ∈ menu6) (hl : l ∈ box2) (hm : m ∈ box2) (hd : ∀ d ∈ ds, d ∈ box) (he : ∀ d ∈ es, d ∈ box) (ht : ts.Perm (ds.map dtx)) (hr : rs.Perm (es.map dtx))
    (h : (kD p (fK l) ts).shown = (kD q (fK m) rs).shown) : p = q ∧ l = m ∧ ds.Perm es := by
  have h := congrArg cod h
  rw [kD_cod, kD_cod] at h
  injection h with _ h
  obtain ⟨e1, h⟩ := split_at h (cut_p p hp) (cut_p q hq)
  injection h with _ h
  obtain ⟨u, eu, nu⟩ := cut_f l hl
  obtain ⟨v, ev, nv⟩ := cut_f m hm
  rw [eu, ev] at h
  simp only [List.append_assoc, List.cons_append, List.nil_append] at h
  obtain ⟨e2, h⟩ := split_at h nu nv
  injection h with _ h
  injection h with _ h
  injection h with _ h
  have h : hd1 (ts.map reprText) ++ [93] = hd1 (rs.map reprText) ++ [93] := by
    have := List.append_cancel_right (as := hd1 (ts.map reprText) ++ [93]) (bs := [93]) (cs := hd1 (rs.map reprText) ++ [93]) (by simpa using h)
    exact this
  have box_t : ∀ {ts : List Str} {ds : List (Nat × Int)}, (∀ d ∈ ds, d ∈ box) → ts.Perm (ds.map dtx) → ∀ t ∈ ts, ∃ q ∈ box, t = dtx q := fun hd ht t hm => by
    obtain ⟨d, hdd, e⟩ := List.mem_map.mp (ht.mem_iff.mp hm)
    exact ⟨d, hd d hdd, e.symm⟩
  have cut : ∀ {ts : List Str}, (∀ t ∈ ts, ∃ q ∈ box, t = dtx q) → ∀ t ∈ ts.map reprText, ∃ u, cod t = u ++ [41, 39] ∧ 41 ∉ u := fun hb t hm => by
    obtain ⟨s, hs, rfl⟩ := List.mem_map.mp hm
    obtain ⟨q, hq, rfl⟩ := hb s hs
    exact cut_d q hq
  have h3 := hd1_inj (cut (box_t hd ht)) (cut (box_t he hr)) h
  have back : ∀ {ts : List Str}, (∀ t ∈ ts, ∃ q ∈ box, t = dtx q) → (ts.map reprText).map unR = ts := fun {ts} hb => by
    rw [List.map_map]
    refine (List.map_congr_left fun t ht => ?_).trans (List.map_id ts)
    obtain ⟨q, hq, rfl⟩ := hb t ht
    exact unR_eq q hq
  have h4 : ts = rs := by rw [← back (box_t hd ht), h3, back (box_t he hr)]
  refine ⟨?_, ?_, ?_⟩
  · rw [← unP_eq p hp, cod_inj e1, unP_eq q hq]
  · have e3 : ftx l = ftx m := cod_inj (by rw [eu, ev, e2])
    rw [← unF_eq l hl, e3, unF_eq m hm]
  · have undo : ∀ {ds : List (Nat × Int)}, (∀ d ∈ ds, d ∈ box) → (ds.map dtx).map unD = ds := fun {ds} hd => by
      rw [List.map_map]
      exact (List.map_congr_left fun d hdd => unD_eq d (hd d hdd)).trans (List.map_id ds)
    have h5 : (ds.map dtx).Perm (es.map dtx) := by
      refine ht.symm.trans ?_
      rw [h4]
      exact hr
    have h6 := h5.map unD
    rw [undo hd, undo he] at h6
    exact h6
end L2.My
end
section
set_option Elab.async false
set_option linter.all false
set_option maxRecDepth 100000
set_option autoImplicit false
/-! D30: the law: once. -/
namespace L2.My
open PySem PySem.Spec PyProof.Rows
section
variable {X : Cx} {B : Hp × Hp} {ρ : List Slot} {ow : Ow} {e : Expr} {pos p : Pos}
theorem ev_sortedSX {ss : List Str} (hm : X.mg "sorted" = none) (ha : EV X B ρ ow e (da (.list (ss.map .str)))) (hl : ss.length < 64) (hg : Gl X "sorted" := by rfl) (hs : starEach [e] X.env = (false, eval e X.env) :: starEach [] X.env := by rfl) :
    EV X B ρ ow (.Call (.Name "sorted" p) [e] [] pos) (exP (fun zs : List Str => zs.Perm ss) fun zs => da (.list (zs.map .str))) :=
  ev_callB cr_sortedS hm (ea_cons ha ea_nil hs) (fun vs G H Q s t k => by
    cases t with
    | cons p t =>
      cases t
      obtain ⟨a, xs, rfl, e1, t1⟩ := dasl_get (show Da G _ (.list (ss.map .str)) from p)
      rw [Das.strs t1] at e1
      exact ⟨_, ss, rfl, .of (s _ _ e1), hl, fun zs q h1 h2 h3 => k _ _ _ (.alloc s h3) ⟨zs, h1, .lst upd_same (Das.of_strs zs)⟩⟩) hg (by decide +kernel) (by decide) (by decide) hs (by rfl)
theorem et_dnotin {l : List (Key × PyData)} {k : Key} {a b : Expr} (hu : X.A.units + 1 < cLine) (hb : EV X B ρ ow b (da (kd k))) (ha : EP X B ρ ow a (da (dk l))) (hm : behindInMarks .NotIn a = false := by rfl) : ET X B ρ ow (.Compare b [.NotIn] [a] pos) (!(lkD l k).isSome) := L2.PT.weak (pt_cmp (pc_dnotin hu hb ha) hm) fun σ H Q ⟨G, ok, q⟩ => ⟨G, ok, fun v2 G1 H1 g1 p2 => ⟨G1, ok.grow g1, fun v1 G2 H2 g2 p1 => by
  obtain ⟨p, kvs, rfl, e, t⟩ := Da.dict (show Da H2 v1 _ from p1)
  have ek : v2 = kV k := by
    have p3 : Da G1 v2 (kd k) := p2
    cases k <;> (cases p3; rfl)
  have es : (valV kvs k).isSome = (lkD l k).isSome := by
    rcases t.val k with ⟨z1, z2⟩ | ⟨v, d', h1, h2, h3⟩
    · rw [z1, z2]; rfl
    · rw [h1, h2]; rfl
  refine ⟨p, _, rfl, by rw [ek]; exact DGet.k e, ?_⟩
  exact ⟨_, rfl, by rw [es]; exact q G2 H2 (g1.trans g2)⟩⟩⟩
end
structure KOk (k : Wk) : Prop where
  last : ∃ r p b, k.stops = r ++ [(p, b)] ∧ p ∈ menu6
  nf : k.firsts.length ≤ 2
  fi : ∀ q ∈ k.firsts, inBox q
  nd : k.days.length ≤ 16
  da : ∀ q ∈ k.days, inBox q
def KeyOf (k : Wk) (s : Str) : Prop := ∃ r p b zs, k.stops = r ++ [(p, b)] ∧ zs.Perm (k.days.map dtx) ∧ s = (kD p (fK k.firsts) zs).shown
theorem key_sim {k j : Wk} (hk : KOk k) (hj : KOk j) (h1 : k.ph = j.ph) (h2 : k.tm = j.tm) {s : Str} (a : KeyOf k s) (b : KeyOf j s) : Sim k j := by
  obtain ⟨r, p, x, zs, e1, z1, e2⟩ := a
  obtain ⟨r', p', x', zs', e1', z1', e2'⟩ := b
  obtain ⟨r1, p1, x1, f1, m1⟩ := hk.last
  obtain ⟨r2, p2, x2, f2, m2⟩ := hj.last
  have lk : ∀ {k : Wk} {r : List (Str × Bool)} {p : Str} {x : Bool}, k.stops = r ++ [(p, x)] → lastP k = some p := fun {k r p x} e => by
    unfold lastP
    rw [e]
    simp
  have ep : p = p1 := Option.some.inj ((lk e1).symm.trans (lk f1))
  have ep' : p' = p2 := Option.some.inj ((lk e1').symm.trans (lk f2))
  obtain ⟨g1, g2, g3⟩ := kD_inj (by rw [ep]; exact m1) (by rw [ep']; exact m2) (box2_mem hk.nf hk.fi) (box2_mem hj.nf hj.fi) (fun d hd => box_mem (hk.da d hd)) (fun d hd => box_mem (hj.da d hd)) z1 z1' (e2.symm.trans e2')
  exact ⟨h1, h2, by rw [lk e1, lk e1', g1], g2, g3⟩
theorem text_len (ts : List Str) : ∀ (k : Nat) (acc : Str) (c : Nat), (∀ t ∈ ts, t.length ≤ c) → (textFrom k acc ts).length ≤ acc.length + ts.length * (c + 2) := by
  induction ts with
  | nil => intro k acc c _; show acc.length ≤ _; omega
  | cons t ts ih =>
    intro k acc c h
    have h1 := ih (k + 1) (acc ++ (if k > 0 then ", " else "" : String) ++ t) c fun x hx => h x (List.mem_cons_of_mem _ hx)
    have h2 := h t List.mem_cons_self
    have h3 : (acc ++ (if k > 0 then ", " else "" : String) ++ t).length ≤ acc.length + 2 + t.length := by
      rw [strLen_append, strLen_append]
      split
      · show acc.length + 2 + t.length ≤ _
        omega
      · show acc.length + 0 + t.length ≤ _
        omega
    have h4 : (t :: ts).length * (c + 2) = ts.length * (c + 2) + (c + 2) := by rw [List.length_cons, Nat.succ_mul]
    show (textFrom (k + 1) (acc ++ (if k > 0 then ", " else "" : String) ++ t) ts).length ≤ _
    omega
theorem listText_le {ts : List Str} {c : Nat} (h : ∀ t ∈ ts, t.length ≤ c) : (listText ts).length ≤ ts.length * (c + 2) + 2 := by
  unfold listText
  rw [strLen_append]
  have := text_len ts 0 "[" c h
  have e : ("[" : Str).length = 1 := rfl
  have e2 : ("]" : Str).length = 1 := rfl
  omega
theorem key_len {k : Wk} (hk : KOk k) {r : List (Str × Bool)} {p : Str} {b : Bool} {zs : List Str} (e1 : k.stops = r ++ [(p, b)]) (hz : zs.Perm (k.days.map dtx)) : (kD p (fK k.firsts) zs).shown.length ≤ sizeLine := by
  obtain ⟨r1, p1, x1, f1, m1⟩ := hk.last
  have ep : p = p1 := by
    have := congrArg (fun l => l.getLast?) (e1.symm.trans f1)
    simp at this
    exact this.1
  have hp := size_p p (by rw [ep]; exact m1)
  have hf := size_f k.firsts (box2_mem hk.nf hk.fi)
  have hzl : zs.length ≤ 16 := by
    rw [hz.length_eq, List.length_map]
    exact hk.nd
  have hzz : ∀ t ∈ zs.map reprText, t.length ≤ 12 := fun t ht => by
    obtain ⟨s, hs, rfl⟩ := List.mem_map.mp ht
    obtain ⟨d, hd, rfl⟩ := List.mem_map.mp (hz.mem_iff.mp hs)
    exact (size_d d (box_mem (hk.da d hd))).2
  have h3 := listText_le hzz
  rw [List.length_map] at h3
  have e : PyData.shownAll [.str p, dk (fK k.firsts), .list (zs.map .str)] = [reprText p, ftx k.firsts, listText (zs.map reprText)] := by
    simp only [PyData.shownAll, PyData.shown, shownAll_strs]
    rfl
  unfold kD
  rw [PyData.shown, e]
  have h4 : (listText [reprText p, ftx k.firsts, listText (zs.map reprText)]).length ≤ 3 * (300 + 2) + 2 := listText_le fun t ht => by
    simp only [List.mem_cons, List.not_mem_nil, or_false] at ht
    rcases ht with rfl | rfl | rfl
    · omega
    · omega
    · omega
  rw [sizeLine_eq]
  omega
structure OnceI (us fd : List Wk) (ks : List Str) : Prop where
  a : ∀ v ∈ fd, v ∈ us
  b : ∀ w ∈ us, ∃ v ∈ fd, Sim w v
  c : ∀ s ∈ ks, ∃ v ∈ fd, KeyOf v s
def knD (ks : List Str) : List (Key × PyData) := ks.map fun s => ((.inr s : Key), PyData.bool true)
theorem lkD_kn (ks : List Str) (s : Str) : (lkD (knD ks) (.inr s)).isSome = decide (s ∈ ks) := by
  unfold lkD knD
  rw [Option.isSome_map, Bool.eq_iff_iff, List.find?_isSome, decide_eq_true_iff]
  constructor
  · rintro ⟨q, hq, e⟩
    obtain ⟨t, ht, rfl⟩ := List.mem_map.mp hq
    have e := of_decide_eq_true e
    injection e with e
    rw [← e]
    exact ht
  · intro h
    exact ⟨_, List.mem_map.mpr ⟨s, h, rfl⟩, decide_eq_true rfl⟩
theorem ptD_kn {ks : List Str} {s : Str} (h : s ∉ ks) : ptD (knD ks) (.inr s) (.bool true) = knD (ks ++ [s]) := by
  unfold ptD
  rw [if_neg]
  · unfold knD
    rw [List.map_append]
    rfl
  · intro z
    obtain ⟨q, hq, e⟩ := List.any_eq_true.mp z
    obtain ⟨t, ht, rfl⟩ := List.mem_map.mp hq
    have e := of_decide_eq_true e
    injection e with e
    exact h (e ▸ ht)
theorem show_firsts {fs : List (Nat × Int)} (h : ∀ q ∈ fs, inBox q) : PyData.showableKv ((fK fs).map fun q => (kd q.1, q.2)) = true := by
  induction fs with
  | nil => simp [PyData.showableKv]
  | cons q fs ih =>
    have hb := box_mem (h q List.mem_cons_self)
    have h1 : ∀ q ∈ box, ((PyData.int ((q.1 : Nat) : Int)).showable && (PyData.int q.2).showable) = true := by decide +kernel
    have h2 := h1 q hb
    have ih := ih fun x hx => h x (List.mem_cons_of_mem _ hx)
    show ((PyData.int ((q.1 : Nat) : Int)).showable && (PyData.int q.2).showable && PyData.showableKv ((fK fs).map fun q => (kd q.1, q.2))) = true
    rw [h2, ih]
    rfl
theorem flat_firsts (fs : List (Nat × Int)) : ∀ q ∈ fK fs, flat q.2 = true := fun q hq => by
  obtain ⟨x, _, rfl⟩ := List.mem_map.mp hq
  rfl
section
variable {P : Program} {w : World} {K : PySem.W.Frag} {mg : Str → Option Value} {base : Heap}
abbrev N_l1 : List Str := ["_law_walks_here", "_law_found", "_law_known", "_law_walk", "_law_days", "_law_key", "_law_day"]
theorem sc_law_once : FnScope N_l1 ["_law_walks_here"] (defScope s_law_once) := ⟨rfl, rfl, rfl, by decide +kernel, rfl, by decide +kernel, by decide +kernel⟩
theorem ok_law_once (T : TX K mg) : DefG P w K mg base "_law_once" 1 ["_law_walks_here"] (spA (fun ws : List Wk => ws.length ≤ 100000 ∧ (∀ k ∈ ws, KOk k) ∧ ∀ k ∈ ws, ∀ j ∈ ws, k.ph = j.ph ∧ k.tm = j.tm) (fun ws => [da (.list (ws.map eWk))]) (fun ws => exP (fun vs : List Wk => Thin ws vs ∧ vs.length ≤ ws.length) fun vs => da (.list (vs.map eWk)))) := by
  refine def_mkG T.d_law_once sc_law_once (fun _ _ _ _ _ _ us hl => match us, hl with | [_], _ => rfl) (fun _ => rfl) (by decide) fun ws ⟨hlen, hok, hsame⟩ f cdv A outer s0 H0 H E B hga hr => ?_
  have hlen : ws.length ≤ 100000 := hlen
  have hu8 : (cxF P w K mg base N_l1 "_law_once" s_law_once f cdv A outer s0 H E).A.units + 8 < cLine := by have := hr.un; omega
  have hu : (cxF P w K mg base N_l1 "_law_once" s_law_once f cdv A outer s0 H E).A.units + 1 < cLine := by omega
  refine sv_parOO (n := 1) (m := 2) (χ := ol []) (ψ := od []) rfl sc_law_once.nd (evo_lst ed_nil (by decide)) (fun p => evo_dnew) fun p q => ?_
  refine sv_for (xs := ws) (g := fun k => da (eWk k)) (vs := [3]) (fun i ρ' ow' => (∃ s3 s4 s5, ρ' = [.val (da (.list (ws.map eWk))), .ptr p, .ptr q, s3, s4, s5, .no]) ∧ ∃ fd ks, OnceI (ws.take i) fd ks ∧ fd.length ≤ i ∧ ks.length ≤ i ∧ ow' = [(q, od (knD ks)), (p, ol (fd.map eWk))])
    PassesOwn.never rfl (if_list (f := eWk) (vv 0)) (pgn 3 sc_law_once.nd) (fun s _ => tg_name (by decide)) ⟨⟨_, _, _, rfl⟩, [], [], ⟨fun v h => (by cases h), fun v h => (by cases h), fun v h => (by cases h)⟩, Nat.le_refl _, Nat.le_refl _, rfl⟩ (fun i k ρ' ow' B' hx hI => ?_) fun ρ' ow' hI => ?_
  · obtain ⟨⟨s3, s4, s5, rfl⟩, fd, ks, hI, hfl, hkl, rfl⟩ := hI
    have hkm := List.mem_of_getElem? hx
    have hil := (List.getElem?_eq_some_iff.mp hx).1
    have hk := hok k hkm
    obtain ⟨r, pl, b, est, hpl⟩ := hk.last
    have hbox : ∀ d ∈ k.days, d ∈ box := fun d hd => box_mem (hk.da d hd)
    have hsh : ∀ d ∈ box, PyData.showableAll [.int ((d.1 : Nat) : Int), .int d.2] = true := by decide +kernel
    refine sv_set (i := 4) (φ := exP (fun zs : List Str => zs.Perm (k.days.map dtx)) fun zs => da (.list (zs.map .str))) sc_law_once.nd (ev_sortedSX (ss := k.days.map dtx) T.b_sorted (ev_eq (ev_lc0 (xs := k.days) (g := fun d => da (eDy d)) (f := fun d => .str (dtx d)) (own := [("_law_day", 6)]) (tgG := gName 6) (fρ := fun d ρ => ρ.set 6 (.val (da (eDy d)))) rfl sc_law_once.nd (it_of (if_list (f := eDy) (ev_wdy (k := k) hu (vv 3)))) (blkOk_by (N := N_l1) (sc := defScope s_law_once) (by decide +kernel)) (fun _ => pgn 6 sc_law_once.nd) (fun d _ => tg_name (by decide))
      (fun d hd b => ev_strTup (ds := [.int (d.1 : Nat), .int d.2]) hga hu8 T.b_str (vv 6) (fun x hx => by
        simp only [List.mem_cons, List.not_mem_nil, or_false] at hx
        rcases hx with rfl | rfl <;> rfl) (hsh d (hbox d hd)) (Nat.le_trans (size_d d (hbox d hd)).1 (by decide))) (by have := hk.nd; exact sz)) (by rw [List.map_map]; rfl)) (by rw [List.length_map]; have := hk.nd; omega)) ?_
    refine sv_open 4 rfl fun zs hz => ?_
    have hz : zs.Perm (k.days.map dtx) := hz
    refine sv_set (i := 5) (φ := da (.str (kD pl (fK k.firsts) zs).shown)) sc_law_once.nd (ev_reprKey hga hu8 T.b_repr (ev_lst (ds := [.str pl, dk (fK k.firsts), .list (zs.map .str)]) (ed_cons (ev_ixT (ds := [.str pl, .bool b]) (ev_ixL (ev_wst (k := k) hu (vv 3)) (ev_neg ev_int) (by rw [est, List.map_append]; exact atI_last _ _)) ev_int rfl) (ed_cons (ev_wfi (k := k) hu (vv 3)) (ed_cons (vv 4) ed_nil))) (by show 3 ≤ sizeLine; decide)) (flat_firsts _) (show_firsts hk.fi) (key_len hk est hz)) ?_
    have hkey : KeyOf k (kD pl (fK k.firsts) zs).shown := ⟨r, pl, b, zs, est, hz, rfl⟩
    generalize (kD pl (fK k.firsts) zs).shown = key at hkey
    have htake : ws.take (i + 1) = ws.take i ++ [k] := take_succ_get hx
    refine sv_if (x := !decide (key ∈ ks)) (et_eq (et_dnotin (k := .inr key) (l := knD ks) hu (vv 5) (ep_od (n := 2) rfl List.mem_cons_self)) (by rw [lkD_kn])) (fun h => ?_) fun h => ?_
    · have hno : key ∉ ks := by simpa using h
      refine sv_setKP (k := .inr key) (d := .bool true) hu ev_bl (pv 2) (vv 5) (by show (knD ks).length < sizeLine; unfold knD; rw [List.length_map]; exact szl) ?_
      rw [ptD_kn hno]
      refine sv_swap ?_
      refine sv_append (i := 1) (d := eWk k) rfl (vv 3) (by rw [List.length_map]; exact szl) ?_
      refine sv_swap (sv_nil (sv_nil ⟨⟨_, _, _, rfl⟩, fd ++ [k], ks ++ [key], ?_, by rw [List.length_append]; simp; omega, by rw [List.length_append]; simp; omega, by rw [List.map_append]; rfl⟩))
      rw [htake]
      refine ⟨fun v hv => ?_, fun v hv => ?_, fun s hs => ?_⟩
      · rcases List.mem_append.mp hv with hv | hv
        · exact List.mem_append_left _ (hI.a v hv)
        · exact List.mem_append_right _ hv
      · rcases List.mem_append.mp hv with hv | hv
        · obtain ⟨u, hu, hs⟩ := hI.b v hv
          exact ⟨u, List.mem_append_left _ hu, hs⟩
        · rw [List.mem_singleton.mp hv]
          exact ⟨k, List.mem_append_right _ List.mem_cons_self, Sim.refl k⟩
      · rcases List.mem_append.mp hs with hs | hs
        · obtain ⟨u, hu, hs⟩ := hI.c s hs
          exact ⟨u, List.mem_append_left _ hu, hs⟩
        · rw [List.mem_singleton.mp hs]
          exact ⟨k, List.mem_append_right _ List.mem_cons_self, hkey⟩
    · have hyes : key ∈ ks := by simpa using h
      obtain ⟨u, hu, huk⟩ := hI.c key hyes
      have hum := List.mem_of_mem_take (hI.a u hu)
      obtain ⟨e1, e2⟩ := hsame k hkm u hum
      refine sv_nil (sv_nil ⟨⟨_, _, _, rfl⟩, fd, ks, ?_, by omega, by omega, rfl⟩)
      rw [htake]
      refine ⟨fun v hv => List.mem_append_left _ (hI.a v hv), fun v hv => ?_, hI.c⟩
      rcases List.mem_append.mp hv with hv | hv
      · exact hI.b v hv
      · rw [List.mem_singleton.mp hv]
        exact ⟨u, hu, key_sim hk (hok u hum) e1 e2 hkey huk⟩
  · obtain ⟨⟨s3, s4, s5, rfl⟩, fd, ks, hI, hfl, hkl, rfl⟩ := hI
    rw [List.take_length] at hI
    refine sv_swap (sv_freeze (i := 1) rfl ?_)
    exact sv_ret (vv 1) fun H v h => ⟨fd, ⟨⟨hI.a, hI.b⟩, hfl⟩, h⟩
end
end L2.My
end
section
set_option Elab.async false
set_option linter.all false
set_option maxRecDepth 100000
set_option autoImplicit false
/-! LayT: dicts as values. -/
namespace L2.My
open PySem PySem.Spec PyProof.Rows
section
variable {X : Cx} {B : Hp × Hp} {ρ : List Slot} {ow : Ow} {pos : Pos}
theorem Gr.put {G H G' H' : Hp} {p : Addr} {o o' : HO} (s : Same G H) (hn : H p = none) (g : Gr (G, upd H p o) G' H') (hp : H' p = some o) : Gr (G, H) (upd G' p o') (upd H' p o') := by
  have gn : G p = none := s.free hn
  have gn' : G' p = none := g.n p gn (by rw [show (G, upd H p o).2 p = upd H p o p from rfl, upd_same]; simp)
  refine ⟨fun b u e => ?_, fun b u e => ?_, fun b u e => ?_, fun a h1 h2 => ?_⟩
  · rw [upd_ne (ne_of_none e gn)]
    exact g.g b u e
  · rw [upd_ne (ne_of_none e hn)]
    exact g.h b u (by rw [show (G, upd H p o).2 b = upd H p o b from rfl, upd_ne (ne_of_none e hn)]; exact e)
  · by_cases hb : b = p
    · subst hb
      rw [upd_same] at e ⊢
      exact e
    · rw [upd_ne hb] at e ⊢
      exact g.s b u e
  · have ne : a ≠ p := fun z => h2 (by rw [z]; exact hn)
    rw [upd_ne ne]
    exact g.n a h1 (by rw [show (G, upd H p o).2 a = upd H p o a from rfl, upd_ne ne]; exact h2)
theorem ev_disp {keys : List (Option Expr)} {values : List Expr} {l : List (Key × PyData)} (h : DL X B ρ ow keys values l) (h0 : l ≠ []) (h15 : l.length ≤ 15) (nd : (l.map (·.1)).Nodup) : EV X B ρ ow (.Dict keys values pos) (da (dk l)) := by
  obtain ⟨l1, l2, l3⟩ := h.len
  obtain ⟨trs, hp, hr⟩ := h.pps (pos := pos)
  refine L2.PE.weak (pe_disp hp l3 (l1.trans l2.symm) (fun e => h0 (List.eq_nil_of_length_eq_zero (by rw [← l1, e]; rfl))) (by omega)) fun σ H Q ⟨G, ok, k⟩ p hn => ?_
  have ok1 := ok.mk_own (ψ := od []) hn ⟨[], rfl, .nil⟩
  refine hr G σ _ _ ok1.drop fun kvs G' H' g t => ?_
  have e : mergeK [] kvs = kvs := mergeK_nodup kvs [] (by rw [t.keys]; simpa using nd)
  have at_ : H' p = some (.dK []) := g.h _ _ upd_same
  refine ⟨at_, kvs, rfl, by rw [t.length]; omega, ?_⟩
  rw [e]
  have gg : Gr (G, H) (upd G' p (.dK kvs)) (upd H' p (.dK kvs)) := Gr.put ok.gr.s hn g at_
  have hgn : G' p = none := g.n p (ok.gr.s.free hn) (by rw [show (G, upd H p (.dK [])).2 p = upd H p (.dK []) p from rfl, upd_same]; simp)
  exact k (.ref p) _ _ gg (.of_dict upd_same (t.mono fun b u e => by rw [upd_ne (ne_of_none e hgn)]; exact e))
theorem ev_dnew : EV X B ρ ow (.Dict [] [] pos) (da (dk [])) := L2.PE.weak pe_dnewK fun σ H Q ⟨G, ok, k⟩ p hn => k (.ref p) _ _ (.alloc ok.gr.s hn) (.of_dict upd_same .nil)
end
end L2.My
end
section
set_option Elab.async false
set_option linter.all false
set_option maxRecDepth 100000
set_option autoImplicit false
/-! LayF: a loop over a list known up to a choice. -/
namespace L2.My
open PySem PySem.Spec PyProof.Rows
def tIFX {α β : Type} (B : Hp × Hp) (ρ : List Slot) (ow : Ow) (p : β → Prop) (xs : β → List α) (g : α → Pr) : TI := fun σ H R => ∃ G, Ok B ρ ow G σ H ∧ ∀ z J G' H', p z → Gr (G, H) G' H' → ItG J (fun Ga _ => Same G' Ga) (xs z) g → R J H'
section
variable {α β : Type} {X : Cx} {B : Hp × Hp} {ρ : List Slot} {ow : Ow} {tg iter : Expr} {p : β → Prop} {xs : β → List α} {g : α → Pr} {pos : Pos} {rest : List Stmt} {D : Out}
theorem if_listX {f : α → PyData} (h : EV X B ρ ow iter (exP p fun z => da (.list ((xs z).map f)))) : PI X tg iter (tIFX B ρ ow p xs fun x => da (f x)) := L2.PI.weak (pi_list h) fun σ H R ⟨G, ok, k⟩ => ⟨G, ok, fun v G1 H1 g1 ⟨z, hz, p1⟩ => by
  obtain ⟨a, vs, rfl, e, t⟩ := dasl_get (show Da G1 v (.list ((xs z).map f)) from p1)
  have hl : vs.length = (xs z).length := by rw [t.length, List.length_map]
  refine ⟨a, rfl, ⟨vs, .of (g1.s _ _ e)⟩, k z _ G1 H1 hz g1 ⟨fun i Ga Ha hi s sm => ?_, fun Ga Ha s sm => ?_, fun i x0 Ga Ha x H' hx s sm y => ?_⟩⟩
  · exact ⟨vs, vs[i]'(by omega), .of (sm _ _ (s _ _ e)), by simp⟩
  · exact ⟨vs, .of (sm _ _ (s _ _ e)), by omega⟩
  · obtain ⟨rfl, y⟩ := y
    obtain ⟨d, h1, h2⟩ := (t.mono s).getV (y vs (.of (sm _ _ (s _ _ e))))
    rw [List.getElem?_map, hx] at h1
    cases h1
    exact ⟨Ga, .refl sm, h2⟩⟩
theorem sv_forX {body : List Stmt} {tgG : TG} {fρ : α → List Slot → List Slot} {vs : List Nat} (Iv : β → Nat → List Slot → Ow → Prop) (hp : PassesOwn (model X.prog X.w) X.A X.env X.xe) (hc : X.calm = true) (hi : PI X tg iter (tIFX B ρ ow p xs g)) (hg : PG X tg tgG)
    (htg : ∀ z, p z → ∀ x ∈ xs z, TgOk tgG (g x) (fρ x) vs) (h0 : ∀ z, p z → Iv z 0 ρ ow)
    (hb : ∀ z, p z → ∀ i x ρ' ow' B', (xs z)[i]? = some x → Iv z i ρ' ow' → SV X B' (fρ x ρ') ow' body { nx := Iv z (i + 1), ct := Iv z (i + 1), bk := fun ρ' ow' => SV X B ρ' ow' rest D, rt := D.rt, ro := D.ro })
    (hd : ∀ z, p z → ∀ ρ' ow', Iv z (xs z).length ρ' ow' → SV X B ρ' ow' rest D) (hs : ∀ x, foldedSetIterable iter X.env x = pure x := by intro _; rfl) : SV X B ρ ow (.For tg iter body [] pos :: rest) D := by
  refine sv_step (ps_for (tb := wSs X body) hp hc hi hg pss_w hs) fun E σ H ⟨⟨G, ok⟩, o⟩ => ⟨G, ok, fun z J G1 H1 hz g1 w => ?_⟩
  have hb := hb z hz
  have hd := hd z hz
  have htg := htg z hz
  have h0 := h0 z hz
  generalize Iv z = Iz at hb hd h0
  generalize xs z = ys at hb hd htg w
  refine ⟨fun i m σ H => m = ys.length - i ∧ i ≤ ys.length ∧ ∃ ρ' ow' G', Iz i ρ' ow' ∧ Ok B ρ' ow' G' σ H ∧ Same G1 G', ⟨ys.length, rfl, Nat.zero_le _, ρ, ow, G1, h0, ok.grow g1, Same.refl _⟩, ?_⟩
  rintro i m σ2 H2 ⟨rfl, hle, ρ', ow', G2, iv, ok2, sg⟩
  by_cases hlt : i < ys.length
  · have hx : ys[i]? = some ys[i] := List.getElem?_eq_getElem hlt
    refine .inr ⟨w.goes i G2 H2 hlt sg ok2.gr.s, fun σ' H' => i + 1 ≤ ys.length ∧ ∃ ρ' ow' G', Iz (i + 1) ρ' ow' ∧ Ok B ρ' ow' G' σ' H' ∧ Same G1 G', fun σ' H' q => ⟨ys.length - (i + 1), by omega, rfl, q⟩, fun v H3 y => ?_⟩
    obtain ⟨G3, g3, p3⟩ := w.yields i _ G2 H2 v H3 hx sg ok2.gr.s y
    have ok3 := ok2.grow g3
    refine htg _ (List.getElem_mem hlt) B ρ' ow' G3 σ2 H3 v _ ok3 p3 fun σ3 ok4 _ => ?_
    refine L2.PSs.to (hb i _ ρ' ow' (G3, B.2) hx iv) ⟨⟨G3, ok4.rebase⟩, ⟨fun ρ5 ow5 G5 σ5 H5 q ok5 => ⟨hlt, ρ5, ow5, G5, q, ok5.base ok3.gr, (sg.trans g3.g).trans ok5.gr.g⟩, fun u ow5 G5 H5 ro oo gr q => o.rt u ow5 G5 H5 ro (fun r hr => ⟨(oo r hr).new, (oo r hr).out, (oo r hr).at_⟩) (gr.base ok3.gr) q, fun ρ5 ow5 G5 σ5 H5 q ok5 => sv_go q (ok5.base ok3.gr) o, fun ρ5 ow5 G5 σ5 H5 q ok5 => ⟨hlt, ρ5, ow5, G5, q, ok5.base ok3.gr, (sg.trans g3.g).trans ok5.gr.g⟩⟩⟩
  · have e : i = ys.length := by omega
    subst e
    exact .inl ⟨w.stops G2 H2 sg ok2.gr.s, sv_go (hd _ _ iv) ok2 o⟩
end
end L2.My
end
section
set_option Elab.async false
set_option linter.all false
set_option maxRecDepth 100000
set_option autoImplicit false
/-! P28: the law's maps, the levels of their walks. -/
namespace L2.My
open PySem PySem.Spec PyProof.Rows
structure LawM (m : Mp) : Prop where
  ok : MpOk m
  pl : ∀ s ∈ m.areas.flatten, s ∈ menu6
  np : m.areas.flatten.length ≤ 3
  na : m.areas.length ≤ 2
  ln : m.len ≤ 2
  ou : ∀ o ∈ m.outs, ∀ i, o = some i → i ≤ 2
structure LvOk (m : Mp) (ph : Int) (t : Nat) (k : Wk) : Prop where
  ph : k.ph = ph
  tm : k.tm = -lawLast m + t
  st : k.stops.length = t
  pl : ∀ x ∈ k.stops, x.1 ∈ m.areas.flatten
  fk : (k.firsts.map (·.1)).Nodup
  fi : ∀ q ∈ k.firsts, inBox q
  nd : k.days.length ≤ t
  da : ∀ q ∈ k.days, inBox q
theorem last_two {m : Mp} (hm : LawM m) : 0 ≤ lawLast m ∧ lawLast m ≤ 2 := by
  refine ⟨by rw [last_eq hm.ok]; exact last_nn hm.ok, ?_⟩
  unfold lawLast
  rw [maxO_fold]
  refine mx_le (by decide) fun x hx => ?_
  obtain ⟨o, ho, e⟩ := List.mem_filterMap.mp hx
  exact hm.ou o ho x e
theorem lv_first (m : Mp) (ph : Int) : LvOk m ph 0 (wk0 m ph) := ⟨rfl, by show -lawLast m = _; omega, rfl, fun x hx => (by cases hx), List.nodup_nil, fun x hx => (by cases hx), Nat.le_refl _, fun x hx => (by cases hx)⟩
theorem ptF_keys (fs : List (Nat × Int)) (a : Nat) (v : Int) (h : (fs.map (·.1)).Nodup) : ((ptF fs a v).map (·.1)).Nodup := by
  unfold ptF
  split
  · rw [List.map_map]
    have e : ((fun q : Nat × Int => q.1) ∘ fun q => if q.1 = a then (q.1, v) else q) = fun q => q.1 := by
      funext q
      show (if q.1 = a then (q.1, v) else q).1 = q.1
      split <;> rfl
    rw [e]
    exact h
  · next hn =>
    rw [List.map_append]
    refine List.nodup_append.mpr ⟨h, by simp, fun x hx y hy e => hn ?_⟩
    obtain ⟨q, hq, rfl⟩ := List.mem_map.mp hx
    have hy : y = a := by simpa using hy
    exact List.any_eq_true.mpr ⟨q, hq, decide_eq_true (e.trans hy)⟩
theorem ptF_mem {fs : List (Nat × Int)} {a : Nat} {v : Int} {q : Nat × Int} (h : q ∈ ptF fs a v) : q ∈ fs ∨ q = (a, v) := by
  unfold ptF at h
  split at h
  · obtain ⟨r, hr, e⟩ := List.mem_map.mp h
    split at e
    · next ha => right; rw [← e, ha]
    · left; rw [← e]; exact hr
  · rcases List.mem_append.mp h with h | h
    · exact .inl h
    · exact .inr (List.mem_singleton.mp h)
theorem getF_mem {fs : List (Nat × Int)} {a : Nat} {v : Int} (h : getF fs a = some v) : (a, v) ∈ fs := by
  unfold getF at h
  cases e : fs.find? fun q => decide (q.1 = a) with
  | none => rw [e] at h; cases h
  | some q =>
    rw [e] at h
    have h1 := List.mem_of_find?_eq_some e
    have h2 := List.find?_some e
    have h3 : q.1 = a := of_decide_eq_true h2
    have h4 : q.2 = v := Option.some.inj h
    rw [← h3, ← h4]
    exact h1
theorem lv_on {m : Mp} (hm : LawM m) {ph : Int} (h0 : 0 ≤ ph) (h1 : ph < m.len) {t : Nat} (ht : (t : Int) < 2 * lawLast m) {k : Wk} (h : LvOk m ph t k) {p : Str} (hp : p ∈ m.areas.flatten) (b : Bool) : LvOk m ph (t + 1) (onW m k p b) := by
  obtain ⟨l0, l2⟩ := last_two hm
  have ha := areaOf_lt hp
  have hna := hm.na
  have hstop : ∀ x ∈ k.stops ++ [(p, b)], x.1 ∈ m.areas.flatten := fun x hx => by
    rcases List.mem_append.mp hx with hx | hx
    · exact h.pl x hx
    · rw [List.mem_singleton.mp hx]; exact hp
  have hslen : (k.stops ++ [(p, b)]).length = t + 1 := by rw [List.length_append, h.st]; rfl
  have htm : k.tm + 1 = -lawLast m + ((t + 1 : Nat) : Int) := by rw [h.tm]; omega
  have hb := hm.ok.bords
  have hbord : 0 ≤ bordAt m (areaOf m.areas p) ∧ bordAt m (areaOf m.areas p) ≤ m.len - 1 := by
    unfold bordAt
    rw [getD_eq_getElem' (by rw [hb.1]; exact ha)]
    exact hb.2 _ (List.getElem_mem _)
  have hl1 := hm.ok.len
  have hl2 := hm.ln
  have hday : inBox (areaOf m.areas p, dayL m (areaOf m.areas p) k.ph k.tm) := by
    refine ⟨by show areaOf m.areas p < 2; omega, ?_, ?_⟩
    · show -2 ≤ (k.tm + k.ph - bordAt m (areaOf m.areas p)) / m.len
      rw [h.ph, h.tm]
      rcases (by omega : m.len = 1 ∨ m.len = 2) with e | e
      · rw [e, Int.ediv_one]; omega
      · rw [e]; omega
    · show (k.tm + k.ph - bordAt m (areaOf m.areas p)) / m.len ≤ 1
      rw [h.ph, h.tm]
      rcases (by omega : m.len = 1 ∨ m.len = 2) with e | e
      · rw [e, Int.ediv_one]; omega
      · rw [e]; omega
  cases b with
  | false => exact ⟨h.ph, htm, hslen, hstop, h.fk, h.fi, Nat.le_succ_of_le h.nd, h.da⟩
  | true =>
    refine ⟨h.ph, htm, hslen, hstop, ptF_keys _ _ _ h.fk, fun q hq => ?_, ?_, fun q hq => ?_⟩
    · rcases ptF_mem hq with hq | rfl
      · exact h.fi q hq
      · cases e : getF k.firsts (areaOf m.areas p) with
        | some v => exact h.fi _ (getF_mem e)
        | none =>
          refine ⟨by show areaOf m.areas p < 2; omega, ?_, ?_⟩
          · show -2 ≤ k.tm
            rw [h.tm]; omega
          · show k.tm ≤ 1
            rw [h.tm]; omega
    · show (if _ ∈ k.days then k.days else k.days ++ _).length ≤ t + 1
      split
      · exact Nat.le_succ_of_le h.nd
      · rw [List.length_append]
        have := h.nd
        simp
        exact this
    · have hq : q ∈ (if (areaOf m.areas p, dayL m (areaOf m.areas p) k.ph k.tm) ∈ k.days then k.days else k.days ++ [(areaOf m.areas p, dayL m (areaOf m.areas p) k.ph k.tm)]) := hq
      split at hq
      · exact h.da q hq
      · rcases List.mem_append.mp hq with hq | hq
        · exact h.da q hq
        · rw [List.mem_singleton.mp hq]; exact hday
theorem nodup_two {l : List Nat} (hn : l.Nodup) (h : ∀ x ∈ l, x < 2) : l.length ≤ 2 := by
  match l, hn with
  | [], _ => exact Nat.zero_le _
  | [_], _ => exact Nat.le_succ _
  | [_, _], _ => exact Nat.le_refl _
  | a :: b :: c :: l, hn =>
    have ha := h a (by simp)
    have hb := h b (by simp)
    have hc := h c (by simp)
    simp only [List.nodup_cons, List.mem_cons, not_or] at hn
    omega
theorem lv_kok {m : Mp} (hm : LawM m) {ph : Int} {t : Nat} {k : Wk} (h : LvOk m ph (t + 1) k) (ht : t ≤ 10) : KOk k := by
  refine ⟨?_, ?_, h.fi, by have := h.nd; omega, h.da⟩
  · have hs := h.st
    rcases List.eq_nil_or_concat k.stops with e | ⟨r, b, e⟩
    · rw [e] at hs; cases hs
    · refine ⟨r, b.1, b.2, by rw [e, List.concat_eq_append], hm.pl _ (h.pl b (by rw [e]; simp))⟩
  · have := nodup_two h.fk fun x hx => by
      obtain ⟨q, hq, rfl⟩ := List.mem_map.mp hx
      exact (h.fi q hq).1
    rw [List.length_map] at this
    exact this
theorem nextW_len {m : Mp} (hm : LawM m) (k : Wk) : (nextW m k).length ≤ 6 := by
  have h3 : (nearW m k).length ≤ 3 := by
    refine Nat.le_trans ?_ hm.np
    unfold nearW
    split
    · exact Nat.le_refl _
    · exact List.length_filter_le _ _
  unfold nextW
  have gen : ∀ l : List Str, (l.flatMap fun p => onW m k p false :: (if mayL m k.firsts (areaOf m.areas p) k.tm = true then [onW m k p true] else [])).length ≤ 2 * l.length := by
    intro l
    induction l with
    | nil => exact Nat.le_refl _
    | cons p l ih =>
      rw [List.flatMap_cons, List.length_append, List.length_cons, List.length_cons]
      split
      · simp only [List.length_cons, List.length_nil]; omega
      · simp only [List.length_nil]; omega
  have := gen (nearW m k)
  omega
theorem nexts_len {m : Mp} (hm : LawM m) (vs : List Wk) : (vs.flatMap (nextW m)).length ≤ 6 * vs.length := by
  induction vs with
  | nil => exact Nat.le_refl _
  | cons k vs ih =>
    rw [List.flatMap_cons, List.length_append, List.length_cons]
    have := nextW_len hm k
    omega
structure LevI (m : Mp) (ph : Int) (t : Nat) (vs : List Wk) : Prop where
  like : Like (levW m ph t) vs
  ok : ∀ k ∈ vs, LvOk m ph t k
  len : vs.length ≤ 6 ^ t
theorem levI_first (m : Mp) (ph : Int) : LevI m ph 0 [wk0 m ph] := by
  refine ⟨⟨fun v hv => ⟨v, hv, Sim.refl v⟩, fun v hv => ⟨v, hv, Sim.refl v⟩⟩, fun k hk => ?_, Nat.le_refl _⟩
  rw [List.mem_singleton.mp hk]
  exact lv_first m ph
theorem next_lv {m : Mp} (hm : LawM m) {ph : Int} (h0 : 0 ≤ ph) (h1 : ph < m.len) {t : Nat} (ht : (t : Int) < 2 * lawLast m) {vs : List Wk} (h : ∀ k ∈ vs, LvOk m ph t k) : ∀ k ∈ vs.flatMap (nextW m), LvOk m ph (t + 1) k := fun k hk => by
  obtain ⟨j, hj, hk⟩ := List.mem_flatMap.mp hk
  obtain ⟨p, hp, hk⟩ := List.mem_flatMap.mp hk
  have hpf := nearW_mem hp
  rcases List.mem_cons.mp hk with rfl | hk
  · exact lv_on hm h0 h1 ht (h j hj) hpf false
  · split at hk
    · rw [List.mem_singleton.mp hk]
      exact lv_on hm h0 h1 ht (h j hj) hpf true
    · cases hk
theorem levI_next {m : Mp} (hm : LawM m) {ph : Int} (h0 : 0 ≤ ph) (h1 : ph < m.len) {t : Nat} (ht : (t : Int) < 2 * lawLast m) {vs us : List Wk} (h : LevI m ph t vs) (hu : Thin (vs.flatMap (nextW m)) us) (hl : us.length ≤ (vs.flatMap (nextW m)).length) : LevI m ph (t + 1) us := by
  refine ⟨like_next h.like hu, fun k hk => next_lv hm h0 h1 ht h.ok k (hu.1 k hk), ?_⟩
  have h2 := nexts_len hm vs
  have h3 := h.len
  rw [Nat.pow_succ]
  omega
end L2.My
end
section
set_option Elab.async false
set_option linter.all false
set_option maxRecDepth 100000
set_option autoImplicit false
/-! D31: the law: walks. -/
namespace L2.My
open PySem PySem.Spec PyProof.Rows
theorem menu_ok : ∀ p ∈ menu6, PyData.strOk p = true := by decide +kernel
theorem nods_eSt (ds : List (Str × Bool)) : nods (ds.map eSt) = true := by
  induction ds with
  | nil => rfl
  | cons p ps ih => rw [List.map_cons, nods, ih]; rfl
theorem shaped_eSts (ds : List (Str × Bool)) (h : ∀ x ∈ ds, PyData.strOk x.1 = true) : SeqAt.shaped (.list (ds.map eSt)) = true := by
  have h1 : PyData.canLayAll0 (ds.map eSt) = true := by
    induction ds with
    | nil => simp [PyData.canLayAll0]
    | cons p ps ih =>
      rw [List.map_cons, PyData.canLayAll0, ih fun q hq => h q (List.mem_cons_of_mem _ hq)]
      simp [eSt, PyData.canLay0, PyData.canLayAll0, h p List.mem_cons_self]
  have h2 : PyData.depthAll (ds.map eSt) ≤ 1 := by
    clear h1 h
    induction ds with
    | nil => simp [PyData.depthAll]
    | cons p ps ih =>
      rw [List.map_cons, PyData.depthAll]
      have : (eSt p).depth = 1 := by simp [eSt, PyData.depth, PyData.depthAll]
      omega
  show ((PyData.list (ds.map eSt)).canLay0 && decide ((PyData.list (ds.map eSt)).depth ≤ 64)) = true
  rw [Bool.and_eq_true]
  refine ⟨by simp only [PyData.canLay0]; exact h1, decide_eq_true ?_⟩
  simp only [PyData.depth]
  omega
theorem eqv_eSt_nil (l : List (Str × Bool)) : PyData.eqv (.list (l.map eSt)) (.list []) = l.isEmpty := by
  cases l <;> simp [PyData.eqv, PyData.eqvAll]
theorem wk_nd : ([.inr "phase", .inr "time", .inr "stops", .inr "firsts", .inr "days"] : List Key).Nodup := by decide
theorem step_len (m : Mp) (k : Wk) (l : List Str) : (l.flatMap (stepW m k)).length ≤ 2 * l.length := by
  induction l with
  | nil => exact Nat.le_refl _
  | cons p l ih =>
    rw [List.flatMap_cons, List.length_append, List.length_cons]
    have : (stepW m k p).length ≤ 2 := by
      unfold stepW
      split <;> simp
    omega
section
variable {P : Program} {w : World} {K : PySem.W.Frag} {mg : Str → Option Value} {base : Heap}
abbrev N_lk : List Str := ["_law_m", "_law_last_here", "_law_found", "_law_phase", "_law_level", "_law_turn", "_law_later", "_law_walk", "_law_near", "_law_place"]
theorem sc_law_walks : FnScope N_lk ["_law_m"] (defScope s_law_walks) := ⟨rfl, rfl, rfl, by decide +kernel, rfl, by decide +kernel, by decide +kernel⟩
theorem ok_law_walks (T : TX K mg) : DefG P w K mg base "_law_walks" 3 ["_law_m"] (spA (fun m : Mp => LawM m) (fun m => [da (eLM m)]) (fun m => exP (fun us : List Wk => Like (allW m) us ∧ us.length ≤ 10000 ∧ ∀ u ∈ us, u.days.length ≤ 16) fun us => da (.list (us.map eWk)))) := by
  refine def_mkG T.d_law_walks sc_law_walks (fun _ _ _ _ _ _ us hl => match us, hl with | [_], _ => rfl) (fun _ => rfl) (by decide) fun m hm f cdv A outer s0 H0 H E B hga hr => ?_
  have hm : LawM m := hm
  obtain ⟨l0, l2⟩ := last_two hm
  have hln := hm.ok.len
  have hln2 := hm.ln
  have hnp := hm.np
  have hu64 : (cxF P w K mg base N_lk "_law_walks" s_law_walks f cdv A outer s0 H E).A.units + 64 < cLine := hr.units
  have hu : (cxF P w K mg base N_lk "_law_walks" s_law_walks f cdv A outer s0 H E).A.units + 1 < cLine := by omega
  refine sv_parP (n := 1) (m := 2) (φ := da (.int (lawLast m))) (ψ := da (.list [])) rfl sc_law_walks.nd (ea2 (ev_call (ok_law_last T) m True.intro (hr.mono (by decide)) (ea1 (vv 0))) (ev_lst ed_nil (by decide))) ?_
  refine sv_for (xs := List.range m.len.toNat) (g := fun a => da (.int (a : Nat))) (vs := [3]) (fun i ρ' ow' => (∃ s3 s4 s5 s6 s7 s8 s9 us, ρ' = [.val (da (eLM m)), .val (da (.int (lawLast m))), .val (da (.list (us.map eWk))), s3, s4, s5, s6, s7, s8, s9] ∧ Like (((List.range m.len.toNat).take i).flatMap fun ph => levW m (ph : Nat) (2 * lawLast m).toNat) us ∧ us.length ≤ i * 1296 ∧ ∀ u ∈ us, u.days.length ≤ 16) ∧ ow' = [])
    PassesOwn.never rfl (if_range1 T.b_range (ev_eq (ev_size (m := m) hu (vv 0)) (congrArg PyData.int (by omega))) (by omega)) (pgn 3 sc_law_walks.nd) (fun s _ => tg_name (by decide)) ⟨⟨_, _, _, _, _, _, _, [], rfl, ⟨fun v h => (by cases h), fun v h => (by cases h)⟩, Nat.le_refl _, fun u h => (by cases h)⟩, rfl⟩ (fun i ph ρ' ow' B' hx hI => ?_) fun ρ' ow' hI => ?_
  · obtain ⟨⟨s3, s4, s5, s6, s7, s8, s9, us, rfl, hlike, hul, hud⟩, rfl⟩ := hI
    have hphm := List.mem_range.mp (List.mem_of_getElem? hx)
    have hph1 : ((ph : Nat) : Int) < m.len := by omega
    have hil := (List.getElem?_eq_some_iff.mp hx).1
    rw [List.length_range] at hil
    refine sv_set (i := 4) (φ := da (.list ([wk0 m (ph : Nat)].map eWk))) sc_law_walks.nd (ev_lst (ds := [eWk (wk0 m (ph : Nat))]) (ed_cons (ev_eq (ev_disp (l := [(.inr "phase", .int (ph : Nat)), (.inr "time", .int (0 - lawLast m)), (.inr "stops", .list []), (.inr "firsts", dk []), (.inr "days", .list [])]) (.cons ev_str (vv 3) (.cons ev_str (ev_sub ev_int (vv 1)) (.cons ev_str (ev_lst ed_nil (by decide)) (.cons ev_str ev_dnew (.cons ev_str (ev_lst ed_nil (by decide)) .nil))))) (by simp) (show 5 ≤ 15 by decide) wk_nd) (by
      show dk _ = dk _
      unfold wkK wk0
      rw [Int.zero_sub]
      rfl)) ed_nil) (by show 1 ≤ sizeLine; decide)) ?_
    refine sv_for (xs := List.range (2 * lawLast m).toNat) (g := fun a => da (.int (a : Nat))) (vs := [5]) (fun t ρ' ow' => (∃ s5 s6 s7 s8 s9 vs, ρ' = [.val (da (eLM m)), .val (da (.int (lawLast m))), .val (da (.list (us.map eWk))), .val (da (.int (ph : Nat))), .val (da (.list (vs.map eWk))), s5, s6, s7, s8, s9] ∧ LevI m (ph : Nat) t vs) ∧ ow' = [])
      PassesOwn.never rfl (if_range1 T.b_range (ev_eq (ev_mul ev_int (vv 1) (.inl ⟨by decide, by decide⟩)) (congrArg PyData.int (by omega))) (by omega)) (pgn 5 sc_law_walks.nd) (fun s _ => tg_name (by decide)) ⟨⟨_, _, _, _, _, _, rfl, levI_first m _⟩, rfl⟩ (fun t tt ρ' ow' B2 htx hI => ?_) fun ρ' ow' hI => ?_
    · obtain ⟨⟨s5, s6, s7, s8, s9, vs, rfl, hlv⟩, rfl⟩ := hI
      have htl := (List.getElem?_eq_some_iff.mp htx).1
      rw [List.length_range] at htl
      have ht2 : ((t : Nat) : Int) < 2 * lawLast m := by omega
      have ht4 : t ≤ 3 := by omega
      have hvl : vs.length ≤ 216 := Nat.le_trans hlv.len (Nat.pow_le_pow_right (by decide) ht4)
      refine sv_ownL (i := 6) sc_law_walks.nd ed_nil (by decide) fun p => ?_
      refine sv_for (xs := vs) (g := fun k => da (eWk k)) (vs := [7]) (fun j ρ' ow' => (∃ s7 s8 s9, ρ' = [.val (da (eLM m)), .val (da (.int (lawLast m))), .val (da (.list (us.map eWk))), .val (da (.int (ph : Nat))), .val (da (.list (vs.map eWk))), .val (da (.int (tt : Nat))), .ptr p, s7, s8, s9]) ∧ ow' = [(p, ol (((vs.take j).flatMap (nextW m)).map eWk))])
        PassesOwn.never rfl (if_list (f := eWk) (vv 4)) (pgn 7 sc_law_walks.nd) (fun s _ => tg_name (by decide)) ⟨⟨_, _, _, rfl⟩, rfl⟩ (fun j k ρ' ow' B3 hjx hI => ?_) fun ρ' ow' hI => ?_
      · obtain ⟨⟨s7, s8, s9, rfl⟩, rfl⟩ := hI
        have hkm := List.mem_of_getElem? hjx
        have hk := hlv.ok k hkm
        have hstr : ∀ x ∈ k.stops, PyData.strOk x.1 = true := fun x hx => menu_ok _ (hm.pl _ (hk.pl x hx))
        have hfl : k.firsts.length ≤ 2 := by
          have := nodup_two hk.fk fun x hx => by
            obtain ⟨q, hq, rfl⟩ := List.mem_map.mp hx
            exact (hk.fi q hq).1
          rw [List.length_map] at this
          exact this
        have hkst := hk.st
        have hknd := hk.nd
        refine sv_set (i := 8) (φ := da (.list ((nearW m k).map .str))) sc_law_walks.nd (ev_if (x := k.stops.isEmpty) (et_eq (et_cmp (op_eqD hu64) (ep_of (ev_wst (k := k) hu (vv 7))) (ep_of (ev_lst ed_nil (by decide))) (r2_eqD (d1 := .list (k.stops.map eSt)) (nods_eSt k.stops) rfl (shaped_eSts _ hstr) (by decide)) (nomark _)) (eqv_eSt_nil _)) (fun h => ?_) fun h => ?_) ?_
        · have e : nearW m k = m.areas.flatten := by
            unfold nearW lastP
            rw [List.isEmpty_iff.mp h]
            rfl
          rw [e]
          exact ev_call (ok_law_spots T) m (by show m.areas.flatten.length ≤ 1000; omega) (hr.mono (by decide)) (ea1 (vv 0))
        · rcases List.eq_nil_or_concat k.stops with e | ⟨r, b, e⟩
          · rw [e] at h; cases h
          · rw [List.concat_eq_append] at e
            have e2 : nearW m k = nextsL m b.1 := by
              unfold nearW lastP
              rw [e]
              simp
            rw [e2]
            have hbm : b.1 ∈ m.areas.flatten := hk.pl b (by rw [e]; simp)
            exact ev_call (ok_law_nexts T) (m, b.1) ⟨hm.ok, menu_ok _ (hm.pl _ hbm), fun s hs => menu_ok _ (hm.pl s hs)⟩ (hr.mono (by decide)) (ea2 (vv 0) (ev_ixT (ds := [.str b.1, .bool b.2]) (ev_ixL (ev_wst (k := k) hu (vv 7)) (ev_neg ev_int) (by rw [e, List.map_append]; exact atI_last _ _)) ev_int rfl))
        · refine sv_for (xs := nearW m k) (g := fun s => da (.str s)) (vs := [9]) (fun i ρ' ow' => (∃ s9, ρ' = [.val (da (eLM m)), .val (da (.int (lawLast m))), .val (da (.list (us.map eWk))), .val (da (.int (ph : Nat))), .val (da (.list (vs.map eWk))), .val (da (.int (tt : Nat))), .ptr p, .val (da (eWk k)), .val (da (.list ((nearW m k).map .str))), s9]) ∧ ow' = [(p, ol (((vs.take j).flatMap (nextW m) ++ ((nearW m k).take i).flatMap (stepW m k)).map eWk))])
            PassesOwn.never rfl (if_list (f := PyData.str) (vv 8)) (pgn 9 sc_law_walks.nd) (fun s _ => tg_name (by decide)) ⟨⟨_, rfl⟩, by simp⟩ (fun i s ρ' ow' B4 hsx hI => ?_) fun ρ' ow' hI => ?_
          · obtain ⟨⟨s9, rfl⟩, rfl⟩ := hI
            have hsm := nearW_mem (List.mem_of_getElem? hsx)
            have ha := areaOf_lt hsm
            have hol := hm.ok.outs.1
            have hna := hm.na
            have hnr : (nearW m k).length ≤ 3 := by
              refine Nat.le_trans ?_ hnp
              unfold nearW
              split
              · exact Nat.le_refl _
              · exact List.length_filter_le _ _
            have hb1 : ((vs.take j).flatMap (nextW m)).length ≤ 6 * 216 := by
              have h1 := nexts_len hm (vs.take j)
              have h2 : (vs.take j).length ≤ vs.length := List.length_take_le' _ _
              omega
            have hb2 : (((nearW m k).take i).flatMap (stepW m k)).length ≤ 6 := by
              have h1 := step_len m k ((nearW m k).take i)
              have h2 : ((nearW m k).take i).length ≤ (nearW m k).length := List.length_take_le' _ _
              omega
            refine sv_append (i := 6) (d := eWk (onW m k s false)) rfl (ev_call (ok_law_on T) (m, k, s, false) ⟨hm.ok, hsm, by show k.stops.length ≤ 100; omega, by show k.firsts.length ≤ 100; omega, by show k.days.length ≤ 100; omega⟩ hr (ea4 (vv 0) (vv 7) (vv 9) ev_bl)) (by rw [List.length_map, List.length_append]; exact szl) ?_
            have et : ((nearW m k).take (i + 1)).flatMap (stepW m k) = ((nearW m k).take i).flatMap (stepW m k) ++ stepW m k s := by
              rw [take_succ_get hsx, List.flatMap_append]
              simp
            rw [et, ← List.append_assoc]
            refine sv_if (x := mayL m k.firsts (areaOf m.areas s) k.tm) (et_v (ev_call (ok_law_may T) (m, k.firsts, areaOf m.areas s, k.tm) (by show areaOf m.areas s < m.outs.length; omega) (hr.mono (by decide)) (ea4 (vv 0) (ev_wfi (k := k) hu (vv 7)) (ev_call (ok_law_area T) (m, s) ⟨hsm, by show m.areas.length ≤ 1000; omega⟩ (hr.mono (by decide)) (ea2 (vv 0) (vv 9))) (ev_wtm (k := k) hu (vv 7))))) (fun hc => ?_) fun hc => ?_
            · refine sv_append (i := 6) (d := eWk (onW m k s true)) rfl (ev_call (ok_law_on T) (m, k, s, true) ⟨hm.ok, hsm, by show k.stops.length ≤ 100; omega, by show k.firsts.length ≤ 100; omega, by show k.days.length ≤ 100; omega⟩ hr (ea4 (vv 0) (vv 7) (vv 9) ev_bl)) (by rw [List.length_append, List.length_map, List.length_append]; simp only [List.length_cons, List.length_nil]; exact szl) ?_
              refine sv_nil (sv_nil ⟨⟨_, rfl⟩, ?_⟩)
              unfold stepW
              rw [if_pos hc]
              simp
            · refine sv_nil (sv_nil ⟨⟨_, rfl⟩, ?_⟩)
              unfold stepW
              rw [if_neg (by rw [hc]; simp)]
              simp
          · obtain ⟨⟨s9, rfl⟩, rfl⟩ := hI
            rw [List.take_length]
            refine sv_nil ⟨⟨_, _, _, rfl⟩, ?_⟩
            rw [take_succ_get hjx, List.flatMap_append]
            simp
            rfl
      · obtain ⟨⟨s7, s8, s9, rfl⟩, rfl⟩ := hI
        rw [List.take_length]
        refine sv_freeze (i := 6) rfl ?_
        have hnl := next_lv hm (Int.natCast_nonneg ph) hph1 ht2 hlv.ok
        have hll := nexts_len hm vs
        refine sv_set (i := 4) (φ := exP (fun us : List Wk => Thin (vs.flatMap (nextW m)) us ∧ us.length ≤ (vs.flatMap (nextW m)).length) fun us => da (.list (us.map eWk))) sc_law_walks.nd (ev_callG (ok_law_once T) (vs.flatMap (nextW m)) ⟨by omega, fun k hk => lv_kok hm (hnl k hk) (by omega), fun k hk j hj => ⟨(hnl k hk).ph.trans (hnl j hj).ph.symm, (hnl k hk).tm.trans (hnl j hj).tm.symm⟩⟩ hga (hr.mono (by decide)) (ea1 (vv 6))) ?_
        refine sv_open 4 rfl fun us2 ⟨hth, hthl⟩ => ?_
        exact sv_nil ⟨⟨_, _, _, _, _, us2, rfl, levI_next hm (Int.natCast_nonneg ph) hph1 ht2 hlv hth hthl⟩, rfl⟩
    · obtain ⟨⟨s5, s6, s7, s8, s9, vs, rfl, hlv⟩, rfl⟩ := hI
      rw [List.length_range] at hlv
      have hR : (2 * lawLast m).toNat ≤ 4 := by omega
      have hvl : vs.length ≤ 1296 := Nat.le_trans hlv.len (Nat.pow_le_pow_right (n := 6) (by decide) hR)
      refine sv_set (i := 2) (φ := da (.list ((us ++ vs).map eWk))) sc_law_walks.nd (ev_eq (ev_catL (ds := us.map eWk) (ds2 := vs.map eWk) (vv 2) (vv 4) (by rw [List.length_map, List.length_map]; have : i * 1296 ≤ 4 * 1296 := Nat.mul_le_mul_right _ (by omega); exact sz)) (by rw [List.map_append])) ?_
      refine sv_nil ⟨⟨_, _, _, _, _, _, _, us ++ vs, rfl, ?_, ?_, ?_⟩, rfl⟩
      · have e : ((List.range m.len.toNat).take (i + 1)).flatMap (fun ph => levW m (ph : Nat) (2 * lawLast m).toNat) = ((List.range m.len.toNat).take i).flatMap (fun ph => levW m (ph : Nat) (2 * lawLast m).toNat) ++ levW m (ph : Nat) (2 * lawLast m).toNat := by
          rw [take_succ_get hx, List.flatMap_append]
          simp
        rw [e]
        exact like_append hlike hlv.like
      · rw [List.length_append, Nat.succ_mul]
        omega
      · intro u hu
        rcases List.mem_append.mp hu with hu | hu
        · exact hud u hu
        · have := (hlv.ok u hu).nd
          omega
  · obtain ⟨⟨s3, s4, s5, s6, s7, s8, s9, us, rfl, hlike, hul, hud⟩, rfl⟩ := hI
    rw [List.length_range] at hul
    rw [List.take_length] at hlike
    have : m.len.toNat * 1296 ≤ 4 * 1296 := Nat.mul_le_mul_right _ (by omega)
    exact sv_ret (vv 2) fun H v h => ⟨us, ⟨hlike, by omega, hud⟩, h⟩
end
end L2.My
end
section
set_option Elab.async false
set_option linter.all false
set_option maxRecDepth 100000
set_option autoImplicit false
/-! D32: the law: the greatest sum. -/
namespace L2.My
open PySem PySem.Spec PyProof.Rows
theorem filter_any {α : Type} (l : List α) (c : α → Bool) : (l.filter c).isEmpty = !(l.any c) := by
  induction l with
  | nil => rfl
  | cons a l ih =>
    rw [List.filter_cons, List.any_cons]
    cases h : c a with
    | true => rfl
    | false => rw [if_neg (by simp), ih]; rfl
theorem sumW_nn' {m : Mp} {ls : List Int} (hp : ∀ l ∈ ls, 0 ≤ l) (k : Wk) : ∀ y ∈ (countL m k).zip ls, 0 ≤ y.1 ∧ 0 ≤ y.2 := fun y hy => by
  have h1 := List.of_mem_zip hy
  refine ⟨?_, hp _ h1.2⟩
  obtain ⟨a, _, e⟩ := List.mem_map.mp h1.1
  rw [← e]
  unfold cntL
  omega
theorem cntL_le (k : Wk) (a : Nat) : cntL k a ≤ k.days.length := by
  unfold cntL
  have := List.length_filter_le (fun d => decide ((d.1 : Int) = (a : Nat))) k.days
  omega
section
variable {P : Program} {w : World} {K : PySem.W.Frag} {mg : Str → Option Value} {base : Heap}
abbrev N_lt : List Str := ["_law_m", "_law_limits", "_law_found", "_law_walk", "_law_total", "_law_at", "_law_number", "_law_limit"]
theorem sc_law_top : FnScope N_lt ["_law_m", "_law_limits"] (defScope s_law_top_sum) := ⟨rfl, rfl, rfl, by decide +kernel, rfl, by decide +kernel, by decide +kernel⟩
theorem ok_law_top_sum (T : TX K mg) : DefG P w K mg base "_law_top_sum" 4 ["_law_m", "_law_limits"] (spA (fun x : Mp × List Int => LawM x.1 ∧ x.2.length = x.1.areas.length ∧ ∀ l ∈ x.2, 0 ≤ l ∧ l ≤ 10) (fun x => [da (eLM x.1), da (.list (x.2.map .int))]) (fun x => da (.int (topS x.1 x.2)))) := by
  refine def_mkG T.d_law_top_sum sc_law_top (fun _ _ _ _ _ _ us hl => match us, hl with | [_, _], _ => rfl) (fun _ => rfl) (by decide) fun ⟨m, ls⟩ ⟨hm, hl, hp⟩ f cdv A outer s0 H0 H E B hga hr => ?_
  have hm : LawM m := hm
  have hl : ls.length = m.areas.length := hl
  have hp : ∀ l ∈ ls, 0 ≤ l ∧ l ≤ 10 := hp
  have hna := hm.na
  have hu64 : (cxF P w K mg base N_lt "_law_top_sum" s_law_top_sum f cdv A outer s0 H E).A.units + 64 < cLine := hr.units
  have hu : (cxF P w K mg base N_lt "_law_top_sum" s_law_top_sum f cdv A outer s0 H E).A.units + 1 < cLine := by omega
  have hoo : ∀ a, a < ls.length → (m.outs.map eO)[a]? = some (eO (outAt m a)) := fun a ha => getD_map (by rw [hm.ok.outs.1, ← hl]; exact ha)
  have hll : ∀ a, a < ls.length → (ls.map PyData.int)[a]? = some (.int (limAt ls a)) := fun a ha => getD_map ha
  have hisN : ∀ o, isN (eO o) = isNo o := fun o => by cases o <;> rfl
  refine sv_guard (x := endlessL m ls) (et_eq (et_cmp (op_neD hu64) (ep_of (ev_eq (ev_lc (xs := List.range ls.length) (g := fun a => da (.int (a : Nat))) (c := fun a => isNo (outAt m a) && decide (0 < limAt ls a)) (f := fun a => .int (a : Nat)) (own := [("_law_at", 5)]) (tgG := gName 5) (fρ := fun a ρ => ρ.set 5 (.val (da (.int (a : Nat))))) rfl sc_law_top.nd (it_of (if_range1 (n := ls.length) T.b_range (ev_eq (ev_len T.b_len (ds := ls.map .int) (ep_of (vv 1))) (by rw [List.length_map])) (by omega))) (blkOk_by (N := N_lt) (sc := defScope s_law_top_sum) (by decide +kernel)) (fun _ => pgn 5 sc_law_top.nd) (fun d _ => tg_name (by decide))
      (fun a ha b => ets_one (et_a2 (et_eq (et_is (d := eO (outAt m a)) (ev_ixL (ev_ends (m := m) hu (vv 0)) (vv 5) (atI_nat (hoo a (List.mem_range.mp ha)))) ev_non) (hisN _)) fun _ => et_gt (j := 0) (i := limAt ls a) (ev_ixL (vv 1) (vv 5) (atI_nat (hll a (List.mem_range.mp ha)))) ev_int)) (fun a _ _ b => vv 5) (by rw [List.length_range]; exact sz))
      (show _ = PyData.list (((((List.range ls.length).filter fun a => isNo (outAt m a) && decide (0 < limAt ls a)).map fun a : Nat => ((a : Nat) : Int))).map .int) by rw [List.map_map]; rfl))) (ep_of (ev_lst ed_nil (by decide))) (r2_neD (by show nods _ = true; exact nods_ints _) rfl (shaped_ints _) (by decide)) (nomark _)) ?_) (fun h => ?_) fun h => ?_
  · rw [eqv_ints_nil]
    have e : ∀ l : List Nat, (l.map fun a : Nat => ((a : Nat) : Int)).isEmpty = l.isEmpty := fun l => by cases l <;> rfl
    rw [e, filter_any, Bool.not_not]
    rfl
  · refine sv_retd (ev_pow (i := 10) (j := 6) ev_int ev_int ⟨by decide, by decide, by decide⟩) ?_
    unfold topS
    rw [if_pos h]
    rfl
  · refine sv_set (i := 2) (φ := da (.int 0)) sc_law_top.nd ev_int ?_
    refine sv_forX (α := Wk) (β := List Wk) (p := fun us => Like (allW m) us ∧ us.length ≤ 10000 ∧ ∀ u ∈ us, u.days.length ≤ 16) (xs := fun us => us) (g := fun k => da (eWk k)) (fρ := fun k ρ => ρ.set 3 (.val (da (eWk k)))) (vs := [3]) (fun us i ρ' ow' => (∃ s3 s4, ρ' = [.val (da (eLM m)), .val (da (.list (ls.map .int))), .val (da (.int (mx ((us.take i).map (sumW m ls))))), s3, s4, .no, .no, .no]) ∧ ow' = [])
      PassesOwn.never rfl (if_listX (f := eWk) (ev_callG (ok_law_walks T) m hm hga hr (ea1 (vv 0)))) (pgn 3 sc_law_top.nd) (fun _ _ s _ => tg_name (by decide)) (fun us _ => ⟨⟨_, _, rfl⟩, rfl⟩) (fun us ⟨hlike, hul, hud⟩ i k ρ' ow' B' hx hI => ?_) fun us ⟨hlike, hul, hud⟩ ρ' ow' hI => ?_
    · obtain ⟨⟨s3, s4, rfl⟩, rfl⟩ := hI
      have hkd := hud k (List.mem_of_getElem? hx)
      have hnn := sumW_nn' (m := m) (fun l h => (hp l h).1) k
      refine sv_set (i := 4) (φ := da (.int (sumW m ls k))) sc_law_top.nd (ev_sum rfl T.b_sum (ep_of (ev_eq (ev_lc0 (xs := (countL m k).zip ls) (g := fun y => da (.tuple [.int y.1, .int y.2])) (f := fun y => .int (y.1 * y.2)) (own := [("_law_number", 6), ("_law_limit", 7)]) (tgG := gTup K 2 (gCons (gName 6) (gCons (gName 7) gNil))) (fρ := fun y ρ => (ρ.set 6 (.val (da (.int y.1)))).set 7 (.val (da (.int y.2)))) rfl sc_law_top.nd
        (it_of (if_zipX (f := PyData.int) (f2 := PyData.int) T.b_zip (ev_call (ok_law_count T) (m, k) ⟨by show m.areas.length ≤ 100; omega, by show k.days.length ≤ 1000; omega⟩ (hr.mono (by decide)) (ea2 (vv 0) (vv 3))) (vv 1))) (blkOk_by (N := N_lt) (sc := defScope s_law_top_sum) (by decide +kernel)) (fun _ => pg_tup rfl (pgs_cons (pgn 6 sc_law_top.nd) (pgs_cons (pgn 7 sc_law_top.nd) pgs_nil))) (fun y _ => tg_tup (tgs_cons (by decide) (tgs_cons (by decide) tgs_nil)) rfl)
        (fun y hy b => ev_int1 T.b_int (ev_mul (vv 6) (vv 7) (.inr ?_))) (by rw [List.length_zip]; exact sz)) (by rw [show (fun y : Int × Int => PyData.int (y.1 * y.2)) = PyData.int ∘ fun y => y.1 * y.2 from rfl, ← List.map_map])))) ?_
      · have h1 := List.of_mem_zip hy
        have h2 := hp _ h1.2
        exact ⟨by omega, by omega⟩
      · refine sv_set (i := 2) (φ := da (.int (mx ((us.take (i + 1)).map (sumW m ls))))) sc_law_top.nd (ev_eq (ev_max2 rfl T.b_max (ev_int1 T.b_int (vv 2)) (ev_int1 T.b_int (vv 4))) (congrArg PyData.int ?_)) (sv_nil ⟨⟨_, _, rfl⟩, rfl⟩)
        rw [take_succ_get hx, List.map_append]
        unfold mx
        rw [List.foldl_append]
        rfl
    · obtain ⟨⟨s3, s4, rfl⟩, rfl⟩ := hI
      rw [List.take_length]
      refine sv_retd (vv 2) ?_
      unfold topS
      rw [if_neg (by rw [h]; simp), like_top hlike]
end
end L2.My
end
section
set_option Elab.async false
set_option linter.all false
set_option maxRecDepth 100000
set_option autoImplicit false
/-! D33: the law: what is due. -/
namespace L2.My
open PySem PySem.Spec PyProof.Rows
theorem two_of {m : Mp} {ls : List Int} (hm : MpOk m) (h2 : m.areas.length = 2) (hl : ls.length = m.areas.length) : ∃ x : Two, m = x.m ∧ ls = x.ls := by
  obtain ⟨as, ps, len, bs, os⟩ := m
  have hb := hm.bords.1
  have ho := hm.outs.1
  dsimp only at h2 hl hb ho
  match as, bs, os, ls, h2, hb, ho, hl with
  | [r0, r1], [c0, c1], [e0, e1], [l0, l1], _, _, _, _ => exact ⟨⟨r0, r1, ps, len, c0, c1, e0, e1, l0, l1⟩, rfl, rfl⟩
theorem joined_law {x : Two} (hm : LawM x.m) : LawM (joinedM x.m 0 1) := by
  have hok := joined_ok hm.ok (a := 0) (b := 1) (by decide) (by show 1 < 2; decide)
  have efl : (joinedM x.m 0 1).areas.flatten = x.m.areas.flatten := by
    rw [two_joined]
    show [x.r0 ++ x.r1].flatten = [x.r0, x.r1].flatten
    simp
  refine ⟨hok, fun s hs => hm.pl s (efl ▸ hs), efl ▸ hm.np, by rw [two_joined]; show 1 ≤ 2; omega, hm.ln, fun o ho i e => ?_⟩
  rw [two_joined] at ho
  have ho : o = leastO x.e0 x.e1 := List.mem_singleton.mp ho
  subst ho
  have g0 := hm.ou x.e0 (by show x.e0 ∈ [x.e0, x.e1]; simp)
  have g1 := hm.ou x.e1 (by show x.e1 ∈ [x.e0, x.e1]; simp)
  cases h0 : x.e0 with
  | none => rw [h0] at e; exact g1 i e
  | some a =>
    cases h1 : x.e1 with
    | none =>
      rw [h0, h1] at e
      have e : some a = some i := e
      exact g0 i (h0.trans e)
    | some b =>
      rw [h0, h1] at e
      have e : min a b = i := Option.some.inj e
      have := g0 a h0
      omega
def dueL (m : Mp) (ls : List Int) (wish : Int) : List (List Pair) := if topS m ls ≤ wish then [[]] else if ls.length = 1 then [] else if topS (joinedM m 0 1) (joinedL ls 0 1) ≤ wish then [[(0, 1)]] else []
section
variable {P : Program} {w : World} {K : PySem.W.Frag} {mg : Str → Option Value} {base : Heap}
abbrev N_ld : List Str := ["_law_m", "_law_limits", "_law_wish", "_law_mate"]
theorem sc_law_due : FnScope N_ld ["_law_m", "_law_limits", "_law_wish"] (defScope s_law_due) := ⟨rfl, rfl, rfl, by decide +kernel, rfl, by decide +kernel, by decide +kernel⟩
theorem ok_law_due (T : TX K mg) : DefG P w K mg base "_law_due" 5 ["_law_m", "_law_limits", "_law_wish"] (spA (fun x : Mp × List Int × Int => LawM x.1 ∧ x.2.1.length = x.1.areas.length ∧ ∀ l ∈ x.2.1, 0 ≤ l ∧ l ≤ 10) (fun x => [da (eLM x.1), da (.list (x.2.1.map .int)), da (.int x.2.2)]) (fun x => da (.list ((dueL x.1 x.2.1 x.2.2).map ePs)))) := by
  refine def_mkG T.d_law_due sc_law_due (fun _ _ _ _ _ _ us hl => match us, hl with | [_, _, _], _ => rfl) (fun _ => rfl) (by decide) fun ⟨m, ls, wish⟩ ⟨hm, hl, hp⟩ f cdv A outer s0 H0 H E B hga hr => ?_
  have hm : LawM m := hm
  have hl : ls.length = m.areas.length := hl
  have hp : ∀ l ∈ ls, 0 ≤ l ∧ l ≤ 10 := hp
  have hna := hm.na
  have h1 := hm.ok.areas.1.1
  refine sv_guard (x := decide (topS m ls ≤ wish)) (et_le (ev_callG (ok_law_top_sum T) (m, ls) ⟨hm, hl, hp⟩ hga hr (ea2 (vv 0) (vv 1))) (vv 2)) (fun h => ?_) fun h => ?_
  · refine sv_retd (ev_lst (ds := [ePs []]) (ed_cons (ev_lst ed_nil (by decide)) ed_nil) (by show 1 ≤ sizeLine; decide)) ?_
    show _ = PyData.list ((dueL m ls wish).map ePs)
    unfold dueL
    rw [if_pos (of_decide_eq_true h)]
    rfl
  · have hno : ¬ topS m ls ≤ wish := of_decide_eq_false h
    refine sv_guard (x := decide (ls.length = 1)) (et_eq (et_eqI (i := (ls.length : Nat)) (j := 1) (ev_eq (ev_len T.b_len (ds := ls.map .int) (ep_of (vv 1))) (by rw [List.length_map])) ev_int) (by rw [Bool.eq_iff_iff, decide_eq_true_iff, decide_eq_true_iff]; omega)) (fun h => ?_) fun h => ?_
    · refine sv_retd (ev_lst ed_nil (by decide)) ?_
      show _ = PyData.list ((dueL m ls wish).map ePs)
      unfold dueL
      rw [if_neg hno, if_pos (of_decide_eq_true h)]
      rfl
    · have hl2 : ¬ ls.length = 1 := of_decide_eq_false h
      obtain ⟨x, rfl, rfl⟩ := two_of hm.ok (by omega) hl
      have hj := joined_law hm
      have hnp := hm.np
      have hlen : x.r0.length + x.r1.length ≤ 3 := by
        have : [x.r0, x.r1].flatten.length ≤ 3 := hnp
        simpa using this
      have hjl : ∀ l ∈ joinedL x.ls 0 1, 0 ≤ l ∧ l ≤ 10 := fun l h => by
        rw [two_limits] at h
        have h0 := hp x.l0 (by show x.l0 ∈ [x.l0, x.l1]; simp)
        have h1 := hp x.l1 (by show x.l1 ∈ [x.l0, x.l1]; simp)
        rw [List.mem_singleton.mp h]
        omega
      refine sv_set (i := 3) (φ := da (.list [eLM (joinedM x.m 0 1), .list ((joinedL x.ls 0 1).map .int)])) sc_law_due.nd (ev_call (ok_law_joined T) x ⟨by omega, by omega⟩ (hr.mono (by decide)) (ea4 (vv 0) (vv 1) ev_int ev_int)) ?_
      refine sv_retd (ev_ifd (x := decide (topS (joinedM x.m 0 1) (joinedL x.ls 0 1) ≤ wish)) (et_le (ev_callG (ok_law_top_sum T) (joinedM x.m 0 1, joinedL x.ls 0 1) ⟨hj, rfl, hjl⟩ hga hr (ea2 (ev_ixL (ds := [eLM (joinedM x.m 0 1), .list ((joinedL x.ls 0 1).map .int)]) (vv 3) ev_int rfl) (ev_ixL (ds := [eLM (joinedM x.m 0 1), .list ((joinedL x.ls 0 1).map .int)]) (vv 3) ev_int rfl))) (vv 2)) (fun _ => ev_lst (ds := [ePs [(0, 1)]]) (ed_cons (ev_lst (ds := [eP (0, 1)]) (ed_cons (ev_tup (ed_cons ev_int (ed_cons ev_int ed_nil)) (by show 2 ≤ sizeLine; decide)) ed_nil) (by show 1 ≤ sizeLine; decide)) ed_nil) (by show 1 ≤ sizeLine; decide)) fun _ => ev_lst ed_nil (by decide)) ?_
      show _ = PyData.list ((dueL x.m x.ls wish).map ePs)
      unfold dueL
      rw [if_neg hno, if_neg hl2]
      by_cases hh : topS (joinedM x.m 0 1) (joinedL x.ls 0 1) ≤ wish
      · rw [if_pos (decide_eq_true hh), if_pos hh]
        rfl
      · rw [if_neg (by simp [hh]), if_neg hh]
        rfl
end
end L2.My
end
section
set_option Elab.async false
set_option linter.all false
set_option maxRecDepth 100000
set_option autoImplicit false
/-! P29: the least joins are due; few nodes. -/
namespace L2.My
open PySem PySem.Spec PyProof.Rows
theorem least_due {m : Mp} {ls : List Int} {wish : Int} (hm : LawM m) (hl : ls.length = m.areas.length) (hp : ∀ l ∈ ls, 0 ≤ l) (hw : wish < 10 ^ 6) : leastJ ⟨m, false, ls⟩ wish = dueL m ls wish := by
  have k1 := keeps_top hm.ok hl hp hw
  have hna := hm.na
  have h1 := hm.ok.areas.1.1
  unfold dueL
  by_cases h : m.areas.length = 1
  · rw [leastJ_one (st := ⟨m, false, ls⟩) h]
    show (if keeps m ls wish = true then _ else _) = _
    rw [k1]
    by_cases ht : topS m ls ≤ wish
    · rw [if_pos (decide_eq_true ht), if_pos ht]
    · rw [if_neg (by simp [ht]), if_neg ht, if_pos (hl.trans h)]
  · have h2 : m.areas.length = 2 := by omega
    rw [leastJ_two (st := ⟨m, false, ls⟩) h2]
    show (if keeps m ls wish = true then _ else if keeps (joinedM m 0 1) (joinedL ls 0 1) wish = true then _ else _) = _
    rw [k1]
    obtain ⟨x, rfl, rfl⟩ := two_of hm.ok h2 hl
    have k2 := keeps_top (m := joinedM x.m 0 1) (ls := joinedL x.ls 0 1) (joined_law hm).ok rfl (fun l hl => by
      have h0 := hp x.l0 (by show x.l0 ∈ [x.l0, x.l1]; simp)
      have h1 := hp x.l1 (by show x.l1 ∈ [x.l0, x.l1]; simp)
      rw [two_limits] at hl
      rw [List.mem_singleton.mp hl]
      omega) hw
    rw [k2]
    by_cases ht : topS x.m x.ls ≤ wish
    · rw [if_pos (decide_eq_true ht), if_pos ht]
    · have hne : ¬ x.ls.length = 1 := by show ¬ 2 = 1; decide
      rw [if_neg (by simp [ht]), if_neg ht, if_neg hne]
      by_cases hj : topS (joinedM x.m 0 1) (joinedL x.ls 0 1) ≤ wish
      · rw [if_pos (decide_eq_true hj), if_pos hj]
      · rw [if_neg (by simp [hj]), if_neg hj]
theorem prodN_le {c : Nat} : ∀ {l : List Nat}, (∀ x ∈ l, x ≤ c) → prodN l ≤ c ^ l.length
  | [], _ => Nat.le_refl _
  | x :: r, h => by
    rw [prodN, List.length_cons, Nat.pow_succ, Nat.mul_comm (c ^ r.length)]
    exact Nat.mul_le_mul (h x List.mem_cons_self) (prodN_le fun y hy => h y (List.mem_cons_of_mem _ hy))
theorem cnt_le {m : Mp} {c : Nat} (hm : MpOk m) (h2 : m.len ≤ 2) (hp : m.areas.flatten.length ≤ 3) (ha : m.areas.length ≤ 2) (h1 : 1 ≤ c) (hc : ∀ o ∈ m.outs, (o.getD 0).toNat + 2 ≤ c) : cntN m ≤ 2 * (3 * (c ^ 2 * 4 + 1)) := by
  unfold cntN
  have h3 : prodN (m.outs.map fun o => (o.getD 0).toNat + 2) ≤ c ^ 2 := by
    refine Nat.le_trans (prodN_le (c := c) fun x hx => ?_) (Nat.pow_le_pow_right h1 ?_)
    · obtain ⟨o, ho, rfl⟩ := List.mem_map.mp hx
      exact hc o ho
    · rw [List.length_map, hm.outs.1]; exact ha
  have h4 : 2 ^ m.areas.length ≤ 4 := Nat.le_trans (Nat.pow_le_pow_right (by decide) ha) (Nat.le_refl 4)
  exact Nat.mul_le_mul (by omega) (Nat.mul_le_mul hp (Nat.succ_le_succ (Nat.mul_le_mul h3 h4)))
theorem few_law {m : Mp} {ls : List Int} (hm : LawM m) : Few m ls := by
  refine few_of hm.ok (Nat.le_trans (cnt_le (c := 4) hm.ok hm.ln hm.np hm.na (by decide) fun o ho => ?_) (by decide))
  cases o with
  | none => decide
  | some i =>
    have := hm.ou _ ho i rfl
    show i.toNat + 2 ≤ 4
    omega
theorem few_joins {m : Mp} {ls : List Int} (hm : LawM m) (hl : ls.length = m.areas.length) : FewJ ⟨m, false, ls⟩ := by
  have hna := hm.na
  have h1 := hm.ok.areas.1.1
  intro ps hps
  have hps : ps ∈ listsOf (allPairs m.areas.length) := hps
  by_cases h : m.areas.length = 1
  · rw [h, lists_one] at hps
    rw [List.mem_singleton.mp hps, merged_nil1 (st := ⟨m, false, ls⟩) h]
    exact few_law hm
  · have h2 : m.areas.length = 2 := by omega
    rw [h2, lists_two] at hps
    rcases List.mem_cons.mp hps with rfl | hps
    · rw [merged_nil2 (st := ⟨m, false, ls⟩) h2]
      exact few_law hm
    · rw [List.mem_singleton.mp hps, merged_two (st := ⟨m, false, ls⟩) h2]
      obtain ⟨x, rfl, rfl⟩ := two_of hm.ok h2 hl
      exact few_law (joined_law hm)
theorem few_outs {m : Mp} {ls : List Int} (hm : LawM m) (h1 : m.areas.length = 1) : FewG m ls := by
  intro a ha
  have ha : a = 0 := by omega
  subst ha
  have ho1 : m.outs.length = 1 := hm.ok.outs.1.trans h1
  have key : ∀ o : Option Int, oOk o = true → Few (withOut m 0 o) ls := fun o ho => by
    refine few_of (withOut_ok hm.ok 0 ho) (Nat.le_trans (cnt_le (c := 8) (withOut_ok hm.ok 0 ho) hm.ln hm.np hm.na (by decide) fun x hx => ?_) (by decide))
    rw [outs_with ho1] at hx
    rw [List.mem_singleton.mp hx]
    cases o with
    | none => decide
    | some i =>
      show i.toNat + 2 ≤ 8
      unfold oOk at ho
      simp at ho
      omega
  exact ⟨key none rfl, fun o ho => key _ (oOk_nat ho)⟩
theorem with_law {m : Mp} (hm : LawM m) (h1 : m.areas.length = 1) {o : Option Int} (ho : o = none ∨ o = some 0 ∨ o = some 1 ∨ o = some 2) : LawM (withOut m 0 o) := by
  have ho1 : m.outs.length = 1 := hm.ok.outs.1.trans h1
  have hoo : oOk o = true := by rcases ho with rfl | rfl | rfl | rfl <;> decide
  refine ⟨withOut_ok hm.ok 0 hoo, hm.pl, hm.np, hm.na, hm.ln, fun x hx i e => ?_⟩
  rw [outs_with ho1] at hx
  rw [List.mem_singleton.mp hx] at e
  rcases ho with rfl | rfl | rfl | rfl
  · cases e
  · cases e; decide
  · cases e; decide
  · cases e; decide
end L2.My
end
section
set_option Elab.async false
set_option linter.all false
set_option maxRecDepth 100000
set_option autoImplicit false
/-! D34: the law: the told outage is right. -/
namespace L2.My
open PySem PySem.Spec PyProof.Rows
theorem str_dec (a b : Str) : (a == b) = decide (a = b) := Bool.beq_eq_decide_eq ..
theorem eqv_eGE (a b : GE) : PyData.eqv (eGE a) (eGE b) = decide (a = b) := by
  have h1 : ¬ ("any" : Str) = "most" := by decide
  have h2 : ¬ ("any" : Str) = "none" := by decide
  have h3 : ¬ ("most" : Str) = "none" := by decide
  cases a <;> cases b <;> simp [eGE, PyData.eqv, PyData.eqvAll, str_dec, h1, h2, h3, Ne.symm h1, Ne.symm h2, Ne.symm h3, Bool.beq_eq_decide_eq]
theorem nod_eGE (a : GE) : nod (eGE a) = true := by cases a <;> rfl
theorem shaped_eGE (a : GE) : SeqAt.shaped (eGE a) = true := by
  have h1 : PyData.strOk "any" = true := by decide +kernel
  have h2 : PyData.strOk "most" = true := by decide +kernel
  have h3 : PyData.strOk "none" = true := by decide +kernel
  show ((eGE a).canLay0 && decide ((eGE a).depth ≤ 64)) = true
  cases a <;> simp [eGE, PyData.canLay0, PyData.canLayAll0, PyData.depth, PyData.depthAll, h1, h2, h3]
section
variable {P : Program} {w : World} {K : PySem.W.Frag} {mg : Str → Option Value} {base : Heap}
abbrev N_lr : List Str := ["_law_m", "_law_limits", "_law_wish", "_law_at", "_law_told", "_law_kept", "_law_end"]
theorem sc_law_right : FnScope N_lr ["_law_m", "_law_limits", "_law_wish", "_law_at", "_law_told"] (defScope s_law_outage_right) := ⟨rfl, rfl, rfl, by decide +kernel, rfl, by decide +kernel, by decide +kernel⟩
def toIs (l : List Nat) : List Int := l.map fun o => ((o : Nat) : Int)
theorem ints_eq (a b : List Nat) : decide (toIs a = toIs b) = decide (a = b) := by
  rw [Bool.eq_iff_iff, decide_eq_true_iff, decide_eq_true_iff]
  refine ⟨fun h => map_inj' (fun x y e => by omega) h, fun h => by rw [h]⟩
theorem ok_law_right (T : TX K mg) : DefG P w K mg base "_law_outage_right" 5 ["_law_m", "_law_limits", "_law_wish", "_law_at", "_law_told"] (spA (fun x : Mp × List Int × Int × GE => LawM x.1 ∧ x.1.areas.length = 1 ∧ x.2.1.length = 1 ∧ ∀ l ∈ x.2.1, 0 ≤ l ∧ l ≤ 10) (fun x => [da (eLM x.1), da (.list (x.2.1.map .int)), da (.int x.2.2.1), da (.int 0), da (eGE x.2.2.2)]) (fun x => da (.bool (rightG x.1 x.2.1 x.2.2.1 x.2.2.2)))) := by
  refine def_mkG T.d_law_outage_right sc_law_right (fun _ _ _ _ _ _ us hl => match us, hl with | [_, _, _, _, _], _ => rfl) (fun _ => rfl) (by decide) fun ⟨m, ls, wish, g⟩ ⟨hm, h1, hl, hp⟩ f cdv A outer s0 H0 H E B hga hr => ?_
  have hm : LawM m := hm
  have h1 : m.areas.length = 1 := h1
  have hl : ls.length = 1 := hl
  have hp : ∀ l ∈ ls, 0 ≤ l ∧ l ≤ 10 := hp
  have ho1 : m.outs.length = 1 := hm.ok.outs.1.trans h1
  have hu64 : (cxF P w K mg base N_lr "_law_outage_right" s_law_outage_right f cdv A outer s0 H E).A.units + 64 < cLine := hr.units
  have tw : ∀ o, (o = none ∨ o = some 0 ∨ o = some 1 ∨ o = some 2) → LawM (withOut m 0 o) ∧ ls.length = (withOut m 0 o).areas.length ∧ ∀ l ∈ ls, 0 ≤ l ∧ l ≤ 10 := fun o ho => ⟨with_law hm h1 ho, hl.trans h1.symm, hp⟩
  have wp : ∀ o : Option Int, (0 : Nat) < m.outs.length ∧ m.outs.length ≤ 1000 := fun _ => ⟨by omega, by omega⟩
  refine sv_set (i := 5) (φ := da (.list ((toIs (([0, 1, 2] : List Nat).take 0)).map .int))) sc_law_right.nd (ev_lst ed_nil (by decide)) ?_
  refine sv_for (xs := ([0, 1, 2] : List Nat)) (g := fun o => da (.int (o : Nat))) (vs := [6]) (fun i ρ' ow' => (∃ s6, ρ' = [.val (da (eLM m)), .val (da (.list (ls.map .int))), .val (da (.int wish)), .val (da (.int 0)), .val (da (eGE g)), .val (da (.list ((toIs ((([0, 1, 2] : List Nat).take i).filter fun o => decide (topS (withOut m 0 (some (o : Nat))) ls ≤ wish))).map .int))), s6]) ∧ ow' = [])
    PassesOwn.never rfl (if_list (f := fun o : Nat => PyData.int (o : Nat)) (ev_lst (ds := [.int 0, .int 1, .int 2]) (ed_cons ev_int (ed_cons ev_int (ed_cons ev_int ed_nil))) (by show 3 ≤ sizeLine; decide))) (pgn 6 sc_law_right.nd) (fun s _ => tg_name (by decide)) ⟨⟨_, rfl⟩, rfl⟩ (fun i o ρ' ow' B' hx hI => ?_) fun ρ' ow' hI => ?_
  · obtain ⟨⟨s6, rfl⟩, rfl⟩ := hI
    have hom := List.mem_of_getElem? hx
    have hoo : some ((o : Nat) : Int) = none ∨ some ((o : Nat) : Int) = some 0 ∨ some ((o : Nat) : Int) = some 1 ∨ some ((o : Nat) : Int) = some 2 := by
      simp only [List.mem_cons, List.not_mem_nil, or_false] at hom
      rcases hom with rfl | rfl | rfl
      · exact .inr (.inl rfl)
      · exact .inr (.inr (.inl rfl))
      · exact .inr (.inr (.inr rfl))
    have hil := (List.getElem?_eq_some_iff.mp hx).1
    have hlen : (toIs ((([0, 1, 2] : List Nat).take i).filter fun o => decide (topS (withOut m 0 (some (o : Nat))) ls ≤ wish))).length ≤ 3 := by
      unfold toIs
      rw [List.length_map]
      refine Nat.le_trans (List.length_filter_le _ _) (Nat.le_trans (List.length_take_le' _ _) (Nat.le_refl 3))
    refine sv_set (i := 5) (φ := da (.list ((toIs ((([0, 1, 2] : List Nat).take (i + 1)).filter fun o => decide (topS (withOut m 0 (some (o : Nat))) ls ≤ wish))).map .int))) sc_law_right.nd (ev_eq (ev_catL (vv 5) (ev_repL (n := if decide (topS (withOut m 0 (some (o : Nat))) ls ≤ wish) = true then 1 else 0) (ds := [.int (o : Nat)]) (ev_lst (ed_cons (vv 6) ed_nil) (by show 1 ≤ sizeLine; decide)) (ev_eq (ev_intB T.b_int (ev_le (ev_callG (ok_law_top_sum T) (withOut m 0 (some (o : Nat)), ls) (tw _ hoo) hga hr (ea2 (ev_call (ok_law_with T) (m, 0, some (o : Nat)) (wp none) (hr.mono (by decide)) (ea3 (vv 0) (vv 3) (vv 6))) (vv 1))) (vv 2))) ?_) ?_ ?_) ?_) ?_) (sv_nil ⟨⟨_, rfl⟩, rfl⟩)
    · split <;> rfl
    · split <;> decide
    · split <;> exact sz (by simp)
    · rw [List.length_map]
      split <;> exact sz (by simp; omega)
    · rw [take_succ_get hx, List.filter_append]
      unfold toIs
      rw [List.map_append, List.map_append]
      congr 2
      by_cases h : topS (withOut m 0 (some (o : Nat))) ls ≤ wish
      · have e3 : ([o] : List Nat).filter (fun o => decide (topS (withOut m 0 (some (o : Nat))) ls ≤ wish)) = [o] := by simp [h]
        rw [if_pos (decide_eq_true h), e3]
        rfl
      · have e3 : ([o] : List Nat).filter (fun o => decide (topS (withOut m 0 (some (o : Nat))) ls ≤ wish)) = [] := by simp [h]
        rw [if_neg (by simp [h]), e3]
        rfl
  · obtain ⟨⟨s6, rfl⟩, rfl⟩ := hI
    rw [List.take_length]
    have ek : (([0, 1, 2] : List Nat).filter fun o => decide (topS (withOut m 0 (some (o : Nat))) ls ≤ wish)) = kept3 m ls wish := rfl
    rw [ek]
    refine sv_guard (x := decide (topS (withOut m 0 none) ls ≤ wish)) (et_le (ev_callG (ok_law_top_sum T) (withOut m 0 none, ls) (tw _ (.inl rfl)) hga hr (ea2 (ev_call (ok_law_with T) (m, 0, none) (wp none) (hr.mono (by decide)) (ea3 (vv 0) (vv 3) ev_non)) (vv 1))) (vv 2)) (fun h => ?_) fun h => ?_
    · have h := of_decide_eq_true h
      refine sv_retd (ev_cmp (op_eqD hu64) (ep_of (vv 4)) (ep_of (ev_tup (ds := [.str "any"]) (ed_cons ev_str ed_nil) (by show 1 ≤ sizeLine; decide))) (r2_eqD (d1 := eGE g) (d2 := eGE .any) (nod_eGE g) (nod_eGE .any) (shaped_eGE g) (shaped_eGE .any)) (nomark _)) ?_
      show PyData.bool (PyData.eqv (eGE g) (eGE .any)) = .bool (rightG m ls wish g)
      unfold rightG
      rw [if_pos h, eqv_eGE]
    · have h := of_decide_eq_false h
      refine sv_guard (x := !decide (kept3 m ls wish = [0, 1, 2])) (et_eq (et_cmp (op_neD hu64) (ep_of (vv 5)) (ep_of (ev_lst (ds := (toIs [0, 1, 2]).map .int) (ed_cons ev_int (ed_cons ev_int (ed_cons ev_int ed_nil))) (by show 3 ≤ sizeLine; decide))) (r2_neD (by show nods _ = true; exact nods_ints _) (by show nods _ = true; exact nods_ints _) (shaped_ints _) (shaped_ints _)) (nomark _)) (by rw [eqv_ints, ints_eq])) (fun hk => ?_) fun hk => ?_
      · have hk : ¬ kept3 m ls wish = [0, 1, 2] := by simpa using hk
        have e1 : (toIs (kept3 m ls wish)).isEmpty = (kept3 m ls wish).isEmpty := by cases kept3 m ls wish <;> rfl
        refine sv_retd (ev_cmp (op_eqD hu64) (ep_of (vv 4)) (ep_of (ev_eq (ev_ifd (x := !(kept3 m ls wish).isEmpty) (d1 := .tuple [.str "most", .int ((toIs (kept3 m ls wish)).getLastD 0)]) (d2 := .tuple [.str "none"]) (et_eq (et_cmp (op_neD hu64) (ep_of (vv 5)) (ep_of (ev_lst ed_nil (by decide))) (r2_neD (by show nods _ = true; exact nods_ints _) rfl (shaped_ints _) (by decide)) (nomark _)) (by rw [eqv_ints_nil, e1])) (fun h2 => ?_) fun h2 => ev_tup (ed_cons ev_str ed_nil) (by show 1 ≤ sizeLine; decide)) (show _ = eGE (if kept3 m ls wish ≠ [] then .most ((kept3 m ls wish).getLastD 0 : Nat) else .none) from ?_))) (r2_eqD (d1 := eGE g) (nod_eGE g) (nod_eGE _) (shaped_eGE g) (shaped_eGE _)) (nomark _)) ?_
        · have h3 : (toIs (kept3 m ls wish)).isEmpty = false := by rw [e1]; simpa using h2
          exact ev_tup (ed_cons ev_str (ed_cons (ev_ixL (vv 5) (ev_neg ev_int) (atI_lastD h3)) ed_nil)) (by show 2 ≤ sizeLine; decide)
        · rcases List.eq_nil_or_concat (kept3 m ls wish) with e | ⟨r, b, e⟩
          · rw [e]; rfl
          · rw [e, List.concat_eq_append]
            unfold toIs
            simp [eGE, List.getLastD_eq_getLast?]
        · rw [eqv_eGE]
          show _ = PyData.bool (rightG m ls wish g)
          unfold rightG
          rw [if_neg h, if_pos hk]
      · have hk : kept3 m ls wish = [0, 1, 2] := by simpa using hk
        have e : ∀ g, rightG m ls wish g = (match g with | .most k => decide (2 ≤ k) && decide (k ≤ 6) | _ => false) := fun g => by
          unfold rightG
          rw [if_neg h, if_neg (fun z => z hk)] <;> (cases g <;> rfl)
        cases g with
        | any => exact sv_retd (ev_a2 (x := false) (y := false) (ev_eq (ev_eqS (s := "any") (t := "most") (ev_ixT (ds := [.str "any"]) (vv 4) ev_int rfl) ev_str) (congrArg PyData.bool (by decide))) fun h => by cases h) (by show _ = PyData.bool (rightG m ls wish .any); rw [e]; rfl)
        | none => exact sv_retd (ev_a2 (x := false) (y := false) (ev_eq (ev_eqS (s := "none") (t := "most") (ev_ixT (ds := [.str "none"]) (vv 4) ev_int rfl) ev_str) (congrArg PyData.bool (by decide))) fun h => by cases h) (by show _ = PyData.bool (rightG m ls wish .none); rw [e]; rfl)
        | most k => exact sv_retd (ev_a2 (x := true) (ev_eq (ev_eqS (s := "most") (t := "most") (ev_ixT (ds := [.str "most", .int k]) (vv 4) ev_int rfl) ev_str) (congrArg PyData.bool (by decide))) fun _ => ev_lele (i := 2) ev_int (ev_ixT (ds := [.str "most", .int k]) (d := .int k) (vv 4) ev_int rfl) ev_int) (by show _ = PyData.bool (rightG m ls wish (.most k)); rw [e]; rfl)
end
end L2.My
end
section
set_option Elab.async false
set_option linter.all false
set_option maxRecDepth 100000
set_option autoImplicit false
/-! P30: the menu of the law's maps. -/
namespace L2.My
open PySem PySem.Spec PyProof.Rows
def menuL : List (List Str) := [["a", "b", "c", "d"], ["zz", "m", "b", "a"]]
def baseR (n : Nat) (l : List Str) : List (List Str) := (l.take n).map fun s => [s]
def rowsOf (most : Nat) (l : List Str) : List (List (List Str)) := (List.range most).flatMap fun i => baseR (i + 1) l :: (List.range (i + 1)).map fun j => (baseR (i + 1) l).set j ((baseR (i + 1) l).getD j [] ++ [l.getD 3 ""])
def insS (x : Str) : List Str → List Str
  | [] => [x]
  | y :: r => if decide (y.cps.toList < x.cps.toList) = true then y :: insS x r else x :: y :: r
def knownOf (rs : List (List Str)) : List Str := rs.flatten.foldr insS []
def rowP (k : List Str) (i : Nat) : List (Str × Str) := (k.drop (i + 1)).map fun y => (k.getD i "", y)
def fullP (k : List Str) : List (Str × Str) := (List.range k.length).flatMap (rowP k)
def subs {α : Type} : List α → List (List α)
  | [] => [[]]
  | a :: l => subs l ++ (subs l).map (a :: ·)
theorem subs_mem {α : Type} {s l : List α} (h : s.Sublist l) : s ∈ subs l := by
  induction h with
  | slnil => exact List.mem_cons_self
  | cons a _ ih => exact List.mem_append_left _ ih
  | cons_cons a _ ih => exact List.mem_append_right _ (List.mem_map.mpr ⟨_, ih, rfl⟩)
theorem rows_ok : ∀ l ∈ menuL, ∀ rs ∈ rowsOf 2 l, ((1 ≤ rs.length ∧ rs.length ≤ 2) ∧ (∀ a ∈ rs, a ≠ [] ∧ ∀ s ∈ a, nmOk s = true) ∧ rs.flatten.Nodup ∧ rs.flatten.length ≤ 3) ∧ (∀ s ∈ rs.flatten, s ∈ menu6) ∧ (knownOf rs).Perm rs.flatten ∧ sortedS (knownOf rs) = true := by decide +kernel
set_option synthInstance.maxSize 4096 in
set_option synthInstance.maxHeartbeats 400000 in
theorem paths_all : ∀ l ∈ menuL, ∀ rs ∈ rowsOf 2 l, ∀ ps ∈ subs (fullP (knownOf rs)), (∀ p ∈ ps, (p.1 ∈ rs.flatten ∧ p.2 ∈ rs.flatten) ∧ p.1.cps.toList < p.2.cps.toList ∧ (p.1.length ≤ 8 ∧ p.2.length ≤ 8) ∧ PyData.strOk p.1 = true ∧ PyData.strOk p.2 = true) ∧ ps.Nodup ∧ (ps.map jt).Nodup ∧ sortedS (ps.map jt) = true ∧ ps.length ≤ 20 := by decide +kernel
theorem rows_most {most : Nat} (h2 : most ≤ 2) {l : List Str} {rs : List (List Str)} (h : rs ∈ rowsOf most l) : rs ∈ rowsOf 2 l := by
  obtain ⟨i, hi, hr⟩ := List.mem_flatMap.mp h
  exact List.mem_flatMap.mpr ⟨i, List.mem_range.mpr (by have := List.mem_range.mp hi; omega), hr⟩
theorem rows_len {most : Nat} {l : List Str} {rs : List (List Str)} (h : rs ∈ rowsOf most l) : rs.length ≤ most := by
  obtain ⟨i, hi, hr⟩ := List.mem_flatMap.mp h
  have hi := List.mem_range.mp hi
  have hb : (baseR (i + 1) l).length ≤ i + 1 := by
    unfold baseR
    rw [List.length_map]
    exact List.length_take_le _ _
  rcases List.mem_cons.mp hr with rfl | hr
  · omega
  · obtain ⟨j, _, rfl⟩ := List.mem_map.mp hr
    rw [List.length_set]
    omega
def endM : List (Option Int) := [some 0, some 1, some 1, some 2, some 2, none]
theorem end_ok : ∀ o ∈ endM, oOk o = true ∧ ∀ i, o = some i → i ≤ 2 := by
  intro o ho
  unfold endM at ho
  simp only [List.mem_cons, List.not_mem_nil, or_false] at ho
  rcases ho with rfl | rfl | rfl | rfl | rfl | rfl
  · exact ⟨by decide, fun i e => by cases e; decide⟩
  · exact ⟨by decide, fun i e => by cases e; decide⟩
  · exact ⟨by decide, fun i e => by cases e; decide⟩
  · exact ⟨by decide, fun i e => by cases e; decide⟩
  · exact ⟨by decide, fun i e => by cases e; decide⟩
  · exact ⟨by decide, fun i e => by cases e⟩
/-- what a drawn map is -/
def MapL (most : Nat) (m : Mp) : Prop := LawM m ∧ m.areas.length ≤ most
theorem mapL_of {most : Nat} (h2 : most ≤ 2) {l : List Str} (hl : l ∈ menuL) {rs : List (List Str)} (hr : rs ∈ rowsOf most l) {ps : List (Str × Str)} (hp : ps.Sublist (fullP (knownOf rs))) {size : Int} (hs : 1 ≤ size ∧ size ≤ 2) {cs : List Int} (hc : cs.length = rs.length ∧ ∀ c ∈ cs, 0 ≤ c ∧ c < size) {os : List (Option Int)} (ho : os.length = rs.length ∧ ∀ o ∈ os, o ∈ endM) : MapL most ⟨rs, ps, size, cs, os⟩ := by
  obtain ⟨⟨a1, a2, a3, a4⟩, hpl, _, _⟩ := rows_ok l hl rs (rows_most h2 hr)
  obtain ⟨p1, p2, p3, p4, p5⟩ := paths_all l hl rs (rows_most h2 hr) ps (subs_mem hp)
  refine ⟨⟨⟨⟨⟨a1.1, by show rs.length ≤ 4; omega⟩, a2, a3, by show rs.flatten.length ≤ 6; omega⟩, paths_ok p1 p2 p3 p4 p5, ⟨hs.1, by show size ≤ 4; omega⟩, ⟨hc.1, fun b hb => ?_⟩, ⟨ho.1, fun o h => (end_ok o (ho.2 o h)).1⟩⟩, hpl, a4, a1.2, hs.2, fun o h => (end_ok o (ho.2 o h)).2⟩, rows_len hr⟩
  have := hc.2 b hb
  show 0 ≤ b ∧ b ≤ size - 1
  omega
end L2.My
end
section
set_option Elab.async false
set_option linter.all false
set_option maxRecDepth 100000
set_option autoImplicit false
/-! LayU: comprehensions that write owned cells. -/
namespace L2.My
open PySem PySem.Spec PyProof.Rows
theorem Ok.slots {B : Hp × Hp} {ρ ρ' : List Slot} {ow ow' : Ow} {G H G' H' : Hp} {σ σ' : St} (a : Ok B ρ ow G σ H) (b : Ok B ρ' ow' G' σ' H') (s : Same G G') : Ok B ρ ow' G' σ H' := ⟨b.gr, fun i x e => (a.sl i x e).mono s, a.len, b.own, b.ap⟩
/-- an iterable that may write owned cells, its items known up to a choice -/
def tIX {α β : Type} (B : Hp × Hp) (ρ : List Slot) (ow ow1 : Ow) (p : β → Prop) (xs : β → List α) (g : α → Pr) : TI := fun σ H R => ∃ G, Ok B ρ ow G σ H ∧ ∀ z J G' H', p z → Ok B ρ ow1 G' σ H' → Same G G' → ItG J (fun Ga _ => Same G' Ga) (xs z) g → R J H'
/-- an element, beside the list that is being made at D -/
def tSt (B : Hp × Hp) (ρ : List Slot) (D : Addr) (ψ : PrO) (ow : Ow) (P : PrO → Ow → Prop) : TE := fun σ H Q => ∃ G, Ok B ρ ((D, ψ) :: ow) G σ H ∧ ∀ u χ ow' G' H', P χ ow' → Ok B ρ ((D, ψ) :: ow') G' σ H' → Same G G' → (∀ vs, ψ.p G' (.lst vs) → χ.p G' (.lst (vs ++ [u]))) → Q u H'
section
variable {α β : Type} {X : Cx} {B : Hp × Hp} {ρ : List Slot} {ow ow1 : Ow} {tg iter elt : Expr} {xs : β → List α} {p : β → Prop} {g : α → Pr} {pos : Pos} {scope : Scope} {own : List (Str × Nat)} {tgG : TG} {fρ : α → List Slot → List Slot}
theorem ix_of {ys : List α} (h : IF X B ρ ow tg iter ys g) : PI X tg iter (tIX B ρ ow ow (fun _ : Unit => True) (fun _ => ys) g) := L2.PI.weak h fun σ H R ⟨G, ok, k⟩ => ⟨G, ok, fun J G' H' g1 w => k () J G' H' True.intro (ok.grow g1) g1.g w⟩
theorem ix_range1 {a : Expr} {p : Nat → Prop} {q : Pos} (hm : X.mg "range" = none) (h : EX X B ρ ow a (exP p fun n => da (.int (n : Nat))) ow1) (hn : ∀ n, p n → n < 2 ^ 62) (hg : Gl X "range" := by rfl) (hs : starEach [a] X.env = [(false, eval a X.env)] := by rfl) :
    PI X tg (.Call (.Name "range" q) [a] [] pos) (tIX B ρ ow ow1 p (fun n => List.range n) fun k => da (.int (k : Nat))) := L2.PI.weak (pi_range1 hg hm (pa_cons h pa_nil hs) hs) fun σ H R ⟨G, ok, k⟩ => ⟨G, ok, fun v G1 H1 ok1 s1 ⟨n, pn, p1⟩ => by
  cases (show Da G1 v (.int (n : Nat)) from p1)
  have hn := hn n pn
  refine ⟨(n : Nat), rfl, by omega, by omega, k n _ G1 H1 pn ok1 s1 ⟨fun i Ga Ha hi s sm => ?_, fun Ga Ha s sm => ?_, fun i x0 Ga Ha x H' hx s sm y => ?_⟩⟩
  · rw [List.length_range] at hi
    show i < (n : Int).toNat
    omega
  · rw [List.length_range]
    show (n : Int).toNat ≤ n
    omega
  · obtain ⟨rfl, rfl⟩ := y
    obtain ⟨h1, h2⟩ := List.getElem?_eq_some_iff.mp hx
    rw [List.getElem_range] at h2
    subst h2
    refine ⟨Ga, .refl sm, ?_⟩
    show Da Ga (.int _) (.int _)
    rw [Int.zero_add]
    exact .int _⟩
theorem lc_readO (Iv : β → Nat → PrO → Ow → Prop) (h0 : ∀ z, p z → Iv z 0 (ol []) ow1) (hψ : ∀ z i ψ ow', Iv z i ψ ow' → ∀ G o, ψ.p G o → ∃ vs, o = .lst vs ∧ vs.length ≤ i)
    (htg : ∀ z, p z → ∀ x ∈ xs z, TgOk tgG (g x) (fρ x) (own.map (·.2)))
    (he : ∀ z, p z → ∀ i x D ψ ow', (xs z)[i]? = some x → Iv z i ψ ow' → ∀ b : Bk, PE (blkOf X scope b) elt (tSt B (fρ x (wipeS ρ (own.map (·.2)))) D ψ ow' (Iv z (i + 1))))
    (hl : ∀ z, p z → (xs z).length ≤ sizeLine) {σ : St} {H : Hp} {Q : VK}
    (q0 : ∃ G, Ok B ρ ow G σ H ∧ ∀ z D ψ ow' G' H', p z → Iv z (xs z).length ψ ow' → Ok B ρ ((D, ψ) :: ow') G' σ H' → Same G G' → Q (.ref D) H') : tLc (tIX B ρ ow ow1 p xs g) tgG (bTs X scope []) (bE X scope elt) (own.map (·.2)) σ H Q := by
  obtain ⟨G, ok, k⟩ := q0
  refine ⟨G, ok, fun z J G1 H1 pz ok1 s1 w D hD => ?_⟩
  have h0 := h0 z pz
  have hψ := hψ z
  have htg := htg z pz
  have he := he z pz
  have hl := hl z pz
  have k := fun ψ ow' G' H' => k z D ψ ow' G' H' pz
  generalize Iv z = Iz at h0 hψ he k
  generalize xs z = ys at htg he hl k w
  refine ⟨fun i m H' => m = ys.length - i ∧ i ≤ ys.length ∧ ∃ G' ψ ow', Iz i ψ ow' ∧ Ok B (wipeS ρ (own.map (·.2))) ((D, ψ) :: ow') G' (L2.wipe σ (own.map (·.2))) H' ∧ Same G1 G', ⟨ys.length, rfl, Nat.zero_le _, G1, ol [], ow1, h0, (ok1.wipe _).mk_own (ψ := ol []) hD ⟨[], rfl, .nil⟩, Same.refl _⟩, ?_⟩
  rintro i m H2 ⟨rfl, hle, G2, ψ, ow', iv, ok2, s2⟩
  by_cases hlt : i < ys.length
  · have hx : ys[i]? = some ys[i] := List.getElem?_eq_getElem hlt
    refine .inr ⟨w.goes i G2 H2 hlt s2 ok2.gr.s, fun H'' => i + 1 ≤ ys.length ∧ ∃ G' ψ ow', Iz (i + 1) ψ ow' ∧ Ok B (wipeS ρ (own.map (·.2))) ((D, ψ) :: ow') G' (L2.wipe σ (own.map (·.2))) H'' ∧ Same G1 G', fun H'' q => ⟨ys.length - (i + 1), by omega, rfl, q⟩, fun v H3 y => ?_⟩
    obtain ⟨G3, g3, p3⟩ := w.yields i _ G2 H2 v H3 hx s2 ok2.gr.s y
    have ok3 := ok2.grow g3
    refine htg _ (List.getElem_mem hlt) B _ _ G3 _ H3 v _ ok3 p3 fun σ3 ok4 hw => ⟨hw.trans (wipe_wipe _ _), fun b pins st I => ets_nil.run pins st _ _ _ I ⟨G3, ok4, fun G4 H4 g4 => ?_⟩⟩
    refine iteT fun b' pins' st' I' => (he i _ D ψ ow' hx iv b').run pins' st' _ _ _ I' ⟨G4, ok4.grow g4, fun u χ ow2 G5 H5 hχ ok5 s5 hput => ?_⟩
    obtain ⟨_, _, o, eo, po⟩ := ok5.own _ List.mem_cons_self
    obtain ⟨vs, rfl, hvl⟩ := hψ i ψ ow' iv G5 o po
    refine ⟨vs, eo, by omega, hlt, G5, χ, ow2, hχ, ?_, ((s2.trans g3.g).trans g4.g).trans s5⟩
    exact ok3.slots (ok5.write (hput vs po)) (g4.g.trans s5)
  · have e : i = ys.length := by omega
    subst e
    exact .inl ⟨w.stops G2 H2 s2 ok2.gr.s, k ψ ow' G2 H2 iv (ok1.slots ok2 s2) (s1.trans s2)⟩
variable {rest : List Stmt} {D : Out} {nm : Str}
/-- x = [.. for ..], the new list owned -/
theorem sv_setLcO {n : Nat} {py spos : Pos} (Iv : β → Nat → PrO → Ow → Prop) (hc : X.calm = true) (hN : X.N.Nodup) (hi : PI X tg iter (tIX B ρ ow ow1 p xs g)) (hok : BlkOk X.N X.env.scope scope own) (hg : ∀ b : Bk, PG (blkOf X scope b) tg tgG)
    (h0 : ∀ z, p z → Iv z 0 (ol []) ow1) (hψ : ∀ z i ψ ow', Iv z i ψ ow' → ∀ G o, ψ.p G o → ∃ vs, o = .lst vs ∧ vs.length ≤ i) (htg : ∀ z, p z → ∀ x ∈ xs z, TgOk tgG (g x) (fρ x) (own.map (·.2)))
    (he : ∀ z, p z → ∀ i x D ψ ow', (xs z)[i]? = some x → Iv z i ψ ow' → ∀ b : Bk, PE (blkOf X scope b) elt (tSt B (fρ x (wipeS ρ (own.map (·.2)))) D ψ ow' (Iv z (i + 1)))) (hl : ∀ z, p z → (xs z).length ≤ sizeLine)
    (hr : ∀ z D1 ψ ow', p z → Iv z (xs z).length ψ ow' → SV X B (ρ.set n (.ptr D1)) ((D1, ψ) :: ow') rest D) (hy : X.N[n]? = some nm := by rfl) (hyl : X.env.scope.names.lookup nm = some .local := by rfl)
    (hsw : swapsWith (.ListComp elt [⟨tg, iter, [], 0⟩] scope pos) (some (.Name nm py)) spos.line X.env = pure true := by exact sw_true rfl rfl rfl (by decide +kernel)) (hs : ∀ x, foldedSetIterable iter X.env x = pure x := by intro _; rfl) :
    SV X B ρ ow (.Assign [.Name nm py] (.ListComp elt [⟨tg, iter, [], 0⟩] scope pos) spos :: rest) D :=
  sv_step (ps_setLc (tt := bTs X scope []) (te := bE X scope elt) hc hN hy hyl hsw hi hok (fun s H C cl fp => hg (s, H, C, cl, fp)) (fun s H C cl fp => pts_b (s, H, C, cl, fp)) (fun s H C cl fp => pe_b (s, H, C, cl, fp)) hs) fun E σ H ⟨⟨G, ok⟩, o⟩ =>
    lc_readO Iv h0 hψ htg he hl ⟨G, ok, fun z D1 ψ ow' G' H' pz iv ok' s => sv_go (hr z D1 ψ ow' pz iv) (ok'.set (s := .ptr D1) rfl) o⟩
/-! elements that leave the owned cells as they are told -/
/-- the list that is made holds n things that S -/
def IvS (S : PyData → Prop) (ow : Ow) (i : Nat) (ψ : PrO) (ow' : Ow) : Prop := ∃ ds : List PyData, ψ = ol ds ∧ ds.length = i ∧ (∀ d ∈ ds, S d) ∧ ow' = ow
theorem ivS_len {S : PyData → Prop} {i : Nat} {ψ : PrO} {ow' : Ow} (h : IvS S ow i ψ ow') (G : Hp) (o : HO) (q : ψ.p G o) : ∃ vs, o = .lst vs ∧ vs.length ≤ i := by
  obtain ⟨ds, rfl, hl, _, _⟩ := h
  obtain ⟨vs, rfl, t⟩ := q
  exact ⟨vs, rfl, by rw [t.length, hl]; exact Nat.le_refl _⟩
theorem st_ex {S : PyData → Prop} {D : Addr} {ψ : PrO} {i : Nat} {ow' : Ow} {e : Expr} (h : IvS S ow i ψ ow') (he : EX X B ρ ((D, ψ) :: ow) e (exP S da) ((D, ψ) :: ow)) : PE X e (tSt B ρ D ψ ow' (IvS S ow (i + 1))) := by
  obtain ⟨ds, rfl, hl, hS, rfl⟩ := h
  refine L2.PE.weak he fun σ H Q ⟨G, ok, k⟩ => ⟨G, ok, fun v G' H' ok' s ⟨d, hd, q⟩ => k v (ol (ds ++ [d])) ow' G' H' ⟨ds ++ [d], rfl, by rw [List.length_append, hl]; rfl, fun x hx => ?_, rfl⟩ ok' s fun vs t => ?_⟩
  · rcases List.mem_append.mp hx with hx | hx
    · exact hS x hx
    · rw [List.mem_singleton.mp hx]; exact hd
  · obtain ⟨vs', e, t⟩ := t
    cases e
    exact ⟨_, rfl, t.append (.cons q .nil)⟩
variable {ys : List α} {S : PyData → Prop}
/-- [.. for ..], its elements known up to a choice -/
theorem ex_lcS (hc : X.calm = true) (hN : X.N.Nodup) (hi : IF X B ρ ow tg iter ys g) (hok : BlkOk X.N X.env.scope scope own) (hg : ∀ b : Bk, PG (blkOf X scope b) tg tgG) (htg : ∀ x ∈ ys, TgOk tgG (g x) (fρ x) (own.map (·.2)))
    (he : ∀ x ∈ ys, ∀ (D : Addr) (ψ : PrO) (b : Bk), EX (blkOf X scope b) B (fρ x (wipeS ρ (own.map (·.2)))) ((D, ψ) :: ow) elt (exP S da) ((D, ψ) :: ow)) (hl : ys.length ≤ sizeLine) (hs : ∀ x, foldedSetIterable iter X.env x = pure x := by intro _; rfl) :
    EX X B ρ ow (.ListComp elt [⟨tg, iter, [], 0⟩] scope pos) (exP (fun ds : List PyData => ds.length = ys.length ∧ ∀ d ∈ ds, S d) fun ds => da (.list ds)) ow :=
  L2.PE.weak (pe_lc (tt := bTs X scope []) (te := bE X scope elt) hc hN (ix_of hi) hok (fun s H C cl fp => hg (s, H, C, cl, fp)) (fun s H C cl fp => pts_b (s, H, C, cl, fp)) (fun s H C cl fp => pe_b (s, H, C, cl, fp)) hs) fun σ H Q ⟨G, ok, k⟩ =>
    lc_readO (fun _ => IvS S ow) (fun _ _ => ⟨[], rfl, rfl, fun d h => (by cases h), rfl⟩) (fun _ i ψ ow' h => ivS_len h) (fun _ _ => htg) (fun _ _ i x D ψ ow' hx h b => st_ex h (he x (List.mem_of_getElem? hx) D ψ b)) (fun _ _ => hl) ⟨G, ok, fun _ D ψ ow' G' H' _ ⟨ds, e1, hdl, hS, e2⟩ ok' s => by
      subst e1
      subst e2
      obtain ⟨o, ⟨vs, rfl, t⟩, ok2, sm⟩ := ok'.freeze
      exact k (.ref D) _ H' ok2 (s.trans sm) ⟨ds, ⟨hdl, hS⟩, .lst upd_same (t.mono sm)⟩⟩
/-- x = [.. for ..], its elements known up to a choice -/
theorem sv_setLcS {n : Nat} {py spos : Pos} (hc : X.calm = true) (hN : X.N.Nodup) (hi : IF X B ρ ow tg iter ys g) (hok : BlkOk X.N X.env.scope scope own) (hg : ∀ b : Bk, PG (blkOf X scope b) tg tgG) (htg : ∀ x ∈ ys, TgOk tgG (g x) (fρ x) (own.map (·.2)))
    (he : ∀ x ∈ ys, ∀ (D : Addr) (ψ : PrO) (b : Bk), EX (blkOf X scope b) B (fρ x (wipeS ρ (own.map (·.2)))) ((D, ψ) :: ow) elt (exP S da) ((D, ψ) :: ow)) (hl : ys.length ≤ sizeLine)
    (hr : ∀ ds : List PyData, ds.length = ys.length → (∀ d ∈ ds, S d) → SV X B (ρ.set n (.val (da (.list ds)))) ow rest D) (hy : X.N[n]? = some nm := by rfl) (hyl : X.env.scope.names.lookup nm = some .local := by rfl)
    (hsw : swapsWith (.ListComp elt [⟨tg, iter, [], 0⟩] scope pos) (some (.Name nm py)) spos.line X.env = pure true := by exact sw_true rfl rfl rfl (by decide +kernel)) (hs : ∀ x, foldedSetIterable iter X.env x = pure x := by intro _; rfl) :
    SV X B ρ ow (.Assign [.Name nm py] (.ListComp elt [⟨tg, iter, [], 0⟩] scope pos) spos :: rest) D :=
  sv_setLcO (fun _ => IvS S ow) hc hN (ix_of hi) hok hg (fun _ _ => ⟨[], rfl, rfl, fun d h => (by cases h), rfl⟩) (fun _ i ψ ow' h => ivS_len h) (fun _ _ => htg) (fun _ _ i x D ψ ow' hx h b => st_ex h (he x (List.mem_of_getElem? hx) D ψ b)) (fun _ _ => hl) (fun _ D1 ψ ow' _ ⟨ds, e1, hdl, hS, e2⟩ => by
    subst e1
    subst e2
    have hnl : n < ρ.length ∨ ¬ n < ρ.length := Decidable.em _
    refine sv_weak (hr ds hdl hS) fun G σ H ok => ?_
    obtain ⟨o, ⟨vs, rfl, t⟩, ok2, sm⟩ := ok.freeze
    refine ⟨_, ok2.gr, fun j s e => ?_, by rw [List.length_set]; have := ok2.len; rw [List.length_set] at this; exact this, ok2.own, ok2.ap⟩
    by_cases hj : j = n
    · subst hj
      rcases hnl with hl | hl
      · rw [List.getElem?_set_self hl] at e
        cases e
        exact ⟨.ref D1, ok.ptr (i := j) (List.getElem?_set_self hl), .lst upd_same (t.mono sm)⟩
      · rw [List.getElem?_eq_none_iff.mpr (by rw [List.length_set]; omega)] at e
        cases e
    · rw [List.getElem?_set_ne (Ne.symm hj)] at e
      exact ok2.sl j s (by rw [List.getElem?_set_ne (Ne.symm hj)]; exact e)) hy hyl hsw hs
end
end L2.My
end
section
set_option Elab.async false
set_option linter.all false
set_option maxRecDepth 100000
set_option autoImplicit false
/-! LayV: a list of owned lists. -/
namespace L2.My
open PySem PySem.Spec PyProof.Rows
/-- a list of the cells at qs -/
def rfO (qs : List Addr) : PrO := ⟨fun _ o => o = .lst (qs.map V.ref), fun _ h => h⟩
def cellsO (qs : List Addr) (dss : List (List PyData)) : Ow := (qs.zip dss).map fun y => (y.1, ol y.2)
theorem cells_snoc {qs : List Addr} {dss : List (List PyData)} (h : qs.length = dss.length) (q : Addr) (ds : List PyData) : cellsO (qs ++ [q]) (dss ++ [ds]) = cellsO qs dss ++ [(q, ol ds)] := by
  unfold cellsO
  rw [List.zip_append h, List.map_append]
  rfl
theorem cells_at : ∀ {qs : List Addr} {dss : List (List PyData)} {j : Nat} {q : Addr} {ds : List PyData}, qs[j]? = some q → dss[j]? = some ds → ∃ ow2, (cellsO qs dss).Perm ((q, ol ds) :: ow2) ∧ ∀ es, (cellsO qs (dss.set j es)).Perm ((q, ol es) :: ow2)
  | [], _, j, q, ds, h, _ => by simp at h
  | _ :: _, [], j, q, ds, _, h => by simp at h
  | a :: qs, e :: dss, 0, q, ds, h1, h2 => by
    simp at h1 h2
    subst h1
    subst h2
    exact ⟨cellsO qs dss, List.Perm.refl _, fun es => List.Perm.refl _⟩
  | a :: qs, e :: dss, j + 1, q, ds, h1, h2 => by
    obtain ⟨ow2, g1, g2⟩ := cells_at (qs := qs) (dss := dss) (j := j) (q := q) (ds := ds) (by simpa using h1) (by simpa using h2)
    exact ⟨(a, ol e) :: ow2, (g1.cons _).trans (List.Perm.swap _ _ _), fun es => ((g2 es).cons _).trans (List.Perm.swap _ _ _)⟩
section
variable {X : Cx} {B : Hp × Hp} {ρ : List Slot} {ow ow' : Ow} {e b c : Expr} {pos : Pos} {rest : List Stmt} {D : Out} {nm : Str}
/-- an owned cell told otherwise -/
theorem Ok.retell {p : Addr} {ψ χ : PrO} {G H : Hp} {σ : St} (ok : Ok B ρ ((p, ψ) :: ow) G σ H) (h : ∀ o, ψ.p G o → χ.p G o) : Ok B ρ ((p, χ) :: ow) G σ H := by
  refine ⟨ok.gr, ok.sl, ok.len, fun q hq => ?_, ok.ap⟩
  rcases List.mem_cons.mp hq with rfl | hq
  · obtain ⟨n, out, o, e1, p1⟩ := ok.own _ List.mem_cons_self
    exact ⟨n, out, o, e1, h o p1⟩
  · exact ok.own q (List.mem_cons_of_mem _ hq)
theorem freeze_all : ∀ {qs : List Addr} {dss : List (List PyData)} {G H : Hp} {σ : St}, qs.length = dss.length → Ok B ρ (cellsO qs dss ++ ow) G σ H → ∃ G', Ok B ρ ow G' σ H ∧ Same G G' ∧ Das G' (qs.map V.ref) (dss.map PyData.list)
  | [], [], G, H, σ, _, ok => ⟨G, ok, Same.refl _, .nil⟩
  | [], _ :: _, _, _, _, h, _ => by cases h
  | _ :: _, [], _, _, _, h, _ => by cases h
  | q :: qs, ds :: dss, G, H, σ, h, ok => by
    have ok : Ok B ρ ((q, ol ds) :: (cellsO qs dss ++ ow)) G σ H := ok
    obtain ⟨o, ⟨vs, rfl, t⟩, ok2, sm⟩ := ok.freeze
    obtain ⟨G', ok3, s3, t3⟩ := freeze_all (Nat.succ.inj h) ok2
    exact ⟨G', ok3, sm.trans s3, .cons (Da.mono s3 (.lst upd_same (t.mono sm))) t3⟩
/-- the cells and the list of them let go -/
theorem sv_freezeR {p : Addr} {qs : List Addr} {dss : List (List PyData)} {i : Nat} {sts : List Stmt} (hl : qs.length = dss.length) (hi : ρ[i]? = some (.ptr p)) (h : SV X B (ρ.set i (.val (da (.list (dss.map PyData.list))))) ow sts D) : SV X B ρ (cellsO qs dss ++ (p, rfO qs) :: ow) sts D := by
  refine sv_weak (sv_freeze (ds := dss.map PyData.list) hi h) fun G σ H ok => ?_
  obtain ⟨G', ok2, s2, t2⟩ := freeze_all hl ok
  exact ⟨G', ok2.retell fun o e => ⟨_, e, t2⟩⟩
theorem st_evo {D1 : Addr} {ψ θ : PrO} {P : PrO → Ow → Prop} {χ : Addr → PrO} (he : EvO X B ρ ((D1, ψ) :: ow) e θ) (hP : ∀ q, P (χ q) ((q, θ) :: ow)) (h : ∀ q G vs, ψ.p G (.lst vs) → (χ q).p G (.lst (vs ++ [.ref q]))) : PE X e (tSt B ρ D1 ψ ow P) :=
  L2.PE.weak he fun σ H Q ⟨G, ok, k⟩ => ⟨G, ok, fun q G' H' ok' s => k (.ref q) (χ q) ((q, θ) :: ow) G' H' (hP q) (ok'.permP (List.Perm.swap _ _ _)) s (h q G')⟩
/-- a list of so many things -/
def lnP (n : Nat) : Pr := ⟨fun H v => ∃ a vs, v = .ref a ∧ H a = some (.lst vs) ∧ vs.length = n, fun s ⟨a, vs, e, h, l⟩ => ⟨a, vs, e, s _ _ h, l⟩⟩
theorem ev_lenO {n i : Nat} {q : Addr} {qs : List Addr} {p p1 : Pos} (hm : X.mg "len" = none) (hi : ρ[i]? = some (.ptr q)) (ho : (q, rfO qs) ∈ ow) (hn : qs.length = n) (hN : X.N[i]? = some nm := by rfl)
    (hv : Vis X.env.scope nm := by first | exact Or.inl rfl | exact Or.inr (Or.inl rfl) | exact Or.inr (Or.inr rfl)) (hd : (nm == ("__debug__" : Str)) = false := by decide) (hcd : (nm == ("__classdict__" : Str)) = false := by decide) (hg : Gl X "len" := by rfl) (hs : starEach [.Name nm p1] X.env = (false, eval (.Name nm p1) X.env) :: starEach [] X.env := by rfl) : EV X B ρ ow (.Call (.Name "len" p) [.Name nm p1] [] pos) (da (.int n)) :=
  ev_callBF call_len_seq hm (ep_ptr (φ := lnP n) hi ho (fun H u e1 e2 => ⟨q, _, rfl, e1.trans (congrArg some e2), by rw [List.length_map]; exact hn⟩) hN hv hd hcd) (fun v H Q ⟨a, vs, e1, e2, hl⟩ k => by
    subst e1
    exact ⟨a, vs, rfl, .inl (SqL.of e2), k _ fun _ => by rw [hl]; exact .int _⟩) hg boot_len (by decide) (by decide) hs
/-- x[j].append(e), x a list of owned lists, j drawn -/
theorem sv_rowApp {i : Nat} {q pl : Addr} {qs : List Addr} {dss : List (List PyData)} {d : PyData} {p1 sp apos cpos : Pos} (hi : ρ[i]? = some (.ptr q)) (hl : qs.length = dss.length) (hsz : ∀ ds ∈ dss, ds.length < sizeLine)
    (hb : EX X B ρ ((pl, poolO) :: (q, rfO qs) :: cellsO qs dss) b (drawP qs.length) ((pl, poolO) :: (q, rfO qs) :: cellsO qs dss)) (hc : EV X B ρ ((pl, poolO) :: (q, rfO qs) :: cellsO qs dss) c (da d))
    (hr : ∀ j, j < dss.length → SV X B ρ ((pl, poolO) :: (q, rfO qs) :: cellsO qs (dss.set j (dss.getD j [] ++ [d]))) rest D) (hN : X.N[i]? = some nm := by rfl)
    (hv : Vis X.env.scope nm := by first | exact Or.inl rfl | exact Or.inr (Or.inl rfl) | exact Or.inr (Or.inr rfl)) (hd : (nm == ("__debug__" : Str)) = false := by decide) (hcd : (nm == ("__classdict__" : Str)) = false := by decide) (hpx : PlainIx b := by intro _ _; rfl)
    (hbase : attributeBase (.Subscript (.Name nm p1) b sp) "append" X.env (eval (.Subscript (.Name nm p1) b sp) X.env) = eval (.Subscript (.Name nm p1) b sp) X.env := by rfl)
    (hfew : ((backTo cpos (starEach [c] X.env)).all (fun x => !x.1) && (backToKw cpos (keywordEach [] X.env)).all (fun x => x.1.isSome) && decide ([c].length + ([] : List Keyword).length + (if ([] : List Keyword).isEmpty then 0 else 1) < 30)) = true := by rfl)
    (hline : (apos.endLine == cpos.line) = true := by rfl) (hs1 : starEach [c] X.env = (false, eval c X.env) :: starEach [] X.env := by rfl) (hplain : (backTo cpos (starEach [] X.env)).any (·.1) = false := by rfl)
    (hs : swapsWith (.Call (.Attribute (.Subscript (.Name nm p1) b sp) "append" apos) [c] [] cpos) none pos.line X.env = pure false := by rfl) : SV X B ρ ((pl, poolO) :: (q, rfO qs) :: cellsO qs dss) (.Expr (.Call (.Attribute (.Subscript (.Name nm p1) b sp) "append" apos) [c] [] cpos) pos :: rest) D :=
  sv_step (ps_expr (pe_bm PySem.F.plainAttrs_list PySem.F.slot_list_append PySem.F.type_list_append mt_append (pe_ix ix_list (pe_var hN hv hd hcd) hb hpx) (pa_cons hc pa_nil hs1) hbase hfew hline hs1 hplain) hs) fun E σ H ⟨⟨G, ok⟩, o⟩ => by
    refine ⟨.ref q, ok.ptr hi, G, ok, fun v1 G1 H1 ok1 s1 ⟨k, ⟨k0, k1⟩, p1⟩ => ?_⟩
    cases (show Da G1 v1 (.int k) from p1)
    obtain ⟨_, _, u, e1, e2⟩ := ok1.own (q, rfO qs) (by simp)
    have e2 : u = .lst (qs.map V.ref) := e2
    subst e2
    obtain ⟨j, rfl⟩ : ∃ j : Nat, k = (j : Nat) := ⟨k.toNat, by omega⟩
    have hj : j < qs.length := by omega
    have hjd : j < dss.length := by omega
    refine ⟨q, qs.map V.ref, ((j : Nat) : Int), .ref qs[j], rfl, rfl, SqL.of e1, atI_nat (by rw [List.getElem?_map, List.getElem?_eq_getElem hj]; rfl), ?_⟩
    obtain ⟨ow2, g1, g2⟩ := cells_at (List.getElem?_eq_getElem hj) (List.getElem?_eq_getElem hjd)
    have perm1 : ∀ es, ((pl, poolO) :: (q, rfO qs) :: cellsO qs (dss.set j es)).Perm ((qs[j], ol es) :: (pl, poolO) :: (q, rfO qs) :: ow2) := fun es => ((((g2 es).cons _).cons _).trans ((List.Perm.swap _ _ _).cons _)).trans (List.Perm.swap _ _ _)
    have perm0 : ((pl, poolO) :: (q, rfO qs) :: cellsO qs dss).Perm ((qs[j], ol dss[j]) :: (pl, poolO) :: (q, rfO qs) :: ow2) := (((g1.cons _).cons _).trans ((List.Perm.swap _ _ _).cons _)).trans (List.Perm.swap _ _ _)
    obtain ⟨_, _, ob, f1, vs, rfl, t⟩ := (ok1.permP perm0).own _ List.mem_cons_self
    have f1' : H1 qs[j] = some (.lst vs) := f1
    refine ⟨.inl ⟨rfl, _, SqL.of f1'⟩, G1, ok1, fun v G2 H2 g q2 => ⟨qs[j], vs, v, rfl, rfl, g.h _ _ f1', by rw [t.length]; exact hsz _ (List.getElem_mem hjd), ?_⟩⟩
    have ok3 := ((ok1.grow g).permP perm0).write (χ := ol (dss[j] ++ [d])) (o := .lst (vs ++ [v])) ⟨_, rfl, (t.mono g.g).append (.cons q2 .nil)⟩
    have hr := hr j hjd
    rw [List.getD_eq_getElem?_getD, List.getElem?_eq_getElem hjd] at hr
    exact sv_go hr (ok3.permP (perm1 _).symm) o
/-- what follows a block told by less -/
theorem sv_nx {P N : List Slot → Ow → Prop} {sts : List Stmt} (h : SV X B ρ ow sts { D with nx := P }) (w : ∀ ρ' ow', P ρ' ow' → N ρ' ow') : SV X B ρ ow sts { D with nx := N } := L2.PSs.weak h fun E σ H ⟨ok, o⟩ => ⟨ok, ⟨fun ρ' ow' G σ H q => o.nx ρ' ow' G σ H (w _ _ q), o.rt, o.bk, o.ct⟩⟩
/-- if (a drawn number) == i: .., both ways brought together -/
theorem sv_ifJ {p : Int → Prop} {i : Int} {s1 s2 : List Stmt} {p1 p2 : Pos} {k : Nat} (P : List Slot → Ow → Prop) (he : EX X B ρ ow e (exP p fun n => da (.int n)) ow') (ha : SV X B ρ ow' s1 { D with nx := P }) (hb : SV X B ρ ow' s2 { D with nx := P }) (hr : ∀ ρ' ow', P ρ' ow' → SV X B ρ' ow' rest D) :
    SV X B ρ ow (.If (.Compare e [.Eq] [.Constant (.int i) k p2] p1) s1 s2 pos :: rest) D := sv_ifX he (sv_nx ha hr) (sv_nx hb hr)
end
section
variable {X : Cx} {B : Hp × Hp} {ρ : List Slot} {ow : Ow} {a b : Expr} {pos q : Pos}
theorem ex_draw {p : Addr} {n : Nat} (T : TX X.K X.mg) (h : 1 ≤ n ∧ n ≤ 1000) (hr : Room 1 X.A) (ha : EV X B ρ ((p, poolO) :: ow) a (pp p)) (hb : EV X B ρ ((p, poolO) :: ow) b (da (.int n))) (hg : Gl X "_law_draw" := by rfl)
    (he : starEach [a, b] X.env = (false, eval a X.env) :: starEach [b] X.env := by rfl) (he2 : starEach [b] X.env = (false, eval b X.env) :: starEach [] X.env := by rfl) : EX X B ρ ((p, poolO) :: ow) (.Call (.Name "_law_draw" q) [a, b] [] pos) (drawP n) ((p, poolO) :: ow) :=
  ex_call (ow := ow) (ok_law_draw T) (p, n) h hr (ea_cons ha (ea_cons hb ea_nil he2) he) rfl hg (by decide) he (by rw [he2]; rfl)
theorem ex_pick {p : Addr} {ds : List PyData} (T : TX X.K X.mg) (h : 1 ≤ ds.length ∧ ds.length ≤ 1000) (hr : Room 2 X.A) (ha : EV X B ρ ((p, poolO) :: ow) a (pp p)) (hb : EV X B ρ ((p, poolO) :: ow) b (da (.list ds))) (hg : Gl X "_law_pick" := by rfl)
    (he : starEach [a, b] X.env = (false, eval a X.env) :: starEach [b] X.env := by rfl) (he2 : starEach [b] X.env = (false, eval b X.env) :: starEach [] X.env := by rfl) : EX X B ρ ((p, poolO) :: ow) (.Call (.Name "_law_pick" q) [a, b] [] pos) (exP (fun d => d ∈ ds) da) ((p, poolO) :: ow) :=
  ex_call (ow := ow) (ok_law_pick T) (p, ds) h hr (ea_cons ha (ea_cons hb ea_nil he2) he) rfl hg (by decide) he (by rw [he2]; rfl)
end
end L2.My
end
section
set_option Elab.async false
set_option linter.all false
set_option maxRecDepth 100000
set_option autoImplicit false
/-! D35: the law: a drawn map. -/
namespace L2.My
open PySem PySem.Spec PyProof.Rows
def IvR (l : List Str) (p : Addr) (_ : Nat) (i : Nat) (ψ : PrO) (ow' : Ow) : Prop := ∃ qs : List Addr, qs.length = i ∧ (ψ = rfO qs ∨ (qs = [] ∧ ψ = ol [])) ∧ ow'.Perm (cellsO qs ((baseR i l).map fun a => a.map .str) ++ [(p, poolO)])
theorem baseR_len {l : List Str} {n : Nat} (h : n ≤ l.length) : (baseR n l).length = n := by
  unfold baseR
  rw [List.length_map, List.length_take]
  omega
theorem baseR_snoc {l : List Str} {i : Nat} {s : Str} (h : l[i]? = some s) : (baseR (i + 1) l).map (fun a => a.map PyData.str) = (baseR i l).map (fun a => a.map PyData.str) ++ [[.str s]] := by
  unfold baseR
  rw [take_succ_get h, List.map_append, List.map_append]
  rfl
theorem menu_len : ∀ l ∈ menuL, l.length = 4 := by decide
theorem base_in {most n : Nat} {l : List Str} (h1 : 1 ≤ n) (h2 : n ≤ most) : baseR n l ∈ rowsOf most l := List.mem_flatMap.mpr ⟨n - 1, List.mem_range.mpr (by omega), by rw [show n - 1 + 1 = n by omega]; exact List.mem_cons_self⟩
theorem more_in {most n j : Nat} {l : List Str} (h1 : 1 ≤ n) (h2 : n ≤ most) (hj : j < n) : (baseR n l).set j ((baseR n l).getD j [] ++ [l.getD 3 ""]) ∈ rowsOf most l := List.mem_flatMap.mpr ⟨n - 1, List.mem_range.mpr (by omega), by
  rw [show n - 1 + 1 = n by omega]
  exact List.mem_cons_of_mem _ (List.mem_map.mpr ⟨j, List.mem_range.mpr hj, rfl⟩)⟩
theorem rowP_get {k : List Str} {i : Nat} {a : Str} (h : k[i]? = some a) : rowP k i = (k.drop (i + 1)).map fun y => (a, y) := by
  unfold rowP
  rw [List.getD_eq_getElem?_getD, h]
  rfl
theorem ends_of {ds : List PyData} (h : ∀ d ∈ ds, d ∈ endM.map eO) : ∃ os : List (Option Int), ds = os.map eO ∧ ∀ o ∈ os, o ∈ endM := by
  induction ds with
  | nil => exact ⟨[], rfl, fun o h => by cases h⟩
  | cons d ds ih =>
    obtain ⟨os, e, ho⟩ := ih fun x hx => h x (List.mem_cons_of_mem _ hx)
    obtain ⟨o, h1, h2⟩ := List.mem_map.mp (h d List.mem_cons_self)
    refine ⟨o :: os, by rw [List.map_cons, h2, e], fun x hx => ?_⟩
    rcases List.mem_cons.mp hx with rfl | hx
    · exact h1
    · exact ho x hx
theorem cuts_of {ds : List PyData} {n : Int} (h : ∀ d ∈ ds, ∃ c : Int, (0 ≤ c ∧ c < n) ∧ d = .int c) : ∃ cs : List Int, ds = cs.map .int ∧ ∀ c ∈ cs, 0 ≤ c ∧ c < n := by
  induction ds with
  | nil => exact ⟨[], rfl, fun o h => by cases h⟩
  | cons d ds ih =>
    obtain ⟨os, e, ho⟩ := ih fun x hx => h x (List.mem_cons_of_mem _ hx)
    obtain ⟨c, h1, h2⟩ := h d List.mem_cons_self
    refine ⟨c :: os, by rw [List.map_cons, h2, e], fun x hx => ?_⟩
    rcases List.mem_cons.mp hx with rfl | hx
    · exact h1
    · exact ho x hx
theorem lm_nd : ([.inr "rows", .inr "ways", .inr "size", .inr "cuts", .inr "ends"] : List Key).Nodup := by decide
section
variable {P : Program} {w : World} {K : PySem.W.Frag} {mg : Str → Option Value} {base : Heap}
abbrev N_lm : List Str := ["_law_pool_here", "_law_most_so", "_law_left", "_law_rows", "_law_every", "_law_ways", "_law_row", "_law_known", "_law_at", "_law_place", "_law_size", "_law_ends", "_law_cuts"]
theorem sc_law_map : FnScope N_lm ["_law_pool_here", "_law_most_so"] (defScope s_law_map) := ⟨rfl, rfl, rfl, by decide +kernel, rfl, by decide +kernel, by decide +kernel⟩
theorem ok_law_map (T : TX K mg) : Def P w K mg base "_law_map" 3 ["_law_pool_here", "_law_most_so"] (spO (fun x : Addr × Nat => 1 ≤ x.2 ∧ x.2 ≤ 2) (fun x => [.ptr x.1, .val (da (.int (x.2 : Nat)))]) (fun x => [(x.1, poolO)]) (fun x => [(x.1, poolO)]) (fun x => exP (MapL x.2) fun m => da (eLM m))) := by
  refine def_mkW T.d_law_map sc_law_map (fun _ _ _ _ _ _ us hl => match us, hl with | [_, _], _ => rfl) (fun _ => rfl) (by decide) fun ⟨p, most⟩ ⟨hm1, hm2⟩ f cdv A outer s0 H0 H E B hr => ?_
  have hm1 : 1 ≤ most := hm1
  have hm2 : most ≤ 2 := hm2
  have hu : (cxF P w K mg base N_lm "_law_map" s_law_map f cdv A outer s0 H E).A.units + 1 < cLine := by have := hr.un; omega
  have hr1 : Room 1 (cxF P w K mg base N_lm "_law_map" s_law_map f cdv A outer s0 H E).A := hr.mono (by decide)
  show SV _ B _ [(p, poolO)] _ _
  refine sv_setX (i := 2) (φ := exP (fun d => d ∈ menuL.map fun l => PyData.list (l.map .str)) da) sc_law_map.nd (ex_pick (ow := []) (ds := menuL.map fun l => PyData.list (l.map .str)) T (by decide) hr (pv 0) (ev_lst (ed_cons (ev_lst (ds := (["a", "b", "c", "d"] : List Str).map .str) (ed_cons ev_str (ed_cons ev_str (ed_cons ev_str (ed_cons ev_str ed_nil)))) (by show 4 ≤ sizeLine; decide)) (ed_cons (ev_lst (ds := (["zz", "m", "b", "a"] : List Str).map .str) (ed_cons ev_str (ed_cons ev_str (ed_cons ev_str (ed_cons ev_str ed_nil)))) (by show 4 ≤ sizeLine; decide)) ed_nil)) (by show 2 ≤ sizeLine; decide))) ?_
  refine sv_reslot (ψ := exP (fun l : List Str => l ∈ menuL) fun l => da (.list (l.map .str))) 2 rfl (fun H v ⟨d, hd, q⟩ => by
    obtain ⟨l, hl, e⟩ := List.mem_map.mp hd
    exact ⟨l, hl, by show (da (.list (l.map .str))).p H v; rw [e]; exact q⟩) ?_
  refine sv_open 2 rfl fun l hl => ?_
  have hl : l ∈ menuL := hl
  have hl4 := menu_len l hl
  refine sv_setLcO (n := 3) (p := fun k : Nat => 1 ≤ k ∧ k ≤ most) (xs := fun k => List.range k) (g := fun i => da (.int (i : Nat))) (ow1 := [(p, poolO)]) (own := [("_law_at", 8)]) (tgG := gName 8) (fρ := fun i ρ => ρ.set 8 (.val (da (.int (i : Nat))))) (IvR l p) rfl sc_law_map.nd
    (ix_range1 T.b_range (ex_as (ex_add ev_int (ex_draw (ow := []) (n := most) T ⟨hm1, by omega⟩ hr1 (pv 0) (vv 1))) fun H v ⟨n, ⟨n0, n1⟩, q⟩ => ⟨(1 + n).toNat, ⟨by omega, by omega⟩, by
      show Da H v (.int (((1 + n).toNat : Nat) : Int))
      rw [Int.toNat_of_nonneg (by omega)]
      exact q⟩) fun n hn => by omega)
    (blkOk_by (N := N_lm) (sc := defScope s_law_map) (by decide +kernel)) (fun _ => pgn 8 sc_law_map.nd) (fun _ _ => ⟨[], rfl, .inr ⟨rfl, rfl⟩, List.Perm.refl _⟩) (fun _ i ψ ow' ⟨qs, hq, hψ, _⟩ G o q => ?_) (fun _ _ i _ => tg_name (by decide)) (fun z hz i x D1 ψ ow' hx ⟨qs, hq, hψ, hp⟩ b => ?_) (fun z hz => by rw [List.length_range]; exact sz) fun z D1 ψ ow' ⟨z1, z2⟩ ⟨qs, hq, hψ, hp⟩ => ?_
  · rcases hψ with rfl | ⟨rfl, rfl⟩
    · exact ⟨_, q, by rw [List.length_map, hq]; exact Nat.le_refl _⟩
    · obtain ⟨vs, e, t⟩ := q
      exact ⟨vs, e, by rw [t.length]; exact Nat.zero_le _⟩
  · obtain ⟨hil, hix⟩ := List.getElem?_eq_some_iff.mp hx
    rw [List.getElem_range] at hix
    subst hix
    rw [List.length_range] at hil
    have hget : l[i]? = some l[i] := List.getElem?_eq_getElem (by omega)
    refine st_evo (χ := fun q => rfO (qs ++ [q])) (evo_lst (ds := [.str l[i]]) (ed_cons (ev_ixL (vv 2) (vv 8) (atI_nat (by rw [List.getElem?_map, hget]; rfl))) ed_nil) (by show 1 ≤ sizeLine; decide)) (fun q => ⟨qs ++ [q], by rw [List.length_append, hq]; rfl, .inl rfl, ?_⟩) fun q G vs h => ?_
    · rw [baseR_snoc hget, cells_snoc (by rw [List.length_map, baseR_len (by omega)]; exact hq), List.append_assoc]
      exact (hp.cons _).trans List.perm_middle.symm
    · show HO.lst _ = HO.lst _
      rw [List.map_append]
      rcases hψ with rfl | ⟨rfl, rfl⟩
      · have h : HO.lst vs = .lst (qs.map V.ref) := h
        injection h with h
        rw [h]
        rfl
      · obtain ⟨vs', e, t⟩ := h
        cases e
        cases t
        rfl
  · rw [List.length_range] at hq hp
    have hψ : ψ = rfO qs := by
      rcases hψ with h | ⟨h, _⟩
      · exact h
      · rw [h] at hq
        have : 0 = z := hq
        omega
    subst hψ
    have hbl := baseR_len (l := l) (n := z) (by omega)
    have hdl : qs.length = ((baseR z l).map fun a => a.map PyData.str).length := by rw [List.length_map, hbl]; exact hq
    refine sv_perm (ow' := (p, poolO) :: (D1, rfO qs) :: cellsO qs ((baseR z l).map fun a => a.map PyData.str)) ?_ ?_
    · exact ((hp.trans List.perm_append_comm).cons _).trans (List.Perm.swap _ _ _)
    refine sv_ifJ (fun ρ' ow' => ρ' = [.ptr p, .val (da (.int (most : Nat))), .val (da (.list (l.map .str))), .ptr D1, .no, .no, .no, .no, .no, .no, .no, .no, .no] ∧ ∃ rs ∈ rowsOf most l, qs.length = (rs.map fun a => a.map PyData.str).length ∧ ow' = (p, poolO) :: (D1, rfO qs) :: cellsO qs (rs.map fun a => a.map PyData.str)) (ex_draw (n := 2) T (by decide) hr1 (pv 0) ev_int) ?_ (sv_nil ⟨rfl, _, base_in z1 z2, hdl, rfl⟩) fun ρ' ow2 hI => ?_
    · refine sv_rowApp (i := 3) (d := .str (l.getD 3 "")) rfl hdl (fun ds hds => by
        obtain ⟨a, ha, rfl⟩ := List.mem_map.mp hds
        obtain ⟨s, _, rfl⟩ := List.mem_map.mp ha
        show 1 < sizeLine
        decide) (ex_draw (n := qs.length) T ⟨by omega, by omega⟩ hr1 (pv 0) (ev_lenO (i := 3) T.b_len rfl (by simp) rfl)) (ev_ixL (vv 2) ev_int (atI_nat (j := 3) (by rw [List.getElem?_map, List.getD_eq_getElem?_getD, List.getElem?_eq_getElem (show 3 < l.length by omega)]; rfl))) fun j hj => ?_
      rw [List.length_map, hbl] at hj
      refine sv_nil ⟨rfl, _, more_in z1 z2 hj, ?_, ?_⟩
      · rw [List.length_map, List.length_set, hbl]; exact hq
      · congr 3
        rw [List.map_set, List.map_append]
        congr 2
        rw [List.getD_eq_getElem?_getD, List.getD_eq_getElem?_getD, List.getElem?_map, List.getElem?_eq_getElem (show j < (baseR z l).length by omega)]
        rfl
    · obtain ⟨rfl, rs, hrs, hql, rfl⟩ := hI
      obtain ⟨⟨⟨r1, r2⟩, r3, r4, r5⟩, r6, r7, r8⟩ := rows_ok l hl rs (rows_most hm2 hrs)
      refine sv_perm (ow' := cellsO qs (rs.map fun a => a.map PyData.str) ++ (D1, rfO qs) :: [(p, poolO)]) ?_ ?_
      · exact ((List.Perm.swap _ _ _).trans ((List.perm_append_comm (l₁ := [(p, poolO)]) (l₂ := cellsO qs (rs.map fun a => a.map PyData.str))).cons _)).trans List.perm_middle.symm
      refine sv_freezeR (i := 3) hql rfl ?_
      have er : (rs.map fun a => a.map PyData.str).map PyData.list = rs.map (eArea false) := by
        rw [List.map_map]
        rfl
      rw [er]
      refine sv_parVO (n := 4) (m := 5) (φ := da (.list [])) (ψ := ol []) rfl sc_law_map.nd (ev_lst ed_nil (by decide)) (evo_lst ed_nil (by decide)) fun wq => ?_
      refine sv_for (xs := rs) (g := fun a => da (eArea false a)) (vs := [6]) (fun i ρ' ow' => (∃ s6, ρ' = [.ptr p, .val (da (.int (most : Nat))), .val (da (.list (l.map .str))), .val (da (.list (rs.map (eArea false)))), .val (da (.list ((rs.take i).flatten.map .str))), .ptr wq, s6, .no, .no, .no, .no, .no, .no]) ∧ ow' = [(wq, ol []), (p, poolO)])
        PassesOwn.never rfl (if_list (f := eArea false) (vv 3)) (pgn 6 sc_law_map.nd) (fun a _ => tg_name (by decide)) ⟨⟨_, rfl⟩, rfl⟩ (fun i a ρ' ow' B' hx hI => ?_) fun ρ' ow' hI => ?_
      · obtain ⟨⟨s6, rfl⟩, rfl⟩ := hI
        have hle : (rs.take i).flatten.length + a.length ≤ 100 := by
          have e : rs = rs.take (i + 1) ++ rs.drop (i + 1) := (List.take_append_drop _ _).symm
          have e2 : rs.flatten.length = (rs.take (i + 1)).flatten.length + (rs.drop (i + 1)).flatten.length := by rw [← List.length_append, ← List.flatten_append, ← e]
          rw [take_succ_get hx, List.flatten_append, List.length_append] at e2
          simp only [List.flatten_cons, List.flatten_nil, List.append_nil] at e2
          omega
        refine sv_set (i := 4) (φ := da (.list ((rs.take (i + 1)).flatten.map .str))) sc_law_map.nd (ev_eq (ev_catL (ds := (rs.take i).flatten.map .str) (ds2 := a.map .str) (vv 4) (vv 6) (by rw [List.length_map, List.length_map]; exact sz)) ?_) (sv_nil ⟨⟨_, rfl⟩, rfl⟩)
        rw [take_succ_get hx, List.flatten_append, List.map_append]
        simp
      · obtain ⟨⟨s6, rfl⟩, rfl⟩ := hI
        rw [List.take_length]
        refine sv_set (i := 7) (φ := da (.list ((knownOf rs).map .str))) sc_law_map.nd (ev_sortedS (ss := rs.flatten) T.b_sorted (ev_lc0 (xs := rs.flatten) (g := fun s => da (.str s)) (f := fun s => .str s) (own := [("_law_place", 9)]) (tgG := gName 9) (fρ := fun s ρ => ρ.set 9 (.val (da (.str s)))) rfl sc_law_map.nd (it_of (if_list (f := PyData.str) (vv 4))) (blkOk_by (N := N_lm) (sc := defScope s_law_map) (by decide +kernel)) (fun _ => pgn 9 sc_law_map.nd) (fun d _ => tg_name (by decide)) (fun s _ b => ev_strS T.b_str (vv 9)) (by exact sz)) (by omega) fun zs h1 h2 => sorted_unique r8 zs (h1.trans r7.symm) h2) ?_
        have hkl : (knownOf rs).length ≤ 3 := by rw [r7.length_eq]; exact r5
        have hwl : ∀ ps : List (Str × Str), ps.Sublist (fullP (knownOf rs)) → ps.length ≤ 9 := fun ps h => by
          refine Nat.le_trans h.length_le ?_
          have gen : ∀ xs : List Nat, (xs.flatMap (rowP (knownOf rs))).length ≤ xs.length * 3 := by
            intro xs
            induction xs with
            | nil => exact Nat.zero_le _
            | cons x xs ih =>
              rw [List.flatMap_cons, List.length_append, List.length_cons, Nat.succ_mul]
              have : (rowP (knownOf rs) x).length ≤ 3 := by
                unfold rowP
                rw [List.length_map, List.length_drop]
                omega
              omega
          have := gen (List.range (knownOf rs).length)
          rw [List.length_range] at this
          unfold fullP
          omega
        have hpre : ∀ i, i ≤ (knownOf rs).length → (((List.range (knownOf rs).length).take i).flatMap (rowP (knownOf rs))).Sublist (fullP (knownOf rs)) := fun i _ => by
          unfold fullP
          conv => rhs; rw [← List.take_append_drop i (List.range (knownOf rs).length), List.flatMap_append]
          exact List.sublist_append_left _ _
        refine sv_for (xs := List.range (knownOf rs).length) (g := fun a => da (.int (a : Nat))) (vs := [8]) (fun i ρ' ow' => (∃ s6 s8 s9, ρ' = [.ptr p, .val (da (.int (most : Nat))), .val (da (.list (l.map .str))), .val (da (.list (rs.map (eArea false)))), .val (da (.list (rs.flatten.map .str))), .ptr wq, s6, .val (da (.list ((knownOf rs).map .str))), s8, s9, .no, .no, .no]) ∧ ∃ ps : List (Str × Str), ps.Sublist (((List.range (knownOf rs).length).take i).flatMap (rowP (knownOf rs))) ∧ ow' = [(wq, ol (ps.map ePath)), (p, poolO)])
          PassesOwn.never rfl (if_range1 T.b_range (ev_eq (ev_len T.b_len (ds := (knownOf rs).map .str) (ep_of (vv 7))) (by rw [List.length_map])) (by omega)) (pgn 8 sc_law_map.nd) (fun s _ => tg_name (by decide)) ⟨⟨_, _, _, rfl⟩, [], List.nil_sublist _, rfl⟩ (fun i x ρ' ow' B' hx hI => ?_) fun ρ' ow' hI => ?_
        · obtain ⟨⟨s6, s8, s9, rfl⟩, ps, hps, rfl⟩ := hI
          obtain ⟨hil, hix⟩ := List.getElem?_eq_some_iff.mp hx
          rw [List.getElem_range] at hix
          subst hix
          rw [List.length_range] at hil
          have hget : (knownOf rs)[i]? = some (knownOf rs)[i] := List.getElem?_eq_getElem hil
          have hrow := rowP_get hget
          have hsucc : ((List.range (knownOf rs).length).take (i + 1)).flatMap (rowP (knownOf rs)) = ((List.range (knownOf rs).length).take i).flatMap (rowP (knownOf rs)) ++ rowP (knownOf rs) i := by
            rw [take_succ_get hx, List.flatMap_append]
            simp
          refine sv_for (xs := (knownOf rs).drop (i + 1)) (g := fun s => da (.str s)) (vs := [9]) (fun j ρ' ow' => (∃ s9, ρ' = [.ptr p, .val (da (.int (most : Nat))), .val (da (.list (l.map .str))), .val (da (.list (rs.map (eArea false)))), .val (da (.list (rs.flatten.map .str))), .ptr wq, s6, .val (da (.list ((knownOf rs).map .str))), .val (da (.int (i : Nat))), s9, .no, .no, .no]) ∧ ∃ ps : List (Str × Str), ps.Sublist (((List.range (knownOf rs).length).take i).flatMap (rowP (knownOf rs)) ++ (((knownOf rs).drop (i + 1)).take j).map fun y => ((knownOf rs)[i], y)) ∧ ow' = [(wq, ol (ps.map ePath)), (p, poolO)])
            PassesOwn.never rfl (if_list (f := PyData.str) (ev_eq (ev_sliceL (vv 7) (eo_some (i := ((i + 1 : Nat) : Int)) (ev_eq (ev_add (i := ((i : Nat) : Int)) (j := 1) (vv 8) ev_int) (congrArg PyData.int (by omega)))) eo_none) (by rw [cutL_from, ← List.map_drop]))) (pgn 9 sc_law_map.nd) (fun s _ => tg_name (by decide)) ⟨⟨_, rfl⟩, ps, by simpa using hps, rfl⟩ (fun j y ρ' ow' B2 hy hI => ?_) fun ρ' ow' hI => ?_
          · obtain ⟨⟨s9, rfl⟩, ps, hps, rfl⟩ := hI
            have hsub : ((((List.range (knownOf rs).length).take i).flatMap (rowP (knownOf rs)) ++ (((knownOf rs).drop (i + 1)).take j).map fun y => ((knownOf rs)[i], y))).Sublist (fullP (knownOf rs)) := by
              refine List.Sublist.trans ?_ (hpre (i + 1) (by omega))
              rw [hsucc, hrow]
              exact List.Sublist.append_left ((List.take_sublist _ _).map _) _
            have hlen := hwl ps (hps.trans hsub)
            have esy : ((knownOf rs).drop (i + 1)).take (j + 1) = ((knownOf rs).drop (i + 1)).take j ++ [y] := take_succ_get hy
            refine sv_swap (sv_ifX (ex_draw (n := 2) T (by decide) hr1 (pv 0) ev_int) (sv_swap ?_) (sv_swap ?_))
            · refine sv_append (i := 5) (d := ePath ((knownOf rs)[i], y)) rfl (ev_tup (ds := [.str (knownOf rs)[i], .str y]) (ed_cons (ev_ixL (vv 7) (vv 8) (atI_nat (by rw [List.getElem?_map, hget]; rfl))) (ed_cons (vv 9) ed_nil)) (by show 2 ≤ sizeLine; decide)) (by rw [List.length_map]; exact szl) (sv_nil (sv_nil ⟨⟨_, rfl⟩, ps ++ [((knownOf rs)[i], y)], ?_, by rw [List.map_append]; rfl⟩))
              rw [esy, List.map_append, ← List.append_assoc]
              exact hps.append_right _
            · refine sv_nil (sv_nil ⟨⟨_, rfl⟩, ps, ?_, rfl⟩)
              rw [esy, List.map_append, ← List.append_assoc]
              exact hps.trans (List.sublist_append_left _ _)
          · obtain ⟨⟨s9, rfl⟩, ps, hps, rfl⟩ := hI
            rw [List.take_length, ← hrow, ← hsucc] at hps
            exact sv_nil ⟨⟨_, _, _, rfl⟩, ps, hps, rfl⟩
        · obtain ⟨⟨s6, s8, s9, rfl⟩, ps, hps, rfl⟩ := hI
          rw [List.take_length] at hps
          have hps : ps.Sublist (fullP (knownOf rs)) := hps
          refine sv_swap ?_
          refine sv_setX (i := 10) (φ := exP (fun n : Int => 0 ≤ n ∧ n < (2 : Nat)) fun n => da (.int (1 + n))) sc_law_map.nd (ex_add ev_int (ex_draw (n := 2) T (by decide) hr1 (pv 0) ev_int)) ?_
          refine sv_open 10 rfl fun n ⟨n0, n1⟩ => ?_
          obtain ⟨size, esz, hs1, hs2⟩ : ∃ size : Nat, 1 + n = ((size : Nat) : Int) ∧ 1 ≤ size ∧ size ≤ 2 := ⟨(1 + n).toNat, by omega, by omega, by omega⟩
          rw [esz]
          refine sv_setLcS (n := 11) (ys := rs) (S := fun d => d ∈ endM.map eO) (g := fun a => da (eArea false a)) (own := [("_law_row", 6)]) (tgG := gName 6) (fρ := fun a ρ => ρ.set 6 (.val (da (eArea false a)))) rfl sc_law_map.nd (if_list (f := eArea false) (vv 3)) (blkOk_by (N := N_lm) (sc := defScope s_law_map) (by decide +kernel)) (fun _ => pgn 6 sc_law_map.nd) (fun a _ => tg_name (by decide))
            (fun a _ D2 ψ2 b => ex_perm (List.Perm.swap _ _ _) (List.Perm.swap _ _ _) (ex_pick (ds := endM.map eO) T (by decide) hr (pv 0) (ev_lst (ed_cons ev_int (ed_cons ev_int (ed_cons ev_int (ed_cons ev_int (ed_cons ev_int (ed_cons ev_non ed_nil)))))) (by show 6 ≤ sizeLine; decide)))) sz fun ds hdl2 hds => ?_
          obtain ⟨os, rfl, hos⟩ := ends_of hds
          rw [List.length_map] at hdl2
          refine sv_setLcS (n := 12) (ys := rs) (S := fun d => ∃ c : Int, (0 ≤ c ∧ c < (size : Nat)) ∧ d = .int c) (g := fun a => da (eArea false a)) (own := [("_law_row", 6)]) (tgG := gName 6) (fρ := fun a ρ => ρ.set 6 (.val (da (eArea false a)))) rfl sc_law_map.nd (if_list (f := eArea false) (vv 3)) (blkOk_by (N := N_lm) (sc := defScope s_law_map) (by decide +kernel)) (fun _ => pgn 6 sc_law_map.nd) (fun a _ => tg_name (by decide))
            (fun a _ D2 ψ2 b => ex_perm (List.Perm.swap _ _ _) (List.Perm.swap _ _ _) (ex_as (ex_draw (n := size) T ⟨hs1, by omega⟩ hr1 (pv 0) (vv 10)) fun H v ⟨c, hc, q⟩ => ⟨_, ⟨c, hc, rfl⟩, q⟩)) sz fun ds hdl3 hds => ?_
          obtain ⟨cs, rfl, hcs⟩ := cuts_of hds
          rw [List.length_map] at hdl3
          refine sv_swap (sv_freeze (i := 5) rfl ?_)
          refine sv_ret (ev_disp (l := lmK ⟨rs, ps, (size : Nat), cs, os⟩) (.cons ev_str (vv 3) (.cons ev_str (vv 5) (.cons ev_str (vv 10) (.cons ev_str (vv 12) (.cons ev_str (vv 11) .nil))))) (by simp [lmK]) (show 5 ≤ 15 by decide) lm_nd) (fun H v q => ⟨_, mapL_of hm2 hl hrs hps ⟨by omega, by omega⟩ ⟨hdl3, hcs⟩ ⟨hdl2, hos⟩, q⟩) fun _ => pool_self
end
end L2.My
end
section
set_option Elab.async false
set_option linter.all false
set_option maxRecDepth 100000
set_option autoImplicit false
/-! LayX: several clauses 'except X as n'. -/
namespace L2.My
open PySem PySem.Spec PyProof.Rows
/-- one clause: the class, the suite's reading -/
abbrev Cl : Type := Value × (Addr → Value → Option Addr → TS)
def dAs (i : Nat) (D : Ends) : Ends := { nx := fun σ' H' => D.nx (σ'.set i none) H', rt := D.rt, bk := fun σ' H' => D.bk (σ'.set i none) H', ct := fun σ' H' => D.ct (σ'.set i none) H' }
/-- what the clauses wish of the body's exception, one behind the other; slot i is the name's -/
def wManyA (K : PySem.W.Frag) (Wo : WX) (i : Nat) (D : Ends) : List Cl → WX
  | [] => Wo
  | z :: r => fun cls d σ H => ∃ b, PySem.W.exmOne K cls z.1 = some b ∧ (b = true → ∀ a, H a = none → z.2 a cls d (dAs i D) (σ.set i (some (.ref a))) H) ∧ (b = false → wManyA K Wo i D r cls d σ H)
inductive HdsA (X : Cx) (n : Str) : List ExceptHandler → List Cl → Prop
  | nil : HdsA X n [] []
  | cons {x : Str} {c : Value} {ts : Addr → Value → Option Addr → TS} {b0 : Stmt} {su : List Stmt} {np hp : Pos} {hds : List ExceptHandler} {l : List Cl} (hc : Names X x c)
      (hsu : ∀ (a : Addr) (oe : Obj) (cls : Value) (d : Option Addr) (pn : List (Addr × Obj)), Zc cls d oe → (∃ vs, oe.data = .fields vs) → PSs (X.suite a ((a, oe) :: pn)) (b0 :: su) (ts a cls d)) (r : HdsA X n hds l) :
      HdsA X n (.ExceptHandler (some (.Name x np)) (some n) (b0 :: su) hp :: hds) ((c, ts) :: l)
theorem ps_try_manyA {X : Cx} {body : List Stmt} {h0 : ExceptHandler} {hds : List ExceptHandler} {l : List Cl} {pos : Pos} {tb : WX → TS} {Wo : WX} {n : Str} {i : Nat} (hs : X.stack = X.env :: X.outer) (hf : X.env.frame = some X.env.locals) (hN : X.N.Nodup) (hi : X.N[i]? = some n) (hln : X.env.kindOf n = some .local) (tk : Takes X Wo)
    (hb : ∀ (W : WX) (pn : List (Addr × Obj)) (xe : Value → Shared → Prop), Takes (X.tr pn xe) W → PassesOwn (model X.prog X.w) X.A X.env xe → PSs (X.tr pn xe) body (tb W)) (hh : HdsA X n (h0 :: hds) l) :
    PS X (.Try body (h0 :: hds) [] [] pos) (fun D σ H => tb (wManyA X.K Wo i D l) D σ H) := by
  refine ⟨fun pins s σ H D I h => wpAny_Try_except ?_⟩
  have ok := I.ok
  have hfr : X.A.frames = some (X.env :: X.outer) := ok.frames.trans (congrArg some hs)
  have hloc : Loc X.env.scope n := .inl hln
  let xe1 : Value → Shared → Prop := fun e s₁ => wpAny (model X.prog X.w) X.A (noteFrame e X.env) (fun _ s₂ => wpAny (model X.prog X.w) X.A (setFlight e none) (fun _ s₃ => wpAny (model X.prog X.w) X.A (handleBy e X.env (h0 :: hds)) (SP X pins D) X.xe s₃) X.xe s₂) X.xe s₁
  have catch_ : Takes (X.tr (X.pn ++ pins) xe1) (wManyA X.K Wo i D l) := by
    rintro e s' ⟨a, B, sI, pins', σ', H', cls, d, rfl, J', nb, up, sky, na, os, ag, w⟩
    have J : Inv X pins σ' H' sI := J'.ofTry ok
    have sky2 : Sky B (X.env :: X.outer) a (Zc cls d) X.env.locals s'.heap := hs ▸ sky
    refine Sky.land Zc.steady hfr hf sky2 fun h3 fl3 up3 => ?_
    have J3 : Inv X pins σ' H' { s' with heap := h3 } := J.landed nb fl3.1 (up.trans up3) os ag
    obtain ⟨oe3, vs3, he3, hz3, hd3⟩ := fl3.there
    have nfr : a ∉ frs (X.env :: X.outer) := fun hm => by
      obtain ⟨_, o', e', hnf⟩ := fl3.2.2.1.mem hm
      rw [he3] at e'
      cases e'
      exact hnf _ hd3
    have nL : a ≠ X.env.locals := fun z => nfr (List.mem_filterMap.mpr ⟨X.env, List.mem_cons_self, hf.trans (congrArg some z.symm)⟩)
    have nF : a ∉ X.fs := fun hm => by
      obtain ⟨e, he, q⟩ := List.mem_filterMap.mp hm
      exact nfr (List.mem_filterMap.mpr ⟨e, List.mem_cons_of_mem _ he, q⟩)
    have S3 := J3.suite he3 hd3 na nL nF
    have LT : PySem.W.Looks (model X.prog X.w) h3 (typeOf (.ref a)) cls := fun A Q E s k q => wpAny_typeOf_ref (k _ _ he3) (by rw [hz3.1]; exact q)
    have go : ∀ {hds2 : List ExceptHandler} {l2 : List Cl}, HdsA X n hds2 l2 → wManyA X.K Wo i D l2 cls d σ' H' → wpAny (model X.prog X.w) X.A (handleBy (.ref a) X.env hds2) (SP X pins D) X.xe { s' with heap := h3 } := by
      intro hds2 l2 hk
      induction hk with
      | nil =>
        intro w0
        refine wpAny_handleBy_nil ?_
        obtain ⟨_, _, _, oe, vs, T, oT, ts', he, hz, hd, h1, hr⟩ := id fl3
        unfold PySem.passOn
        refine wpAny_bind (wpAny_field he hd h1 ?_)
        rw [if_neg (show ¬ ((Value.ref T == Value.none) = true) from by simp)]
        have fin : wpAny (model X.prog X.w) X.A (setFlight (.ref a) X.env.frame) (fun _ s4 => wpAny (model X.prog X.w) X.A (throw (.ref a) : Sem Flow) (SP X pins D) X.xe s4) X.xe { s' with heap := h3 } := by
          rw [hf]
          exact HandSPX.setFlight_upZ fl3 fun h4 hh4 up4 => wpAny_throw (tk _ _ ⟨a, B, sI, pins, σ', H', cls, d, rfl, J, nb, (up.trans up3).trans up4, .inr (.inr (by rw [hs]; exact hh4)), na, os, ag, w0⟩)
        first
          | exact wpAny_bind (wpAny_pure (wpAny_bind fin))
          | exact wpAny_bind fin
      | @cons x c ts b0 su np hp hds3 l3 hc hsu r ih =>
        rintro ⟨b, hb1, hyes, hno⟩
        refine wpAny_handleBy_cons (codeAny_handlers_test ?_) (by intro q; cases q)
        have LM := PySem.W.exm_one (M := model X.prog X.w) (J3.kIn) LT hb1
        have test : ∀ {Q E : Value → Shared → Prop}, Q c { s' with heap := h3 } → wpAny (model X.prog X.w) (X.A.mark (some (.ref a))) (eval (.Name x np) X.env) Q E { s' with heap := h3 } := fun q => by
          rcases hc with ⟨hg, hdbg, hm | ⟨hm, hv, hnn⟩⟩
          · exact ld_glob (X := X.suite a ((a, oe3) :: (X.pn ++ pins))) S3 hg hm q hdbg
          · exact ld_blt (X := X.suite a ((a, oe3) :: (X.pn ++ pins))) S3 hg hm hv q hnn hdbg
        refine test (LM.here ?_)
        cases b with
        | false => exact ih (hno rfl)
        | true =>
          refine codeAny_handlers_suite_as (HandSPX.lands_againZ fl3 fun h4 fl4 up4 => ?_)
          have J4 : Inv X pins σ' H' { s' with heap := h4 } := J.landed nb fl4.1 ((up.trans up3).trans up4) os ag
          obtain ⟨oe4, vs4, he4, hz4, hd4⟩ := fl4.there
          have S4 := J4.suite he4 hd4 na nL nF
          refine store_ok (X := X.suite a ((a, oe4) :: (X.pn ++ pins))) (v := .ref a) S4 hN hi hloc rfl (fun s5 S5 => ?_) (.inr hln)
          refine wpAny_mono ((hsu a oe4 cls d (X.pn ++ pins) hz4 ⟨_, hd4⟩).run [] s5 _ H' _ S5 (hyes rfl a na)) (fun f s6 hsp => ?_) (fun _ _ z => False.elim z)
          have over : ∀ {σ6 : St} {H6 : Hp} {Q : Shared → Prop}, Inv (X.suite a ((a, oe4) :: (X.pn ++ pins))) [] σ6 H6 s6 → (∀ s7, Inv X pins (σ6.set i none) H6 s7 → Q s7) → wpAny (model X.prog X.w) X.A (do bindName X.env n .none; unbindBehindTheSuite X.env n hp) (fun _ s7 => Q s7) X.xe s6 := fun S6 hq => gone_ok (S6.unsuite ok) hN hi hln hq
          match f, hsp with
          | .next, ⟨_, _, S6, q6⟩ => exact over S6 fun s7 J7 => ⟨_, _, J7, q6⟩
          | .brk, ⟨_, _, S6, q6⟩ => exact over S6 fun s7 J7 => ⟨_, _, J7, q6⟩
          | .cont, ⟨_, _, S6, q6⟩ => exact over S6 fun s7 J7 => ⟨_, _, J7, q6⟩
          | .ret u, ⟨_, _, _, S6, r6, q6⟩ => exact over S6 fun s7 J7 => ⟨_, _, _, J7, r6, q6⟩
    exact go hh w
  refine wpAny_mono ((hb (wManyA X.K Wo i D l) (X.pn ++ pins) xe1 catch_ PassesOwn.looking).run [] s σ H D (I.toTry _) h) (fun f s1 hsp => ?_) (fun e s1 he => he)
  match f, hsp with
  | .next, ⟨_, _, J', q⟩ => exact wpAny_execs_nil ⟨_, _, J'.ofTry ok, q⟩
  | .brk, ⟨_, _, J', q⟩ => exact ⟨_, _, J'.ofTry ok, q⟩
  | .cont, ⟨_, _, J', q⟩ => exact ⟨_, _, J'.ofTry ok, q⟩
  | .ret u, ⟨_, _, _, J', r, q⟩ => exact ⟨_, _, _, J'.ofTry ok, r, q⟩
end L2.My
end
section
set_option Elab.async false
set_option linter.all false
set_option maxRecDepth 100000
set_option autoImplicit false
/-! LayY: exception classes over ValueError with an __init__ that calls their base's. -/
namespace L2.My
open PySem PySem.Spec PyProof.Rows
/-- what the top says of the base class -/
structure TownT (K : PySem.W.Frag) (mg : Str → Option Value) : Prop where
  g : mg "TownError" = some (.ref (He.ga K "TownError"))
  rd : ClX.CRead K (He.ga K "TownError") (.type "type")
  at_ : PySem.W.findCls K (.ref (He.ga K "TownError")) (.type "type") "__init__" = some (.val (.builtin "ValueError.__init__"))
/-- what the top says of an exception class x with the field fld -/
structure ExcT (K : PySem.W.Frag) (mg : Str → Option Value) (x fld qual : Str) (st : Stmt) : Prop where
  g : mg x = some (.ref (He.ga K x))
  o : OexC K (He.ga K x)
  no : PySem.W.findIn K (.ref (He.ga K x)) fld = some none
  ini : ∃ fI fd, PySem.W.findIn K (.ref (He.ga K x)) "__init__" = some (some (.ref fI)) ∧ PySem.W.typeIn K (.ref fI) = some (.type "function") ∧ FunD K "__init__" qual (defArgs st) (defBody st) (defScope st) [] [] fI fd
  ga : PySem.W.findIn K (.ref (He.ga K x)) "__getattribute__" = some (some (.builtin "BaseException.__getattribute__"))
  gg : PySem.W.findIn K (.ref (He.ga K x)) "__getattr__" = some none
  hd : PySem.W.hasDictIn K (He.ga K x) = true
/-- the promise of such an __init__ -/
def spI (C : Addr) (fld : Str) : Sp := fun vs H Q _ => ∃ a v, vs = [.ref a, v] ∧ H a = some (exo a C none) ∧ ∀ dx, H dx = none → dx ≠ a → Q .non (upd (upd H dx (exd dx [(fld, v)])) a (exo a C (some dx)))
/-- a class that is made by a call -/
structure ExcD (P : Program) (w : World) (K : PySem.W.Frag) (mg : Str → Option Value) (base : Heap) (x fld : Str) : Prop where
  g : mg x = some (.ref (He.ga K x))
  o : OexC K (He.ga K x)
  no : PySem.W.findIn K (.ref (He.ga K x)) fld = some none
  ga : PySem.W.findIn K (.ref (He.ga K x)) "__getattribute__" = some (some (.builtin "BaseException.__getattribute__"))
  gg : PySem.W.findIn K (.ref (He.ga K x)) "__getattr__" = some none
  hd : PySem.W.hasDictIn K (He.ga K x) = true
  ini : ∃ fI fd, FnOk P w K mg base CX0 1 fI fd ["self", fld] (spI (He.ga K x) fld) ∧ PySem.W.findIn K (.ref (He.ga K x)) "__init__" = some (some (.ref fI)) ∧ PySem.W.typeIn K (.ref fI) = some (.type "function") ∧ Binds K fd ["self", fld] []
section
variable {X : Cx} {B : Hp × Hp} {ρ : List Slot} {ow : Ow} {e : Expr} {es : List Expr} {p p1 p2 pos : Pos} {ta : TA} {rest : List Stmt} {D : Out}
/-- TownError.__init__(self, ..) -/
theorem pe_townI {pl : Sem Bool} (W : TownT X.K X.mg) (ha : PA X (e :: es) ta) (hg : Gl X "TownError" := by rfl)
    (hc : eval (.Call (.Attribute (.Name "TownError" p1) "__init__" p2) (e :: es) [] pos) X.env = (do
      let ov ← eval (.Name "TownError" p1) X.env
      standAt p2.atName
      let (f, first) ← holding [ov] (getMethod ov "__init__" pl)
      callWith pos f first (backTo pos (starEach (e :: es) X.env)) (backToKw pos (keywordEach [] X.env))) := by rfl)
    (he : starEach (e :: es) X.env = (false, eval e X.env) :: starEach es X.env := by rfl) (hpl : (backTo pos (starEach es X.env)).any (·.1) = false := by rfl) :
    PE X (.Call (.Attribute (.Name "TownError" p1) "__init__" p2) (e :: es) [] pos) (tVeI X.K ta) := by
  refine ⟨fun pins s σ H Q I h => PySem.W.methodCall_KW (ld_glob I hg W.g ?_ (by decide)) hc⟩
  refine PySem.W.method_cls I.kIn W.rd.ga (PySem.W.cls_value I.kIn W.rd.rd W.at_ (by decide +kernel) ?_)
  show wpAny _ _ (callWith pos (Value.builtin "ValueError.__init__") [] (backTo pos (starEach (e :: es) X.env)) []) _ _ _
  refine PyProof.Rows.callWith_method1 (thn (ha.run pos pins _ σ H _ (I.tok _) h) fun us s1 ⟨vs, H1, I1, r1, a, C, ws, ev, hl, T, ea, q⟩ => ?_) he hpl
  subst ev
  cases r1 with
  | @cons _ u0 _ ur ra rw' =>
    obtain rfl : u0 = Value.ref a := ra
    exact oinit_ok T I1 ea (by rw [← Paired.length rw', sizeLine_eq]; omega) fun s' J => ⟨.non, H1, J, rfl, q⟩
/-- raise x(e) -/
theorem sv_raise {x fld : Str} {φ : Pr} {W : WX} {pos2 : Pos} (T : ExcD X.prog X.w X.K X.mg X.base x fld) (hc : X.calm = true) (hr : Room 2 X.A) (tk : Takes X W) (he : EV X B ρ ow e φ)
    (hW : ∀ G σ H v d H2, Ok B ρ ow G σ H → φ.p G v → Same H H2 → H d = none → H2 d = some (.xd [(fld, v)]) → W (.ref (He.ga X.K x)) (some d) σ H2) (hg : Gl X x := by rfl) (hdb : (x == ("__debug__" : Str)) = false := by decide)
    (hs : starEach [e] X.env = (false, eval e X.env) :: starEach [] X.env := by rfl) : SV X B ρ ow (.Raise (some (.Call (.Name x p) [e] [] pos)) none pos2 :: rest) D := by
  obtain ⟨fI, fd, F1, iC, tI, hb⟩ := T.ini
  refine sv_step (ps_raise hc tk (pmk_oex T.o iC tI F1 hr hb .nil pass0 hg T.g (ea_cons he ea_nil hs) hdb hs (by rfl))) fun E σ H ⟨⟨G, ok⟩, o⟩ => ⟨G, ok, fun vs G1 H1 g1 t => ?_⟩
  cases t with
  | @cons _ v _ _ q t =>
  cases t
  refine ⟨by show 1 ≤ 1000; decide, fun a ha => ?_⟩
  show spI (He.ga X.K x) fld ([.ref a, v] ++ []) _ _ _
  rw [List.append_nil]
  refine ⟨a, v, rfl, upd_same, fun dx n ne => ⟨rfl, dx, [(fld, v)], upd_same, by rw [upd_ne ne, upd_same], by rwa [upd_ne ne] at n, ?_⟩⟩
  rw [upd_ne ne] at n
  refine hW G1 σ H1 v dx _ (ok.grow g1) q (fun b u z => ?_) n upd_same
  have b1 := ne_of_none z n
  have b2 := ne_of_none z ha
  rw [upd_ne b1, del_ne b2, upd_ne b2, upd_ne b1, upd_ne b2]
  exact z
end
/-! defs that raise -/
/-- on these arguments an exception of the class at C leaves, its field fld the flat thing dat x -/
def spX {α : Type} (pre : α → Prop) (as : α → List Pr) (C : Addr) (fld : Str) (dat : α → PyData) : Sp := fun vs H _ E => ∃ x G, pre x ∧ Same G H ∧ PrAll G (as x) vs ∧ ∀ d H2 v, Same H H2 → H d = none → H2 d = some (.xd [(fld, v)]) → (∀ H3, Da H3 v (dat x)) → E (.ref C) (some d) H2
structure DefX (P : Program) (w : World) (K : PySem.W.Frag) (mg : Str → Option Value) (base : Heap) (nm : Str) (k : Nat) (ps : List Str) (sp : Sp) : Prop where
  ex : ∃ f fd, FnOk P w K mg base (L2.CX P w) k f fd ps sp ∧ mg nm = some (.ref f) ∧ PySem.W.keepIn K (.ref f) = true ∧ Binds K fd ps []
abbrev cxX (P : Program) (w : World) (K : PySem.W.Frag) (mg : Str → Option Value) (base : Heap) (N : List Str) (qual : Str) (st : Stmt) (f : Addr) (cdv : Value) (A : Around) (outer : List Env) (s : Shared) (H : Hp) (E : XK) : Cx := cxOf (L2.CX P w) P w K mg base N qual (defScope st) f cdv A outer s H E
def oNo : Out := { nx := fun _ _ => False, rt := ⟨fun _ _ => False, fun _ h => h⟩ }
theorem oNo_ok (B : Hp × Hp) (E : Ends) : OutOk B oNo E := ⟨fun _ _ _ _ _ z => z.elim, fun _ _ _ _ _ _ _ z => z.elim, fun _ _ _ _ _ z => z.elim, fun _ _ _ _ _ z => z.elim⟩
theorem def_mkX {P : Program} {w : World} {K : PySem.W.Frag} {mg : Str → Option Value} {base : Heap} {nm : Str} {st : Stmt} {N ps : List Str} {k : Nat} {α : Type} {pre : α → Prop} {as : α → List Pr} {C : Addr} {fld : Str} {dat : α → PyData} (T : FunAt K mg nm st) (S : FnScope N ps (defScope st))
    (hbind : ∀ (kV doc pm : Value) (an : Option Addr) (cdv ct : Value) (us : List Value), us.length = ps.length → bindArgs (PySem.W.fnOf nm nm (defArgs st) (defBody st) (defScope st) .none kV doc pm an cdv ct) ⟨us, []⟩ = pure (ps.zip us))
    (hl : ∀ x, (as x).length = ps.length) (hN : ps.length ≤ N.length)
    (hb : ∀ x, pre x → ∀ (f : Addr) (cdv : Value) (A : Around) (outer : List Env) (s : Shared) (H : Hp) (E : XK) (B : Hp × Hp), Room k (cxX P w K mg base N nm st f cdv A outer s H E).A → (∀ d H2 v, Same B.2 H2 → B.2 d = none → H2 d = some (.xd [(fld, v)]) → (∀ H3, Da H3 v (dat x)) → E (.ref C) (some d) H2) →
      SV (cxX P w K mg base N nm st f cdv A outer s H E) B (startS N (as x)) [] (defBody st) oNo) : DefX P w K mg base nm (k + 1) ps (spX pre as C fld dat) := by
  obtain ⟨f, fd, F, hm⟩ := T.ex
  refine ⟨f, fd, F.ok S (fun vs H Q E ⟨x, _, _, _, t, _⟩ => t.length.symm.trans (hl x)) fun cdv A outer s H vs Q E hr ⟨x, G, hp, sm, t, q⟩ => ?_, hm, F.kp, F.bindsN hbind⟩
  exact ⟨_, hb x hp f cdv A outer s H E (G, H) hr q, ⟨G, ok_start sm t (by rw [hl x]; exact hN)⟩, oNo_ok _ _⟩
section
variable {X : Cx} {B : Hp × Hp} {ρ : List Slot} {ow : Ow} {e : Expr} {es : List Expr} {p pos pos2 : Pos} {rest : List Stmt} {D : Out} {nm : Str} {k : Nat} {ps : List Str} {α : Type} {pre : α → Prop} {as : α → List Pr} {C : Addr} {fld : Str} {dat : α → PyData}
/-- f(e, ..), which raises -/
theorem sv_callX {W : WX} (d : DefX X.prog X.w X.K X.mg X.base nm k ps (spX pre as C fld dat)) (x : α) (hp : pre x) (hr : Room k X.A) (tk : Takes X W) (ha : EA X B ρ ow (e :: es) (as x))
    (hW : ∀ G σ H d H2 v, Ok B ρ ow G σ H → Same H H2 → H d = none → H2 d = some (.xd [(fld, v)]) → (∀ H3, Da H3 v (dat x)) → W (.ref C) (some d) σ H2) (hg : Gl X nm := by rfl) (hdb : (nm == ("__debug__" : Str)) = false := by decide)
    (he : starEach (e :: es) X.env = (false, eval e X.env) :: starEach es X.env := by rfl) (hpl : (backTo pos (starEach es X.env)).any (·.1) = false := by rfl) (hs : swapsWith (.Call (.Name nm p) (e :: es) [] pos) none pos2.line X.env = pure false := by rfl) : SV X B ρ ow (.Expr (.Call (.Name nm p) (e :: es) [] pos) pos2 :: rest) D := by
  obtain ⟨f, fd, F, hm, kp, b⟩ := d.ex
  exact sv_step (ps_expr (pe_callS F hr hg hm kp b (fun σ => passAt tk σ) ha hdb he hpl) hs) fun E σ H ⟨⟨G, ok⟩, o⟩ => ⟨G, ok, fun vs G1 H1 g1 t => ⟨x, G1, hp, g1.s, t, fun d H2 v s n e1 q => hW G1 σ H1 d H2 v (ok.grow g1) s n e1 q⟩⟩
/-- what a body wishes: the promise's -/
theorem wish_of {E : XK} {x : α} (hE : ∀ d H2 v, Same B.2 H2 → B.2 d = none → H2 d = some (.xd [(fld, v)]) → (∀ H3, Da H3 v (dat x)) → E (.ref C) (some d) H2) : ∀ G (σ : St) H d H2 v, Ok B ρ ow G σ H → Same H H2 → H d = none → H2 d = some (.xd [(fld, v)]) → (∀ H3, Da H3 v (dat x)) → (fun (cls : Value) (d : Option Addr) (_ : St) (H : Hp) => E cls d H) (.ref C) (some d) σ H2 :=
  fun G σ H d H2 v ok s n e q => hE d H2 v (ok.gr.h.trans s) (ok.gr.h.free n) e q
/-- x.fld, x the exception that the suite holds -/
def tByX (C a : Addr) (fld : Str) (cls : Value) (d : Option Addr) (te : TE) : TE := fun σ H Q => te σ H fun x H1 => x = .ref a ∧ cls = .ref C ∧ ∃ (dd : Addr) (v : V), d = some dd ∧ H1 dd = some (.xd [(fld, v)]) ∧ Q v H1
theorem pe_byX {x : Str} {a : Addr} {oe : Obj} {cls : Value} {d : Option Addr} {pn : List (Addr × Obj)} {te : TE} (T : ExcD X.prog X.w X.K X.mg X.base x fld) (hz : Zc cls d oe) (hf : ∃ vs, oe.data = .fields vs) (he : PE (X.suite a ((a, oe) :: pn)) e te) (hb : attributeBase e fld X.env (eval e X.env) = eval e X.env := by rfl) :
    PE (X.suite a ((a, oe) :: pn)) (.Attribute e fld pos) (tByX (He.ga X.K x) a fld cls d te) := by
  refine ⟨fun pins s σ H Q I h => attr_of hb (thn (he.run pins s σ H _ I h) fun u s1 ⟨x1, H1, I1, rx, ex, ec, dd, v, ed, ea, q⟩ => ?_)⟩
  subst ex ec ed
  obtain rfl : u = Value.ref a := rx
  obtain ⟨ha, _⟩ := I1.pin (a, oe) (List.mem_append_left _ List.mem_cons_self)
  obtain ⟨vs, hd⟩ := hf
  obtain ⟨mA, hns, hr⟩ : ObjOk X.prog X.w H1 s1.heap dd (.xd [(fld, v)]) := I1.hok dd _ ea
  obtain ⟨od, ho, hl⟩ := lookIn_ns hns
  have l : List.lookup fld [(fld, v)] = some v := by simp [List.lookup]
  obtain ⟨u, hu, ru⟩ := RelO.some_of (v := v) (o := mA fld) (by rw [← l]; exact hr fld)
  have J : PySem.W.InstAt s1.heap a oe (He.ga X.K x) (some od) := ⟨ha, hz.1, by unfold PySem.W.notCls; rw [hd] <;> rfl, by rw [hz.2]; exact ho⟩
  exact HandSPX.exc_get I1.kIn J T.ga T.gg T.o.exC (PySem.W.findObj_own T.hd T.no rfl (by rw [hl, hu])) (handed_of ru) ⟨v, H1, I1.tok _, ru, q⟩
/-- repr of a flat thing -/
def rFlat : List V → Hp → VK → Prop := fun xs H Q => ∃ v d, xs = [v] ∧ (∀ H3, Da H3 v d) ∧ flat d = true ∧ d.showable = true ∧ d.shown.length ≤ sizeLine ∧ Q (.str d.shown) H
theorem call_repr_flat : CallR X (.builtin "repr") rFlat := by
  intro pins s σ H xs us Q I r h
  obtain ⟨v, d, rfl, hv, fl, sh, hz, q⟩ := h
  obtain ⟨u, rfl, ru⟩ := vals1 r
  have h0 := hv H
  have fin : ∀ z : Str, z = d.shown → L2.EP X pins σ Q (.str z s.toks) { s with toks := s.toks + 1 } := fun z e => by
    rw [e]
    exact ⟨.str _, H, I.tok _, ⟨_, rfl⟩, q⟩
  cases h0 with
  | non =>
    cases ru
    exact PySem.P.repr_of_none (fin _ (by simp only [PyData.shown]))
  | bl b =>
    cases ru
    exact PySem.P.repr_of_bool (fin _ (by simp only [PyData.shown]))
  | int i =>
    obtain ⟨t, rfl⟩ := ru
    exact PySem.P.repr_of_int (by simpa [PyData.showable] using sh) (fin _ (by simp only [PyData.shown]))
  | str x =>
    obtain ⟨t, rfl⟩ := ru
    exact PySem.P.repr_of_str (fin _ (by simp only [PyData.shown])) (by simpa only [PyData.shown] using hz)
  | _ => cases fl
theorem ev_reprF {d : PyData} (hm : X.mg "repr" = none) (ha : EV X B ρ ow e (da d)) (fl : flat d = true) (sh : d.showable = true) (hz : d.shown.length ≤ sizeLine) (hg : Gl X "repr" := by rfl) (hs : starEach [e] X.env = (false, eval e X.env) :: starEach [] X.env := by rfl) : EV X B ρ ow (.Call (.Name "repr" p) [e] [] pos) (da (.str d.shown)) :=
  ev_callBF call_repr_flat hm (ep_of ha) (fun v H Q h k => ⟨v, d, rfl, fun H3 => Da.flat h fl, fl, sh, hz, k _ fun _ => .str _⟩) hg (by decide +kernel) (by decide) (by decide) hs
end
end L2.My
end
section
set_option Elab.async false
set_option linter.all false
set_option maxRecDepth 100000
set_option autoImplicit false
/-! D36: the refused calls. -/
namespace L2.My
open PySem PySem.Spec PyProof.Rows
section
variable {P : Program} {w : World} {K : PySem.W.Frag} {mg : Str → Option Value} {base : Heap}
theorem sc_BadPart_init : FnScope ["self", "part"] ["self", "part"] (defScope s_BadPart_init) := ⟨rfl, rfl, rfl, by decide +kernel, rfl, by decide +kernel, by decide +kernel⟩
theorem exd_BadPart (W : TownT K mg) (E : ExcT K mg "BadPart" "part" "BadPart.__init__" s_BadPart_init) : ExcD P w K mg base "BadPart" "part" := by
  obtain ⟨fI, fd, i1, i2, F⟩ := E.ini
  refine ⟨E.g, E.o, E.no, E.ga, E.gg, E.hd, fI, fd, ?_, i1, i2, F.bindsN fun _ _ _ _ _ _ us hl => match us, hl with | [_, _], _ => rfl⟩
  refine F.ok sc_BadPart_init (fun vs H Q E ⟨a, v, e, _⟩ => by rw [e]; rfl) fun cdv A outer s H vs Q E0 hr ⟨a, v, e1, e2, k⟩ => ?_
  subst e1
  refine ⟨_, pss_cons (ps_expr (pe_townI W (pa_cons (L2.pv 0) (pa_cons pe_str pa_nil)))) (pss_one (ps_ost (L2.pv 0) (L2.pv 1))), ?_⟩
  exact ⟨_, rfl, a, _, _, rfl, by show 1 ≤ 1000; decide, E.o, e2, _, rfl, _, rfl, a, _, rfl, E.o, E.no, .inl ⟨e2, fun dx n ne => k dx n ne⟩⟩
theorem sc_BadLimits_init : FnScope ["self", "limits"] ["self", "limits"] (defScope s_BadLimits_init) := ⟨rfl, rfl, rfl, by decide +kernel, rfl, by decide +kernel, by decide +kernel⟩
theorem exd_BadLimits (W : TownT K mg) (E : ExcT K mg "BadLimits" "limits" "BadLimits.__init__" s_BadLimits_init) : ExcD P w K mg base "BadLimits" "limits" := by
  obtain ⟨fI, fd, i1, i2, F⟩ := E.ini
  refine ⟨E.g, E.o, E.no, E.ga, E.gg, E.hd, fI, fd, ?_, i1, i2, F.bindsN fun _ _ _ _ _ _ us hl => match us, hl with | [_, _], _ => rfl⟩
  refine F.ok sc_BadLimits_init (fun vs H Q E ⟨a, v, e, _⟩ => by rw [e]; rfl) fun cdv A outer s H vs Q E0 hr ⟨a, v, e1, e2, k⟩ => ?_
  subst e1
  refine ⟨_, pss_cons (ps_expr (pe_townI W (pa_cons (L2.pv 0) (pa_cons pe_str pa_nil)))) (pss_one (ps_ost (L2.pv 0) (L2.pv 1))), ?_⟩
  exact ⟨_, rfl, a, _, _, rfl, by show 1 ≤ 1000; decide, E.o, e2, _, rfl, _, rfl, a, _, rfl, E.o, E.no, .inl ⟨e2, fun dx n ne => k dx n ne⟩⟩
theorem sc_BadWish_init : FnScope ["self", "wish"] ["self", "wish"] (defScope s_BadWish_init) := ⟨rfl, rfl, rfl, by decide +kernel, rfl, by decide +kernel, by decide +kernel⟩
theorem exd_BadWish (W : TownT K mg) (E : ExcT K mg "BadWish" "wish" "BadWish.__init__" s_BadWish_init) : ExcD P w K mg base "BadWish" "wish" := by
  obtain ⟨fI, fd, i1, i2, F⟩ := E.ini
  refine ⟨E.g, E.o, E.no, E.ga, E.gg, E.hd, fI, fd, ?_, i1, i2, F.bindsN fun _ _ _ _ _ _ us hl => match us, hl with | [_, _], _ => rfl⟩
  refine F.ok sc_BadWish_init (fun vs H Q E ⟨a, v, e, _⟩ => by rw [e]; rfl) fun cdv A outer s H vs Q E0 hr ⟨a, v, e1, e2, k⟩ => ?_
  subst e1
  refine ⟨_, pss_cons (ps_expr (pe_townI W (pa_cons (L2.pv 0) (pa_cons pe_str pa_nil)))) (pss_one (ps_ost (L2.pv 0) (L2.pv 1))), ?_⟩
  exact ⟨_, rfl, a, _, _, rfl, by show 1 ≤ 1000; decide, E.o, e2, _, rfl, _, rfl, a, _, rfl, E.o, E.no, .inl ⟨e2, fun dx n ne => k dx n ne⟩⟩
end
end L2.My
end
section
set_option Elab.async false
set_option linter.all false
set_option maxRecDepth 100000
set_option autoImplicit false
/-! D37: the calls that raise. -/
namespace L2.My
open PySem PySem.Spec PyProof.Rows
/-- what the top says of the exceptions -/
structure XcT (K : PySem.W.Frag) (mg : Str → Option Value) : Prop where
  town : TownT K mg
  part : ExcT K mg "BadPart" "part" "BadPart.__init__" s_BadPart_init
  lims : ExcT K mg "BadLimits" "limits" "BadLimits.__init__" s_BadLimits_init
  wish : ExcT K mg "BadWish" "wish" "BadWish.__init__" s_BadWish_init
  pp : PySem.W.exmOne K (.ref (He.ga K "BadPart")) (.ref (He.ga K "BadPart")) = some true
  lp : PySem.W.exmOne K (.ref (He.ga K "BadLimits")) (.ref (He.ga K "BadPart")) = some false
  ll : PySem.W.exmOne K (.ref (He.ga K "BadLimits")) (.ref (He.ga K "BadLimits")) = some true
  wp : PySem.W.exmOne K (.ref (He.ga K "BadWish")) (.ref (He.ga K "BadPart")) = some false
  wl : PySem.W.exmOne K (.ref (He.ga K "BadWish")) (.ref (He.ga K "BadLimits")) = some false
  ww : PySem.W.exmOne K (.ref (He.ga K "BadWish")) (.ref (He.ga K "BadWish")) = some true
def oddL : List PyData := [.none, .int (-1), .bool true, .str "1", .int (10 ^ 30 + 1)]
theorem odd_flat : ∀ d ∈ oddL, flat d = true ∧ d.showable = true ∧ d.shown.length ≤ sizeLine := by
  intro d hd
  unfold oddL at hd
  simp only [List.mem_cons, List.not_mem_nil, or_false] at hd
  rcases hd with rfl | rfl | rfl | rfl | rfl
  · exact ⟨rfl, by decide +kernel, by decide +kernel⟩
  · exact ⟨rfl, by decide +kernel, by decide +kernel⟩
  · exact ⟨rfl, by decide +kernel, by decide +kernel⟩
  · exact ⟨rfl, by decide +kernel, by decide +kernel⟩
  · exact ⟨rfl, by decide +kernel, by decide +kernel⟩
section
variable {P : Program} {w : World} {K : PySem.W.Frag} {mg : Str → Option Value} {base : Heap}
theorem ox_map_part (T : TX K mg) (I : IsM K) (V : XcT K mg) : DefX P w K mg base "check_map" 3 ["chart", "limits"] (spX (fun _ : PyData => True) (fun d => [da .none, da d]) (He.ga K "BadPart") "part" (fun _ => .str "chart")) := by
  refine def_mkX T.d_check_map sc_check_map (fun _ _ _ _ _ _ us hl => match us, hl with | [_, _], _ => rfl) (fun _ => rfl) (by decide) fun d _ f cdv A outer s H E B hr hE => ?_
  refine sv_guard (x := true) (et_not (x := false) (et_v (ev_isiM0 T I (vv 0)))) (fun _ => ?_) fun h => by cases h
  exact sv_raise (x := "BadPart") (φ := da (.str "chart")) (exd_BadPart V.town V.part) rfl hr (takes_of rfl rfl rfl rfl) ev_str fun G σ H1 v dx H2 ok q s n e => hE dx H2 v (ok.gr.h.trans s) (ok.gr.h.free n) e fun H3 => Da.flat q rfl
theorem ox_map_lims (T : TX K mg) (I : IsM K) (V : XcT K mg) : DefX P w K mg base "check_map" 3 ["chart", "limits"] (spX (fun m : Mp => MpOk m) (fun m => [mapP (CM K) m, da .none]) (He.ga K "BadLimits") "limits" (fun _ => .none)) := by
  refine def_mkX T.d_check_map sc_check_map (fun _ _ _ _ _ _ us hl => match us, hl with | [_, _], _ => rfl) (fun _ => rfl) (by decide) fun m _ f cdv A outer s H E B hr hE => ?_
  refine sv_guard (x := false) (et_not (x := true) (et_v (ev_isiM T I (m := m) (vv 0)))) (fun h => by cases h) fun _ => ?_
  refine sv_guard (x := true) (et_not (x := false) (et_v (ev_call (ok_are_numbers T) (none, m.areas.length) (fun t ls e => by cases e) hr (ea2 (vv 1) (ev_eq (ev_lenT T.b_len (ep_of (ev_fld T.k_Map T.n_Map_areas (vv 0) (mapP_areas (m := m))))) (by rw [List.length_map])))))) (fun _ => ?_) fun h => by cases h
  exact sv_raise (x := "BadLimits") (φ := da .none) (exd_BadLimits V.town V.lims) rfl hr (takes_of rfl rfl rfl rfl) (vv 1) fun G σ H1 v dx H2 ok q s n e => hE dx H2 v (ok.gr.h.trans s) (ok.gr.h.free n) e fun H3 => Da.flat q rfl
theorem ox_wish (T : TX K mg) (V : XcT K mg) : DefX P w K mg base "check_wish" 3 ["wish"] (spX (fun d : PyData => d ∈ oddL) (fun d => [da d]) (He.ga K "BadWish") "wish" (fun d => d)) := by
  refine def_mkX T.d_check_wish sc_check_wish (fun _ _ _ _ _ _ us hl => match us, hl with | [_], _ => rfl) (fun _ => rfl) (by decide) fun d hd f cdv A outer s H E B hr hE => ?_
  have hd : d ∈ oddL := hd
  have fl := (odd_flat d hd).1
  refine sv_guard (x := true) ?_ (fun _ => ?_) fun h => by cases h
  · unfold oddL at hd
    simp only [List.mem_cons, List.not_mem_nil, or_false] at hd
    rcases hd with rfl | rfl | rfl | rfl | rfl
    · exact et_o2 (x := true) (y := true) (et_not (x := false) (et_v (ev_call (ok_is_integer T) .none True.intro (hr.mono (by decide)) (ea1 (vv 0))))) fun h => by cases h
    · exact et_eq (et_o2 (et_not (et_v (ev_call (ok_is_integer T) (.int (-1)) True.intro (hr.mono (by decide)) (ea1 (vv 0))))) fun _ => et_not (et_lele (i := 0) (j := -1) ev_int (vv 0) (ev_gint T.c_MOST_WISH))) (by decide)
    · exact et_o2 (x := true) (y := true) (et_not (x := false) (et_v (ev_call (ok_is_integer T) (.bool true) True.intro (hr.mono (by decide)) (ea1 (vv 0))))) fun h => by cases h
    · exact et_o2 (x := true) (y := true) (et_not (x := false) (et_v (ev_call (ok_is_integer T) (.str "1") True.intro (hr.mono (by decide)) (ea1 (vv 0))))) fun h => by cases h
    · exact et_eq (et_o2 (et_not (et_v (ev_call (ok_is_integer T) (.int (10 ^ 30 + 1)) True.intro (hr.mono (by decide)) (ea1 (vv 0))))) fun _ => et_not (et_lele (i := 0) (j := 10 ^ 30 + 1) ev_int (vv 0) (ev_gint T.c_MOST_WISH))) (by decide +kernel)
  · exact sv_raise (x := "BadWish") (φ := da d) (exd_BadWish V.town V.wish) rfl hr (takes_of rfl rfl rfl rfl) (vv 0) fun G σ H1 v dx H2 ok q s n e => hE dx H2 v (ok.gr.h.trans s) (ok.gr.h.free n) e fun H3 => Da.flat q fl
/-! least_joins, greatest_outages -/
theorem ox_least_part (T : TX K mg) (I : IsM K) (V : XcT K mg) : DefX P w K mg base "least_joins" 4 ["chart", "limits", "wish"] (spX (fun _ : PyData × PyData => True) (fun x => [da .none, da x.1, da x.2]) (He.ga K "BadPart") "part" (fun _ => .str "chart")) := by
  refine def_mkX T.d_least_joins sc_least_joins (fun _ _ _ _ _ _ us hl => match us, hl with | [_, _, _], _ => rfl) (fun _ => rfl) (by decide) fun x _ f cdv A outer s H E B hr hE => ?_
  exact sv_callX (ox_map_part T I V) x.1 True.intro hr (takes_of rfl rfl rfl rfl) (ea2 (vv 0) (vv 1)) fun G σ H1 dx H2 v ok s n e q => hE dx H2 v (ok.gr.h.trans s) (ok.gr.h.free n) e q
theorem ox_great_part (T : TX K mg) (I : IsM K) (V : XcT K mg) : DefX P w K mg base "greatest_outages" 4 ["chart", "limits", "wish"] (spX (fun _ : PyData × PyData => True) (fun x => [da .none, da x.1, da x.2]) (He.ga K "BadPart") "part" (fun _ => .str "chart")) := by
  refine def_mkX T.d_greatest_outages sc_greatest_outages (fun _ _ _ _ _ _ us hl => match us, hl with | [_, _, _], _ => rfl) (fun _ => rfl) (by decide) fun x _ f cdv A outer s H E B hr hE => ?_
  exact sv_callX (ox_map_part T I V) x.1 True.intro hr (takes_of rfl rfl rfl rfl) (ea2 (vv 0) (vv 1)) fun G σ H1 dx H2 v ok s n e q => hE dx H2 v (ok.gr.h.trans s) (ok.gr.h.free n) e q
theorem ox_least_lims (T : TX K mg) (I : IsM K) (V : XcT K mg) : DefX P w K mg base "least_joins" 4 ["chart", "limits", "wish"] (spX (fun x : Mp × PyData => MpOk x.1) (fun x => [mapP (CM K) x.1, da .none, da x.2]) (He.ga K "BadLimits") "limits" (fun _ => .none)) := by
  refine def_mkX T.d_least_joins sc_least_joins (fun _ _ _ _ _ _ us hl => match us, hl with | [_, _, _], _ => rfl) (fun _ => rfl) (by decide) fun x hx f cdv A outer s H E B hr hE => ?_
  exact sv_callX (ox_map_lims T I V) x.1 hx hr (takes_of rfl rfl rfl rfl) (ea2 (vv 0) (vv 1)) fun G σ H1 dx H2 v ok s n e q => hE dx H2 v (ok.gr.h.trans s) (ok.gr.h.free n) e q
theorem ox_great_lims (T : TX K mg) (I : IsM K) (V : XcT K mg) : DefX P w K mg base "greatest_outages" 4 ["chart", "limits", "wish"] (spX (fun x : Mp × PyData => MpOk x.1) (fun x => [mapP (CM K) x.1, da .none, da x.2]) (He.ga K "BadLimits") "limits" (fun _ => .none)) := by
  refine def_mkX T.d_greatest_outages sc_greatest_outages (fun _ _ _ _ _ _ us hl => match us, hl with | [_, _, _], _ => rfl) (fun _ => rfl) (by decide) fun x hx f cdv A outer s H E B hr hE => ?_
  exact sv_callX (ox_map_lims T I V) x.1 hx hr (takes_of rfl rfl rfl rfl) (ea2 (vv 0) (vv 1)) fun G σ H1 dx H2 v ok s n e q => hE dx H2 v (ok.gr.h.trans s) (ok.gr.h.free n) e q
abbrev preW (x : (Mp × List Int) × PyData) : Prop := (x.1.2.length ≤ 1000 ∧ numsOk x.1.1.areas.length (some (false, x.1.2)) = true) ∧ x.2 ∈ oddL
theorem ox_least_wish (T : TX K mg) (I : IsM K) (V : XcT K mg) : DefX P w K mg base "least_joins" 4 ["chart", "limits", "wish"] (spX preW (fun x => [mapP (CM K) x.1.1, da (.list (x.1.2.map .int)), da x.2]) (He.ga K "BadWish") "wish" (fun x => x.2)) := by
  refine def_mkX T.d_least_joins sc_least_joins (fun _ _ _ _ _ _ us hl => match us, hl with | [_, _, _], _ => rfl) (fun _ => rfl) (by decide) fun x hx f cdv A outer s H E B hr hE => ?_
  refine sv_expr (ev_call (ok_check_map T I) (x.1.1, false, x.1.2) hx.1 hr (ea2 (vv 0) (vv 1))) ?_
  exact sv_callX (ox_wish T V) x.2 hx.2 hr (takes_of rfl rfl rfl rfl) (ea1 (vv 2)) fun G σ H1 dx H2 v ok s n e q => hE dx H2 v (ok.gr.h.trans s) (ok.gr.h.free n) e q
theorem ox_great_wish (T : TX K mg) (I : IsM K) (V : XcT K mg) : DefX P w K mg base "greatest_outages" 4 ["chart", "limits", "wish"] (spX preW (fun x => [mapP (CM K) x.1.1, da (.list (x.1.2.map .int)), da x.2]) (He.ga K "BadWish") "wish" (fun x => x.2)) := by
  refine def_mkX T.d_greatest_outages sc_greatest_outages (fun _ _ _ _ _ _ us hl => match us, hl with | [_, _, _], _ => rfl) (fun _ => rfl) (by decide) fun x hx f cdv A outer s H E B hr hE => ?_
  refine sv_expr (ev_call (ok_check_map T I) (x.1.1, false, x.1.2) hx.1 hr (ea2 (vv 0) (vv 1))) ?_
  exact sv_callX (ox_wish T V) x.2 hx.2 hr (takes_of rfl rfl rfl rfl) (ea1 (vv 2)) fun G σ H1 dx H2 v ok s n e q => hE dx H2 v (ok.gr.h.trans s) (ok.gr.h.free n) e q
end
end L2.My
end
section
set_option Elab.async false
set_option linter.all false
set_option maxRecDepth 100000
set_option autoImplicit false
/-! D38: the law: refused. -/
namespace L2.My
open PySem PySem.Spec PyProof.Rows
section
variable {X : Cx} {B : Hp × Hp} {ρ : List Slot} {ow : Ow} {rest body : List Stmt} {D : Out} {C : Addr} {fld n : Str} {dat : PyData} {i : Nat} {h0 : ExceptHandler} {hds : List ExceptHandler} {l : List Cl} {pos : Pos}
/-- a wish that takes the exception of the class at C -/
def TakesIt (B : Hp × Hp) (ρ : List Slot) (ow : Ow) (C : Addr) (fld : Str) (dat : PyData) (W : WX) : Prop := ∀ G σ H d H2 v, Ok B ρ ow G σ H → Same H H2 → H d = none → H2 d = some (.xd [(fld, v)]) → (∀ H3, Da H3 v dat) → W (.ref C) (some d) σ H2
theorem sv_tryR (hs : X.stack = X.env :: X.outer) (hf : X.env.frame = some X.env.locals) (hN : X.N.Nodup) (hi : X.N[i]? = some n) (hln : X.env.kindOf n = some .local)
    (hb : ∀ (W : WX) (pn : List (Addr × Obj)) (xe : Value → Shared → Prop), Takes (X.tr pn xe) W → TakesIt B ρ ow C fld dat W → SV (X.tr pn xe) B ρ ow body oNo) (hh : HdsA X n (h0 :: hds) l)
    (hcl : ∀ E : Ends, (∀ v ow' G H, D.ro v ow' → (∀ q ∈ ow', OwOk B G H q) → Gr B G H → D.rt.p G v → E.rt v H) → TakesIt B ρ ow C fld dat (wManyA X.K (fun _ _ _ _ => False) i E l)) : SV X B ρ ow (.Try body (h0 :: hds) [] [] pos :: rest) D :=
  sv_step (ps_try_manyA (tb := fun W _ σ H => (∃ G, Ok B ρ ow G σ H) ∧ TakesIt B ρ ow C fld dat W) hs hf hN hi hln takes_none5 (fun W pn xe tk _ => ⟨fun pins s σ H E I ⟨ok, hW⟩ => (hb W pn xe tk hW).run pins s σ H E I ⟨ok, oNo_ok _ _⟩⟩) hh) fun E σ H ⟨ok, o⟩ => ⟨ok, hcl _ o.rt⟩
theorem gr_same {G H H2 : Hp} {σ : St} (ok : Ok B ρ ow G σ H) (s : Same H H2) : Gr B G H2 := ⟨ok.gr.g, ok.gr.h.trans s, ok.gr.s.trans s, ok.gr.n⟩
end
inductive Rf where
  | part
  | lims (m : Mp)
  | wish (m : Mp) (ls : List Int) (d : PyData)
def Rf.ok : Rf → Prop
  | .part => True
  | .lims m => MpOk m
  | .wish m ls d => (ls.length ≤ 1000 ∧ numsOk m.areas.length (some (false, ls)) = true) ∧ d ∈ oddL
def Rf.c (K : PySem.W.Frag) : Rf → Pr
  | .part => da .none
  | .lims m => mapP (CM K) m
  | .wish m _ _ => mapP (CM K) m
def Rf.l : Rf → PyData
  | .part => .none
  | .lims _ => .none
  | .wish _ ls _ => .list (ls.map .int)
def Rf.w : Rf → PyData
  | .part => .none
  | .lims _ => .none
  | .wish _ _ d => d
def Rf.out : Rf → PyData
  | .part => .str "chart"
  | .lims _ => .str "None"
  | .wish _ _ d => .list [.str d.shown]
section
variable {P : Program} {w : World} {K : PySem.W.Frag} {mg : Str → Option Value} {base : Heap}
abbrev N_rf : List Str := ["_law_way", "_law_chart_here", "_law_limits", "_law_wish", "e"]
theorem sc_law_refused : FnScope N_rf ["_law_way", "_law_chart_here", "_law_limits", "_law_wish"] (defScope s_law_refused) := ⟨rfl, rfl, rfl, by decide +kernel, rfl, by decide +kernel, by decide +kernel⟩
def clsR (K : PySem.W.Frag) : List Cl := [(.ref (He.ga K "BadPart"), fun a cls d => tRet (tByX (He.ga K "BadPart") a "part" cls d (tVar 4))), (.ref (He.ga K "BadLimits"), fun a cls d => tRet (tCB rFlat (tCons (tByX (He.ga K "BadLimits") a "limits" cls d (tVar 4)) tNil))), (.ref (He.ga K "BadWish"), fun a cls d => tRet (tLst (tCons (tCB rFlat (tCons (tByX (He.ga K "BadWish") a "wish" cls d (tVar 4)) tNil)) tNil)))]
def hdsR : List ExceptHandler := match defBody s_law_refused with
  | .Try _ hs _ _ _ :: _ => hs
  | _ => []
theorem ok_law_refused (T : TX K mg) (I : IsM K) (V : XcT K mg) : Def P w K mg base "_law_refused" 5 ["_law_way", "_law_chart_here", "_law_limits", "_law_wish"] (spA (fun x : Nat × Rf => x.2.ok) (fun x => [da (.int (x.1 : Nat)), x.2.c K, da x.2.l, da x.2.w]) (fun x => da x.2.out)) := by
  refine def_mk T.d_law_refused sc_law_refused (fun _ _ _ _ _ _ us hl => match us, hl with | [_, _, _, _], _ => rfl) (fun _ => rfl) (by decide) fun ⟨way, k⟩ hk f cdv A outer s0 H0 H E B hr => ?_
  have hk : k.ok := hk
  have hh : HdsA (cxF P w K mg base N_rf "_law_refused" s_law_refused f cdv A outer s0 H E) "e" hdsR (clsR K) := .cons ⟨rfl, by decide, .inl V.part.g⟩ (fun a oe cls d pn hz hf => pss_one (ps_ret (pe_byX (exd_BadPart V.town V.part) hz hf (L2.pv 4)))) (.cons ⟨rfl, by decide, .inl V.lims.g⟩ (fun a oe cls d pn hz hf => pss_one (ps_ret (pe_callB call_repr_flat (by rfl) T.b_repr (by decide +kernel) (pa_cons (pe_byX (exd_BadLimits V.town V.lims) hz hf (L2.pv 4)) pa_nil) (by decide) (by decide)))) (.cons ⟨rfl, by decide, .inl V.wish.g⟩ (fun a oe cls d pn hz hf => pss_one (ps_ret (pe_lst (pa_cons (pe_callB call_repr_flat (by rfl) T.b_repr (by decide +kernel) (pa_cons (pe_byX (exd_BadWish V.town V.wish) hz hf (L2.pv 4)) pa_nil) (by decide) (by decide)) pa_nil)))) .nil))
  have slot : ∀ {G : Hp} {σ : St} {H : Hp} {a : Addr}, Ok B [.val (da (.int (way : Nat))), .val (k.c K), .val (da k.l), .val (da k.w), .no] [] G σ H → (σ.set 4 (some (.ref a)))[4]? = some (some (.ref a)) := fun ok => by
    rw [List.getElem?_set_self]
    rw [ok.len]
    show 4 < 5
    decide
  cases k with
  | part =>
    refine sv_tryR (C := He.ga K "BadPart") (fld := "part") (dat := .str "chart") (i := 4) rfl rfl sc_law_refused.nd rfl rfl (fun W pn xe tk hW => ?_) hh fun E2 hD G σ H d H2 v ok s n e q => ?_
    · refine sv_if (et_eqI (vv 0) ev_int) (fun _ => ?_) fun _ => ?_
      · exact sv_callX (ox_least_part T I V) (.none, .none) True.intro hr tk (ea3 (vv 1) (vv 2) (vv 3)) hW
      · exact sv_callX (ox_great_part T I V) (.none, .none) True.intro hr tk (ea3 (vv 1) (vv 2) (vv 3)) hW
    · exact ⟨true, V.pp, fun _ a ha => ⟨_, slot ok, rfl, rfl, d, v, rfl, e, hD v [] G H2 True.intro (fun q hq => by cases hq) (gr_same ok s) (q G)⟩, fun h => by cases h⟩
  | lims m =>
    refine sv_tryR (C := He.ga K "BadLimits") (fld := "limits") (dat := .none) (i := 4) rfl rfl sc_law_refused.nd rfl rfl (fun W pn xe tk hW => ?_) hh fun E2 hD G σ H d H2 v ok s n e q => ?_
    · refine sv_if (et_eqI (vv 0) ev_int) (fun _ => ?_) fun _ => ?_
      · exact sv_callX (ox_least_lims T I V) (m, .none) hk hr tk (ea3 (vv 1) (vv 2) (vv 3)) hW
      · exact sv_callX (ox_great_lims T I V) (m, .none) hk hr tk (ea3 (vv 1) (vv 2) (vv 3)) hW
    · refine ⟨false, V.lp, (fun h => by cases h), fun _ => ⟨true, V.ll, fun _ a ha => ⟨_, slot ok, rfl, rfl, d, v, rfl, e, v, .none, rfl, q, rfl, rfl, by decide +kernel, ?_⟩, fun h => by cases h⟩⟩
      exact hD (.str PyData.none.shown) [] G H2 True.intro (fun q hq => by cases hq) (gr_same ok s) (by
        show Da G (.str PyData.none.shown) (.str "None")
        simp only [PyData.shown]
        exact .str _)
  | wish m ls dw =>
    obtain ⟨f1, f2, f3⟩ := odd_flat dw hk.2
    refine sv_tryR (C := He.ga K "BadWish") (fld := "wish") (dat := dw) (i := 4) rfl rfl sc_law_refused.nd rfl rfl (fun W pn xe tk hW => ?_) hh fun E2 hD G σ H d H2 v ok s n e q => ?_
    · refine sv_if (et_eqI (vv 0) ev_int) (fun _ => ?_) fun _ => ?_
      · exact sv_callX (ox_least_wish T I V) ((m, ls), dw) hk hr tk (ea3 (vv 1) (vv 2) (vv 3)) hW
      · exact sv_callX (ox_great_wish T I V) ((m, ls), dw) hk hr tk (ea3 (vv 1) (vv 2) (vv 3)) hW
    · refine ⟨false, V.wp, (fun h => by cases h), fun _ => ⟨false, V.wl, (fun h => by cases h), fun _ => ⟨true, V.ww, fun _ a ha => ⟨_, slot ok, rfl, rfl, d, v, rfl, e, v, dw, rfl, q, f1, f2, f3, by show 1 ≤ sizeLine; decide, fun p hp => ?_⟩, fun h => by cases h⟩⟩⟩
      have g := gr_same ok s
      have g2 := g.trans (Gr.alloc (o := .lst [.str dw.shown]) g.s hp)
      exact hD (.ref p) [] _ _ True.intro (fun q hq => by cases hq) g2 (.lst upd_same (.cons (.str _) .nil))
end
end L2.My
end
section
set_option Elab.async false
set_option linter.all false
set_option maxRecDepth 100000
set_option autoImplicit false
/-! D39: the law. -/
namespace L2.My
open PySem PySem.Spec PyProof.Rows
/-- a list of expressions that write owned cells, from the left -/
def tEAX (B : Hp × Hp) (ρ : List Slot) (ow : Ow) (φs : List Pr) (ow' : Ow) : TA := fun σ H Q => ∃ G, Ok B ρ ow G σ H ∧ ∀ vs G' H', Ok B ρ ow' G' σ H' → Same G G' → PrAll G' φs vs → Q vs H'
section
variable {X : Cx} {B : Hp × Hp} {ρ : List Slot} {ow ow1 ow' : Ow} {a b c e : Expr} {es : List Expr} {φ ψ χ : Pr} {φs : List Pr} {rest : List Stmt} {D : Out} {pos p : Pos} {nm : Str}
theorem eax_nil : PA X [] (tEAX B ρ ow [] ow) := L2.PA.weak pa_nil fun σ H Q ⟨G, ok, q⟩ => q [] G H ok (Same.refl _) .nil
theorem eax_cons (ha : EX X B ρ ow e φ ow1) (hr : PA X es (tEAX B ρ ow1 φs ow')) (hs : starEach (e :: es) X.env = (false, eval e X.env) :: starEach es X.env := by rfl) : PA X (e :: es) (tEAX B ρ ow (φ :: φs) ow') :=
  L2.PA.weak (pa_cons ha hr hs) fun σ H Q ⟨G, ok, q⟩ => ⟨G, ok, fun v G1 H1 ok1 s1 p1 => ⟨G1, ok1, fun vs G2 H2 ok2 s2 t => q (v :: vs) G2 H2 ok2 (s1.trans s2) (.cons (φ.mono s2 p1) t)⟩⟩
theorem sv_par3X {n1 n2 n3 : Nat} {x y z : Str} {px py pz pt : Pos} {kt k2 : Nat} {pt2 : Pos} (hc : X.calm = true) (hN : X.N.Nodup) (ha : PA X [a, b, c] (tEAX B ρ ow [φ, ψ, χ] ow')) (hr : SV X B (((ρ.set n1 (.val φ)).set n2 (.val ψ)).set n3 (.val χ)) ow' rest D)
    (h1 : X.N[n1]? = some x := by rfl) (h2 : X.N[n2]? = some y := by rfl) (h3 : X.N[n3]? = some z := by rfl) (d1 : n1 ≠ n2 := by decide) (d2 : n1 ≠ n3 := by decide) (d3 : n2 ≠ n3 := by decide)
    (hx : X.env.scope.names.lookup x = some .local := by rfl) (hy : X.env.scope.names.lookup y = some .local := by rfl) (hz : X.env.scope.names.lookup z = some .local := by rfl)
    (hw : swappedStores [.Tuple [.Name x px, .Name y py, .Name z pz] kt pt] (.Tuple [a, b, c] k2 pt2) X.env = pure (some [x, y, z]) := by rfl)
    (hs : swapsWithSole [.Tuple [.Name x px, .Name y py, .Name z pz] kt pt] (.Tuple [a, b, c] k2 pt2) pos.line X.env = pure false := by rfl) : SV X B ρ ow (.Assign [.Tuple [.Name x px, .Name y py, .Name z pz] kt pt] (.Tuple [a, b, c] k2 pt2) pos :: rest) D :=
  sv_step (ps_par3 hc hN h1 h2 h3 d1 d2 d3 hx hy hz ha hw hs) fun E σ H ⟨⟨G, ok⟩, o⟩ => ⟨G, ok, fun vs G' H' ok' s t => by
    cases t with
    | cons q1 t =>
    cases t with
    | cons q2 t =>
    cases t with
    | cons q3 t =>
    cases t
    exact ⟨_, _, _, rfl, sv_go hr (((ok'.set (s := .val φ) ⟨_, rfl, q1⟩).set (s := .val ψ) ⟨_, rfl, q2⟩).set (s := .val χ) ⟨_, rfl, q3⟩) o⟩⟩
theorem sv_par2X {n m : Nat} {x y : Str} {px py pt : Pos} {kt k2 : Nat} {pt2 : Pos} (hc : X.calm = true) (hN : X.N.Nodup) (ha : PA X [a, b] (tEAX B ρ ow [φ, ψ] ow')) (hr : SV X B ((ρ.set n (.val φ)).set m (.val ψ)) ow' rest D)
    (hi : X.N[n]? = some x := by rfl) (hj : X.N[m]? = some y := by rfl) (hij : n ≠ m := by decide)
    (hx : X.env.scope.names.lookup x = some .local := by rfl) (hy : X.env.scope.names.lookup y = some .local := by rfl)
    (hw : swappedStores [.Tuple [.Name x px, .Name y py] kt pt] (.Tuple [a, b] k2 pt2) X.env = pure (some [x, y]) := by rfl)
    (hs : swapsWithSole [.Tuple [.Name x px, .Name y py] kt pt] (.Tuple [a, b] k2 pt2) pos.line X.env = pure false := by rfl) : SV X B ρ ow (.Assign [.Tuple [.Name x px, .Name y py] kt pt] (.Tuple [a, b] k2 pt2) pos :: rest) D :=
  sv_step (ps_par hc hN hi hj hij hx hy ha hw hs) fun E σ H ⟨⟨G, ok⟩, o⟩ => ⟨G, ok, fun vs G' H' ok' s t => by
    cases t with
    | cons q1 t =>
    cases t with
    | cons q2 t =>
    cases t
    exact ⟨_, _, rfl, sv_go hr ((ok'.set (s := .val φ) ⟨_, rfl, q1⟩).set (s := .val ψ) ⟨_, rfl, q2⟩) o⟩⟩
/-- [a drawn number] -/
theorem ex_lst1 {p : Int → Prop} (h : EX X B ρ ow e (exP p fun n => da (.int n)) ow') (hs : starEach [e] X.env = (false, eval e X.env) :: starEach [] X.env := by rfl) : EX X B ρ ow (.List [e] pos) (exP p fun n => da (.list [.int n])) ow' :=
  L2.PE.weak (pe_lst (eax_cons h eax_nil hs)) fun σ H Q ⟨G, ok, k⟩ => ⟨G, ok, fun vs G1 H1 ok1 s1 t => by
    cases t with
    | @cons _ u _ _ q t =>
    cases t
    obtain ⟨n, hn, q⟩ := q
    refine ⟨by show 1 ≤ sizeLine; decide, fun p hp => ?_⟩
    have g := Gr.alloc (o := .lst [u]) ok1.gr.s hp
    exact k (.ref p) _ _ (ok1.grow g) (s1.trans g.g) ⟨n, hn, .lst upd_same (.cons (Da.mono g.g q) .nil)⟩⟩
/-- f() -/
theorem ev_call0 {k : Nat} {α : Type} {pre : α → Prop} {r : α → Pr} (d : Def X.prog X.w X.K X.mg X.base nm k [] (spA pre (fun _ => []) r)) (x : α) (hp : pre x) (hr : Room k X.A) (hg : Gl X nm := by rfl) (hdb : (nm == ("__debug__" : Str)) = false := by decide) : EV X B ρ ow (.Call (.Name nm p) [] [] pos) (r x) := by
  obtain ⟨f, fd, F, hm, kp, b⟩ := d.ex
  exact L2.PE.weak (pe_call0 F hr hg hm kp b .nil pass0 hdb) fun σ H Q ⟨G, ok, q⟩ => ⟨x, hp, G, ok.gr.s, .nil, fun v G2 H2 g2 p2 => q v G2 H2 g2 p2⟩
end
theorem odd_shaped : ∀ d ∈ oddL, SeqAt.shaped (.list [.str d.shown]) = true ∧ PyData.eqv (.list [.str d.shown]) (.list [.str d.shown]) = true := by
  intro d hd
  unfold oddL at hd
  simp only [List.mem_cons, List.not_mem_nil, or_false] at hd
  rcases hd with rfl | rfl | rfl | rfl | rfl
  · exact ⟨by decide +kernel, by decide +kernel⟩
  · exact ⟨by decide +kernel, by decide +kernel⟩
  · exact ⟨by decide +kernel, by decide +kernel⟩
  · exact ⟨by decide +kernel, by decide +kernel⟩
  · exact ⟨by decide +kernel, by decide +kernel⟩
theorem due_cases (m : Mp) (ls : List Int) (wish : Int) : dueL m ls wish = [[]] ∨ dueL m ls wish = [] ∨ dueL m ls wish = [[(0, 1)]] := by
  unfold dueL
  split
  · exact .inl rfl
  · split
    · exact .inr (.inl rfl)
    · split
      · exact .inr (.inr rfl)
      · exact .inr (.inl rfl)
theorem due_eqv (m : Mp) (ls : List Int) (wish : Int) : nod (.list ((dueL m ls wish).map ePs)) = true ∧ SeqAt.shaped (.list ((dueL m ls wish).map ePs)) = true ∧ PyData.eqv (.list ((dueL m ls wish).map ePs)) (.list ((dueL m ls wish).map ePs)) = true := by
  rcases due_cases m ls wish with h | h | h <;> rw [h]
  · exact ⟨rfl, by decide +kernel, by decide +kernel⟩
  · exact ⟨rfl, by decide +kernel, by decide +kernel⟩
  · exact ⟨rfl, by decide +kernel, by decide +kernel⟩
section
variable {P : Program} {w : World} {K : PySem.W.Frag} {mg : Str → Option Value} {base : Heap}
abbrev N_law : List Str := ["_law_script", "_law_pool_here", "_law_m", "_law_chart_here", "_law_limits", "_law_wish", "_law_mate", "_law_top", "_law_told", "_law_way", "_law_odd", "_law_end"]
theorem sc_law : FnScope N_law ["_law_script"] (defScope s_law) := ⟨rfl, rfl, rfl, by decide +kernel, rfl, by decide +kernel, by decide +kernel⟩
set_option maxHeartbeats 4000000 in
theorem ok_law {fL : Addr} {fdL : FuncData} (TL : FunD K "law" "law" (defArgs s_law) (defBody s_law) (defScope s_law) [] [] fL fdL) (T : TX K mg) (I : IsM K) (M : MapAt K) (HA : HeightsAt K) (V : XcT K mg) : FnG P w K mg base 12 fL fdL ["_law_script"] (spA (fun ns : List Int => ns.length ≤ 1000) (fun ns => [scP K ns]) (fun _ => da (.bool true))) := by
  refine fn_bodyG TL sc_law (fun _ => rfl) (by decide) fun ns hns f cdv A outer s0 H0 H E B hga hr => ?_
  have hns : ns.length ≤ 1000 := hns
  have hu64 : (cxF P w K mg base N_law "law" s_law f cdv A outer s0 H E).A.units + 64 < cLine := hr.units
  have hu : (cxF P w K mg base N_law "law" s_law f cdv A outer s0 H E).A.units + 1 < cLine := by omega
  have hr1 : Room 1 (cxF P w K mg base N_law "law" s_law f cdv A outer s0 H E).A := hr.mono (by decide)
  refine sv_guard (x := false) (et_not (x := true) (et_v (ev_call0 (ok_law_four T I M HA) () True.intro hr))) (fun h => by cases h) fun _ => ?_
  refine sv_setR (n := 1) (ok_law_pool T) (ns, 0) ⟨by show 0 ≤ 10; decide, hns⟩ hr1 sc_law.nd (ea2 (vv 0) ev_int) fun p => ?_
  refine sv_setX (i := 2) (φ := exP (MapL 2) fun m => da (eLM m)) sc_law.nd (ex_call (ow := []) (ok_law_map T) (p, 2) ⟨by show 1 ≤ 2; decide, by show 2 ≤ 2; decide⟩ (hr.mono (by decide)) (ea2 (pv 1) ev_int)) ?_
  refine sv_open 2 rfl fun m ⟨hm, ham⟩ => ?_
  have h1m := hm.ok.areas.1.1
  have hol := hm.ok.outs.1
  have hna := hm.na
  show SV _ B _ [(p, poolO)] _ _
  refine sv_par3X (n1 := 3) (n2 := 4) (n3 := 5) (φ := mapP (CM K) m) (ψ := exP (fun ds : List PyData => ds.length = m.outs.length ∧ ∀ d ∈ ds, ∃ c : Int, (0 ≤ c ∧ c < (4 : Nat)) ∧ d = .int c) fun ds => da (.list ds)) (χ := drawP 10) rfl sc_law.nd (eax_cons (ex_of (ev_call (ok_law_chart T M) m hm.ok (hr.mono (by decide)) (ea1 (vv 2)))) (eax_cons (ex_lcS (ys := m.outs) (g := fun o => da (eO o)) (own := [("_law_end", 11)]) (tgG := gName 11) (fρ := fun o ρ => ρ.set 11 (.val (da (eO o)))) rfl sc_law.nd (if_list (f := eO) (ev_ends (m := m) hu (vv 2))) (blkOk_by (N := N_law) (sc := defScope s_law) (by decide +kernel)) (fun _ => pgn 11 sc_law.nd) (fun a _ => tg_name (by decide))
    (fun a _ D2 ψ2 b => ex_perm (List.Perm.swap _ _ _) (List.Perm.swap _ _ _) (ex_as (ex_draw (n := 4) T (by decide) hr1 (pv 1) ev_int) fun H v ⟨c, hc, q⟩ => ⟨_, ⟨c, hc, rfl⟩, q⟩)) (by rw [hol]; exact sz)) (eax_cons (ex_draw (n := 10) T (by decide) hr1 (pv 1) ev_int) eax_nil))) ?_
  refine sv_open 4 rfl fun ds ⟨hdl, hds⟩ => ?_
  obtain ⟨ls, rfl, hls⟩ := cuts_of hds
  rw [List.length_map] at hdl
  refine sv_open 5 rfl fun wish ⟨hw0, hw1⟩ => ?_
  have hw1 : wish < 10 := hw1
  have hl : ls.length = m.areas.length := hdl.trans hol
  have hlb : ∀ l ∈ ls, 0 ≤ l ∧ l ≤ 10 := fun l h => by
    have := hls l h
    omega
  have hnn : ∀ l ∈ ls, 0 ≤ l := fun l h => (hlb l h).1
  have hnum : numsOk m.areas.length (some (false, ls)) = true := by
    show (decide (ls.length = m.areas.length) && ls.all fun l => decide (0 ≤ l)) = true
    rw [Bool.and_eq_true, decide_eq_true_iff, List.all_eq_true]
    exact ⟨hl, fun l h => decide_eq_true (hnn l h)⟩
  obtain ⟨e1, e2, e3⟩ := due_eqv m ls wish
  have hld := least_due (wish := wish) hm hl hnn (by omega)
  refine sv_guard (x := false) (et_eq (et_cmp (op_neD hu64) (ep_of (ev_eq (ev_call (ok_least_joins T I M HA) (⟨m, false, ls⟩, wish) ⟨⟨hm.ok, hnum, few_joins hm hl⟩, hw0, by show wish ≤ 1000; omega⟩ (hr.mono (by decide)) (ea3 (vv 3) (vv 4) (vv 5))) (show PyData.list ((leastJ ⟨m, false, ls⟩ wish).map ePs) = .list ((dueL m ls wish).map ePs) by rw [hld]))) (ep_of (ev_callG (ok_law_due T) (m, ls, wish) ⟨hm, hl, hlb⟩ hga (hr.mono (by decide)) (ea3 (vv 2) (vv 4) (vv 5)))) (r2_neD e1 e1 e2 e2) (nomark _)) (by rw [e3]; rfl)) (fun h => by cases h) fun _ => ?_
  refine sv_par2X (n := 6) (m := 7) (φ := exP (MapL 1) fun m => da (eLM m)) (ψ := exP (fun n : Int => 0 ≤ n ∧ n < (4 : Nat)) fun n => da (.list [.int n])) rfl sc_law.nd (eax_cons (ex_call (ow := []) (ok_law_map T) (p, 1) ⟨by show 1 ≤ 1; decide, by show 1 ≤ 2; decide⟩ (hr.mono (by decide)) (ea2 (pv 1) ev_int)) (eax_cons (ex_lst1 (ex_draw (ow := []) (n := 4) T (by decide) hr1 (pv 1) ev_int)) eax_nil)) ?_
  refine sv_open 6 rfl fun m2 ⟨hm2, ham2⟩ => ?_
  refine sv_open 7 rfl fun lim ⟨hl0, hl1⟩ => ?_
  have hl1 : lim < 4 := hl1
  have h12 := hm2.ok.areas.1.1
  have ha1 : m2.areas.length = 1 := by omega
  have hb2 : ∀ l ∈ [lim], 0 ≤ l ∧ l ≤ 10 := fun l h => by
    rw [List.mem_singleton.mp h]
    omega
  have hnum2 : numsOk m2.areas.length (some (false, [lim])) = true := by
    rw [ha1]
    show (decide (1 = 1) && (decide (0 ≤ lim) && true)) = true
    simp [hl0]
  have eR : (List.range m2.areas.length).map (fun a => eGE (greatAt m2 [lim] wish a)) = [eGE (greatAt m2 [lim] wish 0)] := by
    rw [ha1]
    rfl
  refine sv_set (i := 8) (φ := da (.list [eGE (greatAt m2 [lim] wish 0)])) sc_law.nd (ev_eq (ev_call (ok_greatest_outages T I M HA) ((m2, false, [lim]), wish) ⟨⟨hm2.ok, hnum2, few_outs hm2 ha1⟩, hw0, by show wish ≤ 1000; omega⟩ (hr.mono (by decide)) (ea3 (ev_call (ok_law_chart T M) m2 hm2.ok (hr.mono (by decide)) (ea1 (vv 6))) (vv 7) (vv 5))) (congrArg PyData.list eR)) ?_
  have hright := great_right (wish := wish) hm2.ok ha1 (ls := [lim]) rfl (fun l h => (hb2 l h).1) (by omega)
  refine sv_guard (x := false) (et_eq (et_o2 (et_neI (i := 1) (j := 1) (ev_len T.b_len (ds := [eGE (greatAt m2 [lim] wish 0)]) (ep_of (vv 8))) ev_int) fun _ => et_not (et_v (ev_callG (ok_law_right T) (m2, [lim], wish, greatAt m2 [lim] wish 0) ⟨hm2, ha1, rfl, hb2⟩ hga (hr.mono (by decide)) (ea_cons (vv 6) (ea_cons (vv 7) (ea_cons (vv 5) (ea_cons ev_int (ea_cons (ev_ixL (ds := [eGE (greatAt m2 [lim] wish 0)]) (vv 8) ev_int rfl) ea_nil)))))))) (by rw [hright]; rfl)) (fun h => by cases h) fun _ => ?_
  refine sv_for (xs := List.range 2) (g := fun a => da (.int (a : Nat))) (vs := [9]) (fun i ρ' ow' => (∃ s9 s10, ρ' = [.val (scP K ns), .ptr p, .val (da (eLM m)), .val (mapP (CM K) m), .val (da (.list (ls.map .int))), .val (da (.int wish)), .val (da (eLM m2)), .val (da (.list [.int lim])), .val (da (.list [eGE (greatAt m2 [lim] wish 0)])), s9, s10, .no]) ∧ ow' = [(p, poolO)])
    PassesOwn.never rfl (if_range1 (n := 2) T.b_range ev_int (by decide)) (pgn 9 sc_law.nd) (fun s _ => tg_name (by decide)) ⟨⟨_, _, rfl⟩, rfl⟩ (fun i way ρ' ow' B' hx hI => ?_) fun ρ' ow' hI => ?_
  · obtain ⟨⟨s9, s10, rfl⟩, rfl⟩ := hI
    have rf := ok_law_refused (P := P) (w := w) (base := base) T I V
    refine sv_guard (x := false) (et_eq (et_o2 (et_cmp (op_neD hu64) (ep_of (ev_call rf (way, .part) True.intro (hr.mono (by decide)) (ea4 (vv 9) ev_non ev_non ev_non))) (ep_of ev_str) (r2_neD (d1 := .str "chart") (d2 := .str "chart") rfl rfl (by decide +kernel) (by decide +kernel)) (nomark _)) fun _ => et_cmp (op_neD hu64) (ep_of (ev_call rf (way, .lims m) hm.ok (hr.mono (by decide)) (ea4 (vv 9) (vv 3) ev_non ev_non))) (ep_of ev_str) (r2_neD (d1 := .str "None") (d2 := .str "None") rfl rfl (by decide +kernel) (by decide +kernel)) (nomark _)) (by decide +kernel)) (fun h => by cases h) fun _ => ?_
    refine sv_for (xs := oddL) (g := fun d => da d) (vs := [10]) (fun j ρ' ow' => (∃ s10, ρ' = [.val (scP K ns), .ptr p, .val (da (eLM m)), .val (mapP (CM K) m), .val (da (.list (ls.map .int))), .val (da (.int wish)), .val (da (eLM m2)), .val (da (.list [.int lim])), .val (da (.list [eGE (greatAt m2 [lim] wish 0)])), .val (da (.int (way : Nat))), s10, .no]) ∧ ow' = [(p, poolO)])
      PassesOwn.never rfl (if_list (f := fun d => d) (ev_eq (ev_lst (ds := oddL) (ed_cons ev_non (ed_cons (ev_neg ev_int) (ed_cons ev_bl (ed_cons ev_str (ed_cons (ev_add (ev_pow (i := 10) (j := 30) ev_int ev_int ⟨by decide, by decide, by decide⟩) ev_int) ed_nil))))) (by show 5 ≤ sizeLine; decide)) (by rw [List.map_id']))) (pgn 10 sc_law.nd) (fun s _ => tg_name (by decide)) ⟨⟨_, rfl⟩, rfl⟩ (fun j d ρ' ow' B2 hd hI => ?_) fun ρ' ow' hI => ?_
    · obtain ⟨⟨s10, rfl⟩, rfl⟩ := hI
      have hdm := List.mem_of_getElem? hd
      obtain ⟨f1, f2, f3⟩ := odd_flat d hdm
      obtain ⟨o1, o2⟩ := odd_shaped d hdm
      refine sv_guard (x := false) (et_eq (et_cmp (op_neD hu64) (ep_of (ev_call rf (way, .wish m ls d) ⟨⟨by omega, hnum⟩, hdm⟩ (hr.mono (by decide)) (ea4 (vv 9) (vv 3) (vv 4) (vv 10)))) (ep_of (ev_lst (ds := [.str d.shown]) (ed_cons (ev_reprF T.b_repr (vv 10) f1 f2 f3) ed_nil) (by show 1 ≤ sizeLine; decide))) (r2_neD (d1 := .list [.str d.shown]) (d2 := .list [.str d.shown]) rfl rfl o1 o1) (nomark _)) (by rw [o2]; rfl)) (fun h => by cases h) fun _ => ?_
      exact sv_nil ⟨⟨_, rfl⟩, rfl⟩
    · obtain ⟨⟨s10, rfl⟩, rfl⟩ := hI
      exact sv_nil ⟨⟨_, _, rfl⟩, rfl⟩
  · obtain ⟨⟨s9, s10, rfl⟩, rfl⟩ := hI
    exact sv_retd ev_bl rfl
end
end L2.My
end
section
set_option Elab.async false
set_option linter.all false
set_option maxRecDepth 100000
set_option autoImplicit false
/-! LayZ: the end, for a law whose caller stands under no guard. -/
namespace L2.My
open PySem PySem.Spec PyProof.Rows
section
variable {P : Program} {w : World} {K : PySem.W.Frag} {mg mb : Str → Option Value} {k : Nat} {fa a : Addr} {fd : FuncData} {x : Str} {sp : Sp} {s1 : Shared} {vs : List Value} {ns : List Int}
/-- from an abstract heap that holds the script alone, or nothing -/
theorem core_callG (KX : K.In s1.heap) (hns : s1.heap.Ns mainGlobals mg) (hb : s1.heap.Ns builtinsNs mb) (hbb : ∀ x : Str, x ≠ "__name__" → mb x = bootBuiltins x) (hlim : s1.heap.NoLimit) (hg : s1.gens = #[])
    (ha : s1.heap.get? a = some { cls := .type "list", data := .seq vs.toArray }) (hr : Room k callerA) (F : ∀ base : Heap, K.In base → base.Ns mainGlobals mg → FnG P w K mg base k fa fd [x] sp) (hbind : ∀ (s : Shared) (u : Value), BindsTo s fd ⟨[u], []⟩ [(x, u)])
    {H : Hp} (hO : Only H) (hsp : sp [.ref a] H (fun v _ => v = .bl true) fun _ _ _ => False) (hok : HOk P w H s1.heap) (hA : ∀ b, H b ≠ none → b = a) (hK : H a ≠ none → K.lookup a = none) :
    codeAny (model P w) callerA (.call (.ref fa) ⟨[.ref a], []⟩) (fun r s' => r = .ok (.ret (.bool true)) ∧ OldK s1.heap s'.heap ∧ s'.os = s1.os ∧ AllBare s'.gens) s1 := by
  have only : ∀ {b : Addr}, b ≠ a → H b = none := fun {b} ne => by
    cases q : H b with
    | none => rfl
    | some u => exact absurd (hA b (by rw [q]; exact fun z => nomatch z)) ne
  have nd : ∀ {b : Addr} {o : Obj} {es : Array DictEntry} {ep : Nat}, s1.heap.get? b = some o → o.data = .dict es ep → H b = none := fun {b o es ep} e d => only fun z => by
    rw [z, ha] at e
    cases e
    cases d
  have nsK : ∀ {b : Addr} {m : Str → Option Value}, s1.heap.Ns b m → (hidT s1.heap H).Ns b m := fun ⟨o, es, ep, e, d, r⟩ => ⟨o, es, ep, hidT_get e (nd e d), d, r⟩
  have kin : K.In (hidT s1.heap H) := fun b o e => hidT_get (KX b o e) (by
    cases q : H b with
    | none => rfl
    | some u =>
      obtain rfl : b = a := hA b (by rw [q]; exact fun z => nomatch z)
      rw [hK (by rw [q]; exact fun z => nomatch z)] at e
      cases e)
  obtain ⟨mc, c1, c2⟩ := hlim
  have hM : Mod K mg (hidT s1.heap H) := ⟨kin, nsK hns, ⟨mb, nsK hb, hbb⟩, ⟨mc, nsK c1, c2⟩⟩
  have e0 : Env0 P w K mg (hidT s1.heap H) callerA [] s1 H := ⟨rfl, hM, fun b o e => of_hidT e, Nat.le_of_eq (hidT_size _ _), trivial, fun b hb => absurd (show b ∈ ([] : List Addr) from hb) (by simp), hok, .of_eq hg⟩
  refine codeAny_mono ((F _ kin (nsK hns)).run callerA [] s1 H ⟨[.ref a], []⟩ [.ref a] [.ref a] _ _ rfl hr e0 (hbind s1 (.ref a)) (.cons rfl .nil) hsp) fun r s' h => ?_
  match r, h with
  | .ok (.ret u), ⟨v, H', os, bare, un, hok', r', q⟩ =>
    have q : v = .bl true := q
    subst q
    obtain rfl : u = Value.bool true := r'
    refine ⟨rfl, OldK.of_keep fun b o e => ?_, os, bare⟩
    cases q : H b with
    | none => exact un.keep b o e q (fun z => absurd (show b ∈ ([] : List Addr) from z) (by simp)) (by simp)
    | some u =>
      rcases hO b with z | ⟨ob, xs, z⟩
      · rw [q] at z
        cases z
      · have f1 := (hok b _ z).1
        rw [e] at f1
        cases f1
        exact (hok' b _ (un.frzs b _ _ z)).1
theorem law_callG (KX : K.In s1.heap) (hns : s1.heap.Ns mainGlobals mg) (hb : s1.heap.Ns builtinsNs mb) (hbb : ∀ x : Str, x ≠ "__name__" → mb x = bootBuiltins x) (hlim : s1.heap.NoLimit) (hg : s1.gens = #[])
    (ha : s1.heap.get? a = some { cls := .type "list", data := .seq vs.toArray }) (hi : IntsAre vs ns) (hl : ns.length ≤ sizeLine) (hr : Room k callerA) (F : ∀ base : Heap, K.In base → base.Ns mainGlobals mg → FnG P w K mg base k fa fd [x] sp) (hbind : ∀ (s : Shared) (u : Value), BindsTo s fd ⟨[u], []⟩ [(x, u)])
    (hsp : ∀ H : Hp, Only H → SqL K H a (ns.map V.int) → sp [.ref a] H (fun v _ => v = .bl true) fun _ _ _ => False) :
    codeAny (model P w) callerA (.call (.ref fa) ⟨[.ref a], []⟩) (fun r s' => r = .ok (.ret (.bool true)) ∧ OldK s1.heap s'.heap ∧ s'.os = s1.os ∧ AllBare s'.gens) s1 := by
  have rv := vals_ints hi
  have lv := hi.length
  cases hk : K.lookup a with
  | some o =>
    have e := KX a o hk
    rw [ha] at e
    cases e
    have hO : Only fun _ => none := fun _ => .inl rfl
    exact core_callG KX hns hb hbb hlim hg ha hr F hbind hO (hsp _ hO (.inr ⟨_, vs.toArray, _, hk, rfl, rfl, rfl, by rw [List.size_toArray, lv]; exact hl, by simpa using rv⟩)) (fun b u z => nomatch (show (none : Option HO) = some u from z)) (fun b z => absurd rfl z) fun z => absurd rfl z
  | none =>
    have at_ : ∀ {b : Addr} {o u : HO}, (if b = a then some o else none) = some u → b = a ∧ u = o := fun {b o u} z => by
      by_cases h : b = a
      · rw [if_pos h] at z
        exact ⟨h, (Option.some.inj z).symm⟩
      · rw [if_neg h] at z
        cases z
    let Hs : Hp := fun b => if b = a then some (.frz { cls := .type "list", data := .seq vs.toArray } (.lst (ns.map V.int))) else none
    have hO : Only Hs := fun b => by
      by_cases h : b = a
      · exact .inr ⟨_, _, if_pos h⟩
      · exact .inl (if_neg h)
    refine core_callG KX hns hb hbb hlim hg ha hr F hbind hO (hsp _ hO (.inl (.inr ⟨{ cls := .type "list", data := .seq vs.toArray }, if_pos rfl⟩))) (fun b u z => ?_) (fun b z => ?_) fun _ => hk
    · obtain ⟨rfl, rfl⟩ := at_ z
      exact ⟨ha, by rw [List.length_map]; exact hl, vs, _, rv, ha⟩
    · by_cases h : b = a
      · exact h
      · exact absurd (if_neg h) z
end
theorem walk_ofG {l : PySem.W.OpenLaw} {n k : Nat} {q : Program} {loose : List Str} {XP : (Str → Option Value) → Heap → Prop} {YP : World → Heap → Prop} {d : DefRec} {x : Str} (hn : l.most = some n) (hn2 : n ≤ sizeLine) (hdf : d.params.defaults = []) (hr : Room k callerA)
    (F : ∀ (w : World) (mg : Str → Option Value) (fa : Addr) (h : Heap), YP w h → h.Ns mainGlobals mg → mg d.name = some (.ref fa) → ∃ (K : PySem.W.Frag) (fd : FuncData) (sp : Sp), K.In h ∧ (∀ (s : Shared) (u : Value), BindsTo s fd ⟨[u], []⟩ [(x, u)]) ∧
      (∀ (H : Hp) (a : Addr) (ns : List Int), ns.length ≤ n → Only H → SqL K H a (ns.map V.int) → sp [.ref a] H (fun v _ => v = .bl true) fun _ _ _ => False) ∧ ∀ base : Heap, K.In base → base.Ns mainGlobals mg → FnG l.prog w K mg base k fa fd [x] sp) :
    PySem.W.WalkO q loose XP YP l.row.toRowW d [] (fun f vs => PySem.call f vs) :=
  Att.attach_call hn hdf fun w s0 s1 mg mb fa o pm cd doc a vs ns G Y ho hd hcd hmg hobj hints hlen hg => by
    obtain ⟨K, fd, sp, KX, hb, hsp, hF⟩ := F w mg fa _ Y G.T.g hmg
    exact law_callG KX G.T.g G.T.b G.T.builtins G.T.nolimit hg hobj hints (Nat.le_trans hlen hn2) hr hF hb fun H hO hS => hsp H a ns hlen hO hS
end L2.My
end
section
set_option Elab.async false
set_option linter.all false
set_option maxRecDepth 100000
set_option autoImplicit false
/-! D40: the head's facts as the walk asks for them. -/
namespace L2.My
open PySem PySem.Spec PyProof.Rows
abbrev hfa : List He.Fa := _root_.My.fa
abbrev hfn : List He.DefD := _root_.My.fn
abbrev SaysH (K : PySem.W.Frag) : Prop := He.SaysD _root_.My.fa _root_.My.fn K
section
variable {K : PySem.W.Frag} {h : Heap} {mg : Str → Option Value}
theorem funAt_of (X : K.In h) (G : h.Ns mainGlobals mg) (c : SaysH K) (i j : Nat) {nm : Str} {st : Stmt} (hd : hfn[i]? = some ⟨(nm, none), nm, nm, defArgs st, defBody st, defScope st, [], []⟩) (hf : hfa[j]? = some (.glo nm)) : FunAt K mg nm st := by
  obtain ⟨fd, F⟩ := c.def_ i hd
  exact ⟨_, fd, F, He.glo_ok X G (c.fact j hf)⟩
theorem methAt_of (c : SaysH K) (i j : Nat) {x m q : Str} {st : Stmt} (hd : hfn[i]? = some ⟨(x, some m), m, q, defArgs st, defBody st, defScope st, [], []⟩) (hf : hfa[j]? = some (.meth x m)) : MethAt K (He.ga K x) m q st := by
  obtain ⟨fd, F⟩ := c.def_ i hd
  exact ⟨_, fd, F, He.meth_ok (c.fact j hf)⟩
theorem tx_of (X : K.In h) (G : h.Ns mainGlobals mg) (c : SaysH K) : TX K mg where
  d_is_integer := funAt_of X G c 6 0 (by kernel_rfl) (by kernel_rfl)
  d_is_between := funAt_of X G c 7 1 (by kernel_rfl) (by kernel_rfl)
  d_is_name := funAt_of X G c 8 2 (by kernel_rfl) (by kernel_rfl)
  d_sets_of := funAt_of X G c 9 3 (by kernel_rfl) (by kernel_rfl)
  d_index_sets := funAt_of X G c 10 4 (by kernel_rfl) (by kernel_rfl)
  d_is_row := funAt_of X G c 11 5 (by kernel_rfl) (by kernel_rfl)
  d_checked_areas := funAt_of X G c 12 6 (by kernel_rfl) (by kernel_rfl)
  d_is_path := funAt_of X G c 13 7 (by kernel_rfl) (by kernel_rfl)
  d_checked_paths := funAt_of X G c 14 8 (by kernel_rfl) (by kernel_rfl)
  d_is_outage := funAt_of X G c 15 9 (by kernel_rfl) (by kernel_rfl)
  d_checked_borders := funAt_of X G c 16 10 (by kernel_rfl) (by kernel_rfl)
  d_checked_outages := funAt_of X G c 17 11 (by kernel_rfl) (by kernel_rfl)
  m_Map_places := methAt_of c 23 12 (by kernel_rfl) (by kernel_rfl)
  m_Map_area_of := methAt_of c 24 13 (by kernel_rfl) (by kernel_rfl)
  m_Map_near := methAt_of c 25 14 (by kernel_rfl) (by kernel_rfl)
  m_Map_day := methAt_of c 26 15 (by kernel_rfl) (by kernel_rfl)
  m_Map_reach_of_time := methAt_of c 27 16 (by kernel_rfl) (by kernel_rfl)
  m_Map_with_outages := methAt_of c 28 17 (by kernel_rfl) (by kernel_rfl)
  d_first_mark := funAt_of X G c 29 18 (by kernel_rfl) (by kernel_rfl)
  d_can_pay := funAt_of X G c 30 19 (by kernel_rfl) (by kernel_rfl)
  d_put := funAt_of X G c 31 20 (by kernel_rfl) (by kernel_rfl)
  d_paid_mark := funAt_of X G c 32 21 (by kernel_rfl) (by kernel_rfl)
  d_left_behind := funAt_of X G c 33 22 (by kernel_rfl) (by kernel_rfl)
  d_moved_mark := funAt_of X G c 34 23 (by kernel_rfl) (by kernel_rfl)
  d_are_numbers := funAt_of X G c 35 24 (by kernel_rfl) (by kernel_rfl)
  d_check_map := funAt_of X G c 36 25 (by kernel_rfl) (by kernel_rfl)
  d_endless_place := funAt_of X G c 37 26 (by kernel_rfl) (by kernel_rfl)
  d_first_nodes := funAt_of X G c 38 27 (by kernel_rfl) (by kernel_rfl)
  d_stops_of := funAt_of X G c 39 28 (by kernel_rfl) (by kernel_rfl)
  m_Heights_behind := methAt_of c 41 29 (by kernel_rfl) (by kernel_rfl)
  m_Heights_height := methAt_of c 42 30 (by kernel_rfl) (by kernel_rfl)
  m_Heights_top_node := methAt_of c 43 31 (by kernel_rfl) (by kernel_rfl)
  d_most_by_days := funAt_of X G c 44 32 (by kernel_rfl) (by kernel_rfl)
  d_is_pair := funAt_of X G c 45 33 (by kernel_rfl) (by kernel_rfl)
  d_least_outage := funAt_of X G c 46 34 (by kernel_rfl) (by kernel_rfl)
  d_without := funAt_of X G c 47 35 (by kernel_rfl) (by kernel_rfl)
  d_joined := funAt_of X G c 48 36 (by kernel_rfl) (by kernel_rfl)
  d_joined_limits := funAt_of X G c 49 37 (by kernel_rfl) (by kernel_rfl)
  d_merged := funAt_of X G c 50 38 (by kernel_rfl) (by kernel_rfl)
  d_check_wish := funAt_of X G c 51 39 (by kernel_rfl) (by kernel_rfl)
  d_keeps_days := funAt_of X G c 52 40 (by kernel_rfl) (by kernel_rfl)
  d_all_pairs := funAt_of X G c 53 41 (by kernel_rfl) (by kernel_rfl)
  d_lists_of := funAt_of X G c 54 42 (by kernel_rfl) (by kernel_rfl)
  d_least_joins := funAt_of X G c 55 43 (by kernel_rfl) (by kernel_rfl)
  d_with_outage := funAt_of X G c 56 44 (by kernel_rfl) (by kernel_rfl)
  d_greatest_outages := funAt_of X G c 57 45 (by kernel_rfl) (by kernel_rfl)
  d_law_pool := funAt_of X G c 58 46 (by kernel_rfl) (by kernel_rfl)
  d_law_draw := funAt_of X G c 59 47 (by kernel_rfl) (by kernel_rfl)
  d_law_pick := funAt_of X G c 60 48 (by kernel_rfl) (by kernel_rfl)
  d_law_map := funAt_of X G c 61 49 (by kernel_rfl) (by kernel_rfl)
  d_law_chart := funAt_of X G c 62 50 (by kernel_rfl) (by kernel_rfl)
  d_law_spots := funAt_of X G c 63 51 (by kernel_rfl) (by kernel_rfl)
  d_law_area := funAt_of X G c 64 52 (by kernel_rfl) (by kernel_rfl)
  d_law_nexts := funAt_of X G c 65 53 (by kernel_rfl) (by kernel_rfl)
  d_law_far := funAt_of X G c 66 54 (by kernel_rfl) (by kernel_rfl)
  d_law_last := funAt_of X G c 67 55 (by kernel_rfl) (by kernel_rfl)
  d_law_may := funAt_of X G c 68 56 (by kernel_rfl) (by kernel_rfl)
  d_law_on := funAt_of X G c 69 57 (by kernel_rfl) (by kernel_rfl)
  d_law_once := funAt_of X G c 70 58 (by kernel_rfl) (by kernel_rfl)
  d_law_walks := funAt_of X G c 71 59 (by kernel_rfl) (by kernel_rfl)
  d_law_count := funAt_of X G c 72 60 (by kernel_rfl) (by kernel_rfl)
  d_law_top_sum := funAt_of X G c 73 61 (by kernel_rfl) (by kernel_rfl)
  d_law_joined := funAt_of X G c 74 62 (by kernel_rfl) (by kernel_rfl)
  d_law_due := funAt_of X G c 75 63 (by kernel_rfl) (by kernel_rfl)
  d_law_refused := funAt_of X G c 76 64 (by kernel_rfl) (by kernel_rfl)
  d_law_with := funAt_of X G c 77 65 (by kernel_rfl) (by kernel_rfl)
  d_law_outage_right := funAt_of X G c 78 66 (by kernel_rfl) (by kernel_rfl)
  d_law_joins := funAt_of X G c 79 67 (by kernel_rfl) (by kernel_rfl)
  d_law_four_right := funAt_of X G c 80 68 (by kernel_rfl) (by kernel_rfl)
  d_law := funAt_of X G c 81 69 (by kernel_rfl) (by kernel_rfl)
  b_len := He.free_ok X G (c.fact 70 (f := .free "len") (by kernel_rfl))
  b_all := He.free_ok X G (c.fact 71 (f := .free "all") (by kernel_rfl))
  b_any := He.free_ok X G (c.fact 72 (f := .free "any") (by kernel_rfl))
  b_isinstance := He.free_ok X G (c.fact 73 (f := .free "isinstance") (by kernel_rfl))
  b_int := He.free_ok X G (c.fact 74 (f := .free "int") (by kernel_rfl))
  b_bool := He.free_ok X G (c.fact 75 (f := .free "bool") (by kernel_rfl))
  b_str := He.free_ok X G (c.fact 76 (f := .free "str") (by kernel_rfl))
  b_list := He.free_ok X G (c.fact 77 (f := .free "list") (by kernel_rfl))
  b_tuple := He.free_ok X G (c.fact 78 (f := .free "tuple") (by kernel_rfl))
  b_max := He.free_ok X G (c.fact 79 (f := .free "max") (by kernel_rfl))
  b_min := He.free_ok X G (c.fact 80 (f := .free "min") (by kernel_rfl))
  b_sum := He.free_ok X G (c.fact 81 (f := .free "sum") (by kernel_rfl))
  b_range := He.free_ok X G (c.fact 82 (f := .free "range") (by kernel_rfl))
  b_enumerate := He.free_ok X G (c.fact 83 (f := .free "enumerate") (by kernel_rfl))
  b_zip := He.free_ok X G (c.fact 84 (f := .free "zip") (by kernel_rfl))
  b_sorted := He.free_ok X G (c.fact 85 (f := .free "sorted") (by kernel_rfl))
  b_dict := He.free_ok X G (c.fact 86 (f := .free "dict") (by kernel_rfl))
  b_repr := He.free_ok X G (c.fact 87 (f := .free "repr") (by kernel_rfl))
  b_ValueError := He.free_ok X G (c.fact 88 (f := .free "ValueError") (by kernel_rfl))
  c_MOST_LETTERS := He.int_ok X G (c.fact 89 (f := .int "MOST_LETTERS" 8) (by kernel_rfl))
  c_MOST_AREAS := He.int_ok X G (c.fact 90 (f := .int "MOST_AREAS" 4) (by kernel_rfl))
  c_MOST_PLACES := He.int_ok X G (c.fact 91 (f := .int "MOST_PLACES" 6) (by kernel_rfl))
  c_MOST_PARTS := He.int_ok X G (c.fact 92 (f := .int "MOST_PARTS" 4) (by kernel_rfl))
  c_MOST_OUTAGE := He.int_ok X G (c.fact 93 (f := .int "MOST_OUTAGE" 6) (by kernel_rfl))
  c_MOST_STATES := He.int_ok X G (c.fact 94 (f := .int "MOST_STATES" 20000) (by kernel_rfl))
  c_MOST_WISH := He.int_ok X G (c.fact 95 (f := .int "MOST_WISH" 1000000000000000000000000000000) (by kernel_rfl))
  c_LETTERS := He.str_ok X G (c.fact 96 (f := .str "LETTERS" "abcdefghijklmnopqrstuvwxyz") (by kernel_rfl))
  k_Map := He.cls_ok (c.fact 97 (f := .cls "Map") (by kernel_rfl))
  g_Map := He.glo_ok X G (c.fact 98 (f := .glo "Map") (by kernel_rfl))
  n_Map_areas := He.noat_ok (c.fact 99 (f := .noat "Map" "areas") (by kernel_rfl))
  n_Map_paths := He.noat_ok (c.fact 100 (f := .noat "Map" "paths") (by kernel_rfl))
  n_Map_length := He.noat_ok (c.fact 101 (f := .noat "Map" "length") (by kernel_rfl))
  n_Map_borders := He.noat_ok (c.fact 102 (f := .noat "Map" "borders") (by kernel_rfl))
  n_Map_outages := He.noat_ok (c.fact 103 (f := .noat "Map" "outages") (by kernel_rfl))
  k_Heights := He.cls_ok (c.fact 104 (f := .cls "Heights") (by kernel_rfl))
  g_Heights := He.glo_ok X G (c.fact 105 (f := .glo "Heights") (by kernel_rfl))
  n_Heights_chart := He.noat_ok (c.fact 106 (f := .noat "Heights" "chart") (by kernel_rfl))
  n_Heights_limits := He.noat_ok (c.fact 107 (f := .noat "Heights" "limits") (by kernel_rfl))
  n_Heights_last := He.noat_ok (c.fact 108 (f := .noat "Heights" "last") (by kernel_rfl))
  n_Heights_known := He.noat_ok (c.fact 109 (f := .noat "Heights" "known") (by kernel_rfl))
  n_Heights_sheets := He.noat_ok (c.fact 110 (f := .noat "Heights" "sheets") (by kernel_rfl))
theorem map_of (c : SaysH K) : MapAt K := by
  obtain ⟨fd, F⟩ := c.def_ 18 (d := ⟨("Map", some "__init__"), "__init__", "Map.__init__", defArgs s_Map_init, defBody s_Map_init, defScope s_Map_init, [.adr (He.dflAt ("Map", some "__init__") 0)], [("length", .int 1), ("borders", .non), ("outages", .non)]⟩) (by kernel_rfl)
  exact ⟨_, fd, _, F, He.mkr_ok (c.fact 111 (f := .mkr "Map") (by kernel_rfl))⟩
theorem heights_of (c : SaysH K) : HeightsAt K := by
  obtain ⟨fd, F⟩ := c.def_ 40 (d := ⟨("Heights", some "__init__"), "__init__", "Heights.__init__", defArgs s_Heights_init, defBody s_Heights_init, defScope s_Heights_init, [], []⟩) (by kernel_rfl)
  exact ⟨_, fd, F, He.mkr_ok (c.fact 112 (f := .mkr "Heights") (by kernel_rfl))⟩
theorem isM_of (e : _root_.My.exB K = true) : IsM K := by
  obtain ⟨e, _⟩ := He.ba e
  obtain ⟨e1, e⟩ := He.ba e
  obtain ⟨e2, e⟩ := He.ba e
  obtain ⟨e3, e⟩ := He.ba e
  obtain ⟨e4, e5⟩ := He.ba e
  exact ⟨of_decide_eq_true e1, of_decide_eq_true e2, of_decide_eq_true e3, of_decide_eq_true e4, of_decide_eq_true e5⟩
theorem excT_of (X : K.In h) (G : h.Ns mainGlobals mg) (c : SaysH K) (i j : Nat) {x fld q : Str} {st : Stmt} (hd : hfn[i]? = some ⟨(x, some "__init__"), "__init__", q, defArgs st, defBody st, defScope st, [], []⟩) (hf : hfa[j]? = some (.glo x)) (e : excB K x fld = true) : ExcT K mg x fld q st := by
  obtain ⟨fd, F⟩ := c.def_ i hd
  obtain ⟨e1, e⟩ := He.ba e
  obtain ⟨e2, e⟩ := He.ba e
  obtain ⟨e3, e⟩ := He.ba e
  obtain ⟨e4, e⟩ := He.ba e
  obtain ⟨e5, e⟩ := He.ba e
  obtain ⟨e6, e7⟩ := He.ba e
  exact ⟨He.glo_ok X G (c.fact j hf), oexB_ok e1, He.eqO_ok e2, ⟨_, fd, He.eqO_ok e3, of_decide_eq_true e4, F⟩, He.eqO_ok e5, He.eqO_ok e6, e7⟩
theorem xc_of (X : K.In h) (G : h.Ns mainGlobals mg) (c : SaysH K) (e : _root_.My.exB K = true) : XcT K mg := by
  obtain ⟨_, e⟩ := He.ba e
  obtain ⟨e1, e⟩ := He.ba e
  obtain ⟨e2, e⟩ := He.ba e
  obtain ⟨e3, e⟩ := He.ba e
  obtain ⟨e4, e⟩ := He.ba e
  obtain ⟨p1, e⟩ := He.ba e
  obtain ⟨p2, e⟩ := He.ba e
  obtain ⟨p3, e⟩ := He.ba e
  obtain ⟨p4, e⟩ := He.ba e
  obtain ⟨p5, p6⟩ := He.ba e
  obtain ⟨t1, t⟩ := He.ba e1
  obtain ⟨t2, t3⟩ := He.ba t
  exact ⟨⟨He.glo_ok X G (c.fact 116 (f := .glo "TownError") (by kernel_rfl)), ⟨t1, He.eqO_ok t2⟩, cfB_ok t3⟩,
    excT_of X G c 0 113 (by kernel_rfl) (by kernel_rfl) e2, excT_of X G c 2 114 (by kernel_rfl) (by kernel_rfl) e3, excT_of X G c 1 115 (by kernel_rfl) (by kernel_rfl) e4,
    of_decide_eq_true p1, of_decide_eq_true p2, of_decide_eq_true p3, of_decide_eq_true p4, of_decide_eq_true p5, of_decide_eq_true p6⟩
end
end L2.My
end
section
set_option Elab.async false
set_option linter.all false
set_option maxRecDepth 100000
set_option maxHeartbeats 0
/-! D41: the law. -/
namespace L2.My
open PySem PySem.Spec PyProof.Rows
theorem facts {P : Program} {w : World} {K : PySem.W.Frag} {h : Heap} {mg : Str → Option Value} {f : Addr} (X : K.In h) (G : h.Ns mainGlobals mg) (hfa : mg ("law" : Str) = some (.ref f)) (c : SaysH K) (e : _root_.My.exB K = true) :
    ∃ fd : FuncData, (∀ (s : Shared) (v : Value), BindsTo s fd ⟨[v], []⟩ [("_law_script", v)]) ∧ ∀ base : Heap, K.In base → base.Ns mainGlobals mg → FnG P w K mg base 12 f fd ["_law_script"] (spA (fun ns : List Int => ns.length ≤ 1000) (fun ns => [scP K ns]) (fun _ => da (.bool true))) := by
  have T := tx_of X G c
  have TL : FunAt K mg "law" s_law := T.d_law
  obtain ⟨f1, fd1, F1, g1⟩ := TL.ex
  have e1 := hfa.symm.trans g1
  cases e1
  have b := FunD.bindsA (ps := ["_law_script"]) F1 fun _ _ _ _ _ _ us hl => match us, hl with | [_], _ => rfl
  exact ⟨fd1, fun s v => b s [v] rfl, fun base _ _ => ok_law F1 T (isM_of e) (map_of c) (heights_of c) (xc_of X G c e)⟩
end L2.My
open PySem PySem.W PySem.Calls PyProof.Rows
theorem PySem.Challenge.cw_cutofftills_k85_whole_joins_and_outages_holds : PySem.Challenge.rw_cutofftills_k85_whole_joins_and_outages.Holds := by
  w_on; o_law
  refine HandSHeadRun.head_any (r := OpenLaw.row PySem.Challenge.rw_cutofftills_k85_whole_joins_and_outages) (q := view (OpenLaw.row PySem.Challenge.rw_cutofftills_k85_whole_joins_and_outages).prog [87]) (H := _root_.My.hk) (ob := _root_.My.ob) (M := 6000) (loose := _root_.My.names) (d := HandSHeadRun.topDef (OpenLaw.row PySem.Challenge.rw_cutofftills_k85_whole_joins_and_outages).prog 87) (kwd := []) _root_.My.ob_eq
    (by kernel_rfl) (fun s => by kernel_rfl) _root_.My.run (by kernel_rfl) (by kernel_rfl) (by kernel_rfl) (by rfl) (by first | assumption | decide +kernel) (by decide +kernel) ⟨rfl, rfl, rfl, rfl, rfl, by decide +kernel⟩ ?hw ?hc
  case hw => w_witness2
  case hc =>
    refine L2.My.walk_ofG (l := PySem.Challenge.rw_cutofftills_k85_whole_joins_and_outages) (n := 63) (k := 12) (x := "_law_script") rfl (by decide) (by kernel_rfl) ⟨rfl, by decide, by decide⟩ ?F
    intro w mg fa h Y G hmg0
    obtain ⟨K, KX, c, e⟩ := Y
    have hmg : mg ("law" : PySem.Str) = some (.ref fa) := by
      have e : (HandSHeadRun.topDef (OpenLaw.row PySem.Challenge.rw_cutofftills_k85_whole_joins_and_outages).prog 87).name = ("law" : PySem.Str) := by kernel_rfl
      rw [← e]
      exact hmg0
    obtain ⟨fd, hb, hF⟩ := L2.My.facts (P := (PySem.Challenge.rw_cutofftills_k85_whole_joins_and_outages).prog) (w := w) KX G hmg c e
    exact ⟨K, fd, _, KX, hb, fun H a ns hl _ hS => ⟨ns, Nat.le_trans hl (by decide), H, fun b u z => z, .cons ⟨a, rfl, hS⟩ .nil, fun v G1 H1 _ q => by cases q; rfl⟩, hF⟩
end
