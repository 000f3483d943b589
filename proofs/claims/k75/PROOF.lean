import PyProof.Rows.All
import Wide.All
import OpenK.AllK
import Wide.FinOn
import KE.KStateDown
import Lean
import HandS.ForMost
import HandS.More
import HandS.WordsExc
import HandS.Defaults
import HandS.Head0
import HandS.Head1
import HandS.Head2
import HandS.HeadEnd
import HandS.HeadHook1
import HandS.HeadHook2
import PySem.Challenge.RW_parkback_k75_whole_picks_compared
import HandS.Star
import HandS.Walk
import HandS.Zip
import HandS.Deep
import HandS.Conv
import HandS.TupMul
import HandS.IsInst
import HandS.SortInts
import HandS.SortRule
import KE.DatumOrd
import KE.GoesNewDict
import KE.KTupSum
import KE.KDictDisplayH
import HandS.SetFor
set_option Elab.async false
set_option linter.all false
set_option maxRecDepth 100000
set_option maxHeartbeats 0
/-! Parkback: the text by its defs, the head's facts, the top's run. -/
namespace Pk
open PySem PySem.Spec PyProof.Rows L2
def top (i : Nat) : Stmt := PySem.Challenge.pw_parkback_k75_whole_picks_compared.main.body.getD i (.Pass ⟨0, 0, 0, 0⟩)
abbrev sIsInteger : Stmt := top 1
abbrev sIsIn : Stmt := top 2
abbrev sIsList : Stmt := top 3
abbrev sHasRoom : Stmt := top 13
abbrev sNeedStreet : Stmt := top 14
abbrev sNeedPlaces : Stmt := top 15
abbrev sNeedState : Stmt := top 16
abbrev sNeedCar : Stmt := top 17
abbrev sTakenIn : Stmt := top 19
abbrev sRestWay : Stmt := top 20
abbrev sRestsIn : Stmt := top 22
abbrev sRestsFrom : Stmt := top 23
abbrev sUnlike : Stmt := top 24
abbrev sStaysIn : Stmt := top 25
abbrev sCallsToRest : Stmt := top 26
abbrev sWaysOf : Stmt := top 28
abbrev sFairest : Stmt := top 29
abbrev sSquarest : Stmt := top 30
abbrev sNeedWeights : Stmt := top 31
abbrev sCheapest : Stmt := top 32
abbrev sDearest : Stmt := top 33
abbrev sCheapestCalls : Stmt := top 34
abbrev sMostHome : Stmt := top 35
abbrev sBestFor : Stmt := top 36
abbrev sWorstFor : Stmt := top 37
abbrev sSlack : Stmt := top 39
abbrev sLawTaken : Stmt := top 41
abbrev sLawPick : Stmt := top 42
abbrev sLawStreet : Stmt := top 43
abbrev sLawState : Stmt := top 44
abbrev sLaw : Stmt := top 45
def dIsInteger : He.DefD := ⟨("is_integer", none), "is_integer", "is_integer", defArgs sIsInteger, defBody sIsInteger, defScope sIsInteger, [], []⟩
def dIsIn : He.DefD := ⟨("is_in", none), "is_in", "is_in", defArgs sIsIn, defBody sIsIn, defScope sIsIn, [], []⟩
def dIsList : He.DefD := ⟨("is_list", none), "is_list", "is_list", defArgs sIsList, defBody sIsList, defScope sIsList, [], []⟩
def dHasRoom : He.DefD := ⟨("has_room", none), "has_room", "has_room", defArgs sHasRoom, defBody sHasRoom, defScope sHasRoom, [], []⟩
def dNeedStreet : He.DefD := ⟨("need_street", none), "need_street", "need_street", defArgs sNeedStreet, defBody sNeedStreet, defScope sNeedStreet, [], []⟩
def dNeedPlaces : He.DefD := ⟨("need_places", none), "need_places", "need_places", defArgs sNeedPlaces, defBody sNeedPlaces, defScope sNeedPlaces, [], []⟩
def dNeedState : He.DefD := ⟨("need_state", none), "need_state", "need_state", defArgs sNeedState, defBody sNeedState, defScope sNeedState, [], []⟩
def dNeedCar : He.DefD := ⟨("need_car", none), "need_car", "need_car", defArgs sNeedCar, defBody sNeedCar, defScope sNeedCar, [], []⟩
def dTakenIn : He.DefD := ⟨("taken_in", none), "taken_in", "taken_in", defArgs sTakenIn, defBody sTakenIn, defScope sTakenIn, [], []⟩
def dRestWay : He.DefD := ⟨("rest_way", none), "rest_way", "rest_way", defArgs sRestWay, defBody sRestWay, defScope sRestWay, [], []⟩
def dRestsIn : He.DefD := ⟨("rests_in", none), "rests_in", "rests_in", defArgs sRestsIn, defBody sRestsIn, defScope sRestsIn, [], []⟩
def dRestsFrom : He.DefD := ⟨("rests_from", none), "rests_from", "rests_from", defArgs sRestsFrom, defBody sRestsFrom, defScope sRestsFrom, [], []⟩
def dUnlike : He.DefD := ⟨("unlike", none), "unlike", "unlike", defArgs sUnlike, defBody sUnlike, defScope sUnlike, [], []⟩
def dStaysIn : He.DefD := ⟨("stays_in", none), "stays_in", "stays_in", defArgs sStaysIn, defBody sStaysIn, defScope sStaysIn, [], []⟩
def dCallsToRest : He.DefD := ⟨("calls_to_rest", none), "calls_to_rest", "calls_to_rest", defArgs sCallsToRest, defBody sCallsToRest, defScope sCallsToRest, [], []⟩
def dWaysOf : He.DefD := ⟨("ways_of", none), "ways_of", "ways_of", defArgs sWaysOf, defBody sWaysOf, defScope sWaysOf, [], []⟩
def dFairest : He.DefD := ⟨("fairest", none), "fairest", "fairest", defArgs sFairest, defBody sFairest, defScope sFairest, [], []⟩
def dSquarest : He.DefD := ⟨("squarest", none), "squarest", "squarest", defArgs sSquarest, defBody sSquarest, defScope sSquarest, [], []⟩
def dNeedWeights : He.DefD := ⟨("need_weights", none), "need_weights", "need_weights", defArgs sNeedWeights, defBody sNeedWeights, defScope sNeedWeights, [], []⟩
def dCheapest : He.DefD := ⟨("cheapest", none), "cheapest", "cheapest", defArgs sCheapest, defBody sCheapest, defScope sCheapest, [], []⟩
def dDearest : He.DefD := ⟨("dearest", none), "dearest", "dearest", defArgs sDearest, defBody sDearest, defScope sDearest, [], []⟩
def dCheapestCalls : He.DefD := ⟨("cheapest_calls", none), "cheapest_calls", "cheapest_calls", defArgs sCheapestCalls, defBody sCheapestCalls, defScope sCheapestCalls, [], []⟩
def dMostHome : He.DefD := ⟨("most_home", none), "most_home", "most_home", defArgs sMostHome, defBody sMostHome, defScope sMostHome, [], []⟩
def dBestFor : He.DefD := ⟨("best_for", none), "best_for", "best_for", defArgs sBestFor, defBody sBestFor, defScope sBestFor, [], []⟩
def dWorstFor : He.DefD := ⟨("worst_for", none), "worst_for", "worst_for", defArgs sWorstFor, defBody sWorstFor, defScope sWorstFor, [], []⟩
def dSlack : He.DefD := ⟨("slack", none), "slack", "slack", defArgs sSlack, defBody sSlack, defScope sSlack, [], []⟩
def dLawTaken : He.DefD := ⟨("_law_taken", none), "_law_taken", "_law_taken", defArgs sLawTaken, defBody sLawTaken, defScope sLawTaken, [], []⟩
def dLawPick : He.DefD := ⟨("_law_pick", none), "_law_pick", "_law_pick", defArgs sLawPick, defBody sLawPick, defScope sLawPick, [], []⟩
def dLawStreet : He.DefD := ⟨("_law_street", none), "_law_street", "_law_street", defArgs sLawStreet, defBody sLawStreet, defScope sLawStreet, [], []⟩
def dLawState : He.DefD := ⟨("_law_state", none), "_law_state", "_law_state", defArgs sLawState, defBody sLawState, defScope sLawState, [], []⟩
def dLaw : He.DefD := ⟨("law", none), "law", "law", defArgs sLaw, defBody sLaw, defScope sLaw, [], []⟩
def fn : List He.DefD := [dIsInteger, dIsIn, dIsList, dHasRoom, dNeedStreet, dNeedPlaces, dNeedState, dNeedCar, dTakenIn, dRestWay, dRestsIn, dRestsFrom, dUnlike, dStaysIn, dCallsToRest, dWaysOf, dFairest, dSquarest, dNeedWeights, dCheapest, dDearest, dCheapestCalls, dMostHome, dBestFor, dWorstFor, dSlack, dLawTaken, dLawPick, dLawStreet, dLawState, dLaw]
def fa1 : List He.Fa := [.glo "is_integer", .glo "is_in", .glo "is_list", .glo "has_room", .glo "need_street", .glo "need_places", .glo "need_state", .glo "need_car", .glo "taken_in", .glo "rest_way", .glo "rests_in", .glo "rests_from", .glo "unlike", .glo "stays_in", .glo "calls_to_rest", .glo "ways_of", .glo "fairest", .glo "squarest", .glo "need_weights", .glo "cheapest", .glo "dearest", .glo "cheapest_calls", .glo "most_home", .glo "best_for"]
def fa2 : List He.Fa := [.glo "worst_for", .glo "slack", .glo "_law_taken", .glo "_law_pick", .glo "_law_street", .glo "_law_state", .glo "law", .int "MOST_PLACES" 12, .int "MOST_CARS" 7, .free "isinstance", .free "int", .free "bool", .free "tuple", .free "len", .free "all", .free "range", .free "enumerate", .free "sorted", .free "sum", .free "zip", .free "max", .free "min"]
def fa : List He.Fa := fa1 ++ fa2
def loose1 : List PySem.Str := ["is_integer", "is_in", "is_list", "StreetError", "BadStreet", "BadState", "BadCar", "BadWeights", "MOST_PLACES", "MOST_CARS", "has_room", "need_street", "need_places", "need_state", "need_car", "taken_in", "rest_way", "rests_in", "rests_from", "unlike"]
def loose2 : List PySem.Str := ["stays_in", "calls_to_rest", "ways_of", "fairest", "squarest", "need_weights", "cheapest", "dearest", "cheapest_calls", "most_home", "best_for", "worst_for", "slack", "_law_taken", "_law_pick", "_law_street", "_law_state"]
def loose : List PySem.Str := loose1 ++ loose2
abbrev Rw : PySem.W.OpenRow := PySem.W.OpenLaw.row PySem.Challenge.rw_parkback_k75_whole_picks_compared
abbrev hk : PySem.W.Hook := He.hookD 4 fa fn
def ob (s : PySem.W.SharedT) : He.AlD := He.obsDG 4 fa fn (HandSHeadRun.getT s)
theorem ob_eq (s : PySem.W.SharedT) : ob s = hk.obs s.abs := He.obsDG_eq (HandSHeadRun.getT_eq s)
theorem run (w : World) : HandSHeadRun.RunEq Rw (PySem.W.view Rw.prog [45]) hk ob 4000 loose w := by
  intro os
  kernel_rfl
end Pk
/-! Parkback: rules that the hand layer lacks, part A. -/
namespace Pk
open PySem PySem.Spec PyProof.Rows L2

/-! ### heaps -/
theorem same_new {H : Hp} {p : Addr} {o : HO} (h : H p = none) : Same H (upd H p o) := fun b x e => by
  rw [upd_ne (ne_of_none e h)]
  exact e
/-- an object that was not there at H is written -/
theorem same_put {H H' : Hp} {p : Addr} {o : HO} (s : Same H H') (h : H p = none) : Same H (upd H' p o) := fun b x e => by
  rw [upd_ne (ne_of_none e h)]
  exact s b x e
theorem sqT_same {K : PySem.W.Frag} {H H' : Hp} {a : Addr} {xs : List V} (e : Same H H') (h : SqT K H a xs) : SqT K H' a xs := by
  rcases h with (h | ⟨o, h⟩) | h
  · exact .inl (.inl (e _ _ h))
  · exact .inl (.inr ⟨o, e _ _ h⟩)
  · exact .inr h

/-! ### data -/
mutual
theorem dp_same {K : PySem.W.Frag} {H H' : Hp} (e : Same H H') : ∀ {d : PyData} {v : V}, Dp K H v d → Dp K H' v d
  | .none, _, h => by cases h; exact .non
  | .bool b, _, h => by cases h; exact .bl b
  | .int i, _, h => by cases h; exact .int i
  | .str x, _, h => by cases h; exact .str x
  | .list ds, _, h => by
    cases h with
    | lst hs ha => exact .lst (e.seq hs) (dpAll_same e ha)
  | .tuple ds, _, h => by
    cases h with
    | tup hs ha => exact .tup (sqT_same e hs) (dpAll_same e ha)
  | .dict _, _, h => by cases h
theorem dpAll_same {K : PySem.W.Frag} {H H' : Hp} (e : Same H H') : ∀ {ds : List PyData} {vs : List V}, DpAll K H vs ds → DpAll K H' vs ds
  | [], _, h => by cases h; exact .nil
  | d :: ds, _, h => by
    cases h with
    | cons h1 h2 => exact .cons (dp_same e h1) (dpAll_same e h2)
end
theorem dpAll_ints {K : PySem.W.Frag} {H : Hp} : ∀ ns : List Int, DpAll K H (ns.map V.int) (ns.map PyData.int)
  | [] => .nil
  | n :: ns => .cons (.int n) (dpAll_ints ns)
theorem dpAll_ints_inv {K : PySem.W.Frag} {H : Hp} : ∀ {ns : List Int} {vs : List V}, DpAll K H vs (ns.map PyData.int) → vs = ns.map V.int
  | [], _, h => by cases h; rfl
  | n :: ns, _, h => by
    cases h with
    | cons h1 h2 =>
      cases h1
      rw [dpAll_ints_inv h2]
      rfl
theorem dpAll_len {K : PySem.W.Frag} {H : Hp} : ∀ {ds : List PyData} {vs : List V}, DpAll K H vs ds → vs.length = ds.length
  | [], _, h => by cases h; rfl
  | d :: ds, _, h => by
    cases h with
    | cons h1 h2 => rw [List.length_cons, List.length_cons, dpAll_len h2]
theorem dpAll_get {K : PySem.W.Frag} {H : Hp} : ∀ {ds : List PyData} {vs : List V} {i : Nat} {v : V}, DpAll K H vs ds → vs[i]? = some v → ∃ d, ds[i]? = some d ∧ Dp K H v d
  | [], _, i, v, h, e => by cases h; simp at e
  | d :: ds, _, 0, v, h, e => by
    cases h with
    | cons h1 h2 =>
      cases Option.some.inj e
      exact ⟨d, rfl, h1⟩
  | d :: ds, _, i + 1, v, h, e => by
    cases h with
    | cons h1 h2 => exact dpAll_get (i := i) h2 e
theorem dpAll_get' {K : PySem.W.Frag} {H : Hp} : ∀ {ds : List PyData} {vs : List V} {i : Nat} {d : PyData}, DpAll K H vs ds → ds[i]? = some d → ∃ v, vs[i]? = some v ∧ Dp K H v d
  | [], _, i, d, h, e => by simp at e
  | d :: ds, _, 0, d', h, e => by
    cases h with
    | cons h1 h2 =>
      cases Option.some.inj e
      exact ⟨_, rfl, h1⟩
  | d :: ds, _, i + 1, d', h, e => by
    cases h with
    | cons h1 h2 => exact dpAll_get' (i := i) h2 e
theorem dpAll_snoc {K : PySem.W.Frag} {H : Hp} {d : PyData} {v : V} : ∀ {ds : List PyData} {vs : List V}, DpAll K H vs ds → Dp K H v d → DpAll K H (vs ++ [v]) (ds ++ [d])
  | [], _, h, hd => by cases h; exact .cons hd .nil
  | e :: ds, _, h, hd => by
    cases h with
    | cons h1 h2 => exact .cons h1 (dpAll_snoc h2 hd)
/-- a tuple of ints -/
theorem dp_tup {K : PySem.W.Frag} {H : Hp} {a : Addr} {ns : List Int} (h : SqT K H a (ns.map V.int)) : Dp K H (.ref a) (.tuple (ns.map PyData.int)) := .tup h (dpAll_ints ns)

/-! ### min of a list of data -/
def rMinD (K : PySem.W.Frag) : List V → Hp → VK → Prop := fun vs H Q => ∃ (a : Addr) (xs : List V) (d : PyData) (ds : List PyData), vs = [V.ref a] ∧ SqL K H a xs ∧ DpAll K H xs (d :: ds) ∧ PySem.W.AlikeAll (d :: ds) ∧
  PyData.depthAll (d :: ds) ≤ 32 ∧ ∀ v, v ∈ xs → Dp K H v (PySem.W.minD d ds) → Q v H
theorem cr_minD {X : Cx} (hc : X.calm = true) (hu : X.A.units + 64 < cLine) : CallR X (.builtin "min") (rMinD X.K) := by
  intro pins s σ H vs us Q I r h
  obtain ⟨a, xs, d, ds, rfl, hs, hd, ha, hz, q⟩ := h
  obtain ⟨its, rv, hl, _⟩ := I.list hs
  rw [Vals.ref1 r]
  obtain ⟨as, hr⟩ := Dp.readsAll I (d :: ds) xs its hd rv
  refine PySem.W.min_list_data (I.ok.hd hc) hl.isList hr ha (by omega) fun i v h' tk bs hi hrd hk => ?_
  have hi' : its[i]? = some v := by simpa using hi
  have hlt : i < xs.length := by
    rw [rv.length]
    exact (List.getElem?_eq_some_iff.mp hi').1
  obtain ⟨u, hu', ru⟩ := rv.get (List.getElem?_eq_getElem hlt)
  rw [hi'] at hu'
  cases hu'
  obtain ⟨di, _, hdi⟩ := dpAll_get hd (List.getElem?_eq_getElem hlt)
  obtain ⟨as', hr'⟩ := Dp.reads I di _ _ hdi ru
  have e := (reads_det (h := s.heap) (h' := h') (fun b o ho _ => hk b o ho) hr' hrd).1
  exact ⟨xs[i], H, I.kept hk, ru, q _ (List.getElem_mem hlt) (e ▸ hdi)⟩

/-! ### sums and sorts of tuples -/
def rSumT (K : PySem.W.Frag) : List V → Hp → VK → Prop := fun vs H Q => ∃ (a : Addr) (ns : List Int), vs = [V.ref a] ∧ SqT K H a (ns.map V.int) ∧ Q (.int ns.sum) H
theorem cr_sumT {X : Cx} (hc : X.calm = true) : CallR X (.builtin "sum") (rSumT X.K) := by
  intro pins s σ H vs us Q I r h
  obtain ⟨a, ns, rfl, hs, q⟩ := h
  obtain ⟨its, rv, hl, _⟩ := I.tuple hs
  rw [Vals.ref1 r]
  obtain ⟨xs, e⟩ := rv.ints.allInts.items
  have hn : numsOf (intItems xs).toList = ns := by rw [← e]; exact rv.ints.numsOf
  rw [nums_intItems] at hn
  have ht : s.heap.IsTuple a its.toArray := hl
  rw [e] at ht
  refine PySem.W.ktm_sumG (I.ok.hd hc) ht fun h' tk t' hk => ⟨.int ns.sum, H, I.kept hk, ?_, q⟩
  have z : preSum (numAt xs) xs.size = ns.sum := by
    rw [preSum_eq, List.take_of_length_le (by simp), hn]
  rw [z]
  exact ⟨t', rfl⟩
end Pk
/-! Parkback: rules that the hand layer lacks, part B: sorted of a tuple; walks of pairs. -/
namespace Pk
open PySem PySem.Spec PyProof.Rows L2

def rSortedT (K : PySem.W.Frag) : List V → Hp → VK → Prop := fun vs H Q => ∃ (a : Addr) (ns : List Int), vs = [V.ref a] ∧ SqT K H a (ns.map V.int) ∧
  ∀ (ns' : List Int) (p : Addr), ns'.Perm ns → ns'.Pairwise (· ≤ ·) → H p = none → Q (.ref p) (upd H p (.lst (ns'.map V.int)))
theorem cr_sortedT {X : Cx} : CallR X (.builtin "sorted") (rSortedT X.K) := by
  intro pins s σ H vs us Q I r h
  obtain ⟨a, ns, rfl, hs, q⟩ := h
  obtain ⟨its, rv, ⟨o, ho, hc, n, hd⟩, hz⟩ := I.tuple hs
  rw [Vals.ref1 r]
  have hi := rv.ints
  have hz' : its.length ≤ sizeLine := by rw [← rv.length]; exact hz
  refine Calls.call_function_entry kind_sorted plain_sorted entry_sorted (args_sorted1 _) ?_
  unfold Builtin.«sorted»
  refine wpAny_bind (m := checkCount "sorted" 1 1 _) (wpAny_pure ?_)
  refine wpAny_bind (wpAny_collect_seq a (.inr rfl) ho hc hd (fun h' hk => ?_) (by rw [List.size_toArray]; exact hz'))
  have I1 : Inv X pins σ H { s with heap := h' } := I.kept (t' := s.toks) hk
  show wpAny _ _ (newList its >>= _) _ _ _
  refine wpAny_bind (wpAny_newList ?_ hz')
  have hoL : (h'.push (seqObj "list" its.toArray 0)).get? h'.objs.size = some (seqObj "list" its.toArray 0) := Heap.get?_push_size _ rfl
  refine wpAny_bind (wpAny_holding (wpAny_call_entry slot_list_sort ⟨_, hoL, rfl⟩ entry_list_sort (SrtO.list_sort_ord SrtO.swo_int hoL hz' (fun h2 => SrtO.ints_sortable hi h2) fun out h1 h2 => ⟨.none, rfl, ?_⟩) (args_list_sort _)))
  obtain ⟨k1, k2, k3⟩ := SrtO.ints_out hi h1 h2
  obtain ⟨ep, he'⟩ := sortedHeap_at (vs := its) (out := out.toArray) hoL
  have hlen : ((out.map SrtO.iv).map V.int).length ≤ sizeLine := by
    rw [List.length_map, k2.length_eq]
    rw [List.length_map] at hz
    exact hz
  refine wpAny_pure ⟨_, rfl, ?_⟩
  refine ⟨.ref h'.objs.size, upd H h'.objs.size (.lst ((out.map SrtO.iv).map V.int)), ?_, rfl, q _ _ k2 k3 (I1.hok.fresh (Nat.le_refl _))⟩
  refine I1.laid (t' := s.toks) (fun b ob e => ?_) (Nat.le_refl _) ⟨hlen, out, ep, vals_of_ints k1, he'⟩
  have hlt : b < h'.objs.size := Heap.lt_size e
  show (sortedHeap (h'.push (seqObj "list" its.toArray 0)) h'.objs.size its out.toArray).get? b = some ob
  rw [sortedHeap_old (Nat.ne_of_lt hlt) (by rw [size_push']; exact Nat.lt_succ_of_lt hlt)]
  exact Heap.get?_push_of_some _ e

/-! ### walks that give new pairs -/
/-- n pairs; G: what stands meanwhile; yp: what the i-th holds -/
def ItP (n : Nat) (G : Hp → Prop) (yp : Nat → Hp → V → V → Prop) : It :=
  ⟨fun i H => G H ∧ i < n, fun i H v H' => ∃ T x y, v = .ref T ∧ H T = none ∧ H' = upd H T (.tup [x, y]) ∧ yp i H x y, fun i H => G H ∧ i = n⟩
theorem walk_p {n : Nat} {G : Hp → Prop} {yp : Nat → Hp → V → V → Prop} :
    Walk (ItP n G yp) n G (fun i H v H' => ∃ T x y, v = .ref T ∧ H T = none ∧ H' = upd H T (.tup [x, y]) ∧ yp i H x y) :=
  ⟨fun _ _ hi g => ⟨g, hi⟩, fun _ g => ⟨g, rfl⟩, fun _ _ _ _ _ _ y => y⟩
theorem turn_pairs {P : Program} {w : World} {K : PySem.W.Frag} {elts : List Expr} {kk : Nat} {tpos : Pos} {n : Nat} {G : Hp → Prop} {yp : Nat → Hp → V → V → Prop} (fp : List Addr) (it : Addr) (tn : Nat → Heap → Prop)
    (hmem : it ∈ fp) (hobj : ∀ i h, tn i h → ∀ b ∈ fp, ∃ o, h.get? b = some o ∧ ∀ v, o.data ≠ .cell v) (hkeep : ∀ i h h', tn i h → (∀ b ∈ fp, ∀ o, h.get? b = some o → h'.get? b = some o) → tn i h')
    (hW : ∀ (X : Cx), X.prog = P → X.w = w → X.K = K → X.calm = true → ∀ (i : Nat) (pins : List (Addr × Obj)) (s : Shared) (σ : L2.St) (H : Hp), Inv X pins σ H s → G H → tn i s.heap → i ≤ n →
      ∃ fpW wr Y Sx, GoesN X.prog X.w X.A (.Tuple elts kk tpos) it fpW wr n Y Sx ∧ Sx i s.heap ∧ (∀ b ∈ wr, b ∈ fp) ∧ (∀ j h, Sx j h → tn j h) ∧
        (∀ v h', i < n → Y i s.heap v h' → ∃ T u1 u2 x y, v = .ref T ∧ s.heap.objs.size ≤ T ∧ h'.IsTuple T #[u1, u2] ∧ RelV x u1 ∧ RelV y u2 ∧ yp i H x y))
    (hself : ∀ (A : Around) (i : Nat) (s : Shared) (Q : Value → Shared → Prop) (E : Value → Shared → Prop), tn i s.heap → Q (.ref it) s → wpAny (model P w) A (pyIter (.ref it)) Q E s) :
    Turn P w K (.Tuple elts kk tpos) (ItP n G yp) fp it tn where
  mem := hmem
  obj := hobj
  keep := hkeep
  item := by
    intro X hP hw hK hc i pins s σ H E I hf st hg
    obtain ⟨g, hi⟩ := hg
    obtain ⟨fpW, wr, Y, Sx, W, s0, hwr, htn, hy⟩ := hW X hP hw hK hc i pins s σ H I g st (Nat.le_of_lt hi)
    subst hP hw hK
    refine W.goes i s (fun v s2 => ∃ x H', Inv X pins σ H' s2 ∧ RelV x v ∧ (ItP n G yp).yld i H x H' ∧ tn (i + 1) s2.heap ∧ ∀ b ∈ fp, H' b = none) E hi s0 fun v h' tk hY st' hk htk => ?_
    obtain ⟨T, u1, u2, x, y, rfl, hT, ⟨o, ho, hoc, m, hod⟩, r1, r2, hyp⟩ := hy v h' hi hY
    have new : ObjOk X.prog X.w (upd H T (.tup [x, y])) h' T (.tup [x, y]) :=
      ⟨by show 2 ≤ sizeLine; decide, [u1, u2], .cons r1 (.cons r2 .nil), ⟨_, ho, hoc, _, hod⟩⟩
    refine ⟨.ref T, upd H T (.tup [x, y]), I.turnedNew (t' := tk) (ch := fp) (fun b ob hb e => hk b ob (fun z => hb (hwr b z)) e) hf hT new, rfl, ⟨T, x, y, rfl, I.hok.fresh hT, rfl, hyp⟩, htn _ _ st', fun b hb => ?_⟩
    obtain ⟨ob, hob, _⟩ := hobj i _ st b hb
    have hlt : b < s.heap.objs.size := Heap.lt_size hob
    rw [upd_ne (Nat.ne_of_lt (Nat.lt_of_lt_of_le hlt hT))]
    exact (hf b hb).1
  done := by
    intro X hP hw hK hc i pins s σ H E I hf st hg
    obtain ⟨g, hi⟩ := hg
    obtain ⟨fpW, wr, Y, Sx, W, s0, hwr, htn, hy⟩ := hW X hP hw hK hc i pins s σ H I g st (Nat.le_of_eq hi)
    subst hP hw hK hi
    exact W.stops s (fun s2 => Inv X pins σ H s2) E s0 fun h' tk hk htk => I.turnedL (t' := tk) (ch := fp) (fun b ob hb e => hk b ob (fun z => hb (hwr b z)) e) hf
  self := hself

/-! ### enumerate(a tuple) -/
theorem meets_enumT {v : Value} {o : Obj} {G : Heap → Prop} (B : Begins v o G) :
    Meets (Builtin.«enumerate.__new__» ⟨[.type "enumerate", v], []⟩) (fun _ R s => G s.heap ∧
      R (.ok (.ret (.ref (s.heap.push o).objs.size))) { s with heap := (s.heap.push o).push { cls := .type "enumerate", data := .fields #[.none, .bool false, .ref s.heap.objs.size, rawInt 0, .none, .none] } }) :=
  .of_wp fun prog w A R s h => by
    obtain ⟨hp, g, d, tk, os⟩ := s; obtain ⟨h1, h⟩ := h
    have hsub := sub_enumerate
    have q1 : ∀ {A' : Around} {E : Value → Shared → Prop} {Q : Value → Shared → Prop}, Q (.ref hp.objs.size) ⟨hp.push o, g, d, tk, os⟩ → wpAny (model prog w) A' (pyIter v) Q E ⟨hp, g, d, tk, os⟩ :=
      fun q => B.iter prog w _ _ ⟨hp, g, d, tk, os⟩ _ h1 q
    wp_walk using q1
    refine wpAny_stack_any fun st => wpAny_pure ?_
    split
    · rename_i c _ _ _ _ _
      cases (c == Value.type "enumerate")
      · wp_walk using q1
        exact ⟨_, rfl, h⟩
      · wp_walk using q1
        exact ⟨_, rfl, h⟩
    · wp_walk using q1
      exact ⟨_, rfl, h⟩
theorem enum_of {prog : Program} {w : World} {A : Around} {E : Value → Shared → Prop} {s : Shared} {v : Value} {o : Obj} {G : Heap → Prop} {Q : Value → Shared → Prop} (B : Begins v o G) (h1 : G s.heap)
    (h : ∀ h', IsEnum h' (s.heap.objs.size + 1) s.heap.objs.size 0 .none → h'.get? s.heap.objs.size = some o → (∀ b o, s.heap.get? b = some o → h'.get? b = some o) → Q (.ref (s.heap.objs.size + 1)) { s with heap := h' }) :
    wpAny (model prog w) A (call (.type "enumerate") [v]) Q E s := by
  refine callType_new F.called_enumerate (by decide) (F.typeCall_enumerate_1 _) (F.newCall_enumerate_1 _) (fun obj => F.args_object_init_2 obj _) F.entry_enumerate_new (meets_enumT B) ⟨h1, ?_⟩
  have hz : (s.heap.push o).objs.size = s.heap.objs.size + 1 := Heap.size_push ..
  show _ ∧ _
  rw [hz]
  have he : IsEnum ((s.heap.push o).push { cls := .type "enumerate", data := .fields #[.none, .bool false, .ref s.heap.objs.size, rawInt 0, .none, .none] }) (s.heap.objs.size + 1) s.heap.objs.size 0 .none := by
    have := Heap.get?_push_size (s.heap.push o) (o := { cls := .type "enumerate", data := .fields #[.none, .bool false, .ref s.heap.objs.size, rawInt 0, .none, .none] }) rfl
    rw [hz] at this; exact this
  exact ⟨⟨_, he, rfl⟩, h _ he (Heap.get?_push_of_some _ (Heap.get?_push_size _ B.free)) fun b o x => Heap.get?_push_of_some _ (Heap.get?_push_of_some _ x)⟩
end Pk
/-! Parkback: rules that the hand layer lacks, part C: enumerate of a tuple, zip of a tuple and a list, items of a dict with tuple keys. -/
namespace Pk
open PySem PySem.Spec PyProof.Rows L2

def ypE (xs : List V) : Nat → Hp → V → V → Prop := fun i _ x y => x = .int (i : Nat) ∧ xs[i]? = some y
def iEnumT (K : PySem.W.Frag) (ta : TA) : TI := fun σ H R => ta σ H fun vs H1 => ∃ a xs, vs = [V.ref a] ∧ SqT K H1 a xs ∧ R (ItP xs.length (fun H => SqT K H a xs) (ypE xs)) H1
theorem turn_enumT {P : Program} {w : World} {K : PySem.W.Frag} {elts : List Expr} {kk : Nat} {tpos : Pos} (a e it : Addr) (xs : List V) :
    Turn P w K (.Tuple elts kk tpos) (ItP xs.length (fun H => SqT K H a xs) (ypE xs)) [e, it] e (fun i h => (∃ old, IsEnum h e it (0 + ((i : Nat) : Int)) old) ∧ h.IsTupleIter it a i ∧ e ≠ it) := by
  refine turn_pairs [e, it] e _ (by simp) (fun i h st b hb => ?_) (fun i h h' st k => ?_) ?_ (fun A i s Q E st h => ?_)
  · obtain ⟨⟨old, he⟩, ⟨o, ho, hc, hd⟩, _⟩ := st
    have e' : b = e ∨ b = it := by simpa using hb
    rcases e' with z | z
    · rw [z]; exact ⟨_, he, fun v q => nomatch q⟩
    · rw [z]; exact ⟨o, ho, fun v q => by rw [hd] at q; cases q⟩
  · obtain ⟨⟨old, he⟩, ⟨o, ho, hc, hd⟩, ne⟩ := st
    exact ⟨⟨old, k e (by simp) _ he⟩, ⟨o, k it (by simp) _ ho, hc, hd⟩, ne⟩
  · intro X hP hw hK hc i pins s σ H I g st hi
    subst hP hw hK
    obtain ⟨⟨old, he⟩, hit, ne⟩ := st
    obtain ⟨its, rv, ht, hz⟩ := I.tuple g
    obtain ⟨oi, hoi, hci, hdi⟩ := id hit
    obtain ⟨oa, hoa, hca, na, hda⟩ := id ht
    have hne : a ≠ it := fun z => by
      subst z
      rw [hoa] at hoi
      cases hoi
      rw [hca] at hci
      exact absurd (Value.type.inj hci) (by decide)
    have hne2 : e ≠ a := fun z => by
      subst z
      rw [he] at hoa
      cases hoa
      exact absurd (Value.type.inj hca) (by decide)
    have hh : X.A.in1.handled = none := I.ok.hd hc
    have hl : its.toArray.size = xs.length := by rw [List.size_toArray, rv.length]
    have W := GoesN.enumFrom (elts := elts) (x1 := kk) (pos := tpos) 0 (Draws.tuple (prog := X.prog) (w := X.w) (A := X.A.in1) hh it a hne its.toArray) e ne (by simp [ne, hne2]) (by simp)
    rw [hl] at W
    refine ⟨_, _, _, _, W, ⟨⟨old, he⟩, hit, ht⟩, fun b hb => hb, fun j h hs => ⟨hs.1, hs.2.1, ne⟩, fun v h' hi' hY => ?_⟩
    obtain ⟨T, t, u, ev, hT, hu, hTT⟩ := hY
    have hu' : its[i]? = some u := by simpa using hu
    obtain ⟨y, hy⟩ : ∃ y, xs[i]? = some y := ⟨xs[i], List.getElem?_eq_getElem hi'⟩
    obtain ⟨u', hu2, ru⟩ := rv.get hy
    rw [hu'] at hu2
    cases hu2
    exact ⟨T, _, _, .int (i : Nat), y, ev, hT, hTT, ⟨t, by rw [Int.zero_add]⟩, ru, rfl, hy⟩
  · obtain ⟨⟨_, he⟩, _⟩ := st
    exact wpAny_pyIter_enum he h
theorem pi_enumT {X : Cx} {e : Expr} {ta : TA} {p pos tpos : Pos} {elts : List Expr} {kk : Nat} (hg : Gl X "enumerate") (hm : X.mg "enumerate" = none) (ha : PA X [e] ta) (hs : starEach [e] X.env = [(false, eval e X.env)] := by rfl) :
    PI X (.Tuple elts kk tpos) (.Call (.Name "enumerate" p) [e] [] pos) (iEnumT X.K ta) := by
  refine ⟨fun pins s σ H R I h => ?_⟩
  refine Call_ (ld_blt I hg hm boot_enumerate (PyProof.Rows.callWith_type1 (thn (ha.run pos pins s σ H _ I h) fun us s1 ⟨vs, H1, I1, r1, q1⟩ => ?_) hs rfl))
  obtain ⟨a, xs, ex, hq, q⟩ := q1
  subst ex
  rw [Vals.ref1 r1]
  obtain ⟨its, rv, p', hz⟩ := I1.tuple hq
  refine enum_of (begins_tuple a its.toArray) p' fun h' he hit hk => wpAny_pyIter_enum he ?_
  have I2 : Inv X pins σ H1 { s1 with heap := h' } := I1.kept (t' := s1.toks) hk
  refine ⟨s1.heap.objs.size + 1, [s1.heap.objs.size + 1, s1.heap.objs.size], _, _, H1, rfl, I2, turn_enumT a (s1.heap.objs.size + 1) s1.heap.objs.size xs, ⟨⟨.none, he⟩, ⟨_, hit, rfl, rfl⟩, Nat.succ_ne_self _⟩, fun b hb => ?_, q⟩
  have e' : b = s1.heap.objs.size + 1 ∨ b = s1.heap.objs.size := by simpa using hb
  have hle : s1.heap.objs.size ≤ b := by
    rcases e' with z | z
    · rw [z]; exact Nat.le_add_right _ _
    · rw [z]; exact Nat.le_refl _
  exact I1.fpOk hle (I1.hok.fresh hle)

/-! ### zip of a tuple and a list, of two tuples -/
def ypZ (xs ys : List V) : Nat → Hp → V → V → Prop := fun i _ x y => xs[i]? = some x ∧ ys[i]? = some y
theorem sep5 (n a b : Nat) (ha : a < n) (hb : b < n) : ZipSep2 (n + 4) (n + 2) (n + 3) n (n + 1) [n, a] [n + 1, b] := by
  have nn : ∀ i j : Nat, i ≠ j → n + i ≠ n + j := fun i j h => by omega
  have n0 : ∀ i : Nat, i ≠ 0 → n + i ≠ n := fun i h => by omega
  have nc : ∀ (i c : Nat), c < n → n + i ≠ c := fun i c h => by omega
  have no : ∀ {x p q : Nat}, x ≠ p → x ≠ q → x ∉ [p, q] := fun h1 h2 hm => by
    rcases List.mem_cons.mp hm with z | hm
    · exact h1 z
    · exact h2 (List.mem_singleton.mp hm)
  exact ⟨nn 2 4 (by decide), nn 3 4 (by decide), nn 2 3 (by decide), n0 2 (by decide), List.mem_cons_self, no (n0 4 (by decide)) (nc 4 a ha), no (n0 3 (by decide)) (nc 3 a ha), nn 2 1 (by decide), List.mem_cons_self,
    no (nn 4 1 (by decide)) (nc 4 b hb), no (nn 3 1 (by decide)) (nc 3 b hb), no (Ne.symm (n0 1 (by decide))) (nc 0 b hb), no (n0 1 (by decide)) (nc 1 a ha)⟩
/-- the second source: a list (true) or a tuple -/
def SqB (K : PySem.W.Frag) (H : Hp) (b : Addr) (ys : List V) : Bool → Prop
  | true => SqL K H b ys
  | false => SqT K H b ys
def itB (h : Heap) (i2 b : Addr) (i : Nat) : Bool → Prop
  | true => h.IsListIter i2 b i
  | false => h.IsTupleIter i2 b i
theorem turn_zipB {P : Program} {w : World} {K : PySem.W.Frag} {elts : List Expr} {kk : Nat} {tpos : Pos} (a b n : Nat) (hna : a < n) (hnb : b < n) (xs ys : List V) (hl : xs.length = ys.length) (k2 : Bool) :
    Turn P w K (.Tuple elts kk tpos) (ItP xs.length (fun H => SqT K H a xs ∧ SqB K H b ys k2) (ypZ xs ys)) [n + 4, n + 2, n + 3, n, n + 1] (n + 4)
      (fun i h => IsZip h (n + 4) (n + 2) (n + 3) .none ∧ IsTupOf2 h (n + 2) (.ref n) (.ref (n + 1)) ∧ (∃ x y, IsTupOf2 h (n + 3) x y) ∧ h.IsTupleIter n a i ∧ itB h (n + 1) b i k2) := by
  refine turn_pairs [n + 4, n + 2, n + 3, n, n + 1] (n + 4) _ (by simp) (fun i h st c hcm => ?_) (fun i h h' st k => ?_) ?_ (fun A i s Q E st h => wpAny_pyIter_zip st.1 h)
  · obtain ⟨hz, hTI, ⟨x, y, hTO⟩, ⟨o1, e1, _, d1⟩, h2⟩ := st
    have e' : c = n + 4 ∨ c = n + 2 ∨ c = n + 3 ∨ c = n ∨ c = n + 1 := by simpa using hcm
    rcases e' with q | q | q | q | q
    · rw [q]; exact ⟨_, hz, fun v q => nomatch q⟩
    · rw [q]; exact ⟨_, hTI, fun v q => nomatch q⟩
    · rw [q]; exact ⟨_, hTO, fun v q => nomatch q⟩
    · rw [q]; exact ⟨o1, e1, fun v q => by rw [d1] at q; cases q⟩
    · rw [q]
      cases k2 with
      | true => obtain ⟨o2, e2, _, d2⟩ := h2; exact ⟨o2, e2, fun v q => by rw [d2] at q; cases q⟩
      | false => obtain ⟨o2, e2, _, d2⟩ := h2; exact ⟨o2, e2, fun v q => by rw [d2] at q; cases q⟩
  · obtain ⟨hz, hTI, ⟨x, y, hTO⟩, ⟨o1, e1, c1, d1⟩, h2⟩ := st
    refine ⟨k _ (by simp) _ hz, k _ (by simp) _ hTI, ⟨x, y, k _ (by simp) _ hTO⟩, ⟨o1, k _ (by simp) _ e1, c1, d1⟩, ?_⟩
    cases k2 with
    | true => obtain ⟨o2, e2, c2, d2⟩ := h2; exact ⟨o2, k _ (by simp) _ e2, c2, d2⟩
    | false => obtain ⟨o2, e2, c2, d2⟩ := h2; exact ⟨o2, k _ (by simp) _ e2, c2, d2⟩
  · intro X hP hw hK hc i pins s σ H I g st hi
    subst hP hw hK
    obtain ⟨hz, hTI, ⟨x0, y0, hTO⟩, h1, h2⟩ := st
    obtain ⟨its, rv, ht, _⟩ := I.tuple g.1
    have hh : X.A.in1.handled = none := I.ok.hd hc
    have l1 : its.toArray.size = xs.length := by rw [List.size_toArray, rv.length]
    have ne1 : a ≠ n := Nat.ne_of_lt hna
    have ne2 : b ≠ n + 1 := Nat.ne_of_lt (Nat.lt_succ_of_lt hnb)
    have D1 := Draws.tuple (prog := X.prog) (w := X.w) (A := X.A.in1) hh n a ne1 its.toArray
    have fin : ∀ (its2 : List Value), Vals ys its2 → ∀ {T u u2 : Value} {h' : Heap} {Ta : Addr}, T = .ref Ta → s.heap.objs.size ≤ Ta → i < xs.length → its.toArray[i]? = some u → its2.toArray[i]? = some u2 → h'.IsTuple Ta #[u, u2] →
        ∃ T' u1 u2' x y, T = .ref T' ∧ s.heap.objs.size ≤ T' ∧ h'.IsTuple T' #[u1, u2'] ∧ RelV x u1 ∧ RelV y u2' ∧ ypZ xs ys i H x y := by
      intro its2 rv2 T u u2 h' Ta eT hT hi' hu hu2 hTT
      have hu' : its[i]? = some u := by simpa using hu
      have hu2' : its2[i]? = some u2 := by simpa using hu2
      obtain ⟨x, hx⟩ : ∃ x, xs[i]? = some x := ⟨xs[i], List.getElem?_eq_getElem hi'⟩
      obtain ⟨y, hy⟩ : ∃ y, ys[i]? = some y := ⟨ys[i]'(hl ▸ hi'), List.getElem?_eq_getElem (hl ▸ hi')⟩
      obtain ⟨v1, q1, r1⟩ := rv.get hx
      obtain ⟨v2, q2, r2⟩ := rv2.get hy
      rw [hu'] at q1
      rw [hu2'] at q2
      cases q1
      cases q2
      exact ⟨Ta, u, u2, x, y, eT, hT, hTT, r1, r2, hx, hy⟩
    cases k2 with
    | true =>
      obtain ⟨its2, rv2, ht2, _⟩ := I.list g.2
      have l2 : its2.toArray.size = xs.length := by rw [List.size_toArray, ← rv2.length, hl]
      have W := GoesN.zip2 (elts := elts) (x1 := kk) (pos := tpos) (sep5 n a b hna hnb) D1 (Draws.list (prog := X.prog) (w := X.w) (A := X.A.in1) hh (n + 1) b ne2 its2.toArray)
      rw [l1, l2, Nat.min_self] at W
      refine ⟨_, _, _, _, W, ⟨hz, hTI, ⟨x0, y0, hTO⟩, ⟨h1, ht⟩, h2, ht2.isList⟩, fun c hcm => ?_, fun j h hs => ⟨hs.1, hs.2.1, hs.2.2.1, hs.2.2.2.1.1, hs.2.2.2.2.1⟩, fun v h' hi' hY => ?_⟩
      · have e' : c = n + 4 ∨ c = n + 3 ∨ c = n ∨ c = n + 1 := by simpa using hcm
        rcases e' with q | q | q | q <;> rw [q] <;> simp
      · obtain ⟨T, u, u2, ev, hT, hu, hu2, hTT⟩ := hY
        exact fin its2 rv2 ev hT hi' hu hu2 hTT
    | false =>
      obtain ⟨its2, rv2, ht2, _⟩ := I.tuple g.2
      have l2 : its2.toArray.size = xs.length := by rw [List.size_toArray, ← rv2.length, hl]
      have W := GoesN.zip2 (elts := elts) (x1 := kk) (pos := tpos) (sep5 n a b hna hnb) D1 (Draws.tuple (prog := X.prog) (w := X.w) (A := X.A.in1) hh (n + 1) b ne2 its2.toArray)
      rw [l1, l2, Nat.min_self] at W
      refine ⟨_, _, _, _, W, ⟨hz, hTI, ⟨x0, y0, hTO⟩, ⟨h1, ht⟩, h2, ht2⟩, fun c hcm => ?_, fun j h hs => ⟨hs.1, hs.2.1, hs.2.2.1, hs.2.2.2.1.1, hs.2.2.2.2.1⟩, fun v h' hi' hY => ?_⟩
      · have e' : c = n + 4 ∨ c = n + 3 ∨ c = n ∨ c = n + 1 := by simpa using hcm
        rcases e' with q | q | q | q <;> rw [q] <;> simp
      · obtain ⟨T, u, u2, ev, hT, hu, hu2, hTT⟩ := hY
        exact fin its2 rv2 ev hT hi' hu hu2 hTT
def iZipB (K : PySem.W.Frag) (k2 : Bool) (ta : TA) : TI := fun σ H R => ta σ H fun vs H1 => ∃ a b xs ys, vs = [V.ref a, V.ref b] ∧ SqT K H1 a xs ∧ SqB K H1 b ys k2 ∧ xs.length = ys.length ∧
  R (ItP xs.length (fun H => SqT K H a xs ∧ SqB K H b ys k2) (ypZ xs ys)) H1
theorem pi_zipB {X : Cx} {e e2 : Expr} {ta : TA} {p pos tpos : Pos} {elts : List Expr} {kk : Nat} (k2 : Bool) (hg : Gl X "zip") (hm : X.mg "zip" = none) (ha : PA X [e, e2] ta)
    (hs : starEach [e, e2] X.env = (false, eval e X.env) :: starEach [e2] X.env := by rfl) (hpl : (backTo pos (starEach [e2] X.env)).any (·.1) = false := by rfl) :
    PI X (.Tuple elts kk tpos) (.Call (.Name "zip" p) [e, e2] [] pos) (iZipB X.K k2 ta) := by
  refine ⟨fun pins s σ H R I h => ?_⟩
  refine Call_ (ld_blt I hg hm PyProof.Rows.boot_zip (PyProof.Rows.callWith_type1 (thn (ha.run pos pins s σ H _ I h) fun us s1 ⟨vs, H1, I1, r1, q1⟩ => ?_) hs hpl))
  obtain ⟨a, b, xs, ys, ex, hqx, hqy, hl, q⟩ := q1
  subst ex
  obtain ⟨u1, u2, rfl, r1, r2⟩ := vals2 r1
  obtain rfl : u1 = Value.ref a := r1
  obtain rfl : u2 = Value.ref b := r2
  have fresh5 : ∀ c, c ∈ [s1.heap.objs.size + 4, s1.heap.objs.size + 2, s1.heap.objs.size + 3, s1.heap.objs.size, s1.heap.objs.size + 1] → FpOk X pins H1 c := fun c hcm => by
    have e' : c = s1.heap.objs.size + 4 ∨ c = s1.heap.objs.size + 2 ∨ c = s1.heap.objs.size + 3 ∨ c = s1.heap.objs.size ∨ c = s1.heap.objs.size + 1 := by simpa using hcm
    have hle : s1.heap.objs.size ≤ c := by
      rcases e' with z | z | z | z | z <;> rw [z] <;> first | exact Nat.le_refl _ | exact Nat.le_add_right _ _
    exact I1.fpOk hle (I1.hok.fresh hle)
  obtain ⟨its, rv, p1, _⟩ := I1.tuple hqx
  have hla : a < s1.heap.objs.size := by
    obtain ⟨o, ho, _⟩ := id p1
    exact Heap.lt_size ho
  cases k2 with
  | true =>
    obtain ⟨its2, rv2, p2, _⟩ := I1.list hqy
    have hlb : b < s1.heap.objs.size := p2.lt
    refine zip_begins2 (begins_tuple a its.toArray) (begins_list b its2.toArray) p1 p2.isList fun h' hz hTI hTO h1 h2 hsz hk => wpAny_pyIter_zip hz ?_
    have I2 : Inv X pins σ H1 { s1 with heap := h' } := I1.kept (t' := s1.toks) hk
    exact ⟨s1.heap.objs.size + 4, [s1.heap.objs.size + 4, s1.heap.objs.size + 2, s1.heap.objs.size + 3, s1.heap.objs.size, s1.heap.objs.size + 1], _, _, H1, rfl, I2, turn_zipB a b s1.heap.objs.size hla hlb xs ys hl true, ⟨hz, hTI, ⟨_, _, hTO⟩, ⟨_, h1, rfl, rfl⟩, ⟨_, h2, rfl, rfl⟩⟩, fresh5, q⟩
  | false =>
    obtain ⟨its2, rv2, p2, _⟩ := I1.tuple hqy
    have hlb : b < s1.heap.objs.size := by
      obtain ⟨o, ho, _⟩ := id p2
      exact Heap.lt_size ho
    refine zip_begins2 (begins_tuple a its.toArray) (begins_tuple b its2.toArray) p1 p2 fun h' hz hTI hTO h1 h2 hsz hk => wpAny_pyIter_zip hz ?_
    have I2 : Inv X pins σ H1 { s1 with heap := h' } := I1.kept (t' := s1.toks) hk
    exact ⟨s1.heap.objs.size + 4, [s1.heap.objs.size + 4, s1.heap.objs.size + 2, s1.heap.objs.size + 3, s1.heap.objs.size, s1.heap.objs.size + 1], _, _, H1, rfl, I2, turn_zipB a b s1.heap.objs.size hla hlb xs ys hl false, ⟨hz, hTI, ⟨_, _, hTO⟩, ⟨_, h1, rfl, rfl⟩, ⟨_, h2, rfl, rfl⟩⟩, fresh5, q⟩
end Pk
/-! Parkback: rules that the hand layer lacks, part D: items of a dict with tuple keys, its display, a tuple times 1. -/
namespace Pk
open PySem PySem.Spec PyProof.Rows L2

def ypI (kvs : List (List Key × V)) : Nat → Hp → V → V → Prop := fun i H x y => ∃ k q, kvs[i]? = some (k, y) ∧ x = V.ref q ∧ H q = some (.tup (k.map kV))
theorem frzT2 {X : Cx} {pins : List (Addr × Obj)} {σ : L2.St} {H : Hp} {s : Shared} {d : Addr} {o : Obj} {kvs : List (List Key × V)} (I : Inv X pins σ H s) (h : H d = some (.frz o (.dT kvs))) :
    (d == sysModules) = false ∧ s.heap.get? d = some o ∧ o.ExactDict ∧ ∃ (es : Array DictEntry) (ep : Nat), o.data = .dict es ep ∧ es.size = kvs.length ∧
      ∀ (i : Nat) (k : List Key) (v : V), kvs[i]? = some (k, v) → ∃ (en : DictEntry) (q : Addr), es[i]? = some en ∧ en.key = .ref q ∧ H q = some (.tup (k.map kV)) ∧ RelV v en.val := by
  obtain ⟨hd, z, hs, xs, pr, o', es, ep, ho, hx, hdt, he, _⟩ := I.hok d _ h
  rw [hd] at ho
  cases ho
  refine ⟨hs, hd, hx, es, ep, hdt, ?_, fun i k v e => ?_⟩
  · have l1 : es.size = xs.length := size_of_entries he
    have l2 : kvs.length = xs.length := Paired.length pr
    omega
  · obtain ⟨b, hb, e1, e2, e3⟩ := paired_get pr e
    have q := entry_at he i
    rw [hb] at q
    exact ⟨_, b.2.1, q, rfl, e2, e3⟩
theorem turn_itemsT {P : Program} {w : World} {K : PySem.W.Frag} {elts : List Expr} {kk : Nat} {tpos : Pos} {d : Addr} {o : Obj} {es : Array DictEntry} {ep : Nat} (it : Addr) (kvs : List (List Key × V)) (n : Nat) (hod : o.data = .dict es ep) (hn : n = es.size) (hk : n = kvs.length) :
    Turn P w K (.Tuple elts kk tpos) (ItP n (fun H => H d = some (.frz o (.dT kvs))) (ypI kvs)) [it] it (fun i h => (∃ ok ov, IsItemIter h it d i es.size ep ok ov) ∧ d ≠ it) := by
  refine turn_pairs [it] it _ (by simp) (fun i h st b hb => ?_) (fun i h h' st k => ?_) ?_ (fun A i s Q E st h => ?_)
  · obtain ⟨⟨ok, ov, e⟩, _⟩ := st
    have z : b = it := by simpa using hb
    rw [z]
    exact ⟨_, e, fun v q => nomatch q⟩
  · obtain ⟨⟨ok, ov, e⟩, ne⟩ := st
    exact ⟨⟨ok, ov, k it (by simp) _ e⟩, ne⟩
  · intro X hP hw hK hc i pins s σ H I g st hi
    subst hP hw hK
    obtain ⟨hit, ne⟩ := st
    obtain ⟨hs, hgd, hx, es', ep', hdt, hsz, hen⟩ := frzT2 I g
    obtain ⟨rfl, rfl⟩ := dict_ep hod hdt
    have W := GoesN.rawItems (prog := X.prog) (w := X.w) (A := X.A) (elts := elts) (x1 := kk) (pos := tpos) (I.ok.hd hc) it d ne es' ep'
    subst hn
    refine ⟨_, _, _, _, W, ⟨hit, ⟨o, hgd, hx, hod⟩⟩, fun b hb => hb, fun j h hs => ⟨hs.1, ne⟩, fun v h' hi' hY => ?_⟩
    obtain ⟨T, hj, ev, hT, hTT⟩ := hY
    obtain ⟨⟨k, y⟩, hky⟩ : ∃ p, kvs[i]? = some p := ⟨kvs[i]'(by omega), List.getElem?_eq_getElem (by omega)⟩
    obtain ⟨en, q, h1, h2, h3, h4⟩ := hen i k y hky
    have h1' : es'[i]'(by omega) = en := by
      have := Array.getElem?_eq_getElem (xs := es') (i := i) (by omega)
      rw [this] at h1
      exact Option.some.inj h1
    refine ⟨T, _, _, .ref q, y, ev, hT, hTT, ?_, ?_, k, q, hky, rfl, h3⟩
    · rw [h1']
      exact h2
    · rw [h1']
      exact h4
  · obtain ⟨⟨ok, ov, e⟩, _⟩ := st
    exact PySem.W.kcp_self e h
def iItemsT (td : TE) : TI := fun σ H R => td σ H fun x H1 => ∃ d o kvs, x = V.ref d ∧ H1 d = some (.frz o (.dT kvs)) ∧ R (ItP kvs.length (fun H => H d = some (.frz o (.dT kvs))) (ypI kvs)) H1
theorem pi_itemsT {X : Cx} {e : Expr} {td : TE} {apos cpos tpos : Pos} {elts : List Expr} {kk : Nat} (he : PE X e td) (hbase : attributeBase e "items" X.env (eval e X.env) = eval e X.env := by rfl) (hline : (apos.endLine == cpos.line) = true := by rfl) :
    PI X (.Tuple elts kk tpos) (.Call (.Attribute e "items" apos) [] [] cpos) (iItemsT td) := by
  refine ⟨fun pins s σ H R I h => ?_⟩
  refine wpAny_Call_method (T := "dict") (id := "dict.items") hbase rfl hline F.plainAttrs_dict F.slot_dict_items F.type_dict_items (thn (he.run pins s σ H _ I h) fun u s1 ⟨x, H1, I1, rx, d, o, kvs, ex, hd, q⟩ => ?_)
  subst ex
  obtain rfl : u = Value.ref d := rx
  obtain ⟨ty, nd, hs⟩ := isD_at I1 (.inr ⟨kvs, .inr ⟨o, hd⟩⟩)
  obtain ⟨_, hgd, hx, es, ep, hdt, hsz, _⟩ := frzT2 I1 hd
  refine ⟨ty, nd, ?_⟩
  have raw : s1.heap.DictRaw d es ep := ⟨o, hgd, hx, hdt⟩
  have I2 : Inv X pins σ H1 { s1 with heap := s1.heap.push { cls := .type "dict_items", data := .fields #[.ref d] } } := I1.kept (t' := s1.toks) fun b ob q => Heap.get?_push_of_some _ q
  have hlt : d < s1.heap.objs.size := Heap.lt_size hgd
  have fin : wpAny (model X.prog X.w) X.A (pyIter (.ref s1.heap.objs.size)) (PIE X pins σ (.Tuple elts kk tpos) R) X.xe { s1 with heap := s1.heap.push { cls := .type "dict_items", data := .fields #[.ref d] } } := by
    refine wpAny_pyIter_items_raw (d := d) ⟨_, Heap.get?_push_size _ rfl, rfl, rfl⟩ (raw.at fun ob q => Heap.get?_push_of_some _ q) (pi_one (tk := s1.toks) I2 _ (turn_itemsT _ kvs kvs.length hdt hsz.symm rfl) ⟨⟨.none, .none, Heap.get?_push_size _ rfl⟩, ?_⟩ q)
    rw [Heap.size_push]
    exact Nat.ne_of_lt (Nat.lt_succ_of_lt hlt)
  show wpAny _ _ (callWith cpos (.builtin "dict.items") [.ref d] [] []) _ X.xe s1
  exact method_meetsIn F.slot_dict_items F.entry_dict_items rfl (PySem.evalArgs_none ⟨rfl, ty, F.args_dict_items_1 _, _, meets_dict_items_raw d hs, ⟨es, ep, raw⟩, fin⟩)

/-! ### {k: v}, k a tuple -/
def tDispT (tk tv : TE) : TE := fun σ H Q => ∀ p, H p = none → tk σ (upd H p (.dT [])) fun x H1 => tv σ H1 fun y H2 => H2 p = some (.dT []) ∧ ∃ b k, x = V.ref b ∧ H2 b = some (.tup (k.map kV)) ∧ Q (.ref p) (upd H2 p (.dT [(k, y)]))
theorem pe_dispT {X : Cx} {pos : Pos} {ke ve : Expr} {tk tv : TE} (hu : X.A.units < cLine) (hk : PE X ke tk) (hv : PE X ve tv) : PE X (.Dict [some ke] [ve] pos) (tDispT tk tv) := by
  refine ⟨fun pins s σ H Q I q => ?_⟩
  have hn := I.hok.fresh (Nat.le_refl s.heap.objs.size)
  have I1 := I.laid (a := s.heap.objs.size) (o := .dT []) (h' := s.heap.push { cls := .type "dict", data := .dict #[] }) (t' := s.toks) (fun _ _ q => Heap.get?_push_of_some _ q) (Nat.le_refl _) (dt_empty s.heap I.big)
  have q1 := q _ hn
  rw [arm_eval_Dict]
  have hshape := zip_pairTrees [some ke] [ve] X.env pos rfl rfl
  have hlen := pairTrees_length [some ke] [ve] X.env pos rfl rfl
  have h0 : pairTrees [some ke] [ve] X.env pos ≠ [] := by
    intro z
    rw [z] at hlen
    cases hlen
  rw [hshape, dictDisplay_pairs _ h0 (by rw [hlen]; show 1 < 17; decide)]
  refine wpAny_bind (wpAny_standAt (wpAny_bind (wpAny_subDictH (knd := tupleKind (mixKind X.prog X.w)) (Q := fun d s' => wpAny (model X.prog X.w) X.A (pure (Value.ref d)) (EP X pins σ Q) X.xe s') hu (by rw [hlen]; show 1 ≤ 15; decide) ?_)))
  refine pairTrees_cons_walk (thn (hk.run pins _ σ _ _ I1 q1) fun u s1 ⟨x, H1, I2, rx, q2⟩ => thn (hv.run pins s1 σ H1 _ I2 q2) fun u2 s2 ⟨y, H2, I3, ry, e, b, k, ex, eb, q3⟩ => ?_)
  subst ex
  obtain rfl : u = Value.ref b := rx
  refine pairTrees_nil_walk ⟨[(k, b, u2)], ⟨rfl, rfl, key_of I3.hok eb, True.intro⟩, ?_, fun h' tk hm hs => ?_⟩
  · obtain ⟨_, _, xs, pr, dd⟩ := dt_of I3.hok e
    cases pr
    exact dd
  · have hd := (dt_of I3.hok e).2.1
    obtain ⟨o, es, ep, ho, hx, hdt, he, _, hnd⟩ := hm
    have I4 : Inv X pins σ (upd H2 s.heap.objs.size (.dT [(k, y)])) { s2 with heap := h', toks := tk } := by
      refine d_write I3 (by rw [e]; exact True.intro) hs ⟨o, ho⟩ ⟨by show 1 ≤ sizeLine; decide, hd, [(k, b, u2)], .cons ⟨rfl, ?_, ry⟩ .nil, o, es, ep, ho, hx, hdt, he, hnd⟩
      show upd H2 s.heap.objs.size (.dT [(k, y)]) b = _
      rw [upd_ne (ne_of eb e (fun z => nomatch z))]
      exact eb
    exact wpAny_pure ⟨.ref s.heap.objs.size, _, I4, rfl, q3⟩

/-! ### a tuple times 1 is itself -/
theorem tuple_mul1 (l : Addr) (items : Array Value) (n : Nat) (dd : Option Addr) (sl : Array (Option Value)) (u : Tok) :
    Meets (Builtin.«tuple.__mul__» ⟨[.ref l, .int 1 u], []⟩) (fun _ R s => s.heap.get? l = some { cls := .type "tuple", dict := dd, data := .seq items n, slots := sl } ∧ R (.ok (.ret (Value.ref l))) s) :=
  .of_wp fun prog w A R s h => by
    obtain ⟨hp, g, d, tk, os⟩ := s
    obtain ⟨hl, h⟩ := h
    have f1 := AutoSeq1.idx_int
    wp_walk using AutoSeq1.wpAny_loadPart' hl
    exact ⟨_, rfl, h⟩
/-- a tuple times a positive number -/
def rMulT (K : PySem.W.Frag) : R2 := fun x y H Q => ∃ l k xs, x = V.ref l ∧ y = .int k ∧ SqT K H l xs ∧ xs ≠ [] ∧ 1 ≤ k ∧ k ≤ 1000 ∧ xs.length ≤ 1000 ∧ ∀ p H', Same H H' → SqT K H' p (List.replicate k.toNat xs).flatten → Q (.ref p) H'
theorem op_mulT {X : Cx} : OpR X (binaryOp .Mult) (rMulT X.K) := by
  intro pins s σ H x y v u Q I rx ry h
  obtain ⟨l, k, xs, ex, ey, hT, hne, h1, h2, hz, q⟩ := h
  by_cases hk : k = 1
  · subst ex ey hk
    cases rx
    obtain ⟨t, rfl⟩ := ry
    obtain ⟨its, r, ⟨⟨cls, dd, data, sl⟩, ho, hc, n, hd⟩, hs⟩ := I.tuple hT
    simp only at hc hd
    subst hc hd
    refine wpAny_binaryOp_repeat_ref (T := "tuple") (U := "int") (by decide) ⟨_, ho, rfl⟩ (fun s' => typeIs_int s' 1 t) noFill_tuple_mul F.fills_int_mul F.slot_int_rmul repeat_tuple F.slot_int_index.lookup
      (call_meets F.slot_int_rmul (typeIs_int s 1 t) F.entry_int_rmul (F.args_int_rmul_2 _ _) (int_rmul_tuple 1 t l its.toArray n dd sl)
        ⟨ho, rfl, ⟨_, ho, rfl⟩, call_meets F.slot_tuple_mul ⟨_, ho, rfl⟩ F.entry_tuple_mul (F.args_tuple_mul_2 _ _) (tuple_mul1 l its.toArray n dd sl t) ⟨ho, ?_⟩⟩)
    exact ⟨.ref l, H, I, rfl, q l H (Same.refl H) (by simpa using hT)⟩
  · exact op_repT pins s σ H x y v u Q I rx ry ⟨l, k, xs, ex, ey, hT, hne, by omega, h2, hz, fun p hp => q p _ (same_new hp) (SqT.of upd_same)⟩
end Pk
/-! Parkback, the mathematics, part A: places that fill up, rests that can come. Plain Lean. -/
namespace Pk

/-! ### lists -/
theorem perm_lift {α β : Type} {f : α → β} {l m : List β} (h : l.Perm m) : ∀ {l0 : List α}, l0.map f = m → ∃ l' : List α, l'.Perm l0 ∧ l'.map f = l := by
  induction h with
  | nil =>
    intro l0 e
    exact ⟨l0, .refl _, e⟩
  | cons x p ih =>
    intro l0 e
    cases l0 with
    | nil => cases e
    | cons a t =>
      rw [List.map_cons] at e
      injection e with e1 e2
      obtain ⟨l', h1, h2⟩ := ih e2
      exact ⟨a :: l', h1.cons a, by rw [List.map_cons, h2, e1]⟩
  | swap x y l =>
    intro l0 e
    cases l0 with
    | nil => cases e
    | cons a t =>
      cases t with
      | nil => cases e
      | cons b t =>
        rw [List.map_cons, List.map_cons] at e
        injection e with e1 e2
        injection e2 with e2 e3
        exact ⟨b :: a :: t, .swap _ _ _, by rw [List.map_cons, List.map_cons, e1, e2, e3]⟩
  | trans p q ih1 ih2 =>
    intro l0 e
    obtain ⟨l2, h1, h2⟩ := ih2 e
    obtain ⟨l1, h3, h4⟩ := ih1 h2
    exact ⟨l1, h3.trans h1, h4⟩
theorem perm_sum {l m : List Int} (h : l.Perm m) : l.sum = m.sum := by
  induction h with
  | nil => rfl
  | cons x p ih => rw [List.sum_cons, List.sum_cons, ih]
  | swap x y l =>
    simp only [List.sum_cons]
    omega
  | trans p q ih1 ih2 => exact ih1.trans ih2
theorem sub_len {α : Type} [DecidableEq α] : ∀ {l m : List α}, l.Nodup → (∀ x ∈ l, x ∈ m) → l.length ≤ m.length
  | [], m, _, _ => Nat.zero_le _
  | a :: l, m, hn, hs => by
    obtain ⟨h1, h2⟩ := List.nodup_cons.mp hn
    have ha : a ∈ m := hs a List.mem_cons_self
    have ih := sub_len (l := l) (m := m.erase a) h2 fun x hx => by
      have ne : x ≠ a := fun e => h1 (e ▸ hx)
      exact (List.mem_erase_of_ne ne).mpr (hs x (List.mem_cons_of_mem _ hx))
    have := (List.perm_cons_erase ha).length_eq
    rw [List.length_cons] at this ⊢
    omega
theorem perm_of_sub {α : Type} [DecidableEq α] : ∀ {l m : List α}, l.Nodup → (∀ x ∈ l, x ∈ m) → m.length ≤ l.length → l.Perm m
  | [], m, _, _, h => by
    have : m = [] := List.length_eq_zero_iff.mp (Nat.le_zero.mp h)
    rw [this]
  | a :: l, m, hn, hs, h => by
    obtain ⟨h1, h2⟩ := List.nodup_cons.mp hn
    have ha : a ∈ m := hs a List.mem_cons_self
    have pe := List.perm_cons_erase ha
    have hl := pe.length_eq
    rw [List.length_cons] at hl h
    have ih := perm_of_sub (l := l) (m := m.erase a) h2 (fun x hx => by
      have ne : x ≠ a := fun e => h1 (e ▸ hx)
      exact (List.mem_erase_of_ne ne).mpr (hs x (List.mem_cons_of_mem _ hx))) (by omega)
    exact (ih.cons a).trans pe.symm

/-! ### sorting -/
def srt (l : List Int) : List Int := l.mergeSort fun a b => decide (a ≤ b)
theorem srt_perm (l : List Int) : (srt l).Perm l := List.mergeSort_perm _ _
theorem srt_up (l : List Int) : (srt l).Pairwise (· ≤ ·) := by
  have h := List.pairwise_mergeSort (le := fun a b : Int => decide (a ≤ b)) (fun a b c h1 h2 => decide_eq_true (Int.le_trans (of_decide_eq_true h1) (of_decide_eq_true h2)))
    (fun a b => by
      rcases Int.le_total a b with h | h
      · rw [decide_eq_true h]; rfl
      · rw [decide_eq_true h, Bool.or_true]) l
  exact h.imp fun h => of_decide_eq_true h
theorem srt_uniq {l m : List Int} (hp : m.Perm l) (hs : m.Pairwise (· ≤ ·)) : m = srt l :=
  List.Perm.eq_of_pairwise (le := (· ≤ ·)) (fun _ _ _ _ h1 h2 => Int.le_antisymm h1 h2) hs (srt_up l) (hp.trans (srt_perm l).symm)
theorem srt_mem {l : List Int} {x : Int} : x ∈ srt l ↔ x ∈ l := (srt_perm l).mem_iff
theorem srt_len (l : List Int) : (srt l).length = l.length := (srt_perm l).length_eq

/-! ### the first free place -/
structure IsFF (f : List Int) (h x : Int) : Prop where
  le : h ≤ x
  free : x ∉ f
  full : ∀ q, h ≤ q → q < x → q ∈ f
theorem IsFF.uniq {f : List Int} {h x y : Int} (a : IsFF f h x) (b : IsFF f h y) : x = y := by
  rcases Int.lt_trichotomy x y with e | e | e
  · exact absurd (b.full x a.le e) a.free
  · exact e
  · exact absurd (a.full y b.le e) b.free
def above (f : List Int) (p : Int) : Nat := (f.filter fun q => decide (p ≤ q)).length
theorem above_lt {p : Int} : ∀ {f : List Int}, p ∈ f → above f (p + 1) < above f p
  | [], h => by cases h
  | a :: f, h => by
    have le : above f (p + 1) ≤ above f p := by
      unfold above
      rw [← List.countP_eq_length_filter, ← List.countP_eq_length_filter]
      exact List.countP_mono_left fun x _ hx => decide_eq_true (by have := of_decide_eq_true hx; omega)
    unfold above at *
    rw [List.filter_cons, List.filter_cons]
    rcases List.mem_cons.mp h with e | h
    · subst e
      rw [if_neg (by simp; omega), if_pos (by simp)]
      rw [List.length_cons]
      omega
    · have ih := above_lt h
      unfold above at ih
      by_cases c : p + 1 ≤ a
      · rw [if_pos (by simpa using c), if_pos (by simp; omega)]
        rw [List.length_cons, List.length_cons]
        omega
      · rw [if_neg (by simpa using c)]
        by_cases c2 : p ≤ a
        · rw [if_pos (by simpa using c2), List.length_cons]
          omega
        · rw [if_neg (by simpa using c2)]
          exact ih
def ffN : Nat → List Int → Int → Int
  | 0, _, p => p
  | k + 1, f, p => if p ∈ f then ffN k f (p + 1) else p
theorem ffN_is (f : List Int) : ∀ (k : Nat) (p : Int), above f p ≤ k → IsFF f p (ffN k f p)
  | 0, p, h => by
    refine ⟨Int.le_refl _, fun m => ?_, fun q h1 h2 => ?_⟩
    · have m : p ∈ f := m
      have := above_lt m
      omega
    · have h2 : q < p := h2
      omega
  | k + 1, p, h => by
    unfold ffN
    by_cases c : p ∈ f
    · rw [if_pos c]
      have ih := ffN_is f k (p + 1) (by have := above_lt c; omega)
      refine ⟨by have := ih.le; omega, ih.free, fun q h1 h2 => ?_⟩
      by_cases e : q = p
      · rw [e]; exact c
      · exact ih.full q (by omega) h2
    · rw [if_neg c]
      exact ⟨Int.le_refl _, c, fun q h1 h2 => absurd h2 (by omega)⟩
def ff (f : List Int) (h : Int) : Int := ffN (above f h) f h
theorem ff_is (f : List Int) (h : Int) : IsFF f h (ff f h) := ffN_is f _ h (Nat.le_refl _)

/-! ### the places that fill up -/
def fill : List Int → List Int → List Int
  | [], f => f
  | h :: r, f => fill r (f ++ [ff f h])
theorem fill_snoc : ∀ (l : List Int) (h : Int) (f : List Int), fill (l ++ [h]) f = fill l f ++ [ff (fill l f) h]
  | [], _, _ => rfl
  | a :: l, h, f => fill_snoc l h (f ++ [ff f a])
theorem fill_len : ∀ (l f : List Int), (fill l f).length = l.length + f.length
  | [], f => (Nat.zero_add _).symm
  | a :: l, f => by
    show (fill l (f ++ [ff f a])).length = _
    rw [fill_len l, List.length_append, List.length_cons, List.length_cons, List.length_nil]
    omega
theorem nd_snoc {l : List Int} {x : Int} (h : l.Nodup) (hx : x ∉ l) : (l ++ [x]).Nodup := by
  refine List.nodup_append.mpr ⟨h, by simp, fun a ha b hb e => ?_⟩
  have : b = x := by simpa using hb
  exact hx (this ▸ e ▸ ha)
theorem fill_nd : ∀ (l f : List Int), f.Nodup → (fill l f).Nodup
  | [], _, h => h
  | a :: l, f, h => fill_nd l _ (nd_snoc h (ff_is f a).free)
def taken (hs : List Int) : List Int := srt (fill (srt hs) [])
theorem taken_len (hs : List Int) : (taken hs).length = hs.length := by
  unfold taken
  rw [srt_len, fill_len, srt_len, List.length_nil, Nat.add_zero]
theorem taken_nd (hs : List Int) : (taken hs).Nodup := (srt_perm _).nodup_iff.mpr (fill_nd _ _ List.nodup_nil)
theorem taken_up (hs : List Int) : (taken hs).Pairwise (· < ·) := by
  have h1 : (taken hs).Pairwise (· ≤ ·) := srt_up _
  exact (h1.and (taken_nd hs)).imp fun ⟨a, b⟩ => by omega

/-! ### each car has a place of these, not beyond its own -/
abbrev Tr := Int × Int × Int
def Tr.hf (t : Tr) : Int × Int := (t.1, t.2.1)
def Tr.far (t : Tr) : Int := t.2.1
def Tr.at_ (t : Tr) : Int := t.2.2
def Valid (d : List Tr) : Prop := ∀ t ∈ d, t.1 ≤ t.2.2 ∧ t.2.2 ≤ t.2.1
theorem augment : ∀ (n : Nat) (done : List Tr) (found : List Int) (h f x : Int), (x - f).toNat ≤ n → Valid done → (done.map Tr.at_).Perm found → (f :: done.map Tr.far).Nodup → h ≤ f → h ≤ x →
    (∀ q, f ≤ q → q < x → q ∈ found) → ∃ d : List Tr, (d.map Tr.hf).Perm ((h, f) :: done.map Tr.hf) ∧ (d.map Tr.at_).Perm (x :: found) ∧ Valid d := by
  intro n
  induction n with
  | zero =>
    intro done found h f x hn hv hp hd hf hx hq
    refine ⟨(h, f, x) :: done, .refl _, hp.cons x, fun t ht => ?_⟩
    rcases List.mem_cons.mp ht with e | ht
    · subst e
      exact ⟨hx, by show x ≤ f; omega⟩
    · exact hv t ht
  | succ n ih =>
    intro done found h f x hn hv hp hd hf hx hq
    by_cases c : x ≤ f
    · refine ⟨(h, f, x) :: done, .refl _, hp.cons x, fun t ht => ?_⟩
      rcases List.mem_cons.mp ht with e | ht
      · subst e
        exact ⟨hx, c⟩
      · exact hv t ht
    · have hm : f ∈ done.map Tr.at_ := hp.mem_iff.mpr (hq f (Int.le_refl _) (by omega))
      obtain ⟨t, ht, et⟩ := List.mem_map.mp hm
      have pe := List.perm_cons_erase ht
      obtain ⟨h2, f2, r2⟩ := t
      have er : r2 = f := et
      subst er
      obtain ⟨v1, v2⟩ := hv _ ht
      have v1 : h2 ≤ r2 := v1
      have v2 : r2 ≤ f2 := v2
      have hd' : (r2 :: (((h2, f2, r2) :: done.erase (h2, f2, r2)).map Tr.far)).Nodup := ((pe.map Tr.far).cons r2).nodup_iff.mp hd
      rw [List.map_cons] at hd'
      have hd2 : (f2 :: r2 :: ((done.erase (h2, f2, r2)).map Tr.far)).Nodup := (List.Perm.swap _ _ _).nodup_iff.mp hd'
      have ne : f2 ≠ r2 := fun e => (List.nodup_cons.mp hd2).1 (e ▸ List.mem_cons_self)
      obtain ⟨d, p1, p2, p3⟩ := ih ((h, r2, r2) :: done.erase (h2, f2, r2)) found h2 f2 x (by omega) (fun u hu => by
          rcases List.mem_cons.mp hu with e | hu
          · subst e
            exact ⟨hf, Int.le_refl _⟩
          · exact hv u (List.mem_of_mem_erase hu)) ((pe.map Tr.at_).symm.trans hp) hd2 (by omega) (by omega) fun q h1 h3 => hq q (by omega) h3
      refine ⟨d, p1.trans ((List.Perm.swap _ _ _).trans ?_), p2, p3⟩
      exact ((pe.map Tr.hf).cons (h, r2)).symm
theorem fill_sdr : ∀ (ps : List (Int × Int)) (done : List Tr) (found : List Int), Valid done → (done.map Tr.at_).Perm found → (done.map Tr.far ++ ps.map Prod.snd).Nodup → (∀ p ∈ ps, p.1 ≤ p.2) →
    ∃ d : List Tr, (d.map Tr.hf).Perm (done.map Tr.hf ++ ps) ∧ (d.map Tr.at_).Perm (fill (ps.map Prod.fst) found) ∧ Valid d
  | [], done, found, hv, hp, hd, hl => ⟨done, by rw [List.append_nil], hp, hv⟩
  | (h, f) :: ps, done, found, hv, hp, hd, hl => by
    have ff1 := ff_is found h
    have hd1 : (f :: done.map Tr.far).Nodup := by
      have : (done.map Tr.far ++ (f :: ps.map Prod.snd)).Nodup := hd
      have q := List.nodup_append.mp this
      refine List.nodup_cons.mpr ⟨fun m => ?_, q.1⟩
      exact q.2.2 f m f List.mem_cons_self rfl
    have hle : h ≤ f := hl (h, f) List.mem_cons_self
    obtain ⟨d, p1, p2, p3⟩ := augment ((ff found h) - f).toNat done found h f (ff found h) (Nat.le_refl _) hv hp hd1 hle ff1.le (fun q h1 h2 => ff1.full q (by omega) h2)
    have hd2 : (d.map Tr.far ++ ps.map Prod.snd).Nodup := by
      have e : d.map Tr.far = (d.map Tr.hf).map Prod.snd := by rw [List.map_map]; rfl
      have p : (d.map Tr.far).Perm (f :: done.map Tr.far) := by
        rw [e]
        refine (p1.map Prod.snd).trans ?_
        rw [List.map_cons, List.map_map]
        exact .refl _
      have q : (done.map Tr.far ++ (f :: ps.map Prod.snd)).Nodup := hd
      exact ((p.append_right _).trans (List.perm_middle.symm)).nodup_iff.mpr q
    obtain ⟨d', q1, q2, q3⟩ := fill_sdr ps d (found ++ [ff found h]) p3 (p2.trans (List.perm_append_comm (l₁ := [ff found h]))) hd2 fun p hp => hl p (List.mem_cons_of_mem _ hp)
    refine ⟨d', q1.trans ?_, q2, q3⟩
    exact (p1.append_right ps).trans List.perm_middle.symm

/-! ### rests that can come -/
def Fits : List (Int × Int) → List Int → Prop
  | [], [] => True
  | (h, f) :: ps, p :: r => (h ≤ p ∧ p ≤ f) ∧ Fits ps r
  | _, _ => False
theorem Fits.len : ∀ {ps : List (Int × Int)} {r : List Int}, Fits ps r → r.length = ps.length
  | [], [], _ => rfl
  | _ :: ps, _ :: r, h => by
    rw [List.length_cons, List.length_cons, Fits.len h.2]
theorem fits_of : ∀ {t : List Tr}, Valid t → Fits (t.map Tr.hf) (t.map Tr.at_)
  | [], _ => trivial
  | a :: t, h => ⟨h a List.mem_cons_self, fits_of fun u hu => h u (List.mem_cons_of_mem _ hu)⟩
theorem zip_fst {hs st : List Int} (h : hs.length = st.length) : (hs.zip st).map Prod.fst = hs := List.map_fst_zip (by omega)
theorem zip_snd {hs st : List Int} (h : hs.length = st.length) : (hs.zip st).map Prod.snd = st := List.map_snd_zip (by omega)
/-- a state: as many places as homes, not before these, all unlike -/
structure IsSt (hs st : List Int) : Prop where
  len : hs.length = st.length
  le : ∀ p ∈ hs.zip st, p.1 ≤ p.2
  nd : st.Nodup
theorem sdr {hs st : List Int} (S : IsSt hs st) : ∃ r : List Int, Fits (hs.zip st) r ∧ r.Perm (taken hs) := by
  have e1 := zip_fst S.len
  obtain ⟨ps, h1, h2⟩ := perm_lift (srt_perm hs) e1
  have hnd : (([] : List Tr).map Tr.far ++ ps.map Prod.snd).Nodup := by
    have p := h1.map Prod.snd
    rw [zip_snd S.len] at p
    exact p.nodup_iff.mpr S.nd
  obtain ⟨d, q1, q2, q3⟩ := fill_sdr ps [] [] (fun _ h => nomatch h) (.refl _) hnd fun p hp => S.le p (h1.mem_iff.mp hp)
  obtain ⟨t, t1, t2⟩ := perm_lift (h1.symm.trans q1.symm) rfl
  have hv : Valid t := fun u hu => q3 u (t1.mem_iff.mp hu)
  refine ⟨t.map Tr.at_, ?_, ?_⟩
  · rw [← t2]
    exact fits_of hv
  · refine (t1.map Tr.at_).trans (q2.trans ?_)
    rw [h2]
    exact (srt_perm _).symm
end Pk
/-! Parkback: the walks, part 1: what the defs of checks and streets do. -/
namespace Pk
open PySem PySem.Spec PyProof.Rows L2

/-! ### a def by its name -/
/-- the def of the text under x -/
def Fd (K : PySem.W.Frag) (mg : Str → Option Value) (x : Str) (st : Stmt) : Prop := ∃ f fd, mg x = some (.ref f) ∧ FunD K x x (defArgs st) (defBody st) (defScope st) [] [] f fd
/-- the def under x keeps the promise sp -/
def Dn (P : Program) (w : World) (K : PySem.W.Frag) (mg : Str → Option Value) (base : Heap) (x : Str) (ps : List Str) (k : Nat) (sp : Sp) : Prop :=
  ∃ f fd, mg x = some (.ref f) ∧ PySem.W.keepIn K (.ref f) = true ∧ Binds K fd ps [] ∧ FnOk P w K mg base CX0 k f fd ps sp
/-- the built-in names are still these -/
structure Bi (mg : Str → Option Value) : Prop where
  isinst : mg "isinstance" = none
  int : mg "int" = none
  bool : mg "bool" = none
  tuple : mg "tuple" = none
  len : mg "len" = none
  all : mg "all" = none
  range : mg "range" = none
  enumerate : mg "enumerate" = none
  sorted : mg "sorted" = none
  sum : mg "sum" = none
  zip : mg "zip" = none
  max : mg "max" = none
  min : mg "min" = none
theorem dn_mk {P : Program} {w : World} {K : PySem.W.Frag} {mg : Str → Option Value} {base : Heap} {x : Str} {st : Stmt} {N ps : List Str} {k : Nat} {sp : Sp} (F : Fd K mg x st) (S : FnScope N ps (defScope st))
    (hb : ∀ (kV doc pm : Value) (an : Option Addr) (cdv ct : Value) (us : List Value), us.length = ps.length → bindArgs (PySem.W.fnOf x x (defArgs st) (defBody st) (defScope st) .none kV doc pm an cdv ct) ⟨us, []⟩ = pure (ps.zip us))
    (len : ∀ vs H Q E, sp vs H Q E → vs.length = ps.length)
    (hbody : ∀ (f : Addr) (cdv : Value) (A : Around) (outer : List Env) (s : Shared) (H : Hp) (vs : List V) (Q : VK) (E : XK), Room k (A.deeper (envOfC x (defScope st) s.heap.objs.size f cdv)) → sp vs H Q E →
      ∃ t, PSs (cxOf CX0 P w K mg base N x (defScope st) f cdv A outer s H E).nox (defBody st) t ∧ t { nx := fun _ H' => Q .non H', rt := Q } (start N vs) H) : Dn P w K mg base x ps (k + 1) sp := by
  obtain ⟨f, fd, hm, F⟩ := F
  refine ⟨f, fd, hm, F.kp, F.bindsN hb, F.ok S len fun cdv A outer s H vs Q E hr h => ?_⟩
  obtain ⟨t, h1, h2⟩ := hbody f cdv A outer s H vs Q E hr h
  exact ⟨t, h1.nox, h2⟩
theorem pe_d {X : Cx} {k j : Nat} {ps : List Str} {sp : Sp} {x : Str} {p pos : Pos} {e : Expr} {es : List Expr} {t : TA} (D : Dn X.prog X.w X.K X.mg X.base x ps k sp) (hr : Room j X.A) (ha : PA X (e :: es) t) (hkj : k ≤ j := by decide) (hg : Gl X x := by rfl)
    (hdb : (x == ("__debug__" : Str)) = false := by decide) (he : starEach (e :: es) X.env = (false, eval e X.env) :: starEach es X.env := by rfl) (hpl : (backTo pos (starEach es X.env)).any (·.1) = false := by rfl) :
    PE X (.Call (.Name x p) (e :: es) [] pos) (tCall sp [] E0 t) := by
  obtain ⟨f, fd, hm, hk, hb, F⟩ := D
  exact pe_call F (hr.mono hkj) hg hm hk hb .nil pass0 ha hdb he hpl

/-! ### data in short -/
def dT (ns : List Int) : PyData := .tuple (ns.map .int)
def dS (n : Int) (hs : List Int) : PyData := .tuple [.int n, dT hs]
theorem dT_inv {K : PySem.W.Frag} {H : Hp} {v : V} {ns : List Int} (h : Dp K H v (dT ns)) : ∃ a, v = .ref a ∧ SqT K H a (ns.map V.int) := by
  cases h with
  | tup hs ha =>
    rw [dpAll_ints_inv ha] at hs
    exact ⟨_, rfl, hs⟩
theorem dS_inv {K : PySem.W.Frag} {H : Hp} {v : V} {n : Int} {hs : List Int} (h : Dp K H v (dS n hs)) : ∃ a b, v = .ref a ∧ SqT K H a [.int n, .ref b] ∧ SqT K H b (hs.map V.int) := by
  cases h with
  | tup hs ha =>
    cases ha with
    | cons h1 h2 =>
      cases h1
      cases h2 with
      | cons h3 h4 =>
        cases h4
        obtain ⟨b, rfl, hb⟩ := dT_inv h3
        exact ⟨_, b, rfl, hs, hb⟩
theorem tyT {K : PySem.W.Frag} {H : Hp} {a : Addr} {xs : List V} (h : SqT K H a xs) : TyX K H (.ref a) (.type "tuple") := by
  rcases h with (h | ⟨o, h⟩) | ⟨o, its, n, h1, h2, _⟩
  · exact .base (.tup h)
  · exact .fTuple h
  · exact .kTuple h1 h2

section
variable {P : Program} {w : World} {K : PySem.W.Frag} {mg : Str → Option Value} {base : Heap}

/-! ### checks -/
theorem scIsInteger : FnScope ["value"] ["value"] (defScope sIsInteger) := ⟨rfl, rfl, rfl, by decide +kernel, rfl, by decide +kernel, by decide +kernel⟩
theorem scIsIn : FnScope ["value", "least", "most"] ["value", "least", "most"] (defScope sIsIn) := ⟨rfl, rfl, rfl, by decide +kernel, rfl, by decide +kernel, by decide +kernel⟩
theorem scIsList : FnScope ["value", "least", "most"] ["value", "least", "most"] (defScope sIsList) := ⟨rfl, rfl, rfl, by decide +kernel, rfl, by decide +kernel, by decide +kernel⟩
def spIsInteger : Sp := fun vs H Q _ => ∃ i : Int, vs = [.int i] ∧ Q (.bl true) H
def spIsIn : Sp := fun vs H Q _ => ∃ i a b : Int, vs = [.int i, .int a, .int b] ∧ Q (.bl (decide (a ≤ i ∧ i ≤ b))) H
def spIsList (K : PySem.W.Frag) : Sp := fun vs H Q _ => ∃ (p : Addr) (xs : List V) (a b : Int), vs = [.ref p, .int a, .int b] ∧ SqT K H p xs ∧ Q (.bl (decide (a ≤ (xs.length : Int) ∧ (xs.length : Int) ≤ b))) H
theorem dn_isInteger (F : Fd K mg "is_integer" sIsInteger) (B : Bi mg) : Dn P w K mg base "is_integer" ["value"] 1 spIsInteger := by
  refine dn_mk F scIsInteger (fun _ _ _ _ _ _ us hl => match us, hl with | [_], _ => rfl) (fun vs H Q E h => ?_) (fun f cdv A outer s H vs Q E hr h => ?_)
  · obtain ⟨i, rfl, _⟩ := h
    rfl
  · obtain ⟨i, rfl, q⟩ := h
    refine ⟨_, pss_one (ps_ret (pe_and (pe_callB call_isi (by rfl) B.isinst (by decide +kernel) (pa_cons (pv 0) (pa_cons (pe_bltn (v := .ty "int") (by rfl) B.int (by decide +kernel) rfl) pa_nil)))
      (pe_one (pe_not (pe_callB call_isi (by rfl) B.isinst (by decide +kernel) (pa_cons (pv 0) (pa_cons (pe_bltn (v := .ty "bool") (by rfl) B.bool (by decide +kernel) rfl) pa_nil))))))), ?_⟩
    refine ⟨_, rfl, _, _, _, _, true, rfl, .ty "int", .base (.int i), kit_ty (by decide +kernel), true, rfl, iteT ?_⟩
    exact ⟨_, rfl, _, _, _, _, false, rfl, .ty "bool", .base (.int i), kit_ty (by decide +kernel), false, rfl, q⟩
theorem dn_isIn (F : Fd K mg "is_in" sIsIn) (D1 : Dn P w K mg base "is_integer" ["value"] 1 spIsInteger) : Dn P w K mg base "is_in" ["value", "least", "most"] 2 spIsIn := by
  refine dn_mk F scIsIn (fun _ _ _ _ _ _ us hl => match us, hl with | [_, _, _], _ => rfl) (fun vs H Q E h => ?_) (fun f cdv A outer s H vs Q E hr h => ?_)
  · obtain ⟨i, a, b, rfl, _⟩ := h
    rfl
  · obtain ⟨i, a, b, rfl, q⟩ := h
    refine ⟨_, pss_one (ps_ret (pe_and (pe_d D1 hr (pa_cons (pv 0) pa_nil)) (pe_one (pe_chain op_le op_le (pv 1) (pv 0) (pv 2))))), ?_⟩
    refine ⟨_, rfl, i, rfl, true, rfl, iteT ?_⟩
    refine ⟨_, rfl, _, rfl, a, i, rfl, rfl, _, rfl, ite2 (fun e => ?_) (fun e => ?_)⟩
    · have e := of_decide_eq_true e
      refine ⟨_, rfl, i, b, rfl, rfl, ?_⟩
      have z : decide (a ≤ i ∧ i ≤ b) = decide (i ≤ b) := by
        by_cases c : i ≤ b
        · rw [decide_eq_true c, decide_eq_true ⟨e, c⟩]
        · rw [decide_eq_false c, decide_eq_false (fun z => c z.2)]
      rw [z] at q
      exact q
    · have e : ¬ a ≤ i := fun z => e (decide_eq_true z)
      rw [decide_eq_false (fun z : a ≤ i ∧ i ≤ b => e z.1)] at q
      exact q
theorem dn_isList (F : Fd K mg "is_list" sIsList) (B : Bi mg) : Dn P w K mg base "is_list" ["value", "least", "most"] 1 (spIsList K) := by
  refine dn_mk F scIsList (fun _ _ _ _ _ _ us hl => match us, hl with | [_, _, _], _ => rfl) (fun vs H Q E h => ?_) (fun f cdv A outer s H vs Q E hr h => ?_)
  · obtain ⟨i, xs, a, b, rfl, _⟩ := h
    rfl
  · obtain ⟨p, xs, a, b, rfl, hx, q⟩ := h
    refine ⟨_, pss_one (ps_ret (pe_and (pe_callB call_isi (by rfl) B.isinst (by decide +kernel) (pa_cons (pv 0) (pa_cons (pe_bltn (v := .ty "tuple") (by rfl) B.tuple (by decide +kernel) rfl) pa_nil)))
      (pe_one (pe_chain op_le op_le (pv 1) (pe_callB call_len_seq (by rfl) B.len boot_len (pa_cons (pv 0) pa_nil)) (pv 2))))), ?_⟩
    refine ⟨_, rfl, _, _, _, _, true, rfl, .ty "tuple", tyT hx, kit_ty (by decide +kernel), true, rfl, iteT ?_⟩
    refine ⟨_, rfl, _, rfl, p, xs, rfl, .inr hx, a, (xs.length : Int), rfl, rfl, _, rfl, ite2 (fun e => ?_) (fun e => ?_)⟩
    · have e := of_decide_eq_true e
      refine ⟨_, rfl, _, b, rfl, rfl, ?_⟩
      have z : decide (a ≤ (xs.length : Int) ∧ (xs.length : Int) ≤ b) = decide ((xs.length : Int) ≤ b) := by
        by_cases c : (xs.length : Int) ≤ b
        · rw [decide_eq_true c, decide_eq_true ⟨e, c⟩]
        · rw [decide_eq_false c, decide_eq_false (fun z => c z.2)]
      rw [z] at q
      exact q
    · have e : ¬ a ≤ (xs.length : Int) := fun z => e (decide_eq_true z)
      rw [decide_eq_false (fun z : a ≤ (xs.length : Int) ∧ _ => e z.1)] at q
      exact q
end
end Pk
/-! Parkback: the walks, part 2: streets. -/
namespace Pk
open PySem PySem.Spec PyProof.Rows L2

/-! ### what stays when lists are written -/
def fixO : HO → Bool
  | .tup _ => true
  | .frz _ _ => true
  | _ => false
def SameT (H H' : Hp) : Prop := ∀ b o, H b = some o → fixO o = true → H' b = some o
theorem SameT.of {H H' : Hp} (s : Same H H') : SameT H H' := fun b o e _ => s b o e
theorem SameT.trans {H H1 H2 : Hp} (a : SameT H H1) (b : SameT H1 H2) : SameT H H2 := fun c o e f => b c o (a c o e f) f
theorem sameT_upd {H : Hp} {p : Addr} {o o' : HO} (h : H p = some o) (f : fixO o = false) : SameT H (upd H p o') := fun b x e fx => by
  have ne : b ≠ p := fun z => by
    subst z
    rw [h] at e
    cases e
    rw [f] at fx
    cases fx
  rw [upd_ne ne]
  exact e
theorem sqT_sameT {K : PySem.W.Frag} {H H' : Hp} {a : Addr} {xs : List V} (e : SameT H H') (h : SqT K H a xs) : SqT K H' a xs := by
  rcases h with (h | ⟨o, h⟩) | h
  · exact .inl (.inl (e _ _ h rfl))
  · exact .inl (.inr ⟨o, e _ _ h rfl⟩)
  · exact .inr h
mutual
def flatD : PyData → Bool
  | .none => true
  | .bool _ => true
  | .int _ => true
  | .str _ => true
  | .tuple ds => flatDs ds
  | _ => false
def flatDs : List PyData → Bool
  | [] => true
  | d :: ds => flatD d && flatDs ds
end
mutual
theorem dp_sameT {K : PySem.W.Frag} {H H' : Hp} (e : SameT H H') : ∀ {d : PyData} {v : V}, flatD d = true → Dp K H v d → Dp K H' v d
  | .none, _, _, h => by cases h; exact .non
  | .bool b, _, _, h => by cases h; exact .bl b
  | .int i, _, _, h => by cases h; exact .int i
  | .str x, _, _, h => by cases h; exact .str x
  | .list ds, _, f, h => by unfold flatD at f; cases f
  | .tuple ds, _, f, h => by
    unfold flatD at f
    cases h with
    | tup hs ha => exact .tup (sqT_sameT e hs) (dpAll_sameT e f ha)
  | .dict _, _, f, h => by cases h
theorem dpAll_sameT {K : PySem.W.Frag} {H H' : Hp} (e : SameT H H') : ∀ {ds : List PyData} {vs : List V}, flatDs ds = true → DpAll K H vs ds → DpAll K H' vs ds
  | [], _, _, h => by cases h; exact .nil
  | d :: ds, _, f, h => by
    unfold flatDs at f
    have f := Bool.and_eq_true_iff.mp f
    cases h with
    | cons h1 h2 => exact .cons (dp_sameT e f.1 h1) (dpAll_sameT e f.2 h2)
end
theorem flatDs_map {α : Type} {g : α → PyData} (h : ∀ a, flatD (g a) = true) : ∀ l : List α, flatDs (l.map g) = true
  | [] => by unfold flatDs; rfl
  | a :: l => by
    show flatDs (g a :: l.map g) = true
    unfold flatDs
    rw [h a, flatDs_map h l]
    rfl
theorem flat_dT (ns : List Int) : flatD (dT ns) = true := by
  unfold dT flatD
  exact flatDs_map (fun a => by unfold flatD; rfl) ns

/-! ### streets, states -/
structure IsStreet (n : Int) (hs : List Int) : Prop where
  n1 : 1 ≤ n
  n2 : n ≤ 12
  l1 : 1 ≤ hs.length
  l2 : hs.length ≤ 7
  in_ : ∀ h ∈ hs, 0 ≤ h ∧ h ≤ n - 1
  room : ∀ p : Nat, (p : Int) < n → ((hs.filter fun h => decide ((p : Int) ≤ h)).length : Int) ≤ n - p

section
variable {P : Program} {w : World} {K : PySem.W.Frag} {mg : Str → Option Value} {base : Heap}
theorem scHasRoom : FnScope ["places", "homes", "place", "home"] ["places", "homes"] (defScope sHasRoom) := ⟨rfl, rfl, rfl, by decide +kernel, rfl, by decide +kernel, by decide +kernel⟩
def spHasRoom (K : PySem.W.Frag) : Sp := fun vs H Q _ => ∃ (n : Int) (a : Addr) (hs : List Int), vs = [.int n, .ref a] ∧ SqT K H a (hs.map V.int) ∧ IsStreet n hs ∧ ∀ H', Same H H' → Q (.bl true) H'
/-- parts of the text -/
def lcScope : Expr → Scope
  | .ListComp _ _ sc _ => sc
  | _ => { kind := .function, names := [], isGenerator := false, isCoroutine := false }
def callArg (e : Expr) (i : Nat) : Expr := match e with
  | .Call _ as _ _ => as.getD i (.Name "x" ⟨0, 0, 0, 0⟩)
  | _ => .Name "x" ⟨0, 0, 0, 0⟩
def retE (b : List Stmt) (i : Nat) : Expr := match b[i]? with
  | some (.Return (some e) _) => e
  | _ => .Name "x" ⟨0, 0, 0, 0⟩
theorem yes_ {A B : Hp → Prop} {σ : L2.St} {H : Hp} (h : A H) : tYes σ H fun b H3 => if b = true then A H3 else B H3 := by
  show (if true = true then A H else B H)
  rw [if_pos rfl]
  exact h
abbrev rGe : R2 := rI0 fun i j => .bl (decide (j ≤ i))
abbrev rLe : R2 := rI0 fun i j => .bl (decide (i ≤ j))
abbrev rMinus : R2 := rI0 fun i j => .int (i - j)
abbrev rLn (K : PySem.W.Frag) : List V → Hp → VK → Prop := fun xs H Q => ∃ p ys, xs = [V.ref p] ∧ (SqL K H p ys ∨ SqT K H p ys) ∧ Q (.int ys.length) H
abbrev teRoom (K : PySem.W.Frag) : TE := tOp rLe (tCB (rLn K) (tCons (tLc (iTup K (tVar 1)) (gName 3) (tTest (tOp rGe (tVar 3) (tVar 2))) (tVar 3) [3]) tNil)) (tOp rMinus (tVar 0) (tVar 2))
abbrev lcRoom : Expr := callArg (retE (defBody sHasRoom) 0) 0
theorem filt_snoc {p : Int → Bool} {l : List Int} {i : Nat} {x : Int} (h : l[i]? = some x) : (l.take (i + 1)).filter p = (l.take i).filter p ++ (if p x = true then [x] else []) := by
  rw [List.take_add_one, h, List.filter_append]
  congr 1
  show List.filter p [x] = _
  rw [List.filter_cons]
  split <;> rfl
theorem dn_hasRoom (F : Fd K mg "has_room" sHasRoom) (B : Bi mg) : Dn P w K mg base "has_room" ["places", "homes"] 1 (spHasRoom K) := by
  refine dn_mk F scHasRoom (fun _ _ _ _ _ _ us hl => match us, hl with | [_, _], _ => rfl) (fun vs H Q E h => ?_) (fun f cdv A outer s H vs Q E hr h => ?_)
  · obtain ⟨n, a, hs, rfl, _⟩ := h
    rfl
  · obtain ⟨n, a, hs, rfl, hA, S, q⟩ := h
    have nd := scHasRoom.nd
    refine ⟨_, pss_one (ps_ret (pe_callB (cr_all rfl) (by rfl) B.all (by decide +kernel) (pa_cons
      (pe_lc (own := [("place", 2)]) (g := gName 2) (tt := tYes) (te := teRoom K) rfl nd (pi_range1 rfl B.range (pa_cons (pv 0) pa_nil)) (blkOk_by (N := ["places", "homes", "place", "home"]) (sc := defScope sHasRoom) (by decide +kernel))
        (fun _ _ _ _ _ => pg_name (i := 2) nd rfl (Or.inr rfl)) (fun _ _ _ _ _ => pts_nil)
        (fun _ _ _ _ _ => pe_cmpR op_le (pe_callB call_len_seq (by rfl) B.len boot_len (pa_cons
          (pe_lc (own := [("home", 3)]) (g := gName 3) rfl nd (pi_tup (pv 1)) (blkOk_by (N := ["places", "homes", "place", "home"]) (sc := relS (lcScope lcRoom) (defScope sHasRoom)) (by decide +kernel))
            (fun _ _ _ _ _ => pg_name (i := 3) nd rfl (Or.inl rfl)) (fun _ _ _ _ _ => pts_one (pt_cmpR op_ge (pv 3) (pv 2) (nomark _))) (fun _ _ _ _ _ => pv 3)) pa_nil))
          (pe_op op_sub (pv 0) (pv 2)) (nomark _))) pa_nil))), ?_⟩
    have n2 := S.n2
    have n1 := S.n1
    refine ⟨_, rfl, n, rfl, by omega, by omega, fun D nD => ?_⟩
    refine lc_range (lo := 0) (n := n.toNat) (fun i H' => Same H H' ∧ H' D = some (.lst ((List.replicate i true).map V.bl))) ⟨same_new nD, upd_same⟩ (fun i H1 hi hP => ?_) (fun H1 hP => ?_)
    · obtain ⟨s1, e1⟩ := hP
      refine ⟨rfl, yes_ ?_⟩
      refine ⟨_, rfl, a, rfl, ⟨_, sqT_same s1 hA⟩, fun D2 nD2 => ?_⟩
      refine lc_tup (xs := hs.map V.int) (fun j H' => Same H1 H' ∧ H' D2 = some (.lst ((((hs.take j).filter fun h => decide ((i : Int) ≤ h))).map V.int))) ⟨same_new nD2, upd_same⟩ (fun j H' _ hP => sqT_same (s1.trans hP.1) hA) (fun j x H2 hx hP => ?_) (fun H2 hP => ?_)
      · obtain ⟨s2, e2⟩ := hP
        obtain ⟨h, hh, rfl⟩ : ∃ h, hs[j]? = some h ∧ x = V.int h := by
          rw [List.getElem?_map] at hx
          cases e : hs[j]? with
          | none =>
            rw [e] at hx
            cases hx
          | some h =>
            rw [e] at hx
            exact ⟨h, rfl, (Option.some.inj hx).symm⟩
        refine ⟨rfl, ?_⟩
        refine ⟨_, rfl, _, rfl, h, _, rfl, rfl, _, rfl, ite2 (fun e => ?_) (fun e => ?_)⟩
        · have e : (0 : Int) + (i : Int) ≤ h := of_decide_eq_true e
          refine ⟨_, rfl, _, e2, ?_, same_put s2 nD2, ?_⟩
          · rw [List.length_map]
            have z := List.length_filter_le (fun h => decide ((i : Int) ≤ h)) (hs.take j)
            have z2 := List.length_take_le' j hs
            have z3 := S.l2
            exact small1000 (by omega)
          · rw [upd_same, filt_snoc hh, if_pos (decide_eq_true (by omega)), List.map_append]
            rfl
        · have e : ¬ (0 : Int) + (i : Int) ≤ h := fun z => e (decide_eq_true z)
          refine ⟨s2, ?_⟩
          rw [filt_snoc hh, if_neg (fun z => e (by have := of_decide_eq_true z; omega)), List.append_nil]
          exact e2
      · obtain ⟨s2, e2⟩ := hP
        rw [List.length_map, List.take_length] at e2
        refine ⟨D2, _, rfl, .inl (SqL.of e2), ?_⟩
        refine ⟨_, rfl, _, rfl, n, _, rfl, rfl, _, _, rfl, rfl, ?_⟩
        refine ⟨_, s2 _ _ e1, ?_, same_put (s1.trans s2) nD, ?_⟩
        · rw [List.length_map, List.length_replicate]
          exact small1000 (by omega)
        · rw [upd_same, List.length_map]
          have z := S.room i (by omega)
          have e : decide (((hs.filter fun h => decide ((i : Int) ≤ h)).length : Int) ≤ n - (0 + (i : Int))) = true := decide_eq_true (by omega)
          show some (HO.lst (List.map V.bl (List.replicate i true) ++ [V.bl (decide (((hs.filter fun h => decide ((i : Int) ≤ h)).length : Int) ≤ n - (0 + (i : Int))))])) = _
          rw [e, List.replicate_succ', List.map_append]
          rfl
    · obtain ⟨s1, e1⟩ := hP
      refine ⟨D, _, rfl, SqL.of e1, ?_⟩
      have e : (List.replicate n.toNat true).all id = true := by
        rw [List.all_eq_true]
        intro x hx
        rw [(List.mem_replicate.mp hx).2]
        rfl
      rw [e]
      exact q _ s1
end
end Pk
/-! Parkback: the walks, part 3: need_street, need_places, need_state, need_car, need_weights. -/
namespace Pk
open PySem PySem.Spec PyProof.Rows L2

/-! ### lists of ints as values -/
theorem get_ints {l : List Int} {i : Nat} {v : V} (h : (l.map V.int)[i]? = some v) : ∃ x, l[i]? = some x ∧ v = V.int x := by
  rw [List.getElem?_map] at h
  cases e : l[i]? with
  | none =>
    rw [e] at h
    cases h
  | some x =>
    rw [e] at h
    exact ⟨x, rfl, (Option.some.inj h).symm⟩
theorem ints_get {l : List Int} {i : Nat} {x : Int} (h : l[i]? = some x) : (l.map V.int)[i]? = some (V.int x) := by
  rw [List.getElem?_map, h]
  rfl
theorem flat_ints (l : List Int) : (l.map V.int).all flatV = true := by
  rw [List.all_eq_true]
  intro v hv
  obtain ⟨x, _, rfl⟩ := List.mem_map.mp hv
  rfl
theorem inV_ints (x : Int) : ∀ l : List Int, inV (.int x) (l.map V.int) = decide (x ∈ l)
  | [] => rfl
  | a :: l => by
    have ih := inV_ints x l
    show (eqV (.int a) (.int x) || inV (.int x) (l.map V.int)) = _
    rw [ih]
    show (a == x || decide (x ∈ l)) = _
    by_cases e : a = x
    · subst e
      simp
    · have e2 : ¬ x = a := fun z => e z.symm
      simp [e, e2]
theorem cut_to (xs : List V) (i : Nat) : cutV xs none (some (i : Int)) = xs.take i := by
  unfold cutV
  rw [HT.sIx_none, HT.sIx_nat]
  show (xs.drop 0).take _ = _
  rw [List.drop_zero, Nat.sub_zero]
  by_cases h : i ≤ xs.length
  · rw [Nat.min_eq_left h]
  · rw [Nat.min_eq_right (by omega), List.take_of_length_le (Nat.le_refl _), List.take_of_length_le (by omega)]
theorem nd_take {l : List Int} (h : l.Nodup) {i : Nat} {x : Int} (hx : l[i]? = some x) : x ∉ l.take i := by
  intro m
  obtain ⟨j, hj, e⟩ := List.getElem_of_mem m
  rw [List.length_take] at hj
  have e2 : l[j]? = some x := by
    rw [List.getElem_take] at e
    rw [List.getElem?_eq_getElem (by omega), e]
  have := nd_ix h hx e2
  omega

structure IsState (n : Int) (hs st : List Int) : Prop where
  str : IsStreet n hs
  ok : IsSt hs st
  top : ∀ p ∈ st, p ≤ n - 1
theorem isSt_at {hs st : List Int} (S : IsSt hs st) {i : Nat} {p : Int} (h : st[i]? = some p) : ∃ x, hs[i]? = some x ∧ x ≤ p := by
  have hi : i < st.length := (List.getElem?_eq_some_iff.mp h).1
  have hi' : i < hs.length := by rw [S.len]; exact hi
  refine ⟨hs[i], List.getElem?_eq_getElem hi', ?_⟩
  have m : (hs[i], st[i]) ∈ hs.zip st := by
    have z : (hs.zip st)[i]? = some (hs[i], st[i]) := by
      rw [List.getElem?_zip_eq_some]
      exact ⟨List.getElem?_eq_getElem hi', List.getElem?_eq_getElem hi⟩
    exact List.mem_of_getElem? z
  have := S.le _ m
  rw [List.getElem?_eq_getElem hi] at h
  cases h
  exact this

/-- the module's two numbers -/
structure Ct (mg : Str → Option Value) : Prop where
  places : ∃ t, mg "MOST_PLACES" = some (.int 12 t)
  cars : ∃ t, mg "MOST_CARS" = some (.int 7 t)

section
variable {P : Program} {w : World} {K : PySem.W.Frag} {mg : Str → Option Value} {base : Heap}
abbrev DnInt (P : Program) (w : World) (K : PySem.W.Frag) (mg : Str → Option Value) (base : Heap) : Prop := Dn P w K mg base "is_in" ["value", "least", "most"] 2 spIsIn
abbrev DnLst (P : Program) (w : World) (K : PySem.W.Frag) (mg : Str → Option Value) (base : Heap) : Prop := Dn P w K mg base "is_list" ["value", "least", "most"] 1 (spIsList K)

theorem scNeedStreet : FnScope ["street", "home"] ["street"] (defScope sNeedStreet) := ⟨rfl, rfl, rfl, by decide +kernel, rfl, by decide +kernel, by decide +kernel⟩
def spNeedStreet (K : PySem.W.Frag) : Sp := fun vs H Q _ => ∃ (v : V) (n : Int) (hs : List Int), vs = [v] ∧ Dp K H v (dS n hs) ∧ IsStreet n hs ∧ ∀ H', Same H H' → Q .non H'
theorem dn_needStreet (F : Fd K mg "need_street" sNeedStreet) (B : Bi mg) (C : Ct mg) (DI : DnInt P w K mg base) (DL : DnLst P w K mg base) (DR : Dn P w K mg base "has_room" ["places", "homes"] 1 (spHasRoom K)) :
    Dn P w K mg base "need_street" ["street"] 3 (spNeedStreet K) := by
  refine dn_mk F scNeedStreet (fun _ _ _ _ _ _ us hl => match us, hl with | [_], _ => rfl) (fun vs H Q E h => ?_) (fun f cdv A outer s H vs Q E hr h => ?_)
  · obtain ⟨v, n, hs, rfl, _⟩ := h
    rfl
  · obtain ⟨v, n, hs, rfl, hd, S, q⟩ := h
    obtain ⟨a, b, rfl, ha, hb⟩ := dS_inv hd
    obtain ⟨t1, g1⟩ := C.places
    obtain ⟨t2, g2⟩ := C.cars
    have nd := scNeedStreet.nd
    refine ⟨_, pss_cons (ps_if (PW.pt (pw_or (pt_not (pt_val (pe_d DL hr (pa_cons (pv 0) (pa_cons pe_int (pa_cons pe_int pa_nil))))))
        (pw_or (pt_not (pt_val (pe_d DI hr (pa_cons (pe_ix ix_tup (pv 0) pe_int (fun _ _ => rfl)) (pa_cons pe_int (pa_cons (pe_glob (v := .int 12) rfl g1 ⟨_, rfl⟩) pa_nil))))))
        (pw_or1 (pt_not (pt_val (pe_d DL hr (pa_cons (pe_ix ix_tup (pv 0) pe_int (fun _ _ => rfl)) (pa_cons pe_int (pa_cons (pe_glob (v := .int 7) rfl g2 ⟨_, rfl⟩) pa_nil)))))))))) (pss_one ps_never) pss_nil)
      (pss_one (ps_if (PW.pt (pw_or (pt_not (pt_val (pe_callB (cr_all rfl) (by rfl) B.all (by decide +kernel) (pa_cons
          (pe_lc (own := [("home", 1)]) (g := gName 1) (tt := tYes) (te := tCall spIsIn [] E0 (tCons (tVar 1) (tCons (tC (.int 0)) (tCons (tOp rMinus (tOp (rIxT K) (tVar 0) (tC (.int 0))) (tC (.int 1))) tNil)))) rfl nd (pi_tup (pe_ix ix_tup (pv 0) pe_int (fun _ _ => rfl))) (blkOk_by (N := ["street", "home"]) (sc := defScope sNeedStreet) (by decide +kernel))
            (fun _ _ _ _ _ => pg_name (i := 1) nd rfl (Or.inl rfl)) (fun _ _ _ _ _ => pts_nil)
            (fun _ _ _ _ _ => pe_d DI hr (pa_cons (pv 1) (pa_cons pe_int (pa_cons (pe_op op_sub (pe_ix ix_tup (pv 0) pe_int (fun _ _ => rfl)) pe_int) pa_nil))))) pa_nil))))
        (pw_or1 (pt_not (pt_val (pe_d DR hr (pa_cons (pe_ix ix_tup (pv 0) pe_int (fun _ _ => rfl)) (pa_cons (pe_ix ix_tup (pv 0) pe_int (fun _ _ => rfl)) pa_nil)))))))) (pss_one ps_never) pss_nil)), ?_⟩
    have n1 := S.n1
    have n2 := S.n2
    have l1 := S.l1
    have l2 := S.l2
    refine ⟨_, rfl, a, _, 2, 2, rfl, ha, _, rfl, iteNS ⟨Int.le_refl 2, Int.le_refl 2⟩ ?_⟩
    refine ⟨_, rfl, a, _, 0, .int n, rfl, rfl, ha, atI_nat (j := 0) rfl, n, 1, 12, rfl, _, rfl, iteNS ⟨n1, n2⟩ ?_⟩
    refine ⟨_, rfl, a, _, 1, .ref b, rfl, rfl, ha, atI_nat (j := 1) rfl, b, _, 1, 7, rfl, hb, _, rfl, iteNS ⟨by rw [List.length_map]; omega, by rw [List.length_map]; omega⟩ ?_⟩
    refine ⟨_, rfl, a, _, 1, .ref b, rfl, rfl, ha, atI_nat (j := 1) rfl, b, rfl, ⟨_, hb⟩, fun D nD => ?_⟩
    refine lc_tup (xs := hs.map V.int) (fun i H' => Same H H' ∧ H' D = some (.lst ((List.replicate i true).map V.bl))) ⟨same_new nD, upd_same⟩ (fun i H' _ hP => sqT_same hP.1 hb) (fun i x H1 hx hP => ?_) (fun H1 hP => ?_)
    · obtain ⟨s1, e1⟩ := hP
      obtain ⟨h, hh, rfl⟩ := get_ints hx
      have hin := S.in_ h (List.mem_of_getElem? hh)
      have hil : i < hs.length := (List.getElem?_eq_some_iff.mp hh).1
      refine ⟨rfl, yes_ ?_⟩
      refine ⟨_, rfl, _, rfl, a, _, 0, .int n, rfl, rfl, sqT_same s1 ha, atI_nat (j := 0) rfl, n, 1, rfl, rfl, h, 0, n - 1, rfl, ?_⟩
      refine ⟨_, e1, ?_, same_put s1 nD, ?_⟩
      · rw [List.length_map, List.length_replicate]
        exact small1000 (by omega)
      · rw [upd_same, decide_eq_true hin, List.replicate_succ', List.map_append]
        rfl
    · obtain ⟨s1, e1⟩ := hP
      refine ⟨D, _, rfl, SqL.of e1, ?_⟩
      have e : (List.replicate (hs.map V.int).length true).all id = true := by
        rw [List.all_eq_true]
        intro x hx
        rw [(List.mem_replicate.mp hx).2]
        rfl
      rw [e]
      refine ⟨true, rfl, iteF ?_⟩
      refine ⟨_, rfl, a, _, 0, .int n, rfl, rfl, sqT_same s1 ha, atI_nat (j := 0) rfl, _, rfl, a, _, 1, .ref b, rfl, rfl, sqT_same s1 ha, atI_nat (j := 1) rfl, n, b, hs, rfl, sqT_same s1 hb, S, fun H2 s2 => ?_⟩
      exact ⟨true, rfl, iteF (q _ (s1.trans s2))⟩

theorem scNeedPlaces : FnScope ["street", "state", "places", "homes", "index", "place"] ["street", "state"] (defScope sNeedPlaces) := ⟨rfl, rfl, rfl, by decide +kernel, rfl, by decide +kernel, by decide +kernel⟩
def spNeedPlaces (K : PySem.W.Frag) : Sp := fun vs H Q _ => ∃ (v u : V) (n : Int) (hs st : List Int), vs = [v, u] ∧ Dp K H v (dS n hs) ∧ Dp K H u (dT st) ∧ IsState n hs st ∧ ∀ H', Same H H' → Q .non H'
theorem dn_needPlaces (F : Fd K mg "need_places" sNeedPlaces) (B : Bi mg) (DI : DnInt P w K mg base) (DL : DnLst P w K mg base) :
    Dn P w K mg base "need_places" ["street", "state"] 3 (spNeedPlaces K) := by
  refine dn_mk F scNeedPlaces (fun _ _ _ _ _ _ us hl => match us, hl with | [_, _], _ => rfl) (fun vs H Q E h => ?_) (fun f cdv A outer s H vs Q E hr h => ?_)
  · obtain ⟨v, u, n, hs, st, rfl, _⟩ := h
    rfl
  · obtain ⟨v, u, n, hs, st, rfl, hd, hu, S, q⟩ := h
    obtain ⟨a, b, rfl, ha, hb⟩ := dS_inv hd
    obtain ⟨c, rfl, hc⟩ := dT_inv hu
    have nd := scNeedPlaces.nd
    refine ⟨_, pss_cons (ps_asg (pv 0) (pg_tup rfl (pgs_cons (pg_name (i := 2) nd rfl (.inl rfl)) (pgs_cons (pg_name (i := 3) nd rfl (.inl rfl)) pgs_nil))))
      (pss_cons (ps_if (pt_not (pt_val (pe_d DL hr (pa_cons (pv 1) (pa_cons (pe_callB call_len_seq (by rfl) B.len boot_len (pa_cons (pv 3) pa_nil)) (pa_cons (pe_callB call_len_seq (by rfl) B.len boot_len (pa_cons (pv 3) pa_nil)) pa_nil)))))) (pss_one ps_never) pss_nil)
      (pss_one (ps_for PassesOwn.never rfl (pi_enumT (by rfl) B.enumerate (pa_cons (pv 1) pa_nil)) (pg_tup rfl (pgs_cons (pg_name (i := 4) nd rfl (.inl rfl)) (pgs_cons (pg_name (i := 5) nd rfl (.inl rfl)) pgs_nil)))
        (pss_one (ps_if (PW.pt (pw_or (pt_not (pt_val (pe_d DI hr (pa_cons (pv 5) (pa_cons (pe_ix ix_tup (pv 3) (pv 4) (fun _ _ => rfl)) (pa_cons (pe_op op_sub (pv 2) pe_int) pa_nil))))))
          (pw_or1 (pt_cmpR op_in_seq (pv 5) (pe_slice sl_tup (pv 1) po_none (po_some (pv 4))) (by rfl))))) (pss_one ps_never) pss_nil))))), ?_⟩
    have hl := S.ok.len
    refine ⟨_, rfl, a, _, rfl, ha, rfl, _, _, rfl, _, _, rfl, rfl, ?_⟩
    refine ⟨_, rfl, _, rfl, b, _, rfl, .inr hb, _, rfl, b, _, rfl, .inr hb, c, _, _, _, rfl, hc, _, rfl, iteNS ⟨by rw [List.length_map, List.length_map]; omega, by rw [List.length_map, List.length_map]; omega⟩ ?_⟩
    refine ⟨_, rfl, c, st.map V.int, rfl, hc, ?_⟩
    refine for_it walk_p (fun i σ H' => (∃ y4 y5, σ = [some (.ref a), some (.ref c), some (.int n), some (.ref b), y4, y5]) ∧ Same H H') ⟨⟨none, none, rfl⟩, Same.refl H⟩ (fun i σ H' _ hP => sqT_same hP.2 hc) (fun i x σ H1 H2 hi hP hY => ?_) (fun σ H1 hP => q _ hP.2)
    obtain ⟨⟨y4, y5, rfl⟩, s1⟩ := hP
    obtain ⟨T, x1, y1, rfl, nT, rfl, rfl, hy⟩ := hY
    obtain ⟨p, hp, rfl⟩ := get_ints hy
    obtain ⟨h, hh, hle⟩ := isSt_at S.ok hp
    have htop := S.top p (List.mem_of_getElem? hp)
    have s2 : Same H (upd H1 T (.tup [.int (i : Nat), .int p])) := s1.trans (same_new nT)
    refine ⟨T, _, rfl, SqT.of upd_same, rfl, _, _, rfl, _, _, rfl, rfl, ?_⟩
    refine ⟨_, rfl, _, rfl, _, rfl, b, _, (i : Int), .int h, rfl, rfl, sqT_same s2 hb, atI_nat (ints_get hh), _, rfl, n, 1, rfl, rfl, p, h, n - 1, rfl, _, rfl, iteNS ⟨hle, htop⟩ ?_⟩
    have hil : i < st.length := (List.getElem?_eq_some_iff.mp hp).1
    refine ⟨_, rfl, _, rfl, _, rfl, (i : Int), rfl, c, _, rfl, sqT_same s2 hc, ?_, fun p2 np2 => ?_⟩
    · rw [HT.sIx_nat, List.length_map]
      intro z
      have := z.2
      rw [Nat.min_eq_left (by omega)] at this
      omega
    · refine ⟨p2, _, rfl, .inr (SqT.of upd_same), rfl, ?_, _, rfl, ?_⟩
      · rw [cut_to, ← List.map_take]
        exact flat_ints _
      · rw [cut_to, ← List.map_take, inV_ints, decide_eq_false (nd_take S.ok.nd hp)]
        exact iteF ⟨⟨_, _, rfl⟩, s2.trans (same_new np2)⟩

theorem scNeedState : FnScope ["street", "state"] ["street", "state"] (defScope sNeedState) := ⟨rfl, rfl, rfl, by decide +kernel, rfl, by decide +kernel, by decide +kernel⟩
theorem dn_needState (F : Fd K mg "need_state" sNeedState) (D1 : Dn P w K mg base "need_street" ["street"] 3 (spNeedStreet K)) (D2 : Dn P w K mg base "need_places" ["street", "state"] 3 (spNeedPlaces K)) :
    Dn P w K mg base "need_state" ["street", "state"] 4 (spNeedPlaces K) := by
  refine dn_mk F scNeedState (fun _ _ _ _ _ _ us hl => match us, hl with | [_, _], _ => rfl) (fun vs H Q E h => ?_) (fun f cdv A outer s H vs Q E hr h => ?_)
  · obtain ⟨v, u, n, hs, st, rfl, _⟩ := h
    rfl
  · obtain ⟨v, u, n, hs, st, rfl, hd, hu, S, q⟩ := h
    refine ⟨_, pss_cons (ps_expr (pe_d D1 hr (pa_cons (pv 0) pa_nil))) (pss_one (ps_expr (pe_d D2 hr (pa_cons (pv 0) (pa_cons (pv 1) pa_nil))))), ?_⟩
    refine ⟨_, rfl, v, n, hs, rfl, hd, S.str, fun H1 s1 => ?_⟩
    exact ⟨_, rfl, _, rfl, v, u, n, hs, st, rfl, dp_same s1 hd, dp_same s1 hu, S, fun H2 s2 => q _ (s1.trans s2)⟩

theorem scNeedCar : FnScope ["street", "car"] ["street", "car"] (defScope sNeedCar) := ⟨rfl, rfl, rfl, by decide +kernel, rfl, by decide +kernel, by decide +kernel⟩
def spNeedCar (K : PySem.W.Frag) : Sp := fun vs H Q _ => ∃ (v : V) (n : Int) (hs : List Int) (c : Nat), vs = [v, .int c] ∧ Dp K H v (dS n hs) ∧ c < hs.length ∧ ∀ H', Same H H' → Q .non H'
theorem dn_needCar (F : Fd K mg "need_car" sNeedCar) (B : Bi mg) (DI : DnInt P w K mg base) : Dn P w K mg base "need_car" ["street", "car"] 3 (spNeedCar K) := by
  refine dn_mk F scNeedCar (fun _ _ _ _ _ _ us hl => match us, hl with | [_, _], _ => rfl) (fun vs H Q E h => ?_) (fun f cdv A outer s H vs Q E hr h => ?_)
  · obtain ⟨v, n, hs, c, rfl, _⟩ := h
    rfl
  · obtain ⟨v, n, hs, c, rfl, hd, hc, q⟩ := h
    obtain ⟨a, b, rfl, ha, hb⟩ := dS_inv hd
    refine ⟨_, pss_one (ps_if (pt_not (pt_val (pe_d DI hr (pa_cons (pv 1) (pa_cons pe_int (pa_cons (pe_op op_sub (pe_callB call_len_seq (by rfl) B.len boot_len (pa_cons (pe_ix ix_tup (pv 0) pe_int (fun _ _ => rfl)) pa_nil)) pe_int) pa_nil)))))) (pss_one ps_never) pss_nil), ?_⟩
    refine ⟨_, rfl, _, rfl, a, _, 1, .ref b, rfl, rfl, ha, atI_nat (j := 1) rfl, b, _, rfl, .inr hb, _, 1, rfl, rfl, (c : Int), 0, _, rfl, _, rfl, iteNS ⟨by omega, by rw [List.length_map]; omega⟩ (q _ (Same.refl H))⟩

theorem scNeedWeights : FnScope ["street", "weights", "cars", "index", "weight"] ["street", "weights"] (defScope sNeedWeights) := ⟨rfl, rfl, rfl, by decide +kernel, rfl, by decide +kernel, by decide +kernel⟩
/-- weights: as many as cars, from 0 to 99 -/
structure IsWt (hs ws : List Int) : Prop where
  len : ws.length = hs.length
  in_ : ∀ x ∈ ws, 0 ≤ x ∧ x ≤ 99
def spNeedWeights (K : PySem.W.Frag) : Sp := fun vs H Q _ => ∃ (v u : V) (n : Int) (hs ws : List Int), vs = [v, u] ∧ Dp K H v (dS n hs) ∧ Dp K H u (dT ws) ∧ IsWt hs ws ∧ ∀ H', Same H H' → Q .non H'
theorem dn_needWeights (F : Fd K mg "need_weights" sNeedWeights) (B : Bi mg) (DI : DnInt P w K mg base) (DL : DnLst P w K mg base) : Dn P w K mg base "need_weights" ["street", "weights"] 3 (spNeedWeights K) := by
  refine dn_mk F scNeedWeights (fun _ _ _ _ _ _ us hl => match us, hl with | [_, _], _ => rfl) (fun vs H Q E h => ?_) (fun f cdv A outer s H vs Q E hr h => ?_)
  · obtain ⟨v, u, n, hs, ws, rfl, _⟩ := h
    rfl
  · obtain ⟨v, u, n, hs, ws, rfl, hd, hu, S, q⟩ := h
    obtain ⟨a, b, rfl, ha, hb⟩ := dS_inv hd
    obtain ⟨c, rfl, hc⟩ := dT_inv hu
    have nd := scNeedWeights.nd
    refine ⟨_, pss_cons (ps_set (i := 2) nd rfl (.inl rfl) (pe_callB call_len_seq (by rfl) B.len boot_len (pa_cons (pe_ix ix_tup (pv 0) pe_int (fun _ _ => rfl)) pa_nil)))
      (pss_cons (ps_if (pt_not (pt_val (pe_d DL hr (pa_cons (pv 1) (pa_cons (pv 2) (pa_cons (pv 2) pa_nil)))))) (pss_one ps_never) pss_nil)
      (pss_one (ps_for PassesOwn.never rfl (pi_enumT (by rfl) B.enumerate (pa_cons (pv 1) pa_nil)) (pg_tup rfl (pgs_cons (pg_name (i := 3) nd rfl (.inl rfl)) (pgs_cons (pg_name (i := 4) nd rfl (.inl rfl)) pgs_nil)))
        (pss_one (ps_if (pt_not (pt_val (pe_d DI hr (pa_cons (pv 4) (pa_cons pe_int (pa_cons pe_int pa_nil)))))) (pss_one ps_never) pss_nil))))), ?_⟩
    have hl := S.len
    refine ⟨_, rfl, a, _, 1, .ref b, rfl, rfl, ha, atI_nat (j := 1) rfl, b, _, rfl, .inr hb, ?_⟩
    refine ⟨_, rfl, _, rfl, _, rfl, c, _, _, _, rfl, hc, _, rfl, iteNS ⟨by rw [List.length_map, List.length_map]; omega, by rw [List.length_map, List.length_map]; omega⟩ ?_⟩
    refine ⟨_, rfl, c, ws.map V.int, rfl, hc, ?_⟩
    refine for_it walk_p (fun i σ H' => (∃ y3 y4, σ = [some (.ref a), some (.ref c), some (.int ((hs.map V.int).length : Nat)), y3, y4]) ∧ Same H H') ⟨⟨none, none, rfl⟩, Same.refl H⟩ (fun i σ H' _ hP => sqT_same hP.2 hc) (fun i x σ H1 H2 hi hP hY => ?_) (fun σ H1 hP => q _ hP.2)
    obtain ⟨⟨y3, y4, rfl⟩, s1⟩ := hP
    obtain ⟨T, x1, y1, rfl, nT, rfl, rfl, hy⟩ := hY
    obtain ⟨p, hp, rfl⟩ := get_ints hy
    have s2 : Same H (upd H1 T (.tup [.int (i : Nat), .int p])) := s1.trans (same_new nT)
    refine ⟨T, _, rfl, SqT.of upd_same, rfl, _, _, rfl, _, _, rfl, rfl, ?_⟩
    exact ⟨_, rfl, p, 0, 99, rfl, _, rfl, iteNS (S.in_ p (List.mem_of_getElem? hp)) ⟨⟨_, _, rfl⟩, s2⟩⟩
end
end Pk
/-! Parkback, the mathematics, part B: what the defs compute (the mirrors) and their steps. -/
namespace Pk
/-- the rows, one place longer -/
def okP (h f : Int) (row : List Int) (p : Int) : Bool := decide (h ≤ p ∧ p ≤ f) && !decide (p ∈ row)
def ext1 (tk : List Int) (h f : Int) (row : List Int) : List (List Int) := (tk.filter (okP h f row)).map fun p => row ++ [p]
def ext (tk : List Int) (h f : Int) (found : List (List Int)) : List (List Int) := found.flatMap (ext1 tk h f)
def rin (tk : List Int) : List (Int × Int) → List (List Int) → List (List Int)
  | [], found => found
  | (h, f) :: ps, found => rin tk ps (ext tk h f found)
def restsIn (hs st : List Int) : List (List Int) := rin (taken hs) (hs.zip st) [[]]
theorem rin_snoc (tk : List Int) (h f : Int) : ∀ (ps : List (Int × Int)) (found : List (List Int)), rin tk (ps ++ [(h, f)]) found = ext tk h f (rin tk ps found)
  | [], _ => rfl
  | (a, b) :: ps, found => rin_snoc tk h f ps (ext tk a b found)
theorem ext_snoc (tk : List Int) (h f : Int) (l : List (List Int)) (row : List Int) : ext tk h f (l ++ [row]) = ext tk h f l ++ ext1 tk h f row := by
  unfold ext
  rw [List.flatMap_append]
  simp
theorem ext1_len (tk : List Int) (h f : Int) (row : List Int) : (ext1 tk h f row).length ≤ tk.length := by
  unfold ext1
  rw [List.length_map]
  exact List.length_filter_le _ _
theorem ext_len (tk : List Int) (h f : Int) : ∀ l : List (List Int), (ext tk h f l).length ≤ l.length * tk.length
  | [] => by unfold ext; simp
  | row :: l => by
    have ih := ext_len tk h f l
    have h1 := ext1_len tk h f row
    have e : ext tk h f (row :: l) = ext1 tk h f row ++ ext tk h f l := by unfold ext; simp
    rw [e, List.length_append, List.length_cons, Nat.succ_mul]
    omega
theorem rin_len (tk : List Int) : ∀ (ps : List (Int × Int)) (l : List (List Int)), (rin tk ps l).length ≤ l.length * tk.length ^ ps.length
  | [], l => by
    show l.length ≤ l.length * 1
    omega
  | (h, f) :: ps, l => by
    have ih := rin_len tk ps (ext tk h f l)
    have h1 := ext_len tk h f l
    show (rin tk ps (ext tk h f l)).length ≤ _
    refine Nat.le_trans ih ?_
    rw [List.length_cons, Nat.pow_succ]
    calc (ext tk h f l).length * tk.length ^ ps.length ≤ (l.length * tk.length) * tk.length ^ ps.length := Nat.mul_le_mul_right _ h1
      _ = l.length * (tk.length ^ ps.length * tk.length) := by rw [Nat.mul_assoc, Nat.mul_comm tk.length]
/-- ways home, sums by weights, cars that stand elsewhere, cars at home -/
def ways (hs r : List Int) : List Int := List.zipWith (fun p h => p - h) r hs
def dot (ws ys : List Int) : Int := (List.zipWith (fun a b => a * b) ws ys).sum
def unl (a b : List Int) : List Nat := (List.range a.length).filter fun c => !decide (a[c]? = b[c]?)
end Pk
namespace Pk
theorem ext_rowlen {tk : List Int} {h f : Int} {l : List (List Int)} {n : Nat} (hl : ∀ r ∈ l, r.length = n) : ∀ r ∈ ext tk h f l, r.length = n + 1 := by
  intro r hr
  unfold ext at hr
  obtain ⟨row, h1, h2⟩ := List.mem_flatMap.mp hr
  unfold ext1 at h2
  obtain ⟨p, _, rfl⟩ := List.mem_map.mp h2
  rw [List.length_append, hl row h1]
  rfl
theorem rin_rowlen {tk : List Int} : ∀ (ps : List (Int × Int)) (l : List (List Int)) (n : Nat), (∀ r ∈ l, r.length = n) → ∀ r ∈ rin tk ps l, r.length = n + ps.length
  | [], l, n, hl => fun r hr => hl r hr
  | (h, f) :: ps, l, n, hl => fun r hr => by
    have := rin_rowlen ps (ext tk h f l) (n + 1) (ext_rowlen hl) r hr
    rw [List.length_cons]
    omega
theorem ext1_snoc {tk : List Int} {h f : Int} {row : List Int} {j : Nat} {p : Int} (e : tk[j]? = some p) : ext1 (tk.take (j + 1)) h f row = ext1 (tk.take j) h f row ++ (if okP h f row p = true then [row ++ [p]] else []) := by
  unfold ext1
  rw [List.take_add_one, e, List.filter_append, List.map_append]
  congr 1
  show ((List.filter (okP h f row) [p]).map _) = _
  rw [List.filter_cons]
  by_cases c : okP h f row p = true
  · rw [if_pos c, if_pos c]
    rfl
  · rw [if_neg c, if_neg c]
    rfl
end Pk
namespace Pk
/-- the greatest -/
def mx : List Int → Int
  | [] => 0
  | [x] => x
  | x :: y :: r => max x (mx (y :: r))
theorem mx_is : ∀ {l : List Int}, l ≠ [] → mx l ∈ l ∧ ∀ x ∈ l, x ≤ mx l
  | [], h => absurd rfl h
  | [x], _ => ⟨by show x ∈ [x]; exact List.mem_singleton.mpr rfl, fun y hy => by rw [List.mem_singleton.mp hy]; exact Int.le_refl x⟩
  | x :: y :: r, _ => by
    obtain ⟨h1, h2⟩ := mx_is (l := y :: r) (by simp)
    have e : mx (x :: y :: r) = max x (mx (y :: r)) := rfl
    rw [e]
    refine ⟨?_, fun z hz => ?_⟩
    · by_cases c : x ≤ mx (y :: r)
      · rw [Int.max_eq_right c]
        exact List.mem_cons_of_mem _ h1
      · rw [Int.max_eq_left (by omega)]
        exact List.mem_cons_self
    · rcases List.mem_cons.mp hz with e | hz
      · rw [e]
        exact Int.le_max_left _ _
      · exact Int.le_trans (h2 z hz) (Int.le_max_right _ _)
theorem mx_uniq {l : List Int} {m : Int} (h1 : m ∈ l) (h2 : ∀ x ∈ l, x ≤ m) : m = mx l := by
  obtain ⟨h3, h4⟩ := mx_is (l := l) (fun e => by rw [e] at h1; cases h1)
  exact Int.le_antisymm (h4 m h1) (h2 _ h3)
/-- the order of tuples of ints -/
def lxl : List Int → List Int → Bool
  | [], [] => false
  | [], _ :: _ => true
  | _ :: _, [] => false
  | x :: xs, y :: ys => if x = y then lxl xs ys else decide (x < y)
/-- (c, r): the least pair (f r, r) of some rows -/
structure IsMin (f : List Int → Int) (rs : List (List Int)) (c : Int) (r : List Int) : Prop where
  mem : r ∈ rs
  val : c = f r
  least : ∀ r' ∈ rs, c ≤ f r'
  first : ∀ r' ∈ rs, f r' = c → lxl r' r = false
theorem lxl_irrefl : ∀ l : List Int, lxl l l = false
  | [] => rfl
  | x :: l => by
    show (if x = x then lxl l l else decide (x < x)) = false
    rw [if_pos rfl]
    exact lxl_irrefl l
theorem lxl_trans : ∀ {a b c : List Int}, lxl a b = true → lxl b c = true → lxl a c = true
  | [], [], _, h, _ => by cases h
  | [], _ :: _, [], _, h => by cases h
  | [], _ :: _, _ :: _, _, _ => rfl
  | _ :: _, [], _, h, _ => by cases h
  | _ :: _, _ :: _, [], _, h => by cases h
  | x :: a, y :: b, z :: c, h1, h2 => by
    have h1 : (if x = y then lxl a b else decide (x < y)) = true := h1
    have h2 : (if y = z then lxl b c else decide (y < z)) = true := h2
    show (if x = z then lxl a c else decide (x < z)) = true
    by_cases e1 : x = y
    · rw [if_pos e1] at h1
      by_cases e2 : y = z
      · rw [if_pos e2] at h2
        rw [if_pos (e1.trans e2)]
        exact lxl_trans h1 h2
      · rw [if_neg e2] at h2
        rw [if_neg (by omega)]
        have := of_decide_eq_true h2
        exact decide_eq_true (by omega)
    · rw [if_neg e1] at h1
      have h1 := of_decide_eq_true h1
      by_cases e2 : y = z
      · rw [if_neg (by omega)]
        exact decide_eq_true (by omega)
      · rw [if_neg e2] at h2
        have h2 := of_decide_eq_true h2
        rw [if_neg (by omega)]
        exact decide_eq_true (by omega)
/-- the order of pairs -/
def pl (p q : Int × List Int) : Bool := if p.1 = q.1 then lxl p.2 q.2 else decide (p.1 < q.1)
theorem pl_irrefl (p : Int × List Int) : pl p p = false := by
  unfold pl
  rw [if_pos rfl]
  exact lxl_irrefl _
theorem pl_trans {p q r : Int × List Int} (h1 : pl p q = true) (h2 : pl q r = true) : pl p r = true := by
  unfold pl at *
  by_cases e1 : p.1 = q.1
  · rw [if_pos e1] at h1
    by_cases e2 : q.1 = r.1
    · rw [if_pos e2] at h2
      rw [if_pos (e1.trans e2)]
      exact lxl_trans h1 h2
    · rw [if_neg e2] at h2
      have := of_decide_eq_true h2
      rw [if_neg (by omega)]
      exact decide_eq_true (by omega)
  · rw [if_neg e1] at h1
    have h1 := of_decide_eq_true h1
    by_cases e2 : q.1 = r.1
    · rw [if_neg (by omega)]
      exact decide_eq_true (by omega)
    · rw [if_neg e2] at h2
      have h2 := of_decide_eq_true h2
      rw [if_neg (by omega)]
      exact decide_eq_true (by omega)
/-- the first least one -/
def minP (x : Int × List Int) (l : List (Int × List Int)) : Int × List Int := l.foldl (fun a y => if pl y a = true then y else a) x
theorem minP_is : ∀ (l : List (Int × List Int)) (x : Int × List Int), minP x l ∈ x :: l ∧ ∀ y ∈ x :: l, pl y (minP x l) = false
  | [], x => ⟨List.mem_singleton.mpr rfl, fun y hy => by rw [List.mem_singleton.mp hy]; exact pl_irrefl x⟩
  | z :: l, x => by
    have e : minP x (z :: l) = minP (if pl z x = true then z else x) l := rfl
    rw [e]
    by_cases c : pl z x = true
    · rw [if_pos c]
      obtain ⟨h1, h2⟩ := minP_is l z
      refine ⟨List.mem_cons_of_mem _ h1, fun y hy => ?_⟩
      rcases List.mem_cons.mp hy with e | hy
      · subst e
        cases q : pl y (minP z l) with
        | false => rfl
        | true =>
          have := pl_trans c q
          rw [h2 z List.mem_cons_self] at this
          cases this
      · exact h2 y hy
    · rw [if_neg c]
      obtain ⟨h1, h2⟩ := minP_is l x
      refine ⟨?_, fun y hy => ?_⟩
      · rcases List.mem_cons.mp h1 with e | h1
        · rw [e]
          exact List.mem_cons_self
        · exact List.mem_cons_of_mem _ (List.mem_cons_of_mem _ h1)
      · rcases List.mem_cons.mp hy with e | hy
        · rw [e]
          exact h2 x List.mem_cons_self
        · rcases List.mem_cons.mp hy with e | hy
          · subst e
            cases q : pl y (minP x l) with
            | false => rfl
            | true =>
              rcases List.mem_cons.mp h1 with e1 | h1
              · rw [e1] at q
                exact absurd q c
              · have h3 := h2 x List.mem_cons_self
                -- y below the least, x not below it: y is below x
                exfalso
                refine c ?_
                unfold pl at q h3 ⊢
                by_cases a1 : y.1 = (minP x l).1
                · rw [if_pos a1] at q
                  by_cases a2 : x.1 = (minP x l).1
                  · rw [if_pos a2] at h3
                    rw [if_pos (a1.trans a2.symm)]
                    exact lxl_le q h3
                  · rw [if_neg a2] at h3
                    have := of_decide_eq_false h3
                    rw [if_neg (by omega)]
                    exact decide_eq_true (by omega)
                · rw [if_neg a1] at q
                  have q := of_decide_eq_true q
                  by_cases a2 : x.1 = (minP x l).1
                  · rw [if_neg (by omega)]
                    exact decide_eq_true (by omega)
                  · rw [if_neg a2] at h3
                    have := of_decide_eq_false h3
                    rw [if_neg (by omega)]
                    exact decide_eq_true (by omega)
          · exact h2 y (List.mem_cons_of_mem _ hy)
where
  lxl_le : ∀ {a b c : List Int}, lxl a b = true → lxl c b = false → lxl a c = true
  | [], [], _, h, _ => by cases h
  | [], _ :: _, [], _, h => by cases h
  | [], _ :: _, _ :: _, _, _ => rfl
  | _ :: _, [], _, h, _ => by cases h
  | _ :: _, _ :: _, [], _, h => by cases h
  | x :: a, y :: b, z :: c, h1, h2 => by
    have h1 : (if x = y then lxl a b else decide (x < y)) = true := h1
    have h2 : (if z = y then lxl c b else decide (z < y)) = false := h2
    show (if x = z then lxl a c else decide (x < z)) = true
    by_cases e1 : x = y
    · rw [if_pos e1] at h1
      by_cases e2 : z = y
      · rw [if_pos e2] at h2
        rw [if_pos (by omega)]
        exact lxl_le h1 h2
      · rw [if_neg e2] at h2
        have := of_decide_eq_false h2
        rw [if_neg (by omega)]
        exact decide_eq_true (by omega)
    · rw [if_neg e1] at h1
      have h1 := of_decide_eq_true h1
      by_cases e2 : z = y
      · rw [if_neg (by omega)]
        exact decide_eq_true (by omega)
      · rw [if_neg e2] at h2
        have h2 := of_decide_eq_false h2
        rw [if_neg (by omega)]
        exact decide_eq_true (by omega)
theorem minP_rows (f : List Int → Int) (r0 : List Int) (rs : List (List Int)) : IsMin f (r0 :: rs) (minP (f r0, r0) (rs.map fun r => (f r, r))).1 (minP (f r0, r0) (rs.map fun r => (f r, r))).2 := by
  obtain ⟨h1, h2⟩ := minP_is (rs.map fun r => (f r, r)) (f r0, r0)
  generalize minP (f r0, r0) (rs.map fun r => (f r, r)) = m at *
  have em : ((f r0, r0) :: rs.map fun r => (f r, r)) = (r0 :: rs).map fun r => (f r, r) := rfl
  rw [em] at h1 h2
  obtain ⟨r, hr, e⟩ := List.mem_map.mp h1
  subst e
  refine ⟨hr, rfl, fun r' hr' => ?_, fun r' hr' e => ?_⟩
  · have := h2 (f r', r') (List.mem_map.mpr ⟨r', hr', rfl⟩)
    unfold pl at this
    by_cases c : f r' = f r
    · show f r ≤ f r'
      omega
    · rw [if_neg c] at this
      have := of_decide_eq_false this
      have this : ¬ f r' < f r := this
      show f r ≤ f r'
      omega
  · have := h2 (f r', r') (List.mem_map.mpr ⟨r', hr', rfl⟩)
    unfold pl at this
    rw [if_pos e] at this
    exact this
end Pk
/-! Parkback: the walks, part 4: taken_in, rest_way, slack, ways_of, unlike. -/
namespace Pk
open PySem PySem.Spec PyProof.Rows L2
section
variable {P : Program} {w : World} {K : PySem.W.Frag} {mg : Str → Option Value} {base : Heap}
theorem scTakenIn : FnScope ["homes", "found", "home", "place"] ["homes"] (defScope sTakenIn) := ⟨rfl, rfl, rfl, by decide +kernel, rfl, by decide +kernel, by decide +kernel⟩
def spTakenIn (K : PySem.W.Frag) : Sp := fun vs H Q _ => ∃ (a : Addr) (hs : List Int), vs = [.ref a] ∧ SqT K H a (hs.map V.int) ∧ hs.length ≤ 7 ∧ ∀ H' p, Same H H' → H p = none → H' p = some (.lst ((taken hs).map V.int)) → Q (.ref p) H'
theorem fill_take {l : List Int} {i : Nat} {x : Int} (h : l[i]? = some x) : fill (l.take (i + 1)) [] = fill (l.take i) [] ++ [ff (fill (l.take i) []) x] := by
  rw [List.take_add_one, h]
  exact fill_snoc (l.take i) x []
theorem dn_takenIn (F : Fd K mg "taken_in" sTakenIn) (B : Bi mg) : Dn P w K mg base "taken_in" ["homes"] 1 (spTakenIn K) := by
  refine dn_mk F scTakenIn (fun _ _ _ _ _ _ us hl => match us, hl with | [_], _ => rfl) (fun vs H Q E h => ?_) (fun f cdv A outer s H vs Q E hr h => ?_)
  · obtain ⟨a, hs, rfl, _⟩ := h
    rfl
  · obtain ⟨a, hs, rfl, hA, hl, q⟩ := h
    have nd := scTakenIn.nd
    refine ⟨_, pss_cons (ps_set (i := 1) nd rfl (.inl rfl) (pe_lst pa_nil))
      (pss_cons (ps_for PassesOwn.never rfl (pi_list (pe_callB cr_sortedT (by rfl) B.sorted (by decide +kernel) (pa_cons (pv 0) pa_nil))) (pg_name (i := 2) nd rfl (.inl rfl))
        (pss_cons (ps_set (i := 3) nd rfl (.inl rfl) (pv 2))
        (pss_cons (ps_while PassesOwn.never (pt_cmpR op_in_seq (pv 3) (pv 1) (by rfl)) (pss_one (ps_aug (i := 3) nd rfl (.inl rfl) pe_int ip_add)))
        (pss_one (ps_expr (pe_bm PySem.F.plainAttrs_list PySem.F.slot_list_append PySem.F.type_list_append mt_append (pv 1) (pa_cons (pv 3) pa_nil)))))))
      (pss_one (ps_ret (pe_callB cr_sortedI (by rfl) B.sorted (by decide +kernel) (pa_cons (pv 1) pa_nil))))), ?_⟩
    refine ⟨Nat.zero_le _, fun o no => ?_⟩
    have s1 : Same H (upd H o (.lst [])) := same_new no
    refine ⟨_, rfl, a, hs, rfl, sqT_same s1 hA, fun ns p hp hs' np => ?_⟩
    obtain rfl : ns = srt hs := srt_uniq hp hs'
    have s2 := s1.trans (same_new (o := .lst ((srt hs).map V.int)) np)
    have nop : o ≠ p := fun z => by
      rw [← z, upd_same] at np
      cases np
    have npp : H p = none := s1.free np
    have eo : (upd (upd H o (.lst [])) p (.lst ((srt hs).map V.int))) o = some (.lst []) := by rw [upd_ne nop, upd_same]
    refine ⟨p, rfl, ⟨_, SqL.of upd_same⟩, ?_⟩
    refine for_list (xs := (srt hs).map V.int) (fun i σ H' => (∃ y2 y3, σ = [some (.ref a), some (.ref o), y2, y3]) ∧ Same H H' ∧ H' p = some (.lst ((srt hs).map V.int)) ∧ H' o = some (.lst ((fill ((srt hs).take i) []).map V.int)))
      ⟨⟨none, none, rfl⟩, s2, upd_same, eo⟩ (fun i σ H' _ hP => SqL.of hP.2.2.1) (fun i x σ H1 hx hP => ?_) (fun σ H1 hP => ?_)
    · obtain ⟨⟨y2, y3, rfl⟩, s3, e1, e2⟩ := hP
      obtain ⟨h, hh, rfl⟩ := get_ints hx
      have hil : i < (srt hs).length := (List.getElem?_eq_some_iff.mp hh).1
      rw [srt_len] at hil
      generalize hf : fill ((srt hs).take i) [] = fo at e2
      refine ⟨_, rfl, ?_⟩
      refine ⟨fun m σ' H' => ∃ pl : Int, σ' = [some (.ref a), some (.ref o), some (.int h), some (.int pl)] ∧ H' = H1 ∧ h ≤ pl ∧ (∀ q, h ≤ q → q < pl → q ∈ fo) ∧ m = above fo pl,
        ⟨_, h, rfl, rfl, Int.le_refl _, fun q h1 h2 => absurd h2 (by omega), rfl⟩, ?_⟩
      rintro m σ' H' ⟨pl, rfl, rfl, hle, hfull, rfl⟩
      refine ⟨_, rfl, _, rfl, o, _, rfl, .inl (SqL.of e2), rfl, flat_ints _, decide (pl ∈ fo), by rw [← inV_ints]; rfl, ite2 (fun e => ?_) (fun e => ?_)⟩
      · have e : pl ∈ fo := of_decide_eq_true e
        refine ⟨fun σ'' H'' => σ'' = [some (.ref a), some (.ref o), some (.int h), some (.int (pl + 1))] ∧ H'' = H', fun σ'' H'' hn => ?_, ?_⟩
        · obtain ⟨rfl, rfl⟩ := hn
          refine ⟨_, above_lt e, pl + 1, rfl, rfl, by omega, fun q h1 h2 => ?_, rfl⟩
          by_cases z : q = pl
          · rw [z]; exact e
          · exact hfull q h1 (by omega)
        · exact ⟨_, rfl, _, _, rfl, rfl, rfl, rfl⟩
      · have e : pl ∉ fo := fun z => e (decide_eq_true z)
        have eff : ff fo h = pl := (ff_is fo h).uniq ⟨hle, e, hfull⟩
        refine ⟨_, rfl, .inl ⟨rfl, _, SqL.of e2⟩, _, rfl, o, _, _, rfl, rfl, e2, ?_, ⟨_, _, rfl⟩, same_put s3 no, ?_, ?_⟩
        · rw [List.length_map, ← hf, fill_len, List.length_take, srt_len]
          exact small1000 (by simp; omega)
        · rw [upd_ne (Ne.symm nop)]
          exact e1
        · rw [upd_same, fill_take hh, hf, eff, List.map_append]
          rfl
    · obtain ⟨⟨y2, y3, rfl⟩, s3, e1, e2⟩ := hP
      rw [List.length_map, List.take_length] at e2
      refine ⟨_, rfl, o, _, rfl, SqL.of e2, fun ns2 p2 hp2 hs2 np2 => ?_⟩
      obtain rfl : ns2 = taken hs := srt_uniq hp2 hs2
      exact q _ p2 (s3.trans (same_new np2)) (s3.free np2) upd_same

theorem scRestWay : FnScope ["street"] ["street"] (defScope sRestWay) := ⟨rfl, rfl, rfl, by decide +kernel, rfl, by decide +kernel, by decide +kernel⟩
def spRestWay (K : PySem.W.Frag) : Sp := fun vs H Q _ => ∃ (v : V) (n : Int) (hs : List Int), vs = [v] ∧ Dp K H v (dS n hs) ∧ IsStreet n hs ∧ ∀ H', Same H H' → Q (.int ((taken hs).sum - hs.sum)) H'
theorem dn_restWay (F : Fd K mg "rest_way" sRestWay) (B : Bi mg) (D1 : Dn P w K mg base "need_street" ["street"] 3 (spNeedStreet K)) (D2 : Dn P w K mg base "taken_in" ["homes"] 1 (spTakenIn K)) : Dn P w K mg base "rest_way" ["street"] 4 (spRestWay K) := by
  refine dn_mk F scRestWay (fun _ _ _ _ _ _ us hl => match us, hl with | [_], _ => rfl) (fun vs H Q E h => ?_) (fun f cdv A outer s H vs Q E hr h => ?_)
  · obtain ⟨v, n, hs, rfl, _⟩ := h
    rfl
  · obtain ⟨v, n, hs, rfl, hd, S, q⟩ := h
    refine ⟨_, pss_cons (ps_expr (pe_d D1 hr (pa_cons (pv 0) pa_nil))) (pss_one (ps_ret (pe_op op_sub
      (pe_callB (cr_sum rfl) (by rfl) B.sum (by decide +kernel) (pa_cons (pe_d D2 hr (pa_cons (pe_ix ix_tup (pv 0) pe_int (fun _ _ => rfl)) pa_nil)) pa_nil))
      (pe_callB (cr_sumT rfl) (by rfl) B.sum (by decide +kernel) (pa_cons (pe_ix ix_tup (pv 0) pe_int (fun _ _ => rfl)) pa_nil))))), ?_⟩
    refine ⟨_, rfl, v, n, hs, rfl, hd, S, fun H1 s1 => ?_⟩
    obtain ⟨a, b, rfl, ha, hb⟩ := dS_inv (dp_same s1 hd)
    refine ⟨_, rfl, a, _, 1, .ref b, rfl, rfl, ha, atI_nat (j := 1) rfl, b, hs, rfl, hb, S.l2, fun H2 p s2 np ep => ?_⟩
    exact ⟨p, _, rfl, SqL.of ep, _, rfl, a, _, 1, .ref b, rfl, rfl, sqT_same s2 ha, atI_nat (j := 1) rfl, b, hs, rfl, sqT_same s2 hb, _, _, rfl, rfl, q _ (s1.trans s2)⟩

theorem scSlack : FnScope ["street", "state"] ["street", "state"] (defScope sSlack) := ⟨rfl, rfl, rfl, by decide +kernel, rfl, by decide +kernel, by decide +kernel⟩
def spSlack (K : PySem.W.Frag) : Sp := fun vs H Q _ => ∃ (v u : V) (n : Int) (hs st : List Int), vs = [v, u] ∧ Dp K H v (dS n hs) ∧ Dp K H u (dT st) ∧ IsState n hs st ∧ ∀ H', Same H H' → Q (.int (st.sum - (taken hs).sum)) H'
theorem dn_slack (F : Fd K mg "slack" sSlack) (B : Bi mg) (D1 : Dn P w K mg base "need_state" ["street", "state"] 4 (spNeedPlaces K)) (D2 : Dn P w K mg base "taken_in" ["homes"] 1 (spTakenIn K)) : Dn P w K mg base "slack" ["street", "state"] 5 (spSlack K) := by
  refine dn_mk F scSlack (fun _ _ _ _ _ _ us hl => match us, hl with | [_, _], _ => rfl) (fun vs H Q E h => ?_) (fun f cdv A outer s H vs Q E hr h => ?_)
  · obtain ⟨v, u, n, hs, st, rfl, _⟩ := h
    rfl
  · obtain ⟨v, u, n, hs, st, rfl, hd, hu, S, q⟩ := h
    refine ⟨_, pss_cons (ps_expr (pe_d D1 hr (pa_cons (pv 0) (pa_cons (pv 1) pa_nil)))) (pss_one (ps_ret (pe_op op_sub
      (pe_callB (cr_sumT rfl) (by rfl) B.sum (by decide +kernel) (pa_cons (pv 1) pa_nil))
      (pe_callB (cr_sum rfl) (by rfl) B.sum (by decide +kernel) (pa_cons (pe_d D2 hr (pa_cons (pe_ix ix_tup (pv 0) pe_int (fun _ _ => rfl)) pa_nil)) pa_nil))))), ?_⟩
    refine ⟨_, rfl, _, rfl, v, u, n, hs, st, rfl, hd, hu, S, fun H1 s1 => ?_⟩
    obtain ⟨a, b, rfl, ha, hb⟩ := dS_inv (dp_same s1 hd)
    obtain ⟨c, rfl, hc⟩ := dT_inv (dp_same s1 hu)
    refine ⟨_, rfl, c, st, rfl, hc, ?_⟩
    refine ⟨_, rfl, a, _, 1, .ref b, rfl, rfl, ha, atI_nat (j := 1) rfl, b, hs, rfl, hb, S.str.l2, fun H2 p s2 np ep => ?_⟩
    exact ⟨p, _, rfl, SqL.of ep, _, _, rfl, rfl, q _ (s1.trans s2)⟩

theorem scWaysOf : FnScope ["street", "rest", "place", "home"] ["street", "rest"] (defScope sWaysOf) := ⟨rfl, rfl, rfl, by decide +kernel, rfl, by decide +kernel, by decide +kernel⟩
def spWaysOf (K : PySem.W.Frag) : Sp := fun vs H Q _ => ∃ (v u : V) (n : Int) (hs r : List Int), vs = [v, u] ∧ Dp K H v (dS n hs) ∧ Dp K H u (dT r) ∧ hs.length = r.length ∧ hs.length ≤ 7 ∧ ∀ H' p, Same H H' → H p = none → H' p = some (.lst ((ways hs r).map V.int)) → Q (.ref p) H'
theorem zw_take {hs r : List Int} {i : Nat} {x y : Int} (hx : r[i]? = some x) (hy : hs[i]? = some y) : (ways hs r).take (i + 1) = (ways hs r).take i ++ [x - y] := by
  have e : (ways hs r)[i]? = some (x - y) := by
    unfold ways
    rw [List.getElem?_zipWith, hx, hy]
  rw [List.take_add_one, e]
  rfl
theorem ways_len {hs r : List Int} (h : hs.length = r.length) : (ways hs r).length = hs.length := by
  unfold ways
  rw [List.length_zipWith, h, Nat.min_self]
theorem dn_waysOf (F : Fd K mg "ways_of" sWaysOf) (B : Bi mg) : Dn P w K mg base "ways_of" ["street", "rest"] 1 (spWaysOf K) := by
  refine dn_mk F scWaysOf (fun _ _ _ _ _ _ us hl => match us, hl with | [_, _], _ => rfl) (fun vs H Q E h => ?_) (fun f cdv A outer s H vs Q E hr h => ?_)
  · obtain ⟨v, u, n, hs, r, rfl, _⟩ := h
    rfl
  · obtain ⟨v, u, n, hs, r, rfl, hd, hu, hl, h7, q⟩ := h
    obtain ⟨a, b, rfl, ha, hb⟩ := dS_inv hd
    obtain ⟨c, rfl, hc⟩ := dT_inv hu
    have nd := scWaysOf.nd
    refine ⟨_, pss_one (ps_ret (pe_lc (own := [("place", 2), ("home", 3)]) (g := gTup K 2 (gCons (gName 2) (gCons (gName 3) gNil))) (tt := tYes) rfl nd (pi_zipB false (by rfl) B.zip (pa_cons (pv 1) (pa_cons (pe_ix ix_tup (pv 0) pe_int (fun _ _ => rfl)) pa_nil)))
      (blkOk_by (N := ["street", "rest", "place", "home"]) (sc := defScope sWaysOf) (by decide +kernel))
      (fun _ _ _ _ _ => pg_tup rfl (pgs_cons (pg_name (i := 2) nd rfl (Or.inl rfl)) (pgs_cons (pg_name (i := 3) nd rfl (Or.inl rfl)) pgs_nil))) (fun _ _ _ _ _ => pts_nil)
      (fun _ _ _ _ _ => pe_op op_sub (pv 2) (pv 3)))), ?_⟩
    have wl := ways_len hl
    refine ⟨_, rfl, _, rfl, a, _, 1, .ref b, rfl, rfl, ha, atI_nat (j := 1) rfl, c, b, _, _, rfl, hc, hb, by rw [List.length_map, List.length_map, hl], fun D nD => ?_⟩
    refine lc_it walk_p (fun i H' => Same H H' ∧ H' D = some (.lst (((ways hs r).take i).map V.int))) ⟨same_new nD, upd_same⟩ (fun i H' _ hP => ⟨sqT_same hP.1 hc, sqT_same hP.1 hb⟩) (fun i x H1 H2 hi hP hY => ?_) (fun H1 hP => ?_)
    · obtain ⟨s1, e1⟩ := hP
      obtain ⟨T, x1, y1, rfl, nT, rfl, h1, h2⟩ := hY
      obtain ⟨p, hp, rfl⟩ := get_ints h1
      obtain ⟨h, hh, rfl⟩ := get_ints h2
      have s2 := s1.trans (same_new (o := .tup [.int p, .int h]) nT)
      refine ⟨T, _, rfl, SqT.of upd_same, rfl, _, _, rfl, _, _, rfl, rfl, rfl, yes_ ?_⟩
      have eD : (upd H1 T (.tup [.int p, .int h])) D = _ := same_new nT _ _ e1
      refine ⟨_, rfl, _, rfl, p, h, rfl, rfl, _, eD, ?_, same_put s2 nD, ?_⟩
      · rw [List.length_map, List.length_take]
        exact small1000 (by omega)
      · rw [upd_same, zw_take hp hh, List.map_append]
        rfl
    · obtain ⟨s1, e1⟩ := hP
      rw [List.length_map, ← hl, ← wl, List.take_length] at e1
      exact q _ D s1 nD e1

theorem scUnlike : FnScope ["one", "other", "car"] ["one", "other"] (defScope sUnlike) := ⟨rfl, rfl, rfl, by decide +kernel, rfl, by decide +kernel, by decide +kernel⟩
def spUnlike (K : PySem.W.Frag) : Sp := fun vs H Q _ => ∃ (v u : V) (a b : List Int), vs = [v, u] ∧ Dp K H v (dT a) ∧ Dp K H u (dT b) ∧ a.length = b.length ∧ a.length ≤ 7 ∧ ∀ H' p, Same H H' → H p = none → H' p = some (.lst ((unl a b).map fun c => V.int (c : Nat))) → Q (.ref p) H'
abbrev teUnlike (K : PySem.W.Frag) : TT := tTest (tOp rNe (tOp (rIxT K) (tVar 0) (tVar 2)) (tOp (rIxT K) (tVar 1) (tVar 2)))
def unlN (a b : List Int) (i : Nat) : List Nat := (List.range i).filter fun c => !decide (a[c]? = b[c]?)
theorem unlN_succ (a b : List Int) (i : Nat) : unlN a b (i + 1) = unlN a b i ++ (if a[i]? = b[i]? then [] else [i]) := by
  unfold unlN
  rw [List.range_succ, List.filter_append, List.filter_cons]
  by_cases h : a[i]? = b[i]?
  · rw [if_pos h, if_neg (by simp [h])]
    rfl
  · rw [if_neg h, if_pos (by simp [h])]
    rfl
theorem dn_unlike (F : Fd K mg "unlike" sUnlike) (B : Bi mg) : Dn P w K mg base "unlike" ["one", "other"] 1 (spUnlike K) := by
  refine dn_mk F scUnlike (fun _ _ _ _ _ _ us hl => match us, hl with | [_, _], _ => rfl) (fun vs H Q E h => ?_) (fun f cdv A outer s H vs Q E hr h => ?_)
  · obtain ⟨v, u, a, b, rfl, _⟩ := h
    rfl
  · obtain ⟨v, u, xs, ys, rfl, hv, hu, hl, h7, q⟩ := h
    obtain ⟨a, rfl, ha⟩ := dT_inv hv
    obtain ⟨b, rfl, hb⟩ := dT_inv hu
    have nd := scUnlike.nd
    refine ⟨_, pss_one (ps_ret (pe_lc (own := [("car", 2)]) (g := gName 2) (tt := teUnlike K) rfl nd (pi_range1 rfl B.range (pa_cons (pe_callB call_len_seq (by rfl) B.len boot_len (pa_cons (pv 0) pa_nil)) pa_nil))
      (blkOk_by (N := ["one", "other", "car"]) (sc := defScope sUnlike) (by decide +kernel))
      (fun _ _ _ _ _ => pg_name (i := 2) nd rfl (Or.inl rfl)) (fun _ _ _ _ _ => pts_one (pt_cmpR op_ne (pe_ix ix_tup (pv 0) (pv 2) (fun _ _ => rfl)) (pe_ix ix_tup (pv 1) (pv 2) (fun _ _ => rfl)) (nomark _)))
      (fun _ _ _ _ _ => pv 2))), ?_⟩
    refine ⟨_, rfl, a, _, rfl, .inr ha, _, rfl, by omega, by rw [List.length_map]; omega, fun D nD => ?_⟩
    refine lc_range (lo := 0) (fun i H' => Same H H' ∧ H' D = some (.lst ((unlN xs ys i).map fun c => V.int (c : Nat)))) ⟨same_new nD, upd_same⟩ (fun i H1 hi hP => ?_) (fun H1 hP => ?_)
    · obtain ⟨s1, e1⟩ := hP
      rw [List.length_map, Int.toNat_natCast] at hi
      have hi2 : i < ys.length := by omega
      have z : (0 : Int) + (i : Nat) = (i : Nat) := Int.zero_add _
      have g1 : xs[i]? = some xs[i] := List.getElem?_eq_getElem hi
      have g2 : ys[i]? = some ys[i] := List.getElem?_eq_getElem hi2
      refine ⟨rfl, ?_⟩
      refine ⟨_, rfl, _, rfl, a, _, _, .int xs[i], rfl, rfl, sqT_same s1 ha, by rw [z]; exact atI_nat (ints_get g1), _, rfl, _, rfl, b, _, _, .int ys[i], rfl, rfl, sqT_same s1 hb, by rw [z]; exact atI_nat (ints_get g2), rfl, _, rfl, ite2 (fun e => ?_) (fun e => ?_)⟩
      · have ne : ¬ xs[i]? = ys[i]? := fun c => by
          rw [g1, g2] at c
          rw [Option.some.inj c, decide_eq_true rfl] at e
          cases e
        refine ⟨_, rfl, _, e1, ?_, same_put s1 nD, ?_⟩
        · rw [List.length_map]
          have := List.length_filter_le (fun c => !decide (xs[c]? = ys[c]?)) (List.range i)
          rw [List.length_range] at this
          exact small1000 (by unfold unlN; omega)
        · rw [upd_same, unlN_succ, if_neg ne, List.map_append, z]
          rfl
      · have eq : xs[i]? = ys[i]? := by
          rw [g1, g2]
          by_cases c : xs[i] = ys[i]
          · rw [c]
          · rw [decide_eq_false (fun z => c (V.int.inj z))] at e
            exact absurd rfl e
        refine ⟨s1, ?_⟩
        rw [unlN_succ, if_pos eq, List.append_nil]
        exact e1
    · obtain ⟨s1, e1⟩ := hP
      rw [List.length_map, Int.toNat_natCast] at e1
      exact q _ D s1 nD e1
end
end Pk
/-! Parkback: the walks, part 5: rests_in, rests_from. -/
namespace Pk
open PySem PySem.Spec PyProof.Rows L2
/-- a list of tuples of ints -/
def RowsAt (K : PySem.W.Frag) (H : Hp) (p : Addr) (rs : List (List Int)) : Prop := ∃ xs, H p = some (.lst xs) ∧ DpAll K H xs (rs.map dT)
theorem RowsAt.same {K : PySem.W.Frag} {H H' : Hp} {p : Addr} {rs : List (List Int)} (s : Same H H') (h : RowsAt K H p rs) : RowsAt K H' p rs := by
  obtain ⟨xs, e, d⟩ := h
  exact ⟨xs, s _ _ e, dpAll_same s d⟩
theorem flat_rows (rs : List (List Int)) : flatDs (rs.map dT) = true := flatDs_map flat_dT rs
/-- a row more -/
theorem RowsAt.app {K : PySem.W.Frag} {H : Hp} {p : Addr} {rs : List (List Int)} {xs : List V} {v : V} {r : List Int} (e : H p = some (.lst xs)) (d : DpAll K H xs (rs.map dT)) (hv : Dp K H v (dT r)) : RowsAt K (upd H p (.lst (xs ++ [v]))) p (rs ++ [r]) := by
  have st : SameT H (upd H p (.lst (xs ++ [v]))) := sameT_upd e rfl
  refine ⟨_, upd_same, ?_⟩
  rw [List.map_append]
  exact dpAll_snoc (dpAll_sameT st (flat_rows rs) d) (dp_sameT st (flat_dT r) hv)
section
variable {P : Program} {w : World} {K : PySem.W.Frag} {mg : Str → Option Value} {base : Heap}
theorem scRestsIn : FnScope ["street", "state", "taken", "found", "home", "far", "row", "place"] ["street", "state"] (defScope sRestsIn) := ⟨rfl, rfl, rfl, by decide +kernel, rfl, by decide +kernel, by decide +kernel⟩
def spRestsIn (K : PySem.W.Frag) : Sp := fun vs H Q _ => ∃ (v u : V) (n : Int) (hs st : List Int), vs = [v, u] ∧ Dp K H v (dS n hs) ∧ Dp K H u (dT st) ∧ IsState n hs st ∧ ∀ H' p, Same H H' → H p = none → RowsAt K H' p (restsIn hs st) → Q (.ref p) H'
abbrev ttRest (K : PySem.W.Frag) : TT := tAnd (tTest (tChain rLe rLe (tVar 4) (tVar 7) (tVar 5))) (tTest (tOp (rIn K true) (tVar 7) (tVar 6)))
abbrev teRest (K : PySem.W.Frag) : TE := tTup (StX.tStar K (tVar 6) (tCons (tVar 7) tNil))
theorem pow7 {n k : Nat} (h : k ≤ 7) (h2 : n ≤ 7 ^ k) : n ≤ 823543 := Nat.le_trans h2 (Nat.le_trans (Nat.pow_le_pow_right (by decide) h) (by decide))
theorem dn_restsIn (F : Fd K mg "rests_in" sRestsIn) (B : Bi mg) (D2 : Dn P w K mg base "taken_in" ["homes"] 1 (spTakenIn K)) : Dn P w K mg base "rests_in" ["street", "state"] 2 (spRestsIn K) := by
  refine dn_mk F scRestsIn (fun _ _ _ _ _ _ us hl => match us, hl with | [_, _], _ => rfl) (fun vs H Q E h => ?_) (fun f cdv A outer s H vs Q E hr h => ?_)
  · obtain ⟨v, u, n, hs, st, rfl, _⟩ := h
    rfl
  · obtain ⟨v, u, n, hs, st, rfl, hd, hu, S, q⟩ := h
    obtain ⟨a, b, rfl, ha, hb⟩ := dS_inv hd
    obtain ⟨c, rfl, hc⟩ := dT_inv hu
    have nd := scRestsIn.nd
    refine ⟨_, pss_cons (ps_asg (pe_tup (pa_cons (pe_d D2 hr (pa_cons (pe_ix ix_tup (pv 0) pe_int (fun _ _ => rfl)) pa_nil)) (pa_cons (pe_lst (pa_cons (pe_tup pa_nil) pa_nil)) pa_nil)))
        (pg_tup rfl (pgs_cons (pg_name (i := 2) nd rfl (.inr rfl)) (pgs_cons (pg_name (i := 3) nd rfl (.inl rfl)) pgs_nil))))
      (pss_cons (ps_for PassesOwn.never rfl (pi_zipB false (by rfl) B.zip (pa_cons (pe_ix ix_tup (pv 0) pe_int (fun _ _ => rfl)) (pa_cons (pv 1) pa_nil))) (pg_tup rfl (pgs_cons (pg_name (i := 4) nd rfl (.inr rfl)) (pgs_cons (pg_name (i := 5) nd rfl (.inr rfl)) pgs_nil)))
        (pss_one (ps_setLc2 (i := 3) (own := [("row", 6), ("place", 7)]) (vs1 := [7]) (g := gName 6) (g1 := gName 7) (tt := tYes) (wi1 := iList K (tVar 2)) (tt1 := ttRest K) (te := teRest K) rfl nd rfl rfl (sw_true rfl rfl rfl (by decide +kernel)) (pi_list (pv 3))
          (blkOk_by (N := ["street", "state", "taken", "found", "home", "far", "row", "place"]) (sc := defScope sRestsIn) (by decide +kernel)) (by decide)
          (fun _ _ _ _ _ => pg_name (i := 6) nd rfl (Or.inl rfl)) (fun _ _ _ _ _ => pts_nil) (fun _ _ _ _ _ => pi_list (pv 2)) (fun _ _ _ _ _ => pg_name (i := 7) nd rfl (Or.inl rfl))
          (fun _ _ _ _ _ => pts_one (PW.pt (pw_and (pt_chain op_le op_le (pv 4) (pv 7) (pv 5)) (pw_and1 (pt_cmpR op_notIn_seq (pv 7) (pv 6) (by rfl))))))
          (fun _ _ _ _ _ => pe_tup (StX.pa_star (pv 6) (pa_cons (pv 7) pa_nil))))))
      (pss_one (ps_ret (pv 3)))), ?_⟩
    have l7 := S.str.l2
    have hl := S.ok.len
    refine ⟨_, rfl, a, _, 1, .ref b, rfl, rfl, ha, atI_nat (j := 1) rfl, b, hs, rfl, hb, l7, fun H1 pt s1 npt ept => ?_⟩
    refine ⟨Nat.zero_le _, fun pe npe => ⟨by show 1 ≤ sizeLine; decide, fun pf npf => ⟨by show 2 ≤ sizeLine; decide, fun pp npp => ?_⟩⟩⟩
    refine ⟨pp, _, rfl, SqT.of upd_same, rfl, _, _, rfl, _, _, rfl, rfl, ?_⟩
    have k1 : Same H1 (upd H1 pe (.tup [])) := same_new npe
    have k2 : Same (upd H1 pe (.tup [])) (upd (upd H1 pe (.tup [])) pf (.lst [.ref pe])) := same_new npf
    have k3 : Same _ (upd (upd (upd H1 pe (.tup [])) pf (.lst [.ref pe])) pp (.tup [.ref pt, .ref pf])) := same_new npp
    have s4 := ((s1.trans k1).trans k2).trans k3
    have et := k3 _ _ (k2 _ _ (k1 _ _ ept))
    have hf : RowsAt K (upd (upd (upd H1 pe (.tup [])) pf (.lst [.ref pe])) pp (.tup [.ref pt, .ref pf])) pf [[]] :=
      ⟨[.ref pe], k3 _ _ upd_same, .cons (dp_tup (ns := []) (SqT.of (k3 _ _ (k2 _ _ upd_same)))) .nil⟩
    have npf0 : H pf = none := (s1.trans k1).free npf
    generalize (upd (upd (upd H1 pe (.tup [])) pf (.lst [.ref pe])) pp (.tup [.ref pt, .ref pf])) = H4 at s4 et hf
    clear k1 k2 k3 npe npf npp
    have npt' : H pt = none := npt
    refine ⟨_, rfl, a, _, 1, .ref b, rfl, rfl, sqT_same s4 ha, atI_nat (j := 1) rfl, _, rfl, b, c, _, _, rfl, sqT_same s4 hb, sqT_same s4 hc, by rw [List.length_map, List.length_map, hl], ?_⟩
    refine for_it walk_p (fun i σ H' => (∃ pf y4 y5, σ = [some (.ref a), some (.ref c), some (.ref pt), some (.ref pf), y4, y5, none, none] ∧ H pf = none ∧ RowsAt K H' pf (rin (taken hs) ((hs.zip st).take i) [[]])) ∧ Same H H' ∧ H' pt = some (.lst ((taken hs).map V.int)))
      ⟨⟨pf, none, none, rfl, npf0, hf⟩, s4, et⟩ (fun i σ H' _ hP => ⟨sqT_same hP.2.1 hb, sqT_same hP.2.1 hc⟩) (fun i x σ H5 H6 hi hP hY => ?_) (fun σ H5 hP => ?_)
    · obtain ⟨⟨pf, y4, y5, rfl, npf, hR⟩, s5, et5⟩ := hP
      obtain ⟨T, x1, y1, rfl, nT, rfl, h1, h2⟩ := hY
      obtain ⟨h, hh, rfl⟩ := get_ints h1
      obtain ⟨f, hf, rfl⟩ := get_ints h2
      rw [List.length_map] at hi
      have kT : Same H5 (upd H5 T (.tup [.int h, .int f])) := same_new nT
      refine ⟨T, _, rfl, SqT.of upd_same, rfl, _, _, rfl, _, _, rfl, rfl, ?_⟩
      have s6 := s5.trans kT
      have et6 := kT _ _ et5
      have hR6 := hR.same kT
      generalize (upd H5 T (.tup [.int h, .int f])) = H6 at s6 et6 hR6
      clear nT kT
      have ez : (hs.zip st)[i]? = some (h, f) := List.getElem?_zip_eq_some.mpr ⟨hh, hf⟩
      have etk : (hs.zip st).take (i + 1) = (hs.zip st).take i ++ [(h, f)] := by
        rw [List.take_add_one, ez]
        rfl
      have hlen := rin_rowlen (tk := taken hs) ((hs.zip st).take i) [[]] 0 (fun r hr => by
        rw [List.mem_singleton.mp hr]
        rfl)
      have hcnt := rin_len (taken hs) ((hs.zip st).take i) [[]]
      have hzi : ((hs.zip st).take i).length = i := by
        rw [List.length_take, List.length_zip]
        omega
      rw [hzi, Nat.zero_add] at hlen
      rw [hzi, taken_len] at hcnt
      have hcnt : (rin (taken hs) ((hs.zip st).take i) [[]]).length ≤ 117649 := by
        refine Nat.le_trans hcnt ?_
        show 1 * hs.length ^ i ≤ 117649
        rw [Nat.one_mul]
        exact Nat.le_trans (Nat.pow_le_pow_left l7 i) (Nat.le_trans (Nat.pow_le_pow_right (by decide) (show i ≤ 6 by omega)) (by decide))
      rw [etk, rin_snoc]
      generalize rin (taken hs) ((hs.zip st).take i) [[]] = rows at hR6 hlen hcnt
      obtain ⟨xs, ef, df⟩ := hR6
      have hxl : xs.length = rows.length := by rw [dpAll_len df, List.length_map]
      have tl := taken_len hs
      refine ⟨_, rfl, pf, rfl, ⟨_, SqL.of ef⟩, fun D nD => ?_⟩
      refine ⟨fun i' m H' => i' + m = rows.length ∧ Same H6 H' ∧ RowsAt K H' D (ext (taken hs) h f (rows.take i')), ⟨rows.length, Nat.zero_add _, same_new nD, [], upd_same, .nil⟩, fun i' m H7 hW => ?_⟩
      obtain ⟨em, s7, hD⟩ := hW
      by_cases hi' : i' < rows.length
      · obtain ⟨v, hv, dv⟩ := dpAll_get' df (show (rows.map dT)[i']? = some (dT rows[i']) by rw [List.getElem?_map, List.getElem?_eq_getElem hi']; rfl)
        refine .inr ⟨⟨xs, v, SqL.of (s7 _ _ ef), hv⟩, fun H' => Same H6 H' ∧ RowsAt K H' D (ext (taken hs) h f (rows.take (i' + 1))), fun H' hn => ⟨m - 1, by omega, by omega, hn⟩, fun x H' hy => ?_⟩
        obtain ⟨rfl, fv⟩ := hy
        have ex : x = v := Option.some.inj ((fv _ (SqL.of (s7 _ _ ef))).symm.trans hv)
        subst ex
        obtain ⟨pr, rfl, hpr⟩ := dT_inv dv
        have rl : (rows[i']).length = i := hlen _ (List.getElem_mem hi')
        have er : rows.take (i' + 1) = rows.take i' ++ [rows[i']] := by
          rw [List.take_add_one, List.getElem?_eq_getElem hi']
          rfl
        rw [er, ext_snoc]
        have pl : (ext (taken hs) h f (rows.take i')).length ≤ 823543 := by
          refine Nat.le_trans (ext_len _ _ _ _) ?_
          rw [tl, List.length_take]
          refine Nat.le_trans (Nat.mul_le_mul (show min i' rows.length ≤ 117649 by omega) l7) (by decide)
        generalize rows[i'] = row at hpr rl
        generalize ext (taken hs) h f (rows.take i') = pre at hD pl
        refine ⟨rfl, yes_ ?_⟩
        refine ⟨_, rfl, pt, rfl, ⟨_, SqL.of (s7 _ _ et6)⟩, fun j k H' => j + k = (taken hs).length ∧ Same H6 H' ∧ RowsAt K H' D (pre ++ ext1 ((taken hs).take j) h f row), ⟨(taken hs).length, Nat.zero_add _, s7, by
          have e0 : ext1 ((taken hs).take 0) h f row = [] := rfl
          rw [e0, List.append_nil]
          exact hD⟩, fun j k H8 hW1 => ?_⟩
        obtain ⟨ek, s8, hD8⟩ := hW1
        by_cases hj : j < (taken hs).length
        · have gp : (taken hs)[j]? = some (taken hs)[j] := List.getElem?_eq_getElem hj
          generalize (taken hs)[j] = p at gp
          refine .inr ⟨⟨_, .int p, SqL.of (s8 _ _ et6), ints_get gp⟩, fun H' => Same H6 H' ∧ RowsAt K H' D (pre ++ ext1 ((taken hs).take (j + 1)) h f row), fun H' hn => ⟨k - 1, by omega, by omega, hn⟩, fun x H' hy => ?_⟩
          obtain ⟨rfl, fv⟩ := hy
          have ex : x = .int p := Option.some.inj ((fv _ (SqL.of (s8 _ _ et6))).symm.trans (ints_get gp))
          subst ex
          rw [ext1_snoc gp]
          refine ⟨rfl, ?_⟩
          have no : ∀ {H' : Hp}, okP h f row p = false → Same H6 H' → RowsAt K H' D (pre ++ ext1 ((taken hs).take j) h f row) → Same H6 H' ∧ RowsAt K H' D (pre ++ (ext1 ((taken hs).take j) h f row ++ if okP h f row p = true then [row ++ [p]] else [])) := fun {H'} c sx hx => by
            rw [if_neg (by rw [c]; exact Bool.false_ne_true), List.append_nil]
            exact ⟨sx, hx⟩
          refine ⟨_, rfl, _, rfl, h, p, rfl, rfl, _, rfl, ite2 (fun e1 => ?_) (fun e1 => ?_)⟩
          · have e1 : h ≤ p := of_decide_eq_true e1
            refine ⟨_, rfl, p, f, rfl, rfl, _, rfl, ite2 (fun e2 => ?_) (fun e2 => ?_)⟩
            · have e2 : p ≤ f := of_decide_eq_true e2
              refine ⟨_, rfl, _, rfl, pr, _, rfl, .inr (sqT_same s8 hpr), rfl, flat_ints _, !decide (p ∈ row), by rw [← inV_ints]; rfl, ite2 (fun e3 => ?_) (fun e3 => ?_)⟩
              · have e3 : decide (p ∈ row) = false := by
                  cases z : decide (p ∈ row) with
                  | true =>
                    rw [z] at e3
                    cases e3
                  | false => rfl
                have ok : okP h f row p = true := by
                  unfold okP
                  rw [decide_eq_true ⟨e1, e2⟩, e3]
                  rfl
                refine ⟨_, rfl, pr, _, rfl, .inl (sqT_same s8 hpr), _, rfl, ?_, fun pn npn => ?_⟩
                · rw [List.length_append, List.length_map, rl]
                  exact Nat.le_of_lt (small1000 (by show i + 1 ≤ 1000; omega))
                · obtain ⟨acc, eD, dD⟩ := hD8
                  have kn : Same H' (upd H' pn (.tup (row.map V.int ++ [.int p]))) := same_new npn
                  have hv2 : Dp K (upd H' pn (.tup (row.map V.int ++ [.int p]))) (.ref pn) (dT (row ++ [p])) := by
                    refine dp_tup (SqT.of ?_)
                    rw [upd_same, List.map_append]
                    rfl
                  refine ⟨acc, kn _ _ eD, ?_, same_put (s8.trans kn) nD, ?_⟩
                  · rw [dpAll_len dD, List.length_map, List.length_append, sizeLine_eq]
                    have z := ext1_len ((taken hs).take j) h f row
                    rw [List.length_take] at z
                    omega
                  · rw [if_pos ok, ← List.append_assoc]
                    exact RowsAt.app (kn _ _ eD) (dpAll_same kn dD) hv2
              · have e3 : decide (p ∈ row) = true := by
                  cases z : decide (p ∈ row) with
                  | true => rfl
                  | false =>
                    rw [z] at e3
                    exact absurd rfl e3
                refine no ?_ s8 hD8
                unfold okP
                rw [e3, Bool.not_true, Bool.and_false]
            · refine no ?_ s8 hD8
              unfold okP
              rw [decide_eq_false (fun z => e2 (decide_eq_true z.2)), Bool.false_and]
          · refine ⟨_, rfl, iteF (iteF (no ?_ s8 hD8))⟩
            unfold okP
            rw [decide_eq_false (fun z => e1 (decide_eq_true z.1)), Bool.false_and]
        · refine .inl ⟨⟨_, SqL.of (s8 _ _ et6), by rw [List.length_map]; omega⟩, s8, ?_⟩
          rw [List.take_of_length_le (by omega)] at hD8
          exact hD8
      · refine .inl ⟨⟨xs, SqL.of (s7 _ _ ef), by omega⟩, ⟨D, some (.int h), some (.int f), rfl, s6.free nD, ?_⟩, s6.trans s7, s7 _ _ et6⟩
        rw [List.take_of_length_le (by omega)] at hD
        exact hD
    · obtain ⟨⟨pf, y4, y5, rfl, npf, hR⟩, s5, et5⟩ := hP
      rw [List.length_map, List.take_of_length_le (by rw [List.length_zip]; omega)] at hR
      exact ⟨_, rfl, q _ pf s5 npf hR⟩

theorem scRestsFrom : FnScope ["street", "state"] ["street", "state"] (defScope sRestsFrom) := ⟨rfl, rfl, rfl, by decide +kernel, rfl, by decide +kernel, by decide +kernel⟩
theorem dn_restsFrom (F : Fd K mg "rests_from" sRestsFrom) (D1 : Dn P w K mg base "need_state" ["street", "state"] 4 (spNeedPlaces K)) (D2 : Dn P w K mg base "rests_in" ["street", "state"] 2 (spRestsIn K)) : Dn P w K mg base "rests_from" ["street", "state"] 5 (spRestsIn K) := by
  refine dn_mk F scRestsFrom (fun _ _ _ _ _ _ us hl => match us, hl with | [_, _], _ => rfl) (fun vs H Q E h => ?_) (fun f cdv A outer s H vs Q E hr h => ?_)
  · obtain ⟨v, u, n, hs, st, rfl, _⟩ := h
    rfl
  · obtain ⟨v, u, n, hs, st, rfl, hd, hu, S, q⟩ := h
    refine ⟨_, pss_cons (ps_expr (pe_d D1 hr (pa_cons (pv 0) (pa_cons (pv 1) pa_nil)))) (pss_one (ps_ret (pe_d D2 hr (pa_cons (pv 0) (pa_cons (pv 1) pa_nil))))), ?_⟩
    refine ⟨_, rfl, _, rfl, v, u, n, hs, st, rfl, hd, hu, S, fun H1 s1 => ?_⟩
    exact ⟨_, rfl, _, rfl, v, u, n, hs, st, rfl, dp_same s1 hd, dp_same s1 hu, S, fun H2 p s2 np hR => q _ p (s1.trans s2) (s1.free np) hR⟩
end
end Pk
/-! Parkback: the walks, part 6: pairs (number, rest), their least; fairest, squarest, most_home, best_for, worst_for. -/
namespace Pk
open PySem PySem.Spec PyProof.Rows L2

def dP (c : Int) (r : List Int) : PyData := .tuple [.int c, dT r]
theorem flat_dP (c : Int) (r : List Int) : flatD (dP c r) = true := by
  unfold dP flatD flatDs flatDs flatDs
  rw [flat_dT]
  simp [flatD]
theorem dP_inv {K : PySem.W.Frag} {H : Hp} {v : V} {c : Int} {r : List Int} (h : Dp K H v (dP c r)) : ∃ a u, v = .ref a ∧ SqT K H a [.int c, u] ∧ Dp K H u (dT r) := by
  cases h with
  | tup hs ha =>
    cases ha with
    | cons h1 h2 =>
      cases h1
      cases h2 with
      | cons h3 h4 =>
        cases h4
        exact ⟨_, _, rfl, hs, h3⟩
abbrev PrT : Type := Int × PySem.W.Tup Int
theorem listLt_lxl : ∀ a b : List Int, PySem.W.listLt a b = lxl a b
  | [], [] => rfl
  | [], _ :: _ => rfl
  | _ :: _, [] => rfl
  | x :: a, y :: b => by
    show (if x = y then PySem.W.listLt a b else decide (x < y)) = (if x = y then lxl a b else decide (x < y))
    rw [listLt_lxl a b]
theorem minOf_eq : ∀ (l : List (Int × List Int)) (x : Int × List Int), PySem.W.minOf (α := PrT) (x.1, ⟨x.2⟩) (l.map fun p => ((p.1, ⟨p.2⟩) : PrT)) = ((minP x l).1, ⟨(minP x l).2⟩)
  | [], _ => rfl
  | y :: l, x => by
    have e1 : minP x (y :: l) = minP (if pl y x = true then y else x) l := rfl
    have e2 : PySem.W.minOf (α := PrT) (x.1, ⟨x.2⟩) ((y :: l).map fun p => ((p.1, ⟨p.2⟩) : PrT)) = PySem.W.minOf (α := PrT) (if PySem.W.DatumOrd.lt ((y.1, ⟨y.2⟩) : PrT) (x.1, ⟨x.2⟩) = true then (y.1, ⟨y.2⟩) else (x.1, ⟨x.2⟩)) (l.map fun p => ((p.1, ⟨p.2⟩) : PrT)) := rfl
    have e3 : PySem.W.DatumOrd.lt ((y.1, ⟨y.2⟩) : PrT) (x.1, ⟨x.2⟩) = pl y x := by
      show (if y.1 = x.1 then PySem.W.listLt y.2 x.2 else decide (y.1 < x.1)) = pl y x
      rw [listLt_lxl]
      rfl
    rw [e1, e2, e3]
    by_cases c : pl y x = true
    · rw [if_pos c, if_pos c]
      exact minOf_eq l y
    · rw [if_neg c, if_neg c]
      exact minOf_eq l x
theorem toD_pr (c : Int) (r : List Int) : PySem.W.Datum.toD ((c, ⟨r⟩) : PrT) = dP c r := rfl
/-- pairs (f r, r) of some rows -/
def PairsAt (K : PySem.W.Frag) (H : Hp) (p : Addr) (f : List Int → Int) (rs : List (List Int)) : Prop := ∃ xs, H p = some (.lst xs) ∧ DpAll K H xs (rs.map fun r => dP (f r) r)
theorem flat_pairs (f : List Int → Int) (rs : List (List Int)) : flatDs (rs.map fun r => dP (f r) r) = true := flatDs_map (fun r => flat_dP (f r) r) rs
theorem PairsAt.app {K : PySem.W.Frag} {H : Hp} {p : Addr} {f : List Int → Int} {rs : List (List Int)} {xs : List V} {v : V} {r : List Int} (e : H p = some (.lst xs)) (d : DpAll K H xs (rs.map fun r => dP (f r) r)) (hv : Dp K H v (dP (f r) r)) :
    PairsAt K (upd H p (.lst (xs ++ [v]))) p f (rs ++ [r]) := by
  have st : SameT H (upd H p (.lst (xs ++ [v]))) := sameT_upd e rfl
  refine ⟨_, upd_same, ?_⟩
  rw [List.map_append]
  exact dpAll_snoc (dpAll_sameT st (flat_pairs f rs) d) (dp_sameT st (flat_dP (f r) r) hv)
/-- min of such a list -/
theorem min_pairs {K : PySem.W.Frag} {H : Hp} {p : Addr} {f : List Int → Int} {rs : List (List Int)} {Q : VK} (h : PairsAt K H p f rs) (hne : rs ≠ []) (q : ∀ v c r, Dp K H v (dP c r) → IsMin f rs c r → Q v H) : rMinD K [V.ref p] H Q := by
  obtain ⟨xs, e, d⟩ := h
  cases rs with
  | nil => exact absurd rfl hne
  | cons r0 rs =>
    have e1 : ((r0 :: rs).map fun r => dP (f r) r) = ((r0 :: rs).map fun r => ((f r, ⟨r⟩) : PrT)).map PySem.W.Datum.toD := by
      rw [List.map_map]
      rfl
    refine ⟨p, xs, dP (f r0) r0, rs.map fun r => dP (f r) r, rfl, SqL.of e, d, ?_, ?_, fun v _ hv => ?_⟩
    · have z := PySem.W.alikeAll_datum ((r0 :: rs).map fun r => ((f r, ⟨r⟩) : PrT))
      rw [← e1] at z
      exact z
    · have z := PySem.W.depthAll_map ((r0 :: rs).map fun r => ((f r, ⟨r⟩) : PrT))
      rw [← e1] at z
      exact Nat.le_trans z (by decide)
    · have z : PySem.W.minD (dP (f r0) r0) (rs.map fun r => dP (f r) r) = dP (minP (f r0, r0) (rs.map fun r => (f r, r))).1 (minP (f r0, r0) (rs.map fun r => (f r, r))).2 := by
        have z1 : (rs.map fun r => dP (f r) r) = ((rs.map fun r => (f r, r)).map fun p => ((p.1, ⟨p.2⟩) : PrT)).map PySem.W.Datum.toD := by
          rw [List.map_map, List.map_map]
          rfl
        rw [z1]
        show PySem.W.minD (PySem.W.Datum.toD ((f r0, ⟨r0⟩) : PrT)) _ = _
        rw [PySem.W.minD_map]
        have z2 := minOf_eq (rs.map fun r => (f r, r)) (f r0, r0)
        have z3 : PySem.W.minOf (α := PrT) (f r0, ⟨r0⟩) ((rs.map fun r => (f r, r)).map fun p => ((p.1, ⟨p.2⟩) : PrT)) = ((minP (f r0, r0) (rs.map fun r => (f r, r))).1, ⟨(minP (f r0, r0) (rs.map fun r => (f r, r))).2⟩) := z2
        rw [z3]
        rfl
      rw [z] at hv
      exact q v _ _ hv (minP_rows f r0 rs)

/-! ### a comprehension over rows that makes pairs -/
theorem wipe_one (σ : L2.St) (k : Nat) (x : Option V) : wipe ((wipe σ [k]).set k x) [k] = wipe σ [k] := by
  show ((σ.set k none).set k x).set k none = σ.set k none
  rw [List.set_set, List.set_set]
theorem lc_pairs {K : PySem.W.Frag} {p : Addr} {rs : List (List Int)} {f : List Int → Int} {te : TE} {k : Nat} {σ : L2.St} {H1 : Hp} {D : Addr} {Qd : Hp → Prop} (hR : RowsAt K H1 p rs) (nD : H1 D = none) (hlen : rs.length ≤ 1000000)
    (turn : ∀ (u : V) (r : List Int) (H2 : Hp) (Q' : VK), r ∈ rs → Same H1 H2 → Dp K H2 u (dT r) → (∀ y H4, Same H2 H4 → Dp K H4 y (dP (f r) r) → Q' y H4) → te ((wipe σ [k]).set k (some u)) H2 Q')
    (hd : ∀ H', Same H1 H' → PairsAt K H' D f rs → Qd H') :
    ∃ W : Nat → Nat → Hp → Prop, (∃ m, W 0 m (upd H1 D (.lst []))) ∧ ∀ i m H, W i m H →
      ((Itl K p).stop i H ∧ Qd H) ∨ ((Itl K p).go i H ∧ ∃ Nx : Hp → Prop, (∀ H', Nx H' → ∃ m', m' < m ∧ W (i + 1) m' H') ∧ ∀ x H', (Itl K p).yld i H x H' → gName k x (wipe σ [k]) H' fun σ2 H2 => wipe σ2 [k] = wipe σ [k] ∧ tYes σ2 H2 fun b H3 =>
        if b = true then te σ2 H3 fun y H4 => ∃ acc, H4 D = some (.lst acc) ∧ acc.length < sizeLine ∧ Nx (upd H4 D (.lst (acc ++ [y]))) else Nx H3) := by
  obtain ⟨xs, ep, dxs⟩ := hR
  have hxl : xs.length = rs.length := by rw [dpAll_len dxs, List.length_map]
  refine lc_list (xs := xs) (fun i H' => Same H1 H' ∧ PairsAt K H' D f (rs.take i)) ⟨same_new nD, [], upd_same, .nil⟩ (fun i H' _ hP => SqL.of (hP.1 _ _ ep)) (fun i x H2 hx hP => ?_) (fun H2 hP => hd H2 hP.1 ?_)
  · obtain ⟨s2, hD⟩ := hP
    obtain ⟨d, hdd, hdx⟩ := dpAll_get dxs hx
    obtain ⟨r, hr, rfl⟩ : ∃ r, rs[i]? = some r ∧ d = dT r := by
      rw [List.getElem?_map] at hdd
      cases e : rs[i]? with
      | none =>
        rw [e] at hdd
        cases hdd
      | some r =>
        rw [e] at hdd
        exact ⟨r, rfl, (Option.some.inj hdd).symm⟩
    refine ⟨wipe_one σ k _, yes_ ?_⟩
    refine turn x r H2 _ (List.mem_of_getElem? hr) s2 (dp_same s2 hdx) fun y H4 s4 hy => ?_
    obtain ⟨acc, eD, dD⟩ := hD
    have er : rs.take (i + 1) = rs.take i ++ [r] := by
      rw [List.take_add_one, hr]
      rfl
    refine ⟨acc, s4 _ _ eD, ?_, same_put (s2.trans s4) nD, ?_⟩
    · rw [dpAll_len dD, List.length_map, List.length_take, sizeLine_eq]
      omega
    · rw [er]
      exact PairsAt.app (s4 _ _ eD) (dpAll_same s4 dD) hy
  · have := hP.2
    rw [hxl, List.take_length] at this
    exact this
/-! ### a loop over rows that fills a list with pairs -/
theorem for_pairs {K : PySem.W.Frag} {p o : Addr} {rs : List (List Int)} {f : List Int → Int} {te : TE} {k j : Nat} {σ0 : L2.St} {H0 H1 : Hp} {D : Ends} (hR : RowsAt K H1 p rs) (s1 : Same H0 H1) (no : H0 o = none) (eo : H1 o = some (.lst [])) (ne : p ≠ o) (hlen : rs.length ≤ 1000000)
    (hj : ∀ y, (σ0.set k y)[j]? = some (some (.ref o))) (h0 : σ0 = σ0.set k none)
    (turn : ∀ (u : V) (r : List Int) (H2 : Hp) (Q' : VK), r ∈ rs → Same H0 H2 → Dp K H2 u (dT r) → (∀ y H4, Same H2 H4 → Dp K H4 y (dP (f r) r) → Q' y H4) → te (σ0.set k (some u)) H2 Q')
    (hd : ∀ y H', Same H0 H' → PairsAt K H' o f rs → D.nx (σ0.set k y) H') :
    ∃ W : Nat → Nat → L2.St → Hp → Prop, (∃ m, W 0 m σ0 H1) ∧ ∀ i m σ H, W i m σ H →
      ((Itl K p).stop i H ∧ D.nx σ H) ∨ ((Itl K p).go i H ∧ ∃ N : L2.St → Hp → Prop, (∀ σ' H', N σ' H' → ∃ m', m' < m ∧ W (i + 1) m' σ' H') ∧ ∀ x H', (Itl K p).yld i H x H' → gName k x σ H' fun σ2 H2 => tDrop (tBM K "list" rAppend (tVar j) (tCons te tNil)) { D with nx := N, ct := N, bk := D.nx } σ2 H2) := by
  obtain ⟨xs, ep, dxs⟩ := hR
  have hxl : xs.length = rs.length := by rw [dpAll_len dxs, List.length_map]
  refine for_list (xs := xs) (fun i σ H' => (∃ y, σ = σ0.set k y) ∧ Same H0 H' ∧ (H' p = some (.lst xs) ∧ DpAll K H' xs (rs.map dT)) ∧ PairsAt K H' o f (rs.take i)) ⟨⟨none, h0⟩, s1, ⟨ep, dxs⟩, [], eo, .nil⟩ (fun i σ H' _ hP => SqL.of hP.2.2.1.1) (fun i x σ H2 hx hP => ?_) (fun σ H2 hP => ?_)
  · obtain ⟨⟨y0, rfl⟩, s2, ⟨e2, d2⟩, hD⟩ := hP
    obtain ⟨d, hdd, hdx⟩ := dpAll_get d2 hx
    obtain ⟨r, hr, rfl⟩ : ∃ r, rs[i]? = some r ∧ d = dT r := by
      rw [List.getElem?_map] at hdd
      cases e : rs[i]? with
      | none =>
        rw [e] at hdd
        cases hdd
      | some r =>
        rw [e] at hdd
        exact ⟨r, rfl, (Option.some.inj hdd).symm⟩
    obtain ⟨acc, eD, dD⟩ := hD
    show tDrop (tBM K "list" rAppend (tVar j) (tCons te tNil)) _ ((σ0.set k y0).set k (some x)) H2
    rw [List.set_set]
    refine ⟨_, hj _, .inl ⟨rfl, _, SqL.of eD⟩, ?_⟩
    refine turn x r H2 _ (List.mem_of_getElem? hr) s2 hdx fun y H4 s4 hy => ?_
    have er : rs.take (i + 1) = rs.take i ++ [r] := by
      rw [List.take_add_one, hr]
      rfl
    have st : SameT H4 (upd H4 o (.lst (acc ++ [y]))) := sameT_upd (s4 _ _ eD) rfl
    refine ⟨o, _, _, rfl, rfl, s4 _ _ eD, ?_, ⟨_, rfl⟩, same_put (s2.trans s4) no, ⟨?_, dpAll_sameT st (flat_rows rs) (dpAll_same s4 d2)⟩, ?_⟩
    · rw [dpAll_len dD, List.length_map, List.length_take, sizeLine_eq]
      omega
    · rw [upd_ne ne]
      exact s4 _ _ e2
    · rw [er]
      exact PairsAt.app (s4 _ _ eD) (dpAll_same s4 dD) hy
  · obtain ⟨⟨y0, rfl⟩, s2, _, hD⟩ := hP
    rw [hxl, List.take_length] at hD
    exact hd _ _ s2 hD
end Pk
/-! Parkback, the mathematics, part C: which rows restsIn holds. -/
namespace Pk
/-- the places of s, one by one, each fits, is taken and new -/
def Grow (tk : List Int) : List (Int × Int) → List Int → List Int → Prop
  | [], _, s => s = []
  | (h, f) :: ps, row, s => ∃ p s', s = p :: s' ∧ p ∈ tk ∧ okP h f row p = true ∧ Grow tk ps (row ++ [p]) s'
theorem mem_ext {tk : List Int} {h f : Int} {l : List (List Int)} {r : List Int} : r ∈ ext tk h f l ↔ ∃ row ∈ l, ∃ p ∈ tk, okP h f row p = true ∧ r = row ++ [p] := by
  unfold ext ext1
  rw [List.mem_flatMap]
  constructor
  · rintro ⟨row, h1, h2⟩
    obtain ⟨p, h3, rfl⟩ := List.mem_map.mp h2
    obtain ⟨h4, h5⟩ := List.mem_filter.mp h3
    exact ⟨row, h1, p, h4, h5, rfl⟩
  · rintro ⟨row, h1, p, h4, h5, rfl⟩
    exact ⟨row, h1, List.mem_map.mpr ⟨p, List.mem_filter.mpr ⟨h4, h5⟩, rfl⟩⟩
theorem mem_rin {tk : List Int} : ∀ (ps : List (Int × Int)) (l : List (List Int)) (r : List Int), r ∈ rin tk ps l ↔ ∃ row ∈ l, ∃ s, r = row ++ s ∧ Grow tk ps row s
  | [], l, r => by
    show r ∈ l ↔ _
    constructor
    · exact fun h => ⟨r, h, [], (List.append_nil r).symm, rfl⟩
    · rintro ⟨row, h, s, rfl, rfl⟩
      rw [List.append_nil]
      exact h
  | (h, f) :: ps, l, r => by
    show r ∈ rin tk ps (ext tk h f l) ↔ _
    rw [mem_rin ps]
    constructor
    · rintro ⟨row', h1, s, rfl, g⟩
      obtain ⟨row, h2, p, h3, h4, rfl⟩ := mem_ext.mp h1
      exact ⟨row, h2, p :: s, by rw [List.append_assoc]; rfl, p, s, rfl, h3, h4, g⟩
    · rintro ⟨row, h2, s, rfl, p, s', rfl, h3, h4, g⟩
      exact ⟨row ++ [p], mem_ext.mpr ⟨row, h2, p, h3, h4, rfl⟩, s', by rw [List.append_assoc]; rfl, g⟩
theorem grow_iff {tk : List Int} : ∀ (ps : List (Int × Int)) (row s : List Int), row.Nodup → (Grow tk ps row s ↔ Fits ps s ∧ (∀ x ∈ s, x ∈ tk) ∧ (row ++ s).Nodup)
  | [], row, [], hn => ⟨fun _ => ⟨trivial, (fun x h => absurd h List.not_mem_nil), by rw [List.append_nil]; exact hn⟩, fun _ => rfl⟩
  | [], row, _ :: _, hn => ⟨(fun h => by cases h), fun h => h.1.elim⟩
  | (h, f) :: ps, row, [], hn => ⟨(fun ⟨_, _, h, _⟩ => by cases h), fun h => h.1.elim⟩
  | (h, f) :: ps, row, p :: s, hn => by
    constructor
    · rintro ⟨p', s', e, h3, h4, g⟩
      cases e
      unfold okP at h4
      have h4 := Bool.and_eq_true_iff.mp h4
      have h5 := of_decide_eq_true h4.1
      have h6 : p ∉ row := by
        have := h4.2
        intro c
        rw [decide_eq_true c] at this
        cases this
      obtain ⟨g1, g2, g3⟩ := (grow_iff ps (row ++ [p]) s (nd_snoc hn h6)).mp g
      rw [List.append_assoc] at g3
      refine ⟨⟨h5, g1⟩, fun x hx => ?_, g3⟩
      rcases List.mem_cons.mp hx with e | hx
      · rw [e]; exact h3
      · exact g2 x hx
    · rintro ⟨⟨h5, g1⟩, g2, g3⟩
      have h6 : p ∉ row := fun c => (List.nodup_append.mp g3).2.2 p c p List.mem_cons_self rfl
      refine ⟨p, s, rfl, g2 p List.mem_cons_self, ?_, (grow_iff ps (row ++ [p]) s (nd_snoc hn h6)).mpr ⟨g1, fun x hx => g2 x (List.mem_cons_of_mem _ hx), by rw [List.append_assoc]; exact g3⟩⟩
      unfold okP
      rw [decide_eq_true h5, decide_eq_false h6]
      rfl
theorem mem_rests {hs st r : List Int} : r ∈ restsIn hs st ↔ Fits (hs.zip st) r ∧ (∀ x ∈ r, x ∈ taken hs) ∧ r.Nodup := by
  unfold restsIn
  rw [mem_rin]
  constructor
  · rintro ⟨row, h, s, rfl, g⟩
    rw [List.mem_singleton.mp h] at *
    exact (grow_iff _ _ _ List.nodup_nil).mp g
  · intro g
    exact ⟨[], List.mem_singleton.mpr rfl, r, rfl, (grow_iff _ _ _ List.nodup_nil).mpr g⟩
theorem rest_perm {hs st r : List Int} (S : IsSt hs st) (h : r ∈ restsIn hs st) : r.Perm (taken hs) := by
  obtain ⟨h1, h2, h3⟩ := mem_rests.mp h
  refine perm_of_sub h3 h2 ?_
  rw [h1.len, taken_len, List.length_zip, S.len, Nat.min_self]
  exact Nat.le_refl _
theorem rest_len {hs st r : List Int} (S : IsSt hs st) (h : r ∈ restsIn hs st) : r.length = hs.length := by
  rw [(rest_perm S h).length_eq, taken_len]
theorem rests_ne {hs st : List Int} (S : IsSt hs st) : restsIn hs st ≠ [] := by
  obtain ⟨r, h1, h2⟩ := sdr S
  intro e
  have : r ∈ restsIn hs st := mem_rests.mpr ⟨h1, fun x hx => h2.mem_iff.mp hx, h2.nodup_iff.mpr (taken_nd hs)⟩
  rw [e] at this
  cases this
theorem rests_big {hs st : List Int} (S : IsSt hs st) (h7 : hs.length ≤ 7) : (restsIn hs st).length ≤ 1000000 := by
  have := rin_len (taken hs) (hs.zip st) [[]]
  rw [taken_len, List.length_zip, ← S.len, Nat.min_self] at this
  refine Nat.le_trans this ?_
  show 1 * hs.length ^ hs.length ≤ 1000000
  rw [Nat.one_mul]
  exact Nat.le_trans (Nat.pow_le_pow_left h7 _) (Nat.le_trans (Nat.pow_le_pow_right (by decide) h7) (by decide))
theorem rest_fits {hs st r : List Int} (h : r ∈ restsIn hs st) : Fits (hs.zip st) r := (mem_rests.mp h).1
/-- a rest lies between homes and the state -/
theorem fits_at : ∀ {hs st r : List Int} {i : Nat} {h : Int}, Fits (hs.zip st) r → hs.length = st.length → hs[i]? = some h → ∃ p f, r[i]? = some p ∧ st[i]? = some f ∧ h ≤ p ∧ p ≤ f
  | [], _, _, _, _, _, _, e => by cases e
  | _ :: _, [], _, _, _, _, hl, _ => by cases hl
  | a :: hs, b :: st, [], _, _, h, _, _ => h.elim
  | a :: hs, b :: st, p :: r, 0, x, h, _, e => by
    cases e
    exact ⟨p, b, rfl, rfl, h.1.1, h.1.2⟩
  | a :: hs, b :: st, p :: r, i + 1, x, h, hl, e => by
    have hl : hs.length = st.length := by simpa using hl
    have e : hs[i]? = some x := by simpa using e
    obtain ⟨p', f, h1, h2, h3⟩ := fits_at h.2 hl e
    exact ⟨p', f, by simpa using h1, by simpa using h2, h3⟩
end Pk
/-! Parkback: the walks, part 7: fairest, squarest, most_home, best_for, worst_for. -/
namespace Pk
open PySem PySem.Spec PyProof.Rows L2
section
variable {P : Program} {w : World} {K : PySem.W.Frag} {mg : Str → Option Value} {base : Heap}
abbrev DnSt (P : Program) (w : World) (K : PySem.W.Frag) (mg : Str → Option Value) (base : Heap) : Prop := Dn P w K mg base "need_state" ["street", "state"] 4 (spNeedPlaces K)
abbrev DnRests (P : Program) (w : World) (K : PySem.W.Frag) (mg : Str → Option Value) (base : Heap) : Prop := Dn P w K mg base "rests_in" ["street", "state"] 2 (spRestsIn K)
abbrev DnWays (P : Program) (w : World) (K : PySem.W.Frag) (mg : Str → Option Value) (base : Heap) : Prop := Dn P w K mg base "ways_of" ["street", "rest"] 1 (spWaysOf K)
/-- what a picker gives: the least pair -/
def spPick (K : PySem.W.Frag) (f : List Int → List Int → Int) : Sp := fun vs H Q _ => ∃ (v u : V) (n : Int) (hs st : List Int), vs = [v, u] ∧ Dp K H v (dS n hs) ∧ Dp K H u (dT st) ∧ IsState n hs st ∧
  ∀ H' v' c r, Same H H' → Dp K H' v' (dP c r) → IsMin (f hs) (restsIn hs st) c r → Q v' H'
theorem st_len {n : Int} {hs st : List Int} (S : IsState n hs st) : hs.length = st.length := S.ok.len
theorem dp_pair {K : PySem.W.Frag} {H : Hp} {p : Addr} {c : Int} {u : V} {r : List Int} (h : H p = some (.tup [.int c, u])) (hu : Dp K H u (dT r)) : Dp K H (.ref p) (dP c r) :=
  .tup (SqT.of h) (.cons (.int c) (.cons hu .nil))
abbrev teFair (K : PySem.W.Frag) : TE := tTup (tCons (tCB (rMax K) (tCons (tCall (spWaysOf K) [] E0 (tCons (tVar 0) (tCons (tVar 2) tNil))) tNil)) (tCons (tVar 2) tNil))
theorem scFairest : FnScope ["street", "state", "rest"] ["street", "state"] (defScope sFairest) := ⟨rfl, rfl, rfl, by decide +kernel, rfl, by decide +kernel, by decide +kernel⟩
theorem dn_fairest (F : Fd K mg "fairest" sFairest) (B : Bi mg) (DS : DnSt P w K mg base) (DR : DnRests P w K mg base) (DW : DnWays P w K mg base) : Dn P w K mg base "fairest" ["street", "state"] 5 (spPick K fun hs r => mx (ways hs r)) := by
  refine dn_mk F scFairest (fun _ _ _ _ _ _ us hl => match us, hl with | [_, _], _ => rfl) (fun vs H Q E h => ?_) (fun f cdv A outer s H vs Q E hr h => ?_)
  · obtain ⟨v, u, n, hs, st, rfl, _⟩ := h
    rfl
  · obtain ⟨v, u, n, hs, st, rfl, hd, hu, S, q⟩ := h
    have nd := scFairest.nd
    refine ⟨_, pss_cons (ps_expr (pe_d DS hr (pa_cons (pv 0) (pa_cons (pv 1) pa_nil)))) (pss_one (ps_ret (pe_callB (cr_minD rfl hr.units) (by rfl) B.min (by decide +kernel) (pa_cons
      (pe_lc (own := [("rest", 2)]) (g := gName 2) (tt := tYes) (te := teFair K) rfl nd (pi_list (pe_d DR hr (pa_cons (pv 0) (pa_cons (pv 1) pa_nil)))) (blkOk_by (N := ["street", "state", "rest"]) (sc := defScope sFairest) (by decide +kernel))
        (fun _ _ _ _ _ => pg_name (i := 2) nd rfl (Or.inl rfl)) (fun _ _ _ _ _ => pts_nil)
        (fun _ _ _ _ _ => pe_tup (pa_cons (pe_callB (cr_max rfl) (by rfl) B.max (by decide +kernel) (pa_cons (pe_d DW hr (pa_cons (pv 0) (pa_cons (pv 2) pa_nil))) pa_nil)) (pa_cons (pv 2) pa_nil)))) pa_nil)))), ?_⟩
    refine ⟨_, rfl, _, rfl, v, u, n, hs, st, rfl, hd, hu, S, fun H1 s1 => ?_⟩
    refine ⟨_, rfl, _, rfl, v, u, n, hs, st, rfl, dp_same s1 hd, dp_same s1 hu, S, fun H2 p s2 np hR => ?_⟩
    have s2 := s1.trans s2
    have ⟨xs, ep, _⟩ := hR
    refine ⟨p, rfl, ⟨_, SqL.of ep⟩, fun D nD => ?_⟩
    refine lc_pairs (f := fun r => mx (ways hs r)) (k := 2) hR nD (rests_big S.ok S.str.l2) (fun y r H3 Q' hr' s3 hy hq => ?_) (fun H3 s3 hP => ?_)
    · have s3 := s2.trans s3
      have rl := rest_len S.ok hr'
      refine ⟨_, rfl, _, rfl, v, y, n, hs, r, rfl, dp_same s3 hd, hy, rl.symm, S.str.l2, fun H4 pw s4 npw epw => ?_⟩
      have wl := ways_len (hs := hs) (r := r) rl.symm
      refine ⟨pw, _, rfl, SqL.of epw, by rw [wl]; exact S.str.l1, fun m hm1 hm2 => ?_⟩
      have em := mx_uniq hm1 hm2
      refine ⟨_, rfl, by show 2 ≤ sizeLine; decide, fun pp npp => ?_⟩
      have k := same_new (o := HO.tup [.int m, y]) npp
      rw [em] at k ⊢
      exact hq _ _ (s4.trans k) (dp_pair upd_same (dp_same (s4.trans k) hy))
    · exact min_pairs hP (rests_ne S.ok) fun v' c r hv hm => q _ _ _ _ (s2.trans s3) hv hm

/-! ### squarest -/
theorem take_snoc {α : Type} {l : List α} {i : Nat} {x : α} (h : l[i]? = some x) : l.take (i + 1) = l.take i ++ [x] := by
  rw [List.take_add_one, h]
  rfl
abbrev teSq (K : PySem.W.Frag) : TE := tTup (tCons (tCB (rSum K) (tCons (tLc (iList K (tCall (spWaysOf K) [] E0 (tCons (tVar 0) (tCons (tVar 2) tNil)))) (gName 3) tYes (tOp (rI CMul fun i j => .int (i * j)) (tVar 3) (tVar 3)) [3]) tNil)) (tCons (tVar 2) tNil))
abbrev lcSq : Expr := callArg (retE (defBody sSquarest) 1) 0
def sq (l : List Int) : Int := (l.map fun x => x * x).sum
theorem scSquarest : FnScope ["street", "state", "rest", "way"] ["street", "state"] (defScope sSquarest) := ⟨rfl, rfl, rfl, by decide +kernel, rfl, by decide +kernel, by decide +kernel⟩
theorem way_small {n : Int} {hs st r : List Int} {x : Int} (S : IsState n hs st) (h : r ∈ restsIn hs st) (hx : x ∈ ways hs r) : 0 ≤ x ∧ x ≤ 12 := by
  obtain ⟨i, hi, e⟩ := List.getElem_of_mem hx
  have wl := ways_len (hs := hs) (r := r) (rest_len S.ok h).symm
  rw [wl] at hi
  have e1 : hs[i]? = some hs[i] := List.getElem?_eq_getElem hi
  obtain ⟨p, f, h1, h2, h3, h4⟩ := fits_at (rest_fits h) S.ok.len e1
  have e2 : (ways hs r)[i]? = some (p - hs[i]) := by
    unfold ways
    rw [List.getElem?_zipWith, h1, e1]
  have e3 : (ways hs r)[i]? = some x := by rw [List.getElem?_eq_getElem (by rw [wl]; exact hi), e]
  rw [e3] at e2
  have e2 := Option.some.inj e2
  have z1 := S.str.in_ hs[i] (List.getElem_mem hi)
  have z2 := S.top f (List.mem_of_getElem? h2)
  have z3 := S.str.n2
  omega
theorem dn_squarest (F : Fd K mg "squarest" sSquarest) (B : Bi mg) (DS : DnSt P w K mg base) (DR : DnRests P w K mg base) (DW : DnWays P w K mg base) : Dn P w K mg base "squarest" ["street", "state"] 5 (spPick K fun hs r => sq (ways hs r)) := by
  refine dn_mk F scSquarest (fun _ _ _ _ _ _ us hl => match us, hl with | [_, _], _ => rfl) (fun vs H Q E h => ?_) (fun f cdv A outer s H vs Q E hr h => ?_)
  · obtain ⟨v, u, n, hs, st, rfl, _⟩ := h
    rfl
  · obtain ⟨v, u, n, hs, st, rfl, hd, hu, S, q⟩ := h
    have nd := scSquarest.nd
    refine ⟨_, pss_cons (ps_expr (pe_d DS hr (pa_cons (pv 0) (pa_cons (pv 1) pa_nil)))) (pss_one (ps_ret (pe_callB (cr_minD rfl hr.units) (by rfl) B.min (by decide +kernel) (pa_cons
      (pe_lc (own := [("rest", 2)]) (g := gName 2) (tt := tYes) (te := teSq K) rfl nd (pi_list (pe_d DR hr (pa_cons (pv 0) (pa_cons (pv 1) pa_nil)))) (blkOk_by (N := ["street", "state", "rest", "way"]) (sc := defScope sSquarest) (by decide +kernel))
        (fun _ _ _ _ _ => pg_name (i := 2) nd rfl (Or.inl rfl)) (fun _ _ _ _ _ => pts_nil)
        (fun _ _ _ _ _ => pe_tup (pa_cons (pe_callB (cr_sum rfl) (by rfl) B.sum (by decide +kernel) (pa_cons
          (pe_lc (own := [("way", 3)]) (g := gName 3) (tt := tYes) (te := tOp (rI CMul fun i j => .int (i * j)) (tVar 3) (tVar 3)) rfl nd (pi_list (pe_d DW hr (pa_cons (pv 0) (pa_cons (pv 2) pa_nil)))) (blkOk_by (N := ["street", "state", "rest", "way"]) (sc := relS (lcScope lcSq) (defScope sSquarest)) (by decide +kernel))
            (fun _ _ _ _ _ => pg_name (i := 3) nd rfl (Or.inl rfl)) (fun _ _ _ _ _ => pts_nil) (fun _ _ _ _ _ => pe_op op_mul (pv 3) (pv 3))) pa_nil)) (pa_cons (pv 2) pa_nil)))) pa_nil)))), ?_⟩
    refine ⟨_, rfl, _, rfl, v, u, n, hs, st, rfl, hd, hu, S, fun H1 s1 => ?_⟩
    refine ⟨_, rfl, _, rfl, v, u, n, hs, st, rfl, dp_same s1 hd, dp_same s1 hu, S, fun H2 p s2 np hR => ?_⟩
    have s2 := s1.trans s2
    have ⟨xs, ep, _⟩ := hR
    refine ⟨p, rfl, ⟨_, SqL.of ep⟩, fun D nD => ?_⟩
    refine lc_pairs (f := fun r => sq (ways hs r)) (k := 2) hR nD (rests_big S.ok S.str.l2) (fun y r H3 Q' hr' s3 hy hq => ?_) (fun H3 s3 hP => ?_)
    · have s3 := s2.trans s3
      have rl := rest_len S.ok hr'
      have wl := ways_len (hs := hs) (r := r) rl.symm
      have l7 := S.str.l2
      refine ⟨_, rfl, _, rfl, v, y, n, hs, r, rfl, dp_same s3 hd, hy, rl.symm, S.str.l2, fun H4 pw s4 npw epw => ?_⟩
      refine ⟨pw, rfl, ⟨_, SqL.of epw⟩, fun D2 nD2 => ?_⟩
      refine lc_list (xs := (ways hs r).map V.int) (fun i H' => Same H4 H' ∧ H' D2 = some (.lst ((((ways hs r).take i).map fun x => x * x).map V.int))) ⟨same_new nD2, upd_same⟩ (fun i H' _ hP => SqL.of (hP.1 _ _ epw)) (fun i x H5 hx hP => ?_) (fun H5 hP => ?_)
      · obtain ⟨s5, e5⟩ := hP
        obtain ⟨z, hz, rfl⟩ := get_ints hx
        have zb := way_small S hr' (List.mem_of_getElem? hz)
        refine ⟨rfl, yes_ ?_⟩
        refine ⟨_, rfl, _, rfl, z, z, rfl, rfl, .inl (by omega), _, e5, ?_, same_put s5 nD2, ?_⟩
        · rw [List.length_map, List.length_map, List.length_take]
          exact small1000 (by omega)
        · rw [upd_same, take_snoc hz, List.map_append, List.map_append]
          rfl
      · obtain ⟨s5, e5⟩ := hP
        rw [List.length_map, List.take_length] at e5
        refine ⟨D2, _, rfl, SqL.of e5, ?_⟩
        refine ⟨_, rfl, by show 2 ≤ sizeLine; decide, fun pp npp => ?_⟩
        have k := same_new (o := HO.tup [.int ((ways hs r).map fun x => x * x).sum, y]) npp
        exact hq _ _ ((s4.trans s5).trans k) (dp_pair upd_same (dp_same ((s4.trans s5).trans k) hy))
    · exact min_pairs hP (rests_ne S.ok) fun v' c r hv hm => q _ _ _ _ (s2.trans s3) hv hm

/-! ### most_home -/
def spNeg (K : PySem.W.Frag) (f : List Int → List Int → Int) : Sp := fun vs H Q _ => ∃ (v u : V) (n : Int) (hs st : List Int), vs = [v, u] ∧ Dp K H v (dS n hs) ∧ Dp K H u (dT st) ∧ IsState n hs st ∧
  ∀ H' v' c r, Same H H' → Dp K H' v' (dP (-c) r) → IsMin (f hs) (restsIn hs st) c r → Q v' H'
abbrev teHome (K : PySem.W.Frag) : TE := tTup (tCons (tUn (rU fun i => .int (-i)) (tBM K "list" (rCntI K) (tCall (spWaysOf K) [] E0 (tCons (tVar 0) (tCons (tVar 2) tNil))) (tCons (tC (.int 0)) tNil))) (tCons (tVar 2) tNil))
theorem scMostHome : FnScope ["street", "state", "rest", "many"] ["street", "state"] (defScope sMostHome) := ⟨rfl, rfl, rfl, by decide +kernel, rfl, by decide +kernel, by decide +kernel⟩
theorem dn_mostHome (F : Fd K mg "most_home" sMostHome) (B : Bi mg) (DS : DnSt P w K mg base) (DR : DnRests P w K mg base) (DW : DnWays P w K mg base) : Dn P w K mg base "most_home" ["street", "state"] 5 (spNeg K fun hs r => -((ways hs r).count 0 : Nat)) := by
  refine dn_mk F scMostHome (fun _ _ _ _ _ _ us hl => match us, hl with | [_, _], _ => rfl) (fun vs H Q E h => ?_) (fun f cdv A outer s H vs Q E hr h => ?_)
  · obtain ⟨v, u, n, hs, st, rfl, _⟩ := h
    rfl
  · obtain ⟨v, u, n, hs, st, rfl, hd, hu, S, q⟩ := h
    have nd := scMostHome.nd
    refine ⟨_, pss_cons (ps_expr (pe_d DS hr (pa_cons (pv 0) (pa_cons (pv 1) pa_nil)))) (pss_cons (ps_asg (pe_callB (cr_minD rfl hr.units) (by rfl) B.min (by decide +kernel) (pa_cons
      (pe_lc (own := [("rest", 2)]) (g := gName 2) (tt := tYes) (te := teHome K) rfl nd (pi_list (pe_d DR hr (pa_cons (pv 0) (pa_cons (pv 1) pa_nil)))) (blkOk_by (N := ["street", "state", "rest", "many"]) (sc := defScope sMostHome) (by decide +kernel))
        (fun _ _ _ _ _ => pg_name (i := 2) nd rfl (Or.inl rfl)) (fun _ _ _ _ _ => pts_nil)
        (fun _ _ _ _ _ => pe_tup (pa_cons (pe_un un_neg (pe_bm PySem.F.plainAttrs_list PySem.F.slot_list_count PySem.F.type_list_count mt_lcount (pe_d DW hr (pa_cons (pv 0) (pa_cons (pv 2) pa_nil))) (pa_cons pe_int pa_nil))) (pa_cons (pv 2) pa_nil)))) pa_nil))
      (pg_tup rfl (pgs_cons (pg_name (i := 3) nd rfl (.inl rfl)) (pgs_cons (pg_name (i := 2) nd rfl (.inl rfl)) pgs_nil))))
      (pss_one (ps_ret (pe_tup (pa_cons (pe_un un_neg (pv 3)) (pa_cons (pv 2) pa_nil)))))), ?_⟩
    refine ⟨_, rfl, _, rfl, v, u, n, hs, st, rfl, hd, hu, S, fun H1 s1 => ?_⟩
    refine ⟨_, rfl, _, rfl, v, u, n, hs, st, rfl, dp_same s1 hd, dp_same s1 hu, S, fun H2 p s2 np hR => ?_⟩
    have s2 := s1.trans s2
    have ⟨xs, ep, _⟩ := hR
    refine ⟨p, rfl, ⟨_, SqL.of ep⟩, fun D nD => ?_⟩
    refine lc_pairs (f := fun r => -((ways hs r).count 0 : Nat)) (k := 2) hR nD (rests_big S.ok S.str.l2) (fun y r H3 Q' hr' s3 hy hq => ?_) (fun H3 s3 hP => ?_)
    · have s3 := s2.trans s3
      have rl := rest_len S.ok hr'
      refine ⟨_, rfl, _, rfl, v, y, n, hs, r, rfl, dp_same s3 hd, hy, rl.symm, S.str.l2, fun H4 pw s4 npw epw => ?_⟩
      refine ⟨.inl ⟨rfl, _, SqL.of epw⟩, ?_⟩
      refine ⟨pw, _, 0, rfl, rfl, SqL.of epw, ?_⟩
      refine ⟨_, rfl, ?_⟩
      refine ⟨_, rfl, by show 2 ≤ sizeLine; decide, fun pp npp => ?_⟩
      have k := same_new (o := HO.tup [.int (-((ways hs r).count 0 : Nat)), y]) npp
      exact hq _ _ (s4.trans k) (dp_pair upd_same (dp_same (s4.trans k) hy))
    · dsimp only [tNil]
      refine min_pairs hP (rests_ne S.ok) fun v' c r hv hm => ?_
      obtain ⟨a, u', rfl, ha, hu'⟩ := dP_inv hv
      refine ⟨a, _, rfl, ha, rfl, _, _, rfl, _, _, rfl, rfl, ?_⟩
      refine ⟨_, rfl, _, rfl, _, rfl, by show 2 ≤ sizeLine; decide, fun pp npp => ?_⟩
      have k := same_new (o := HO.tup [.int (-c), u']) npp
      exact q _ _ _ _ ((s2.trans s3).trans k) (dp_pair upd_same (dp_same k hu')) hm
end
end Pk
/-! Parkback: the walks, part 8: best_for, worst_for, cheapest, dearest, cheapest_calls. -/
namespace Pk
open PySem PySem.Spec PyProof.Rows L2
section
variable {P : Program} {w : World} {K : PySem.W.Frag} {mg : Str → Option Value} {base : Heap}
abbrev DnCar (P : Program) (w : World) (K : PySem.W.Frag) (mg : Str → Option Value) (base : Heap) : Prop := Dn P w K mg base "need_car" ["street", "car"] 3 (spNeedCar K)
abbrev DnWts (P : Program) (w : World) (K : PySem.W.Frag) (mg : Str → Option Value) (base : Heap) : Prop := Dn P w K mg base "need_weights" ["street", "weights"] 3 (spNeedWeights K)
def spBest (K : PySem.W.Frag) : Sp := fun vs H Q _ => ∃ (v u : V) (n : Int) (hs st : List Int) (i : Nat), vs = [v, u, .int i] ∧ Dp K H v (dS n hs) ∧ Dp K H u (dT st) ∧ IsState n hs st ∧ i < hs.length ∧
  ∀ H' v' c r, Same H H' → Dp K H' v' (dP c r) → IsMin (fun r => r.getD i 0) (restsIn hs st) c r → Q v' H'
def spWorst (K : PySem.W.Frag) : Sp := fun vs H Q _ => ∃ (v u : V) (n : Int) (hs st : List Int) (i : Nat), vs = [v, u, .int i] ∧ Dp K H v (dS n hs) ∧ Dp K H u (dT st) ∧ IsState n hs st ∧ i < hs.length ∧
  ∀ H' v' c r, Same H H' → Dp K H' v' (dP (-c) r) → IsMin (fun r => -(r.getD i 0)) (restsIn hs st) c r → Q v' H'
theorem get_D {r : List Int} {i : Nat} (h : i < r.length) : r[i]? = some (r.getD i 0) := by
  rw [List.getD_eq_getElem?_getD, List.getElem?_eq_getElem h]
  rfl
abbrev teBest (K : PySem.W.Frag) : TE := tTup (tCons (tOp (rIxT K) (tVar 3) (tVar 2)) (tCons (tVar 3) tNil))
abbrev teWorst (K : PySem.W.Frag) : TE := tTup (tCons (tUn (rU fun i => .int (-i)) (tOp (rIxT K) (tVar 3) (tVar 2))) (tCons (tVar 3) tNil))
theorem scBestFor : FnScope ["street", "state", "car", "rest"] ["street", "state", "car"] (defScope sBestFor) := ⟨rfl, rfl, rfl, by decide +kernel, rfl, by decide +kernel, by decide +kernel⟩
theorem dn_bestFor (F : Fd K mg "best_for" sBestFor) (B : Bi mg) (DS : DnSt P w K mg base) (DR : DnRests P w K mg base) (DC : DnCar P w K mg base) : Dn P w K mg base "best_for" ["street", "state", "car"] 5 (spBest K) := by
  refine dn_mk F scBestFor (fun _ _ _ _ _ _ us hl => match us, hl with | [_, _, _], _ => rfl) (fun vs H Q E h => ?_) (fun f cdv A outer s H vs Q E hr h => ?_)
  · obtain ⟨v, u, n, hs, st, i, rfl, _⟩ := h
    rfl
  · obtain ⟨v, u, n, hs, st, i, rfl, hd, hu, S, hi, q⟩ := h
    have nd := scBestFor.nd
    refine ⟨_, pss_cons (ps_expr (pe_d DS hr (pa_cons (pv 0) (pa_cons (pv 1) pa_nil)))) (pss_cons (ps_expr (pe_d DC hr (pa_cons (pv 0) (pa_cons (pv 2) pa_nil)))) (pss_one (ps_ret (pe_callB (cr_minD rfl hr.units) (by rfl) B.min (by decide +kernel) (pa_cons
      (pe_lc (own := [("rest", 3)]) (g := gName 3) (tt := tYes) (te := teBest K) rfl nd (pi_list (pe_d DR hr (pa_cons (pv 0) (pa_cons (pv 1) pa_nil)))) (blkOk_by (N := ["street", "state", "car", "rest"]) (sc := defScope sBestFor) (by decide +kernel))
        (fun _ _ _ _ _ => pg_name (i := 3) nd rfl (Or.inl rfl)) (fun _ _ _ _ _ => pts_nil)
        (fun _ _ _ _ _ => pe_tup (pa_cons (pe_ix ix_tup (pv 3) (pv 2) (fun _ _ => rfl)) (pa_cons (pv 3) pa_nil)))) pa_nil))))), ?_⟩
    refine ⟨_, rfl, _, rfl, v, u, n, hs, st, rfl, hd, hu, S, fun H1 s1 => ?_⟩
    refine ⟨_, rfl, _, rfl, v, n, hs, i, rfl, dp_same s1 hd, hi, fun H1' s1' => ?_⟩
    have s1 := s1.trans s1'
    refine ⟨_, rfl, _, rfl, v, u, n, hs, st, rfl, dp_same s1 hd, dp_same s1 hu, S, fun H2 p s2 np hR => ?_⟩
    have s2 := s1.trans s2
    have ⟨xs, ep, _⟩ := hR
    refine ⟨p, rfl, ⟨_, SqL.of ep⟩, fun D nD => ?_⟩
    refine lc_pairs (f := fun r => r.getD i 0) (k := 3) hR nD (rests_big S.ok S.str.l2) (fun y r H3 Q' hr' s3 hy hq => ?_) (fun H3 s3 hP => ?_)
    · have rl := rest_len S.ok hr'
      obtain ⟨a, rfl, ha⟩ := dT_inv hy
      refine ⟨_, rfl, _, rfl, a, _, _, .int (r.getD i 0), rfl, rfl, ha, atI_nat (ints_get (get_D (by omega))), ?_⟩
      refine ⟨_, rfl, by show 2 ≤ sizeLine; decide, fun pp npp => ?_⟩
      have k := same_new (o := HO.tup [.int (r.getD i 0), .ref a]) npp
      exact hq _ _ k (dp_pair upd_same (dp_same k hy))
    · exact min_pairs hP (rests_ne S.ok) fun v' c r hv hm => q _ _ _ _ (s2.trans s3) hv hm
theorem scWorstFor : FnScope ["street", "state", "car", "rest", "place"] ["street", "state", "car"] (defScope sWorstFor) := ⟨rfl, rfl, rfl, by decide +kernel, rfl, by decide +kernel, by decide +kernel⟩
theorem dn_worstFor (F : Fd K mg "worst_for" sWorstFor) (B : Bi mg) (DS : DnSt P w K mg base) (DR : DnRests P w K mg base) (DC : DnCar P w K mg base) : Dn P w K mg base "worst_for" ["street", "state", "car"] 5 (spWorst K) := by
  refine dn_mk F scWorstFor (fun _ _ _ _ _ _ us hl => match us, hl with | [_, _, _], _ => rfl) (fun vs H Q E h => ?_) (fun f cdv A outer s H vs Q E hr h => ?_)
  · obtain ⟨v, u, n, hs, st, i, rfl, _⟩ := h
    rfl
  · obtain ⟨v, u, n, hs, st, i, rfl, hd, hu, S, hi, q⟩ := h
    have nd := scWorstFor.nd
    refine ⟨_, pss_cons (ps_expr (pe_d DS hr (pa_cons (pv 0) (pa_cons (pv 1) pa_nil)))) (pss_cons (ps_expr (pe_d DC hr (pa_cons (pv 0) (pa_cons (pv 2) pa_nil)))) (pss_cons (ps_asg (pe_callB (cr_minD rfl hr.units) (by rfl) B.min (by decide +kernel) (pa_cons
      (pe_lc (own := [("rest", 3)]) (g := gName 3) (tt := tYes) (te := teWorst K) rfl nd (pi_list (pe_d DR hr (pa_cons (pv 0) (pa_cons (pv 1) pa_nil)))) (blkOk_by (N := ["street", "state", "car", "rest", "place"]) (sc := defScope sWorstFor) (by decide +kernel))
        (fun _ _ _ _ _ => pg_name (i := 3) nd rfl (Or.inl rfl)) (fun _ _ _ _ _ => pts_nil)
        (fun _ _ _ _ _ => pe_tup (pa_cons (pe_un un_neg (pe_ix ix_tup (pv 3) (pv 2) (fun _ _ => rfl))) (pa_cons (pv 3) pa_nil)))) pa_nil))
      (pg_tup rfl (pgs_cons (pg_name (i := 4) nd rfl (.inl rfl)) (pgs_cons (pg_name (i := 3) nd rfl (.inl rfl)) pgs_nil))))
      (pss_one (ps_ret (pe_tup (pa_cons (pe_un un_neg (pv 4)) (pa_cons (pv 3) pa_nil))))))), ?_⟩
    refine ⟨_, rfl, _, rfl, v, u, n, hs, st, rfl, hd, hu, S, fun H1 s1 => ?_⟩
    refine ⟨_, rfl, _, rfl, v, n, hs, i, rfl, dp_same s1 hd, hi, fun H1' s1' => ?_⟩
    have s1 := s1.trans s1'
    refine ⟨_, rfl, _, rfl, v, u, n, hs, st, rfl, dp_same s1 hd, dp_same s1 hu, S, fun H2 p s2 np hR => ?_⟩
    have s2 := s1.trans s2
    have ⟨xs, ep, _⟩ := hR
    refine ⟨p, rfl, ⟨_, SqL.of ep⟩, fun D nD => ?_⟩
    refine lc_pairs (f := fun r => -(r.getD i 0)) (k := 3) hR nD (rests_big S.ok S.str.l2) (fun y r H3 Q' hr' s3 hy hq => ?_) (fun H3 s3 hP => ?_)
    · have rl := rest_len S.ok hr'
      obtain ⟨a, rfl, ha⟩ := dT_inv hy
      refine ⟨_, rfl, _, rfl, a, _, _, .int (r.getD i 0), rfl, rfl, ha, atI_nat (ints_get (get_D (by omega))), ?_⟩
      refine ⟨_, rfl, ?_⟩
      refine ⟨_, rfl, by show 2 ≤ sizeLine; decide, fun pp npp => ?_⟩
      have k := same_new (o := HO.tup [.int (-(r.getD i 0)), .ref a]) npp
      exact hq _ _ k (dp_pair upd_same (dp_same k hy))
    · dsimp only [tNil]
      refine min_pairs hP (rests_ne S.ok) fun v' c r hv hm => ?_
      obtain ⟨a, u', rfl, ha, hu'⟩ := dP_inv hv
      refine ⟨a, _, rfl, ha, rfl, _, _, rfl, _, _, rfl, rfl, ?_⟩
      refine ⟨_, rfl, _, rfl, _, rfl, by show 2 ≤ sizeLine; decide, fun pp npp => ?_⟩
      have k := same_new (o := HO.tup [.int (-c), u']) npp
      exact q _ _ _ _ ((s2.trans s3).trans k) (dp_pair upd_same (dp_same k hu')) hm

/-! ### cheapest, dearest -/
def spCheap (K : PySem.W.Frag) : Sp := fun vs H Q _ => ∃ (v u z : V) (n : Int) (hs st ws : List Int), vs = [v, u, z] ∧ Dp K H v (dS n hs) ∧ Dp K H u (dT st) ∧ Dp K H z (dT ws) ∧ IsState n hs st ∧ IsWt hs ws ∧
  ∀ H' v' c r, Same H H' → Dp K H' v' (dP c r) → IsMin (fun r => dot ws (ways hs r)) (restsIn hs st) c r → Q v' H'
def spDear (K : PySem.W.Frag) : Sp := fun vs H Q _ => ∃ (v u z : V) (n : Int) (hs st ws : List Int), vs = [v, u, z] ∧ Dp K H v (dS n hs) ∧ Dp K H u (dT st) ∧ Dp K H z (dT ws) ∧ IsState n hs st ∧ IsWt hs ws ∧
  ∀ H' v' c r, Same H H' → Dp K H' v' (dP (-c) r) → IsMin (fun r => -dot ws (ways hs r)) (restsIn hs st) c r → Q v' H'
def spCalls (K : PySem.W.Frag) : Sp := fun vs H Q _ => ∃ (v u z : V) (n : Int) (hs st ws : List Int), vs = [v, u, z] ∧ Dp K H v (dS n hs) ∧ Dp K H u (dT st) ∧ Dp K H z (dT ws) ∧ IsState n hs st ∧ IsWt hs ws ∧
  ∀ H' v' c r, Same H H' → Dp K H' v' (dP c r) → IsMin (fun r => ((unl st r).map fun c => ws.getD c 0).sum) (restsIn hs st) c r → Q v' H'

theorem scCheapest : FnScope ["street", "state", "weights", "found", "rest", "weight", "way"] ["street", "state", "weights"] (defScope sCheapest) := ⟨rfl, rfl, rfl, by decide +kernel, rfl, by decide +kernel, by decide +kernel⟩
theorem dn_cheapest (F : Fd K mg "cheapest" sCheapest) (B : Bi mg) (DS : DnSt P w K mg base) (DR : DnRests P w K mg base) (DT : DnWts P w K mg base) (DW : DnWays P w K mg base) : Dn P w K mg base "cheapest" ["street", "state", "weights"] 5 (spCheap K) := by
  refine dn_mk F scCheapest (fun _ _ _ _ _ _ us hl => match us, hl with | [_, _, _], _ => rfl) (fun vs H Q E h => ?_) (fun f cdv A outer s H vs Q E hr h => ?_)
  · obtain ⟨v, u, z, n, hs, st, ws, rfl, _⟩ := h
    rfl
  · obtain ⟨v, u, z, n, hs, st, ws, rfl, hd, hu, hz, S, T, q⟩ := h
    have nd := scCheapest.nd
    refine ⟨_, pss_cons (ps_expr (pe_d DS hr (pa_cons (pv 0) (pa_cons (pv 1) pa_nil)))) (pss_cons (ps_expr (pe_d DT hr (pa_cons (pv 0) (pa_cons (pv 2) pa_nil)))) (pss_cons (ps_set (i := 3) nd rfl (.inl rfl) (pe_lst pa_nil))
      (pss_cons (ps_for PassesOwn.never rfl (pi_list (pe_d DR hr (pa_cons (pv 0) (pa_cons (pv 1) pa_nil)))) (pg_name (i := 4) nd rfl (.inl rfl))
        (pss_one (ps_expr (pe_bm PySem.F.plainAttrs_list PySem.F.slot_list_append PySem.F.type_list_append mt_append (pv 3) (pa_cons (pe_tup (pa_cons (pe_callB (cr_sum rfl) (by rfl) B.sum (by decide +kernel) (pa_cons (pe_lc (own := [("weight", 5), ("way", 6)]) (g := gTup K 2 (gCons (gName 5) (gCons (gName 6) gNil))) (tt := tYes) rfl nd (pi_zipB true (by rfl) B.zip (pa_cons (pv 2) (pa_cons (pe_d DW hr (pa_cons (pv 0) (pa_cons (pv 4) pa_nil))) pa_nil))) (blkOk_by (N := ["street", "state", "weights", "found", "rest", "weight", "way"]) (sc := defScope sCheapest) (by decide +kernel))
          (fun _ _ _ _ _ => pg_tup rfl (pgs_cons (pg_name (i := 5) nd rfl (Or.inl rfl)) (pgs_cons (pg_name (i := 6) nd rfl (Or.inl rfl)) pgs_nil))) (fun _ _ _ _ _ => pts_nil) (fun _ _ _ _ _ => pe_op op_mul (pv 5) (pv 6))) pa_nil)) (pa_cons (pv 4) pa_nil))) pa_nil)))))
      (pss_one (ps_ret (pe_callB (cr_minD rfl hr.units) (by rfl) B.min (by decide +kernel) (pa_cons (pv 3) pa_nil))))))), ?_⟩
    refine ⟨_, rfl, _, rfl, v, u, n, hs, st, rfl, hd, hu, S, fun H1 s1 => ?_⟩
    refine ⟨_, rfl, _, rfl, v, z, n, hs, ws, rfl, dp_same s1 hd, dp_same s1 hz, T, fun H1' s1' => ?_⟩
    have s1 := s1.trans s1'
    refine ⟨Nat.zero_le _, fun o no => ?_⟩
    have ko : Same H1' (upd H1' o (.lst [])) := same_new no
    refine ⟨_, rfl, _, rfl, v, u, n, hs, st, rfl, dp_same (s1.trans ko) hd, dp_same (s1.trans ko) hu, S, fun H2 p s2 np hR => ?_⟩
    have ⟨xs, ep, _⟩ := hR
    have ne : p ≠ o := fun e => by
      rw [e, upd_same] at np
      cases np
    refine ⟨p, rfl, ⟨_, SqL.of ep⟩, ?_⟩
    refine for_pairs (f := fun r => dot ws (ways hs r)) (σ0 := [some v, some u, some z, some (.ref o), none, none, none]) (k := 4) (j := 3) hR (ko.trans s2) no (s2 _ _ upd_same) ne (rests_big S.ok S.str.l2) (fun _ => rfl) rfl (fun y r H3 Q' hr' s3 hy hq => ?_) (fun y H3 s3 hP => ?_)
    · have rl := rest_len S.ok hr'
      have s3 := s1.trans s3
      have wl := ways_len (hs := hs) (r := r) rl.symm
      have l7 := S.str.l2
      have tl := T.len
      obtain ⟨b, rfl, hb⟩ := dT_inv hz
      refine ⟨_, rfl, _, rfl, _, rfl, v, y, n, hs, r, rfl, dp_same s3 hd, hy, rl.symm, S.str.l2, fun H4 pw s4 npw epw => ?_⟩
      have s3 := s3.trans s4
      have dl : (List.zipWith (fun a b => a * b) ws (ways hs r)).length = hs.length := by rw [List.length_zipWith, wl, tl, Nat.min_self]
      refine ⟨b, pw, _, _, rfl, sqT_same s3 hb, SqL.of epw, by rw [List.length_map, List.length_map, wl, tl], fun D2 nD2 => ?_⟩
      refine lc_it walk_p (fun i H' => Same H4 H' ∧ H' D2 = some (.lst (((List.zipWith (fun a b => a * b) ws (ways hs r)).take i).map V.int))) ⟨same_new nD2, upd_same⟩ (fun i H' _ hP => ⟨sqT_same (s3.trans hP.1) hb, SqL.of (hP.1 _ _ epw)⟩) (fun i x H5 H6 hi hP hY => ?_) (fun H5 hP => ?_)
      · obtain ⟨s5, e5⟩ := hP
        obtain ⟨T5, x1, y1, rfl, nT, rfl, h1, h2⟩ := hY
        obtain ⟨a1, ha1, rfl⟩ := get_ints h1
        obtain ⟨a2, ha2, rfl⟩ := get_ints h2
        have z1 := T.in_ a1 (List.mem_of_getElem? ha1)
        have k5 := same_new (o := HO.tup [.int a1, .int a2]) nT
        have e6 : (upd H5 T5 (.tup [.int a1, .int a2])) D2 = _ := k5 _ _ e5
        refine ⟨T5, _, rfl, SqT.of upd_same, rfl, _, _, rfl, _, _, rfl, rfl, rfl, yes_ ?_⟩
        refine ⟨_, rfl, _, rfl, a1, a2, rfl, rfl, .inl (by omega), _, e6, ?_, same_put (s5.trans k5) nD2, ?_⟩
        · rw [List.length_map, List.length_take]
          exact small1000 (by omega)
        · have ez : (List.zipWith (fun a b => a * b) ws (ways hs r))[i]? = some (a1 * a2) := by rw [List.getElem?_zipWith, ha1, ha2]
          rw [upd_same, take_snoc ez, List.map_append]
          rfl
      · obtain ⟨s5, e5⟩ := hP
        rw [List.length_map, tl, ← dl, List.take_length] at e5
        refine ⟨D2, _, rfl, SqL.of e5, ?_⟩
        refine ⟨_, rfl, by show 2 ≤ sizeLine; decide, fun pp npp => ?_⟩
        have k := same_new (o := HO.tup [.int (dot ws (ways hs r)), y]) npp
        exact hq _ _ ((s4.trans s5).trans k) (dp_pair upd_same (dp_same ((s4.trans s5).trans k) hy))
    · refine ⟨_, rfl, ?_⟩
      exact min_pairs hP (rests_ne S.ok) fun v' c r hv hm => q _ _ _ _ (s1.trans s3) hv hm

theorem scDearest : FnScope ["street", "state", "weights", "found", "rest", "cost", "weight", "way"] ["street", "state", "weights"] (defScope sDearest) := ⟨rfl, rfl, rfl, by decide +kernel, rfl, by decide +kernel, by decide +kernel⟩
theorem dn_dearest (F : Fd K mg "dearest" sDearest) (B : Bi mg) (DS : DnSt P w K mg base) (DR : DnRests P w K mg base) (DT : DnWts P w K mg base) (DW : DnWays P w K mg base) : Dn P w K mg base "dearest" ["street", "state", "weights"] 5 (spDear K) := by
  refine dn_mk F scDearest (fun _ _ _ _ _ _ us hl => match us, hl with | [_, _, _], _ => rfl) (fun vs H Q E h => ?_) (fun f cdv A outer s H vs Q E hr h => ?_)
  · obtain ⟨v, u, z, n, hs, st, ws, rfl, _⟩ := h
    rfl
  · obtain ⟨v, u, z, n, hs, st, ws, rfl, hd, hu, hz, S, T, q⟩ := h
    have nd := scDearest.nd
    refine ⟨_, pss_cons (ps_expr (pe_d DS hr (pa_cons (pv 0) (pa_cons (pv 1) pa_nil)))) (pss_cons (ps_expr (pe_d DT hr (pa_cons (pv 0) (pa_cons (pv 2) pa_nil)))) (pss_cons (ps_set (i := 3) nd rfl (.inl rfl) (pe_lst pa_nil))
      (pss_cons (ps_for PassesOwn.never rfl (pi_list (pe_d DR hr (pa_cons (pv 0) (pa_cons (pv 1) pa_nil)))) (pg_name (i := 4) nd rfl (.inl rfl))
        (pss_one (ps_expr (pe_bm PySem.F.plainAttrs_list PySem.F.slot_list_append PySem.F.type_list_append mt_append (pv 3) (pa_cons (pe_tup (pa_cons (pe_un un_neg (pe_callB (cr_sum rfl) (by rfl) B.sum (by decide +kernel) (pa_cons (pe_lc (own := [("weight", 6), ("way", 7)]) (g := gTup K 2 (gCons (gName 6) (gCons (gName 7) gNil))) (tt := tYes) rfl nd (pi_zipB true (by rfl) B.zip (pa_cons (pv 2) (pa_cons (pe_d DW hr (pa_cons (pv 0) (pa_cons (pv 4) pa_nil))) pa_nil))) (blkOk_by (N := ["street", "state", "weights", "found", "rest", "cost", "weight", "way"]) (sc := defScope sDearest) (by decide +kernel))
          (fun _ _ _ _ _ => pg_tup rfl (pgs_cons (pg_name (i := 6) nd rfl (Or.inl rfl)) (pgs_cons (pg_name (i := 7) nd rfl (Or.inl rfl)) pgs_nil))) (fun _ _ _ _ _ => pts_nil) (fun _ _ _ _ _ => pe_op op_mul (pv 6) (pv 7))) pa_nil))) (pa_cons (pv 4) pa_nil))) pa_nil)))))
      (pss_cons (ps_asg (pe_callB (cr_minD rfl hr.units) (by rfl) B.min (by decide +kernel) (pa_cons (pv 3) pa_nil)) (pg_tup rfl (pgs_cons (pg_name (i := 5) nd rfl (.inl rfl)) (pgs_cons (pg_name (i := 4) nd rfl (.inl rfl)) pgs_nil))))
      (pss_one (ps_ret (pe_tup (pa_cons (pe_un un_neg (pv 5)) (pa_cons (pv 4) pa_nil))))))))), ?_⟩
    refine ⟨_, rfl, _, rfl, v, u, n, hs, st, rfl, hd, hu, S, fun H1 s1 => ?_⟩
    refine ⟨_, rfl, _, rfl, v, z, n, hs, ws, rfl, dp_same s1 hd, dp_same s1 hz, T, fun H1' s1' => ?_⟩
    have s1 := s1.trans s1'
    refine ⟨Nat.zero_le _, fun o no => ?_⟩
    have ko : Same H1' (upd H1' o (.lst [])) := same_new no
    refine ⟨_, rfl, _, rfl, v, u, n, hs, st, rfl, dp_same (s1.trans ko) hd, dp_same (s1.trans ko) hu, S, fun H2 p s2 np hR => ?_⟩
    have ⟨xs, ep, _⟩ := hR
    have ne : p ≠ o := fun e => by
      rw [e, upd_same] at np
      cases np
    refine ⟨p, rfl, ⟨_, SqL.of ep⟩, ?_⟩
    refine for_pairs (f := fun r => -dot ws (ways hs r)) (σ0 := [some v, some u, some z, some (.ref o), none, none, none, none]) (k := 4) (j := 3) hR (ko.trans s2) no (s2 _ _ upd_same) ne (rests_big S.ok S.str.l2) (fun _ => rfl) rfl (fun y r H3 Q' hr' s3 hy hq => ?_) (fun y H3 s3 hP => ?_)
    · have rl := rest_len S.ok hr'
      have s3 := s1.trans s3
      have wl := ways_len (hs := hs) (r := r) rl.symm
      have l7 := S.str.l2
      have tl := T.len
      obtain ⟨b, rfl, hb⟩ := dT_inv hz
      refine ⟨_, rfl, _, rfl, _, rfl, v, y, n, hs, r, rfl, dp_same s3 hd, hy, rl.symm, S.str.l2, fun H4 pw s4 npw epw => ?_⟩
      have s3 := s3.trans s4
      have dl : (List.zipWith (fun a b => a * b) ws (ways hs r)).length = hs.length := by rw [List.length_zipWith, wl, tl, Nat.min_self]
      refine ⟨b, pw, _, _, rfl, sqT_same s3 hb, SqL.of epw, by rw [List.length_map, List.length_map, wl, tl], fun D2 nD2 => ?_⟩
      refine lc_it walk_p (fun i H' => Same H4 H' ∧ H' D2 = some (.lst (((List.zipWith (fun a b => a * b) ws (ways hs r)).take i).map V.int))) ⟨same_new nD2, upd_same⟩ (fun i H' _ hP => ⟨sqT_same (s3.trans hP.1) hb, SqL.of (hP.1 _ _ epw)⟩) (fun i x H5 H6 hi hP hY => ?_) (fun H5 hP => ?_)
      · obtain ⟨s5, e5⟩ := hP
        obtain ⟨T5, x1, y1, rfl, nT, rfl, h1, h2⟩ := hY
        obtain ⟨a1, ha1, rfl⟩ := get_ints h1
        obtain ⟨a2, ha2, rfl⟩ := get_ints h2
        have z1 := T.in_ a1 (List.mem_of_getElem? ha1)
        have k5 := same_new (o := HO.tup [.int a1, .int a2]) nT
        have e6 : (upd H5 T5 (.tup [.int a1, .int a2])) D2 = _ := k5 _ _ e5
        refine ⟨T5, _, rfl, SqT.of upd_same, rfl, _, _, rfl, _, _, rfl, rfl, rfl, yes_ ?_⟩
        refine ⟨_, rfl, _, rfl, a1, a2, rfl, rfl, .inl (by omega), _, e6, ?_, same_put (s5.trans k5) nD2, ?_⟩
        · rw [List.length_map, List.length_take]
          exact small1000 (by omega)
        · have ez : (List.zipWith (fun a b => a * b) ws (ways hs r))[i]? = some (a1 * a2) := by rw [List.getElem?_zipWith, ha1, ha2]
          rw [upd_same, take_snoc ez, List.map_append]
          rfl
      · obtain ⟨s5, e5⟩ := hP
        rw [List.length_map, tl, ← dl, List.take_length] at e5
        refine ⟨D2, _, rfl, SqL.of e5, ?_⟩
        refine ⟨_, rfl, ?_⟩
        refine ⟨_, rfl, by show 2 ≤ sizeLine; decide, fun pp npp => ?_⟩
        have k := same_new (o := HO.tup [.int (-dot ws (ways hs r)), y]) npp
        exact hq _ _ ((s4.trans s5).trans k) (dp_pair upd_same (dp_same ((s4.trans s5).trans k) hy))
    · dsimp only [tNil]
      refine ⟨_, rfl, ?_⟩
      dsimp only [tNil]
      refine min_pairs hP (rests_ne S.ok) fun v' c r hv hm => ?_
      obtain ⟨a, u', rfl, ha, hu'⟩ := dP_inv hv
      refine ⟨a, _, rfl, ha, rfl, _, _, rfl, _, _, rfl, rfl, ?_⟩
      refine ⟨_, rfl, _, rfl, _, rfl, by show 2 ≤ sizeLine; decide, fun pp npp => ?_⟩
      have k := same_new (o := HO.tup [.int (-c), u']) npp
      exact q _ _ _ _ ((s1.trans s3).trans k) (dp_pair upd_same (dp_same k hu')) hm

theorem unl_len (a b : List Int) : (unl a b).length ≤ a.length := by
  have := List.length_filter_le (fun c => !decide (a[c]? = b[c]?)) (List.range a.length)
  rw [List.length_range] at this
  exact this
theorem unl_lt {a b : List Int} {c : Nat} (h : c ∈ unl a b) : c < a.length := List.mem_range.mp (List.mem_filter.mp h).1
theorem get_nats {l : List Nat} {i : Nat} {v : V} (h : (l.map fun c => V.int (c : Nat))[i]? = some v) : ∃ x, l[i]? = some x ∧ v = V.int (x : Nat) := by
  rw [List.getElem?_map] at h
  cases e : l[i]? with
  | none =>
    rw [e] at h
    cases h
  | some x =>
    rw [e] at h
    exact ⟨x, rfl, (Option.some.inj h).symm⟩
theorem scCheapestCalls : FnScope ["street", "state", "costs", "found", "rest", "car"] ["street", "state", "costs"] (defScope sCheapestCalls) := ⟨rfl, rfl, rfl, by decide +kernel, rfl, by decide +kernel, by decide +kernel⟩
theorem dn_cheapestCalls (F : Fd K mg "cheapest_calls" sCheapestCalls) (B : Bi mg) (DS : DnSt P w K mg base) (DR : DnRests P w K mg base) (DT : DnWts P w K mg base) (DU : Dn P w K mg base "unlike" ["one", "other"] 1 (spUnlike K)) : Dn P w K mg base "cheapest_calls" ["street", "state", "costs"] 5 (spCalls K) := by
  refine dn_mk F scCheapestCalls (fun _ _ _ _ _ _ us hl => match us, hl with | [_, _, _], _ => rfl) (fun vs H Q E h => ?_) (fun f cdv A outer s H vs Q E hr h => ?_)
  · obtain ⟨v, u, z, n, hs, st, ws, rfl, _⟩ := h
    rfl
  · obtain ⟨v, u, z, n, hs, st, ws, rfl, hd, hu, hz, S, T, q⟩ := h
    have nd := scCheapestCalls.nd
    refine ⟨_, pss_cons (ps_expr (pe_d DS hr (pa_cons (pv 0) (pa_cons (pv 1) pa_nil)))) (pss_cons (ps_expr (pe_d DT hr (pa_cons (pv 0) (pa_cons (pv 2) pa_nil)))) (pss_cons (ps_set (i := 3) nd rfl (.inl rfl) (pe_lst pa_nil))
      (pss_cons (ps_for PassesOwn.never rfl (pi_list (pe_d DR hr (pa_cons (pv 0) (pa_cons (pv 1) pa_nil)))) (pg_name (i := 4) nd rfl (.inl rfl))
        (pss_one (ps_expr (pe_bm PySem.F.plainAttrs_list PySem.F.slot_list_append PySem.F.type_list_append mt_append (pv 3) (pa_cons (pe_tup (pa_cons (pe_callB (cr_sum rfl) (by rfl) B.sum (by decide +kernel) (pa_cons
          (pe_lc (own := [("car", 5)]) (g := gName 5) (tt := tYes) (te := tOp (rIxT K) (tVar 2) (tVar 5)) rfl nd (pi_list (pe_d DU hr (pa_cons (pv 1) (pa_cons (pv 4) pa_nil)))) (blkOk_by (N := ["street", "state", "costs", "found", "rest", "car"]) (sc := defScope sCheapestCalls) (by decide +kernel))
            (fun _ _ _ _ _ => pg_name (i := 5) nd rfl (Or.inl rfl)) (fun _ _ _ _ _ => pts_nil) (fun _ _ _ _ _ => pe_ix ix_tup (pv 2) (pv 5) (fun _ _ => rfl))) pa_nil)) (pa_cons (pv 4) pa_nil))) pa_nil)))))
      (pss_one (ps_ret (pe_callB (cr_minD rfl hr.units) (by rfl) B.min (by decide +kernel) (pa_cons (pv 3) pa_nil))))))), ?_⟩
    refine ⟨_, rfl, _, rfl, v, u, n, hs, st, rfl, hd, hu, S, fun H1 s1 => ?_⟩
    refine ⟨_, rfl, _, rfl, v, z, n, hs, ws, rfl, dp_same s1 hd, dp_same s1 hz, T, fun H1' s1' => ?_⟩
    have s1 := s1.trans s1'
    refine ⟨Nat.zero_le _, fun o no => ?_⟩
    have ko : Same H1' (upd H1' o (.lst [])) := same_new no
    refine ⟨_, rfl, _, rfl, v, u, n, hs, st, rfl, dp_same (s1.trans ko) hd, dp_same (s1.trans ko) hu, S, fun H2 p s2 np hR => ?_⟩
    have ⟨xs, ep, _⟩ := hR
    have ne : p ≠ o := fun e => by
      rw [e, upd_same] at np
      cases np
    refine ⟨p, rfl, ⟨_, SqL.of ep⟩, ?_⟩
    refine for_pairs (f := fun r => ((unl st r).map fun c => ws.getD c 0).sum) (σ0 := [some v, some u, some z, some (.ref o), none, none]) (k := 4) (j := 3) hR (ko.trans s2) no (s2 _ _ upd_same) ne (rests_big S.ok S.str.l2) (fun _ => rfl) rfl (fun y r H3 Q' hr' s3 hy hq => ?_) (fun y H3 s3 hP => ?_)
    · have rl := rest_len S.ok hr'
      have s3 := s1.trans s3
      have l7 := S.str.l2
      have tl := T.len
      have sl := S.ok.len
      obtain ⟨b, rfl, hb⟩ := dT_inv hz
      refine ⟨_, rfl, _, rfl, u, y, st, r, rfl, dp_same s3 hu, hy, by omega, by omega, fun H4 pw s4 npw epw => ?_⟩
      have s3 := s3.trans s4
      have ul := unl_len st r
      refine ⟨pw, rfl, ⟨_, SqL.of epw⟩, fun D2 nD2 => ?_⟩
      refine lc_list (xs := (unl st r).map fun c => V.int (c : Nat)) (fun i H' => Same H4 H' ∧ H' D2 = some (.lst ((((unl st r).take i).map fun c => ws.getD c 0).map V.int))) ⟨same_new nD2, upd_same⟩ (fun i H' _ hP => SqL.of (hP.1 _ _ epw)) (fun i x H5 hx hP => ?_) (fun H5 hP => ?_)
      · obtain ⟨s5, e5⟩ := hP
        obtain ⟨c, hc, rfl⟩ := get_nats hx
        have cl := unl_lt (List.mem_of_getElem? hc)
        refine ⟨rfl, yes_ ?_⟩
        refine ⟨_, rfl, _, rfl, b, _, _, .int (ws.getD c 0), rfl, rfl, sqT_same (s3.trans s5) hb, atI_nat (ints_get (get_D (by omega))), _, e5, ?_, same_put s5 nD2, ?_⟩
        · rw [List.length_map, List.length_map, List.length_take]
          exact small1000 (by omega)
        · rw [upd_same, take_snoc hc, List.map_append, List.map_append]
          rfl
      · obtain ⟨s5, e5⟩ := hP
        rw [List.length_map, List.take_length] at e5
        refine ⟨D2, _, rfl, SqL.of e5, ?_⟩
        refine ⟨_, rfl, by show 2 ≤ sizeLine; decide, fun pp npp => ?_⟩
        have k := same_new (o := HO.tup [.int ((unl st r).map fun c => ws.getD c 0).sum, y]) npp
        exact hq _ _ ((s4.trans s5).trans k) (dp_pair upd_same (dp_same ((s4.trans s5).trans k) hy))
    · refine ⟨_, rfl, ?_⟩
      exact min_pairs hP (rests_ne S.ok) fun v' c r hv hm => q _ _ _ _ (s1.trans s3) hv hm
end
end Pk
/-! Parkback, the mathematics, part D: fillings of taken places by cars, place after place; how many cars stay. -/
namespace Pk
def OkM (hs st : List Int) (x : Nat × Int) : Prop := ∃ h f, hs[x.1]? = some h ∧ st[x.1]? = some f ∧ h ≤ x.2 ∧ x.2 ≤ f
/-- the first j places of tk, each with a car -/
structure Mt (hs st tk : List Int) (j : Nat) (M : List (Nat × Int)) : Prop where
  at_ : M.map Prod.snd = tk.take j
  nd : (M.map Prod.fst).Nodup
  ok : ∀ x ∈ M, OkM hs st x
def stay1 (st : List Int) (x : Nat × Int) : Int := if st[x.1]? = some x.2 then 1 else 0
def stays (st : List Int) (M : List (Nat × Int)) : Int := (M.map (stay1 st)).sum
def carsI (M : List (Nat × Int)) : List Int := M.map fun x => ((x.1 : Nat) : Int)
def keyOf (M : List (Nat × Int)) : List Int := srt (carsI M)
theorem carsI_mem {M : List (Nat × Int)} {c : Nat} : (c : Int) ∈ carsI M ↔ c ∈ M.map Prod.fst := by
  unfold carsI
  rw [List.mem_map, List.mem_map]
  constructor
  · rintro ⟨x, h1, h2⟩
    exact ⟨x, h1, by omega⟩
  · rintro ⟨x, h1, rfl⟩
    exact ⟨x, h1, rfl⟩
theorem stays_snoc (st : List Int) (M : List (Nat × Int)) (x : Nat × Int) : stays st (M ++ [x]) = stays st M + stay1 st x := by
  unfold stays
  rw [List.map_append, List.sum_append]
  simp
theorem key_snoc {M : List (Nat × Int)} {c : Nat} {p : Int} {l : List Int} (hp : l.Perm (keyOf M ++ [(c : Int)])) (hs : l.Pairwise (· ≤ ·)) : l = keyOf (M ++ [(c, p)]) := by
  refine srt_uniq (hp.trans ?_) hs
  unfold carsI
  rw [List.map_append]
  exact (srt_perm _).append_right _
theorem Mt.nil {hs st tk : List Int} : Mt hs st tk 0 [] := ⟨rfl, List.nodup_nil, fun x h => by cases h⟩
theorem Mt.snoc {hs st tk : List Int} {j : Nat} {M : List (Nat × Int)} {c : Nat} {p : Int} (m : Mt hs st tk j M) (hp : tk[j]? = some p) (hc : (c : Int) ∉ keyOf M) (ok : OkM hs st (c, p)) : Mt hs st tk (j + 1) (M ++ [(c, p)]) := by
  refine ⟨?_, ?_, fun x hx => ?_⟩
  · rw [List.map_append, m.at_, List.take_add_one, hp]
    rfl
  · rw [List.map_append]
    have hc : c ∉ M.map Prod.fst := fun z => hc (srt_mem.mpr (carsI_mem.mpr z))
    rw [List.nodup_append]
    refine ⟨m.nd, List.nodup_cons.mpr ⟨List.not_mem_nil, List.nodup_nil⟩, fun a ha b hb => ?_⟩
    rw [show b = c from List.mem_singleton.mp hb]
    intro e
    rw [e] at ha
    exact hc ha
  · rcases List.mem_append.mp hx with h | h
    · exact m.ok x h
    · rw [List.mem_singleton.mp h]
      exact ok
theorem Mt.unsnoc {hs st tk : List Int} {j : Nat} {M : List (Nat × Int)} (m : Mt hs st tk (j + 1) M) {p : Int} (hp : tk[j]? = some p) : ∃ (M' : List (Nat × Int)) (c : Nat), M = M' ++ [(c, p)] ∧ Mt hs st tk j M' ∧ (c : Int) ∉ keyOf M' ∧ OkM hs st (c, p) := by
  have e := m.at_
  rw [List.take_add_one, hp] at e
  obtain ⟨M1, M2, rfl, h1, h2⟩ := List.map_eq_append_iff.mp e
  obtain ⟨x, rfl, hx⟩ : ∃ x, M2 = [x] ∧ x.2 = p := by
    cases M2 with
    | nil => cases h2
    | cons x t =>
      cases t with
      | nil => exact ⟨x, rfl, by cases h2; rfl⟩
      | cons y t => cases h2
  obtain ⟨c, p'⟩ := x
  cases hx
  have nd := m.nd
  rw [List.map_append, List.nodup_append] at nd
  refine ⟨M1, c, rfl, ⟨h1, nd.1, fun x hx => m.ok x (List.mem_append_left _ hx)⟩, fun z => ?_, m.ok _ (List.mem_append_right _ List.mem_cons_self)⟩
  exact nd.2.2 c (carsI_mem.mp (srt_mem.mp z)) c List.mem_cons_self rfl
theorem OkM.lt {hs st : List Int} {x : Nat × Int} (h : OkM hs st x) : x.1 < hs.length := by
  obtain ⟨_, _, h1, _⟩ := h
  exact (List.getElem?_eq_some_iff.mp h1).1
theorem rng_up (n : Nat) : ((List.range n).map fun c => ((c : Nat) : Int)).Pairwise (· ≤ ·) := by
  rw [List.pairwise_map]
  exact List.pairwise_lt_range.imp fun h => by omega
theorem Mt.cars {hs st tk : List Int} {M : List (Nat × Int)} (m : Mt hs st tk hs.length M) (hl : tk.length = hs.length) : (M.map Prod.fst).Perm (List.range hs.length) := by
  have e : M.length = hs.length := by
    have := congrArg List.length m.at_
    rw [List.length_map, List.length_take, hl, Nat.min_self] at this
    exact this
  refine perm_of_sub m.nd (fun c hc => ?_) (by rw [List.length_map, List.length_range, e]; exact Nat.le_refl _)
  obtain ⟨x, hx, rfl⟩ := List.mem_map.mp hc
  exact List.mem_range.mpr (m.ok x hx).lt
theorem Mt.key {hs st tk : List Int} {M : List (Nat × Int)} (m : Mt hs st tk hs.length M) (hl : tk.length = hs.length) : keyOf M = (List.range hs.length).map fun c => ((c : Nat) : Int) := by
  refine (srt_uniq ?_ (rng_up _)).symm
  have := (m.cars hl).map (fun c => ((c : Nat) : Int))
  rw [List.map_map] at this
  exact this.symm
/-- the filling of a rest -/
def fillOf (r : List Int) : List (Nat × Int) := (List.range r.length).map fun c => (c, r.getD c 0)
theorem map_range_getD : ∀ r : List Int, ((List.range r.length).map fun c => r.getD c 0) = r := fun r => by
  refine List.ext_getElem? fun i => ?_
  rw [List.getElem?_map]
  by_cases h : i < r.length
  · rw [List.getElem?_range h]
    show some (r.getD i 0) = _
    rw [List.getD_eq_getElem?_getD, List.getElem?_eq_getElem h]
    rfl
  · rw [List.getElem?_eq_none (by rw [List.length_range]; omega), List.getElem?_eq_none (by omega)]
    rfl
theorem fillOf_snd (r : List Int) : (fillOf r).map Prod.snd = r := by
  unfold fillOf
  rw [List.map_map]
  exact map_range_getD r
theorem fillOf_fst (r : List Int) : (fillOf r).map Prod.fst = List.range r.length := by
  unfold fillOf
  rw [List.map_map]
  exact List.map_id _
theorem ind_sum (p : Nat → Bool) : ∀ l : List Nat, (l.map fun c => if p c = true then (1 : Int) else 0).sum = l.length - (l.filter fun c => !p c).length
  | [] => rfl
  | c :: l => by
    have ih := ind_sum p l
    rw [List.map_cons, List.sum_cons, ih, List.filter_cons, List.length_cons]
    have := List.length_filter_le (fun c => !p c) l
    cases h : p c with
    | true =>
      rw [if_pos rfl, if_neg (by simp)]
      omega
    | false =>
      rw [if_neg (by simp), if_pos (by simp), List.length_cons]
      omega
theorem stays_fill {st r : List Int} (hl : st.length = r.length) : stays st (fillOf r) = st.length - (unl st r).length := by
  have e : stays st (fillOf r) = ((List.range st.length).map fun c => if decide (st[c]? = r[c]?) = true then (1 : Int) else 0).sum := by
    unfold stays fillOf
    rw [List.map_map, hl]
    congr 1
    refine List.map_congr_left fun c hc => ?_
    have hc := List.mem_range.mp hc
    show (if st[c]? = some (r.getD c 0) then (1 : Int) else 0) = _
    have e : r[c]? = some (r.getD c 0) := by
      rw [List.getD_eq_getElem?_getD, List.getElem?_eq_getElem hc]
      rfl
    rw [e]
    by_cases z : st[c]? = some (r.getD c 0)
    · rw [if_pos z, if_pos (decide_eq_true z)]
    · rw [if_neg z, if_neg (fun q => z (of_decide_eq_true q))]
  rw [e, ind_sum, List.length_range]
  rfl
theorem stays_perm {st : List Int} {M M' : List (Nat × Int)} (h : M.Perm M') : stays st M = stays st M' := perm_sum (h.map _)
theorem okM_fits : ∀ {hs st r : List Int}, hs.length = st.length → r.length = hs.length → ((∀ c, c < hs.length → OkM hs st (c, r.getD c 0)) ↔ Fits (hs.zip st) r)
  | [], _, [], _, _ => ⟨fun _ => trivial, fun _ c h => absurd h (Nat.not_lt_zero c)⟩
  | [], _, _ :: _, _, h => by cases h
  | _ :: _, [], _, h, _ => by cases h
  | _ :: _, _ :: _, [], _, h => by cases h
  | a :: hs, b :: st, p :: r, h1, h2 => by
    have h1 : hs.length = st.length := by simpa using h1
    have h2 : r.length = hs.length := by simpa using h2
    have ih := okM_fits h1 h2
    have sh : ∀ c, OkM (a :: hs) (b :: st) (c + 1, (p :: r).getD (c + 1) 0) ↔ OkM hs st (c, r.getD c 0) := fun c => by
      unfold OkM
      simp
    constructor
    · intro h
      refine ⟨?_, ih.mp fun c hc => (sh c).mp (h (c + 1) (by simpa using hc))⟩
      obtain ⟨x, y, e1, e2, e3, e4⟩ := h 0 (by simp)
      cases e1
      cases e2
      exact ⟨e3, e4⟩
    · rintro ⟨h3, h4⟩ c hc
      cases c with
      | zero => exact ⟨a, b, rfl, rfl, h3.1, h3.2⟩
      | succ c => exact (sh c).mpr (ih.mpr h4 c (by simpa using hc))
theorem Mt.of_rest {hs st r : List Int} (S : IsSt hs st) (h : r ∈ restsIn hs st) : ∃ M, Mt hs st (taken hs) hs.length M ∧ stays st M = st.length - (unl st r).length := by
  have rl := rest_len S h
  have hp := rest_perm S h
  obtain ⟨M, h1, h2⟩ := perm_lift hp.symm (fillOf_snd r)
  refine ⟨M, ⟨?_, ?_, fun x hx => ?_⟩, ?_⟩
  · rw [h2, List.take_of_length_le (by rw [taken_len]; exact Nat.le_refl _)]
  · have := h1.map Prod.fst
    rw [fillOf_fst] at this
    exact this.nodup_iff.mpr List.nodup_range
  · have hx := h1.mem_iff.mp hx
    obtain ⟨c, hc, rfl⟩ := List.mem_map.mp hx
    have hc := List.mem_range.mp hc
    exact (okM_fits S.len rl).mpr (rest_fits h) c (by omega)
  · rw [stays_perm h1, stays_fill (by rw [rl, S.len])]
theorem Mt.rest {hs st : List Int} {M : List (Nat × Int)} (S : IsSt hs st) (m : Mt hs st (taken hs) hs.length M) : ∃ r ∈ restsIn hs st, stays st M = st.length - (unl st r).length := by
  have tl := taken_len hs
  obtain ⟨M', h1, h2⟩ := perm_lift (m.cars tl).symm (l0 := M) rfl
  have rl : (M'.map Prod.snd).length = hs.length := by
    have := congrArg List.length h2
    rw [List.length_map, List.length_range] at this
    rw [List.length_map, this]
  have e : M' = fillOf (M'.map Prod.snd) := by
    refine List.ext_getElem? fun i => ?_
    unfold fillOf
    rw [List.getElem?_map, rl]
    by_cases hi : i < hs.length
    · have hi' : i < M'.length := by rw [List.length_map] at rl; omega
      rw [List.getElem?_range hi, List.getElem?_eq_getElem hi']
      have e1 : (M'.map Prod.fst)[i]? = some i := by rw [h2, List.getElem?_range hi]
      rw [List.getElem?_map, List.getElem?_eq_getElem hi'] at e1
      have e1 : (M'[i]).1 = i := Option.some.inj e1
      show some M'[i] = some (i, (M'.map Prod.snd).getD i 0)
      rw [List.getD_eq_getElem?_getD, List.getElem?_map, List.getElem?_eq_getElem hi']
      show some M'[i] = some (i, (M'[i]).2)
      congr 1
      exact Prod.ext e1 rfl
    · rw [List.getElem?_eq_none (by rw [List.length_map] at rl; omega), List.getElem?_eq_none (by rw [List.length_range]; omega)]
      rfl
  refine ⟨M'.map Prod.snd, mem_rests.mpr ⟨(okM_fits S.len rl).mp fun c hc => ?_, ?_, ?_⟩, ?_⟩
  · have : (c, (M'.map Prod.snd).getD c 0) ∈ M' := by
      have z : (c, (M'.map Prod.snd).getD c 0) ∈ fillOf (M'.map Prod.snd) := List.mem_map.mpr ⟨c, List.mem_range.mpr (by omega), rfl⟩
      rw [← e] at z
      exact z
    exact m.ok _ (h1.mem_iff.mp this)
  · intro x hx
    have := (h1.map Prod.snd).mem_iff.mp hx
    rw [m.at_] at this
    exact List.mem_of_mem_take this
  · have := (h1.map Prod.snd).nodup_iff
    rw [this, m.at_]
    exact (List.take_sublist _ _).nodup (taken_nd hs)
  · rw [← stays_fill (by rw [rl, S.len]), ← e, stays_perm h1]
/-- the most cars that stay -/
structure Most (hs st : List Int) (s : Int) : Prop where
  some_ : ∃ M, Mt hs st (taken hs) hs.length M ∧ stays st M = s
  top : ∀ M, Mt hs st (taken hs) hs.length M → stays st M ≤ s
/-- the fewest calls -/
structure Few (hs st : List Int) (k : Int) : Prop where
  some_ : ∃ r ∈ restsIn hs st, k = (unl st r).length
  low : ∀ r ∈ restsIn hs st, k ≤ (unl st r).length
theorem Most.few {hs st : List Int} {s : Int} (S : IsSt hs st) (h : Most hs st s) : Few hs st (st.length - s) := by
  refine ⟨?_, fun r hr => ?_⟩
  · obtain ⟨M, m, e⟩ := h.some_
    obtain ⟨r, hr, e2⟩ := m.rest S
    exact ⟨r, hr, by omega⟩
  · obtain ⟨M, m, e⟩ := Mt.of_rest S hr
    have := h.top M m
    omega
end Pk
/-! Parkback: the walks, part 9: stays_in, calls_to_rest. -/
namespace Pk
open PySem PySem.Spec PyProof.Rows L2
/-! ### dicts with tuples of ints -/
def kI (ks : List Int) : List Key := ks.map Sum.inl
theorem kI_vals (ks : List Int) : (kI ks).map kV = ks.map V.int := by
  unfold kI
  rw [List.map_map]
  rfl
theorem kI_inj {a b : List Int} (h : kI a = kI b) : a = b := by
  have := congrArg (List.map kV) h
  rw [kI_vals, kI_vals] at this
  have e : ∀ l : List Int, (l.map V.int).map (fun v => match v with | .int i => i | _ => 0) = l := fun l => by
    rw [List.map_map]
    exact List.map_id _
  rw [← e a, ← e b, this]
theorem val_mem {kvs : List (List Key × V)} {k : List Key} {v : V} (h : valV kvs k = some v) : (k, v) ∈ kvs := by
  unfold valV at h
  cases e : kvs.find? (fun kv => decide (kv.1 = k)) with
  | none =>
    rw [e] at h
    cases h
  | some x =>
    rw [e] at h
    have h1 := List.mem_of_find?_eq_some e
    have h2 := List.find?_some e
    have h2 := of_decide_eq_true h2
    cases h
    rw [← h2]
    exact h1
theorem put_mem {kvs : List (List Key × V)} {k : List Key} {v : V} {x : List Key × V} (h : x ∈ putK kvs k v) : x = (k, v) ∨ x ∈ kvs := by
  unfold putK at h
  split at h
  · obtain ⟨y, hy, e⟩ := List.mem_map.mp h
    split at e
    · rename_i z
      rw [z] at e
      exact .inl e.symm
    · rw [← e]
      exact .inr hy
  · rcases List.mem_append.mp h with h | h
    · exact .inr h
    · exact .inl (List.mem_singleton.mp h)
/-- heaps alike but for dicts with tuple keys -/
def noDT : HO → Bool
  | .dT _ => false
  | _ => true
def SameD (H H' : Hp) : Prop := ∀ b o, H b = some o → noDT o = true → H' b = some o
theorem SameD.of {H H' : Hp} (s : Same H H') : SameD H H' := fun b o e _ => s b o e
theorem SameD.trans {H H1 H2 : Hp} (a : SameD H H1) (b : SameD H1 H2) : SameD H H2 := fun c o e f => b c o (a c o e f) f
theorem sameD_upd {H H' : Hp} {p : Addr} {o' : HO} {kvs : List (List Key × V)} (s : SameD H H') (h : H p = some (.dT kvs) ∨ H p = none) : SameD H (upd H' p o') := fun b x e fx => by
  have ne : b ≠ p := fun z => by
    subst z
    rcases h with h | h
    · rw [h] at e
      cases e
      cases fx
    · rw [h] at e
      cases e
  rw [upd_ne ne]
  exact s b x e fx
def Pr (H : Hp) (v : V) (s m : Int) : Prop := ∃ a, v = .ref a ∧ H a = some (.tup [.int s, .int m])
def SameU (H H' : Hp) : Prop := ∀ b xs, H b = some (.tup xs) → H' b = some (.tup xs)
theorem SameD.u {H H' : Hp} (e : SameD H H') : SameU H H' := fun b xs h => e b _ h rfl
theorem Pr.same {H H' : Hp} {v : V} {s m : Int} (e : SameU H H') (h : Pr H v s m) : Pr H' v s m := by
  obtain ⟨a, rfl, h⟩ := h
  exact ⟨a, rfl, e _ _ h⟩
theorem Pr.uniq {H : Hp} {v : V} {s m s' m' : Int} (h : Pr H v s m) (h' : Pr H v s' m') : s = s' ∧ m = m' := by
  obtain ⟨a, rfl, h⟩ := h
  obtain ⟨b, e, h'⟩ := h'
  cases e
  rw [h] at h'
  cases h'
  exact ⟨rfl, rfl⟩
def Ents (H : Hp) (kvs : List (List Key × V)) (P : List Int → Int → Prop) : Prop := ∀ x ∈ kvs, ∃ ks s m, x.1 = kI ks ∧ Pr H x.2 s m ∧ P ks s
def Got (H : Hp) (kvs : List (List Key × V)) (ks : List Int) (s : Int) : Prop := ∃ v s' m, valV kvs (kI ks) = some v ∧ Pr H v s' m ∧ s ≤ s'
theorem Ents.same {H H' : Hp} {kvs : List (List Key × V)} {P : List Int → Int → Prop} (e : SameU H H') (h : Ents H kvs P) : Ents H' kvs P := fun x hx => by
  obtain ⟨ks, s, m, h1, h2, h3⟩ := h x hx
  exact ⟨ks, s, m, h1, h2.same e, h3⟩
theorem Got.same {H H' : Hp} {kvs : List (List Key × V)} {ks : List Int} {s : Int} (e : SameU H H') (h : Got H kvs ks s) : Got H' kvs ks s := by
  obtain ⟨v, s', m, h1, h2, h3⟩ := h
  exact ⟨v, s', m, h1, h2.same e, h3⟩
theorem Ents.put {H : Hp} {kvs : List (List Key × V)} {P : List Int → Int → Prop} {ks : List Int} {v : V} {s m : Int} (h : Ents H kvs P) (hv : Pr H v s m) (hp : P ks s) : Ents H (putK kvs (kI ks) v) P := fun x hx => by
  rcases put_mem hx with e | hx
  · rw [e]
    exact ⟨ks, s, m, rfl, hv, hp⟩
  · exact h x hx
/-- what was got stays got when a better one is put -/
theorem Got.put {H : Hp} {kvs : List (List Key × V)} {ks k : List Int} {v : V} {s s1 m1 : Int} (h : Got H kvs k s) (hv : Pr H v s1 m1) (hb : ∀ v0 s0 m0, valV kvs (kI ks) = some v0 → Pr H v0 s0 m0 → s0 ≤ s1) : Got H (putK kvs (kI ks) v) k s := by
  obtain ⟨v', s', m', h1, h2, h3⟩ := h
  by_cases e : k = ks
  · subst e
    exact ⟨v, s1, m1, by rw [valV_put, if_pos rfl], hv, Int.le_trans h3 (hb v' s' m' h1 h2)⟩
  · exact ⟨v', s', m', by rw [valV_put, if_neg (fun z => e (kI_inj z))]; exact h1, h2, h3⟩
theorem Got.here {H : Hp} {kvs : List (List Key × V)} {ks : List Int} {v : V} {s m : Int} (hv : Pr H v s m) : Got H (putK kvs (kI ks) v) ks s := ⟨v, s, m, by rw [valV_put, if_pos rfl], hv, Int.le_refl s⟩
section
variable {P : Program} {w : World} {K : PySem.W.Frag} {mg : Str → Option Value} {base : Heap}
abbrev N9 : List Str := ["street", "state", "found", "place", "later", "done", "stay", "many", "car", "home", "key", "here", "best", "ways"]
theorem scStaysIn : FnScope N9 ["street", "state"] (defScope sStaysIn) := ⟨rfl, rfl, rfl, by decide +kernel, rfl, by decide +kernel, by decide +kernel⟩
theorem stay1_nn (st : List Int) (x : Nat × Int) : 0 ≤ stay1 st x := by
  unfold stay1
  split <;> omega
theorem stays_nn (st : List Int) : ∀ M, 0 ≤ stays st M
  | [] => Int.le_refl 0
  | x :: M => by
    have h1 := stay1_nn st x
    have h2 := stays_nn st M
    show 0 ≤ ((x :: M).map (stay1 st)).sum
    rw [List.map_cons, List.sum_cons]
    unfold stays at h2
    omega
/-- the car cc has been tried on the entry i of kvs -/
def Rel (hs st : List Int) (HL : Hp) (kvs : List (List Key × V)) (p : Int) (H' : Hp) (kl : List (List Key × V)) (i cc : Nat) : Prop := ∀ ks v s m, kvs[i]? = some (kI ks, v) → Pr HL v s m → (cc : Int) ∉ ks → OkM hs st (cc, p) → Got H' kl (srt (ks ++ [(cc : Int)])) (s + stay1 st (cc, p))
theorem Rel.same {hs st : List Int} {HL : Hp} {kvs : List (List Key × V)} {p : Int} {H' H'' : Hp} {kl : List (List Key × V)} {i cc : Nat} (e : SameU H' H'') (h : Rel hs st HL kvs p H' kl i cc) : Rel hs st HL kvs p H'' kl i cc :=
  fun ks v s m h1 h2 h3 h4 => (h ks v s m h1 h2 h3 h4).same e
/-- the entries after j places -/
def Sd (hs st : List Int) (j : Nat) (ks : List Int) (s : Int) : Prop := ∃ M, Mt hs st (taken hs) j M ∧ ks = keyOf M ∧ s = stays st M
def spStays (K : PySem.W.Frag) : Sp := fun vs H Q _ => ∃ (v u : V) (n : Int) (hs st : List Int), vs = [v, u] ∧ Dp K H v (dS n hs) ∧ Dp K H u (dT st) ∧ IsState n hs st ∧
  ∀ H' p s m, Same H H' → H' p = some (.tup [.int s, .int m]) → Most hs st s → Q (.ref p) H'
theorem keyOf_nil : keyOf [] = [] := (srt_uniq (l := []) (m := []) (List.Perm.refl _) .nil).symm
theorem dn_staysIn (F : Fd K mg "stays_in" sStaysIn) (B : Bi mg) (D2 : Dn P w K mg base "taken_in" ["homes"] 1 (spTakenIn K)) : Dn P w K mg base "stays_in" ["street", "state"] 2 (spStays K) := by
  refine dn_mk F scStaysIn (fun _ _ _ _ _ _ us hl => match us, hl with | [_, _], _ => rfl) (fun vs H Q E h => ?_) (fun f cdv A outer s H vs Q E hr h => ?_)
  · obtain ⟨v, u, n, hs, st, rfl, _⟩ := h
    rfl
  · obtain ⟨v, u, n, hs, st, rfl, hd, hu, S, q⟩ := h
    obtain ⟨a, b, rfl, ha, hb⟩ := dS_inv hd
    obtain ⟨c, rfl, hc⟩ := dT_inv hu
    have nd := scStaysIn.nd
    have hun := hr.units
    have hu0 : (A.deeper (envOfC (Str.ofString "stays_in") (defScope sStaysIn) s.heap.objs.size f cdv)).units < cLine := by omega
    have hu1 : (A.deeper (envOfC (Str.ofString "stays_in") (defScope sStaysIn) s.heap.objs.size f cdv)).units + 1 < cLine := by omega
    refine ⟨_, pss_cons (ps_set (i := 2) nd rfl (.inl rfl) (pe_dispT hu0 (pe_tup pa_nil) (pe_tup (pa_cons pe_int (pa_cons pe_int pa_nil)))))
      (pss_cons (ps_for PassesOwn.never rfl (pi_list (pe_d D2 hr (pa_cons (pe_ix ix_tup (pv 0) pe_int (fun _ _ => rfl)) pa_nil))) (pg_name (i := 3) nd rfl (.inl rfl))
        (pss_cons (ps_set (i := 4) nd rfl (.inl rfl) pe_dnewT)
        (pss_cons (ps_lock (ps_for PassesOwn.never rfl (pi_itemsT (pv 2)) (pg_tup rfl (pgs_cons (pg_name (i := 5) nd rfl (.inl rfl)) (pgs_cons (pg_tup rfl (pgs_cons (pg_name (i := 6) nd rfl (.inl rfl)) (pgs_cons (pg_name (i := 7) nd rfl (.inl rfl)) pgs_nil))) pgs_nil)))
          (pss_one (ps_for PassesOwn.never rfl (pi_enumT (by rfl) B.enumerate (pa_cons (pe_ix ix_tup (pv 0) pe_int (fun _ _ => rfl)) pa_nil)) (pg_tup rfl (pgs_cons (pg_name (i := 8) nd rfl (.inl rfl)) (pgs_cons (pg_name (i := 9) nd rfl (.inl rfl)) pgs_nil)))
            (pss_one (ps_if (PW.pt (pw_and (pt_cmpR op_notIn_seq (pv 8) (pv 5) (by rfl)) (pw_and1 (pt_chain op_le op_le (pv 9) (pv 3) (pe_ix ix_tup (pv 1) (pv 8) (fun _ _ => rfl))))))
              (pss_cons (ps_set (i := 10) nd rfl (.inl rfl) (pe_callTy call_tuple_of (by rfl) B.tuple (by decide +kernel) (pa_cons (pe_callB cr_sortedI (by rfl) B.sorted (by decide +kernel) (pa_cons (pe_lst (StX.pa_star (pv 5) (pa_cons (pv 8) pa_nil))) pa_nil)) pa_nil)))
              (pss_cons (ps_set (i := 11) nd rfl (.inl rfl) (pe_op op_add (pv 6) (pe_callTy call_int1 (by rfl) B.int (by decide +kernel) (pa_cons (pe_cmpR op_eq (pv 3) (pe_ix ix_tup (pv 1) (pv 8) (fun _ _ => rfl)) (nomark _)) pa_nil))))
              (pss_cons (ps_asg (pe_dget2 hu1 (pv 4) (pv 10) (pe_tup (pa_cons (pe_un un_neg pe_int) (pa_cons pe_int pa_nil))) ⟨rfl, rfl, rfl, rfl⟩) (pg_tup rfl (pgs_cons (pg_name (i := 12) nd rfl (.inl rfl)) (pgs_cons (pg_name (i := 13) nd rfl (.inl rfl)) pgs_nil))))
              (pss_one (ps_if (pt_cmpR op_gt (pv 11) (pv 12) (nomark _))
                (pss_one (ps_dput hu1 (pv 4) (pv 10) (pe_tup (pa_cons (pv 11) (pa_cons (pv 7) pa_nil))) (by rfl)))
                (pss_one (ps_if (pt_cmpR op_eq (pv 11) (pv 12) (nomark _)) (pss_one (ps_dput hu1 (pv 4) (pv 10) (pe_tup (pa_cons (pv 12) (pa_cons (pe_op op_add (pv 13) (pv 7)) pa_nil))) (by rfl))) pss_nil)))))))
              pss_nil))))))
        (pss_one (ps_set (i := 2) nd rfl (.inl rfl) (pv 4))))))
      (pss_one (ps_ret (pe_dget hu1 (pv 2) (pe_tupRg rfl (by rfl) B.tuple (prg_1 (by rfl) B.range (pe_callB call_len_seq (by rfl) B.len boot_len (pa_cons (pv 1) pa_nil)))) (fun _ _ => rfl))))), ?_⟩
    have l7 := S.str.l2
    have l1 := S.str.l1
    have hl := S.ok.len
    have tl := taken_len hs
    refine fun pd npd => ⟨Nat.zero_le _, fun pe npe => ⟨by show 2 ≤ sizeLine; decide, fun pf npf => ⟨?_, pe, [], rfl, ?_, ?_⟩⟩⟩
    · have k1 : Same _ (upd (upd H pd (.dT [])) pe (.tup [])) := same_new npe
      exact same_new npf _ _ (k1 _ _ upd_same)
    · exact same_new npf _ _ upd_same
    have nepf : pf ≠ pd := fun z => by
      rw [z] at npf
      have k1 : Same _ (upd (upd H pd (.dT [])) pe (.tup [])) := same_new npe
      rw [k1 _ _ upd_same] at npf
      cases npf
    have s0 : Same H (upd (upd (upd (upd H pd (.dT [])) pe (.tup [])) pf (.tup [.int 0, .int 1])) pd (.dT [([], .ref pf)])) :=
      same_put (((same_new (o := .dT []) npd).trans (same_new npe)).trans (same_new npf)) npd
    have e0 : (upd (upd (upd (upd H pd (.dT [])) pe (.tup [])) pf (.tup [.int 0, .int 1])) pd (.dT [([], .ref pf)])) pd = some (.dT [([], .ref pf)]) := upd_same
    have f0 : (upd (upd (upd (upd H pd (.dT [])) pe (.tup [])) pf (.tup [.int 0, .int 1])) pd (.dT [([], .ref pf)])) pf = some (.tup [.int 0, .int 1]) := by rw [upd_ne nepf, upd_same]
    have npf0 : H pf = none := ((same_new (o := .dT []) npd).trans (same_new npe)).free npf
    generalize (upd (upd (upd (upd H pd (.dT [])) pe (.tup [])) pf (.tup [.int 0, .int 1])) pd (.dT [([], .ref pf)])) = H0 at s0 e0 f0
    clear npe npf nepf
    refine ⟨_, rfl, a, _, 1, .ref b, rfl, rfl, sqT_same s0 ha, atI_nat (j := 1) rfl, b, hs, rfl, sqT_same s0 hb, l7, fun H1 pt s1 npt ept => ?_⟩
    refine ⟨pt, rfl, ⟨_, SqL.of ept⟩, ?_⟩
    have s01 := s0.trans s1
    refine for_list (xs := (taken hs).map V.int) (fun j σ H' => (∃ pd kvs y3 y4 y5 y6 y7 y8 y9 y10 y11 y12 y13, σ = [some (.ref a), some (.ref c), some (.ref pd), y3, y4, y5, y6, y7, y8, y9, y10, y11, y12, y13] ∧ H pd = none ∧ H' pd = some (.dT kvs) ∧ kvs.length ≤ 7 ^ j ∧
        Ents H' kvs (Sd hs st j) ∧ ∀ M, Mt hs st (taken hs) j M → Got H' kvs (keyOf M) (stays st M)) ∧ Same H H' ∧ H' pt = some (.lst ((taken hs).map V.int)))
      ⟨⟨pd, _, none, none, none, none, none, none, none, none, none, none, none, rfl, npd, s1 _ _ e0, Nat.le_refl _, fun x hx => ?_, fun M m => ?_⟩, s01, ept⟩ (fun j σ H' _ hP => SqL.of hP.2.2) (fun j x σ H2 hx hP => ?_) (fun σ H2 hP => ?_)
    · rw [List.mem_singleton.mp hx]
      exact ⟨[], 0, 1, rfl, ⟨pf, rfl, s1 _ _ f0⟩, [], Mt.nil, keyOf_nil.symm, rfl⟩
    · have : M = [] := by
        have := m.at_
        cases M with
        | nil => rfl
        | cons x M => cases this
      subst this
      exact ⟨.ref pf, 0, 1, by rw [keyOf_nil]; rfl, ⟨pf, rfl, s1 _ _ f0⟩, Int.le_refl 0⟩
    · obtain ⟨⟨pd, kvs, y3, y4, y5, y6, y7, y8, y9, y10, y11, y12, y13, rfl, npd, e, hlen, hE, hG⟩, s2, ept⟩ := hP
      obtain ⟨p, hp, rfl⟩ := get_ints hx
      have hj : j < hs.length := by
        have := (List.getElem?_eq_some_iff.mp hp).1
        omega
      refine fun pl npl => ?_
      have kpl : Same H2 (upd H2 pl (.dT [])) := same_new npl
      have nlp : pl ≠ pd := fun z => by
        rw [z, e] at npl
        cases npl
      have nplH : H pl = none := s2.free npl
      refine ⟨pd, .dT kvs, kpl _ _ e, trivial, fun od => ?_⟩
      have sL : Same H (upd (upd H2 pl (.dT [])) pd (.frz od (.dT kvs))) := same_put (s2.trans kpl) npd
      have dL : SameD H2 (upd (upd H2 pl (.dT [])) pd (.frz od (.dT kvs))) := sameD_upd (SameD.of kpl) (.inl e)
      have eL : (upd (upd H2 pl (.dT [])) pd (.frz od (.dT kvs))) pd = some (.frz od (.dT kvs)) := upd_same
      have epl : (upd (upd H2 pl (.dT [])) pd (.frz od (.dT kvs))) pl = some (.dT []) := by rw [upd_ne nlp, upd_same]
      generalize (upd (upd H2 pl (.dT [])) pd (.frz od (.dT kvs))) = HL at sL dL eL epl
      have hEL := hE.same dL.u
      have eptL := dL _ _ ept rfl
      refine ⟨_, rfl, pd, od, kvs, rfl, eL, ?_⟩
      refine for_it walk_p (fun i σ H' => (∃ kl y5 y6 y7 y8 y9 y10 y11 y12 y13, σ = [some (.ref a), some (.ref c), some (.ref pd), some (.int p), some (.ref pl), y5, y6, y7, y8, y9, y10, y11, y12, y13] ∧ H' pl = some (.dT kl) ∧ kl.length ≤ i * hs.length ∧
          Ents H' kl (Sd hs st (j + 1)) ∧ ∀ i', i' < i → ∀ cc, Rel hs st HL kvs p H' kl i' cc) ∧ SameD HL H' ∧ Same H H')
        ⟨⟨[], y5, y6, y7, y8, y9, y10, y11, y12, y13, rfl, epl, Nat.zero_le _, (fun x hx => absurd hx List.not_mem_nil), fun i' h => absurd h (Nat.not_lt_zero _)⟩, SameD.of (Same.refl _), sL⟩ (fun i σ H' _ hP => hP.2.1 _ _ eL rfl) (fun i x σ H3 H4 hi hP hY => ?_) (fun σ H3 hP => ?_)
      · obtain ⟨⟨kl, y5, y6, y7, y8, y9, y10, y11, y12, y13, rfl, ekl, hkl, hEl, hR⟩, d3, s3⟩ := hP
        obtain ⟨T, x1, y1, rfl, nT, rfl, k, q1, hk, rfl, eq1⟩ := hY
        obtain ⟨ks, s0', m0, ek, hpr, M, mt, eks, es⟩ := hEL _ (List.mem_of_getElem? hk)
        cases (show k = kI ks from ek)
        obtain ⟨av, eav, eHav⟩ := hpr
        cases (show y1 = .ref av from eav)
        have kl7 : ks.length ≤ 7 := by
          have h1 := congrArg List.length mt.at_
          rw [List.length_map, List.length_take, tl] at h1
          rw [eks]
          show (srt (carsI M)).length ≤ 7
          rw [srt_len]
          show (M.map _).length ≤ 7
          rw [List.length_map, h1]
          omega
        have kT := same_new (o := HO.tup [.ref q1, .ref av]) nT
        have d4 := d3.trans (SameD.of kT)
        have s4 := s3.trans kT
        have ekl4 := kT _ _ ekl
        have hEl4 := hEl.same (SameD.of kT).u
        have hR4 : ∀ i', i' < i → ∀ cc, Rel hs st HL kvs p (upd H3 T (.tup [.ref q1, .ref av])) kl i' cc := fun i' h cc => (hR i' h cc).same (SameD.of kT).u
        have eq4 := kT _ _ eq1
        have eT : (upd H3 T (.tup [.ref q1, .ref av])) T = some (.tup [.ref q1, .ref av]) := upd_same
        generalize (upd H3 T (.tup [.ref q1, .ref av])) = H4 at d4 s4 ekl4 hEl4 hR4 eq4 eT
        refine ⟨T, _, rfl, SqT.of eT, rfl, _, _, rfl, _, _, rfl, av, _, rfl, SqT.of (d4 _ _ eHav rfl), rfl, _, _, rfl, _, _, rfl, rfl, rfl, ?_⟩
        refine ⟨_, rfl, a, _, 1, .ref b, rfl, rfl, sqT_same s4 ha, atI_nat (j := 1) rfl, b, _, rfl, sqT_same s4 hb, ?_⟩
        refine for_it walk_p (fun cc σ H' => (∃ kl y8 y9 y10 y11 y12 y13, σ = [some (.ref a), some (.ref c), some (.ref pd), some (.int p), some (.ref pl), some (.ref q1), some (.int s0'), some (.int m0), y8, y9, y10, y11, y12, y13] ∧ H' pl = some (.dT kl) ∧ kl.length ≤ i * hs.length + cc ∧
            Ents H' kl (Sd hs st (j + 1)) ∧ (∀ i', i' < i → ∀ cc, Rel hs st HL kvs p H' kl i' cc) ∧ ∀ c', c' < cc → Rel hs st HL kvs p H' kl i c') ∧ SameD H4 H' ∧ Same H H')
          ⟨⟨kl, y8, y9, y10, y11, y12, y13, rfl, ekl4, by omega, hEl4, hR4, fun c' h => absurd h (Nat.not_lt_zero _)⟩, SameD.of (Same.refl _), s4⟩ (fun cc σ H' _ hP => sqT_same hP.2.2 hb) (fun cc x σ H5 H6 hcc hP hY => ?_) (fun σ H5 hP => ?_)
        · obtain ⟨⟨kl, y8, y9, y10, y11, y12, y13, rfl, ekl, hkl, hEl, hR, hRi⟩, d5, s5⟩ := hP
          obtain ⟨T2, x1, y1, rfl, nT2, rfl, rfl, hh⟩ := hY
          obtain ⟨h, hh', rfl⟩ := get_ints hh
          have kT2 := same_new (o := HO.tup [.int (cc : Nat), .int h]) nT2
          have d6 := d5.trans (SameD.of kT2)
          have s6 := s5.trans kT2
          have ekl6 := kT2 _ _ ekl
          have hEl6 := hEl.same (SameD.of kT2).u
          have hR6 : ∀ i', i' < i → ∀ c', Rel hs st HL kvs p (upd H5 T2 (.tup [.int (cc : Nat), .int h])) kl i' c' := fun i' h c' => (hR i' h c').same (SameD.of kT2).u
          have hRi6 : ∀ c', c' < cc → Rel hs st HL kvs p (upd H5 T2 (.tup [.int (cc : Nat), .int h])) kl i c' := fun c' h => (hRi c' h).same (SameD.of kT2).u
          have eT2 : (upd H5 T2 (.tup [.int (cc : Nat), .int h])) T2 = some (.tup [.int (cc : Nat), .int h]) := upd_same
          generalize (upd H5 T2 (.tup [.int (cc : Nat), .int h])) = H6 at d6 s6 ekl6 hEl6 hR6 hRi6 eT2
          rw [List.length_map] at hcc
          obtain ⟨f', hf⟩ : ∃ f', st[cc]? = some f' := ⟨_, List.getElem?_eq_getElem (by omega)⟩
          have eq6 : H6 q1 = some (.tup (ks.map V.int)) := by
            rw [← kI_vals]
            exact d6 _ _ eq4 rfl
          have nope : ((cc : Int) ∈ ks ∨ ¬ OkM hs st (cc, p)) → ∀ c', c' < cc + 1 → Rel hs st HL kvs p H6 kl i c' := fun no c' hc' => by
            by_cases z : c' = cc
            · subst z
              intro ks' v' s' m' h1 h2 h3 h4
              rw [hk] at h1
              have h1 := Option.some.inj h1
              have h1 := kI_inj (congrArg Prod.fst h1)
              rw [← h1] at h3
              rcases no with no | no
              · exact absurd no h3
              · exact absurd h4 no
            · exact hRi6 c' (by omega)
          refine ⟨T2, _, rfl, SqT.of eT2, rfl, _, _, rfl, _, _, rfl, rfl, ?_⟩
          refine ⟨_, rfl, _, rfl, q1, _, rfl, .inr (SqT.of eq6), rfl, flat_ints _, !decide ((cc : Int) ∈ ks), by rw [← inV_ints]; rfl, ite2 (fun e1 => ?_) (fun e1 => ?_)⟩
          · have e1 : (cc : Int) ∉ ks := fun z => by
              rw [decide_eq_true z] at e1
              cases e1
            refine ⟨_, rfl, _, rfl, h, p, rfl, rfl, _, rfl, ite2 (fun e2 => ?_) (fun e2 => ?_)⟩
            · have e2 : h ≤ p := of_decide_eq_true e2
              refine ⟨_, rfl, _, rfl, c, _, _, .int f', rfl, rfl, sqT_same s6 hc, atI_nat (ints_get hf), ?_⟩
              refine ⟨p, f', rfl, rfl, _, rfl, ite2 (fun e3 => ?_) (fun e3 => ?_)⟩
              · have e3 : p ≤ f' := of_decide_eq_true e3
                have hok : OkM hs st (cc, p) := ⟨h, f', hh', hf, e2, e3⟩
                have mt' := mt.snoc hp (by rw [← eks]; exact e1) hok
                refine ⟨_, rfl, q1, _, rfl, .inl (SqT.of eq6), _, rfl, ?_, fun pz npz => ?_⟩
                · rw [List.length_append, List.length_map]
                  exact Nat.le_of_lt (small1000 (by show ks.length + 1 ≤ 1000; omega))
                refine ⟨pz, ks ++ [(cc : Int)], rfl, SqL.of (by rw [upd_same, List.map_append]; rfl), fun ns' po hperm hsort npo => ?_⟩
                refine ⟨po, _, rfl, .inl ⟨SqL.of upd_same, fun l nl => ?_⟩⟩
                obtain rfl := srt_uniq hperm hsort
                have k7 := ((same_new (o := HO.lst (ks.map V.int ++ [.int (cc : Nat)])) npz).trans (same_new (o := HO.lst ((srt (ks ++ [(cc : Int)])).map V.int)) npo)).trans (same_new (o := HO.tup ((srt (ks ++ [(cc : Int)])).map V.int)) nl)
                have eK : (upd (upd (upd H6 pz (.lst (ks.map V.int ++ [.int (cc : Nat)]))) po (.lst ((srt (ks ++ [(cc : Int)])).map V.int))) l (.tup ((srt (ks ++ [(cc : Int)])).map V.int))) l = some (.tup ((srt (ks ++ [(cc : Int)])).map V.int)) := upd_same
                have s7 := s6.trans k7
                have d7 := d6.trans (SameD.of k7)
                have ekl7 := k7 _ _ ekl6
                have hEl7 := hEl6.same (SameD.of k7).u
                have hR7 := fun i' h c' => (hR6 i' h c').same (SameD.of k7).u
                have hRi7 := fun c' h => (hRi6 c' h).same (SameD.of k7).u
                revert s7 d7 ekl7 hEl7 hR7 hRi7 eK
                generalize (upd (upd (upd H6 pz (.lst (ks.map V.int ++ [.int (cc : Nat)]))) po (.lst ((srt (ks ++ [(cc : Int)])).map V.int))) l (.tup ((srt (ks ++ [(cc : Int)])).map V.int))) = H7
                intro eK s7 d7 ekl7 hEl7 hR7 hRi7
                refine ⟨_, rfl, _, rfl, _, rfl, _, rfl, c, _, _, .int f', rfl, rfl, sqT_same s7 hc, atI_nat (ints_get hf), rfl, .inr ⟨_, rfl, s0', _, rfl, rfl, ?_⟩⟩
                have eh : s0' + (if decide (V.int p = V.int f') = true then (1 : Int) else 0) = s0' + stay1 st (cc, p) := by
                  unfold stay1
                  have hf : st[((cc, p) : Nat × Int).1]? = some f' := hf
                  rw [hf]
                  by_cases z : p = f'
                  · rw [z, decide_eq_true rfl, if_pos rfl, if_pos rfl]
                  · rw [decide_eq_false (fun q => z (V.int.inj q)), if_neg (fun q => z (Option.some.inj q).symm)]
                    rfl
                generalize hvE : s0' + (if decide (V.int p = V.int f') = true then (1 : Int) else 0) = hv at eh
                have hv0 : 0 ≤ hv := by
                  have h1 := stays_nn st M
                  have h2 := stay1_nn st (cc, p)
                  omega
                refine ⟨_, rfl, pl, rfl, .inr ⟨kl, .inl ekl7⟩, _, rfl, _, rfl, by show 2 ≤ sizeLine; decide, fun pz npz => ?_⟩
                refine ⟨_, DGet.t (k := kI (srt (ks ++ [(cc : Int)]))) (same_new npz _ _ ekl7) (by rw [kI_vals]; exact same_new npz _ _ eK), ?_⟩
                have k8 := same_new (o := HO.tup [.int (-1), .int 0]) npz
                have s8 := s7.trans k8
                have d8 := d7.trans (SameD.of k8)
                have ekl8 := k8 _ _ ekl7
                have eK8 := k8 _ _ eK
                have hEl8 := hEl7.same (SameD.of k8).u
                have hR8 := fun i' h c' => (hR7 i' h c').same (SameD.of k8).u
                have hRi8 := fun c' h => (hRi7 c' h).same (SameD.of k8).u
                have eZ : (upd H7 pz (.tup [.int (-1), .int 0])) pz = some (.tup [.int (-1), .int 0]) := upd_same
                show gTup K 2 _ ((valV kl (kI (srt (ks ++ [(cc : Int)])))).getD (.ref pz)) _ (upd H7 pz (.tup [.int (-1), .int 0])) _
                revert s8 d8 ekl8 eK8 hEl8 hR8 hRi8 eZ
                generalize upd H7 pz (.tup [.int (-1), .int 0]) = H8
                intro s8 d8 ekl8 eK8 hEl8 hR8 hRi8 eZ
                -- the pair that stands there, or (-1, 0)
                obtain ⟨ab, best, wy, eab, hab, hold⟩ : ∃ ab best wy, (valV kl (kI (srt (ks ++ [(cc : Int)])))).getD (.ref pz) = .ref ab ∧ H8 ab = some (.tup [.int best, .int wy]) ∧
                    ((valV kl (kI (srt (ks ++ [(cc : Int)]))) = none ∧ best = -1) ∨ valV kl (kI (srt (ks ++ [(cc : Int)]))) = some (.ref ab)) := by
                  cases ev : valV kl (kI (srt (ks ++ [(cc : Int)]))) with
                  | none => exact ⟨pz, -1, 0, rfl, eZ, .inl ⟨rfl, rfl⟩⟩
                  | some v0 =>
                    obtain ⟨_, s1', m1', _, ⟨ab, rfl, hab⟩, _⟩ := hEl8 _ (val_mem ev)
                    exact ⟨ab, s1', m1', rfl, hab, .inr rfl⟩
                rw [eab]
                refine ⟨ab, _, rfl, SqT.of hab, rfl, _, _, rfl, _, _, rfl, rfl, ?_⟩
                have eks' : srt (ks ++ [(cc : Int)]) = keyOf (M ++ [(cc, p)]) := by rw [eks]; exact key_snoc (srt_perm _) (srt_up _)
                have hsd : Sd hs st (j + 1) (srt (ks ++ [(cc : Int)])) hv := ⟨_, mt', eks', by rw [stays_snoc, eh, es]⟩
                have relc : ∀ {HF : Hp} {kl' : List (List Key × V)}, Got HF kl' (srt (ks ++ [(cc : Int)])) hv → Rel hs st HL kvs p HF kl' i cc := fun g ks' v' s' m' h1 h2 h3 h4 => by
                  rw [hk] at h1
                  have h1 := Option.some.inj h1
                  have h1a := kI_inj (congrArg Prod.fst h1)
                  have h1b : V.ref av = v' := congrArg Prod.snd h1
                  have hpa : Pr HL (.ref av) s0' m0 := ⟨av, rfl, eHav⟩
                  rw [← h1b] at h2
                  rw [← h1a, (h2.uniq hpa).1, ← eh]
                  exact g
                have klb : kl.length < sizeLine := by
                  have z1 : i * hs.length ≤ 7 ^ j * 7 := Nat.mul_le_mul (by omega) l7
                  have z2 : 7 ^ j * 7 ≤ 823543 := by
                    rw [← Nat.pow_succ]
                    exact Nat.le_trans (Nat.pow_le_pow_right (by decide) (show j + 1 ≤ 7 by omega)) (by decide)
                  rw [sizeLine_eq]
                  omega
                have fin : ∀ (H9 : Hp) (pv : Addr) (s1 m1 : Int), Same H8 H9 → H9 pv = some (.tup [.int s1, .int m1]) → s1 = hv → best ≤ hv →
                    (putK kl (kI (srt (ks ++ [(cc : Int)]))) (.ref pv)).length ≤ i * hs.length + (cc + 1) ∧ Ents (upd H9 pl (.dT (putK kl (kI (srt (ks ++ [(cc : Int)]))) (.ref pv)))) (putK kl (kI (srt (ks ++ [(cc : Int)]))) (.ref pv)) (Sd hs st (j + 1)) ∧
                    (∀ i', i' < i → ∀ cc', Rel hs st HL kvs p (upd H9 pl (.dT (putK kl (kI (srt (ks ++ [(cc : Int)]))) (.ref pv)))) (putK kl (kI (srt (ks ++ [(cc : Int)]))) (.ref pv)) i' cc') ∧
                    (∀ c', c' < cc + 1 → Rel hs st HL kvs p (upd H9 pl (.dT (putK kl (kI (srt (ks ++ [(cc : Int)]))) (.ref pv)))) (putK kl (kI (srt (ks ++ [(cc : Int)]))) (.ref pv)) i c') ∧
                    SameD H4 (upd H9 pl (.dT (putK kl (kI (srt (ks ++ [(cc : Int)]))) (.ref pv)))) ∧ Same H (upd H9 pl (.dT (putK kl (kI (srt (ks ++ [(cc : Int)]))) (.ref pv)))) := by
                  intro H9 pv s1 m1 k9 ev e1' hb'
                  subst e1'
                  have ekl9 := k9 _ _ ekl8
                  have u9 : SameU H8 (upd H9 pl (.dT (putK kl (kI (srt (ks ++ [(cc : Int)]))) (.ref pv)))) := fun b xs h => by
                    have ne : b ≠ pl := fun z => by
                      rw [z, ekl8] at h
                      cases h
                    rw [upd_ne ne]
                    exact k9 _ _ h
                  have hpv : Pr (upd H9 pl (.dT (putK kl (kI (srt (ks ++ [(cc : Int)]))) (.ref pv)))) (.ref pv) s1 m1 := ⟨pv, rfl, by
                    have ne : pv ≠ pl := fun z => by
                      rw [z, ekl9] at ev
                      cases ev
                    rw [upd_ne ne]
                    exact ev⟩
                  have hmono : ∀ v0 s0 m0, valV kl (kI (srt (ks ++ [(cc : Int)]))) = some v0 → Pr (upd H9 pl (.dT (putK kl (kI (srt (ks ++ [(cc : Int)]))) (.ref pv)))) v0 s0 m0 → s0 ≤ s1 := fun v0 s0 m0 h1 h2 => by
                    rcases hold with ⟨hn, _⟩ | hs'
                    · rw [hn] at h1
                      cases h1
                    · rw [hs'] at h1
                      cases h1
                      have hpa : Pr (upd H9 pl (.dT (putK kl (kI (srt (ks ++ [(cc : Int)]))) (.ref pv)))) (.ref ab) best wy := ⟨ab, rfl, u9 _ _ hab⟩
                      rw [(h2.uniq hpa).1]
                      exact hb'
                  have up : ∀ {i' c' : Nat}, Rel hs st HL kvs p H8 kl i' c' → Rel hs st HL kvs p (upd H9 pl (.dT (putK kl (kI (srt (ks ++ [(cc : Int)]))) (.ref pv)))) (putK kl (kI (srt (ks ++ [(cc : Int)]))) (.ref pv)) i' c' :=
                    fun g ks' v' s' m' h1 h2 h3 h4 => ((g ks' v' s' m' h1 h2 h3 h4).same u9).put hpv hmono
                  refine ⟨?_, (hEl8.same u9).put hpv hsd, fun i' hi' c' => up (hR8 i' hi' c'), fun c' hc' => ?_, sameD_upd (d8.trans (SameD.of k9)) (.inl ekl4), same_put (s8.trans k9) nplH⟩
                  · have := length_putK kl (kI (srt (ks ++ [(cc : Int)]))) (.ref pv)
                    omega
                  · by_cases z : c' = cc
                    · subst z
                      exact relc (Got.here hpv)
                    · exact up (hRi8 c' (by omega))
                clear hsd
                subst hvE
                refine ⟨_, rfl, _, rfl, _, best, rfl, rfl, _, rfl, ite2 (fun e4 => ?_) (fun e4 => ?_)⟩
                · have e4 := of_decide_eq_true e4
                  have e4 : best < s0' + (if decide (V.int p = V.int f') = true then (1 : Int) else 0) := e4
                  refine ⟨_, rfl, _, rfl, by show 2 ≤ sizeLine; decide, fun pv npv => ⟨_, rfl, _, rfl, pl, _, rfl, DPut.t (k := kI (srt (ks ++ [(cc : Int)]))) (same_new npv _ _ ekl8) (by rw [kI_vals]; exact same_new npv _ _ eK8) klb, ?_⟩⟩
                  obtain ⟨f1, f2, f3, f4, f5, f6⟩ := fin _ pv (s0' + (if decide (V.int p = V.int f') = true then (1 : Int) else 0)) m0 (same_new (o := HO.tup [.int (s0' + (if decide (V.int p = V.int f') = true then (1 : Int) else 0)), .int m0]) npv) upd_same rfl (by omega)
                  exact ⟨⟨_, _, _, _, _, _, _, rfl, upd_same, f1, f2, f3, f4⟩, f5, f6⟩
                · have e4 : ¬ best < s0' + (if decide (V.int p = V.int f') = true then (1 : Int) else 0) := fun z => e4 (decide_eq_true z)
                  refine ⟨_, rfl, _, rfl, rfl, _, rfl, ite2 (fun e5 => ?_) (fun e5 => ?_)⟩
                  · have e5 : s0' + (if decide (V.int p = V.int f') = true then (1 : Int) else 0) = best := V.int.inj (of_decide_eq_true e5)
                    refine ⟨_, rfl, _, rfl, _, rfl, wy, m0, rfl, rfl, by show 2 ≤ sizeLine; decide, fun pv npv => ⟨_, rfl, _, rfl, pl, _, rfl, DPut.t (k := kI (srt (ks ++ [(cc : Int)]))) (same_new npv _ _ ekl8) (by rw [kI_vals]; exact same_new npv _ _ eK8) klb, ?_⟩⟩
                    obtain ⟨f1, f2, f3, f4, f5, f6⟩ := fin _ pv best (wy + m0) (same_new (o := HO.tup [.int best, .int (wy + m0)]) npv) upd_same e5.symm (by omega)
                    exact ⟨⟨_, _, _, _, _, _, _, rfl, upd_same, f1, f2, f3, f4⟩, f5, f6⟩
                  · rcases hold with ⟨_, hb1⟩ | hs'
                    · omega
                    · exact ⟨⟨kl, _, _, _, _, _, _, rfl, ekl8, by omega, hEl8, hR8, fun c' hc' => by
                        by_cases z : c' = cc
                        · subst z
                          exact relc ⟨.ref ab, best, wy, hs', ⟨ab, rfl, hab⟩, by omega⟩
                        · exact hRi8 c' (by omega)⟩, d8, s8⟩
              · exact ⟨⟨kl, _, _, _, _, _, _, rfl, ekl6, by omega, hEl6, hR6, nope (.inr fun ⟨x1, x2, x3, x4, x5, x6⟩ => by
                  have x4 : st[cc]? = some x2 := x4
                  rw [hf] at x4
                  cases x4
                  exact e3 (decide_eq_true x6))⟩, d6, s6⟩
            · refine ⟨_, rfl, iteF ?_⟩
              exact ⟨⟨kl, _, _, _, _, _, _, rfl, ekl6, by omega, hEl6, hR6, nope (.inr fun ⟨x1, x2, x3, x4, x5, x6⟩ => by
                  have x3 : hs[cc]? = some x1 := x3
                  rw [hh'] at x3
                  cases x3
                  exact e2 (decide_eq_true x5))⟩, d6, s6⟩
          · have e1 : (cc : Int) ∈ ks := by
              by_cases z : (cc : Int) ∈ ks
              · exact z
              · rw [decide_eq_false z] at e1
                exact absurd rfl e1
            exact ⟨⟨kl, _, _, _, _, _, _, rfl, ekl6, by omega, hEl6, hR6, nope (.inl e1)⟩, d6, s6⟩
        · obtain ⟨⟨kl, y8, y9, y10, y11, y12, y13, rfl, ekl, hkl, hEl, hR, hRi⟩, d5, s5⟩ := hP
          rw [List.length_map] at hkl hRi
          refine ⟨⟨kl, _, _, _, _, _, _, _, _, _, rfl, ekl, by rw [Nat.succ_mul]; exact hkl, hEl, fun i' hi' cc => ?_⟩, d4.trans d5, s5⟩
          by_cases z : i' = i
          · subst z
            by_cases z2 : cc < hs.length
            · exact hRi cc z2
            · exact fun ks v s m _ _ _ ok => absurd ok.lt z2
          · exact hR i' (by omega) cc
      · obtain ⟨⟨kl, y5, y6, y7, y8, y9, y10, y11, y12, y13, rfl, ekl, hkl, hEl, hR⟩, d3, s3⟩ := hP
        have elk := d3 _ _ eL rfl
        refine ⟨elk, _, rfl, ?_⟩
        have sU : Same H (upd H3 pd (.dT kvs)) := same_put s3 npd
        have dU : SameD H2 (upd H3 pd (.dT kvs)) := sameD_upd (dL.trans d3) (.inl e)
        have uU : SameU H3 (upd H3 pd (.dT kvs)) := fun b xs h => by
          have ne : b ≠ pd := fun z => by
            rw [z, elk] at h
            cases h
          rw [upd_ne ne]
          exact h
        have nlp' : pl ≠ pd := nlp
        refine ⟨⟨pl, kl, _, _, _, _, _, _, _, _, _, _, _, rfl, nplH, by rw [upd_ne nlp']; exact ekl, ?_, hEl.same uU, fun M' m' => ?_⟩, sU, dU _ _ ept rfl⟩
        · rw [Nat.pow_succ]
          exact Nat.le_trans hkl (Nat.mul_le_mul hlen l7)
        · obtain ⟨M, cc, rfl, m, hc1, hok⟩ := m'.unsnoc hp
          obtain ⟨v', s', mm, hv, hpr, hle⟩ := hG M m
          obtain ⟨i, hi, ei⟩ := List.getElem_of_mem (val_mem hv)
          have g := hR i hi cc (keyOf M) v' s' mm (by rw [List.getElem?_eq_getElem hi, ei]) (hpr.same dL.u) hc1 hok
          rw [key_snoc (p := p) (srt_perm _) (srt_up _)] at g
          obtain ⟨v2, s2', mm2, h1, h2, h3⟩ := g.same uU
          refine ⟨v2, s2', mm2, h1, h2, ?_⟩
          rw [stays_snoc]
          omega
    · obtain ⟨⟨pd, kvs, y3, y4, y5, y6, y7, y8, y9, y10, y11, y12, y13, rfl, npd, e, hlen, hE, hG⟩, s2, ept⟩ := hP
      rw [List.length_map, tl] at hE hG
      have er : rgV 0 ((st.map V.int).length : Nat) = ((List.range hs.length).map fun c => ((c : Nat) : Int)).map V.int := by
        unfold rgV
        rw [List.length_map, ← hl, Int.sub_zero, Int.toNat_natCast, List.map_map]
        refine List.map_congr_left fun i _ => ?_
        show V.int (0 + (i : Int)) = V.int (i : Int)
        rw [Int.zero_add]
      refine ⟨_, rfl, _, rfl, c, _, rfl, .inr (sqT_same s2 hc), _, rfl, RgOk.of_le (Int.le_refl 0) (by rw [List.length_map]; omega) (by omega) (by omega), fun pq npq => ?_⟩
      rw [er]
      have kq : Same H2 (upd H2 pq (.tup (((List.range hs.length).map fun c => ((c : Nat) : Int)).map V.int))) := same_new npq
      obtain ⟨r, hr0⟩ : ∃ r, r ∈ restsIn hs st := by
        cases e : restsIn hs st with
        | nil => exact absurd e (rests_ne S.ok)
        | cons r _ => exact ⟨r, List.mem_cons_self⟩
      obtain ⟨M0, m0, _⟩ := Mt.of_rest S.ok hr0
      have hG0 := hG M0 m0
      rw [m0.key tl] at hG0
      obtain ⟨v', s', mm, hv, hp', _⟩ := hG0
      obtain ⟨ks', s'', mm', ek, hp'', M1, m1, ek2, es⟩ := hE _ (val_mem hv)
      have ez := (hp'.uniq hp'').1
      obtain ⟨av, rfl, eav⟩ := hp'
      refine ⟨pd, .ref av, rfl, by rw [← hv]; exact DGet.t (kq _ _ e) (by rw [kI_vals]; exact upd_same), ?_⟩
      refine q _ _ _ _ (s2.trans kq) (kq _ _ eav) ⟨⟨M1, m1, by rw [ez, es]⟩, fun M m => ?_⟩
      obtain ⟨v2, s2', mm2, hv2, hp2, hle⟩ := hG M m
      rw [m.key tl, hv] at hv2
      cases hv2
      have hpa : Pr H2 (.ref av) s' mm := ⟨av, rfl, eav⟩
      rw [(hpa.uniq hp2).1]
      exact hle

theorem scCallsToRest : FnScope ["street", "state"] ["street", "state"] (defScope sCallsToRest) := ⟨rfl, rfl, rfl, by decide +kernel, rfl, by decide +kernel, by decide +kernel⟩
def spFew (K : PySem.W.Frag) : Sp := fun vs H Q _ => ∃ (v u : V) (n : Int) (hs st : List Int), vs = [v, u] ∧ Dp K H v (dS n hs) ∧ Dp K H u (dT st) ∧ IsState n hs st ∧
  ∀ H' k, Same H H' → Few hs st k → Q (.int k) H'
theorem dn_callsToRest (F : Fd K mg "calls_to_rest" sCallsToRest) (B : Bi mg) (D1 : DnSt P w K mg base) (D2 : Dn P w K mg base "stays_in" ["street", "state"] 2 (spStays K)) : Dn P w K mg base "calls_to_rest" ["street", "state"] 5 (spFew K) := by
  refine dn_mk F scCallsToRest (fun _ _ _ _ _ _ us hl => match us, hl with | [_, _], _ => rfl) (fun vs H Q E h => ?_) (fun f cdv A outer s H vs Q E hr h => ?_)
  · obtain ⟨v, u, n, hs, st, rfl, _⟩ := h
    rfl
  · obtain ⟨v, u, n, hs, st, rfl, hd, hu, S, q⟩ := h
    refine ⟨_, pss_cons (ps_expr (pe_d D1 hr (pa_cons (pv 0) (pa_cons (pv 1) pa_nil)))) (pss_one (ps_ret (pe_op op_sub (pe_callB call_len_seq (by rfl) B.len boot_len (pa_cons (pv 1) pa_nil))
      (pe_ix ix_tup (pe_d D2 hr (pa_cons (pv 0) (pa_cons (pv 1) pa_nil))) pe_int (fun _ _ => rfl))))), ?_⟩
    refine ⟨_, rfl, _, rfl, v, u, n, hs, st, rfl, hd, hu, S, fun H1 s1 => ?_⟩
    obtain ⟨c, rfl, hc⟩ := dT_inv (dp_same s1 hu)
    refine ⟨_, rfl, c, _, rfl, .inr hc, ?_⟩
    refine ⟨_, rfl, _, rfl, v, .ref c, n, hs, st, rfl, dp_same s1 hd, dp_same s1 hu, S, fun H2 p s m s2 ep hM => ?_⟩
    refine ⟨p, _, 0, .int s, rfl, rfl, SqT.of ep, atI_nat (j := 0) rfl, _, s, rfl, rfl, ?_⟩
    rw [List.length_map]
    exact q _ _ (s1.trans s2) (hM.few S.ok)
end
end Pk
/-! Parkback: the walks, part 10: the law's own defs: _law_taken, _law_pick, _law_street, _law_state. -/
namespace Pk
open PySem PySem.Spec PyProof.Rows L2
/-- all but rw stays -/
def SameR (rw : Addr) (H H' : Hp) : Prop := ∀ b o, b ≠ rw → H b = some o → H' b = some o
theorem SameR.of {rw : Addr} {H H' : Hp} (s : Same H H') : SameR rw H H' := fun b o _ e => s b o e
theorem SameR.trans {rw : Addr} {H H1 H2 : Hp} (a : SameR rw H H1) (b : SameR rw H1 H2) : SameR rw H H2 := fun c o n e => b c o n (a c o n e)
theorem SameR.free {rw : Addr} {H H' : Hp} {p : Addr} (s : SameR rw H H') (n : p ≠ rw) (h : H' p = none) : H p = none := by
  cases e : H p with
  | none => rfl
  | some o =>
    rw [s p o n e] at h
    cases h
/-- the row of draws -/
structure Row (K : PySem.W.Frag) (H : Hp) (rw sp : Addr) (ns : List Int) : Prop where
  at_ : ∃ i s r : Int, 0 ≤ i ∧ H rw = some (.lst [.ref sp, .int i, .int s, .int r])
  seq : SqL K H sp (ns.map V.int)
  ne : sp ≠ rw ∨ ∀ H', SqL K H' sp (ns.map V.int)
theorem SameR.t {rw : Addr} {H H' : Hp} (s : SameR rw H H') {xs : List V} (h : H rw = some (.lst xs)) : SameT H H' := fun b o e f => by
  refine s b o (fun z => ?_) e
  rw [z, h] at e
  cases e
  cases f
theorem sqL_r {K : PySem.W.Frag} {rw sp : Addr} {H H' : Hp} {xs : List V} (s : SameR rw H H') (n : sp ≠ rw ∨ ∀ H', SqL K H' sp xs) (h : SqL K H sp xs) : SqL K H' sp xs := by
  rcases n with n | n
  rotate_left
  · exact n H'
  rcases h with (h | ⟨o, h⟩) | h
  · exact .inl (.inl (s _ _ n h))
  · exact .inl (.inr ⟨o, s _ _ n h⟩)
  · exact .inr h
theorem sameR_upd {rw : Addr} {H : Hp} {o : HO} : SameR rw H (upd H rw o) := fun b o n e => by
  rw [upd_ne n]
  exact e
theorem Row.upd {K : PySem.W.Frag} {H : Hp} {rw sp : Addr} {ns : List Int} (R : Row K H rw sp ns) {i s r : Int} (hi : 0 ≤ i) : Row K (L2.upd H rw (.lst [.ref sp, .int i, .int s, .int r])) rw sp ns :=
  ⟨⟨i, s, r, hi, upd_same⟩, sqL_r sameR_upd R.ne R.seq, R.ne⟩
theorem Row.r {K : PySem.W.Frag} {H H' : Hp} {rw sp : Addr} {ns : List Int} (R : Row K H rw sp ns) (s : Same H H') : Row K H' rw sp ns := by
  obtain ⟨i, x, r, hi, e⟩ := R.at_
  exact ⟨⟨i, x, r, hi, s _ _ e⟩, sqL_r (SameR.of s) R.ne R.seq, R.ne⟩
section
variable {P : Program} {w : World} {K : PySem.W.Frag} {mg : Str → Option Value} {base : Heap}
theorem scLawTaken : FnScope ["_law_row", "_law_many", "_law_found", "_law_cell"] ["_law_row", "_law_many"] (defScope sLawTaken) := ⟨rfl, rfl, rfl, by decide +kernel, rfl, by decide +kernel, by decide +kernel⟩
def spTaken (K : PySem.W.Frag) : Sp := fun vs H Q _ => ∃ (rw sp : Addr) (ns : List Int) (m : Int), vs = [.ref rw, .int m] ∧ Row K H rw sp ns ∧ 1 ≤ m ∧ m ≤ 1000 ∧
  ∀ H' v, SameR rw H H' → Row K H' rw sp ns → 0 ≤ v → v < m → Q (.int v) H'
theorem dn_lawTaken (F : Fd K mg "_law_taken" sLawTaken) (B : Bi mg) : Dn P w K mg base "_law_taken" ["_law_row", "_law_many"] 1 (spTaken K) := by
  refine dn_mk F scLawTaken (fun _ _ _ _ _ _ us hl => match us, hl with | [_, _], _ => rfl) (fun vs H Q E h => ?_) (fun f cdv A outer s H vs Q E hr h => ?_)
  · obtain ⟨rw, sp, ns, m, rfl, _⟩ := h
    rfl
  · obtain ⟨rw, sp, ns, m, rfl, R, hm1, hm2, q⟩ := h
    have nd := scLawTaken.nd
    refine ⟨_, pss_cons (ps_if (pt_cmpR op_gt (pe_ix ix_list (pv 0) pe_int (fun _ _ => rfl)) pe_int (nomark _))
        (pss_cons (ps_set (i := 2) nd rfl (.inl rfl) (pe_op op_mod (pe_callTy call_int1 (by rfl) B.int (by decide +kernel) (pa_cons (pe_ix ix_list (pv 0) pe_int (fun _ _ => rfl)) pa_nil)) (pv 1)))
        (pss_cons (ps_asg (pe_op op_fdiv (pe_ix ix_list (pv 0) pe_int (fun _ _ => rfl)) (pv 1)) (pg_sub (pv 0) pe_int set_list))
        (pss_one (ps_ret (pv 2))))) pss_nil)
      (pss_cons (ps_asg (pe_op op_add (pe_ix ix_list (pv 0) pe_int (fun _ _ => rfl)) pe_int) (pg_sub (pv 0) pe_int set_list))
      (pss_cons (ps_if (pt_cmpR op_gt (pe_ix ix_list (pv 0) pe_int (fun _ _ => rfl)) (pe_callB call_len_seq (by rfl) B.len boot_len (pa_cons (pe_ix ix_list (pv 0) pe_int (fun _ _ => rfl)) pa_nil)) (nomark _))
        (pss_cons (ps_asg (pe_op op_mod (pe_callTy call_int1 (by rfl) B.int (by decide +kernel) (pa_cons (pe_op op_add (pe_op op_mul (pe_ix ix_list (pv 0) pe_int (fun _ _ => rfl)) pe_int) pe_int) pa_nil)) pe_int) (pg_sub (pv 0) pe_int set_list))
        (pss_one (ps_ret (pe_op op_mod (pe_callTy call_int1 (by rfl) B.int (by decide +kernel) (pa_cons (pe_op op_fdiv (pe_ix ix_list (pv 0) pe_int (fun _ _ => rfl)) pe_int) pa_nil)) (pv 1))))) pss_nil)
      (pss_cons (ps_set (i := 3) nd rfl (.inl rfl) (pe_ix ix_list (pe_ix ix_list (pv 0) pe_int (fun _ _ => rfl)) (pe_op op_sub (pe_ix ix_list (pv 0) pe_int (fun _ _ => rfl)) pe_int) (fun _ _ => rfl)))
      (pss_cons (ps_asg (pe_op op_mod (pe_callTy call_int1 (by rfl) B.int (by decide +kernel) (pa_cons (pe_op op_add (pe_op op_add (pe_op op_mul (pe_ix ix_list (pv 0) pe_int (fun _ _ => rfl)) pe_int) (pv 3)) pe_int) pa_nil)) pe_int) (pg_sub (pv 0) pe_int set_list))
      (pss_cons (ps_if (pt_cmpR op_ge (pv 3) (pe_op op_pow pe_int pe_int) (nomark _))
        (pss_one (ps_asg (pe_op op_fdiv (pv 3) (pv 1)) (pg_sub (pv 0) pe_int set_list))) pss_nil)
      (pss_one (ps_ret (pe_op op_mod (pe_callTy call_int1 (by rfl) B.int (by decide +kernel) (pa_cons (pv 3) pa_nil)) (pv 1))))))))), ?_⟩
    obtain ⟨i, s0, r, hi, e⟩ := R.at_
    have m0 : (0 : Int) < m := by omega
    refine ⟨_, rfl, rw, _, 3, .int r, rfl, rfl, SqL.of e, atI_nat (j := 3) rfl, r, 0, rfl, rfl, _, rfl, ite2 (fun e1 => ?_) (fun e1 => ?_)⟩
    · refine ⟨_, rfl, rw, _, 3, .int r, rfl, rfl, SqL.of e, atI_nat (j := 3) rfl, .inl ⟨r, rfl, _, rfl, r, m, rfl, rfl, m0, ?_⟩⟩
      refine ⟨_, rfl, rw, _, 3, .int r, rfl, rfl, SqL.of e, atI_nat (j := 3) rfl, _, rfl, r, m, rfl, rfl, ⟨by omega, by omega⟩, _, rfl, rw, _, 3, 3, rfl, rfl, e, rfl, ?_⟩
      exact ⟨_, rfl, q _ _ sameR_upd (R.upd hi) (Int.emod_nonneg _ (by omega)) (Int.emod_lt_of_pos _ m0)⟩
    · refine ⟨_, rfl, rw, _, 1, .int i, rfl, rfl, SqL.of e, atI_nat (j := 1) rfl, i, 1, rfl, rfl, _, rfl, rw, _, 1, 1, rfl, rfl, e, rfl, ?_⟩
      have R1 : Row K (upd H rw (.lst [.ref sp, .int (i + 1), .int s0, .int r])) rw sp ns := R.upd (by omega)
      have e1 : (upd H rw (.lst [.ref sp, .int (i + 1), .int s0, .int r])) rw = some (.lst [.ref sp, .int (i + 1), .int s0, .int r]) := upd_same
      have k1 : SameR rw H (upd H rw (.lst [.ref sp, .int (i + 1), .int s0, .int r])) := sameR_upd
      show tSeq _ _ _ _ (upd H rw (.lst [.ref sp, .int (i + 1), .int s0, .int r]))
      revert R1 e1 k1
      generalize upd H rw (.lst [.ref sp, .int (i + 1), .int s0, .int r]) = H1
      intro R1 e1 k1
      refine ⟨_, rfl, rw, _, 1, .int (i + 1), rfl, rfl, SqL.of e1, atI_nat (j := 1) rfl, ?_⟩
      refine ⟨_, rfl, rw, _, 0, .ref sp, rfl, rfl, SqL.of e1, atI_nat (j := 0) rfl, sp, _, rfl, .inl R1.seq, _, _, rfl, rfl, _, rfl, ite2 (fun e2 => ?_) (fun e2 => ?_)⟩
      · refine ⟨_, rfl, rw, _, 2, .int s0, rfl, rfl, SqL.of e1, atI_nat (j := 2) rfl, s0, _, rfl, rfl, .inr (by omega), _, _, rfl, rfl, .inl ⟨_, rfl, _, _, rfl, rfl, (show (0 : Int) < 2147483647 by decide), _, rfl, rw, _, 2, 2, rfl, rfl, e1, rfl, ?_⟩⟩
        refine ⟨_, rfl, rw, _, 2, .int ((s0 * 48271 + 11) % 2147483647), rfl, rfl, SqL.of upd_same, atI_nat (j := 2) rfl, _, 7, rfl, rfl, ⟨by decide, by decide⟩, .inl ⟨_, rfl, _, rfl, _, m, rfl, rfl, m0, ?_⟩⟩
        exact q _ _ (k1.trans sameR_upd) (R1.upd (by omega)) (Int.emod_nonneg _ (by omega)) (Int.emod_lt_of_pos _ m0)
      · have e2 : ¬ (((ns.map V.int).length : Nat) : Int) < i + 1 := fun z => e2 (decide_eq_true z)
        rw [List.length_map] at e2
        obtain ⟨k, rfl⟩ : ∃ k : Nat, i = k := ⟨i.toNat, by omega⟩
        have gk : ns[k]? = some ns[k] := List.getElem?_eq_getElem (by omega)
        generalize ns[k] = c at gk
        have ek : ((k : Int) + 1) - 1 = (k : Nat) := by omega
        refine ⟨_, rfl, rw, _, 0, .ref sp, rfl, rfl, SqL.of e1, atI_nat (j := 0) rfl, _, rfl, rw, _, 1, .int ((k : Int) + 1), rfl, rfl, SqL.of e1, atI_nat (j := 1) rfl, _, 1, rfl, rfl, sp, _, _, .int c, rfl, rfl, R1.seq, by rw [ek]; exact atI_nat (ints_get gk), ?_⟩
        refine ⟨_, rfl, rw, _, 2, .int s0, rfl, rfl, SqL.of e1, atI_nat (j := 2) rfl, s0, _, rfl, rfl, .inr (by omega), _, rfl, _, c, rfl, rfl, _, _, rfl, rfl, .inl ⟨_, rfl, _, _, rfl, rfl, (show (0 : Int) < 2147483647 by decide), _, rfl, rw, _, 2, 2, rfl, rfl, e1, rfl, ?_⟩⟩
        refine ⟨_, rfl, 10, 18, rfl, rfl, ⟨by decide, by decide, by decide⟩, c, _, rfl, rfl, _, rfl, ite2 (fun e3 => ?_) (fun e3 => ?_)⟩
        · refine ⟨_, rfl, _, rfl, c, m, rfl, rfl, ⟨by omega, by omega⟩, _, rfl, rw, _, 3, 3, rfl, rfl, upd_same, rfl, ?_⟩
          refine ⟨_, rfl, .inl ⟨_, rfl, _, rfl, _, m, rfl, rfl, m0, ?_⟩⟩
          exact q _ _ ((k1.trans sameR_upd).trans sameR_upd) ((R1.upd (by omega)).upd (by omega)) (Int.emod_nonneg _ (by omega)) (Int.emod_lt_of_pos _ m0)
        · refine ⟨_, rfl, .inl ⟨_, rfl, _, rfl, _, m, rfl, rfl, m0, ?_⟩⟩
          exact q _ _ (k1.trans sameR_upd) (R1.upd (by omega)) (Int.emod_nonneg _ (by omega)) (Int.emod_lt_of_pos _ m0)
end
end Pk
/-! Parkback: the walks, part 11: _law_pick, _law_street. -/
namespace Pk
open PySem PySem.Spec PyProof.Rows L2
/-- the homes as the law draws them: the i-th below s - i -/
def Drawn : List Int → Int → Prop
  | [], _ => True
  | x :: l, s => (0 ≤ x ∧ x ≤ s - 1) ∧ Drawn l (s - 1)
theorem drawn_snoc : ∀ {l : List Int} {s x : Int}, Drawn l s → 0 ≤ x → x ≤ s - l.length - 1 → Drawn (l ++ [x]) s
  | [], s, x, _, h1, h2 => ⟨⟨h1, by simpa using h2⟩, trivial⟩
  | y :: l, s, x, h, h1, h2 => ⟨h.1, drawn_snoc h.2 h1 (by simp at h2; omega)⟩
theorem drawn_in : ∀ {l : List Int} {s : Int}, Drawn l s → ∀ x ∈ l, 0 ≤ x ∧ x ≤ s - 1
  | y :: l, s, h, x, hx => by
    rcases List.mem_cons.mp hx with e | hx
    · rw [e]
      exact h.1
    · have := drawn_in h.2 x hx
      omega
theorem drawn_room (p : Int) : ∀ {l : List Int} {s : Int}, Drawn l s → ((l.filter fun h => decide (p ≤ h)).length : Int) ≤ max 0 (s - p)
  | [], s, _ => by
    show (0 : Int) ≤ _
    omega
  | x :: l, s, h => by
    have ih := drawn_room p h.2
    rw [List.filter_cons]
    by_cases c : p ≤ x
    · rw [if_pos (decide_eq_true c), List.length_cons]
      have := h.1
      omega
    · rw [if_neg (fun z => c (of_decide_eq_true z))]
      omega
/-- the script's list stays while rw and a list laid since are written -/
theorem sqL_pl {K : PySem.W.Frag} {rw sp pl : Addr} {H H' : Hp} {xs : List V} (np : H pl = none) (h : SqL K H sp xs) (s : ∀ b o, b ≠ rw → b ≠ pl → H b = some o → H' b = some o) (n : sp ≠ rw ∨ ∀ H', SqL K H' sp xs) : SqL K H' sp xs := by
  rcases n with n | n
  rotate_left
  · exact n H'
  have ne : ∀ o, H sp = some o → sp ≠ pl := fun o e z => by
    rw [z, np] at e
    cases e
  rcases h with (h | ⟨o, h⟩) | h
  · exact .inl (.inl (s _ _ n (ne _ h) h))
  · exact .inl (.inr ⟨o, s _ _ n (ne _ h) h⟩)
  · exact .inr h
theorem erase_map {α β : Type} (f : α → β) : ∀ (l : List α) (j : Nat), (l.map f).eraseIdx j = (l.eraseIdx j).map f
  | [], _ => rfl
  | x :: l, 0 => rfl
  | x :: l, j + 1 => by
    show f x :: (l.map f).eraseIdx j = f x :: (l.eraseIdx j).map f
    rw [erase_map f l j]
theorem erase_perm {α : Type} : ∀ {l : List α} {j : Nat} {y : α}, l[j]? = some y → (y :: l.eraseIdx j).Perm l
  | x :: l, 0, y, h => by
    cases h
    exact List.Perm.refl _
  | x :: l, j + 1, y, h => by
    have h : l[j]? = some y := by simpa using h
    show (y :: x :: l.eraseIdx j).Perm (x :: l)
    exact (List.Perm.swap x y _).trans ((erase_perm h).cons x)
theorem SameR.put {rw p : Addr} {H H' : Hp} {o : HO} (s : SameR rw H H') (n : H p = none) : SameR rw H (L2.upd H' p o) := fun b x hb e => by
  have ne : b ≠ p := fun z => by
    rw [z, n] at e
    cases e
  rw [upd_ne ne]
  exact s b x hb e
theorem Row.put {K : PySem.W.Frag} {H H' : Hp} {rw sp p : Addr} {ns : List Int} {o : HO} (R0 : Row K H rw sp ns) (n : H p = none) (s : SameR rw H H') (R : Row K H' rw sp ns) : Row K (L2.upd H' p o) rw sp ns := by
  obtain ⟨i, x, r, hi, e⟩ := R.at_
  have ne : rw ≠ p := fun z => by
    obtain ⟨_, _, _, _, e0⟩ := R0.at_
    rw [z, n] at e0
    cases e0
  exact ⟨⟨i, x, r, hi, by rw [upd_ne ne]; exact e⟩, sqL_r (s.put n) R.ne R0.seq, R.ne⟩
section
variable {P : Program} {w : World} {K : PySem.W.Frag} {mg : Str → Option Value} {base : Heap}
abbrev DnTk (P : Program) (w : World) (K : PySem.W.Frag) (mg : Str → Option Value) (base : Heap) : Prop := Dn P w K mg base "_law_taken" ["_law_row", "_law_many"] 1 (spTaken K)
theorem scLawPick : FnScope ["_law_row", "_law_things"] ["_law_row", "_law_things"] (defScope sLawPick) := ⟨rfl, rfl, rfl, by decide +kernel, rfl, by decide +kernel, by decide +kernel⟩
def spPickL (K : PySem.W.Frag) : Sp := fun vs H Q _ => ∃ (rw sp t : Addr) (ns xs : List Int), vs = [.ref rw, .ref t] ∧ Row K H rw sp ns ∧ t ≠ rw ∧ SqL K H t (xs.map V.int) ∧ xs ≠ [] ∧ xs.length ≤ 1000 ∧
  ∀ H' v, SameR rw H H' → Row K H' rw sp ns → v ∈ xs → Q (.int v) H'
theorem dn_lawPick (F : Fd K mg "_law_pick" sLawPick) (B : Bi mg) (D1 : DnTk P w K mg base) : Dn P w K mg base "_law_pick" ["_law_row", "_law_things"] 2 (spPickL K) := by
  refine dn_mk F scLawPick (fun _ _ _ _ _ _ us hl => match us, hl with | [_, _], _ => rfl) (fun vs H Q E h => ?_) (fun f cdv A outer s H vs Q E hr h => ?_)
  · obtain ⟨rw, sp, t, ns, xs, rfl, _⟩ := h
    rfl
  · obtain ⟨rw, sp, t, ns, xs, rfl, R, htr, hT, hne, hx, q⟩ := h
    refine ⟨_, pss_one (ps_ret (pe_ix ix_list (pv 1) (pe_d D1 hr (pa_cons (pv 0) (pa_cons (pe_callB call_len_seq (by rfl) B.len boot_len (pa_cons (pv 1) pa_nil)) pa_nil))) (fun _ _ => rfl))), ?_⟩
    have hl : 0 < xs.length := by
      cases xs with
      | nil => exact absurd rfl hne
      | cons _ _ => exact Nat.succ_pos _
    refine ⟨_, rfl, _, rfl, _, rfl, t, _, rfl, .inl hT, rw, sp, ns, _, rfl, R, by rw [List.length_map]; omega, by rw [List.length_map]; omega, fun H1 v k1 R1 h1 h2 => ?_⟩
    rw [List.length_map] at h2
    obtain ⟨j, rfl⟩ : ∃ j : Nat, v = j := ⟨v.toNat, by omega⟩
    have g : xs[j]? = some xs[j] := List.getElem?_eq_getElem (by omega)
    refine ⟨t, _, _, .int xs[j], rfl, rfl, sqL_r k1 (.inl htr) hT, atI_nat (ints_get g), ?_⟩
    exact q _ _ k1 R1 (List.getElem_mem _)
abbrev N11 : List Str := ["_law_row", "_law_cars", "_law_places", "_law_many", "_law_size", "_law_homes", "_law_left", "_law_turn", "_law_mixed"]
theorem scLawStreet : FnScope N11 ["_law_row", "_law_cars", "_law_places"] (defScope sLawStreet) := ⟨rfl, rfl, rfl, by decide +kernel, rfl, by decide +kernel, by decide +kernel⟩
def spLawStreet (K : PySem.W.Frag) : Sp := fun vs H Q _ => ∃ (rw sp : Addr) (ns : List Int), vs = [.ref rw, .int 5, .int 10] ∧ Row K H rw sp ns ∧
  ∀ H' v n hs, SameR rw H H' → Row K H' rw sp ns → Dp K H' v (dS n hs) → IsStreet n hs → n ≤ 10 → hs.length ≤ 5 → Q v H'
theorem dn_lawStreet (F : Fd K mg "_law_street" sLawStreet) (B : Bi mg) (D1 : DnTk P w K mg base) : Dn P w K mg base "_law_street" ["_law_row", "_law_cars", "_law_places"] 2 (spLawStreet K) := by
  refine dn_mk F scLawStreet (fun _ _ _ _ _ _ us hl => match us, hl with | [_, _, _], _ => rfl) (fun vs H Q E h => ?_) (fun f cdv A outer s H vs Q E hr h => ?_)
  · obtain ⟨rw, sp, ns, rfl, _⟩ := h
    rfl
  · obtain ⟨rw, sp, ns, rfl, R, q⟩ := h
    have nd := scLawStreet.nd
    refine ⟨_, pss_cons (ps_set (i := 3) nd rfl (.inl rfl) (pe_op op_add pe_int (pe_d D1 hr (pa_cons (pv 0) (pa_cons (pv 1) pa_nil)))))
      (pss_cons (ps_set (i := 4) nd rfl (.inl rfl) (pe_callB (call_max2 rfl) (by rfl) B.max (by decide +kernel) (pa_cons (pv 3) (pa_cons (pe_op op_add pe_int (pe_d D1 hr (pa_cons (pv 0) (pa_cons (pv 2) pa_nil)))) pa_nil))))
      (pss_cons (ps_par (i := 5) (j := 6) rfl nd rfl rfl (by decide) rfl rfl (pa_cons (pe_lst pa_nil) (pa_cons (pv 4) pa_nil)) (by rfl))
      (pss_cons (ps_for PassesOwn.never rfl (pi_range1 rfl B.range (pa_cons (pv 3) pa_nil)) (pg_name (i := 7) nd rfl (.inl rfl))
        (pss_cons (ps_set (i := 6) nd rfl (.inl rfl) (pe_op op_sub (pv 6) pe_int))
        (pss_one (ps_expr (pe_bm PySem.F.plainAttrs_list PySem.F.slot_list_append PySem.F.type_list_append mt_append (pv 5) (pa_cons (pe_d D1 hr (pa_cons (pv 0) (pa_cons (pe_op op_add (pv 6) pe_int) pa_nil))) pa_nil))))))
      (pss_cons (ps_set (i := 8) nd rfl (.inl rfl) (pe_lst pa_nil))
      (pss_cons (ps_for PassesOwn.never rfl (pi_range1 rfl B.range (pa_cons (pv 3) pa_nil)) (pg_name (i := 7) nd rfl (.inl rfl))
        (pss_one (ps_expr (pe_bm PySem.F.plainAttrs_list PySem.F.slot_list_append PySem.F.type_list_append mt_append (pv 8) (pa_cons
          (pe_bm PySem.F.plainAttrs_list PySem.F.slot_list_pop PySem.F.type_list_pop mt_popAt (pv 5) (pa_cons (pe_d D1 hr (pa_cons (pv 0) (pa_cons (pe_callB call_len_seq (by rfl) B.len boot_len (pa_cons (pv 5) pa_nil)) pa_nil))) pa_nil)) pa_nil)))))
      (pss_one (ps_ret (pe_tup (pa_cons (pv 4) (pa_cons (pe_callTy call_tuple_of (by rfl) B.tuple (by decide +kernel) (pa_cons (pv 8) pa_nil)) pa_nil)))))))))), ?_⟩
    refine ⟨_, rfl, _, rfl, rw, sp, ns, 5, rfl, R, by decide, by decide, fun H1 c1 k1 R1 h1 h2 => ?_⟩
    refine ⟨_, _, rfl, rfl, ?_⟩
    refine ⟨_, rfl, _, rfl, _, rfl, rw, sp, ns, 10, rfl, R1, by decide, by decide, fun H2 c2 k2 R2 h3 h4 => ?_⟩
    have k2 := k1.trans k2
    refine ⟨_, _, rfl, rfl, _, _, rfl, ?_⟩
    obtain ⟨n, hn⟩ : ∃ n, n = (if 1 + c2 > 1 + c1 then 1 + c2 else 1 + c1) := ⟨_, rfl⟩
    have hn1 : 1 + c1 ≤ n ∧ n ≤ 10 := by
      rw [hn]
      split <;> omega
    obtain ⟨m, hm⟩ : ∃ m : Nat, 1 + c1 = m := ⟨(1 + c1).toNat, by omega⟩
    refine ⟨Nat.zero_le _, fun pl npl => ⟨_, rfl, _, _, rfl, ?_⟩⟩
    show tSeq _ _ _ ([some (.ref rw), some (.int 5), some (.int 10), some (.int (1 + c1)), some (.int (if 1 + c2 > 1 + c1 then 1 + c2 else 1 + c1)), some (.ref pl), some (.int (if 1 + c2 > 1 + c1 then 1 + c2 else 1 + c1)), none, none] : L2.St) _
    rw [← hn, hm]
    have kl : SameR rw H2 (upd H2 pl (.lst [])) := SameR.of (same_new npl)
    obtain ⟨i2, x2, r2, hi2, er2⟩ := R2.at_
    have nlr : pl ≠ rw := fun z => by
      rw [z, er2] at npl
      cases npl
    have R3 := R2.r (same_new (o := .lst []) npl)
    refine ⟨_, rfl, m, rfl, by omega, by omega, ?_⟩
    refine for_range (lo := 0) (fun i σ H' => (∃ y7 L, σ = [some (.ref rw), some (.int 5), some (.int 10), some (.int (m : Nat)), some (.int n), some (.ref pl), some (.int (n - (i : Nat))), y7, none] ∧ H' pl = some (.lst (L.map V.int)) ∧ L.length = i ∧ Drawn L n) ∧ SameR rw H2 H' ∧ Row K H' rw sp ns)
      ⟨⟨none, [], by rw [show n - ((0 : Nat) : Int) = n by omega], upd_same, rfl, trivial⟩, kl, R3⟩ (fun i σ H3 hi hP => ?_) (fun σ H3 hP => ?_)
    · obtain ⟨⟨y7, L, rfl, el, hL, hD⟩, s3, R3⟩ := hP
      have hi : i < m := by simpa using hi
      refine ⟨_, rfl, _, _, rfl, rfl, ?_⟩
      refine ⟨_, rfl, .inl ⟨rfl, _, SqL.of el⟩, _, rfl, _, rfl, _, _, rfl, rfl, rw, sp, ns, _, rfl, R3, by omega, by omega, fun H4 c k4 R4 h5 h6 => ?_⟩
      have el4 := k4 _ _ nlr el
      refine ⟨pl, _, _, rfl, rfl, el4, ?_, ⟨_, L ++ [c], by rw [show n - ((i + 1 : Nat) : Int) = n - (i : Nat) - 1 by omega]; rfl, by rw [upd_same, List.map_append]; rfl, by rw [List.length_append, hL]; rfl, drawn_snoc hD h5 (by omega)⟩, ?_, ?_⟩
      · rw [List.length_map]
        exact small1000 (by omega)
      · intro b o hb e
        have ne : b ≠ pl := fun z => by
          rw [z, npl] at e
          cases e
        rw [upd_ne ne]
        exact k4 _ _ hb (s3 _ _ hb e)
      · obtain ⟨i4, x4, r4, hi4, er4⟩ := R4.at_
        have ne : rw ≠ pl := fun z => nlr z.symm
        refine ⟨⟨i4, x4, r4, hi4, by rw [upd_ne ne]; exact er4⟩, ?_, R4.ne⟩
        have hsq : SqL K H2 sp (ns.map V.int) := R2.seq
        exact sqL_pl npl hsq (fun b o h1 h2 e => by rw [upd_ne h2]; exact k4 _ _ h1 (s3 _ _ h1 e)) R4.ne
    · obtain ⟨⟨y7, L, rfl, el, hL, hD⟩, s3, R3⟩ := hP
      have hL : L.length = m := by simpa using hL
      refine ⟨Nat.zero_le _, fun pm npm => ?_⟩
      have nmr : pm ≠ rw := fun z => by
        obtain ⟨_, _, _, _, e3⟩ := R3.at_
        rw [z, e3] at npm
        cases npm
      have npm2 : H2 pm = none := s3.free nmr npm
      have nml : pl ≠ pm := fun z => by
        rw [← z, el] at npm
        cases npm
      refine ⟨_, rfl, m, rfl, by omega, by omega, ?_⟩
      refine for_range (lo := 0) (fun i σ H' => (∃ y6 y7 L' M, σ = [some (.ref rw), some (.int 5), some (.int 10), some (.int (m : Nat)), some (.int n), some (.ref pl), y6, y7, some (.ref pm)] ∧ H' pl = some (.lst (L'.map V.int)) ∧ H' pm = some (.lst (M.map V.int)) ∧ M.length = i ∧ (M ++ L').Perm L) ∧ SameR rw H2 H' ∧ Row K H' rw sp ns)
        ⟨⟨_, _, L, [], rfl, by rw [upd_ne nml]; exact el, upd_same, rfl, List.Perm.refl _⟩, s3.put npm2, R2.put npm2 s3 R3⟩ (fun i σ H4 hi hP => ?_) (fun σ H4 hP => ?_)
      · obtain ⟨⟨y6, y7, L', M, rfl, el', em, hM, hp⟩, s4, R4⟩ := hP
        have hi : i < m := by simpa using hi
        have hll := hp.length_eq
        rw [List.length_append, hM, hL] at hll
        refine ⟨_, rfl, .inl ⟨rfl, _, SqL.of em⟩, ?_⟩
        refine ⟨_, rfl, .inl ⟨rfl, _, SqL.of el'⟩, _, rfl, _, rfl, pl, _, rfl, .inl (SqL.of el'), rw, sp, ns, _, rfl, R4, by rw [List.length_map]; omega, by rw [List.length_map]; omega, fun H5 c k5 R5 h5 h6 => ?_⟩
        rw [List.length_map] at h6
        obtain ⟨j, rfl⟩ : ∃ j : Nat, c = j := ⟨c.toNat, by omega⟩
        have g : L'[j]? = some L'[j] := List.getElem?_eq_getElem (by omega)
        generalize L'[j] = y at g
        have el5 := k5 _ _ nlr el'
        have em5 := k5 _ _ nmr em
        have s5 := s4.trans k5
        refine ⟨pl, _, _, j, .int y, rfl, rfl, el5, by omega, by omega, ?_, ints_get g, ?_⟩
        · rw [seqIndex_of (by omega) (by rw [List.length_map]; omega)]
          rfl
        rw [erase_map]
        have R6 := R2.put (o := .lst ((L'.eraseIdx j).map V.int)) npl s5 R5
        have s6 := s5.put (o := .lst ((L'.eraseIdx j).map V.int)) npl
        refine ⟨pm, _, _, rfl, rfl, by rw [upd_ne (Ne.symm nml)]; exact em5, ?_, ⟨_, _, L'.eraseIdx j, M ++ [y], rfl, by rw [upd_ne nml, upd_same], by rw [upd_same, List.map_append]; rfl, by rw [List.length_append, hM]; rfl, ?_⟩, s6.put npm2, R2.put npm2 s6 R6⟩
        · rw [List.length_map]
          exact small1000 (by omega)
        · rw [List.append_assoc]
          exact ((erase_perm g).append_left M).trans hp
      · obtain ⟨⟨y6, y7, L', M, rfl, el', em, hM, hp⟩, s4, R4⟩ := hP
        have hM : M.length = m := by simpa using hM
        have hll := hp.length_eq
        rw [List.length_append, hM, hL] at hll
        have : L' = [] := List.eq_nil_of_length_eq_zero (by omega)
        subst this
        rw [List.append_nil] at hp
        refine ⟨_, rfl, _, rfl, pm, _, rfl, .inl ⟨SqL.of em, fun pt npt => ?_⟩⟩
        refine ⟨by show 2 ≤ sizeLine; decide, fun pr npr => ?_⟩
        have k5 : Same H4 (upd (upd H4 pt (.tup (M.map V.int))) pr (.tup [.int n, .ref pt])) := (same_new npt).trans (same_new npr)
        have e5 : (upd (upd H4 pt (.tup (M.map V.int))) pr (.tup [.int n, .ref pt])) pt = some (.tup (M.map V.int)) := same_new npr _ _ upd_same
        refine q _ _ n M (k2.trans (s4.trans (SameR.of k5))) (R4.r k5) (.tup (SqT.of upd_same) (.cons (.int n) (.cons (dp_tup (SqT.of e5)) .nil))) ⟨by omega, by omega, by omega, by omega, fun h hh => drawn_in hD h (hp.mem_iff.mp hh), fun p hpn => ?_⟩ (by omega) (by omega)
        rw [(hp.filter _).length_eq]
        have := drawn_room (p : Int) hD
        omega
end
end Pk
/-! Parkback, the mathematics, part E: the law's own state: cars by falling homes, each on a free place. -/
namespace Pk
def vals (O : List (Option Int)) : List Int := O.filterMap id
theorem vals_set : ∀ {O : List (Option Int)} {c : Nat} (p : Int), O[c]? = some none → (vals (O.set c (some p))).Perm (p :: vals O)
  | none :: O, 0, p, _ => List.Perm.refl _
  | some x :: O, 0, p, h => by cases h
  | none :: O, c + 1, p, h => by
    have h : O[c]? = some none := by simpa using h
    show (vals (O.set c (some p))).Perm (p :: vals O)
    exact vals_set (O := O) (c := c) p h
  | some x :: O, c + 1, p, h => by
    have h : O[c]? = some none := by simpa using h
    show (x :: vals (O.set c (some p))).Perm (p :: x :: vals O)
    exact ((vals_set (O := O) (c := c) p h).cons x).trans (List.Perm.swap p x _)
theorem vals_mem {O : List (Option Int)} {p : Int} : p ∈ vals O ↔ some p ∈ O := by
  unfold vals
  rw [List.mem_filterMap]
  constructor
  · rintro ⟨a, h1, h2⟩
    cases a with
    | none => cases h2
    | some q =>
      cases h2
      exact h1
  · exact fun h => ⟨some p, h, rfl⟩
theorem vals_len : ∀ O : List (Option Int), (vals O).length ≤ O.length := fun O => List.length_filterMap_le _ _
theorem vals_all : ∀ {O : List (Option Int)}, (vals O).length = O.length → O = (vals O).map some
  | [], _ => rfl
  | none :: O, h => by
    have := vals_len O
    have h : (vals O).length = O.length + 1 := h
    omega
  | some x :: O, h => by
    have h : (vals O).length + 1 = O.length + 1 := h
    show some x :: O = some x :: (vals O).map some
    rw [← vals_all (by omega)]
/-- cars with their homes, the farther homes first -/
def carsB (hs : List Int) : List (Int × Int) := (List.range hs.length).map fun c => (0 - hs.getD c 0, ((c : Nat) : Int))
structure Ord (hs : List Int) (ps : List (Int × Int)) : Prop where
  perm : ps.Perm (carsB hs)
  up : ps.Pairwise fun a b => a.1 ≤ b.1
theorem Ord.at_ {hs : List Int} {ps : List (Int × Int)} (o : Ord hs ps) {i : Nat} {x : Int × Int} (h : ps[i]? = some x) : ∃ c : Nat, c < hs.length ∧ x = (0 - hs.getD c 0, (c : Int)) := by
  have := o.perm.mem_iff.mp (List.mem_of_getElem? h)
  obtain ⟨c, hc, e⟩ := List.mem_map.mp this
  exact ⟨c, List.mem_range.mp hc, e.symm⟩
theorem Ord.len {hs : List Int} {ps : List (Int × Int)} (o : Ord hs ps) : ps.length = hs.length := by
  rw [o.perm.length_eq]
  unfold carsB
  rw [List.length_map, List.length_range]
theorem nd_map_inj {α β : Type} {f : α → β} : ∀ {l : List α}, (∀ a ∈ l, ∀ b ∈ l, f a = f b → a = b) → l.Nodup → (l.map f).Nodup
  | [], _, _ => List.nodup_nil
  | x :: l, hf, h => by
    rw [List.map_cons, List.nodup_cons]
    rw [List.nodup_cons] at h
    refine ⟨fun z => ?_, nd_map_inj (fun a ha b hb => hf a (List.mem_cons_of_mem _ ha) b (List.mem_cons_of_mem _ hb)) h.2⟩
    obtain ⟨y, hy, e⟩ := List.mem_map.mp z
    have := hf y (List.mem_cons_of_mem _ hy) x List.mem_cons_self e
    rw [this] at hy
    exact h.1 hy
theorem Ord.nd {hs : List Int} {ps : List (Int × Int)} (o : Ord hs ps) : (ps.map Prod.snd).Nodup := by
  refine (o.perm.map Prod.snd).nodup_iff.mpr ?_
  unfold carsB
  rw [List.map_map]
  exact nd_map_inj (fun a _ b _ e => Int.ofNat.inj e) List.nodup_range
theorem Ord.fresh {hs : List Int} {ps : List (Int × Int)} (o : Ord hs ps) {i : Nat} {x : Int × Int} (h : ps[i]? = some x) : x.2 ∉ (ps.take i).map Prod.snd := by
  have e : (ps.take (i + 1)).map Prod.snd = (ps.take i).map Prod.snd ++ [x.2] := by
    rw [List.take_add_one, h, List.map_append]
    rfl
  have n : ((ps.take (i + 1)).map Prod.snd).Nodup := ((List.take_sublist _ _).map _).nodup o.nd
  rw [e] at n
  exact fun z => (List.nodup_append.mp n).2.2 _ z _ List.mem_cons_self rfl
theorem filt_len {α β : Type} (f : α → β) (q : β → Bool) : ∀ l : List α, ((l.map f).filter q).length = (l.filter fun a => q (f a)).length
  | [] => rfl
  | a :: l => by
    rw [List.map_cons, List.filter_cons, List.filter_cons]
    have := filt_len f q l
    cases h : q (f a) with
    | true => rw [if_pos rfl, if_pos rfl, List.length_cons, List.length_cons, this]
    | false => rw [if_neg (by simp), if_neg (by simp), this]
/-- the cars up to i live from h on -/
theorem Ord.room {hs : List Int} {ps : List (Int × Int)} (o : Ord hs ps) {i : Nat} {h c : Int} (e : ps[i]? = some (0 - h, c)) : i + 1 ≤ (hs.filter fun x => decide (h ≤ x)).length := by
  have hil : i < ps.length := (List.getElem?_eq_some_iff.mp e).1
  have e1 : ∀ a ∈ ps.take (i + 1), (decide (h ≤ 0 - a.1)) = true := fun a ha => by
    obtain ⟨k, hk, ek⟩ := List.getElem_of_mem ha
    rw [List.length_take] at hk
    rw [List.getElem_take] at ek
    have ei : ps[i] = (0 - h, c) := by
      rw [List.getElem?_eq_getElem hil] at e
      exact Option.some.inj e
    refine decide_eq_true ?_
    by_cases z : k = i
    · subst z
      rw [← ek, ei]
      show h ≤ 0 - (0 - h)
      omega
    · have := List.pairwise_iff_getElem.mp o.up k i (by omega) hil (by omega)
      rw [ek, ei] at this
      have this : a.1 ≤ 0 - h := this
      omega
  have e2 : (ps.take (i + 1)).filter (fun a => decide (h ≤ 0 - a.1)) = ps.take (i + 1) := List.filter_eq_self.mpr e1
  have e3 : ((ps.take (i + 1)).filter (fun a => decide (h ≤ 0 - a.1))).length ≤ (ps.filter (fun a => decide (h ≤ 0 - a.1))).length := ((List.take_sublist _ _).filter _).length_le
  rw [e2, List.length_take] at e3
  have e4 : (ps.filter (fun a => decide (h ≤ 0 - a.1))).length = ((carsB hs).filter (fun a => decide (h ≤ 0 - a.1))).length := (o.perm.filter _).length_eq
  have e5 := filt_len (fun a : Int × Int => 0 - a.1) (fun x => decide (h ≤ x)) (carsB hs)
  have e6 : (carsB hs).map (fun a : Int × Int => 0 - a.1) = hs := by
    unfold carsB
    rw [List.map_map]
    refine Eq.trans (List.map_congr_left fun c _ => ?_) (map_range_getD hs)
    show 0 - (0 - hs.getD c 0) = hs.getD c 0
    omega
  rw [e6] at e5
  omega
/-- where the cars stand so far -/
structure Part (n : Int) (hs : List Int) (ps : List (Int × Int)) (i : Nat) (O : List (Option Int)) : Prop where
  len : O.length = hs.length
  free : ∀ c : Nat, c < hs.length → (c : Int) ∉ (ps.take i).map Prod.snd → O[c]? = some none
  in_ : ∀ (c : Nat) (p : Int), O[c]? = some (some p) → hs.getD c 0 ≤ p ∧ p ≤ n - 1
  nd : (vals O).Nodup
  cnt : (vals O).length = i
theorem vals_rep : ∀ k : Nat, vals (List.replicate k none) = []
  | 0 => rfl
  | k + 1 => vals_rep k
theorem Part.start {n : Int} {hs : List Int} {ps : List (Int × Int)} : Part n hs ps 0 (List.replicate hs.length none) := by
  refine ⟨List.length_replicate, fun c hc _ => ?_, fun c p h => ?_, ?_, ?_⟩
  · rw [List.getElem?_replicate, if_pos hc]
  · rw [List.getElem?_replicate] at h
    split at h
    · cases h
    · cases h
  · rw [vals_rep]
    exact List.nodup_nil
  · rw [vals_rep]
    rfl
theorem Part.step {n : Int} {hs : List Int} {ps : List (Int × Int)} {i c : Nat} {O : List (Option Int)} {h p : Int} (P : Part n hs ps i O) (o : Ord hs ps) (e : ps[i]? = some (0 - h, (c : Int))) (hc : c < hs.length) (hh : hs.getD c 0 = h) (h1 : h ≤ p) (h2 : p ≤ n - 1) (hp : p ∉ vals O) :
    Part n hs ps (i + 1) (O.set c (some p)) := by
  have hf := P.free c hc (o.fresh e)
  have hv := vals_set p hf
  refine ⟨by rw [List.length_set]; exact P.len, fun c' hc' hn => ?_, fun c' p' g => ?_, ?_, ?_⟩
  · rw [List.take_add_one, e, List.map_append] at hn
    have ne : c ≠ c' := fun z => by
      subst z
      exact hn (List.mem_append_right _ List.mem_cons_self)
    rw [List.getElem?_set_ne ne]
    exact P.free c' hc' fun z => hn (List.mem_append_left _ z)
  · by_cases z : c = c'
    · subst z
      rw [List.getElem?_set_self (by rw [P.len]; exact hc)] at g
      cases g
      rw [hh]
      exact ⟨h1, h2⟩
    · rw [List.getElem?_set_ne z] at g
      exact P.in_ c' p' g
  · exact hv.nodup_iff.mpr (List.nodup_cons.mpr ⟨hp, P.nd⟩)
  · rw [hv.length_eq, List.length_cons, P.cnt]
def fitL (n h : Int) (O : List (Option Int)) (k : Nat) : List Int := ((List.range k).map fun i => h + ((i : Nat) : Int)).filter fun p => !decide (p ∈ vals O)
theorem fitL_succ (n h : Int) (O : List (Option Int)) (k : Nat) : fitL n h O (k + 1) = fitL n h O k ++ (if h + (k : Int) ∈ vals O then [] else [h + (k : Int)]) := by
  unfold fitL
  rw [List.range_succ, List.map_append, List.filter_append]
  congr 1
  show List.filter _ [h + (k : Int)] = _
  rw [List.filter_cons]
  by_cases z : h + (k : Int) ∈ vals O
  · rw [if_pos z, if_neg (by simp [z])]
    rfl
  · rw [if_neg z, if_pos (by simp [z])]
    rfl
theorem fitL_len (n h : Int) (O : List (Option Int)) (k : Nat) : (fitL n h O k).length ≤ k := by
  have := List.length_filter_le (fun p => !decide (p ∈ vals O)) ((List.range k).map fun i => h + ((i : Nat) : Int))
  rw [List.length_map, List.length_range] at this
  exact this
theorem fitL_mem {n h : Int} {O : List (Option Int)} {k : Nat} {p : Int} (m : p ∈ fitL n h O k) : h ≤ p ∧ p < h + k ∧ p ∉ vals O := by
  obtain ⟨h1, h2⟩ := List.mem_filter.mp m
  obtain ⟨i, hi, rfl⟩ := List.mem_map.mp h1
  have hi := List.mem_range.mp hi
  refine ⟨by omega, by omega, fun z => ?_⟩
  rw [decide_eq_true z] at h2
  cases h2
theorem fitL_ne {n h : Int} {hs : List Int} {ps : List (Int × Int)} {i : Nat} {c : Int} {O : List (Option Int)} (P : Part n hs ps i O) (o : Ord hs ps) (e : ps[i]? = some (0 - h, c)) (hr : ((hs.filter fun x => decide (h ≤ x)).length : Int) ≤ n - h) :
    fitL n h O (n - h).toNat ≠ [] := by
  intro z
  have h1 := o.room e
  have h2 : ∀ x ∈ ((List.range (n - h).toNat).map fun i => h + ((i : Nat) : Int)), x ∈ vals O := fun x hx => by
    have := List.filter_eq_nil_iff.mp z x hx
    by_cases c : x ∈ vals O
    · exact c
    · exact absurd (by rw [decide_eq_false c]; rfl) this
  have h3 := sub_len (nd_map_inj (fun a _ b _ e => by omega) List.nodup_range) h2
  rw [List.length_map, List.length_range, P.cnt] at h3
  omega
theorem Part.done {n : Int} {hs : List Int} {ps : List (Int × Int)} {O : List (Option Int)} (P : Part n hs ps hs.length O) : IsSt hs (vals O) ∧ (∀ p ∈ vals O, p ≤ n - 1) ∧ O = (vals O).map some := by
  have ea := vals_all (O := O) (by rw [P.cnt, P.len])
  refine ⟨⟨P.cnt.symm, fun x hx => ?_, P.nd⟩, fun p hp => ?_, ea⟩
  · obtain ⟨c, hc, e⟩ := List.getElem_of_mem hx
    rw [List.length_zip] at hc
    rw [List.getElem_zip] at e
    have g0 : ((vals O).map some)[c]? = some (some (vals O)[c]) := by
      rw [List.getElem?_map, List.getElem?_eq_getElem (by omega)]
      rfl
    have g : O[c]? = some (some (vals O)[c]) := (congrArg (fun l => l[c]?) ea).trans g0
    have := (P.in_ c _ g).1
    rw [← e]
    show hs[c] ≤ (vals O)[c]
    rw [List.getD_eq_getElem?_getD, List.getElem?_eq_getElem (by omega)] at this
    exact this
  · have := vals_mem.mp hp
    obtain ⟨c, hc, e⟩ := List.getElem_of_mem this
    exact (P.in_ c p (by rw [List.getElem?_eq_getElem hc, e])).2
end Pk
/-! Parkback: the walks, part 12: _law_state. -/
namespace Pk
open PySem PySem.Spec PyProof.Rows L2
def ov : Option Int → V
  | none => .non
  | some p => .int p
theorem ov_flat : ∀ O : List (Option Int), (O.map ov).all flatV = true
  | [] => rfl
  | none :: O => ov_flat O
  | some _ :: O => ov_flat O
theorem ov_in (x : Int) : ∀ O : List (Option Int), inV (.int x) (O.map ov) = decide (x ∈ vals O)
  | [] => by
    show false = decide (x ∈ ([] : List Int))
    rw [decide_eq_false List.not_mem_nil]
  | none :: O => by
    have ih := ov_in x O
    show (eqV .non (.int x) || inV (.int x) (O.map ov)) = decide (x ∈ vals O)
    rw [ih]
    rfl
  | some y :: O => by
    have ih := ov_in x O
    show (eqV (.int y) (.int x) || inV (.int x) (O.map ov)) = decide (x ∈ y :: vals O)
    rw [ih]
    show ((y == x) || decide (x ∈ vals O)) = _
    by_cases c : y = x
    · subst c
      rw [decide_eq_true (List.mem_cons_self), beq_self_eq_true, Bool.true_or]
    · rw [beq_eq_false_iff_ne.mpr c, Bool.false_or]
      by_cases d : x ∈ vals O
      · rw [decide_eq_true d, decide_eq_true (List.mem_cons_of_mem _ d)]
      · rw [decide_eq_false d, decide_eq_false (fun z => (List.mem_cons.mp z).elim (fun e => c e.symm) d)]
/-- the pair of ints at a value -/
def kP (H : Hp) (v : V) : Int × Int := match v with
  | .ref t => match H t with
    | some (.tup [.int a, .int b]) => (a, b)
    | _ => (0, 0)
  | _ => (0, 0)
def PrAt (H : Hp) (x : V) (p : Int × Int) : Prop := ∃ t, x = .ref t ∧ H t = some (.tup [.int p.1, .int p.2])
theorem PrAt.k {H : Hp} {x : V} {p : Int × Int} (h : PrAt H x p) : kP H x = p := by
  obtain ⟨t, rfl, h⟩ := h
  unfold kP
  simp only [h]
structure PrsAt (H : Hp) (xs : List V) (ps : List (Int × Int)) : Prop where
  at_ : ∀ x ∈ xs, PrAt H x (kP H x)
  eq : xs.map (kP H) = ps
theorem PrAt.same {H H' : Hp} {x : V} {p : Int × Int} (s : SameT H H') (h : PrAt H x p) : PrAt H' x p := by
  obtain ⟨t, rfl, h⟩ := h
  exact ⟨t, rfl, s _ _ h rfl⟩
theorem PrsAt.same {H H' : Hp} {xs : List V} {ps : List (Int × Int)} (s : SameT H H') (h : PrsAt H xs ps) : PrsAt H' xs ps := by
  have e : ∀ x ∈ xs, kP H' x = kP H x := fun x hx => ((h.at_ x hx).same s).k
  refine ⟨fun x hx => ?_, ?_⟩
  · rw [e x hx]
    exact (h.at_ x hx).same s
  · rw [← h.eq]
    exact List.map_congr_left e
theorem PrsAt.snoc {H : Hp} {xs : List V} {ps : List (Int × Int)} {x : V} {p : Int × Int} (h : PrsAt H xs ps) (hx : PrAt H x p) : PrsAt H (xs ++ [x]) (ps ++ [p]) := by
  refine ⟨fun y hy => ?_, ?_⟩
  · rcases List.mem_append.mp hy with hy | hy
    · exact h.at_ y hy
    · rw [List.mem_singleton.mp hy, hx.k]
      exact hx
  · rw [List.map_append, h.eq]
    show ps ++ [kP H x] = _
    rw [hx.k]
theorem rep_ov : ∀ m : Nat, (List.replicate m [V.non]).flatten = (List.replicate m none).map ov
  | 0 => rfl
  | m + 1 => by
    rw [List.replicate_succ, List.replicate_succ, List.flatten_cons, rep_ov m]
    rfl
theorem set_ov : ∀ (O : List (Option Int)) (c : Nat) (p : Int), (O.map ov).set c (.int p) = (O.set c (some p)).map ov
  | [], _, _ => rfl
  | x :: O, 0, p => rfl
  | x :: O, c + 1, p => by
    show ov x :: (O.map ov).set c (.int p) = ov x :: (O.set c (some p)).map ov
    rw [set_ov O c p]
theorem ixN_nat {n c : Nat} (h : c < n) : ixN n (c : Int) = some c := by
  unfold ixN
  rw [if_pos (by omega), if_pos (by omega)]
  simp
section
variable {P : Program} {w : World} {K : PySem.W.Frag} {mg : Str → Option Value} {base : Heap}
abbrev N12 : List Str := ["_law_row", "_law_street_here", "_law_found", "_law_home", "_law_car", "_law_fit", "_law_place"]
theorem scLawState : FnScope N12 ["_law_row", "_law_street_here"] (defScope sLawState) := ⟨rfl, rfl, rfl, by decide +kernel, rfl, by decide +kernel, by decide +kernel⟩
def spLawState (K : PySem.W.Frag) : Sp := fun vs H Q _ => ∃ (rw sp : Addr) (ns : List Int) (v : V) (n : Int) (hs : List Int), vs = [.ref rw, v] ∧ Row K H rw sp ns ∧ Dp K H v (dS n hs) ∧ IsStreet n hs ∧
  ∀ H' u st, SameR rw H H' → Row K H' rw sp ns → Dp K H' u (dT st) → IsState n hs st → Q u H'
theorem dn_lawState (F : Fd K mg "_law_state" sLawState) (B : Bi mg) (D1 : Dn P w K mg base "_law_pick" ["_law_row", "_law_things"] 2 (spPickL K)) : Dn P w K mg base "_law_state" ["_law_row", "_law_street_here"] 3 (spLawState K) := by
  refine dn_mk F scLawState (fun _ _ _ _ _ _ us hl => match us, hl with | [_, _], _ => rfl) (fun vs H Q E h => ?_) (fun f cdv A outer s H vs Q E hr h => ?_)
  · obtain ⟨rw, sp, ns, v, n, hs, rfl, _⟩ := h
    rfl
  · obtain ⟨rw, sp, ns, v, n, hs, rfl, R, hd, S, q⟩ := h
    obtain ⟨a, b, rfl, ha, hb⟩ := dS_inv hd
    have nd := scLawState.nd
    refine ⟨_, pss_cons (ps_set (i := 2) nd rfl (.inr rfl) (pe_op op_rep (pe_lst (pa_cons pe_non pa_nil)) (pe_callB call_len_seq (by rfl) B.len boot_len (pa_cons (pe_ix ix_tup (pv 1) pe_int (fun _ _ => rfl)) pa_nil))))
      (pss_cons (ps_for PassesOwn.never rfl (pi_list (pe_callB cr_sortedPO (by rfl) B.sorted (by decide +kernel) (pa_cons
          (pe_lc (own := [("_law_car", 4)]) (g := gName 4) (tt := tYes) (te := tTup (tCons (tOp (rI0 fun i j => .int (i - j)) (tC (.int 0)) (tOp (rIxT K) (tOp (rIxT K) (tVar 1) (tC (.int 1))) (tVar 4))) (tCons (tVar 4) tNil))) rfl nd (pi_range1 rfl B.range (pa_cons (pe_callB call_len_seq (by rfl) B.len boot_len (pa_cons (pv 2) pa_nil)) pa_nil))
            (blkOk_by (N := N12) (sc := defScope sLawState) (by decide +kernel)) (fun _ _ _ _ _ => pg_name (i := 4) nd rfl (Or.inl rfl)) (fun _ _ _ _ _ => pts_nil)
            (fun _ _ _ _ _ => pe_tup (pa_cons (pe_op op_sub pe_int (pe_ix ix_tup (pe_ix ix_tup (pv 1) pe_int (fun _ _ => rfl)) (pv 4) (fun _ _ => rfl))) (pa_cons (pv 4) pa_nil)))) pa_nil)))
          (pg_tup rfl (pgs_cons (pg_name (i := 3) nd rfl (.inl rfl)) (pgs_cons (pg_name (i := 4) nd rfl (.inl rfl)) pgs_nil)))
        (pss_cons (ps_setLc (i := 5) (own := [("_law_place", 6)]) (g := gName 6) (tt := tTest (tOp (rIn K true) (tVar 6) (tVar 2))) (te := tVar 6) rfl nd rfl rfl (sw_true rfl rfl rfl (by decide +kernel)) (pi_range2 rfl B.range (pa_cons (pe_ix ix_tup (pe_ix ix_tup (pv 1) pe_int (fun _ _ => rfl)) (pv 4) (fun _ _ => rfl)) (pa_cons (pe_ix ix_tup (pv 1) pe_int (fun _ _ => rfl)) pa_nil)))
            (blkOk_by (N := N12) (sc := defScope sLawState) (by decide +kernel)) (fun _ _ _ _ _ => pg_name (i := 6) nd rfl (Or.inl rfl)) (fun _ _ _ _ _ => pts_one (pt_cmpR op_notIn_seq (pv 6) (pv 2) (by rfl))) (fun _ _ _ _ _ => pv 6))
        (pss_one (ps_asg (pe_d D1 hr (pa_cons (pv 0) (pa_cons (pv 5) pa_nil))) (pg_sub (pv 2) (pv 4) set_list)))))
      (pss_one (ps_ret (pe_callTy call_tuple_of (by rfl) B.tuple (by decide +kernel) (pa_cons (pv 2) pa_nil))))), ?_⟩
    obtain ⟨i0, x0, r0, hi0, er0⟩ := R.at_
    have hl7 := S.l2
    have hn1 := S.n1
    have hn2 := S.n2
    refine ⟨by show 1 ≤ sizeLine; decide, fun p0 np0 => ?_⟩
    have k0 : Same H (upd H p0 (.lst [.non])) := same_new np0
    refine ⟨_, rfl, a, _, 1, .ref b, rfl, rfl, sqT_same k0 ha, atI_nat (j := 1) rfl, b, _, rfl, .inr (sqT_same k0 hb), p0, _, _, rfl, rfl, upd_same, by rw [List.length_map]; omega, by rw [List.length_map]; omega, by rw [List.length_map, Int.toNat_natCast, sizeLine_eq]; show 1 * hs.length ≤ 16777216; omega, fun pf npf => ?_⟩
    rw [List.length_map, Int.toNat_natCast, rep_ov]
    have k1 : Same H (upd (upd H p0 (.lst [.non])) pf (.lst ((List.replicate hs.length none).map ov))) := k0.trans (same_new npf)
    have ef : (upd (upd H p0 (.lst [.non])) pf (.lst ((List.replicate hs.length none).map ov))) pf = some (.lst ((List.replicate hs.length none).map ov)) := upd_same
    have npfH : H pf = none := k0.free npf
    show tSeq _ _ _ ([some (.ref rw), some (.ref a), some (.ref pf), none, none, none, none] : L2.St) (upd (upd H p0 (.lst [.non])) pf (.lst ((List.replicate hs.length none).map ov)))
    revert k1 ef
    generalize (upd (upd H p0 (.lst [.non])) pf (.lst ((List.replicate hs.length none).map ov))) = H1
    intro k1 ef
    have nfr : pf ≠ rw := fun z => by
      rw [z, er0] at npfH
      cases npfH
    refine ⟨_, rfl, pf, _, rfl, .inl (SqL.of ef), _, rfl, by omega, by rw [List.length_map, List.length_replicate]; omega, fun D nD => ?_⟩
    refine lc_range (lo := 0) (fun i H' => Same H1 H' ∧ ∃ xs, H' D = some (.lst xs) ∧ xs.length = i ∧ PrsAt H' xs ((List.range i).map fun c => (0 - hs.getD c 0, ((c : Nat) : Int)))) ⟨same_new nD, [], upd_same, rfl, fun x h => absurd h List.not_mem_nil, rfl⟩ (fun i H2 hi hP => ?_) (fun H2 hP => ?_)
    · obtain ⟨s2, xs, eD, hxl, hps⟩ := hP
      have hi : i < hs.length := by simpa using hi
      have s2' := k1.trans s2
      refine ⟨rfl, yes_ ?_⟩
      have ei : (0 : Int) + (i : Nat) = (i : Nat) := Int.zero_add _
      refine ⟨_, rfl, a, _, 1, .ref b, rfl, rfl, sqT_same s2' ha, atI_nat (j := 1) rfl, _, rfl, b, _, _, .int (hs.getD i 0), rfl, rfl, sqT_same s2' hb, by rw [ei]; exact atI_nat (ints_get (get_D hi)), _, _, rfl, rfl, _, rfl, by show 2 ≤ sizeLine; decide, fun pp npp => ?_⟩
      have kp : Same H2 (upd H2 pp (.tup [.int (0 - hs.getD i 0), .int (0 + (i : Nat))])) := same_new npp
      refine ⟨xs, kp _ _ eD, by rw [hxl]; exact small1000 (by omega), same_put (s2.trans kp) nD, xs ++ [.ref pp], upd_same, by rw [List.length_append, hxl]; rfl, ?_⟩
      rw [List.range_succ, List.map_append]
      refine PrsAt.same (sameT_upd (kp _ _ eD) rfl) ((hps.same (SameT.of kp)).snoc ⟨pp, rfl, ?_⟩)
      rw [upd_same, ei]
    · obtain ⟨s2, xs, eD, hxl, hps⟩ := hP
      rw [List.length_map, List.length_replicate, Int.toNat_natCast] at hps
      refine ⟨D, xs, kP H2, rfl, SqL.of eD, hps.at_, fun ys p hsr hst np => ?_⟩
      have o : Ord hs (ys.map (kP H2)) := ⟨by rw [show carsB hs = xs.map (kP H2) from hps.eq.symm]; exact hst.perm.map _, by
        rw [List.pairwise_map]
        refine hsr.imp fun {x y} h => ?_
        have := SrtO.lexB_no.mp h
        omega⟩
      have k3 : Same H2 (upd H2 p (.lst ys)) := same_new np
      have ep : (upd H2 p (.lst ys)) p = some (.lst ys) := upd_same
      have hpr : PrsAt (upd H2 p (.lst ys)) ys (ys.map (kP H2)) := PrsAt.same (SameT.of k3) ⟨fun y hy => hps.at_ y (hst.perm.mem_iff.mp hy), rfl⟩
      have kH := (k1.trans s2).trans k3
      have ef3 := k3 _ _ (s2 _ _ ef)
      have npp : p ≠ pf := fun z => by
        rw [z, s2 _ _ ef] at np
        cases np
      have npr : p ≠ rw := fun z => by
        rw [z, (k1.trans s2) _ _ er0] at np
        cases np
      have npH : H p = none := (k1.trans s2).free np
      generalize hps0 : ys.map (kP H2) = ps at o hpr
      revert k3 ep hpr kH ef3
      show _ → _ → _ → _ → _ → ∃ a, V.ref p = V.ref a ∧ _
      generalize upd H2 p (.lst ys) = H3
      intro k3 ep kH ef3 hpr
      have hyl : ys.length = hs.length := by
        have := congrArg List.length hps0
        rw [List.length_map] at this
        rw [this, o.len]
      refine ⟨p, rfl, ⟨_, SqL.of ep⟩, ?_⟩
      refine for_list (xs := ys) (fun i σ H' => (∃ y3 y4 y5 O, σ = [some (.ref rw), some (.ref a), some (.ref pf), y3, y4, y5, none] ∧ H' pf = some (.lst (O.map ov)) ∧ Part n hs ps i O) ∧ SameR rw H H' ∧ Row K H' rw sp ns ∧ H' p = some (.lst ys) ∧ PrsAt H' ys ps)
        ⟨⟨none, none, none, _, rfl, ef3, Part.start⟩, SameR.of kH, R.r kH, ep, hpr⟩ (fun i σ H' _ hP => SqL.of hP.2.2.2.1) (fun i x σ H4 hx hP => ?_) (fun σ H4 hP => ?_)
      · obtain ⟨⟨y3, y4, y5, O, rfl, eO, hPt⟩, s4, R4, ep4, hpr4⟩ := hP
        have t4 := s4.t er0
        have ha4 := sqT_sameT t4 ha
        have hb4 := sqT_sameT t4 hb
        have gp : ps[i]? = some (kP H4 x) := by rw [← hpr4.eq, List.getElem?_map, hx]; rfl
        obtain ⟨c, hc, ec⟩ := o.at_ gp
        obtain ⟨t, rfl, et⟩ := hpr4.at_ x (List.mem_of_getElem? hx)
        rw [ec] at et gp
        have et : H4 t = some (.tup [.int (0 - hs.getD c 0), .int (c : Nat)]) := et
        have gc : hs[c]? = some (hs.getD c 0) := get_D hc
        have hin := S.in_ _ (List.mem_of_getElem? gc)
        have hroom := S.room (hs.getD c 0).toNat (by omega)
        rw [show ((hs.getD c 0).toNat : Int) = hs.getD c 0 by omega] at hroom
        generalize hh : hs.getD c 0 = h at et gp gc hin hroom
        refine ⟨t, _, rfl, SqT.of et, rfl, _, _, rfl, _, _, rfl, rfl, ?_⟩
        refine ⟨_, rfl, a, _, 1, .ref b, rfl, rfl, ha4, atI_nat (j := 1) rfl, _, rfl, b, _, _, .int h, rfl, rfl, hb4, atI_nat (ints_get gc), ?_⟩
        refine ⟨_, rfl, a, _, 0, .int n, rfl, rfl, ha4, atI_nat (j := 0) rfl, h, n, rfl, ⟨by omega, by omega, by omega, by omega⟩, fun D2 nD2 => ?_⟩
        refine lc_range (lo := h) (fun k H' => Same H4 H' ∧ H' D2 = some (.lst ((fitL n h O k).map V.int))) ⟨same_new nD2, upd_same⟩ (fun k H5 hk hP => ?_) (fun H5 hP => ?_)
        · obtain ⟨s5, e5⟩ := hP
          have fl := fitL_len n h O k
          refine ⟨rfl, ?_⟩
          refine ⟨_, rfl, _, rfl, pf, _, rfl, .inl (SqL.of (s5 _ _ eO)), rfl, ov_flat O, !decide (h + (k : Nat) ∈ vals O), by rw [← ov_in]; rfl, ite2 (fun e1 => ?_) (fun e1 => ?_)⟩
          · have e1 : h + (k : Int) ∉ vals O := fun z => by
              rw [decide_eq_true z] at e1
              cases e1
            refine ⟨_, rfl, _, e5, ?_, same_put s5 nD2, ?_⟩
            · rw [List.length_map]
              exact small1000 (by omega)
            · rw [upd_same, fitL_succ, if_neg e1, List.map_append]
              rfl
          · have e1 : h + (k : Int) ∈ vals O := by
              by_cases z : h + (k : Int) ∈ vals O
              · exact z
              · rw [decide_eq_false z] at e1
                exact absurd rfl e1
            refine ⟨s5, ?_⟩
            rw [fitL_succ, if_pos e1, List.append_nil]
            exact e5
        · obtain ⟨s5, e5⟩ := hP
          have fl := fitL_len n h O (n - h).toNat
          have nDr : D2 ≠ rw := fun z => by
            obtain ⟨_, _, _, _, e4⟩ := R4.at_
            rw [z, e4] at nD2
            cases nD2
          refine ⟨_, rfl, _, rfl, rw, sp, D2, ns, _, rfl, R4.r s5, nDr, SqL.of e5, fitL_ne hPt o gp hroom, by omega, fun H6 v k6 R6 hv => ?_⟩
          have hv := fitL_mem hv
          have s6 := (SameR.of s5).trans k6
          have eO6 := s6 _ _ nfr eO
          obtain ⟨i4, x4, r4, hi4, er4⟩ := R4.at_
          refine ⟨_, rfl, _, rfl, pf, _, _, c, rfl, rfl, eO6, ixN_nat (by rw [List.length_map, hPt.len]; exact hc), ⟨_, _, _, O.set c (some v), rfl, by rw [upd_same, set_ov], hPt.step o gp hc hh hv.1 (by omega) hv.2.2⟩, (s4.trans s6).put npfH, R.put npfH (s4.trans s6) R6, by rw [upd_ne npp]; exact s6 _ _ npr ep4, (hpr4.same (s6.t er4)).same (sameT_upd eO6 rfl)⟩
      · obtain ⟨⟨y3, y4, y5, O, rfl, eO, hPt⟩, s4, R4, ep4, hpr4⟩ := hP
        rw [hyl] at hPt
        obtain ⟨h1, h2, h3⟩ := hPt.done
        refine ⟨_, rfl, pf, _, rfl, .inl ⟨SqL.of eO, fun l nl => ?_⟩⟩
        have kl : Same H4 (upd H4 l (.tup (O.map ov))) := same_new nl
        have eO2 : O.map ov = (vals O).map V.int := by
          have := congrArg (List.map ov) h3
          rw [List.map_map] at this
          exact this
        refine q _ _ (vals O) (s4.trans (SameR.of kl)) (R4.r kl) (dp_tup (SqT.of ?_)) ⟨S, h1, h2⟩
        rw [upd_same, eO2]
end
end Pk
/-! Parkback, the mathematics, part F: what the law compares. -/
namespace Pk
/-! ### rows in their order -/
theorem lxl_app : ∀ {a b x y : List Int}, a.length = b.length → lxl a b = true → lxl (a ++ x) (b ++ y) = true
  | [], [], _, _, _, h => by cases h
  | [], _ :: _, _, _, h, _ => by cases h
  | _ :: _, [], _, _, h, _ => by cases h
  | p :: a, q :: b, x, y, h, h2 => by
    have h2 : (if p = q then lxl a b else decide (p < q)) = true := h2
    show (if p = q then lxl (a ++ x) (b ++ y) else decide (p < q)) = true
    by_cases c : p = q
    · rw [if_pos c] at h2 ⊢
      exact lxl_app (by simpa using h) h2
    · rw [if_neg c] at h2 ⊢
      exact h2
theorem lxl_same : ∀ {a : List Int} {p q : Int}, p < q → lxl (a ++ [p]) (a ++ [q]) = true
  | [], p, q, h => by
    show (if p = q then lxl [] [] else decide (p < q)) = true
    rw [if_neg (by omega)]
    exact decide_eq_true h
  | x :: a, p, q, h => by
    show (if x = x then lxl (a ++ [p]) (a ++ [q]) else _) = true
    rw [if_pos rfl]
    exact lxl_same h
abbrev Up (l : List (List Int)) : Prop := l.Pairwise fun a b => lxl a b = true
theorem ext1_up {tk : List Int} (ht : tk.Pairwise (· < ·)) (h f : Int) (row : List Int) : Up (ext1 tk h f row) := by
  unfold ext1 Up
  rw [List.pairwise_map]
  exact (ht.filter _).imp fun z => lxl_same z
theorem ext_up {tk : List Int} (ht : tk.Pairwise (· < ·)) {h f : Int} {n : Nat} : ∀ {l : List (List Int)}, (∀ r ∈ l, r.length = n) → Up l → Up (ext tk h f l)
  | [], _, _ => by
    show Up (List.flatMap _ [])
    rw [List.flatMap_nil]
    exact List.Pairwise.nil
  | row :: l, hl, hu => by
    have hu := List.pairwise_cons.mp hu
    show Up (ext1 tk h f row ++ ext tk h f l)
    refine List.pairwise_append.mpr ⟨ext1_up ht h f row, ext_up ht (fun r hr => hl r (List.mem_cons_of_mem _ hr)) hu.2, fun a ha b hb => ?_⟩
    obtain ⟨p, _, rfl⟩ := List.mem_map.mp ha
    obtain ⟨row', h1, q, _, _, rfl⟩ := mem_ext.mp hb
    exact lxl_app (by rw [hl row List.mem_cons_self, hl row' (List.mem_cons_of_mem _ h1)]) (hu.1 row' h1)
theorem rin_up {tk : List Int} (ht : tk.Pairwise (· < ·)) : ∀ (ps : List (Int × Int)) {l : List (List Int)} {n : Nat}, (∀ r ∈ l, r.length = n) → Up l → Up (rin tk ps l)
  | [], l, n, _, hu => hu
  | (h, f) :: ps, l, n, hl, hu => rin_up ht ps (ext_rowlen hl) (ext_up ht hl hu)
theorem rests_up (hs st : List Int) : Up (restsIn hs st) := rin_up (n := 0) (taken_up hs) _ (fun r hr => by rw [List.mem_singleton.mp hr]; rfl) (List.pairwise_singleton _ _)
theorem head_of {f : List Int → Int} {rs : List (List Int)} {c k : Int} {r r0 : List Int} {rest : List (List Int)} (h : IsMin f rs c r) (hu : Up rs) (hk : ∀ r' ∈ rs, f r' = k) (e : rs = r0 :: rest) : c = k ∧ r = r0 := by
  have hc : c = k := by rw [h.val]; exact hk r h.mem
  refine ⟨hc, ?_⟩
  have h0 : r0 ∈ rs := by rw [e]; exact List.mem_cons_self
  have h1 := h.first r0 h0 (by rw [hk r0 h0, hc])
  have h2 := h.mem
  rw [e] at h2 hu
  rcases List.mem_cons.mp h2 with z | z
  · exact z
  · have := (List.pairwise_cons.mp hu).1 r z
    rw [h1] at this
    cases this
/-- one least value over the same rows -/
theorem min_shift {f g : List Int → Int} {rs : List (List Int)} {c d k : Int} {r s : List Int} (h : IsMin f rs c r) (m : IsMin g rs d s) (e : ∀ x ∈ rs, g x = f x - k) : d = c - k := by
  have h1 := h.least s m.mem
  have h2 := m.least r h.mem
  have e1 := e s m.mem
  have e2 := e r h.mem
  have v1 := h.val
  have v2 := m.val
  omega
/-! ### sums -/
theorem ways_sum : ∀ {hs r : List Int}, r.length = hs.length → (ways hs r).sum = r.sum - hs.sum
  | [], [], _ => rfl
  | [], _ :: _, h => by cases h
  | _ :: _, [], h => by cases h
  | a :: hs, p :: r, h => by
    have ih := ways_sum (hs := hs) (r := r) (by simpa using h)
    show ((p - a) :: ways hs r).sum = (p :: r).sum - (a :: hs).sum
    rw [List.sum_cons, List.sum_cons, List.sum_cons, ih]
    omega
theorem dot_cons (a b : Int) (ws ys : List Int) : dot (a :: ws) (b :: ys) = a * b + dot ws ys := by
  unfold dot
  rw [List.zipWith_cons_cons, List.sum_cons]
theorem dot_back : ∀ {ws ys : List Int}, ws.length = ys.length → dot (ws.map fun x => 50 - x) ys = 50 * ys.sum - dot ws ys
  | [], [], _ => rfl
  | [], _ :: _, h => by cases h
  | _ :: _, [], h => by cases h
  | a :: ws, b :: ys, h => by
    have ih := dot_back (ws := ws) (ys := ys) (by simpa using h)
    rw [List.map_cons, dot_cons, dot_cons, List.sum_cons, ih, Int.sub_mul, Int.mul_add]
    omega
theorem dot_ones : ∀ ys : List Int, dot (List.replicate ys.length 1) ys = ys.sum
  | [] => rfl
  | b :: ys => by
    have ih := dot_ones ys
    rw [List.length_cons, List.replicate_succ, dot_cons, List.sum_cons, ih, Int.one_mul]
theorem dot_zeros : ∀ ys : List Int, dot (List.replicate ys.length 0) ys = 0
  | [] => rfl
  | b :: ys => by
    have ih := dot_zeros ys
    rw [List.length_cons, List.replicate_succ, dot_cons, ih, Int.zero_mul]
    rfl
def alone (n c : Nat) : List Int := (List.range n).map fun i => if i = c then 1 else 0
theorem alone_succ0 (n : Nat) : alone (n + 1) 0 = 1 :: List.replicate n 0 := by
  unfold alone
  rw [List.range_succ_eq_map, List.map_cons, List.map_map, if_pos rfl]
  congr 1
  have : ∀ l : List Nat, l.map ((fun i => if i = 0 then (1 : Int) else 0) ∘ Nat.succ) = List.replicate l.length 0 := fun l => by
    rw [List.eq_replicate_iff]
    refine ⟨List.length_map _, fun b hb => ?_⟩
    obtain ⟨x, _, rfl⟩ := List.mem_map.mp hb
    show (if x + 1 = 0 then (1 : Int) else 0) = 0
    rw [if_neg (by omega)]
  rw [this, List.length_range]
theorem alone_succ (n c : Nat) : alone (n + 1) (c + 1) = 0 :: alone n c := by
  unfold alone
  rw [List.range_succ_eq_map, List.map_cons, List.map_map, if_neg (by omega)]
  congr 1
  refine List.map_congr_left fun x _ => ?_
  show (if x + 1 = c + 1 then (1 : Int) else 0) = _
  by_cases z : x = c
  · rw [if_pos z, if_pos (by omega)]
  · rw [if_neg z, if_neg (by omega)]
theorem dot_alone : ∀ {ys : List Int} {c : Nat}, c < ys.length → dot (alone ys.length c) ys = ys.getD c 0
  | [], c, h => absurd h (Nat.not_lt_zero c)
  | b :: ys, 0, _ => by
    rw [List.length_cons, alone_succ0, dot_cons, dot_zeros, Int.one_mul, Int.add_zero]
    rfl
  | b :: ys, c + 1, h => by
    have ih := dot_alone (ys := ys) (c := c) (by simpa using h)
    rw [List.length_cons, alone_succ, dot_cons, ih, Int.zero_mul, Int.zero_add]
    rfl
theorem ways_at {hs r : List Int} {c : Nat} (hl : r.length = hs.length) (hc : c < hs.length) : (ways hs r).getD c 0 = r.getD c 0 - hs.getD c 0 := by
  have e1 : r[c]? = some r[c] := List.getElem?_eq_getElem (by omega)
  have e2 : hs[c]? = some hs[c] := List.getElem?_eq_getElem hc
  unfold ways
  rw [List.getD_eq_getElem?_getD, List.getD_eq_getElem?_getD, List.getD_eq_getElem?_getD, List.getElem?_zipWith, e1, e2]
  rfl
theorem sum_mx : ∀ {l : List Int} {m : Int}, (∀ x ∈ l, x ≤ m) → l.sum ≤ m * l.length
  | [], m, _ => by simp
  | x :: l, m, h => by
    have ih := sum_mx (l := l) fun y hy => h y (List.mem_cons_of_mem _ hy)
    have h1 := h x List.mem_cons_self
    rw [List.sum_cons, List.length_cons, Int.natCast_succ, Int.mul_add, Int.mul_one]
    omega
def sqs (l : List Int) : Int := (l.map fun x => x * x).sum
theorem sqs_cons (x : Int) (l : List Int) : sqs (x :: l) = x * x + sqs l := by
  unfold sqs
  rw [List.map_cons, List.sum_cons]
theorem mul_self_nn (a : Int) : 0 ≤ a * a := by
  rcases Int.le_total 0 a with h | h
  · exact Int.mul_nonneg h h
  · have := Int.mul_nonneg (show 0 ≤ -a by omega) (show 0 ≤ -a by omega)
    rw [Int.neg_mul_neg] at this
    exact this
theorem sq_var (x : Int) : ∀ l : List Int, 0 ≤ sqs l - 2 * (x * l.sum) + l.length * (x * x)
  | [] => by
    show (0 : Int) ≤ 0 - 2 * (x * 0) + 0 * (x * x)
    rw [Int.mul_zero, Int.zero_mul]
    decide
  | y :: l => by
    have ih := sq_var x l
    have h := mul_self_nn (y - x)
    have e : (y - x) * (y - x) = y * y - 2 * (x * y) + x * x := by
      rw [Int.sub_mul, Int.mul_sub, Int.mul_sub, Int.mul_comm y x]
      omega
    rw [sqs_cons, List.sum_cons, List.length_cons, Int.natCast_succ, Int.mul_add, Int.add_mul, Int.one_mul]
    omega
theorem cauchy : ∀ l : List Int, l.sum * l.sum ≤ sqs l * l.length
  | [] => by
    show (0 : Int) * 0 ≤ 0 * 0
    decide
  | x :: l => by
    have ih := cauchy l
    have h := sq_var x l
    rw [sqs_cons, List.sum_cons, List.length_cons, Int.natCast_succ]
    have e1 : (x + l.sum) * (x + l.sum) = x * x + 2 * (x * l.sum) + l.sum * l.sum := by
      rw [Int.add_mul, Int.mul_add, Int.mul_add, Int.mul_comm l.sum x]
      omega
    have e2 : (x * x + sqs l) * ((l.length : Int) + 1) = l.length * (x * x) + x * x + (sqs l * l.length + sqs l) := by
      rw [Int.mul_add, Int.add_mul, Int.mul_one, Int.mul_comm (x * x)]
      omega
    omega
/-! ### cars at home -/
def atHome (hs r : List Int) : Nat := ((List.range hs.length).filter fun c => decide (r.getD c 0 = hs.getD c 0)).length
theorem home_count : ∀ {hs r : List Int}, r.length = hs.length → (ways hs r).count 0 = atHome hs r
  | [], [], _ => rfl
  | [], _ :: _, h => by cases h
  | _ :: _, [], h => by cases h
  | a :: hs, p :: r, h => by
    have ih := home_count (hs := hs) (r := r) (by simpa using h)
    have e : ((List.range (hs.length)).map Nat.succ).filter (fun c => decide ((p :: r).getD c 0 = (a :: hs).getD c 0)) = ((List.range hs.length).filter fun c => decide (r.getD c 0 = hs.getD c 0)).map Nat.succ := by
      rw [List.filter_map]
      rfl
    show ((p - a) :: ways hs r).count 0 = _
    unfold atHome at ih ⊢
    rw [List.length_cons, List.range_succ_eq_map, List.filter_cons, e, List.count_cons, ih]
    show _ + (if (p - a == 0) = true then 1 else 0) = List.length (if decide (p = a) = true then _ else _)
    by_cases z : p = a
    · rw [if_pos (by rw [z, Int.sub_self]; rfl), if_pos (decide_eq_true z), List.length_cons, List.length_map]
    · rw [if_neg (fun q => z (by have := eq_of_beq q; omega)), if_neg (fun q => z (of_decide_eq_true q)), List.length_map, Nat.add_zero]
/-! ### the law's comparisons -/
theorem rest_ways {hs st r : List Int} (S : IsSt hs st) (h : r ∈ restsIn hs st) : (ways hs r).sum = (taken hs).sum - hs.sum := by
  rw [ways_sum (rest_len S h), perm_sum (rest_perm S h)]
theorem f_back {hs st ws r : List Int} (S : IsSt hs st) (h : r ∈ restsIn hs st) (hw : ws.length = hs.length) : -dot (ws.map fun x => 50 - x) (ways hs r) = dot ws (ways hs r) - 50 * ((taken hs).sum - hs.sum) := by
  have wl : (ways hs r).length = hs.length := by
    unfold ways
    rw [List.length_zipWith, rest_len S h, Nat.min_self]
  rw [dot_back (by rw [wl, hw]), rest_ways S h]
  omega
theorem ways_length {hs st r : List Int} (S : IsSt hs st) (h : r ∈ restsIn hs st) : (ways hs r).length = hs.length := by
  unfold ways
  rw [List.length_zipWith, rest_len S h, Nat.min_self]
theorem f_ones {hs st r : List Int} (S : IsSt hs st) (h : r ∈ restsIn hs st) : dot (List.replicate hs.length 1) (ways hs r) = (taken hs).sum - hs.sum := by
  have := dot_ones (ways hs r)
  rw [ways_length S h] at this
  rw [this, rest_ways S h]
theorem f_zeros {hs st r : List Int} (S : IsSt hs st) (h : r ∈ restsIn hs st) : dot (List.replicate hs.length 0) (ways hs r) = 0 := by
  have := dot_zeros (ways hs r)
  rw [ways_length S h] at this
  exact this
theorem f_alone {hs st r : List Int} {c : Nat} (S : IsSt hs st) (h : r ∈ restsIn hs st) (hc : c < hs.length) : dot (alone hs.length c) (ways hs r) = r.getD c 0 - hs.getD c 0 := by
  have wl := ways_length S h
  have := dot_alone (ys := ways hs r) (c := c) (by rw [wl]; exact hc)
  rw [wl] at this
  rw [this, ways_at (rest_len S h) hc]
theorem sum_rep (k : Int) {n : Nat} : ∀ {l : List Nat}, (∀ c ∈ l, c < n) → (l.map fun c => (List.replicate n k).getD c 0).sum = k * l.length
  | [], _ => by simp
  | c :: l, h => by
    have ih := sum_rep k (n := n) (l := l) fun x hx => h x (List.mem_cons_of_mem _ hx)
    have e : (List.replicate n k).getD c 0 = k := by
      rw [List.getD_eq_getElem?_getD, List.getElem?_replicate, if_pos (h c List.mem_cons_self)]
      rfl
    rw [List.map_cons, List.sum_cons, ih, e, List.length_cons, Int.natCast_succ, Int.mul_add, Int.mul_one]
    omega
theorem unl_lt' {a b : List Int} {c : Nat} (h : c ∈ unl a b) : c < a.length := List.mem_range.mp (List.mem_filter.mp h).1
theorem f_calls1 {hs st : List Int} (S : IsSt hs st) (r : List Int) : ((unl st r).map fun c => (List.replicate hs.length (1 : Int)).getD c 0).sum = (unl st r).length := by
  rw [sum_rep 1 fun c hc => by rw [S.len]; exact unl_lt' hc, Int.one_mul]
theorem f_calls0 {hs st : List Int} (S : IsSt hs st) (r : List Int) : ((unl st r).map fun c => (List.replicate hs.length (0 : Int)).getD c 0).sum = 0 := by
  rw [sum_rep 0 fun c hc => by rw [S.len]; exact unl_lt' hc, Int.zero_mul]
theorem few_min {hs st : List Int} {k c : Int} {f : List Int → Int} {r : List Int} (h : Few hs st k) (m : IsMin f (restsIn hs st) c r) (e : ∀ x, f x = (unl st x).length) : c = k := by
  obtain ⟨s, hs', e1⟩ := h.some_
  have h1 := h.low r m.mem
  have h2 := m.least s hs'
  have v := m.val
  rw [e] at h2 v
  omega
theorem fits_sum : ∀ {hs st r : List Int}, Fits (hs.zip st) r → hs.length = st.length → r.sum ≤ st.sum
  | [], [], [], _, _ => Int.le_refl _
  | [], _ :: _, _, _, h => by cases h
  | _ :: _, [], _, _, h => by cases h
  | _ :: _, _ :: _, [], h, _ => h.elim
  | [], [], _ :: _, h, _ => h.elim
  | a :: hs, b :: st, p :: r, h, hl => by
    have ih := fits_sum h.2 (by simpa using hl)
    have h1 := h.1.2
    rw [List.sum_cons, List.sum_cons]
    omega
theorem slack_nn {hs st : List Int} (S : IsSt hs st) : 0 ≤ st.sum - (taken hs).sum := by
  obtain ⟨r, h1, h2⟩ := sdr S
  have e1 := fits_sum h1 S.len
  have e2 := perm_sum h2
  omega
theorem f_mx {hs st r : List Int} (S : IsSt hs st) (h : r ∈ restsIn hs st) (h1 : 1 ≤ hs.length) : (taken hs).sum - hs.sum ≤ mx (ways hs r) * hs.length := by
  have wl := ways_length S h
  have ne : ways hs r ≠ [] := fun z => by
    rw [z] at wl
    have wl : 0 = hs.length := wl
    omega
  have := sum_mx (mx_is ne).2
  rw [wl, rest_ways S h] at this
  exact this
theorem f_sq {hs st r : List Int} (S : IsSt hs st) (h : r ∈ restsIn hs st) : ((taken hs).sum - hs.sum) * ((taken hs).sum - hs.sum) ≤ sqs (ways hs r) * hs.length := by
  have := cauchy (ways hs r)
  rw [ways_length S h, rest_ways S h] at this
  exact this
end Pk
/-! Parkback: the walks, part 13: the law. -/
namespace Pk
open PySem PySem.Spec PyProof.Rows L2
/-! ### data that are compared -/
theorem layAll_ints : ∀ ns : List Int, PyData.canLayAll0 (ns.map PyData.int) = true
  | [] => rfl
  | _ :: r => by simp [PyData.canLayAll0, PyData.canLay0, layAll_ints r]
theorem depAll_ints : ∀ ns : List Int, PyData.depthAll (ns.map PyData.int) = 0
  | [] => rfl
  | _ :: r => by simp [PyData.depthAll, PyData.depth, depAll_ints r]
theorem lay_T (r : List Int) : (dT r).canLay0 = true := by simp [dT, PyData.canLay0, layAll_ints]
theorem dep_T (r : List Int) : (dT r).depth = 1 := by simp [dT, PyData.depth, depAll_ints]
theorem lay_P (c : Int) (r : List Int) : (dP c r).canLay0 = true := by
  have := lay_T r
  simp [dP, PyData.canLay0, PyData.canLayAll0, this]
theorem dep_P (c : Int) (r : List Int) : (dP c r).depth = 2 := by
  have := dep_T r
  simp [dP, PyData.depth, PyData.depthAll, this]
theorem layAll_T : ∀ rs : List (List Int), PyData.canLayAll0 (rs.map dT) = true
  | [] => rfl
  | r :: rs => by simp [PyData.canLayAll0, lay_T r, layAll_T rs]
theorem depAll_T : ∀ rs : List (List Int), PyData.depthAll (rs.map dT) ≤ 1
  | [] => Nat.zero_le _
  | r :: rs => by
    have := depAll_T rs
    simp only [List.map_cons, PyData.depthAll, dep_T r]
    omega
theorem sh_P (c : Int) (r : List Int) : SeqAt.shaped (dP c r) = true := by
  unfold SeqAt.shaped
  rw [lay_P, dep_P]
  rfl
theorem sh_T (r : List Int) : SeqAt.shaped (dT r) = true := by
  unfold SeqAt.shaped
  rw [lay_T, dep_T]
  rfl
theorem sh_rows (rs : List (List Int)) : SeqAt.shaped (.list (rs.map dT)) = true := by
  have := depAll_T rs
  unfold SeqAt.shaped
  simp only [PyData.canLay0, layAll_T, PyData.depth, Bool.true_and]
  exact decide_eq_true (by omega)
theorem any_T {rs : List (List Int)} {r : List Int} (h : r ∈ rs) : ((rs.map dT).any fun z => PyData.eqv z (dT r)) = true :=
  List.any_eq_true.mpr ⟨dT r, List.mem_map.mpr ⟨r, h, rfl⟩, SeqAt.eqv_refl _ (lay_T r)⟩
theorem eqv_P (c : Int) (r : List Int) : PyData.eqv (dP c r) (dP c r) = true := SeqAt.eqv_refl _ (lay_P c r)
theorem RowsAt.r {K : PySem.W.Frag} {rw p : Addr} {H H' : Hp} {rs : List (List Int)} (s : SameR rw H H') (t : SameT H H') (n : p ≠ rw) (h : RowsAt K H p rs) : RowsAt K H' p rs := by
  obtain ⟨xs, e, d⟩ := h
  exact ⟨xs, s _ _ n e, dpAll_sameT t (flat_rows rs) d⟩
theorem flat_dS (n : Int) (hs : List Int) : flatD (dS n hs) = true := by
  unfold dS flatD flatDs flatDs flatDs
  rw [flat_dT]
  simp [flatD]
theorem ne_no {i j : Int} (h : i = j) : (!decide (V.int i = V.int j)) = false := by
  rw [h, decide_eq_true rfl]
  rfl
theorem rep_int (x : Int) : ∀ m : Nat, (List.replicate m [V.int x]).flatten = (List.replicate m x).map V.int
  | 0 => rfl
  | m + 1 => by
    rw [List.replicate_succ, List.replicate_succ, List.flatten_cons, rep_int x m]
    rfl
theorem wt_rep {hs : List Int} {k : Int} (h0 : 0 ≤ k) (h1 : k ≤ 99) : IsWt hs (List.replicate hs.length k) := ⟨List.length_replicate, fun x hx => by
  rw [(List.mem_replicate.mp hx).2]
  exact ⟨h0, h1⟩⟩
theorem eqv_no {c k : Int} {r r0 : List Int} (h : c = k ∧ r = r0) : (!PyData.eqv (dP c r) (dP k r0)) = false := by
  rw [h.1, h.2, eqv_P]
  rfl
theorem sum_nn : ∀ {l : List Int}, (∀ x ∈ l, 0 ≤ x) → 0 ≤ l.sum
  | [], _ => Int.le_refl 0
  | x :: l, h => by
    have h1 := h x List.mem_cons_self
    have h2 := sum_nn (l := l) fun y hy => h y (List.mem_cons_of_mem _ hy)
    rw [List.sum_cons]
    omega
theorem way_bound {n : Int} {hs st : List Int} (ST : IsState n hs st) (h5 : hs.length ≤ 5) : 0 ≤ (taken hs).sum - hs.sum ∧ (taken hs).sum - hs.sum ≤ 60 := by
  obtain ⟨r0, h0⟩ : ∃ r0, r0 ∈ restsIn hs st := by
    cases e : restsIn hs st with
    | nil => exact absurd e (rests_ne ST.ok)
    | cons r0 rest => exact ⟨r0, List.mem_cons_self⟩
  have h1 := rest_ways ST.ok h0
  have h2 := sum_nn fun x hx => (way_small ST h0 hx).1
  have h3 := sum_mx (m := 12) fun x hx => (way_small ST h0 hx).2
  rw [ways_length ST.ok h0] at h3
  omega
theorem any_no {rs : List (List Int)} {r : List Int} (h : r ∈ rs) : (!(rs.map dT).any fun z => PyData.eqv z (dT r)) = false := by
  rw [any_T h]
  rfl
theorem wt_alone (hs : List Int) (i : Nat) : IsWt hs (alone hs.length i) := by
  unfold alone
  refine ⟨by rw [List.length_map, List.length_range], fun x hx => ?_⟩
  obtain ⟨j, _, rfl⟩ := List.mem_map.mp hx
  split <;> omega
theorem no_ {c : Bool} {A B : Prop} (h : c = false) (b : B) : if c = true then A else B := by
  rw [if_neg (by rw [h]; exact Bool.false_ne_true)]
  exact b
section
variable {P : Program} {w : World} {K : PySem.W.Frag} {mg : Str → Option Value} {base : Heap}
abbrev N13 : List Str := ["_law_script", "_law_row", "_law_street_here", "_law_cars", "_law_state_here", "_law_some", "_law_weights", "_law_back", "_law_greatest", "_law_fair", "_law_squares", "_law_plain", "_law_many", "_law_homely", "_law_car", "_law_alone", "_law_weight", "_law_one"]
theorem scLaw : FnScope N13 ["_law_script"] (defScope sLaw) := ⟨rfl, rfl, rfl, by decide +kernel, rfl, by decide +kernel, by decide +kernel⟩
/-- all that the law calls -/
structure Defs (P : Program) (w : World) (K : PySem.W.Frag) (mg : Str → Option Value) (base : Heap) : Prop where
  tk : DnTk P w K mg base
  street : Dn P w K mg base "_law_street" ["_law_row", "_law_cars", "_law_places"] 2 (spLawStreet K)
  state : Dn P w K mg base "_law_state" ["_law_row", "_law_street_here"] 3 (spLawState K)
  from_ : Dn P w K mg base "rests_from" ["street", "state"] 5 (spRestsIn K)
  way : Dn P w K mg base "rest_way" ["street"] 4 (spRestWay K)
  slack : Dn P w K mg base "slack" ["street", "state"] 5 (spSlack K)
  cheap : Dn P w K mg base "cheapest" ["street", "state", "weights"] 5 (spCheap K)
  dear : Dn P w K mg base "dearest" ["street", "state", "weights"] 5 (spDear K)
  calls : Dn P w K mg base "cheapest_calls" ["street", "state", "costs"] 5 (spCalls K)
  few : Dn P w K mg base "calls_to_rest" ["street", "state"] 5 (spFew K)
  fair : Dn P w K mg base "fairest" ["street", "state"] 5 (spPick K fun hs r => mx (ways hs r))
  sq : Dn P w K mg base "squarest" ["street", "state"] 5 (spPick K fun hs r => sq (ways hs r))
  home : Dn P w K mg base "most_home" ["street", "state"] 5 (spNeg K fun hs r => -((ways hs r).count 0 : Nat))
  best : Dn P w K mg base "best_for" ["street", "state", "car"] 5 (spBest K)
  worst : Dn P w K mg base "worst_for" ["street", "state", "car"] 5 (spWorst K)
def spLaw (K : PySem.W.Frag) : Sp := fun vs H Q _ => ∃ (a : Addr) (ns : List Int), vs = [.ref a] ∧ SqL K H a (ns.map V.int) ∧ ∀ H', Q (.bl true) H'
theorem fn_mk {x : Str} {st : Stmt} {N ps : List Str} {k : Nat} {sp : Sp} {f : Addr} {fd : FuncData} (F : FunD K x x (defArgs st) (defBody st) (defScope st) [] [] f fd) (S : FnScope N ps (defScope st))
    (len : ∀ vs H Q E, sp vs H Q E → vs.length = ps.length)
    (hbody : ∀ (cdv : Value) (A : Around) (outer : List Env) (s : Shared) (H : Hp) (vs : List V) (Q : VK) (E : XK), Room k (A.deeper (envOfC x (defScope st) s.heap.objs.size f cdv)) → sp vs H Q E →
      ∃ t, PSs (cxOf CX0 P w K mg base N x (defScope st) f cdv A outer s H E).nox (defBody st) t ∧ t { nx := fun _ H' => Q .non H', rt := Q } (start N vs) H) : FnOk P w K mg base CX0 (k + 1) f fd ps sp := by
  refine F.ok S len fun cdv A outer s H vs Q E hr h => ?_
  obtain ⟨t, h1, h2⟩ := hbody cdv A outer s H vs Q E hr h
  exact ⟨t, h1.nox, h2⟩
theorem ok_law {f : Addr} {fd : FuncData} (F : FunD K "law" "law" (defArgs sLaw) (defBody sLaw) (defScope sLaw) [] [] f fd) (B : Bi mg) (D : Defs P w K mg base) : FnOk P w K mg base CX0 6 f fd ["_law_script"] (spLaw K) := by
  refine fn_mk F scLaw (fun vs H Q E h => ?_) (fun cdv A outer s H vs Q E hr h => ?_)
  · obtain ⟨a, ns, rfl, _⟩ := h
    rfl
  · obtain ⟨sp, ns, rfl, hS, q⟩ := h
    have nd := scLaw.nd
    have hun := hr.un
    have hu65 : (A.deeper (envOfC (Str.ofString "law") (defScope sLaw) s.heap.objs.size f cdv)).units + 65 < cLine := by omega
    refine ⟨_, pss_cons (ps_set (i := 1) nd rfl (.inr rfl) (pe_lst (pa_cons (pv 0) (pa_cons pe_int (pa_cons pe_int (pa_cons pe_int pa_nil))))))
      (pss_cons (ps_set (i := 2) nd rfl (.inr rfl) (pe_d D.street hr (pa_cons (pv 1) (pa_cons pe_int (pa_cons pe_int pa_nil)))))
      (pss_cons (ps_par (i := 3) (j := 4) rfl nd rfl rfl (by decide) rfl rfl (pa_cons (pe_callB call_len_seq (by rfl) B.len boot_len (pa_cons (pe_ix ix_tup (pv 2) pe_int (fun _ _ => rfl)) pa_nil)) (pa_cons (pe_d D.state hr (pa_cons (pv 1) (pa_cons (pv 2) pa_nil))) pa_nil)) (by rfl))
      (pss_cons (ps_par (i := 5) (j := 6) rfl nd rfl rfl (by decide) rfl rfl (pa_cons (pe_d D.from_ hr (pa_cons (pv 2) (pa_cons (pv 4) pa_nil))) (pa_cons (pe_callTy call_tuple_of (by rfl) B.tuple (by decide +kernel) (pa_cons
          (pe_lc (own := [("_law_car", 14)]) (g := gName 14) (tt := tYes) (te := tCall (spTaken K) [] E0 (tCons (tVar 1) (tCons (tC (.int 50)) tNil))) rfl nd (pi_range1 rfl B.range (pa_cons (pv 3) pa_nil))
            (blkOk_by (N := N13) (sc := defScope sLaw) (by decide +kernel)) (fun _ _ _ _ _ => pg_name (i := 14) nd rfl (Or.inl rfl)) (fun _ _ _ _ _ => pts_nil)
            (fun _ _ _ _ _ => pe_d D.tk hr (pa_cons (pv 1) (pa_cons pe_int pa_nil)))) pa_nil)) pa_nil)) (by rfl))
      (pss_cons (ps_set (i := 7) nd rfl (.inl rfl) (pe_callTy call_tuple_of (by rfl) B.tuple (by decide +kernel) (pa_cons
          (pe_lc (own := [("_law_weight", 16)]) (g := gName 16) (tt := tYes) (te := tOp (rI0 fun i j => .int (i - j)) (tC (.int 50)) (tVar 16)) rfl nd (pi_tup (pv 6))
            (blkOk_by (N := N13) (sc := defScope sLaw) (by decide +kernel)) (fun _ _ _ _ _ => pg_name (i := 16) nd rfl (Or.inl rfl)) (fun _ _ _ _ _ => pts_nil)
            (fun _ _ _ _ _ => pe_op op_sub pe_int (pv 16))) pa_nil)))
      (pss_cons (ps_if (pt_cmpR op_ne (pe_op op_add (pe_ix ix_tup (pe_d D.cheap hr (pa_cons (pv 2) (pa_cons (pv 4) (pa_cons (pv 6) pa_nil)))) pe_int (fun _ _ => rfl)) (pe_ix ix_tup (pe_d D.dear hr (pa_cons (pv 2) (pa_cons (pv 4) (pa_cons (pv 7) pa_nil)))) pe_int (fun _ _ => rfl)))
          (pe_op op_mul pe_int (pe_d D.way hr (pa_cons (pv 2) pa_nil))) (nomark _)) (pss_one ps_never) pss_nil)
      (pss_cons (ps_if (PW.pt (pw_or (pt_cmpR (op_neD hr.units) (pe_d D.cheap hr (pa_cons (pv 2) (pa_cons (pv 4) (pa_cons (pe_op op_mulT (pe_tup (pa_cons pe_int pa_nil)) (pv 3)) pa_nil)))) (pe_tup (pa_cons (pe_d D.way hr (pa_cons (pv 2) pa_nil)) (pa_cons (pe_ix ix_list (pv 5) pe_int (fun _ _ => rfl)) pa_nil))) (nomark _))
          (pw_or1 (pt_cmpR (op_neD hr.units) (pe_d D.dear hr (pa_cons (pv 2) (pa_cons (pv 4) (pa_cons (pe_op op_mulT (pe_tup (pa_cons pe_int pa_nil)) (pv 3)) pa_nil)))) (pe_tup (pa_cons pe_int (pa_cons (pe_ix ix_list (pv 5) pe_int (fun _ _ => rfl)) pa_nil))) (nomark _))))) (pss_one ps_never) pss_nil)
      (pss_cons (ps_if (pt_cmpR op_ne (pe_ix ix_tup (pe_d D.calls hr (pa_cons (pv 2) (pa_cons (pv 4) (pa_cons (pe_op op_mulT (pe_tup (pa_cons pe_int pa_nil)) (pv 3)) pa_nil)))) pe_int (fun _ _ => rfl)) (pe_d D.few hr (pa_cons (pv 2) (pa_cons (pv 4) pa_nil))) (nomark _)) (pss_one ps_never) pss_nil)
      (pss_cons (ps_if (pt_cmpR (op_neD hr.units) (pe_d D.calls hr (pa_cons (pv 2) (pa_cons (pv 4) (pa_cons (pe_op op_mulT (pe_tup (pa_cons pe_int pa_nil)) (pv 3)) pa_nil)))) (pe_tup (pa_cons pe_int (pa_cons (pe_ix ix_list (pv 5) pe_int (fun _ _ => rfl)) pa_nil))) (nomark _)) (pss_one ps_never) pss_nil)
      (pss_cons (ps_asg (pe_d D.fair hr (pa_cons (pv 2) (pa_cons (pv 4) pa_nil))) (pg_tup rfl (pgs_cons (pg_name (i := 8) nd rfl (.inl rfl)) (pgs_cons (pg_name (i := 9) nd rfl (.inl rfl)) pgs_nil))))
      (pss_cons (ps_asg (pe_d D.sq hr (pa_cons (pv 2) (pa_cons (pv 4) pa_nil))) (pg_tup rfl (pgs_cons (pg_name (i := 10) nd rfl (.inl rfl)) (pgs_cons (pg_name (i := 11) nd rfl (.inl rfl)) pgs_nil))))
      (pss_cons (ps_if (PW.pt (pw_or (pt_cmpR (op_notInD hu65) (pv 9) (pv 5) (by rfl)) (pw_or1 (pt_cmpR (op_notInD hu65) (pv 11) (pv 5) (by rfl))))) (pss_one ps_never) pss_nil)
      (pss_cons (ps_if (PW.pt (pw_or (pt_cmpR op_lt (pe_op op_mul (pv 8) (pv 3)) (pe_d D.way hr (pa_cons (pv 2) pa_nil)) (nomark _))
          (pw_or1 (pt_cmpR op_lt (pe_op op_mul (pv 10) (pv 3)) (pe_op op_mul (pe_d D.way hr (pa_cons (pv 2) pa_nil)) (pe_d D.way hr (pa_cons (pv 2) pa_nil))) (nomark _))))) (pss_one ps_never) pss_nil)
      (pss_cons (ps_asg (pe_d D.home hr (pa_cons (pv 2) (pa_cons (pv 4) pa_nil))) (pg_tup rfl (pgs_cons (pg_name (i := 12) nd rfl (.inl rfl)) (pgs_cons (pg_name (i := 13) nd rfl (.inr rfl)) pgs_nil))))
      (pss_cons (ps_if (pt_cmpR op_ne (pe_callB call_len_seq (by rfl) B.len boot_len (pa_cons
          (pe_lc (own := [("_law_car", 14)]) (g := gName 14) (tt := tTest (tOp rEq (tOp (rIxT K) (tVar 13) (tVar 14)) (tOp (rIxT K) (tOp (rIxT K) (tVar 2) (tC (.int 1))) (tVar 14)))) (te := tVar 14) rfl nd (pi_range1 rfl B.range (pa_cons (pv 3) pa_nil))
            (blkOk_by (N := N13) (sc := defScope sLaw) (by decide +kernel)) (fun _ _ _ _ _ => pg_name (i := 14) nd rfl (Or.inl rfl)) (fun _ _ _ _ _ => pts_one (pt_cmpR op_eq (pe_ix ix_tup (pv 13) (pv 14) (fun _ _ => rfl)) (pe_ix ix_tup (pe_ix ix_tup (pv 2) pe_int (fun _ _ => rfl)) (pv 14) (fun _ _ => rfl)) (nomark _)))
            (fun _ _ _ _ _ => pv 14)) pa_nil)) (pv 12) (nomark _)) (pss_one ps_never) pss_nil)
      (pss_cons (ps_for PassesOwn.never rfl (pi_range1 rfl B.range (pa_cons (pv 3) pa_nil)) (pg_name (i := 14) nd rfl (.inr rfl))
        (pss_cons (ps_set (i := 15) nd rfl (.inl rfl) (pe_callTy call_tuple_of (by rfl) B.tuple (by decide +kernel) (pa_cons
          (pe_lc (own := [("_law_one", 17)]) (g := gName 17) (tt := tYes) (te := tCB (fun xs H Q => (∃ i, xs = [V.int i] ∧ Q (.int i) H) ∨ ∃ k, xs = [V.bl k] ∧ Q (.int (if k then 1 else 0)) H) (tCons (tOp rEq (tVar 17) (tVar 14)) tNil)) rfl nd (pi_range1 rfl B.range (pa_cons (pv 3) pa_nil))
            (blkOk_by (N := N13) (sc := defScope sLaw) (by decide +kernel)) (fun _ _ _ _ _ => pg_name (i := 17) nd rfl (Or.inl rfl)) (fun _ _ _ _ _ => pts_nil)
            (fun _ _ _ _ _ => pe_callTy call_int1 (by rfl) B.int (by decide +kernel) (pa_cons (pe_cmpR op_eq (pv 17) (pv 14) (nomark _)) pa_nil))) pa_nil)))
        (pss_cons (ps_if (pt_cmpR op_ne (pe_op op_sub (pe_ix ix_tup (pe_d D.best hr (pa_cons (pv 2) (pa_cons (pv 4) (pa_cons (pv 14) pa_nil)))) pe_int (fun _ _ => rfl)) (pe_ix ix_tup (pe_ix ix_tup (pv 2) pe_int (fun _ _ => rfl)) (pv 14) (fun _ _ => rfl)))
            (pe_ix ix_tup (pe_d D.cheap hr (pa_cons (pv 2) (pa_cons (pv 4) (pa_cons (pv 15) pa_nil)))) pe_int (fun _ _ => rfl)) (nomark _)) (pss_one ps_never) pss_nil)
        (pss_one (ps_if (pt_cmpR op_ne (pe_op op_sub (pe_ix ix_tup (pe_d D.worst hr (pa_cons (pv 2) (pa_cons (pv 4) (pa_cons (pv 14) pa_nil)))) pe_int (fun _ _ => rfl)) (pe_ix ix_tup (pe_ix ix_tup (pv 2) pe_int (fun _ _ => rfl)) (pv 14) (fun _ _ => rfl)))
            (pe_ix ix_tup (pe_d D.dear hr (pa_cons (pv 2) (pa_cons (pv 4) (pa_cons (pv 15) pa_nil)))) pe_int (fun _ _ => rfl)) (nomark _)) (pss_one ps_never) pss_nil)))))
      (pss_one (ps_ret (pe_cmpR op_ge (pe_d D.slack hr (pa_cons (pv 2) (pa_cons (pv 4) pa_nil))) pe_int (nomark _))))))))))))))))))), ?_⟩
    refine ⟨_, rfl, by show 4 ≤ sizeLine; decide, fun rw nrw => ?_⟩
    have k1 : Same H (upd H rw (.lst [.ref sp, .int 0, .int 9075, .int 0])) := same_new nrw
    have R1 : Row K (upd H rw (.lst [.ref sp, .int 0, .int 9075, .int 0])) rw sp ns := by
      refine ⟨⟨0, 9075, 0, Int.le_refl 0, upd_same⟩, ?_, ?_⟩
      · rcases hS with (h | ⟨o, h⟩) | h
        · exact .inl (.inl (k1 _ _ h))
        · exact .inl (.inr ⟨o, k1 _ _ h⟩)
        · exact .inr h
      · rcases hS with (h | ⟨o, h⟩) | h
        · exact .inl fun z => by
            rw [z, nrw] at h
            cases h
        · exact .inl fun z => by
            rw [z, nrw] at h
            cases h
        · exact .inr fun _ => .inr h
    show tSeq _ _ _ _ (upd H rw (.lst [.ref sp, .int 0, .int 9075, .int 0]))
    revert R1
    generalize upd H rw (.lst [.ref sp, .int 0, .int 9075, .int 0]) = H1 at k1
    intro R1
    refine ⟨_, rfl, rw, sp, ns, rfl, R1, fun H2 vS n hs k2 R2 dS2 S hn10 hl5 => ?_⟩
    obtain ⟨a, b, rfl, ha, hb⟩ := dS_inv dS2
    refine ⟨_, rfl, a, _, 1, .ref b, rfl, rfl, ha, atI_nat (j := 1) rfl, b, _, rfl, .inr hb, ?_⟩
    refine ⟨_, rfl, _, rfl, rw, sp, ns, _, n, hs, rfl, R2, dS2, S, fun H3 vT st k3 R3 dT3 ST => ?_⟩
    refine ⟨_, _, rfl, ?_⟩
    obtain ⟨i2, x2, r2, hi2, er2⟩ := R2.at_
    have dS3 := dp_sameT (k3.t er2) (flat_dS n hs) dS2
    refine ⟨_, rfl, _, rfl, _, vT, n, hs, st, rfl, dS3, dT3, ST, fun H4 pR s4 npR hR4 => ?_⟩
    have dS4 := dp_same s4 dS3
    have dT4 := dp_same s4 dT3
    have R4 := R3.r s4
    have npr : pR ≠ rw := fun z => by
      obtain ⟨_, _, _, _, e⟩ := R3.at_
      rw [z, e] at npR
      cases npR
    have hl1 := S.l1
    refine ⟨_, rfl, _, rfl, by omega, by rw [List.length_map]; omega, fun D nD => ?_⟩
    refine lc_range (lo := 0) (fun i H' => SameR rw H4 H' ∧ Row K H' rw sp ns ∧ ∃ ws : List Int, H' D = some (.lst (ws.map V.int)) ∧ ws.length = i ∧ ∀ x ∈ ws, 0 ≤ x ∧ x < 50)
      ⟨SameR.of (same_new nD), R4.r (same_new nD), [], upd_same, rfl, fun x h => absurd h List.not_mem_nil⟩ (fun i H5 hi hP => ?_) (fun H5 hP => ?_)
    · obtain ⟨s5, R5, ws, eD, hwl, hw⟩ := hP
      rw [List.length_map, Int.toNat_natCast] at hi
      have nDr : D ≠ rw := fun z => by
        obtain ⟨_, _, _, _, e⟩ := R4.at_
        rw [z, e] at nD
        cases nD
      refine ⟨rfl, yes_ ?_⟩
      refine ⟨_, rfl, rw, sp, ns, 50, rfl, R5, by decide, by decide, fun H6 v k6 R6 h1 h2 => ?_⟩
      refine ⟨_, k6 _ _ nDr eD, ?_, (s5.trans k6).put nD, R4.put nD (s5.trans k6) R6, ws ++ [v], by rw [upd_same, List.map_append]; rfl, by rw [List.length_append, hwl]; rfl, fun x hx => ?_⟩
      · rw [List.length_map, hwl]
        exact small1000 (by omega)
      · rcases List.mem_append.mp hx with hx | hx
        · exact hw x hx
        · rw [List.mem_singleton.mp hx]
          exact ⟨h1, h2⟩
    · obtain ⟨s5, R5, ws, eD, hwl, hw⟩ := hP
      rw [List.length_map, Int.toNat_natCast] at hwl
      obtain ⟨i4, x4, r4, hi4, er4⟩ := R4.at_
      have t5 := s5.t er4
      refine ⟨D, _, rfl, .inl ⟨SqL.of eD, fun lw nlw => ?_⟩⟩
      refine ⟨_, _, rfl, ?_⟩
      have k6 : Same H5 (upd H5 lw (.tup (ws.map V.int))) := same_new nlw
      have dS6 := dp_same k6 (dp_sameT t5 (flat_dS n hs) dS4)
      have dT6 := dp_same k6 (dp_sameT t5 (flat_dT st) dT4)
      have hR6 := (hR4.r s5 t5 npr).same k6
      have hW6 : Dp K (upd H5 lw (.tup (ws.map V.int))) (.ref lw) (dT ws) := dp_tup (SqT.of upd_same)
      have hwn : ws.length = hs.length := by simpa using hwl
      have hcl : (((hs.map V.int).length : Nat) : Int) = (hs.length : Nat) := by rw [List.length_map]
      show tSeq _ _ _ ([some (.ref sp), some (.ref rw), some (.ref a), some (.int ((hs.map V.int).length : Nat)), some vT, some (.ref pR), some (.ref lw), none, none, none, none, none, none, none, none, none, none, none] : L2.St) (upd H5 lw (.tup (ws.map V.int)))
      rw [hcl]
      revert dS6 dT6 hR6 hW6
      generalize upd H5 lw (.tup (ws.map V.int)) = H6
      intro dS6 dT6 hR6 hW6
      clear dS2 dS3 dS4 dT3 dT4 hR4 R1 R2 R3 R4 R5 ha hb k6 t5 s5 er4 er2 k3 k2 k1 s4 npr npR nlw eD
      obtain ⟨r0, rest, er⟩ : ∃ r0 rest, restsIn hs st = r0 :: rest := by
        cases e : restsIn hs st with
        | nil => exact absurd e (rests_ne ST.ok)
        | cons r0 rest => exact ⟨r0, rest, rfl⟩
      obtain ⟨xsR, eR, dR⟩ := hR6
      obtain ⟨u0, hu0, dU0⟩ := dpAll_get' (i := 0) (d := dT r0) dR (by rw [er]; rfl)
      have hup := rests_up hs st
      have hWs : SqT K H6 lw (ws.map V.int) := by
        obtain ⟨l, e, h⟩ := dT_inv hW6
        cases e
        exact h
      refine ⟨_, rfl, lw, rfl, ⟨_, hWs⟩, fun D2 nD2 => ?_⟩
      refine lc_tup (xs := ws.map V.int) (fun i H' => Same H6 H' ∧ H' D2 = some (.lst (((ws.take i).map fun x => 50 - x).map V.int))) ⟨same_new nD2, upd_same⟩ (fun i H' _ hP => sqT_same hP.1 hWs) (fun i x H7 hx hP => ?_) (fun H7 hP => ?_)
      · obtain ⟨s7, e7⟩ := hP
        obtain ⟨z, hz, rfl⟩ := get_ints hx
        refine ⟨rfl, yes_ ?_⟩
        refine ⟨_, rfl, _, z, rfl, rfl, _, e7, ?_, same_put s7 nD2, ?_⟩
        · rw [List.length_map, List.length_map, List.length_take]
          exact small1000 (by omega)
        · rw [upd_same, take_snoc hz, List.map_append, List.map_append]
          rfl
      · obtain ⟨s7, e7⟩ := hP
        rw [List.length_map, List.take_length] at e7
        refine ⟨D2, _, rfl, .inl ⟨SqL.of e7, fun lb nlb => ?_⟩⟩
        have k8 : Same H7 (upd H7 lb (.tup ((ws.map fun x => 50 - x).map V.int))) := same_new nlb
        have s8 := s7.trans k8
        have hB8 : Dp K (upd H7 lb (.tup ((ws.map fun x => 50 - x).map V.int))) (.ref lb) (dT (ws.map fun x => 50 - x)) := dp_tup (SqT.of upd_same)
        show tSeq _ _ _ _ (upd H7 lb (.tup ((ws.map fun x => 50 - x).map V.int)))
        revert s8 hB8
        generalize upd H7 lb (.tup ((ws.map fun x => 50 - x).map V.int)) = H8
        intro s8 hB8
        have dS8 := dp_same s8 dS6
        have dT8 := dp_same s8 dT6
        have hW8 := dp_same s8 hW6
        have eR8 := s8 _ _ eR
        have dR8 := dpAll_same s8 dR
        have dU8 := dp_same s8 dU0
        clear k8 s8 e7 s7 nD2 nlb hWs dS6 dT6 hW6 eR dR dU0
        have hwt : IsWt hs ws := ⟨hwn, fun x hx => by have := hw x hx; omega⟩
        have hbt : IsWt hs (ws.map fun x => 50 - x) := ⟨by rw [List.length_map]; exact hwn, fun x hx => by
          obtain ⟨y, hy, rfl⟩ := List.mem_map.mp hx
          have := hw y hy
          omega⟩
        -- cheapest with weights, dearest with what is left of fifty
        refine ⟨_, rfl, _, rfl, _, rfl, _, vT, _, n, hs, st, ws, rfl, dS8, dT8, hW8, ST, hwt, fun H9 v1 c1 r1 t9 hv1 hm1 => ?_⟩
        obtain ⟨a1, u1, rfl, ha1, _⟩ := dP_inv hv1
        refine ⟨a1, _, 0, .int c1, rfl, rfl, ha1, atI_nat (j := 0) rfl, ?_⟩
        refine ⟨_, rfl, _, rfl, _, rfl, _, vT, _, n, hs, st, _, rfl, dp_same t9 dS8, dp_same t9 dT8, dp_same t9 hB8, ST, hbt, fun H10 v2 c2 r2 t10 hv2 hm2 => ?_⟩
        have t10 := t9.trans t10
        obtain ⟨a2, u2, rfl, ha2, _⟩ := dP_inv hv2
        refine ⟨a2, _, 0, .int (-c2), rfl, rfl, ha2, atI_nat (j := 0) rfl, _, _, rfl, rfl, ?_⟩
        refine ⟨_, rfl, _, n, hs, rfl, dp_same t10 dS8, S, fun H11 t11 => ?_⟩
        have t11 := t10.trans t11
        refine ⟨_, _, rfl, rfl, .inl (by omega), rfl, _, rfl, ?_⟩
        have ec : c2 = c1 - 50 * ((taken hs).sum - hs.sum) := min_shift hm1 hm2 fun x hx => f_back ST.ok hx hwn
        refine no_ (ne_no (i := c1 + -c2) (j := 50 * ((taken hs).sum - hs.sum)) (by omega)) ?_
        clear hv1 hv2 ha1 ha2 hm1 hm2 ec t9 t10
        -- cheapest with ones
        refine ⟨_, rfl, _, rfl, by show 1 ≤ sizeLine; decide, fun pt npt => ⟨_, rfl, pt, _, _, rfl, rfl, SqT.of upd_same, by simp, by omega, by omega, by simp, fun po Hm km hT => ?_⟩⟩
        rw [Int.toNat_natCast, rep_int] at hT
        have tm := (t11.trans (same_new npt)).trans km
        refine ⟨_, vT, _, n, hs, st, _, rfl, dp_same tm dS8, dp_same tm dT8, dp_tup hT, ST, wt_rep (by decide) (by decide), fun H12 v1 c1 r1 t12 hv1 hm1 => ?_⟩
        have t12' := tm.trans t12
        refine ⟨_, rfl, _, n, hs, rfl, dp_same t12' dS8, S, fun H13 t13 => ?_⟩
        have t13' := t12'.trans t13
        refine ⟨_, rfl, pR, _, 0, u0, rfl, rfl, SqL.of (t13' _ _ eR8), atI_nat (j := 0) hu0, by show 2 ≤ sizeLine; decide, fun pp npp => ?_⟩
        have kp := same_new (o := HO.tup [.int ((taken hs).sum - hs.sum), u0]) npp
        refine ⟨dP c1 r1, dP ((taken hs).sum - hs.sum) r0, dp_same (t13.trans kp) hv1, dp_pair upd_same (dp_same (t13'.trans kp) dU8), sh_P _ _, sh_P _ _, _, rfl, ?_⟩
        refine no_ (eqv_no (head_of hm1 hup (fun x hx => f_ones ST.ok hx) er)) ?_
        have t14 := t13'.trans kp
        revert t14
        generalize upd H13 pp (.tup [.int ((taken hs).sum - hs.sum), u0]) = H14
        intro t14
        clear kp hv1 hm1 hT tm t12 t12' t13 t13' km npt npp
        -- dearest with noughts
        refine ⟨_, rfl, _, rfl, by show 1 ≤ sizeLine; decide, fun pt npt => ⟨_, rfl, pt, _, _, rfl, rfl, SqT.of upd_same, by simp, by omega, by omega, by simp, fun po Hm km hT => ?_⟩⟩
        rw [Int.toNat_natCast, rep_int] at hT
        have tm := (t14.trans (same_new npt)).trans km
        refine ⟨_, vT, _, n, hs, st, _, rfl, dp_same tm dS8, dp_same tm dT8, dp_tup hT, ST, wt_rep (by decide) (by decide), fun H15 v1 c1 r1 t15 hv1 hm1 => ?_⟩
        have t15' := tm.trans t15
        refine ⟨_, rfl, pR, _, 0, u0, rfl, rfl, SqL.of (t15' _ _ eR8), atI_nat (j := 0) hu0, by show 2 ≤ sizeLine; decide, fun pp npp => ?_⟩
        have kp := same_new (o := HO.tup [.int 0, u0]) npp
        refine ⟨dP (-c1) r1, dP 0 r0, dp_same kp hv1, dp_pair upd_same (dp_same (t15'.trans kp) dU8), sh_P _ _, sh_P _ _, _, rfl, ?_⟩
        have hz := head_of (k := 0) hm1 hup (fun x hx => by rw [f_zeros ST.ok hx]; rfl) er
        refine no_ (eqv_no ⟨by rw [hz.1]; rfl, hz.2⟩) ?_
        have t16 := t15'.trans kp
        revert t16
        generalize upd H15 pp (.tup [.int 0, u0]) = H16
        intro t16
        clear kp hv1 hm1 hT tm t15 t15' km npt npp hz
        -- calls with ones
        refine ⟨_, rfl, _, rfl, by show 1 ≤ sizeLine; decide, fun pt npt => ⟨_, rfl, pt, _, _, rfl, rfl, SqT.of upd_same, by simp, by omega, by omega, by simp, fun po Hm km hT => ?_⟩⟩
        rw [Int.toNat_natCast, rep_int] at hT
        have tm := (t16.trans (same_new npt)).trans km
        refine ⟨_, vT, _, n, hs, st, _, rfl, dp_same tm dS8, dp_same tm dT8, dp_tup hT, ST, wt_rep (by decide) (by decide), fun H17 v1 c1 r1 t17 hv1 hm1 => ?_⟩
        obtain ⟨a1, u1, rfl, ha1, _⟩ := dP_inv hv1
        have t17' := tm.trans t17
        refine ⟨a1, _, 0, .int c1, rfl, rfl, ha1, atI_nat (j := 0) rfl, ?_⟩
        refine ⟨_, rfl, _, rfl, _, vT, n, hs, st, rfl, dp_same t17' dS8, dp_same t17' dT8, ST, fun H18 k18 t18 hF => ?_⟩
        have t18' := t17'.trans t18
        refine ⟨rfl, _, rfl, no_ (ne_no (i := c1) (j := k18) (few_min hF hm1 fun x => f_calls1 ST.ok x)) ?_⟩
        clear hv1 hm1 hT tm t17 t17' t18 km npt ha1 hF
        -- calls with noughts
        refine ⟨_, rfl, _, rfl, by show 1 ≤ sizeLine; decide, fun pt npt => ⟨_, rfl, pt, _, _, rfl, rfl, SqT.of upd_same, by simp, by omega, by omega, by simp, fun po Hm km hT => ?_⟩⟩
        rw [Int.toNat_natCast, rep_int] at hT
        have tm := (t18'.trans (same_new npt)).trans km
        refine ⟨_, vT, _, n, hs, st, _, rfl, dp_same tm dS8, dp_same tm dT8, dp_tup hT, ST, wt_rep (by decide) (by decide), fun H19 v1 c1 r1 t19 hv1 hm1 => ?_⟩
        have t19' := tm.trans t19
        refine ⟨_, rfl, pR, _, 0, u0, rfl, rfl, SqL.of (t19' _ _ eR8), atI_nat (j := 0) hu0, by show 2 ≤ sizeLine; decide, fun pp npp => ?_⟩
        have kp := same_new (o := HO.tup [.int 0, u0]) npp
        refine ⟨dP c1 r1, dP 0 r0, dp_same kp hv1, dp_pair upd_same (dp_same (t19'.trans kp) dU8), sh_P _ _, sh_P _ _, _, rfl, ?_⟩
        refine no_ (eqv_no (head_of hm1 hup (fun x hx => f_calls0 ST.ok x) er)) ?_
        have t20 := t19'.trans kp
        revert t20
        generalize upd H19 pp (.tup [.int 0, u0]) = H20
        intro t20
        clear kp hv1 hm1 hT tm t19 t19' km npt npp t18' t16 t14 t11
        -- fairest, squarest
        refine ⟨_, rfl, _, rfl, _, vT, n, hs, st, rfl, dp_same t20 dS8, dp_same t20 dT8, ST, fun H21 v1 cf rf t21 hv1 hmF => ?_⟩
        obtain ⟨af, uf, rfl, haf, huf⟩ := dP_inv hv1
        have t21 := t20.trans t21
        refine ⟨af, _, rfl, haf, rfl, _, _, rfl, _, _, rfl, rfl, ?_⟩
        refine ⟨_, rfl, _, rfl, _, vT, n, hs, st, rfl, dp_same t21 dS8, dp_same t21 dT8, ST, fun H22 v2 cq rq t22 hv2 hmQ => ?_⟩
        obtain ⟨aq, uq, rfl, haq, huq⟩ := dP_inv hv2
        have huf := dp_same t22 huf
        have t22 := t21.trans t22
        refine ⟨aq, _, rfl, haq, rfl, _, _, rfl, _, _, rfl, rfl, ?_⟩
        have dR22 : Dp K H22 (.ref pR) (.list ((restsIn hs st).map dT)) := .lst (SqL.of (t22 _ _ eR8)) (dpAll_same t22 dR8)
        refine ⟨_, rfl, _, rfl, dT rf, (restsIn hs st).map dT, huf, dR22, sh_T rf, sh_rows _, _, rfl, no_ (any_no hmF.mem) ?_⟩
        refine ⟨_, rfl, _, rfl, dT rq, (restsIn hs st).map dT, huq, dR22, sh_T rq, sh_rows _, _, rfl, no_ (any_no hmQ.mem) ?_⟩
        -- the bounds
        have hwb := way_bound ST hl5
        have hb1 : (taken hs).sum - hs.sum ≤ cf * (hs.length : Nat) := by
          rw [hmF.val]
          exact f_mx ST.ok hmF.mem hl1
        have hb2 : ((taken hs).sum - hs.sum) * ((taken hs).sum - hs.sum) ≤ cq * (hs.length : Nat) := by
          rw [hmQ.val]
          exact f_sq ST.ok hmQ.mem
        refine ⟨_, rfl, _, rfl, cf, _, rfl, rfl, .inr (by omega), _, rfl, _, n, hs, rfl, dp_same t22 dS8, S, fun H23 t23 => ?_⟩
        have t23 := t22.trans t23
        refine ⟨_, _, rfl, rfl, _, rfl, no_ (decide_eq_false (by show ¬ cf * ((hs.length : Nat) : Int) < (taken hs).sum - hs.sum; omega)) ?_⟩
        refine ⟨_, rfl, _, rfl, cq, _, rfl, rfl, .inr (by omega), _, rfl, _, n, hs, rfl, dp_same t23 dS8, S, fun H24 t24 => ?_⟩
        have t24 := t23.trans t24
        refine ⟨_, rfl, _, n, hs, rfl, dp_same t24 dS8, S, fun H25 t25 => ?_⟩
        have t25 := t24.trans t25
        refine ⟨_, _, rfl, rfl, .inl (by omega), _, _, rfl, rfl, _, rfl, no_ (decide_eq_false (by show ¬ cq * ((hs.length : Nat) : Int) < ((taken hs).sum - hs.sum) * ((taken hs).sum - hs.sum); omega)) ?_⟩
        clear hv1 hv2 haf haq hmF hmQ dR22 hb1 hb2 t21
        -- most_home
        refine ⟨_, rfl, _, rfl, _, vT, n, hs, st, rfl, dp_same t25 dS8, dp_same t25 dT8, ST, fun H26 v1 ch rh t26 hv1 hmH => ?_⟩
        obtain ⟨ah, uh, rfl, hah, huh⟩ := dP_inv hv1
        have t26 := t25.trans t26
        obtain ⟨bh, rfl, hbh⟩ := dT_inv huh
        refine ⟨ah, _, rfl, hah, rfl, _, _, rfl, _, _, rfl, rfl, ?_⟩
        obtain ⟨a', b', ea, ha8, hb8⟩ := dS_inv dS8
        cases ea
        have rhl := rest_len ST.ok hmH.mem
        refine ⟨_, rfl, _, rfl, by omega, by omega, fun D3 nD3 => ?_⟩
        refine lc_range (lo := 0) (fun i H' => Same H26 H' ∧ H' D3 = some (.lst (((List.range i).filter fun c => decide (rh.getD c 0 = hs.getD c 0)).map fun c => V.int (c : Nat)))) ⟨same_new nD3, upd_same⟩ (fun i H27 hi hP => ?_) (fun H27 hP => ?_)
        · obtain ⟨s27, e27⟩ := hP
          rw [Int.toNat_natCast] at hi
          have ei : (0 : Int) + (i : Nat) = (i : Nat) := Int.zero_add _
          have t27 := t26.trans s27
          have esn : ((List.range (i + 1)).filter fun c => decide (rh.getD c 0 = hs.getD c 0)) = ((List.range i).filter fun c => decide (rh.getD c 0 = hs.getD c 0)) ++ (if rh.getD i 0 = hs.getD i 0 then [i] else []) := by
            rw [List.range_succ, List.filter_append]
            congr 1
            rw [List.filter_cons]
            by_cases z : rh.getD i 0 = hs.getD i 0
            · rw [if_pos z, if_pos (decide_eq_true z)]
              rfl
            · rw [if_neg z, if_neg (fun q => z (of_decide_eq_true q))]
              rfl
          refine ⟨rfl, ?_⟩
          refine ⟨_, rfl, _, rfl, bh, _, _, .int (rh.getD i 0), rfl, rfl, sqT_same s27 hbh, by rw [ei]; exact atI_nat (ints_get (get_D (by omega))), ?_⟩
          refine ⟨_, rfl, a, _, 1, .ref b', rfl, rfl, sqT_same t27 ha8, atI_nat (j := 1) rfl, _, rfl, b', _, _, .int (hs.getD i 0), rfl, rfl, sqT_same t27 hb8, by rw [ei]; exact atI_nat (ints_get (get_D hi)), rfl, _, rfl, ite2 (fun e1 => ?_) (fun e1 => ?_)⟩
          · have e1 : rh.getD i 0 = hs.getD i 0 := V.int.inj (of_decide_eq_true e1)
            refine ⟨_, rfl, _, e27, ?_, same_put s27 nD3, ?_⟩
            · rw [List.length_map]
              have := List.length_filter_le (fun c => decide (rh.getD c 0 = hs.getD c 0)) (List.range i)
              rw [List.length_range] at this
              exact small1000 (by omega)
            · rw [upd_same, esn, if_pos e1, List.map_append, ei]
              rfl
          · have e1 : ¬ rh.getD i 0 = hs.getD i 0 := fun z => e1 (decide_eq_true (congrArg V.int z))
            refine ⟨s27, ?_⟩
            rw [esn, if_neg e1, List.append_nil]
            exact e27
        · obtain ⟨s27, e27⟩ := hP
          rw [Int.toNat_natCast] at e27
          have t27 := t26.trans s27
          have ehome : ((((List.range hs.length).filter fun c => decide (rh.getD c 0 = hs.getD c 0)).map fun c => V.int (c : Nat)).length : Int) = -ch := by
            have h1 := home_count rhl
            have h2 := hmH.val
            rw [List.length_map]
            unfold atHome at h1
            have h2 : ch = -((ways hs rh).count 0 : Nat) := h2
            omega
          refine ⟨D3, _, rfl, .inl (SqL.of e27), _, rfl, rfl, _, rfl, no_ (ne_no (i := ((((List.range hs.length).filter fun c => decide (rh.getD c 0 = hs.getD c 0)).map fun c => V.int (c : Nat)).length : Int)) (j := -ch) ehome) ?_⟩
          clear ehome e27
          refine ⟨_, rfl, _, rfl, by omega, by omega, ?_⟩
          refine for_range (lo := 0) (fun i σ H' => (∃ y14 y15, σ = [some (.ref sp), some (.ref rw), some (.ref a), some (.int (hs.length : Nat)), some vT, some (.ref pR), some (.ref lw), some (.ref lb), some (.int cf), some uf, some (.int cq), some uq, some (.int (-ch)), some (.ref bh), y14, y15, none, none]) ∧ Same H27 H')
            ⟨⟨_, _, rfl⟩, Same.refl _⟩ (fun i σ H28 hi hP => ?_) (fun σ H28 hP => ?_)
          · obtain ⟨⟨y14, y15, rfl⟩, s28⟩ := hP
            rw [Int.toNat_natCast] at hi
            have ei : (0 : Int) + (i : Nat) = (i : Nat) := Int.zero_add _
            rw [ei]
            have t28 := t27.trans s28
            refine ⟨_, rfl, _, rfl, by omega, by omega, fun D4 nD4 => ?_⟩
            refine lc_range (lo := 0) (fun k H' => Same H28 H' ∧ H' D4 = some (.lst (((List.range k).map fun j => if j = i then (1 : Int) else 0).map V.int))) ⟨same_new nD4, upd_same⟩ (fun k H29 hk hP => ?_) (fun H29 hP => ?_)
            · obtain ⟨s29, e29⟩ := hP
              rw [Int.toNat_natCast] at hk
              refine ⟨rfl, yes_ ?_⟩
              refine ⟨_, rfl, _, rfl, rfl, .inr ⟨_, rfl, _, e29, ?_, same_put s29 nD4, ?_⟩⟩
              · rw [List.length_map, List.length_map, List.length_range]
                exact small1000 (by omega)
              · have ek : (if decide (V.int (0 + (k : Nat)) = V.int (i : Nat)) = true then (1 : Int) else 0) = if k = i then (1 : Int) else 0 := by
                  by_cases z : k = i
                  · rw [z, Int.zero_add, decide_eq_true rfl, if_pos rfl, if_pos rfl]
                  · rw [if_neg z, if_neg (fun q => z (by
                      have q := V.int.inj (of_decide_eq_true q)
                      omega))]
                rw [upd_same, List.range_succ, List.map_append, List.map_append]
                show some (HO.lst (_ ++ [V.int (if decide (V.int (0 + (k : Nat)) = V.int (i : Nat)) = true then (1 : Int) else 0)])) = _
                rw [ek]
                rfl
            · obtain ⟨s29, e29⟩ := hP
              rw [Int.toNat_natCast] at e29
              refine ⟨D4, _, rfl, .inl ⟨SqL.of e29, fun la nla => ?_⟩⟩
              have k30 : Same H29 (upd H29 la (.tup ((alone hs.length i).map V.int))) := same_new nla
              have hA : Dp K (upd H29 la (.tup ((alone hs.length i).map V.int))) (.ref la) (dT (alone hs.length i)) := dp_tup (SqT.of upd_same)
              have s30 := s29.trans k30
              show tSeq _ _ _ _ (upd H29 la (.tup ((alone hs.length i).map V.int)))
              revert s30 hA
              generalize upd H29 la (.tup ((alone hs.length i).map V.int)) = H30
              intro hA s30
              have t30 := t28.trans s30
              refine ⟨_, rfl, _, rfl, _, rfl, _, vT, n, hs, st, i, rfl, dp_same t30 dS8, dp_same t30 dT8, ST, hi, fun H31 v1 c1 r1 t31 hv1 hm1 => ?_⟩
              obtain ⟨a1, u1, rfl, ha1, _⟩ := dP_inv hv1
              have t31' := t30.trans t31
              refine ⟨a1, _, 0, .int c1, rfl, rfl, ha1, atI_nat (j := 0) rfl, ?_⟩
              refine ⟨_, rfl, a, _, 1, .ref b', rfl, rfl, sqT_same t31' ha8, atI_nat (j := 1) rfl, _, rfl, b', _, _, .int (hs.getD i 0), rfl, rfl, sqT_same t31' hb8, atI_nat (ints_get (get_D hi)), _, _, rfl, rfl, ?_⟩
              refine ⟨_, rfl, _, rfl, _, rfl, _, vT, _, n, hs, st, _, rfl, dp_same t31' dS8, dp_same t31' dT8, dp_same t31 hA, ST, wt_alone hs i, fun H32 v2 c2 r2 t32 hv2 hm2 => ?_⟩
              obtain ⟨a2, u2, rfl, ha2, _⟩ := dP_inv hv2
              have t32' := t31'.trans t32
              have e1 : c2 = c1 - hs.getD i 0 := min_shift hm1 hm2 fun x hx => f_alone ST.ok hx hi
              refine ⟨a2, _, 0, .int c2, rfl, rfl, ha2, atI_nat (j := 0) rfl, rfl, _, rfl, no_ (ne_no (i := c1 - hs.getD i 0) (j := c2) e1.symm) ?_⟩
              refine ⟨_, rfl, _, rfl, _, rfl, _, vT, n, hs, st, i, rfl, dp_same t32' dS8, dp_same t32' dT8, ST, hi, fun H33 v3 c3 r3 t33 hv3 hm3 => ?_⟩
              obtain ⟨a3, u3, rfl, ha3, _⟩ := dP_inv hv3
              have t33' := t32'.trans t33
              refine ⟨a3, _, 0, .int (-c3), rfl, rfl, ha3, atI_nat (j := 0) rfl, ?_⟩
              refine ⟨_, rfl, a, _, 1, .ref b', rfl, rfl, sqT_same t33' ha8, atI_nat (j := 1) rfl, _, rfl, b', _, _, .int (hs.getD i 0), rfl, rfl, sqT_same t33' hb8, atI_nat (ints_get (get_D hi)), _, _, rfl, rfl, ?_⟩
              refine ⟨_, rfl, _, rfl, _, rfl, _, vT, _, n, hs, st, _, rfl, dp_same t33' dS8, dp_same t33' dT8, dp_same ((t31.trans t32).trans t33) hA, ST, wt_alone hs i, fun H34 v4 c4 r4 t34 hv4 hm4 => ?_⟩
              obtain ⟨a4, u4, rfl, ha4, _⟩ := dP_inv hv4
              have e2 : c4 = c3 - -(hs.getD i 0) := min_shift hm3 hm4 fun x hx => by
                have := f_alone ST.ok hx hi
                omega
              refine ⟨a4, _, 0, .int (-c4), rfl, rfl, ha4, atI_nat (j := 0) rfl, rfl, _, rfl, no_ (ne_no (i := -c3 - hs.getD i 0) (j := -c4) (by omega)) ?_⟩
              exact ⟨⟨_, _, rfl⟩, (((s28.trans s30).trans t31).trans t32).trans (t33.trans t34)⟩
          · obtain ⟨⟨y14, y15, rfl⟩, s28⟩ := hP
            have t28 := t27.trans s28
            refine ⟨_, rfl, _, rfl, _, vT, n, hs, st, rfl, dp_same t28 dS8, dp_same t28 dT8, ST, fun H29 t29 => ?_⟩
            refine ⟨_, 0, rfl, rfl, ?_⟩
            have hz : decide ((0 : Int) ≤ st.sum - (taken hs).sum) = true := decide_eq_true (slack_nn ST.ok)
            show Q (.bl (decide ((0 : Int) ≤ st.sum - (taken hs).sum))) H29
            rw [hz]
            exact q _
end
end Pk
/-! Parkback: facts by names, the end. -/
namespace Pk
open PySem PySem.Spec PyProof.Rows L2
theorem facts {P : Program} {w : World} {K : PySem.W.Frag} {h : Heap} {mg : Str → Option Value} {f : Addr} (X : K.In h) (G : h.Ns mainGlobals mg) (hfa : mg ("law" : Str) = some (.ref f)) (c : He.SaysD fa fn K) :
    ∃ fd : FuncData, (∀ (s : Shared) (v : Value), BindsTo s fd ⟨[v], []⟩ [("_law_script", v)]) ∧ ∀ base : Heap, K.In base → base.Ns mainGlobals mg → FnOk P w K mg base CX0 6 f fd ["_law_script"] (spLaw K) := by
  obtain ⟨fd, F⟩ := c.def_ 30 (d := dLaw) rfl
  have e := hfa.symm.trans (He.glo_ok X G (c.fact 30 (f := .glo "law") rfl))
  cases e
  have b := FunD.bindsA (ps := ["_law_script"]) F fun _ _ _ _ _ _ us hl => match us, hl with | [_], _ => rfl
  have FIsInteger : Fd K mg "is_integer" sIsInteger := by
    obtain ⟨fd, F⟩ := c.def_ 0 (d := dIsInteger) rfl
    exact ⟨_, fd, He.glo_ok X G (c.fact 0 (f := .glo "is_integer") rfl), F⟩
  have FIsIn : Fd K mg "is_in" sIsIn := by
    obtain ⟨fd, F⟩ := c.def_ 1 (d := dIsIn) rfl
    exact ⟨_, fd, He.glo_ok X G (c.fact 1 (f := .glo "is_in") rfl), F⟩
  have FIsList : Fd K mg "is_list" sIsList := by
    obtain ⟨fd, F⟩ := c.def_ 2 (d := dIsList) rfl
    exact ⟨_, fd, He.glo_ok X G (c.fact 2 (f := .glo "is_list") rfl), F⟩
  have FHasRoom : Fd K mg "has_room" sHasRoom := by
    obtain ⟨fd, F⟩ := c.def_ 3 (d := dHasRoom) rfl
    exact ⟨_, fd, He.glo_ok X G (c.fact 3 (f := .glo "has_room") rfl), F⟩
  have FNeedStreet : Fd K mg "need_street" sNeedStreet := by
    obtain ⟨fd, F⟩ := c.def_ 4 (d := dNeedStreet) rfl
    exact ⟨_, fd, He.glo_ok X G (c.fact 4 (f := .glo "need_street") rfl), F⟩
  have FNeedPlaces : Fd K mg "need_places" sNeedPlaces := by
    obtain ⟨fd, F⟩ := c.def_ 5 (d := dNeedPlaces) rfl
    exact ⟨_, fd, He.glo_ok X G (c.fact 5 (f := .glo "need_places") rfl), F⟩
  have FNeedState : Fd K mg "need_state" sNeedState := by
    obtain ⟨fd, F⟩ := c.def_ 6 (d := dNeedState) rfl
    exact ⟨_, fd, He.glo_ok X G (c.fact 6 (f := .glo "need_state") rfl), F⟩
  have FNeedCar : Fd K mg "need_car" sNeedCar := by
    obtain ⟨fd, F⟩ := c.def_ 7 (d := dNeedCar) rfl
    exact ⟨_, fd, He.glo_ok X G (c.fact 7 (f := .glo "need_car") rfl), F⟩
  have FTakenIn : Fd K mg "taken_in" sTakenIn := by
    obtain ⟨fd, F⟩ := c.def_ 8 (d := dTakenIn) rfl
    exact ⟨_, fd, He.glo_ok X G (c.fact 8 (f := .glo "taken_in") rfl), F⟩
  have FRestWay : Fd K mg "rest_way" sRestWay := by
    obtain ⟨fd, F⟩ := c.def_ 9 (d := dRestWay) rfl
    exact ⟨_, fd, He.glo_ok X G (c.fact 9 (f := .glo "rest_way") rfl), F⟩
  have FRestsIn : Fd K mg "rests_in" sRestsIn := by
    obtain ⟨fd, F⟩ := c.def_ 10 (d := dRestsIn) rfl
    exact ⟨_, fd, He.glo_ok X G (c.fact 10 (f := .glo "rests_in") rfl), F⟩
  have FRestsFrom : Fd K mg "rests_from" sRestsFrom := by
    obtain ⟨fd, F⟩ := c.def_ 11 (d := dRestsFrom) rfl
    exact ⟨_, fd, He.glo_ok X G (c.fact 11 (f := .glo "rests_from") rfl), F⟩
  have FUnlike : Fd K mg "unlike" sUnlike := by
    obtain ⟨fd, F⟩ := c.def_ 12 (d := dUnlike) rfl
    exact ⟨_, fd, He.glo_ok X G (c.fact 12 (f := .glo "unlike") rfl), F⟩
  have FStaysIn : Fd K mg "stays_in" sStaysIn := by
    obtain ⟨fd, F⟩ := c.def_ 13 (d := dStaysIn) rfl
    exact ⟨_, fd, He.glo_ok X G (c.fact 13 (f := .glo "stays_in") rfl), F⟩
  have FCallsToRest : Fd K mg "calls_to_rest" sCallsToRest := by
    obtain ⟨fd, F⟩ := c.def_ 14 (d := dCallsToRest) rfl
    exact ⟨_, fd, He.glo_ok X G (c.fact 14 (f := .glo "calls_to_rest") rfl), F⟩
  have FWaysOf : Fd K mg "ways_of" sWaysOf := by
    obtain ⟨fd, F⟩ := c.def_ 15 (d := dWaysOf) rfl
    exact ⟨_, fd, He.glo_ok X G (c.fact 15 (f := .glo "ways_of") rfl), F⟩
  have FFairest : Fd K mg "fairest" sFairest := by
    obtain ⟨fd, F⟩ := c.def_ 16 (d := dFairest) rfl
    exact ⟨_, fd, He.glo_ok X G (c.fact 16 (f := .glo "fairest") rfl), F⟩
  have FSquarest : Fd K mg "squarest" sSquarest := by
    obtain ⟨fd, F⟩ := c.def_ 17 (d := dSquarest) rfl
    exact ⟨_, fd, He.glo_ok X G (c.fact 17 (f := .glo "squarest") rfl), F⟩
  have FNeedWeights : Fd K mg "need_weights" sNeedWeights := by
    obtain ⟨fd, F⟩ := c.def_ 18 (d := dNeedWeights) rfl
    exact ⟨_, fd, He.glo_ok X G (c.fact 18 (f := .glo "need_weights") rfl), F⟩
  have FCheapest : Fd K mg "cheapest" sCheapest := by
    obtain ⟨fd, F⟩ := c.def_ 19 (d := dCheapest) rfl
    exact ⟨_, fd, He.glo_ok X G (c.fact 19 (f := .glo "cheapest") rfl), F⟩
  have FDearest : Fd K mg "dearest" sDearest := by
    obtain ⟨fd, F⟩ := c.def_ 20 (d := dDearest) rfl
    exact ⟨_, fd, He.glo_ok X G (c.fact 20 (f := .glo "dearest") rfl), F⟩
  have FCheapestCalls : Fd K mg "cheapest_calls" sCheapestCalls := by
    obtain ⟨fd, F⟩ := c.def_ 21 (d := dCheapestCalls) rfl
    exact ⟨_, fd, He.glo_ok X G (c.fact 21 (f := .glo "cheapest_calls") rfl), F⟩
  have FMostHome : Fd K mg "most_home" sMostHome := by
    obtain ⟨fd, F⟩ := c.def_ 22 (d := dMostHome) rfl
    exact ⟨_, fd, He.glo_ok X G (c.fact 22 (f := .glo "most_home") rfl), F⟩
  have FBestFor : Fd K mg "best_for" sBestFor := by
    obtain ⟨fd, F⟩ := c.def_ 23 (d := dBestFor) rfl
    exact ⟨_, fd, He.glo_ok X G (c.fact 23 (f := .glo "best_for") rfl), F⟩
  have FWorstFor : Fd K mg "worst_for" sWorstFor := by
    obtain ⟨fd, F⟩ := c.def_ 24 (d := dWorstFor) rfl
    exact ⟨_, fd, He.glo_ok X G (c.fact 24 (f := .glo "worst_for") rfl), F⟩
  have FSlack : Fd K mg "slack" sSlack := by
    obtain ⟨fd, F⟩ := c.def_ 25 (d := dSlack) rfl
    exact ⟨_, fd, He.glo_ok X G (c.fact 25 (f := .glo "slack") rfl), F⟩
  have FLawTaken : Fd K mg "_law_taken" sLawTaken := by
    obtain ⟨fd, F⟩ := c.def_ 26 (d := dLawTaken) rfl
    exact ⟨_, fd, He.glo_ok X G (c.fact 26 (f := .glo "_law_taken") rfl), F⟩
  have FLawPick : Fd K mg "_law_pick" sLawPick := by
    obtain ⟨fd, F⟩ := c.def_ 27 (d := dLawPick) rfl
    exact ⟨_, fd, He.glo_ok X G (c.fact 27 (f := .glo "_law_pick") rfl), F⟩
  have FLawStreet : Fd K mg "_law_street" sLawStreet := by
    obtain ⟨fd, F⟩ := c.def_ 28 (d := dLawStreet) rfl
    exact ⟨_, fd, He.glo_ok X G (c.fact 28 (f := .glo "_law_street") rfl), F⟩
  have FLawState : Fd K mg "_law_state" sLawState := by
    obtain ⟨fd, F⟩ := c.def_ 29 (d := dLawState) rfl
    exact ⟨_, fd, He.glo_ok X G (c.fact 29 (f := .glo "_law_state") rfl), F⟩
  have B : Bi mg := ⟨He.free_ok X G (c.fact 33 (f := .free "isinstance") rfl), He.free_ok X G (c.fact 34 (f := .free "int") rfl), He.free_ok X G (c.fact 35 (f := .free "bool") rfl), He.free_ok X G (c.fact 36 (f := .free "tuple") rfl), He.free_ok X G (c.fact 37 (f := .free "len") rfl), He.free_ok X G (c.fact 38 (f := .free "all") rfl), He.free_ok X G (c.fact 39 (f := .free "range") rfl), He.free_ok X G (c.fact 40 (f := .free "enumerate") rfl), He.free_ok X G (c.fact 41 (f := .free "sorted") rfl), He.free_ok X G (c.fact 42 (f := .free "sum") rfl), He.free_ok X G (c.fact 43 (f := .free "zip") rfl), He.free_ok X G (c.fact 44 (f := .free "max") rfl), He.free_ok X G (c.fact 45 (f := .free "min") rfl)⟩
  have C : Ct mg := ⟨He.int_ok X G (c.fact 31 (f := .int "MOST_PLACES" 12) rfl), He.int_ok X G (c.fact 32 (f := .int "MOST_CARS" 7) rfl)⟩
  refine ⟨fd, fun s v => b s [v] rfl, fun base _ _ => ?_⟩
  have D0 : Dn P w K mg base "is_integer" ["value"] 1 spIsInteger := dn_isInteger FIsInteger B
  have DI : DnInt P w K mg base := dn_isIn FIsIn D0
  have DL : DnLst P w K mg base := dn_isList FIsList B
  have DRoom := dn_hasRoom (P := P) (w := w) (base := base) FHasRoom B
  have DStreet := dn_needStreet FNeedStreet B C DI DL DRoom
  have DPlaces := dn_needPlaces FNeedPlaces B DI DL
  have DS := dn_needState FNeedState DStreet DPlaces
  have DC := dn_needCar FNeedCar B DI
  have DT := dn_needWeights FNeedWeights B DI DL
  have DTk := dn_takenIn (P := P) (w := w) (base := base) FTakenIn B
  have DWay := dn_restWay FRestWay B DStreet DTk
  have DR := dn_restsIn FRestsIn B DTk
  have DF := dn_restsFrom FRestsFrom DS DR
  have DU := dn_unlike (P := P) (w := w) (base := base) FUnlike B
  have DSt := dn_staysIn FStaysIn B DTk
  have DW := dn_waysOf (P := P) (w := w) (base := base) FWaysOf B
  have DLt := dn_lawTaken (P := P) (w := w) (base := base) FLawTaken B
  have DLp := dn_lawPick FLawPick B DLt
  exact ok_law F B ⟨DLt, dn_lawStreet FLawStreet B DLt, dn_lawState FLawState B DLp, DF, DWay, dn_slack FSlack B DS DTk, dn_cheapest FCheapest B DS DR DT DW, dn_dearest FDearest B DS DR DT DW, dn_cheapestCalls FCheapestCalls B DS DR DT DU,
    dn_callsToRest FCallsToRest B DS DSt, dn_fairest FFairest B DS DR DW, dn_squarest FSquarest B DS DR DW, dn_mostHome FMostHome B DS DR DW, dn_bestFor FBestFor B DS DR DC, dn_worstFor FWorstFor B DS DR DC⟩
end Pk
open PySem PySem.W PySem.Calls PyProof.Rows
theorem PySem.Challenge.cw_parkback_k75_whole_picks_compared_holds : PySem.Challenge.rw_parkback_k75_whole_picks_compared.Holds := by
  w_on; o_law
  refine HandSHeadRun.head_any (r := OpenLaw.row PySem.Challenge.rw_parkback_k75_whole_picks_compared) (q := view (OpenLaw.row PySem.Challenge.rw_parkback_k75_whole_picks_compared).prog [45]) (H := Pk.hk) (ob := Pk.ob) (M := 4000) (loose := Pk.loose) (d := HandSHeadRun.topDef (OpenLaw.row PySem.Challenge.rw_parkback_k75_whole_picks_compared).prog 45) (kwd := []) Pk.ob_eq
    (by kernel_rfl) (fun s => by kernel_rfl) Pk.run (by kernel_rfl) (by kernel_rfl) (by kernel_rfl) (by rfl) (by first | assumption | decide +kernel) (by decide +kernel) ⟨rfl, rfl, rfl, rfl, rfl, by decide +kernel⟩ ?hw ?hc
  case hw => w_witness2
  case hc =>
    refine L2.walk_ofE (l := PySem.Challenge.rw_parkback_k75_whole_picks_compared) (n := 63) (k := 6) (x := "_law_script") (CX := L2.CX0) rfl (by decide) (by kernel_rfl) ⟨rfl, by decide, by decide⟩ ?F (fun _ _ _ _ z => z)
    intro w mg fa h Y G hmg0
    obtain ⟨K, KX, c⟩ := Y
    have hmg : mg ("law" : PySem.Str) = some (.ref fa) := by
      have e : (HandSHeadRun.topDef (OpenLaw.row PySem.Challenge.rw_parkback_k75_whole_picks_compared).prog 45).name = ("law" : PySem.Str) := by kernel_rfl
      rw [← e]
      exact hmg0
    obtain ⟨fd, hb, hF⟩ := Pk.facts (P := (PySem.Challenge.rw_parkback_k75_whole_picks_compared).prog) (w := w) KX G hmg c
    exact ⟨K, fd, Pk.spLaw K, KX, hb, fun H a ns hl _ hS => ⟨a, ns, rfl, hS, fun _ => rfl⟩, hF⟩
