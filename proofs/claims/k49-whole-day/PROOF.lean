import PyProof.Rows.All
import Wide.All
import OpenK.AllK
import Wide.FinOn
import HandS.ForMost
import HandS.Defaults
import PySem.Challenge.RW_fleetpath_k49_whole_day_of_cars
import KE.KStateDown
import Lean
import HandS.Head0
import HandS.Head1
import HandS.Head2
import HandS.HeadWalk
import HandS.HeadHook4
import HandS.ExcInit
import HandS.ExcField
import HandS.Evl
import HandS.Walk
import HandS.DictTup
import HandS.SortInts
import HandS.IsInst
import HandS.HotCalls
import HandS.CallSlots
import HandS.TryOnly
import HandS.WordsExc
import HandS.HeadHook1
import HandS.HeadHook2
import HandS.Lambda
import HandS.More
import HandS.Nested
import KE.SortKeyHeap
import HandS.SortKw
import HandS.Conv
import KE.DatumOrd
import KE.KDictZip
import HandS.ExcCtx
import HandS.SuiteRaise
import PyProof.Rows.StrMeet
import PyProof.P3Eq
import HandS.Comp
import KE.KDictList
import HandS.Strs
set_option Elab.async false
set_option linter.all false
set_option maxRecDepth 100000
set_option maxHeartbeats 0
/-! K49Text -/
/-! The text by places. -/
namespace K49
open PySem L2
def top (i : Nat) : Stmt := PySem.Challenge.pw_fleetpath_k49_whole_day_of_cars.main.body.getD i (.Pass ⟨0, 0, 0, 0⟩)
abbrev s_gap : Stmt := top 11
abbrev s_linked : Stmt := top 12
abbrev s_links : Stmt := top 13
abbrev s_check_place : Stmt := top 17
abbrev s_check_links : Stmt := top 18
abbrev s_check_row : Stmt := top 19
abbrev s_minutes_between : Stmt := top 20
abbrev s_block_length : Stmt := top 21
abbrev s_cut : Stmt := top 22
abbrev s_leg_of : Stmt := top 23
abbrev s_legs : Stmt := top 24
abbrev s_checked_name : Stmt := top 28
abbrev s_checked_number : Stmt := top 29
abbrev s_check_rows : Stmt := top 32
abbrev s_find_one : Stmt := top 33
abbrev s_owners_of : Stmt := top 34
abbrev s_matching : Stmt := top 35
abbrev s_reached : Stmt := top 36
abbrev s_cover : Stmt := top 37
abbrev s_lacking : Stmt := top 38
abbrev s_TooFew_init : Stmt := inClass (top 40) 0
abbrev s_dealt : Stmt := top 41
abbrev s_check_cars : Stmt := top 42
abbrev s_fit_cars : Stmt := top 43
abbrev s_give_cars : Stmt := top 44
abbrev s_check_behind : Stmt := top 48
abbrev s_check_order : Stmt := top 49
abbrev s_chains : Stmt := top 50
abbrev s_apart : Stmt := top 51
abbrev s_check_roads : Stmt := top 55
abbrev s_heights_from : Stmt := top 56
abbrev s_Roads_init : Stmt := inClass (top 58) 0
abbrev s_Roads_names : Stmt := inClass (top 58) 1
abbrev s_Roads_length : Stmt := inClass (top 58) 3
abbrev s_check_trip : Stmt := top 63
abbrev s_Table_init : Stmt := inClass (top 64) 0
abbrev s_Table_names : Stmt := inClass (top 64) 1
abbrev s_Table_trip : Stmt := inClass (top 64) 2
abbrev s_l_draw : Stmt := top 66
abbrev s_l_name : Stmt := top 67
abbrev s_l_ways : Stmt := top 68
abbrev s_l_lengths : Stmt := top 69
abbrev s_l_trips : Stmt := top 70
abbrev s_l_linked : Stmt := top 71
abbrev s_l_length : Stmt := top 72
abbrev s_l_rows : Stmt := top 73
abbrev s_l_apart : Stmt := top 74
abbrev s_l_like : Stmt := top 75
abbrev s_l_few : Stmt := top 76
abbrev s_l_given : Stmt := top 77
abbrev s_l_cars : Stmt := top 78
abbrev s_l_blocks : Stmt := top 79
abbrev s_l_legs : Stmt := top 80
abbrev s_law : Stmt := top 81
end K49
/-! K49Head -/
/-! The head: facts by names, the run. -/
namespace K49H
open PySem PySem.Spec PyProof.Rows L2 K49
def d_gap : He.DefD := ⟨("gap", none), "gap", "gap", defArgs s_gap, defBody s_gap, defScope s_gap, [], []⟩
def d_linked : He.DefD := ⟨("linked", none), "linked", "linked", defArgs s_linked, defBody s_linked, defScope s_linked, [], []⟩
def d_links : He.DefD := ⟨("links", none), "links", "links", defArgs s_links, defBody s_links, defScope s_links, [], []⟩
def d_check_place : He.DefD := ⟨("check_place", none), "check_place", "check_place", defArgs s_check_place, defBody s_check_place, defScope s_check_place, [], []⟩
def d_check_links : He.DefD := ⟨("check_links", none), "check_links", "check_links", defArgs s_check_links, defBody s_check_links, defScope s_check_links, [], []⟩
def d_check_row : He.DefD := ⟨("check_row", none), "check_row", "check_row", defArgs s_check_row, defBody s_check_row, defScope s_check_row, [], []⟩
def d_minutes_between : He.DefD := ⟨("minutes_between", none), "minutes_between", "minutes_between", defArgs s_minutes_between, defBody s_minutes_between, defScope s_minutes_between, [], []⟩
def d_block_length : He.DefD := ⟨("block_length", none), "block_length", "block_length", defArgs s_block_length, defBody s_block_length, defScope s_block_length, [], []⟩
def d_cut : He.DefD := ⟨("cut", none), "cut", "cut", defArgs s_cut, defBody s_cut, defScope s_cut, [], []⟩
def d_leg_of : He.DefD := ⟨("leg_of", none), "leg_of", "leg_of", defArgs s_leg_of, defBody s_leg_of, defScope s_leg_of, [], []⟩
def d_legs : He.DefD := ⟨("legs", none), "legs", "legs", defArgs s_legs, defBody s_legs, defScope s_legs, [], []⟩
def d_checked_name : He.DefD := ⟨("checked_name", none), "checked_name", "checked_name", defArgs s_checked_name, defBody s_checked_name, defScope s_checked_name, [], []⟩
def d_checked_number : He.DefD := ⟨("checked_number", none), "checked_number", "checked_number", defArgs s_checked_number, defBody s_checked_number, defScope s_checked_number, [], []⟩
def d_check_rows : He.DefD := ⟨("check_rows", none), "check_rows", "check_rows", defArgs s_check_rows, defBody s_check_rows, defScope s_check_rows, [], []⟩
def d_find_one : He.DefD := ⟨("find_one", none), "find_one", "find_one", defArgs s_find_one, defBody s_find_one, defScope s_find_one, [], []⟩
def d_owners_of : He.DefD := ⟨("owners_of", none), "owners_of", "owners_of", defArgs s_owners_of, defBody s_owners_of, defScope s_owners_of, [], []⟩
def d_matching : He.DefD := ⟨("matching", none), "matching", "matching", defArgs s_matching, defBody s_matching, defScope s_matching, [], []⟩
def d_reached : He.DefD := ⟨("reached", none), "reached", "reached", defArgs s_reached, defBody s_reached, defScope s_reached, [], []⟩
def d_cover : He.DefD := ⟨("cover", none), "cover", "cover", defArgs s_cover, defBody s_cover, defScope s_cover, [], []⟩
def d_lacking : He.DefD := ⟨("lacking", none), "lacking", "lacking", defArgs s_lacking, defBody s_lacking, defScope s_lacking, [], []⟩
def d_TooFew_init : He.DefD := ⟨("TooFew", some "__init__"), "__init__", "TooFew.__init__", defArgs s_TooFew_init, defBody s_TooFew_init, defScope s_TooFew_init, [], []⟩
def d_dealt : He.DefD := ⟨("dealt", none), "dealt", "dealt", defArgs s_dealt, defBody s_dealt, defScope s_dealt, [], []⟩
def d_check_cars : He.DefD := ⟨("check_cars", none), "check_cars", "check_cars", defArgs s_check_cars, defBody s_check_cars, defScope s_check_cars, [], []⟩
def d_fit_cars : He.DefD := ⟨("fit_cars", none), "fit_cars", "fit_cars", defArgs s_fit_cars, defBody s_fit_cars, defScope s_fit_cars, [], []⟩
def d_give_cars : He.DefD := ⟨("give_cars", none), "give_cars", "give_cars", defArgs s_give_cars, defBody s_give_cars, defScope s_give_cars, [], []⟩
def d_check_behind : He.DefD := ⟨("check_behind", none), "check_behind", "check_behind", defArgs s_check_behind, defBody s_check_behind, defScope s_check_behind, [], []⟩
def d_check_order : He.DefD := ⟨("check_order", none), "check_order", "check_order", defArgs s_check_order, defBody s_check_order, defScope s_check_order, [], []⟩
def d_chains : He.DefD := ⟨("chains", none), "chains", "chains", defArgs s_chains, defBody s_chains, defScope s_chains, [], []⟩
def d_apart : He.DefD := ⟨("apart", none), "apart", "apart", defArgs s_apart, defBody s_apart, defScope s_apart, [], []⟩
def d_check_roads : He.DefD := ⟨("check_roads", none), "check_roads", "check_roads", defArgs s_check_roads, defBody s_check_roads, defScope s_check_roads, [], []⟩
def d_heights_from : He.DefD := ⟨("heights_from", none), "heights_from", "heights_from", defArgs s_heights_from, defBody s_heights_from, defScope s_heights_from, [], []⟩
def d_Roads_init : He.DefD := ⟨("Roads", some "__init__"), "__init__", "Roads.__init__", defArgs s_Roads_init, defBody s_Roads_init, defScope s_Roads_init, [], []⟩
def d_Roads_names : He.DefD := ⟨("Roads", some "names"), "names", "Roads.names", defArgs s_Roads_names, defBody s_Roads_names, defScope s_Roads_names, [], []⟩
def d_Roads_length : He.DefD := ⟨("Roads", some "length"), "length", "Roads.length", defArgs s_Roads_length, defBody s_Roads_length, defScope s_Roads_length, [], []⟩
def d_check_trip : He.DefD := ⟨("check_trip", none), "check_trip", "check_trip", defArgs s_check_trip, defBody s_check_trip, defScope s_check_trip, [], []⟩
def d_Table_init : He.DefD := ⟨("Table", some "__init__"), "__init__", "Table.__init__", defArgs s_Table_init, defBody s_Table_init, defScope s_Table_init, [], []⟩
def d_Table_names : He.DefD := ⟨("Table", some "names"), "names", "Table.names", defArgs s_Table_names, defBody s_Table_names, defScope s_Table_names, [], []⟩
def d_Table_trip : He.DefD := ⟨("Table", some "trip"), "trip", "Table.trip", defArgs s_Table_trip, defBody s_Table_trip, defScope s_Table_trip, [], []⟩
def d_l_draw : He.DefD := ⟨("_law_draw", none), "_law_draw", "_law_draw", defArgs s_l_draw, defBody s_l_draw, defScope s_l_draw, [], []⟩
def d_l_name : He.DefD := ⟨("_law_name", none), "_law_name", "_law_name", defArgs s_l_name, defBody s_l_name, defScope s_l_name, [], []⟩
def d_l_ways : He.DefD := ⟨("_law_ways", none), "_law_ways", "_law_ways", defArgs s_l_ways, defBody s_l_ways, defScope s_l_ways, [], []⟩
def d_l_lengths : He.DefD := ⟨("_law_lengths", none), "_law_lengths", "_law_lengths", defArgs s_l_lengths, defBody s_l_lengths, defScope s_l_lengths, [], []⟩
def d_l_trips : He.DefD := ⟨("_law_trips", none), "_law_trips", "_law_trips", defArgs s_l_trips, defBody s_l_trips, defScope s_l_trips, [], []⟩
def d_l_linked : He.DefD := ⟨("_law_linked", none), "_law_linked", "_law_linked", defArgs s_l_linked, defBody s_l_linked, defScope s_l_linked, [], []⟩
def d_l_length : He.DefD := ⟨("_law_length", none), "_law_length", "_law_length", defArgs s_l_length, defBody s_l_length, defScope s_l_length, [], []⟩
def d_l_rows : He.DefD := ⟨("_law_rows", none), "_law_rows", "_law_rows", defArgs s_l_rows, defBody s_l_rows, defScope s_l_rows, [], []⟩
def d_l_apart : He.DefD := ⟨("_law_apart", none), "_law_apart", "_law_apart", defArgs s_l_apart, defBody s_l_apart, defScope s_l_apart, [], []⟩
def d_l_like : He.DefD := ⟨("_law_like", none), "_law_like", "_law_like", defArgs s_l_like, defBody s_l_like, defScope s_l_like, [], []⟩
def d_l_few : He.DefD := ⟨("_law_few", none), "_law_few", "_law_few", defArgs s_l_few, defBody s_l_few, defScope s_l_few, [], []⟩
def d_l_given : He.DefD := ⟨("_law_given", none), "_law_given", "_law_given", defArgs s_l_given, defBody s_l_given, defScope s_l_given, [], []⟩
def d_l_cars : He.DefD := ⟨("_law_cars", none), "_law_cars", "_law_cars", defArgs s_l_cars, defBody s_l_cars, defScope s_l_cars, [], []⟩
def d_l_blocks : He.DefD := ⟨("_law_blocks", none), "_law_blocks", "_law_blocks", defArgs s_l_blocks, defBody s_l_blocks, defScope s_l_blocks, [], []⟩
def d_l_legs : He.DefD := ⟨("_law_legs", none), "_law_legs", "_law_legs", defArgs s_l_legs, defBody s_l_legs, defScope s_l_legs, [], []⟩
def d_law : He.DefD := ⟨("law", none), "law", "law", defArgs s_law, defBody s_law, defScope s_law, [], []⟩
def fn1 : List He.DefD := [d_gap, d_linked, d_links, d_check_place, d_check_links, d_check_row, d_minutes_between, d_block_length, d_cut, d_leg_of, d_legs, d_checked_name, d_checked_number, d_check_rows, d_find_one, d_owners_of, d_matching, d_reached, d_cover, d_lacking, d_TooFew_init, d_dealt, d_check_cars, d_fit_cars, d_give_cars, d_check_behind, d_check_order, d_chains, d_apart, d_check_roads]
def fn2 : List He.DefD := [d_heights_from, d_Roads_init, d_Roads_names, d_Roads_length, d_check_trip, d_Table_init, d_Table_names, d_Table_trip, d_l_draw, d_l_name, d_l_ways, d_l_lengths, d_l_trips, d_l_linked, d_l_length, d_l_rows, d_l_apart, d_l_like, d_l_few, d_l_given, d_l_cars, d_l_blocks, d_l_legs, d_law]
def fn : List He.DefD := fn1 ++ fn2
def fa0 : List He.Fa := [.glo "gap", .glo "linked", .glo "links", .glo "check_place", .glo "check_links", .glo "check_row", .glo "minutes_between", .glo "block_length", .glo "cut", .glo "leg_of", .glo "legs", .glo "checked_name", .glo "checked_number", .glo "check_rows", .glo "find_one", .glo "owners_of", .glo "matching", .glo "reached", .glo "cover", .glo "lacking", .glo "dealt", .glo "check_cars", .glo "fit_cars", .glo "give_cars", .glo "check_behind", .glo "check_order", .glo "chains", .glo "apart", .glo "check_roads", .glo "heights_from"]
def fa1 : List He.Fa := [.glo "check_trip", .glo "_law_draw", .glo "_law_name", .glo "_law_ways", .glo "_law_lengths", .glo "_law_trips", .glo "_law_linked", .glo "_law_length", .glo "_law_rows", .glo "_law_apart", .glo "_law_like", .glo "_law_few", .glo "_law_given", .glo "_law_cars", .glo "_law_blocks", .glo "_law_legs", .glo "law", .glo "Roads", .cls "Roads", .mkr "Roads", .glo "Table", .cls "Table", .mkr "Table", .noat "Roads" "towns", .noat "Roads" "lanes", .noat "Roads" "reached", .noat "Table" "roads", .noat "Table" "board", .meth "Roads" "names", .meth "Roads" "length"]
def fa2 : List He.Fa := [.meth "Table" "names", .meth "Table" "trip", .glo "TooFew", .exm "TooFew" "TooFew" true, .keep "TooFew", .int "LIMIT" 1000000000, .int "LONGEST" 12, .int "MOST_LEFTS" 40, .int "MOST_PLACES" 12, .int "MOST_WAYS" 60, .int "MOST_TRIPS" 40, .str "SIGNS" "abcdefghijklmnopqrstuvwxyz0123456789", .free "len", .free "range", .free "list", .free "dict", .free "enumerate", .free "max", .free "min", .free "sorted", .free "set", .free "int", .free "str", .free "bool", .free "isinstance"]
def fa : List He.Fa := fa0 ++ fa1 ++ fa2
def lo0 : List PySem.Str := ["LIMIT", "FleetError", "BadName", "BadNumber", "TooMany", "Twice", "NoPlace", "NoTrip", "NoWay", "gap", "linked", "links", "Unlinked", "TooLong", "check_place", "check_links", "check_row", "minutes_between", "block_length", "cut", "leg_of", "legs", "SIGNS", "LONGEST", "checked_name", "checked_number", "MOST_LEFTS", "check_rows", "find_one", "owners_of"]
def lo1 : List PySem.Str := ["matching", "reached", "cover", "lacking", "TooFew", "dealt", "check_cars", "fit_cars", "give_cars", "Ring", "NotOrdered", "check_behind", "check_order", "chains", "apart", "MOST_PLACES", "MOST_WAYS", "check_roads", "heights_from", "place_ahead", "Roads", "MOST_TRIPS", "Backward", "TooFast", "check_trip", "Table", "_law_draw", "_law_name", "_law_ways", "_law_lengths"]
def lo2 : List PySem.Str := ["_law_trips", "_law_linked", "_law_length", "_law_rows", "_law_apart", "_law_like", "_law_few", "_law_given", "_law_cars", "_law_blocks", "_law_legs"]
def loose : List PySem.Str := lo0 ++ lo1 ++ lo2
/-! what is looked at: the module's objects, their codes, the classes' namespaces, the methods, their codes -/
def nexts (g : Addr → Option Obj) (as : List Addr) : List Addr := as.flatMap fun a => ((g a).map fun o => (match o.data with
  | .func z => He.refV z.code
  | .cls z => [z.ns]
  | .dict z _ => z.toList.flatMap fun e => He.refV e.val
  | _ => ([] : List Addr))).getD []
def lay2 (g : Addr → Option Obj) (l : List Addr) : List Addr := l ++ nexts g l
def asK (g : Addr → Option Obj) : List Addr := mainGlobals :: ((fun l1 => l1 ++ (fun l2 => l2 ++ lay2 g (nexts g l2)) (nexts g l1)) (nexts g [mainGlobals]))
/-- an own error's class -/
def oeB (K : PySem.W.Frag) (C : Addr) : Bool := match K.lookup C with
  | some ⟨.type t, _, .cls cd, sl⟩ => decide (t = "type") && (match cd.mro, sl.toList with
    | .ref D :: more, [_, _, _, _, some (.builtin n), _] => decide (D = C) && (decide (n = "ValueError.__new__") && (!cd.hasDel && (cd.hasDict && PySem.HandSPX.refsVE more)))
    | _, _ => false)
  | _ => false
theorem oeB_ok {K : PySem.W.Frag} {C : Addr} (h : oeB K C = true) : ∃ nm q N bs bm sn sub ab col dd k0 k1 k2 k3 k5, K.lookup C = some (excClassObj nm q C N bs bm true sn sub ab col dd k0 k1 k2 k3 k5 "ValueError.__new__") ∧ PySem.HandSPX.refsVE bm = true := by
  unfold oeB at h
  split at h
  · rename_i t dd cd sl ho
    obtain ⟨ht, h⟩ := He.ba h
    have ht := of_decide_eq_true ht
    split at h
    · rename_i D more k0 k1 k2 k3 n k5 hm hs
      obtain ⟨h1, h⟩ := He.ba h
      obtain ⟨h2, h⟩ := He.ba h
      obtain ⟨h3, h⟩ := He.ba h
      obtain ⟨h4, h5⟩ := He.ba h
      have p1 := of_decide_eq_true h1
      have p2 := of_decide_eq_true h2
      obtain ⟨nm, bs, mro, ns, qn, hd, sn, sub, ab, col, del⟩ := cd
      have p0 : mro = .ref D :: more := hm
      have p3 : del = false := by simpa using h3
      have p4 : hd = true := h4
      obtain ⟨l⟩ := sl
      have p5 : l = [k0, k1, k2, k3, some (.builtin n), k5] := hs
      clear hm h3 h4 hs h1 h2
      subst p0 p3 p4 p5 p1 p2 ht
      exact ⟨nm, qn, ns, bs, more, sn, sub, ab, col, dd, k0, k1, k2, k3, k5, ho, h5⟩
    · cases h
  · cases h
def exK (K : PySem.W.Frag) : Bool := (fun C f => oeB K C && (xfB K C && (decide (PySem.W.typeIn K (.ref f) = some (.type "function")) && (He.eqO (PySem.W.findIn K (.ref C) "__init__") (some (some (.ref f))) && (He.eqO (PySem.W.findIn K (.ref C) "lefts") (some none) && (He.eqO (PySem.W.findIn K (.ref C) "rights") (some none) && (He.eqO (PySem.W.findIn K (.ref C) "__setattr__") (some (some (.builtin "object.__setattr__"))) && decide (PySem.W.typeIn K (.ref C) = some (.type "type")))))))))
  (He.ga K "TooFew") (He.ma K (He.ga K "TooFew") "__init__")
structure SaysK (h : Heap) (K : PySem.W.Frag) : Prop where
  d : He.SaysD fa fn K
  ex : exK K = true
  hd : PySem.W.codeHdIn K (He.cT K ("Table", some "names")).1 (He.cT K ("Table", some "names")).2 = true
  out : K.lookup (He.cT K ("Table", some "names")).2 = none
  emp : h.get? (He.cT K ("Table", some "names")).2 = some { cls := .none, data := .fields #[] }
def obsK (g : Addr → Option Obj) : He.AlD × Bool := (fun K => (He.obsD fa fn K, exK K && He.tabsB g [("Table", some "names")] K)) (He.frT g (asK g))
theorem saysK_of {h : Heap} (e : obsK h.get? = (He.valD fn, true)) : SaysK h (He.frT h.get? (asK h.get?)) := by
  have e1 : He.obsD fa fn (He.frT h.get? (asK h.get?)) = He.valD fn := congrArg Prod.fst e
  have e2 : (exK (He.frT h.get? (asK h.get?)) && He.tabsB h.get? [("Table", some "names")] (He.frT h.get? (asK h.get?))) = true := congrArg Prod.snd e
  obtain ⟨h1, h2⟩ := He.ba e2
  obtain ⟨h3, h4⟩ := He.ba (List.all_eq_true.mp h2 _ List.mem_cons_self)
  cases q : h.get? (He.cT (He.frT h.get? (asK h.get?)) ("Table", some "names")).2 with
  | none => rw [q] at h4; cases h4
  | some o =>
    rw [q] at h4
    exact ⟨e1, h1, h3, He.frT_none q h4, by rw [q, He.emptyTab_eq h4]⟩
abbrev R : PySem.W.OpenRow := PySem.W.OpenLaw.row PySem.Challenge.rw_fleetpath_k49_whole_day_of_cars
def hk : PySem.W.Hook where
  α := He.AlD × Bool
  obs := fun s => obsK s.heap.get?
  val := fun _ => (He.valD fn, true)
  says := fun _ h => ∃ K : PySem.W.Frag, K.In h ∧ SaysK h K
  of := fun _ _ e => ⟨_, He.frT_in, saysK_of e⟩
  keeps := fun _ _ _ ⟨K, hK, c⟩ k => ⟨K, PySem.W.Frag.In.keeps hK k, ⟨c.d, c.ex, c.hd, c.out, k _ _ c.emp⟩⟩
def ob (s : PySem.W.SharedT) : He.AlD × Bool := obsK (HandSHeadRun.getT s)
theorem ob_eq (s : PySem.W.SharedT) : ob s = hk.obs s.abs := by
  have e : HandSHeadRun.getT s = s.abs.heap.get? := funext (HandSHeadRun.getT_eq s)
  show obsK (HandSHeadRun.getT s) = obsK s.abs.heap.get?
  rw [e]
theorem run (w : World) : HandSHeadRun.RunEq R (PySem.W.view R.prog [81]) hk ob 6000 loose w := by
  intro os
  kernel_rfl
end K49H
/-! K49Far -/
/-! Places and ways: what the shortest lengths are, by the law's own table (pass by pass) and by heights. -/
namespace K49
section
variable {α : Type} [DecidableEq α]

/-- a way: from, to, minutes -/
abbrev Way (α : Type) := α × α × Int

/-- a walk over ways, with its minutes -/
inductive Walk (ws : List (Way α)) : α → α → Int → Prop where
  | nil (a : α) : Walk ws a a 0
  | snoc {a b c : α} {v m : Int} : Walk ws a b v → (b, c, m) ∈ ws → Walk ws a c (v + m)

theorem Walk.trans {ws : List (Way α)} {a b c : α} {u v : Int} (h1 : Walk ws a b u) (h2 : Walk ws b c v) : Walk ws a c (u + v) := by
  induction h2 with
  | nil => rw [Int.add_zero]; exact h1
  | snoc w e ih => rw [← Int.add_assoc]; exact .snoc ih e

/-- a table of lengths -/
abbrev Tab (α : Type) := α → α → Int

def tab0 (big : Int) : Tab α := fun a b => if a = b then 0 else big
def put2 (M : Tab α) (a b : α) (v : Int) : Tab α := fun x y => if x = a ∧ y = b then v else M x y
/-- a way laid in -/
def layWay (M : Tab α) (w : Way α) : Tab α := put2 M w.1 w.2.1 (min w.2.2 (M w.1 w.2.1))
/-- what a pass over a place amid makes -/
def pass (m : α) (M : Tab α) : Tab α := fun a b => min (M a m + M m b) (M a b)
def tab1 (big : Int) (ws : List (Way α)) : Tab α := ws.foldl layWay (tab0 big)
def far (big : Int) (ps : List α) (ws : List (Way α)) : Tab α := ps.foldl (fun M m => pass m M) (tab1 big ws)

/-- what every table on the way keeps -/
structure TabOk (big : Int) (ws : List (Way α)) (M : Tab α) : Prop where
  nn : ∀ a b, 0 ≤ M a b
  dg : ∀ a, M a a = 0
  wk : ∀ a b, Walk ws a b (M a b) ∨ big ≤ M a b

theorem tab0_ok {big : Int} (hb : 0 ≤ big) (ws : List (Way α)) : TabOk big ws (tab0 big : Tab α) where
  nn := fun a b => by unfold tab0; split <;> omega
  dg := fun a => by simp [tab0]
  wk := fun a b => by
    by_cases h : a = b
    · subst h; left; simp [tab0]; exact .nil a
    · right; simp [tab0, h]

theorem layWay_ok {big : Int} {ws : List (Way α)} {M : Tab α} (h : TabOk big ws M) {w : Way α} (hw : w ∈ ws) (hm : 1 ≤ w.2.2) : TabOk big ws (layWay M w) where
  nn := fun a b => by
    have := h.nn a b
    have := h.nn w.1 w.2.1
    unfold layWay put2; split <;> omega
  dg := fun a => by
    unfold layWay put2
    split
    · rename_i e
      obtain ⟨e1, e2⟩ := e
      have := h.dg a
      rw [← e1, ← e2]; omega
    · exact h.dg a
  wk := fun a b => by
    unfold layWay put2
    split
    · rename_i e
      obtain ⟨e1, e2⟩ := e
      by_cases c : w.2.2 ≤ M w.1 w.2.1
      · left
        rw [Int.min_eq_left c, e1, e2]
        have q := Walk.snoc (ws := ws) (Walk.nil w.1) (c := w.2.1) (m := w.2.2) hw
        rw [Int.zero_add] at q
        exact q
      · rw [Int.min_eq_right (by omega), ← e1, ← e2]
        exact h.wk a b
    · exact h.wk a b

theorem layWay_le (M : Tab α) (w : Way α) (a b : α) : layWay M w a b ≤ M a b := by
  unfold layWay put2
  split
  · rename_i e
    obtain ⟨e1, e2⟩ := e
    rw [e1, e2]; omega
  · exact Int.le_refl _
theorem layWay_self (M : Tab α) (w : Way α) : layWay M w w.1 w.2.1 ≤ w.2.2 := by
  unfold layWay put2
  simp only [and_self, if_true]
  omega

theorem lay_all_ok {big : Int} {ws : List (Way α)} : ∀ (l : List (Way α)) {M : Tab α}, TabOk big ws M → (∀ w ∈ l, w ∈ ws ∧ 1 ≤ w.2.2) → TabOk big ws (l.foldl layWay M)
  | [], _, h, _ => h
  | w :: l, _, h, hl => lay_all_ok l (layWay_ok h (hl w (List.mem_cons_self)).1 (hl w (List.mem_cons_self)).2) fun u hu => hl u (List.mem_cons_of_mem _ hu)
theorem lay_all_le : ∀ (l : List (Way α)) (M : Tab α) (a b : α), l.foldl layWay M a b ≤ M a b
  | [], _, _, _ => Int.le_refl _
  | w :: l, M, a, b => Int.le_trans (lay_all_le l (layWay M w) a b) (layWay_le M w a b)
theorem lay_all_way : ∀ (l : List (Way α)) (M : Tab α) (w : Way α), w ∈ l → l.foldl layWay M w.1 w.2.1 ≤ w.2.2
  | u :: l, M, w, hw => by
    rcases List.mem_cons.mp hw with e | hw
    · subst e
      exact Int.le_trans (lay_all_le l (layWay M w) _ _) (layWay_self M w)
    · exact lay_all_way l (layWay M u) w hw

theorem tab1_ok {big : Int} (hb : 0 ≤ big) {ws : List (Way α)} (hw : ∀ w ∈ ws, 1 ≤ w.2.2) : TabOk big ws (tab1 big ws) :=
  lay_all_ok ws (tab0_ok hb ws) fun w h => ⟨h, hw w h⟩

theorem pass_ok {big : Int} {ws : List (Way α)} {M : Tab α} (h : TabOk big ws M) (m : α) : TabOk big ws (pass m M) where
  nn := fun a b => by
    have := h.nn a b
    have := h.nn a m
    have := h.nn m b
    unfold pass; omega
  dg := fun a => by
    have := h.dg a
    have := h.nn a m
    have := h.nn m a
    unfold pass; omega
  wk := fun a b => by
    unfold pass
    by_cases c : M a m + M m b ≤ M a b
    · rw [Int.min_eq_left c]
      have := h.nn a m
      have := h.nn m b
      rcases h.wk a m with w1 | w1
      · rcases h.wk m b with w2 | w2
        · exact .inl (w1.trans w2)
        · right; omega
      · right; omega
    · rw [Int.min_eq_right (by omega)]
      exact h.wk a b
theorem pass_le (m : α) (M : Tab α) (a b : α) : pass m M a b ≤ M a b := by unfold pass; omega

/-- the triangle over the places that were amid -/
def Tri (S : α → Prop) (M : Tab α) : Prop := ∀ a b c, S c → M a b ≤ M a c + M c b

theorem pass_tri {big : Int} {ws : List (Way α)} {S : α → Prop} {M : Tab α} (h : TabOk big ws M) (t : Tri S M) (m : α) : Tri (fun c => c = m ∨ S c) (pass m M) := by
  intro a b c hc
  have dm := h.dg m
  rcases hc with rfl | hc
  · have := h.nn a c
    have := h.nn c b
    unfold pass; omega
  · have n1 := h.nn m c
    have n2 := h.nn c m
    have n3 := h.nn a m
    have n4 := h.nn m b
    have t1 := t a b c hc
    have t2 := t m b c hc
    have t3 := t a m c hc
    have t4 := t m m c hc
    unfold pass; omega

theorem passes_ok {big : Int} {ws : List (Way α)} : ∀ (l : List α) {M : Tab α}, TabOk big ws M → TabOk big ws (l.foldl (fun M m => pass m M) M)
  | [], _, h => h
  | m :: l, _, h => passes_ok l (pass_ok h m)
theorem passes_le : ∀ (l : List α) (M : Tab α) (a b : α), l.foldl (fun M m => pass m M) M a b ≤ M a b
  | [], _, _, _ => Int.le_refl _
  | m :: l, M, a, b => Int.le_trans (passes_le l (pass m M) a b) (pass_le m M a b)
theorem passes_tri {big : Int} {ws : List (Way α)} : ∀ (l : List α) {S : α → Prop} {M : Tab α}, TabOk big ws M → Tri S M → Tri (fun c => c ∈ l ∨ S c) (l.foldl (fun M m => pass m M) M)
  | [], S, M, _, t => fun a b c hc => t a b c (by simpa using hc)
  | m :: l, S, M, h, t => fun a b c hc => by
    refine passes_tri l (pass_ok h m) (pass_tri h t m) a b c ?_
    rcases hc with hc | hc
    · rcases List.mem_cons.mp hc with e | hc
      · exact .inr (.inl e)
      · exact .inl hc
    · exact .inr (.inr hc)

section
variable {big : Int} {ps : List α} {ws : List (Way α)}
theorem far_ok (hb : 0 ≤ big) (hw : ∀ w ∈ ws, 1 ≤ w.2.2) : TabOk big ws (far big ps ws) := passes_ok ps (tab1_ok hb hw)
theorem far_way (w : Way α) (hw : w ∈ ws) : far big ps ws w.1 w.2.1 ≤ w.2.2 :=
  Int.le_trans (passes_le ps _ _ _) (lay_all_way ws _ w hw)
theorem far_tri (hb : 0 ≤ big) (hw : ∀ w ∈ ws, 1 ≤ w.2.2) : ∀ a b c, c ∈ ps → far big ps ws a b ≤ far big ps ws a c + far big ps ws c b := fun a b c hc =>
  passes_tri (big := big) (ws := ws) ps (S := fun _ => False) (tab1_ok hb hw) (fun _ _ _ q => q.elim) a b c (.inl hc)
/-- no walk is shorter -/
theorem far_le_walk (hb : 0 ≤ big) (hw : ∀ w ∈ ws, 1 ≤ w.2.2) (hp : ∀ w ∈ ws, w.1 ∈ ps) {a b : α} {v : Int} (k : Walk ws a b v) : far big ps ws a b ≤ v := by
  induction k with
  | nil => rw [(far_ok hb hw).dg]; exact Int.le_refl 0
  | @snoc b c v m w e ih =>
    have h1 := far_way (big := big) (ps := ps) _ e
    have h2 := far_tri (big := big) (ps := ps) hb hw a c b (hp _ e)
    dsimp at h1
    omega
theorem far_walk (hb : 0 ≤ big) (hw : ∀ w ∈ ws, 1 ≤ w.2.2) {a b : α} (hlt : far big ps ws a b < big) : Walk ws a b (far big ps ws a b) := by
  rcases (far_ok (ps := ps) hb hw).wk a b with h | h
  · exact h
  · omega
/-- what is a walk's length and no more than any walk's is the table's -/
theorem far_unique (hb : 0 ≤ big) (hw : ∀ w ∈ ws, 1 ≤ w.2.2) (hp : ∀ w ∈ ws, w.1 ∈ ps) {a b : α} {v : Int} (hlt : far big ps ws a b < big) (k : Walk ws a b v) (l : ∀ u, Walk ws a b u → v ≤ u) : v = far big ps ws a b :=
  Int.le_antisymm (l _ (far_walk hb hw hlt)) (far_le_walk hb hw hp k)
end

/-! ### the ring -/
theorem ring_walk {ps : List α} {ws : List (Way α)} {W : Int} (hr : ∀ k, (hk : k < ps.length) → ∃ m, (ps[k], ps[(k + 1) % ps.length]'(Nat.mod_lt _ (Nat.lt_of_le_of_lt (Nat.zero_le k) hk)), m) ∈ ws ∧ m ≤ W) (i : Nat) (hi : i < ps.length) :
    ∀ t : Nat, ∃ v, Walk ws ps[i] (ps[(i + t) % ps.length]'(Nat.mod_lt _ (Nat.lt_of_le_of_lt (Nat.zero_le i) hi))) v ∧ v ≤ t * W
  | 0 => ⟨0, by
      have e : (i + 0) % ps.length = i := Nat.mod_eq_of_lt hi
      simp only [e]
      exact .nil _, by simp⟩
  | t + 1 => by
    obtain ⟨v, hv, hl⟩ := ring_walk hr i hi t
    have hlt : (i + t) % ps.length < ps.length := Nat.mod_lt _ (by omega)
    obtain ⟨m, hm, hmW⟩ := hr ((i + t) % ps.length) hlt
    have e : ((i + t) % ps.length + 1) % ps.length = (i + (t + 1)) % ps.length := by
      rw [Nat.mod_add_mod, Nat.add_assoc]
    simp only [e] at hm
    refine ⟨v + m, .snoc hv hm, ?_⟩
    have : ((t + 1 : Nat) : Int) * W = t * W + W := by rw [Int.natCast_add, Int.add_mul]; simp
    omega
theorem ring_all {ps : List α} {ws : List (Way α)} {W : Int} (hW : 0 ≤ W) (hr : ∀ k, (hk : k < ps.length) → ∃ m, (ps[k], ps[(k + 1) % ps.length]'(Nat.mod_lt _ (Nat.lt_of_le_of_lt (Nat.zero_le k) hk)), m) ∈ ws ∧ m ≤ W) {a b : α} (ha : a ∈ ps) (hb : b ∈ ps) :
    ∃ v, Walk ws a b v ∧ v ≤ ((ps.length - 1 : Nat) : Int) * W := by
  obtain ⟨i, hi, rfl⟩ := List.getElem_of_mem ha
  obtain ⟨j, hj, rfl⟩ := List.getElem_of_mem hb
  obtain ⟨v, hv, hl⟩ := ring_walk hr i hi ((j + ps.length - i) % ps.length)
  have e : (i + (j + ps.length - i) % ps.length) % ps.length = j := by
    rw [Nat.add_mod_mod]
    have : i + (j + ps.length - i) = j + ps.length := by omega
    rw [this, Nat.add_mod_right, Nat.mod_eq_of_lt hj]
  simp only [e] at hv
  refine ⟨v, hv, Int.le_trans hl ?_⟩
  have h1 : (j + ps.length - i) % ps.length ≤ ps.length - 1 := Nat.le_sub_one_of_lt (Nat.mod_lt _ (by omega))
  exact Int.mul_le_mul_of_nonneg_right (by exact_mod_cast h1) hW

/-! ### tables as lists of pairs -/
end
section
variable {κ β : Type} [DecidableEq κ]
def look (f : List (κ × β)) (a : κ) : Option β := (f.find? fun p => decide (p.1 = a)).map (·.2)
def put (f : List (κ × β)) (a : κ) (v : β) : List (κ × β) :=
  if (f.any fun p => decide (p.1 = a)) = true then f.map (fun p => if p.1 = a then (p.1, v) else p) else f ++ [(a, v)]
abbrev keys (f : List (κ × β)) : List κ := f.map (·.1)
theorem look_nil {a : κ} : look ([] : List (κ × β)) a = none := rfl
theorem look_cons (p : κ × β) (f : List (κ × β)) (a : κ) : look (p :: f) a = if p.1 = a then some p.2 else look f a := by
  unfold look
  rw [List.find?_cons]
  by_cases e : p.1 = a <;> simp [e]
theorem any_look (a : κ) : ∀ f : List (κ × β), (f.any fun p => decide (p.1 = a)) = (look f a).isSome
  | [] => rfl
  | p :: r => by
    rw [List.any_cons, look_cons, any_look a r]
    by_cases e : p.1 = a <;> simp [e]
theorem look_none {f : List (κ × β)} {a : κ} : look f a = none ↔ ¬ a ∈ keys f := by
  induction f with
  | nil => simp [look]
  | cons p r ih =>
    rw [look_cons]
    by_cases e : p.1 = a
    · simp [e]
    · simp only [e, if_false, ih, List.map_cons, List.mem_cons, not_or]
      constructor
      · intro h; exact ⟨fun z => e z.symm, h⟩
      · intro h; exact h.2
theorem look_isSome {f : List (κ × β)} {a : κ} : (look f a).isSome = true ↔ a ∈ keys f := by
  cases h : look f a with
  | none => simp; intro x hx; exact (look_none.mp h) (List.mem_map.mpr ⟨(a, x), hx, rfl⟩)
  | some v =>
    simp only [Option.isSome_some, true_iff]
    exact Decidable.byContradiction fun q => by rw [look_none.mpr q] at h; cases h
theorem look_mem {f : List (κ × β)} {a : κ} {v : β} (h : look f a = some v) : (a, v) ∈ f := by
  induction f with
  | nil => simp [look] at h
  | cons p r ih =>
    rw [look_cons] at h
    by_cases e : p.1 = a
    · rw [if_pos e] at h
      cases h
      rw [← e]; exact List.mem_cons_self
    · rw [if_neg e] at h
      exact List.mem_cons_of_mem _ (ih h)
theorem look_of_mem {f : List (κ × β)} {a : κ} {v : β} (hn : (keys f).Nodup) (h : (a, v) ∈ f) : look f a = some v := by
  induction f with
  | nil => cases h
  | cons p r ih =>
    rw [look_cons]
    simp only [List.map_cons, List.nodup_cons] at hn
    rcases List.mem_cons.mp h with e | h
    · rw [← e, if_pos rfl]
    · rw [if_neg, ih hn.2 h]
      intro e
      exact hn.1 (e ▸ List.mem_map.mpr ⟨_, h, rfl⟩)
theorem look_map (a j : κ) (v : β) : ∀ f : List (κ × β), look (f.map fun p => if p.1 = a then (p.1, v) else p) j = (look f j).map fun x => if j = a then v else x
  | [] => rfl
  | p :: r => by
    rw [List.map_cons, look_cons, look_cons, look_map a j v r]
    by_cases h : p.1 = a
    · simp only [h, if_true]
      by_cases e : a = j <;> simp [e]
    · simp only [h, if_false]
      by_cases e : p.1 = j
      · simp [e]; intro q; exact (h (e.trans q)).elim
      · simp [e]
theorem look_append (f g : List (κ × β)) (j : κ) : look (f ++ g) j = (look f j).or (look g j) := by
  induction f with
  | nil => simp [look]
  | cons p r ih =>
    rw [List.cons_append, look_cons, look_cons, ih]
    by_cases e : p.1 = j <;> simp [e]
theorem look_put (f : List (κ × β)) (a j : κ) (v : β) : look (put f a v) j = if j = a then some v else look f j := by
  unfold put
  rw [any_look]
  by_cases h : (look f a).isSome = true
  · rw [if_pos h, look_map]
    obtain ⟨x, hx⟩ := Option.isSome_iff_exists.mp h
    by_cases e : j = a
    · rw [e, hx]; simp
    · simp only [e, if_false]
      cases look f j <;> simp
  · rw [if_neg h, look_append]
    have h' : look f a = none := by simpa using h
    rw [look_cons]
    by_cases e : j = a
    · rw [e, h']; simp
    · rw [if_neg e, if_neg (fun z => e z.symm), look_nil]; simp
theorem put_new {f : List (κ × β)} {a : κ} (v : β) (h : look f a = none) : put f a v = f ++ [(a, v)] := by
  unfold put
  rw [any_look, h]; simp
theorem keys_put_old {f : List (κ × β)} {a : κ} (v : β) (h : (look f a).isSome = true) : keys (put f a v) = keys f := by
  unfold put
  rw [any_look, if_pos h]
  unfold keys
  rw [List.map_map]
  apply List.map_congr_left
  intro p _
  simp only [Function.comp]
  split <;> rfl
theorem keys_put_new {f : List (κ × β)} {a : κ} (v : β) (h : look f a = none) : keys (put f a v) = keys f ++ [a] := by
  rw [put_new v h]; simp [keys]
theorem mem_keys_put {f : List (κ × β)} {a j : κ} {v : β} : j ∈ keys (put f a v) ↔ j = a ∨ j ∈ keys f := by
  rw [← look_isSome, ← look_isSome, look_put]
  by_cases e : j = a <;> simp [e]
theorem nodup_put {f : List (κ × β)} (a : κ) (v : β) (hn : (keys f).Nodup) : (keys (put f a v)).Nodup := by
  cases h : look f a with
  | none =>
    rw [keys_put_new v h]
    refine List.nodup_append.mpr ⟨hn, by simp, ?_⟩
    intro x hx y hy e
    simp only [List.mem_singleton] at hy
    subst e
    subst hy
    exact look_none.mp h hx
  | some x => rw [keys_put_old v (by rw [h]; rfl)]; exact hn
theorem length_put_le (f : List (κ × β)) (a : κ) (v : β) : (put f a v).length ≤ f.length + 1 := by
  unfold put
  split
  · simp
  · simp
end

section
variable {α : Type} [DecidableEq α]
/-! ### heights: a dict of places, lowered way by way -/
/-- one way: lowered or not -/
def lowers (f : List (α × Int)) (w : Way α) : Bool := match look f w.1, look f w.2.1 with
  | none, _ => false
  | some _, none => true
  | some v, some u => decide (v + w.2.2 < u)
def lower1 (f : List (α × Int)) (w : Way α) : List (α × Int) := if lowers f w = true then put f w.2.1 ((look f w.1).getD 0 + w.2.2) else f

/-- what stands in the heights: walks' lengths from o, no longer than what as many ways take -/
structure HtOk (ps : List α) (ws : List (Way α)) (W : Nat) (o : α) (f : List (α × Int)) : Prop where
  org : look f o = some 0
  sub : ∀ a ∈ keys f, a ∈ ps
  nd : (keys f).Nodup
  wk : ∀ a v, look f a = some v → Walk ws o a v
  lo : ∀ a v, look f a = some v → 0 ≤ v ∧ v ≤ ((f.length - 1 : Nat) : Int) * W

theorem hok0 {ps : List α} {ws : List (Way α)} {W : Nat} {o : α} (ho : o ∈ ps) : HtOk ps ws W o [(o, 0)] where
  org := by simp [look]
  sub := fun a ha => by simp [keys] at ha; rw [ha]; exact ho
  nd := by simp [keys]
  wk := fun a v h => by
    rw [look_cons] at h
    by_cases e : o = a
    · simp [e] at h; rw [← h, ← e]; exact .nil _
    · simp [e, look] at h
  lo := fun a v h => by
    rw [look_cons] at h
    by_cases e : o = a
    · simp [e] at h; rw [← h]; simp
    · simp [e, look] at h

theorem length_put_new {κ β : Type} [DecidableEq κ] {f : List (κ × β)} {a : κ} (v : β) (h : look f a = none) : (put f a v).length = f.length + 1 := by rw [put_new v h]; simp
theorem length_put_old {κ β : Type} [DecidableEq κ] {f : List (κ × β)} {a : κ} (v : β) (h : (look f a).isSome = true) : (put f a v).length = f.length := by
  have := congrArg List.length (keys_put_old v h)
  simpa [keys] using this

theorem hok_lower {ps : List α} {ws : List (Way α)} {W : Nat} {o : α} {f : List (α × Int)} (h : HtOk ps ws W o f) {w : Way α} (hw : w ∈ ws) (h1 : 1 ≤ w.2.2) (hW : w.2.2 ≤ W) (hp : w.2.1 ∈ ps) : HtOk ps ws W o (lower1 f w) := by
  unfold lower1
  by_cases c : lowers f w = true
  · rw [if_pos c]
    obtain ⟨v, hv⟩ : ∃ v, look f w.1 = some v := by
      cases e : look f w.1 with
      | none => simp [lowers, e] at c
      | some v => exact ⟨v, rfl⟩
    rw [hv]
    simp only [Option.getD_some]
    have b := h.lo _ _ hv
    have wlk := h.wk _ _ hv
    have one : 1 ≤ f.length := by
      cases f with
      | nil => simp [look] at hv
      | cons _ _ => simp
    have no0 : w.2.1 ≠ o := by
      intro e
      unfold lowers at c
      rw [hv, e, h.org] at c
      simp at c
      omega
    have bW : ((f.length - 1 : Nat) : Int) * W + w.2.2 ≤ (f.length : Int) * W := by
      have : ((f.length - 1 : Nat) : Int) = (f.length : Int) - 1 := by omega
      rw [this, Int.sub_mul]; omega
    constructor
    · rw [look_put, if_neg (fun z => no0 z.symm)]; exact h.org
    · intro a ha
      rcases mem_keys_put.mp ha with e | ha
      · rw [e]; exact hp
      · exact h.sub a ha
    · exact nodup_put _ _ h.nd
    · intro a u hu
      rw [look_put] at hu
      by_cases e : a = w.2.1
      · rw [if_pos e] at hu
        cases hu
        rw [e]
        exact .snoc wlk hw
      · rw [if_neg e] at hu
        exact h.wk a u hu
    · intro a u hu
      rw [look_put] at hu
      cases n : look f w.2.1 with
      | none =>
        rw [length_put_new _ n]
        by_cases e : a = w.2.1
        · rw [if_pos e] at hu
          cases hu
          refine ⟨by omega, ?_⟩
          simp only [Nat.add_sub_cancel]
          omega
        · rw [if_neg e] at hu
          obtain ⟨q1, q2⟩ := h.lo a u hu
          refine ⟨q1, Int.le_trans q2 ?_⟩
          exact Int.mul_le_mul_of_nonneg_right (by omega) (by omega)
      | some x =>
        rw [length_put_old _ (by rw [n]; rfl)]
        by_cases e : a = w.2.1
        · rw [if_pos e] at hu
          cases hu
          have : v + w.2.2 < x := by
            unfold lowers at c
            rw [hv, n] at c
            simpa using c
          have := h.lo _ _ n
          omega
        · rw [if_neg e] at hu
          exact h.lo a u hu
  · rw [if_neg c]; exact h

/-- the measure: what a place may still be lowered -/
def hmeas (ps : List α) (B : Nat) (f : List (α × Int)) : Nat := (ps.map fun a => match look f a with
  | none => B
  | some v => v.toNat).sum
theorem sum_le {γ : Type} (g g' : γ → Nat) : ∀ l : List γ, (∀ a ∈ l, g a ≤ g' a) → (l.map g).sum ≤ (l.map g').sum
  | [], _ => Nat.le_refl _
  | a :: l, h => by
    have h1 := h a List.mem_cons_self
    have h2 := sum_le g g' l fun b hb => h b (List.mem_cons_of_mem _ hb)
    simp only [List.map_cons, List.sum_cons]; omega
theorem sum_lt {γ : Type} (g g' : γ → Nat) : ∀ l : List γ, (∀ a ∈ l, g a ≤ g' a) → ∀ b ∈ l, g b < g' b → (l.map g).sum < (l.map g').sum
  | a :: l, h, b, hb, hlt => by
    have h1 := h a List.mem_cons_self
    have h2 := sum_le g g' l fun b hb => h b (List.mem_cons_of_mem _ hb)
    simp only [List.map_cons, List.sum_cons]
    rcases List.mem_cons.mp hb with e | hb
    · subst e; omega
    · have h3 := sum_lt g g' l (fun b hb => h b (List.mem_cons_of_mem _ hb)) b hb hlt
      omega
theorem hmeas_lower {ps : List α} {ws : List (Way α)} {W B : Nat} {o : α} {f : List (α × Int)} (h : HtOk ps ws W o f) (hB : f.length * W < B) {w : Way α} (h1 : 1 ≤ w.2.2) (hW : w.2.2 ≤ W) (hp : w.2.1 ∈ ps) (c : lowers f w = true) :
    hmeas ps B (lower1 f w) < hmeas ps B f := by
  unfold lower1
  rw [if_pos c]
  obtain ⟨v, hv⟩ : ∃ v, look f w.1 = some v := by
    cases e : look f w.1 with
    | none => simp [lowers, e] at c
    | some v => exact ⟨v, rfl⟩
  rw [hv]
  simp only [Option.getD_some]
  have b := h.lo _ _ hv
  have one : 1 ≤ f.length := by
    cases f with
    | nil => simp [look] at hv
    | cons _ _ => simp
  have bW : ((f.length - 1 : Nat) : Int) * W + w.2.2 ≤ (f.length : Int) * W := by
    have : ((f.length - 1 : Nat) : Int) = (f.length : Int) - 1 := by omega
    rw [this, Int.sub_mul]; omega
  have hB' : (f.length : Int) * W < B := by exact_mod_cast hB
  unfold hmeas
  refine sum_lt _ _ ps (fun a _ => ?_) w.2.1 hp ?_
  · rw [look_put]
    by_cases e : a = w.2.1
    · rw [if_pos e]
      cases n : look f a with
      | none => simp only; omega
      | some x =>
        have : v + w.2.2 < x := by
          unfold lowers at c
          rw [hv, ← e, n] at c
          simpa using c
        simp only; omega
    · rw [if_neg e]; exact Nat.le_refl _
  · rw [look_put, if_pos rfl]
    cases n : look f w.2.1 with
    | none => simp only; omega
    | some x =>
      have : v + w.2.2 < x := by
        unfold lowers at c
        rw [hv, n] at c
        simpa using c
      simp only; omega

/-- where no way lowers, no walk is shorter -/
theorem hok_closed {ps : List α} {ws : List (Way α)} {W : Nat} {o : α} {f : List (α × Int)} (h : HtOk ps ws W o f) (hc : ∀ w ∈ ws, lowers f w = false) {a : α} {v : Int} (k : Walk ws o a v) : ∃ u, look f a = some u ∧ u ≤ v := by
  induction k with
  | nil => exact ⟨0, h.org, Int.le_refl 0⟩
  | @snoc b c v m w e ih =>
    obtain ⟨u, hu, hl⟩ := ih
    have q := hc _ e
    unfold lowers at q
    simp only [hu] at q
    cases n : look f c with
    | none => rw [n] at q; simp at q
    | some x =>
      rw [n] at q
      simp at q
      exact ⟨x, rfl, by omega⟩
theorem hok_is {big : Int} {ps : List α} {ws : List (Way α)} {W : Nat} {o : α} {f : List (α × Int)} (hb : 0 ≤ big) (hw : ∀ w ∈ ws, 1 ≤ w.2.2) (hp : ∀ w ∈ ws, w.1 ∈ ps)
    (h : HtOk ps ws W o f) (hc : ∀ w ∈ ws, lowers f w = false) {a : α} (hlt : far big ps ws o a < big) : look f a = some (far big ps ws o a) := by
  have k := far_walk (ps := ps) hb hw hlt
  obtain ⟨u, hu, _⟩ := hok_closed h hc k
  have e : u = far big ps ws o a := far_unique hb hw hp hlt (h.wk a u hu) fun x hx => by
    obtain ⟨u', hu', hl'⟩ := hok_closed h hc hx
    rw [hu] at hu'; cases hu'; exact hl'
  rw [hu, e]
end
end K49
/-! K49Match -/
/-! Things given to one another: how a right thing is found, what fails for good, what is reached; no program in sight. -/
namespace K49
section
variable {κ ρ : Type} [DecidableEq κ] [DecidableEq ρ]

/-- the search for a right thing for left, over what is left of its row; the things seen, the owners; told: found or not, the things seen, the owners behind -/
inductive Try (row : κ → List ρ) : κ → List ρ → List ρ → List (ρ × κ) → Bool → List ρ → List (ρ × κ) → Prop where
  | nil {left seen ow} : Try row left [] seen ow false seen ow
  | skip {left r rs seen ow b s' o'} : r ∈ seen → Try row left rs seen ow b s' o' → Try row left (r :: rs) seen ow b s' o'
  | free {left r rs seen ow} : r ∉ seen → look ow r = none → Try row left (r :: rs) seen ow true (seen ++ [r]) (put ow r left)
  | turn {left r rs seen ow l s' o'} : r ∉ seen → look ow r = some l → Try row l (row l) (seen ++ [r]) ow true s' o' → Try row left (r :: rs) seen ow true s' (put o' r left)
  | fail {left r rs seen ow l s' o' b s'' o''} : r ∉ seen → look ow r = some l → Try row l (row l) (seen ++ [r]) ow false s' o' → Try row left rs s' o' b s'' o'' → Try row left (r :: rs) seen ow b s'' o''

section
variable {row : κ → List ρ} {left : κ} {rs seen : List ρ} {ow : List (ρ × κ)} {b : Bool} {s' : List ρ} {o' : List (ρ × κ)}
theorem Try.mono (h : Try row left rs seen ow b s' o') : ∀ r ∈ seen, r ∈ s' := by
  induction h with
  | nil => intro r hr; exact hr
  | skip _ _ ih => exact ih
  | free _ _ => intro r hr; exact List.mem_append_left _ hr
  | turn _ _ _ ih => intro r hr; exact ih r (List.mem_append_left _ hr)
  | fail _ _ _ _ ih1 ih2 => intro r hr; exact ih2 r (ih1 r (List.mem_append_left _ hr))
theorem Try.nd (h : Try row left rs seen ow b s' o') : seen.Nodup → s'.Nodup := by
  have snoc : ∀ {r : ρ} {l : List ρ}, r ∉ l → l.Nodup → (l ++ [r]).Nodup := fun {r l} hr hl => by
    refine List.nodup_append.mpr ⟨hl, by simp, ?_⟩
    intro x hx y hy e
    simp only [List.mem_singleton] at hy
    exact hr (by rw [← hy, ← e]; exact hx)
  induction h with
  | nil => exact id
  | skip _ _ ih => exact ih
  | free hr _ => exact snoc hr
  | turn hr _ _ ih => intro hn; exact ih (snoc hr hn)
  | fail hr _ _ _ ih1 ih2 => intro hn; exact ih2 (ih1 (snoc hr hn))
/-- a search that fails changes no owner, has seen its row, and what it has seen anew is owned by ones whose rows are seen -/
theorem Try.failed (h : Try row left rs seen ow b s' o') : b = false → o' = ow ∧ (∀ r ∈ rs, r ∈ s') ∧ ∀ r ∈ s', r ∉ seen → ∃ l, look ow r = some l ∧ ∀ q ∈ row l, q ∈ s' := by
  induction h with
  | nil => intro _; exact ⟨rfl, by simp, fun r h1 h2 => (h2 h1).elim⟩
  | skip hr k ih =>
    intro e
    obtain ⟨e1, e2, e3⟩ := ih e
    refine ⟨e1, fun q hq => ?_, e3⟩
    rcases List.mem_cons.mp hq with z | z
    · rw [z]; exact k.mono _ hr
    · exact e2 q z
  | free _ _ => intro e; cases e
  | turn _ _ _ _ => intro e; cases e
  | @fail left r rs seen ow l s1 o1 b s2 o2 hr hl k1 k2 ih1 ih2 =>
    intro e
    obtain ⟨a1, a2, a3⟩ := ih1 rfl
    obtain ⟨b1, b2, b3⟩ := ih2 e
    subst a1
    refine ⟨b1, fun q hq => ?_, fun q hq hn => ?_⟩
    · rcases List.mem_cons.mp hq with z | z
      · rw [z]; exact k2.mono _ (k1.mono _ (by simp))
      · exact b2 q z
    · by_cases c : q ∈ s1
      · by_cases d : q ∈ seen ++ [r]
        · have : q = r := by
            rcases List.mem_append.mp d with z | z
            · exact (hn z).elim
            · simpa using z
          subst this
          exact ⟨l, hl, fun x hx => k2.mono _ (a2 x hx)⟩
        · obtain ⟨m, hm, hs⟩ := a3 q c d
          exact ⟨m, hm, fun x hx => k2.mono _ (hs x hx)⟩
      · exact b3 q hq c

/-- things that are owned for good: each is owned by one whose row stands among them -/
def Dead (row : κ → List ρ) (ow : List (ρ × κ)) (D : ρ → Prop) : Prop := ∀ r, D r → ∃ l, look ow r = some l ∧ ∀ q ∈ row l, D q
theorem Try.dead (h : Try row left rs seen ow b s' o') {D : ρ → Prop} (d : Dead row ow D) : (∀ r ∈ rs, D r) → b = false := by
  induction h with
  | nil => intro _; rfl
  | skip _ _ ih => intro hs; exact ih d fun r hr => hs r (List.mem_cons_of_mem _ hr)
  | free _ hn =>
    intro hs
    obtain ⟨l, hl, _⟩ := d _ (hs _ List.mem_cons_self)
    rw [hn] at hl; cases hl
  | turn _ hl _ ih =>
    intro hs
    obtain ⟨l, hl', hq⟩ := d _ (hs _ List.mem_cons_self)
    rw [hl] at hl'; cases hl'
    exact ih d hq
  | fail _ _ k _ _ ih2 =>
    intro hs
    obtain ⟨e, _⟩ := k.failed rfl
    rw [e] at ih2
    exact ih2 d fun r hr => hs r (List.mem_cons_of_mem _ hr)

theorem map_put_old {f : List (ρ × κ)} {a : ρ} {x v : κ} (hn : (keys f).Nodup) (h : look f a = some x) : (x :: (put f a v).map (·.2)).Perm (v :: f.map (·.2)) := by
  have e : put f a v = f.map (fun p => if p.1 = a then (p.1, v) else p) := by
    unfold put
    rw [any_look, h]; rfl
  rw [e]
  clear e
  induction f with
  | nil => cases h
  | cons p r ih =>
    rw [look_cons] at h
    simp only [List.map_cons, List.nodup_cons] at hn
    by_cases c : p.1 = a
    · rw [if_pos c] at h
      cases h
      have e2 : r.map (fun p => if p.1 = a then (p.1, v) else p) = r := by
        refine (List.map_congr_left (g := id) fun q hq => ?_).trans (List.map_id r)
        rw [if_neg]; rfl
        intro z
        exact hn.1 (by rw [c, ← z]; exact List.mem_map.mpr ⟨q, hq, rfl⟩)
      simp only [List.map_cons, c, if_true]
      rw [e2]
      exact List.Perm.swap _ _ _
    · rw [if_neg c] at h
      simp only [List.map_cons, c, if_false]
      have q := ih hn.2 h
      exact (List.Perm.swap _ _ _).trans ((q.cons p.2).trans (List.Perm.swap _ _ _))

/-- a search that finds: one more is owned, the owners are one more, each in its row; what was seen ahead and what is dead stands -/
structure Found (row : κ → List ρ) (left : κ) (seen : List ρ) (ow o' : List (ρ × κ)) : Prop where
  nd : (keys o').Nodup
  own : ∀ r, (look ow r).isSome = true → (look o' r).isSome = true
  vals : (o'.map (·.2)).Perm (left :: ow.map (·.2))
  edge : (∀ r l, look ow r = some l → r ∈ row l) → ∀ r l, look o' r = some l → r ∈ row l
  stay : ∀ r ∈ seen, look o' r = look ow r
  dead : ∀ D, Dead row ow D → ∀ r, D r → look o' r = look ow r
theorem Try.found (h : Try row left rs seen ow b s' o') : b = true → (keys ow).Nodup → (∀ r ∈ rs, r ∈ row left) → Found row left seen ow o' := by
  induction h with
  | nil => intro e; cases e
  | skip hr _ ih =>
    intro e hn hs
    exact ih e hn fun r hr => hs r (List.mem_cons_of_mem _ hr)
  | @free left r rs seen ow hr hf =>
    intro _ hn hs
    refine ⟨nodup_put _ _ hn, fun q hq => ?_, ?_, fun he q l hq => ?_, fun q hq => ?_, fun D d q hq => ?_⟩
    · rw [look_put]; split
      · rfl
      · exact hq
    · rw [put_new _ hf, List.map_append]
      exact List.perm_append_comm
    · rw [look_put] at hq
      by_cases c : q = r
      · rw [if_pos c] at hq; cases hq; rw [c]; exact hs r List.mem_cons_self
      · rw [if_neg c] at hq; exact he q l hq
    · rw [look_put, if_neg]; rintro rfl; exact hr hq
    · rw [look_put, if_neg]; rintro rfl
      obtain ⟨l, hl, _⟩ := d _ hq
      rw [hf] at hl; cases hl
  | @turn left r rs seen ow l s1 o1 hr hl k ih =>
    intro _ hn hs
    have F := ih rfl hn fun _ h => h
    have e1 : look o1 r = some l := (F.stay r (by simp)).trans hl
    refine ⟨nodup_put _ _ F.nd, fun q hq => ?_, ?_, fun he q x hq => ?_, fun q hq => ?_, fun D d q hq => ?_⟩
    · rw [look_put]; split
      · rfl
      · exact F.own q hq
    · have p1 := map_put_old (v := left) F.nd e1
      have p2 : (l :: (put o1 r left).map (·.2)).Perm (l :: left :: ow.map (·.2)) := p1.trans ((F.vals.cons left).trans (List.Perm.swap _ _ _))
      exact List.Perm.cons_inv p2
    · rw [look_put] at hq
      by_cases c : q = r
      · rw [if_pos c] at hq; cases hq; rw [c]; exact hs r List.mem_cons_self
      · rw [if_neg c] at hq; exact F.edge he q x hq
    · rw [look_put, if_neg]
      · exact F.stay q (List.mem_append_left _ hq)
      · rintro rfl; exact hr hq
    · rw [look_put, if_neg]
      · exact F.dead D d q hq
      · rintro rfl
        obtain ⟨m, hm, hD⟩ := d _ hq
        rw [hl] at hm; cases hm
        have := k.dead d hD
        cases this
  | @fail left r rs seen ow l s1 o1 b s2 o2 hr hl k1 k2 ih1 ih2 =>
    intro e hn hs
    obtain ⟨a1, _⟩ := k1.failed rfl
    subst a1
    have F := ih2 e hn fun r hr => hs r (List.mem_cons_of_mem _ hr)
    exact ⟨F.nd, F.own, F.vals, F.edge, fun q hq => F.stay q (k1.mono _ (List.mem_append_left _ hq)), F.dead⟩
end

/-- behind the lefts dn: owners; the lefts that have failed; what is dead -/
structure Own (row : κ → List ρ) (dn : List κ) (ow : List (ρ × κ)) (fl : List κ) (D : ρ → Prop) : Prop where
  nd : (keys ow).Nodup
  part : dn.Perm (ow.map (·.2) ++ fl)
  edge : ∀ r l, look ow r = some l → r ∈ row l
  dead : Dead row ow D
  fail : ∀ l ∈ fl, ∀ r ∈ row l, D r
theorem own0 {row : κ → List ρ} : Own row [] [] [] (fun _ => False) :=
  ⟨by simp [keys], by simp, fun r l h => by simp [look] at h, fun r h => h.elim, fun l h => by cases h⟩
theorem Own.step {row : κ → List ρ} {dn : List κ} {ow : List (ρ × κ)} {fl : List κ} {D : ρ → Prop} (h : Own row dn ow fl D) {left : κ} {b : Bool} {s' : List ρ} {o' : List (ρ × κ)} (t : Try row left (row left) [] ow b s' o') :
    ∃ fl' D', Own row (dn ++ [left]) o' fl' D' := by
  cases b with
  | true =>
    have F := t.found rfl h.nd fun _ h => h
    refine ⟨fl, D, F.nd, ?_, F.edge h.edge, fun r hr => ?_, h.fail⟩
    · have p1 : (dn ++ [left]).Perm (left :: dn) := List.perm_append_comm
      exact p1.trans ((h.part.cons left).trans (F.vals.symm.append_right fl))
    · obtain ⟨l, hl, hq⟩ := h.dead r hr
      exact ⟨l, by rw [F.dead D h.dead r hr]; exact hl, hq⟩
  | false =>
    obtain ⟨e1, e2, e3⟩ := t.failed rfl
    subst e1
    refine ⟨left :: fl, fun r => D r ∨ r ∈ s', h.nd, ?_, h.edge, fun r hr => ?_, fun l hl r hr => ?_⟩
    · have p1 : (dn ++ [left]).Perm (left :: dn) := List.perm_append_comm
      exact p1.trans ((h.part.cons left).trans List.perm_middle.symm)
    · rcases hr with hr | hr
      · obtain ⟨l, hl, hq⟩ := h.dead r hr
        exact ⟨l, hl, fun q z => .inl (hq q z)⟩
      · obtain ⟨l, hl, hq⟩ := e3 r hr (by simp)
        exact ⟨l, hl, fun q z => .inr (hq q z)⟩
    · rcases List.mem_cons.mp hl with e | hl
      · subst e; exact .inr (e2 r hr)
      · exact .inl (h.fail l hl r hr)
theorem Own.val_in {row : κ → List ρ} {dn : List κ} {ow : List (ρ × κ)} {fl : List κ} {D : ρ → Prop} (h : Own row dn ow fl D) {r : ρ} {l : κ} (e : look ow r = some l) : l ∈ dn :=
  h.part.symm.mem_iff.mp (List.mem_append_left _ (List.mem_map.mpr ⟨(r, l), look_mem e, rfl⟩))

/-! ### what is reached by turns from the lefts that have failed -/
structure Reach (row : κ → List ρ) (ks : List κ) (ow : List (ρ × κ)) (fl : List κ) (L : List κ) (R : List ρ) (W : List κ) : Prop where
  ndL : L.Nodup
  ndR : R.Nodup
  inL : ∀ x, x ∈ L ∨ x ∈ W → x ∈ fl ∨ ∃ r ∈ R, look ow r = some x
  rowL : ∀ x ∈ L, ∀ r ∈ row x, r ∈ R
  ofR : ∀ r ∈ R, ∃ x ∈ L, r ∈ row x
  ownR : ∀ r ∈ R, ∃ x, look ow r = some x ∧ (x ∈ L ∨ x ∈ W)
  fail : ∀ x ∈ fl, x ∈ L ∨ x ∈ W

section
variable {row : κ → List ρ} {ks : List κ} {ow : List (ρ × κ)} {fl : List κ} {D : ρ → Prop}
theorem Reach.start (h : Own row ks ow fl D) {W : List κ} (hW : ∀ x, x ∈ W ↔ x ∈ fl) : Reach row ks ow fl [] [] W :=
  ⟨by simp, by simp, fun x hx => .inl (by simpa [hW] using hx), by simp, by simp, by simp, fun x hx => .inr ((hW x).mpr hx)⟩
/-- what waits or is had has its row among the dead -/
theorem Reach.deadRow {L : List κ} {R : List ρ} {W : List κ} (h : Own row ks ow fl D) (hR : ∀ r ∈ R, D r) (h2 : ∀ x, x ∈ L ∨ x ∈ W → x ∈ fl ∨ ∃ r ∈ R, look ow r = some x) {x : κ} (hx : x ∈ L ∨ x ∈ W) : ∀ r ∈ row x, D r := by
  rcases h2 x hx with z | ⟨r, hr, e⟩
  · exact h.fail x z
  · obtain ⟨l, hl, hq⟩ := h.dead r (hR r hr)
    rw [e] at hl; cases hl; exact hq
theorem Reach.skip {L : List κ} {R : List ρ} {W : List κ} {x : κ} (q : Reach row ks ow fl L R (W ++ [x])) (hx : x ∈ L) : Reach row ks ow fl L R W := by
  refine ⟨q.ndL, q.ndR, fun y hy => q.inL y ?_, q.rowL, q.ofR, fun r hr => ?_, fun y hy => ?_⟩
  · rcases hy with z | z
    · exact .inl z
    · exact .inr (List.mem_append_left _ z)
  · obtain ⟨y, e, z⟩ := q.ownR r hr
    refine ⟨y, e, ?_⟩
    rcases z with z | z
    · exact .inl z
    · rcases List.mem_append.mp z with z | z
      · exact .inr z
      · have : y = x := by simpa using z
        rw [this]; exact .inl hx
  · rcases q.fail y hy with z | z
    · exact .inl z
    · rcases List.mem_append.mp z with z | z
      · exact .inr z
      · have : y = x := by simpa using z
        rw [this]; exact .inl hx

/-- within the turn of x: the part pre of its row is gone through -/
structure ReachIn (row : κ → List ρ) (ks : List κ) (ow : List (ρ × κ)) (fl : List κ) (x : κ) (pre : List ρ) (L : List κ) (R : List ρ) (W : List κ) : Prop where
  ndL : L.Nodup
  ndR : R.Nodup
  xL : x ∈ L
  inL : ∀ y, y ∈ L ∨ y ∈ W → y ∈ fl ∨ ∃ r ∈ R, look ow r = some y
  rowL : ∀ y ∈ L, y ≠ x → ∀ r ∈ row y, r ∈ R
  rowx : ∀ r ∈ pre, r ∈ R
  sub : ∀ r ∈ pre, r ∈ row x
  ofR : ∀ r ∈ R, ∃ y ∈ L, r ∈ row y
  ownR : ∀ r ∈ R, ∃ y, look ow r = some y ∧ (y ∈ L ∨ y ∈ W)
  fail : ∀ y ∈ fl, y ∈ L ∨ y ∈ W
theorem Reach.into {L : List κ} {R : List ρ} {W : List κ} {x : κ} (q : Reach row ks ow fl L R (W ++ [x])) (hx : x ∉ L) : ReachIn row ks ow fl x [] (L ++ [x]) R W := by
  have mv : ∀ y, y ∈ L ∨ y ∈ W ++ [x] → y ∈ L ++ [x] ∨ y ∈ W := fun y hy => by
    rcases hy with z | z
    · exact .inl (List.mem_append_left _ z)
    · rcases List.mem_append.mp z with z | z
      · exact .inr z
      · exact .inl (List.mem_append_right _ z)
  have mb : ∀ y, y ∈ L ++ [x] ∨ y ∈ W → y ∈ L ∨ y ∈ W ++ [x] := fun y hy => by
    rcases hy with z | z
    · rcases List.mem_append.mp z with z | z
      · exact .inl z
      · exact .inr (List.mem_append_right _ z)
    · exact .inr (List.mem_append_left _ z)
  refine ⟨?_, q.ndR, by simp, fun y hy => q.inL y (mb y hy), fun y hy hne r hr => ?_, by simp, by simp, fun r hr => ?_, fun r hr => ?_, fun y hy => mv y (q.fail y hy)⟩
  · refine List.nodup_append.mpr ⟨q.ndL, by simp, ?_⟩
    intro a ha b hb e
    simp only [List.mem_singleton] at hb
    exact hx (by rw [← hb, ← e]; exact ha)
  · refine q.rowL y ?_ r hr
    rcases List.mem_append.mp hy with z | z
    · exact z
    · exact (hne (by simpa using z)).elim
  · obtain ⟨y, hy, z⟩ := q.ofR r hr
    exact ⟨y, List.mem_append_left _ hy, z⟩
  · obtain ⟨y, e, z⟩ := q.ownR r hr
    exact ⟨y, e, mv y z⟩
theorem ReachIn.step {x : κ} {pre : List ρ} {L : List κ} {R R' : List ρ} {W : List κ} (q : ReachIn row ks ow fl x pre L R W) {r : ρ} {y : κ} (hr : r ∈ row x) (e : look ow r = some y) (hR : ∀ z, z ∈ R' ↔ z ∈ R ∨ z = r) (nR : R'.Nodup) : ReachIn row ks ow fl x (pre ++ [r]) L R' (W ++ [y]) := by
  have mw : ∀ z, z ∈ L ∨ z ∈ W → z ∈ L ∨ z ∈ W ++ [y] := fun z h => h.elim .inl fun h => .inr (List.mem_append_left _ h)
  refine ⟨q.ndL, nR, q.xL, fun z hz => ?_, fun z hz hne s hs => (hR s).mpr (.inl (q.rowL z hz hne s hs)), fun s hs => ?_, fun s hs => ?_, fun s hs => ?_, fun s hs => ?_, fun z hz => mw z (q.fail z hz)⟩
  · have base : ∀ z, z ∈ L ∨ z ∈ W → z ∈ fl ∨ ∃ s ∈ R', look ow s = some z := fun z hz => by
      rcases q.inL z hz with h | ⟨s, hs, he⟩
      · exact .inl h
      · exact .inr ⟨s, (hR s).mpr (.inl hs), he⟩
    rcases hz with h | h
    · exact base z (.inl h)
    · rcases List.mem_append.mp h with h | h
      · exact base z (.inr h)
      · have : z = y := by simpa using h
        rw [this]
        exact .inr ⟨r, (hR r).mpr (.inr rfl), e⟩
  · rcases List.mem_append.mp hs with h | h
    · exact (hR s).mpr (.inl (q.rowx s h))
    · exact (hR s).mpr (.inr (by simpa using h))
  · rcases List.mem_append.mp hs with h | h
    · exact q.sub s h
    · have : s = r := by simpa using h
      rw [this]; exact hr
  · rcases (hR s).mp hs with h | h
    · exact q.ofR s h
    · rw [h]; exact ⟨x, q.xL, hr⟩
  · rcases (hR s).mp hs with h | h
    · obtain ⟨z, e', hz⟩ := q.ownR s h
      exact ⟨z, e', mw z hz⟩
    · rw [h]; exact ⟨y, e, .inr (by simp)⟩
theorem ReachIn.done {x : κ} {L : List κ} {R : List ρ} {W : List κ} (q : ReachIn row ks ow fl x (row x) L R W) : Reach row ks ow fl L R W :=
  ⟨q.ndL, q.ndR, q.inL, fun y hy r hr => by
    by_cases c : y = x
    · rw [c] at hr; exact q.rowx r hr
    · exact q.rowL y hy c r hr, q.ofR, q.ownR, q.fail⟩

/-- the measure of the while -/
def rmeas (row : κ → List ρ) (ks L W : List κ) : Nat := ((ks.filter fun k => decide (k ∉ L)).map fun k => 1 + (row k).length).sum + W.length
theorem sum_filter_lt (g : κ → Nat) (L : List κ) (x : κ) (hx : x ∉ L) : ∀ ks : List κ, ks.Nodup → x ∈ ks → ((ks.filter fun k => decide (k ∉ L ++ [x])).map g).sum + g x = ((ks.filter fun k => decide (k ∉ L)).map g).sum
  | k :: r, hn, hm => by
    simp only [List.nodup_cons] at hn
    rw [List.filter_cons, List.filter_cons]
    by_cases c : k = x
    · subst c
      have e : (r.filter fun k' => decide (k' ∉ L ++ [k])) = r.filter fun k' => decide (k' ∉ L) := by
        refine List.filter_congr fun q hq => ?_
        have : q ≠ k := fun z => hn.1 (z ▸ hq)
        simp [this]
      rw [e]
      simp [hx]
      omega
    · have ih := sum_filter_lt g L x hx r hn.2 ((List.mem_cons.mp hm).resolve_left fun z => c z.symm)
      by_cases d : k ∈ L
      · simp [d] at ih ⊢
        exact ih
      · simp [d, c] at ih ⊢
        omega
theorem rmeas_into {L W : List κ} {x : κ} (hn : ks.Nodup) (hx : x ∉ L) (hm : x ∈ ks) : rmeas row ks (L ++ [x]) W + (row x).length + 2 = rmeas row ks L (W ++ [x]) := by
  unfold rmeas
  have := sum_filter_lt (fun k => 1 + (row k).length) L x hx ks hn hm
  simp only [List.length_append, List.length_cons, List.length_nil] at *
  omega
theorem rmeas_skip {L W : List κ} {x : κ} : rmeas row ks L W < rmeas row ks L (W ++ [x]) := by
  unfold rmeas; simp

theorem perm_of_mem {γ : Type} [DecidableEq γ] {a b : List γ} (ha : a.Nodup) (hb : b.Nodup) (h : ∀ x, x ∈ a ↔ x ∈ b) : a.Perm b := (List.perm_ext_iff_of_nodup ha hb).mpr h
theorem val_inj {ow : List (ρ × κ)} (hv : (ow.map (·.2)).Nodup) {r s : ρ} {l : κ} (h1 : look ow r = some l) (h2 : look ow s = some l) : r = s := by
  have m1 := look_mem h1
  have m2 := look_mem h2
  induction ow with
  | nil => cases m1
  | cons p q ih =>
    simp only [List.map_cons, List.nodup_cons] at hv
    rcases List.mem_cons.mp m1 with e1 | m1'
    · rcases List.mem_cons.mp m2 with e2 | m2'
      · rw [← e1] at e2; cases e2; rfl
      · exact (hv.1 (by rw [← e1]; exact List.mem_map.mpr ⟨_, m2', rfl⟩)).elim
    · rcases List.mem_cons.mp m2 with e2 | m2'
      · exact (hv.1 (by rw [← e2]; exact List.mem_map.mpr ⟨_, m1', rfl⟩)).elim
      · have h1' : look q r = some l := by
          rw [look_cons] at h1
          by_cases c : p.1 = r
          · rw [if_pos c] at h1
            exact (hv.1 (by cases h1; exact List.mem_map.mpr ⟨_, m1', rfl⟩)).elim
          · rw [if_neg c] at h1; exact h1
        have h2' : look q s = some l := by
          rw [look_cons] at h2
          by_cases c : p.1 = s
          · rw [if_pos c] at h2
            exact (hv.1 (by cases h2; exact List.mem_map.mpr ⟨_, m1', rfl⟩)).elim
          · rw [if_neg c] at h2; exact h2
        exact ih hv.2 h1' h2' m1' m2'
theorem Own.vnd {dn : List κ} (h : Own row dn ow fl D) (hn : dn.Nodup) : (ow.map (·.2)).Nodup ∧ fl.Nodup ∧ ∀ x ∈ ow.map (·.2), x ∉ fl := by
  have := (List.Perm.nodup_iff h.part).mp hn
  obtain ⟨a, b, c⟩ := List.nodup_append.mp this
  exact ⟨a, b, fun x hx hf => c x hx x hf rfl⟩

/-- at the end: the lefts had are as many as the failed ones and the rights together -/
theorem Reach.count {L : List κ} {R : List ρ} (h : Own row ks ow fl D) (hn : ks.Nodup) (q : Reach row ks ow fl L R []) : L.length = fl.length + R.length := by
  obtain ⟨v1, v2, v3⟩ := h.vnd hn
  have og : ∀ r ∈ R, ∃ x, look ow r = some x ∧ x ∈ L := fun r hr => by
    obtain ⟨x, e, z⟩ := q.ownR r hr
    exact ⟨x, e, z.resolve_right (by simp)⟩
  have hp : L.Perm (fl ++ R.filterMap fun r => look ow r) := by
    refine perm_of_mem q.ndL ?_ fun x => ?_
    · refine List.nodup_append.mpr ⟨v2, ?_, ?_⟩
      · have all : ∀ R : List ρ, R.Nodup → (R.filterMap fun r => look ow r).Nodup := by
          intro R
          induction R with
          | nil => intro _; simp
          | cons r R ih =>
            intro hR
            simp only [List.nodup_cons] at hR
            rw [List.filterMap_cons]
            cases e : look ow r with
            | none => exact ih hR.2
            | some x =>
              refine List.nodup_cons.mpr ⟨fun m => ?_, ih hR.2⟩
              obtain ⟨s, hs, e2⟩ := List.mem_filterMap.mp m
              have := val_inj v1 e e2
              exact hR.1 (this ▸ hs)
        exact all R q.ndR
      · intro a ha b hb e
        obtain ⟨s, hs, e2⟩ := List.mem_filterMap.mp hb
        exact v3 b (List.mem_map.mpr ⟨_, look_mem e2, rfl⟩) (e ▸ ha)
    · constructor
      · intro hx
        rcases q.inL x (.inl hx) with z | ⟨r, hr, e⟩
        · exact List.mem_append_left _ z
        · exact List.mem_append_right _ (List.mem_filterMap.mpr ⟨r, hr, e⟩)
      · intro hx
        rcases List.mem_append.mp hx with z | z
        · exact (q.fail x z).resolve_right (by simp)
        · obtain ⟨r, hr, e⟩ := List.mem_filterMap.mp z
          obtain ⟨x', e', hx'⟩ := og r hr
          rw [e] at e'; cases e'; exact hx'
  rw [hp.length_eq, List.length_append]
  congr 1
  have all : ∀ R : List ρ, (∀ r ∈ R, ∃ x, look ow r = some x ∧ x ∈ L) → (R.filterMap fun r => look ow r).length = R.length := by
    intro R
    induction R with
    | nil => intro _; rfl
    | cons r R ih =>
      intro h
      obtain ⟨x, e, _⟩ := h r List.mem_cons_self
      rw [List.filterMap_cons, e]
      simp [ih fun s hs => h s (List.mem_cons_of_mem _ hs)]
  exact all R og
end
end
end K49
/-! K49Max -/
/-! No other giving is longer. -/
namespace K49
section
variable {κ ρ : Type} [DecidableEq κ] [DecidableEq ρ]
theorem nodup_le' {α : Type} [DecidableEq α] : ∀ {a b : List α}, a.Nodup → (∀ x ∈ a, x ∈ b) → a.length ≤ b.length
  | [], b, _, _ => Nat.zero_le _
  | x :: a, b, hn, h => by
    rw [List.nodup_cons] at hn
    have h1 : a.length ≤ (b.erase x).length := nodup_le' hn.2 fun y hy => by
      have hne : y ≠ x := fun e => hn.1 (e ▸ hy)
      exact (List.mem_erase_of_ne hne).mpr (h y (List.mem_cons_of_mem _ hy))
    have h2 : x ∈ b := h x List.mem_cons_self
    rw [List.length_erase_of_mem h2] at h1
    have : 0 < b.length := List.length_pos_of_mem h2
    rw [List.length_cons]; omega
theorem mem_val {ow : List (ρ × κ)} {l : κ} (h : l ∈ ow.map (·.2)) : ∃ r, (r, l) ∈ ow := by
  obtain ⟨⟨r, l'⟩, hp, e⟩ := List.mem_map.mp h
  obtain rfl : l' = l := e
  exact ⟨r, hp⟩
open Classical in
theorem Own.max {row : κ → List ρ} {ks : List κ} {ow ow' : List (ρ × κ)} {fl : List κ} {D : ρ → Prop} (h : Own row ks ow fl D) (n1 : (keys ow').Nodup) (n2 : (ow'.map (·.2)).Nodup)
    (e : ∀ r l, look ow' r = some l → r ∈ row l) (i : ∀ r l, look ow' r = some l → l ∈ ks) : ow'.length ≤ ow.length := by
  have ex : ∀ p ∈ ow', ∃ s, s ∈ keys ow ∧ (D p.1 → s = p.1) ∧ (¬ D p.1 → look ow s = some p.2 ∧ ¬ D s) := by
    rintro ⟨r, l⟩ hp
    have hl : look ow' r = some l := look_of_mem n1 hp
    by_cases hD : D r
    · obtain ⟨l', hl', _⟩ := h.dead r hD
      exact ⟨r, look_isSome.mp (by rw [hl']; rfl), fun _ => rfl, fun q => (q hD).elim⟩
    · have hrow := e r l hl
      have hks := h.part.mem_iff.mp (i r l hl)
      rcases List.mem_append.mp hks with z | z
      · obtain ⟨s, hs⟩ := mem_val z
        have hls : look ow s = some l := look_of_mem h.nd hs
        refine ⟨s, look_isSome.mp (by rw [hls]; rfl), fun q => (hD q).elim, fun _ => ⟨hls, fun q => ?_⟩⟩
        obtain ⟨l', hl', hq⟩ := h.dead s q
        rw [hls] at hl'; cases hl'
        exact hD (hq r hrow)
      · exact (hD (h.fail l z r hrow)).elim
  let φ : ρ × κ → ρ := fun p => if hp : ∃ s, s ∈ keys ow ∧ (D p.1 → s = p.1) ∧ (¬ D p.1 → look ow s = some p.2 ∧ ¬ D s) then Classical.choose hp else p.1
  have hφ : ∀ p ∈ ow', φ p ∈ keys ow ∧ (D p.1 → φ p = p.1) ∧ (¬ D p.1 → look ow (φ p) = some p.2 ∧ ¬ D (φ p)) := fun p hp => by
    have q := ex p hp
    have : φ p = Classical.choose q := dif_pos q
    rw [this]
    exact Classical.choose_spec q
  have nd : (ow'.map φ).Nodup := by
    have p1 : ow'.Pairwise fun p q => p.1 ≠ q.1 := List.pairwise_map.mp n1
    have p2 : ow'.Pairwise fun p q => p.2 ≠ q.2 := List.pairwise_map.mp n2
    have p3 := p1.and p2
    refine List.pairwise_map.mpr (p3.imp_of_mem fun {p q} hp hq ⟨a, b⟩ e => ?_)
    obtain ⟨_, u1, u2⟩ := hφ p hp
    obtain ⟨_, v1, v2⟩ := hφ q hq
    by_cases c : D p.1
    · by_cases d : D q.1
      · rw [u1 c, v1 d] at e; exact a e
      · rw [← e, u1 c] at v2; exact (v2 d).2 c
    · by_cases d : D q.1
      · rw [e, v1 d] at u2; exact (u2 c).2 d
      · have x1 := (u2 c).1
        have x2 := (v2 d).1
        rw [e, x2] at x1
        exact b (Option.some.inj x1).symm
  have le := nodup_le' nd (b := keys ow) fun x hx => by
    obtain ⟨p, hp, rfl⟩ := List.mem_map.mp hx
    exact (hφ p hp).1
  rw [List.length_map] at le
  have : (keys ow).length = ow.length := by unfold keys; rw [List.length_map]
  omega
theorem Own.same {row : κ → List ρ} {ks : List κ} {ow ow' : List (ρ × κ)} {fl fl' : List κ} {D D' : ρ → Prop} (h : Own row ks ow fl D) (h' : Own row ks ow' fl' D') (hn : ks.Nodup) : ow'.length = ow.length :=
  Nat.le_antisymm (h.max h'.nd (h'.vnd hn).1 h'.edge fun r l e => h'.val_in e) (h'.max h.nd (h.vnd hn).1 h.edge fun r l e => h.val_in e)
end
end K49
/-! K49Kit -/
/-! More words upon Evl: fields, calls of methods, dicts, walks of locked dicts. -/
namespace K49
open PySem L2 Evl

instance decMemKey (a : Key) (L : List Key) : Decidable (a ∈ L) := @List.instDecidableMemOfLawfulBEq _ instBEqOfDecidableEq _ a L
/-! ### up to locks -/
/-- what stood stands; a dict may be locked, a table may have grown -/
def ExR (H H' : Hp) : Prop := ∀ a o, H a = some o → H' a = some o ∨ (∃ kvs ob, o = .dK kvs ∧ H' a = some (.frz ob o)) ∨ ∃ ps, o = .tbl ps
theorem exr {H H' : Hp} (e : Ex H H') : ExR H H' := fun a o h => .inl (e a o h)
theorem exr_n {H H' : Hp} (e : LamX.ExtN H H') : ExR H H' := fun a o h => by
  by_cases c : ∃ ps, o = .tbl ps
  · exact .inr (.inr c)
  · exact .inl (e a o h fun ps z => c ⟨ps, z⟩)
theorem ExR.refl (H : Hp) : ExR H H := fun _ _ h => .inl h
theorem ExR.trans {H H1 H2 : Hp} (a : ExR H H1) (b : ExR H1 H2) : ExR H H2 := fun x o h => by
  rcases a x o h with h1 | ⟨kvs, ob, rfl, h1⟩ | c
  · exact b x o h1
  · rcases b x _ h1 with h2 | ⟨_, _, e, _⟩ | ⟨_, e⟩
    · exact .inr (.inl ⟨kvs, ob, rfl, h2⟩)
    · cases e
    · cases e
  · exact .inr (.inr c)
theorem ExR.rd {H H' : Hp} (e : ExR H H') {a : Addr} {kvs : List (Key × V)} (h : Rd H a (.dK kvs)) : Rd H' a (.dK kvs) := by
  rcases h with h | ⟨o, h⟩
  · rcases e a _ h with h1 | ⟨_, ob, e1, h1⟩ | ⟨_, e1⟩
    · exact .inl h1
    · exact .inr ⟨ob, h1⟩
    · cases e1
  · rcases e a _ h with h1 | ⟨_, _, e1, _⟩ | ⟨_, e1⟩
    · exact .inr ⟨o, h1⟩
    · cases e1
    · cases e1
theorem ExR.rdT {H H' : Hp} (e : ExR H H') {a : Addr} {kvs : List (List Key × V)} (h : Rd H a (.dT kvs)) : Rd H' a (.dT kvs) := by
  rcases h with h | ⟨o, h⟩
  · rcases e a _ h with h1 | ⟨_, _, e1, _⟩ | ⟨_, e1⟩
    · exact .inl h1
    · cases e1
    · cases e1
  · rcases e a _ h with h1 | ⟨_, _, e1, _⟩ | ⟨_, e1⟩
    · exact .inr ⟨o, h1⟩
    · cases e1
    · cases e1
theorem ExR.lst {H H' : Hp} (e : ExR H H') {a : Addr} {xs : List V} (h : H a = some (.lst xs)) : H' a = some (.lst xs) := by
  rcases e a _ h with h1 | ⟨_, _, e1, _⟩ | ⟨_, e1⟩
  · exact h1
  · cases e1
  · cases e1
theorem ExR.tup {H H' : Hp} (e : ExR H H') {a : Addr} {xs : List V} (h : H a = some (.tup xs)) : H' a = some (.tup xs) := by
  rcases e a _ h with h1 | ⟨_, _, e1, _⟩ | ⟨_, e1⟩
  · exact h1
  · cases e1
  · cases e1
theorem ExR.ins {H H' : Hp} (e : ExR H H') {a C dx : Addr} {fs : List (Str × V)} (h : H a = some (.ins C dx fs)) : H' a = some (.ins C dx fs) := by
  rcases e a _ h with h1 | ⟨_, _, e1, _⟩ | ⟨_, e1⟩
  · exact h1
  · cases e1
  · cases e1
theorem ExR.sql {K : PySem.W.Frag} {H H' : Hp} (e : ExR H H') {a : Addr} {xs : List V} (h : SqL K H a xs) : SqL K H' a xs := by
  rcases h with (h | ⟨o, h⟩) | h
  · exact .inl (.inl (e.lst h))
  · rcases e a _ h with h1 | ⟨_, _, e1, _⟩ | ⟨_, e1⟩
    · exact .inl (.inr ⟨o, h1⟩)
    · cases e1
    · cases e1
  · exact .inr h
/-- under a lock -/
theorem exr_lock {H : Hp} {d : Addr} {kvs : List (Key × V)} {od : Obj} (hd : H d = some (.dK kvs)) : ExR H (upd H d (.frz od (.dK kvs))) := fun a o h => by
  by_cases c : a = d
  · subst c
    rw [hd] at h; cases h
    exact .inr (.inl ⟨kvs, od, rfl, upd_same⟩)
  · exact .inl (by rw [upd_ne c]; exact h)
/-- the lock is let go -/
theorem ex_unlock {H H' : Hp} {d : Addr} {kvs : List (Key × V)} {od : Obj} (hd : H d = some (.dK kvs)) (e : Ex (upd H d (.frz od (.dK kvs))) H') : Ex H (upd H' d (.dK kvs)) := fun a o h => by
  by_cases c : a = d
  · subst c
    rw [hd] at h; cases h
    exact upd_same
  · rw [upd_ne c]
    exact e a o (by rw [upd_ne c]; exact h)
theorem ex_frz {H H' : Hp} {d : Addr} {u : HO} (e : Ex (upd H d u) H') : H' d = some u := e d u upd_same

/-! ### what evaluates to something of which P is told -/
def EvP (te : TE) (σ : St) (H : Hp) (P : V → Hp → Prop) : Prop := ∀ H1, Ex H H1 → ∀ Q : VK, (∀ v H2, Ex H1 H2 → P v H2 → Q v H2) → te σ H1 Q
def RetP (P : V → Hp → Prop) (H : Hp) (Q : VK) : Prop := ∀ v H2, Ex H H2 → P v H2 → Q v H2
def SpP (sp : Sp) (vs : List V) (H : Hp) (P : V → Hp → Prop) : Prop := ∀ H1, Ex H H1 → ∀ Q : VK, (∀ v H2, Ex H1 H2 → P v H2 → Q v H2) → ∀ E : XK, sp vs H1 Q E
section
variable {K : PySem.W.Frag} {σ : St} {H H' : Hp} {ta tb te tx : TE} {t u : TT} {x y z v : V} {D : Ends} {tu tw : TS} {g : TG} {P : V → Hp → Prop}
theorem ep_v (h : Ev te σ H v) : EvP te σ H (fun x _ => x = v) := fun H1 e Q q => h H1 e Q fun H2 e2 => q v H2 e2 rfl
theorem ev_p (h : EvP te σ H (fun x _ => x = v)) : Ev te σ H v := fun H1 e Q q => h H1 e Q fun x H2 e2 ex => by subst ex; exact q H2 e2
theorem ep_l {xs : List V} (h : EvL te σ H xs) : EvP te σ H (fun x H2 => ∃ p, x = .ref p ∧ H2 p = some (.lst xs)) := fun H1 e Q q => h H1 e Q fun p H2 _ e2 hp => q _ H2 e2 ⟨p, rfl, hp⟩
theorem ep_u {xs : List V} (h : EvU te σ H xs) : EvP te σ H (fun x H2 => ∃ p, x = .ref p ∧ H2 p = some (.tup xs)) := fun H1 e Q q => h H1 e Q fun p H2 _ e2 hp => q _ H2 e2 ⟨p, rfl, hp⟩
theorem EvP.mono (h : EvP te σ H P) (e : Ex H H') : EvP te σ H' P := fun H1 a Q q => h H1 (e.trans a) Q q
theorem ev_fld {a C dx : Addr} {fs : List (Str × V)} {f : Str} (h : Ev ta σ H (.ref a)) (ho : H a = some (.ins C dx fs)) (hc : Cls K C) (hn : NoAttr K C f) (hl : fs.lookup f = some v) : Ev (tFld K ta f) σ H v := fun H1 e Q q =>
  h H1 e _ fun H2 e2 => ⟨a, C, dx, fs, v, rfl, e2 _ _ (e _ _ ho), hc, hn, hl, q H2 e2⟩
theorem ev_meth {C a dx : Addr} {m : Str} {sp : Sp} {vs : List V} {E : XK} {tl : TA} {fs : List (Str × V)} (h : Ev ta σ H (.ref a)) (ho : H a = some (.ins C dx fs)) (hl : fs.lookup m = none) (ha : EvA tl σ H vs) (hs : SpV sp (.ref a :: (vs ++ [])) H z) : Ev (tMeth C m sp [] E ta tl) σ H z := fun H1 e Q q =>
  h H1 e _ fun H2 e2 => ⟨a, dx, fs, rfl, e2 _ _ (e _ _ ho), hl, ha H2 (e.trans e2) _ fun H3 e3 => hs H3 ((e.trans e2).trans e3) Q (fun H4 e4 => q H4 ((e2.trans e3).trans e4)) E⟩
theorem ep_meth {C a dx : Addr} {m : Str} {sp : Sp} {vs : List V} {E : XK} {tl : TA} {fs : List (Str × V)} (h : Ev ta σ H (.ref a)) (ho : H a = some (.ins C dx fs)) (hl : fs.lookup m = none) (ha : EvA tl σ H vs) (hs : SpP sp (.ref a :: (vs ++ [])) H P) : EvP (tMeth C m sp [] E ta tl) σ H P := fun H1 e Q q =>
  h H1 e _ fun H2 e2 => ⟨a, dx, fs, rfl, e2 _ _ (e _ _ ho), hl, ha H2 (e.trans e2) _ fun H3 e3 => hs H3 ((e.trans e2).trans e3) Q (fun v H4 e4 hP => q v H4 ((e2.trans e3).trans e4) hP) E⟩
theorem ep_call {sp : Sp} {dvs vs : List V} {E : XK} {tl : TA} (h : EvA tl σ H vs) (hs : SpP sp (vs ++ dvs) H P) : EvP (tCall sp dvs E tl) σ H P := fun H1 e Q q =>
  h H1 e _ fun H2 e2 => hs H2 (e.trans e2) Q (fun v H3 e3 hP => q v H3 (e2.trans e3) hP) E
/-- an argument of which P is told -/
theorem ep_call1 {sp : Sp} {E : XK} {P' : V → Hp → Prop} (h : EvP te σ H P') (hs : ∀ v H1, Ex H H1 → P' v H1 → SpP sp [v] H1 P) : EvP (tCall sp [] E (tCons te tNil)) σ H P := fun H1 e Q q =>
  h H1 e _ fun v H2 e2 hv => hs v H2 (e.trans e2) hv H2 (Ex.refl H2) Q (fun v' H3 e3 hP => q v' H3 (e2.trans e3) hP) E
theorem dget_ex {a : Addr} {o : Option V} (e : Ex H H') (h : DGet H a y o) : DGet H' a y o := by
  rcases h with ⟨kvs, k, r, ey, er⟩ | ⟨kvs, k, b, r, ey, eb, er⟩
  · exact .inl ⟨kvs, k, ex_rd e r, ey, er⟩
  · exact .inr ⟨kvs, k, b, ex_rd e r, ey, e _ _ eb, er⟩
theorem dget_rd {a : Addr} {kvs : List (Key × V)} {k : Key} (h : Rd H a (.dK kvs)) : DGet H a (kV k) (valV kvs k) := .inl ⟨kvs, k, h, rfl, rfl⟩
theorem dget_rdT {a b : Addr} {kvs : List (List Key × V)} {k : List Key} (h : Rd H a (.dT kvs)) (hb : H b = some (.tup (k.map kV))) : DGet H a (.ref b) (valV kvs k) := .inr ⟨kvs, k, b, h, rfl, hb, rfl⟩
theorem ev_dget {a : Addr} (h : Ev ta σ H (.ref a)) (hy : Ev tb σ H y) (hg : DGet H a y (some v)) : Ev (tDGet ta tb) σ H v := fun H1 e Q q =>
  h H1 e _ fun H2 e2 => hy H2 (e.trans e2) _ fun H3 e3 => ⟨a, v, rfl, dget_ex ((e.trans e2).trans e3) hg, q H3 (e2.trans e3)⟩
theorem ev_din {a : Addr} {o : Option V} (hy : Ev tb σ H y) (h : Ev ta σ H (.ref a)) (hg : DGet H a y o) : Ev (tDIn tb ta) σ H (.bl o.isSome) := fun H1 e Q q =>
  hy H1 e _ fun H2 e2 => h H2 (e.trans e2) _ fun H3 e3 => ⟨a, o, rfl, dget_ex ((e.trans e2).trans e3) hg, q H3 (e2.trans e3)⟩
theorem ev_dnotin {a : Addr} {o : Option V} (hy : Ev tb σ H y) (h : Ev ta σ H (.ref a)) (hg : DGet H a y o) : Ev (tDNotIn tb ta) σ H (.bl (!o.isSome)) := fun H1 e Q q =>
  hy H1 e _ fun H2 e2 => h H2 (e.trans e2) _ fun H3 e3 => ⟨a, o, rfl, dget_ex ((e.trans e2).trans e3) hg, q H3 (e2.trans e3)⟩
theorem ev_dget1 {a : Addr} {kvs : List (Key × V)} {k : Key} (h : Ev ta σ H (.ref a)) (hy : Ev tb σ H (kV k)) (hg : Rd H a (.dK kvs)) (hv : valV kvs k = some v) : Ev (tDGet1 ta tb) σ H v := fun H1 e Q q =>
  h H1 e _ fun H2 e2 => ⟨a, rfl, .inl ⟨kvs, ex_rd (e.trans e2) hg⟩, hy H2 (e.trans e2) _ fun H3 e3 => ⟨_, dget_rd (ex_rd ((e.trans e2).trans e3) hg), by rw [hv]; exact q H3 (e2.trans e3)⟩⟩
theorem ev_isN (h : Ev ta σ H x) : Ev (tIsN ta) σ H (.bl (decide (x = .non))) := fun H1 e Q q => h H1 e _ fun H2 e2 => q H2 e2
theorem ev_notN (h : Ev ta σ H x) : Ev (tNotN ta) σ H (.bl (!decide (x = .non))) := fun H1 e Q q => h H1 e _ fun H2 e2 => q H2 e2
theorem rv_isN : RV (fun x y H Q => y = .non ∧ Q (.bl (decide (x = .non))) H) x .non H (.bl (decide (x = .non))) := fun H1 _ _ q => ⟨rfl, q H1 (Ex.refl H1)⟩
theorem rv_notN : RV (fun x y H Q => y = .non ∧ Q (.bl (!decide (x = .non))) H) x .non H (.bl (!decide (x = .non))) := fun H1 _ _ q => ⟨rfl, q H1 (Ex.refl H1)⟩
theorem s_retP (h : EvP te σ H P) (k : ∀ v H1, Ex H H1 → P v H1 → D.rt v H1) : tRet te D σ H := h H (Ex.refl H) _ k
theorem s_asgP {i : Nat} (h : EvP te σ H P) (k : ∀ v H1, Ex H H1 → P v H1 → D.nx (σ.set i (some v)) H1) : tAsg te (gName i) D σ H := h H (Ex.refl H) _ k
theorem s_dropP (h : EvP te σ H P) (k : ∀ v H1, Ex H H1 → P v H1 → D.nx σ H1) : tDrop te D σ H := h H (Ex.refl H) _ k
/-- d[k] = e, the dict tracked -/
theorem s_dput {d : Addr} {kvs : List (Key × V)} {k : Key} (hv : Ev te σ H v) (ho : Ev ta σ H (.ref d)) (hk : Ev tb σ H (kV k)) (hd : H d = some (.dK kvs)) (hz : kvs.length < 100000) (q : ∀ H1, Ex H H1 → D.nx σ (upd H1 d (.dK (putK kvs k v)))) : sDPut ta tb te D σ H :=
  hv H (Ex.refl H) _ fun H1 e1 => ho H1 e1 _ fun H2 e2 => hk H2 (e1.trans e2) _ fun H3 e3 => ⟨d, _, rfl, DPut.k (((e1.trans e2).trans e3) _ _ hd) (sz_lt hz), q H3 ((e1.trans e2).trans e3)⟩
theorem s_dputP {d : Addr} {kvs : List (Key × V)} {k : Key} (hv : EvP te σ H P) (ho : Ev ta σ H (.ref d)) (hk : Ev tb σ H (kV k)) (hd : H d = some (.dK kvs)) (hz : kvs.length < 100000) (q : ∀ v H1, Ex H H1 → (∃ H0, Ex H0 H1 ∧ P v H0 ∧ Ex H H0) → D.nx σ (upd H1 d (.dK (putK kvs k v)))) : sDPut ta tb te D σ H :=
  hv H (Ex.refl H) _ fun v H1 e1 hP => ho H1 e1 _ fun H2 e2 => hk H2 (e1.trans e2) _ fun H3 e3 => ⟨d, _, rfl, DPut.k (((e1.trans e2).trans e3) _ _ hd) (sz_lt hz), q v H3 ((e1.trans e2).trans e3) ⟨H1, e2.trans e3, hP, e1⟩⟩
theorem q_dput {tz : TS} {d : Addr} {kvs : List (Key × V)} {k : Key} (hv : Ev te σ H v) (ho : Ev ta σ H (.ref d)) (hk : Ev tb σ H (kV k)) (hd : H d = some (.dK kvs)) (hz : kvs.length < 100000) (q : ∀ H1, Ex H H1 → tz D σ (upd H1 d (.dK (putK kvs k v)))) : tSeq (sDPut ta tb te) tz D σ H :=
  s_dput (D := { D with nx := tz D }) hv ho hk hd hz q
theorem q_asgP {tz : TS} {i : Nat} (h : EvP te σ H P) (k : ∀ v H1, Ex H H1 → P v H1 → tz D (σ.set i (some v)) H1) : tSeq (tAsg te (gName i)) tz D σ H := s_asgP (D := { D with nx := tz D }) h k
theorem q_dropP {tz : TS} (h : EvP te σ H P) (k : ∀ v H1, Ex H H1 → P v H1 → tz D σ H1) : tSeq (tDrop te) tz D σ H := s_dropP (D := { D with nx := tz D }) h k
/-- xs.append(e) of something -/
theorem s_appP {l : Addr} {xs : List V} (hl : H l = some (.lst xs)) (ha : Ev ta σ H (.ref l)) (h : EvP te σ H P) (hz : xs.length < 100000) (k : ∀ v H1, Ex H H1 → P v H1 → D.nx σ (upd H1 l (.lst (xs ++ [v])))) :
    tDrop (tBM K "list" (fun x vs H Q => ∃ l xs y, x = .ref l ∧ vs = [y] ∧ H l = some (.lst xs) ∧ xs.length < sizeLine ∧ Q .non (upd H l (.lst (xs ++ [y])))) ta (tCons te tNil)) D σ H :=
  ha H (Ex.refl H) _ fun H1 e1 => ⟨.inl ⟨rfl, _, sq_of (e1 _ _ hl)⟩, h H1 e1 _ fun v H2 e2 hP => ⟨l, xs, v, rfl, rfl, (e1.trans e2) _ _ hl, sz_lt hz, k v H2 (e1.trans e2) hP⟩⟩
theorem q_appP {tz : TS} {l : Addr} {xs : List V} (hl : H l = some (.lst xs)) (ha : Ev ta σ H (.ref l)) (h : EvP te σ H P) (hz : xs.length < 100000) (k : ∀ v H1, Ex H H1 → P v H1 → tz D σ (upd H1 l (.lst (xs ++ [v])))) :
    tSeq (tDrop (tBM K "list" (fun x vs H Q => ∃ l xs y, x = .ref l ∧ vs = [y] ∧ H l = some (.lst xs) ∧ xs.length < sizeLine ∧ Q .non (upd H l (.lst (xs ++ [y])))) ta (tCons te tNil))) tz D σ H := s_appP (D := { D with nx := tz D }) hl ha h hz k
/-- for k in d: the loop under d's lock -/
theorem s_forK {iv j : Nat} {d : Addr} {kvs : List (Key × V)} {tb : TS} (hv : σ[iv]? = some (some (.ref d))) (hd : H d = some (.dK kvs)) (Pv : Obj → Nat → St → Hp → Prop)
    (h0 : ∀ od, Pv od 0 σ (upd H d (.frz od (.dK kvs)))) (hG : ∀ od i σ' H', i ≤ kvs.length → Pv od i σ' H' → H' d = some (.frz od (.dK kvs)))
    (hs : ∀ od i k v σ' H', kvs[i]? = some (k, v) → Pv od i σ' H' → tb ⟨Pv od (i + 1), fun w H3 => H3 d = some (.frz od (.dK kvs)) ∧ D.rt w (upd H3 d (.dK kvs)), fun σ3 H3 => H3 d = some (.frz od (.dK kvs)) ∧ D.nx σ3 (upd H3 d (.dK kvs)), Pv od (i + 1)⟩ (σ'.set j (some (kV k))) H')
    (hq : ∀ od σ' H', Pv od kvs.length σ' H' → D.nx σ' (upd H' d (.dK kvs))) : tLock (tFor (iKeys (tVar iv)) (gName j) tb) D σ H :=
  ⟨d, .dK kvs, hd, trivial, fun od => ⟨_, hv, d, od, rfl, .inl ⟨kvs, upd_same, for_it (walk_keys (d := d) (o := od) (kvs := kvs)) (Pv od) (h0 od) (fun i σ' H' hi p => hG od i σ' H' hi p)
    (fun i x σ' H' H'' hi p ⟨e, k, v, hk, ex⟩ => by subst e; subst ex; exact hs od i k v σ' H'' hk p) (fun σ' H' p => ⟨hG od _ σ' H' (Nat.le_refl _) p, hq od σ' H' p⟩)⟩⟩⟩
theorem q_forK {tz : TS} {iv j : Nat} {d : Addr} {kvs : List (Key × V)} {tb : TS} (hv : σ[iv]? = some (some (.ref d))) (hd : H d = some (.dK kvs)) (Pv : Obj → Nat → St → Hp → Prop)
    (h0 : ∀ od, Pv od 0 σ (upd H d (.frz od (.dK kvs)))) (hG : ∀ od i σ' H', i ≤ kvs.length → Pv od i σ' H' → H' d = some (.frz od (.dK kvs)))
    (hs : ∀ od i k v σ' H', kvs[i]? = some (k, v) → Pv od i σ' H' → tb ⟨Pv od (i + 1), fun w H3 => H3 d = some (.frz od (.dK kvs)) ∧ D.rt w (upd H3 d (.dK kvs)), fun σ3 H3 => H3 d = some (.frz od (.dK kvs)) ∧ tz D σ3 (upd H3 d (.dK kvs)), Pv od (i + 1)⟩ (σ'.set j (some (kV k))) H')
    (hq : ∀ od σ' H', Pv od kvs.length σ' H' → tz D σ' (upd H' d (.dK kvs))) : tSeq (tLock (tFor (iKeys (tVar iv)) (gName j) tb)) tz D σ H := s_forK (D := { D with nx := tz D }) hv hd Pv h0 hG hs hq
/-- for c in text -/
theorem s_forS {z : Str} {j : Nat} {tb : TS} (h : Ev te σ H (.str z)) (Pv : Nat → St → Hp → Prop) (h0 : ∀ H1, Ex H H1 → Pv 0 σ H1)
    (hs : ∀ i c σ' H', z.cps[i]? = some c → Pv i σ' H' → tb { D with nx := Pv (i + 1), ct := Pv (i + 1), bk := D.nx } (σ'.set j (some (.str ⟨#[c]⟩))) H') (hd : ∀ σ' H', Pv z.cps.size σ' H' → D.nx σ' H') : tFor (iStr te) (gName j) tb D σ H :=
  h H (Ex.refl H) _ fun H1 e1 => ⟨z, rfl, for_it walk_str Pv (h0 H1 e1) (fun _ _ _ _ _ => trivial) (fun i x σ' H' H'' hi p ⟨e, c, hc, ex⟩ => by subst e; subst ex; exact hs i c σ' H'' hc p) hd⟩
/-- [e for k in d if ..]: under d's lock; f which turns give, w what -/
theorem el_lcK {iv j : Nat} {d : Addr} {kvs : List (Key × V)} {tt : TT} {vs : List Nat} (f : Nat → Bool) (w : Nat → V) (hv : σ[iv]? = some (some (.ref d))) (hd : H d = some (.dK kvs)) (hz : kvs.length ≤ 40000) (hw : ∀ x, wipe ((wipe σ vs).set j (some x)) vs = wipe σ vs)
    (ht : ∀ od i k v H1, Ex (upd H d (.frz od (.dK kvs))) H1 → kvs[i]? = some (k, v) → EvT tt ((wipe σ vs).set j (some (kV k))) H1 (f i)) (he : ∀ od i k v H1, Ex (upd H d (.frz od (.dK kvs))) H1 → kvs[i]? = some (k, v) → f i = true → Ev te ((wipe σ vs).set j (some (kV k))) H1 (w i)) :
    EvL (tLockE (tLc (iKeys (tVar iv)) (gName j) tt te vs)) σ H (given kvs.length f w) := fun H0 e Q q => ⟨d, .dK kvs, e _ _ hd, trivial, fun od => ⟨_, hv, d, od, rfl, .inl ⟨kvs, upd_same, fun Dl hD => by
    have hdl : Dl ≠ d := fun z => by rw [z, upd_same] at hD; cases hD
    have hD0 : H0 Dl = none := by rw [upd_ne hdl] at hD; exact hD
    have eb : Ex (upd H d (.frz od (.dK kvs))) (upd H0 d (.frz od (.dK kvs))) := fun a o h => by
      by_cases c : a = d
      · subst c; rw [upd_same] at h; rw [upd_same]; exact h
      · rw [upd_ne c] at h; rw [upd_ne c]; exact e a o h
    refine lc_it (walk_keys (d := d) (o := od) (kvs := kvs)) (Cw (upd H0 d (.frz od (.dK kvs))) f w Dl) ⟨hD, Ex.new hD, upd_same⟩ (fun i H' _ p => p.2.1 d _ upd_same) (fun i x H' H'' hi p ⟨e1, k, v, hk, ex⟩ => ?_) fun H' p => ⟨p.2.1 d _ upd_same, ?_⟩
    · subst e1; subst ex
      exact ⟨hw _, cw_turn p (by omega) (ht od i k v _ eb hk) fun hf => he od i k v _ eb hk hf⟩
    · exact q Dl _ hD0 (ex_unlock (e _ _ hd) p.2.1) (by rw [upd_ne hdl]; exact p.2.2)⟩⟩⟩
end
/-- the same where the elements are told by a list -/
theorem given_all {n : Nat} {w : Nat → V} {xs : List V} (hn : xs.length = n) (h : ∀ i, i < n → xs[i]? = some (w i)) : given n (fun _ => true) w = xs := by
  unfold given
  rw [List.filter_eq_self.mpr fun _ _ => rfl]
  refine List.ext_getElem? fun i => ?_
  rw [List.getElem?_map]
  by_cases c : i < n
  · rw [h i c, List.getElem?_range c]; rfl
  · rw [List.getElem?_eq_none (l := xs) (by rw [hn]; omega), List.getElem?_eq_none (by rw [List.length_range]; omega)]; rfl
theorem given_filter {α : Type} (f : α → Bool) (w : α → V) (l : List α) (fi : Nat → Bool) (wi : Nat → V) (h : ∀ i a, l[i]? = some a → fi i = f a ∧ (f a = true → wi i = w a)) : given l.length fi wi = (l.filter f).map w := by
  have gen : ∀ (l : List α) (m : Nat), (∀ i a, l[i]? = some a → fi (m + i) = f a ∧ (f a = true → wi (m + i) = w a)) → (((List.range l.length).map (m + ·)).filter fi).map wi = (l.filter f).map w := by
    intro l
    induction l with
    | nil => intro m _; rfl
    | cons a r ih =>
      intro m hh
      have h0 := hh 0 a rfl
      have hr := ih (m + 1) fun i b hb => by
        have := hh (i + 1) b (by simpa using hb)
        have e : m + (i + 1) = m + 1 + i := by omega
        rw [e] at this; exact this
      have er : (List.range (a :: r).length).map (m + ·) = m :: (List.range r.length).map (m + 1 + ·) := by
        rw [List.length_cons, List.range_succ_eq_map, List.map_cons, List.map_map]
        congr 1
        apply List.map_congr_left
        intro i _
        simp only [Function.comp]; omega
      rw [er, List.filter_cons, List.filter_cons]
      have e0 : fi m = f a := h0.1
      rw [e0]
      by_cases c : f a = true
      · rw [if_pos c, if_pos c, List.map_cons, List.map_cons, hr]
        congr 1
        exact h0.2 c
      · rw [if_neg c, if_neg c]; exact hr
  have := gen l 0 (by simpa using h)
  unfold given
  simpa using this

def atB {α : Type} (l : List α) (f : α → Bool) (i : Nat) : Bool := ((l[i]?).map f).getD false
def atV {α : Type} (l : List α) (u : α → V) (i : Nat) : V := ((l[i]?).map u).getD .non
theorem at_ok {α : Type} {l : List α} {f : α → Bool} {u : α → V} {i : Nat} {a : α} (e : l[i]? = some a) : atB l f i = f a ∧ (f a = true → atV l u i = u a) := by
  unfold atB atV
  rw [e]
  exact ⟨rfl, fun _ => rfl⟩
section
variable {K : PySem.W.Frag} {σ : St} {H H' : Hp} {ta tb te tx tl : TE} {tt : TT} {vs : List Nat} {j : Nat}
/-- [e for x in xs if ..], the items told by a list l -/
theorem el_lcF {α : Type} {a : Addr} (l : List α) (w : α → V) (f : α → Bool) (u : α → V) (h : Ev tl σ H (.ref a)) (hx : SqL K H a (l.map w)) (hz : l.length ≤ 40000) (hw : ∀ x, wipe ((wipe σ vs).set j (some x)) vs = wipe σ vs)
    (ht : ∀ x ∈ l, ∀ H1, Ex H H1 → EvT tt ((wipe σ vs).set j (some (w x))) H1 (f x)) (he : ∀ x ∈ l, ∀ H1, Ex H H1 → f x = true → Ev te ((wipe σ vs).set j (some (w x))) H1 (u x)) :
    EvL (tLc (iList K tl) (gName j) tt te vs) σ H ((l.filter f).map u) := by
  have g := given_filter f u l (atB l f) (atV l u) fun i a e => at_ok e
  rw [← g]
  have r : EvL (tLc (iList K tl) (gName j) tt te vs) σ H (given (l.map w).length (atB l f) (atV l u)) := by
    refine el_lcL _ _ h hx (by rw [List.length_map]; exact hz) hw (fun i x H1 e hi => ?_) (fun i x H1 e hi hf => ?_)
    · rw [List.getElem?_map] at hi
      obtain ⟨b, q, rfl⟩ := Option.map_eq_some_iff.mp hi
      rw [(at_ok (f := f) (u := u) q).1]
      exact ht b (List.mem_of_getElem? q) H1 e
    · rw [List.getElem?_map] at hi
      obtain ⟨b, q, rfl⟩ := Option.map_eq_some_iff.mp hi
      rw [(at_ok (f := f) (u := u) q).1] at hf
      rw [(at_ok (f := f) (u := u) q).2 hf]
      exact he b (List.mem_of_getElem? q) H1 e hf
  rw [List.length_map] at r
  exact r
/-- [e for k in d if ..] -/
theorem el_lcKF {iv : Nat} {d : Addr} (l : List (Key × V)) (f : Key → Bool) (u : Key → V) (hv : σ[iv]? = some (some (.ref d))) (hd : H d = some (.dK l)) (hz : l.length ≤ 40000) (hw : ∀ x, wipe ((wipe σ vs).set j (some x)) vs = wipe σ vs)
    (ht : ∀ od, ∀ k ∈ l.map (·.1), ∀ H1, Ex (upd H d (.frz od (.dK l))) H1 → EvT tt ((wipe σ vs).set j (some (kV k))) H1 (f k)) (he : ∀ od, ∀ k ∈ l.map (·.1), ∀ H1, Ex (upd H d (.frz od (.dK l))) H1 → f k = true → Ev te ((wipe σ vs).set j (some (kV k))) H1 (u k)) :
    EvL (tLockE (tLc (iKeys (tVar iv)) (gName j) tt te vs)) σ H (((l.map (·.1)).filter f).map u) := by
  have g := given_filter f u (l.map (·.1)) (atB (l.map (·.1)) f) (atV (l.map (·.1)) u) fun i a e => at_ok e
  rw [← g, List.length_map]
  refine el_lcK _ _ hv hd hz hw (fun od i k v H1 e hi => ?_) (fun od i k v H1 e hi hf => ?_)
  · have q : (l.map (·.1))[i]? = some k := by rw [List.getElem?_map, hi]; rfl
    rw [(at_ok (f := f) (u := u) q).1]
    exact ht od k (List.mem_of_getElem? q) H1 e
  · have q : (l.map (·.1))[i]? = some k := by rw [List.getElem?_map, hi]; rfl
    rw [(at_ok (f := f) (u := u) q).1] at hf
    rw [(at_ok (f := f) (u := u) q).2 hf]
    exact he od k (List.mem_of_getElem? q) H1 e hf
end
section
variable {σ : St} {H : Hp} {te : TE} {tt : TT} {vs : List Nat} {j : Nat} {D : Ends} {tz : TS}
/-- y = [e for k in d if ..] -/
theorem q_lcK {iv i : Nat} {d : Addr} {l : List (Key × V)} (f : Key → Bool) (u : Key → V) (hv : σ[iv]? = some (some (.ref d))) (hd : H d = some (.dK l)) (hz : l.length ≤ 40000) (hw : ∀ x, wipe ((wipe σ vs).set j (some x)) vs = wipe σ vs)
    (ht : ∀ od, ∀ k ∈ l.map (·.1), ∀ H1, Ex (upd H d (.frz od (.dK l))) H1 → EvT tt ((wipe σ vs).set j (some (kV k))) H1 (f k)) (he : ∀ od, ∀ k ∈ l.map (·.1), ∀ H1, Ex (upd H d (.frz od (.dK l))) H1 → f k = true → Ev te ((wipe σ vs).set j (some (kV k))) H1 (u k))
    (k : ∀ p H1, H p = none → Ex H H1 → H1 p = some (.lst (((l.map (·.1)).filter f).map u)) → tz D (σ.set i (some (.ref p))) H1) : tSeq (tLock (tAsg (tLc (iKeys (tVar iv)) (gName j) tt te vs) (gName i))) tz D σ H := by
  have h := el_lcKF (te := te) (tt := tt) (vs := vs) (j := j) l f u hv hd hz hw ht he H (Ex.refl H) (fun v H' => tz D (σ.set i (some v)) H') k
  exact h
end
theorem et_yes {σ : St} {H : Hp} : EvT tYes σ H true := fun H1 _ _ q => q H1 (Ex.refl H1)
theorem filter_all {α : Type} (l : List α) : l.filter (fun _ => true) = l := List.filter_eq_self.mpr fun _ _ => rfl

/-! ### what is known of a def -/
structure Df (K : PySem.W.Frag) (mg : Str → Option Value) (x : Str) (st : Stmt) (ps : List Str) (f : Addr) (fd : FuncData) : Prop where
  F : FunD K x x (defArgs st) (defBody st) (defScope st) [] [] f fd
  g : mg x = some (.ref f)
  b : Binds K fd ps []
structure Dm (K : PySem.W.Frag) (C : Addr) (x qual : Str) (st : Stmt) (ps : List Str) (f : Addr) (fd : FuncData) : Prop where
  F : FunD K x qual (defArgs st) (defBody st) (defScope st) [] [] f fd
  m : Meth K C x f
  b : Binds K fd ps []
/-- the built-ins and constants that the text names -/
structure Bi (mg : Str → Option Value) : Prop where
  len : mg "len" = none
  range : mg "range" = none
  list : mg "list" = none
  dict : mg "dict" = none
  enum : mg "enumerate" = none
  max : mg "max" = none
  min : mg "min" = none
  sorted : mg "sorted" = none
  set : mg "set" = none
  int : mg "int" = none
  str : mg "str" = none
  bool : mg "bool" = none
  isi : mg "isinstance" = none
  LIMIT : ∃ t, mg "LIMIT" = some (.int 1000000000 t)
  LONGEST : ∃ t, mg "LONGEST" = some (.int 12 t)
  LEFTS : ∃ t, mg "MOST_LEFTS" = some (.int 40 t)
  PLACES : ∃ t, mg "MOST_PLACES" = some (.int 12 t)
  WAYS : ∃ t, mg "MOST_WAYS" = some (.int 60 t)
  TRIPS : ∃ t, mg "MOST_TRIPS" = some (.int 40 t)
  SIGNS : ∃ t, mg "SIGNS" = some (.str "abcdefghijklmnopqrstuvwxyz0123456789" t)
end K49
/-! K49Data -/
/-! What stands in the heap: roads, tables, rows. -/
namespace K49
open PySem L2 Evl

abbrev kS (x : Str) : Key := Sum.inr x
abbrev kI (i : Int) : Key := Sum.inl i
structure Trip where
  name : Str
  origin : Str
  goal : Str
  start : Int
  finish : Int
  seats : Int
def Trip.vs (t : Trip) : List V := [.str t.name, .str t.origin, .str t.goal, .int t.start, .int t.finish, .int t.seats]

/-! ### fields -/
def rF (t l r : Addr) : List (Str × V) := [("towns", .ref t), ("lanes", .ref l), ("reached", .ref r)]
def tF (r b : Addr) : List (Str × V) := [("roads", .ref r), ("board", .ref b)]
theorem ne_tl : ¬ (("towns" : Str) = "lanes") := by decide +kernel
theorem ne_tr : ¬ (("towns" : Str) = "reached") := by decide +kernel
theorem ne_lr : ¬ (("lanes" : Str) = "reached") := by decide +kernel
theorem ne_rb : ¬ (("roads" : Str) = "board") := by decide +kernel
theorem lookup_c (f g : Str) (v : V) (r : List (Str × V)) : List.lookup f ((g, v) :: r) = if f = g then some v else List.lookup f r := by
  rw [List.lookup_cons]
  by_cases e : f = g
  · subst e; simp
  · have : (f == g) = false := by simpa using e
    rw [this, if_neg e]
theorem rF_towns (t l r : Addr) : (rF t l r).lookup ("towns" : Str) = some (.ref t) := by unfold rF; rw [lookup_c, if_pos rfl]
theorem rF_lanes (t l r : Addr) : (rF t l r).lookup ("lanes" : Str) = some (.ref l) := by unfold rF; rw [lookup_c, if_neg (fun z => ne_tl z.symm), lookup_c, if_pos rfl]
theorem rF_reached (t l r : Addr) : (rF t l r).lookup ("reached" : Str) = some (.ref r) := by unfold rF; rw [lookup_c, if_neg (fun z => ne_tr z.symm), lookup_c, if_neg (fun z => ne_lr z.symm), lookup_c, if_pos rfl]
theorem rF_no (t l r : Addr) {m : Str} (h1 : ¬ m = "towns" := by decide +kernel) (h2 : ¬ m = "lanes" := by decide +kernel) (h3 : ¬ m = "reached" := by decide +kernel) : (rF t l r).lookup m = none := by
  unfold rF; rw [lookup_c, if_neg h1, lookup_c, if_neg h2, lookup_c, if_neg h3]; rfl
theorem tF_roads (r b : Addr) : (tF r b).lookup ("roads" : Str) = some (.ref r) := by unfold tF; rw [lookup_c, if_pos rfl]
theorem tF_board (r b : Addr) : (tF r b).lookup ("board" : Str) = some (.ref b) := by unfold tF; rw [lookup_c, if_neg (fun z => ne_rb z.symm), lookup_c, if_pos rfl]
theorem tF_no (r b : Addr) {m : Str} (h1 : ¬ m = "roads" := by decide +kernel) (h2 : ¬ m = "board" := by decide +kernel) : (tF r b).lookup m = none := by
  unfold tF; rw [lookup_c, if_neg h1, lookup_c, if_neg h2]; rfl

/-! ### roads -/
structure RoadsAt (CR : Addr) (H : Hp) (p : Addr) (ps : List Str) (D : Str → Str → Int) : Prop where
  ex : ∃ (dx t l r : Addr) (kvs : List (Key × V)), H p = some (.ins CR dx (rF t l r)) ∧ H t = some (.lst (ps.map V.str)) ∧ Rd H r (.dK kvs) ∧
    ∀ a ∈ ps, ∃ (h : Addr) (hk : List (Key × V)), valV kvs (kS a) = some (.ref h) ∧ Rd H h (.dK hk) ∧ ∀ b ∈ ps, valV hk (kS b) = some (.int (D a b))
theorem RoadsAt.mono {CR : Addr} {H H' : Hp} {p : Addr} {ps : List Str} {D : Str → Str → Int} (R : RoadsAt CR H p ps D) (e : ExR H H') : RoadsAt CR H' p ps D := by
  obtain ⟨dx, t, l, r, kvs, h1, h2, h3, h4⟩ := R.ex
  refine ⟨dx, t, l, r, kvs, e.ins h1, e.lst h2, e.rd h3, fun a ha => ?_⟩
  obtain ⟨h, hk, q1, q2, q3⟩ := h4 a ha
  exact ⟨h, hk, q1, e.rd q2, q3⟩
theorem RoadsAt.ex' {CR : Addr} {H H' : Hp} {p : Addr} {ps : List Str} {D : Str → Str → Int} (R : RoadsAt CR H p ps D) (e : Ex H H') : RoadsAt CR H' p ps D := R.mono (exr e)

/-! ### trips by their names -/
structure BoardAt (H : Hp) (b : Addr) (ts : List Trip) (ad : Str → Addr) : Prop where
  ex : ∃ kvs : List (Key × V), Rd H b (.dK kvs) ∧ kvs.map (·.1) = ts.map (fun t => kS t.name) ∧ ∀ t ∈ ts, valV kvs (kS t.name) = some (.ref (ad t.name))
  tup : ∀ t ∈ ts, H (ad t.name) = some (.tup t.vs)
theorem BoardAt.mono {H H' : Hp} {b : Addr} {ts : List Trip} {ad : Str → Addr} (B : BoardAt H b ts ad) (e : ExR H H') : BoardAt H' b ts ad := by
  obtain ⟨kvs, h1, h2, h3⟩ := B.ex
  exact ⟨⟨kvs, e.rd h1, h2, h3⟩, fun t ht => e.tup (B.tup t ht)⟩
structure Office where
  ps : List Str
  D : Str → Str → Int
  ts : List Trip
  /-- where each trip's tuple stands -/
  ad : Str → Addr
def Office.names (o : Office) : List Str := o.ts.map fun t => t.name
/-- what of an office the plain laws ask -/
structure Office.Ok (o : Office) : Prop where
  nd : o.names.Nodup
  few : o.ts.length ≤ 40
  org : ∀ t ∈ o.ts, t.origin ∈ o.ps
  goal : ∀ t ∈ o.ts, t.goal ∈ o.ps
  nn : ∀ a ∈ o.ps, ∀ b ∈ o.ps, 0 ≤ o.D a b
  tri : ∀ a ∈ o.ps, ∀ b ∈ o.ps, ∀ c ∈ o.ps, o.D a b ≤ o.D a c + o.D c b
  dg : ∀ a ∈ o.ps, o.D a a = 0
  fwd : ∀ t ∈ o.ts, t.start < t.finish
  slow : ∀ t ∈ o.ts, o.D t.origin t.goal ≤ t.finish - t.start
structure TableAt (CT CR : Addr) (H : Hp) (p : Addr) (o : Office) : Prop where
  ex : ∃ dx q b : Addr, H p = some (.ins CT dx (tF q b)) ∧ RoadsAt CR H q o.ps o.D ∧ BoardAt H b o.ts o.ad
theorem TableAt.mono {CT CR : Addr} {H H' : Hp} {p : Addr} {o : Office} (T : TableAt CT CR H p o) (e : ExR H H') : TableAt CT CR H' p o := by
  obtain ⟨dx, q, b, h1, h2, h3⟩ := T.ex
  exact ⟨dx, q, b, e.ins h1, h2.mono e, h3.mono e⟩
theorem TableAt.tup {CT CR : Addr} {H : Hp} {p : Addr} {o : Office} (T : TableAt CT CR H p o) {t : Trip} (ht : t ∈ o.ts) : H (o.ad t.name) = some (.tup t.vs) := by
  obtain ⟨dx, q, b, h1, h2, h3⟩ := T.ex
  exact h3.tup t ht
theorem TableAt.ex' {CT CR : Addr} {H H' : Hp} {p : Addr} {o : Office} (T : TableAt CT CR H p o) (e : Ex H H') : TableAt CT CR H' p o := T.mono (exr e)

/-- a list of texts -/
def StrsAt (K : PySem.W.Frag) (H : Hp) (p : Addr) (xs : List Str) : Prop := SqL K H p (xs.map V.str)
/-- a dict: keys in their order, each with a list of texts -/
structure RowsAt (H : Hp) (d : Addr) (ks : List Key) (row : Key → List Str) : Prop where
  ex : ∃ kvs : List (Key × V), Rd H d (.dK kvs) ∧ kvs.map (·.1) = ks ∧ ∀ k ∈ ks, ∃ a : Addr, valV kvs k = some (.ref a) ∧ H a = some (.lst ((row k).map V.str))
theorem RowsAt.mono {H H' : Hp} {d : Addr} {ks : List Key} {row : Key → List Str} (R : RowsAt H d ks row) (e : ExR H H') : RowsAt H' d ks row := by
  obtain ⟨kvs, h1, h2, h3⟩ := R.ex
  refine ⟨kvs, e.rd h1, h2, fun k hk => ?_⟩
  obtain ⟨a, q1, q2⟩ := h3 k hk
  exact ⟨a, q1, e.lst q2⟩
/-- lists of texts in a list -/
def ListsAt (H : Hp) (as : List Addr) (xss : List (List Str)) : Prop := Paired (fun a xs => H a = some (.lst (xs.map V.str))) as xss
theorem ListsAt.mono {H H' : Hp} {as : List Addr} {xss : List (List Str)} (R : ListsAt H as xss) (e : ExR H H') : ListsAt H' as xss := Paired.mapP R fun _ _ h => e.lst h
def LL (H : Hp) (p : Addr) (xss : List (List Str)) : Prop := ∃ as : List Addr, H p = some (.lst (as.map V.ref)) ∧ ListsAt H as xss
theorem LL.mono {H H' : Hp} {p : Addr} {xss : List (List Str)} (R : LL H p xss) (e : ExR H H') : LL H' p xss := by
  obtain ⟨as, h1, h2⟩ := R
  exact ⟨as, e.lst h1, h2.mono e⟩

/-- the classes as the top has made them -/
structure Cl (K : PySem.W.Frag) (mg : Str → Option Value) (CR CT : Addr) : Prop where
  R : Cls K CR
  T : Cls K CT
  gR : mg "Roads" = some (.ref CR)
  gT : mg "Table" = some (.ref CT)
  nTowns : NoAttr K CR "towns"
  nLanes : NoAttr K CR "lanes"
  nReached : NoAttr K CR "reached"
  nRoads : NoAttr K CT "roads"
  nBoard : NoAttr K CT "board"
end K49
/-! K49Tx -/
/-! All that is known of the text. -/
namespace K49
open PySem L2 Evl
/-- a class's __init__ -/
structure Di (K : PySem.W.Frag) (C : Addr) (qual : Str) (st : Stmt) (ps : List Str) (f : Addr) (fd : FuncData) : Prop where
  F : FunD K "__init__" qual (defArgs st) (defBody st) (defScope st) [] [] f fd
  m : Mk K C f
  b : Binds K fd ps []
/-- an error's class and its __init__ -/
structure Dx (K : PySem.W.Frag) (mg : Str → Option Value) (C : Addr) (qual : Str) (st : Stmt) (ps : List Str) (f : Addr) (fd : FuncData) : Prop where
  F : FunD K "__init__" qual (defArgs st) (defBody st) (defScope st) [] [] f fd
  b : Binds K fd ps []
  g : mg "TooFew" = some (.ref C)
  x : OexC K C
  i : PySem.W.findIn K (.ref C) "__init__" = some (some (.ref f))
  t : PySem.W.typeIn K (.ref f) = some (.type "function")
  nl : PySem.W.findIn K (.ref C) "lefts" = some none
  nr : PySem.W.findIn K (.ref C) "rights" = some none
  ga : PySem.W.findIn K (.ref C) "__getattribute__" = some (some (.builtin "BaseException.__getattribute__"))
  gg : PySem.W.findIn K (.ref C) "__getattr__" = some none
  hd : PySem.W.hasDictIn K C = true
  te : PySem.W.exmOne K (.ref C) (.ref C) = some true
structure Tx (K : PySem.W.Frag) (mg : Str → Option Value) where
  CR : Addr
  CT : Addr
  CF : Addr
  cN : Addr
  PN : Addr
  C : Cl K mg CR CT
  B : Bi mg
  f_gap : Addr
  fd_gap : FuncData
  d_gap : Df K mg "gap" s_gap ["table", "one", "other"] f_gap fd_gap
  f_linked : Addr
  fd_linked : FuncData
  d_linked : Df K mg "linked" s_linked ["table", "one", "other"] f_linked fd_linked
  f_links : Addr
  fd_links : FuncData
  d_links : Df K mg "links" s_links ["table"] f_links fd_links
  f_check_place : Addr
  fd_check_place : FuncData
  d_check_place : Df K mg "check_place" s_check_place ["table", "home"] f_check_place fd_check_place
  f_check_links : Addr
  fd_check_links : FuncData
  d_check_links : Df K mg "check_links" s_check_links ["table", "names"] f_check_links fd_check_links
  f_check_row : Addr
  fd_check_row : FuncData
  d_check_row : Df K mg "check_row" s_check_row ["table", "home", "names"] f_check_row fd_check_row
  f_minutes_between : Addr
  fd_minutes_between : FuncData
  d_minutes_between : Df K mg "minutes_between" s_minutes_between ["table", "origin", "goal"] f_minutes_between fd_minutes_between
  f_block_length : Addr
  fd_block_length : FuncData
  d_block_length : Df K mg "block_length" s_block_length ["table", "home", "names"] f_block_length fd_block_length
  f_cut : Addr
  fd_cut : FuncData
  d_cut : Df K mg "cut" s_cut ["table", "home", "names", "limit"] f_cut fd_cut
  f_leg_of : Addr
  fd_leg_of : FuncData
  d_leg_of : Df K mg "leg_of" s_leg_of ["table", "home", "at", "trip", "final"] f_leg_of fd_leg_of
  f_legs : Addr
  fd_legs : FuncData
  d_legs : Df K mg "legs" s_legs ["table", "home", "blocks"] f_legs fd_legs
  f_checked_name : Addr
  fd_checked_name : FuncData
  d_checked_name : Df K mg "checked_name" s_checked_name ["name"] f_checked_name fd_checked_name
  f_checked_number : Addr
  fd_checked_number : FuncData
  d_checked_number : Df K mg "checked_number" s_checked_number ["value", "least"] f_checked_number fd_checked_number
  f_check_rows : Addr
  fd_check_rows : FuncData
  d_check_rows : Df K mg "check_rows" s_check_rows ["rows"] f_check_rows fd_check_rows
  f_find_one : Addr
  fd_find_one : FuncData
  d_find_one : Df K mg "find_one" s_find_one ["rows", "left", "seen", "owners"] f_find_one fd_find_one
  f_owners_of : Addr
  fd_owners_of : FuncData
  d_owners_of : Df K mg "owners_of" s_owners_of ["rows"] f_owners_of fd_owners_of
  f_matching : Addr
  fd_matching : FuncData
  d_matching : Df K mg "matching" s_matching ["rows"] f_matching fd_matching
  f_reached : Addr
  fd_reached : FuncData
  d_reached : Df K mg "reached" s_reached ["rows", "owners"] f_reached fd_reached
  f_cover : Addr
  fd_cover : FuncData
  d_cover : Df K mg "cover" s_cover ["rows"] f_cover fd_cover
  f_lacking : Addr
  fd_lacking : FuncData
  d_lacking : Df K mg "lacking" s_lacking ["rows"] f_lacking fd_lacking
  f_dealt : Addr
  fd_dealt : FuncData
  d_dealt : Df K mg "dealt" s_dealt ["rows"] f_dealt fd_dealt
  f_check_cars : Addr
  fd_check_cars : FuncData
  d_check_cars : Df K mg "check_cars" s_check_cars ["cars"] f_check_cars fd_check_cars
  f_fit_cars : Addr
  fd_fit_cars : FuncData
  d_fit_cars : Df K mg "fit_cars" s_fit_cars ["table", "home", "blocks", "cars"] f_fit_cars fd_fit_cars
  f_give_cars : Addr
  fd_give_cars : FuncData
  d_give_cars : Df K mg "give_cars" s_give_cars ["table", "home", "blocks", "cars"] f_give_cars fd_give_cars
  f_check_behind : Addr
  fd_check_behind : FuncData
  d_check_behind : Df K mg "check_behind" s_check_behind ["order", "first"] f_check_behind fd_check_behind
  f_check_order : Addr
  fd_check_order : FuncData
  d_check_order : Df K mg "check_order" s_check_order ["order"] f_check_order fd_check_order
  f_chains : Addr
  fd_chains : FuncData
  d_chains : Df K mg "chains" s_chains ["order"] f_chains fd_chains
  f_apart : Addr
  fd_apart : FuncData
  d_apart : Df K mg "apart" s_apart ["order"] f_apart fd_apart
  f_check_roads : Addr
  fd_check_roads : FuncData
  d_check_roads : Df K mg "check_roads" s_check_roads ["places", "ways"] f_check_roads fd_check_roads
  f_heights_from : Addr
  fd_heights_from : FuncData
  d_heights_from : Df K mg "heights_from" s_heights_from ["origin", "ways"] f_heights_from fd_heights_from
  f_check_trip : Addr
  fd_check_trip : FuncData
  d_check_trip : Df K mg "check_trip" s_check_trip ["roads", "board", "trip"] f_check_trip fd_check_trip
  f_l_draw : Addr
  fd_l_draw : FuncData
  d_l_draw : Df K mg "_law_draw" s_l_draw ["_law_script", "_law_k", "_law_many"] f_l_draw fd_l_draw
  f_l_name : Addr
  fd_l_name : FuncData
  d_l_name : Df K mg "_law_name" s_l_name ["_law_script", "_law_k", "_law_number"] f_l_name fd_l_name
  f_l_ways : Addr
  fd_l_ways : FuncData
  d_l_ways : Df K mg "_law_ways" s_l_ways ["_law_script", "_law_places", "_law_scale"] f_l_ways fd_l_ways
  f_l_lengths : Addr
  fd_l_lengths : FuncData
  d_l_lengths : Df K mg "_law_lengths" s_l_lengths ["_law_places", "_law_ways_here"] f_l_lengths fd_l_lengths
  f_l_trips : Addr
  fd_l_trips : FuncData
  d_l_trips : Df K mg "_law_trips" s_l_trips ["_law_script", "_law_places", "_law_far", "_law_scale"] f_l_trips fd_l_trips
  f_l_linked : Addr
  fd_l_linked : FuncData
  d_l_linked : Df K mg "_law_linked" s_l_linked ["_law_far", "_law_one", "_law_other"] f_l_linked fd_l_linked
  f_l_length : Addr
  fd_l_length : FuncData
  d_l_length : Df K mg "_law_length" s_l_length ["_law_far", "_law_home", "_law_row"] f_l_length fd_l_length
  f_l_rows : Addr
  fd_l_rows : FuncData
  d_l_rows : Df K mg "_law_rows" s_l_rows ["_law_told", "_law_trips_here", "_law_far"] f_l_rows fd_l_rows
  f_l_apart : Addr
  fd_l_apart : FuncData
  d_l_apart : Df K mg "_law_apart" s_l_apart ["_law_told", "_law_trips_here", "_law_far"] f_l_apart fd_l_apart
  f_l_like : Addr
  fd_l_like : FuncData
  d_l_like : Df K mg "_law_like" s_l_like ["_law_one", "_law_other"] f_l_like fd_l_like
  f_l_few : Addr
  fd_l_few : FuncData
  d_l_few : Df K mg "_law_few" s_l_few ["_law_paper", "_law_rows_here"] f_l_few fd_l_few
  f_l_given : Addr
  fd_l_given : FuncData
  d_l_given : Df K mg "_law_given" s_l_given ["_law_table", "_law_home", "_law_blocks_here", "_law_cars_here", "_law_fit"] f_l_given fd_l_given
  f_l_cars : Addr
  fd_l_cars : FuncData
  d_l_cars : Df K mg "_law_cars" s_l_cars ["_law_script", "_law_longest"] f_l_cars fd_l_cars
  f_l_blocks : Addr
  fd_l_blocks : FuncData
  d_l_blocks : Df K mg "_law_blocks" s_l_blocks ["_law_table", "_law_home", "_law_rows_here", "_law_limit"] f_l_blocks fd_l_blocks
  f_l_legs : Addr
  fd_l_legs : FuncData
  d_l_legs : Df K mg "_law_legs" s_l_legs ["_law_roads", "_law_table", "_law_home", "_law_blocks_here"] f_l_legs fd_l_legs
  f_law : Addr
  fd_law : FuncData
  d_law : Df K mg "law" s_law ["_law_script"] f_law fd_law
  f_rnames : Addr
  fd_rnames : FuncData
  M_rnames : Dm K CR "names" "Roads.names" s_Roads_names ["self"] f_rnames fd_rnames
  f_len : Addr
  fd_len : FuncData
  M_len : Dm K CR "length" "Roads.length" s_Roads_length ["self", "origin", "goal"] f_len fd_len
  f_tnames : Addr
  fd_tnames : FuncData
  M_tnames : Dm K CT "names" "Table.names" s_Table_names ["self"] f_tnames fd_tnames
  f_trip : Addr
  fd_trip : FuncData
  M_trip : Dm K CT "trip" "Table.trip" s_Table_trip ["self", "name"] f_trip fd_trip
  f_rinit : Addr
  fd_rinit : FuncData
  I_rinit : Di K CR "Roads.__init__" s_Roads_init ["self", "places", "ways"] f_rinit fd_rinit
  f_tinit : Addr
  fd_tinit : FuncData
  I_tinit : Di K CT "Table.__init__" s_Table_init ["self", "roads", "trips"] f_tinit fd_tinit
  code_tnames : fd_tnames.code = .ref cN
  f_finit : Addr
  fd_finit : FuncData
  X_finit : Dx K mg CF "TooFew.__init__" s_TooFew_init ["self", "lefts", "rights"] f_finit fd_finit
end K49
/-! K49D1 -/
/-! Roads.names, Roads.length, Table.trip, gap, linked, links. -/
namespace K49
open PySem L2 Evl
section
variable {P : Program} {w : World} {K : PySem.W.Frag} {mg : Str → Option Value} {base : Heap} {CR CT f : Addr} {fd : FuncData}

theorem sc_trip : FnScope ["self", "name"] ["self", "name"] (defScope s_Table_trip) := ⟨rfl, rfl, rfl, by decide +kernel, rfl, by decide +kernel, by decide +kernel⟩
def spTrip (CT CR : Addr) : Sp := fun vs H Q _ => ∃ (p : Addr) (o : Office) (t : Trip), vs = [.ref p, .str t.name] ∧ TableAt CT CR H p o ∧ t ∈ o.ts ∧ RetV (.ref (o.ad t.name)) H Q
theorem ok_trip (M : Dm K CT "trip" "Table.trip" s_Table_trip ["self", "name"] f fd) (C : Cl K mg CR CT) : FnOk P w K mg base CX0 1 f fd ["self", "name"] (spTrip CT CR) := by
  refine M.F.ok sc_trip (fun vs H Q E h => ?_) (fun cdv A outer s H vs Q E hr h => ?_)
  · obtain ⟨p, o, t, rfl, _⟩ := h
    rfl
  obtain ⟨p, o, t, rfl, hT, ht, k⟩ := h
  have hu := hu_of hr
  obtain ⟨dx, q, b, h1, h2, h3⟩ := hT.ex
  obtain ⟨kvs, b1, b2, b3⟩ := h3.ex
  have a1 := b3 t ht
  refine ⟨_, PSs.nox (pss_cons (ps_if (pt_cmp (pc_dnotin hu (pv 1) (pe_fld (pv 0) rfl))) (pss_one ps_never) pss_nil)
    (pss_one (ps_ret (pe_dget hu (pe_fld (pv 0) rfl) (pv 1) (fun _ _ => rfl))))), ?_⟩
  refine q_when (b := false) (et_is (et_B (ev_dnotin (ev_var rfl) (ev_fld (ev_var rfl) h1 C.T C.nBoard (tF_board _ _)) (dget_rd (k := kS t.name) b1))) (by rw [a1]; rfl)) (fun z => by cases z) (fun _ H1 e1 => ?_)
  exact s_ret (ev_dget (ev_fld (ev_var rfl) (e1 _ _ h1) C.T C.nBoard (tF_board _ _)) (ev_var rfl) (by rw [← a1]; exact dget_ex e1 (dget_rd (k := kS t.name) b1))) fun H2 e2 => k H2 (e1.trans e2)

theorem sc_rnames : FnScope ["self"] ["self"] (defScope s_Roads_names) := ⟨rfl, rfl, rfl, by decide +kernel, rfl, by decide +kernel, by decide +kernel⟩
def spRNames (CR : Addr) : Sp := fun vs H Q _ => ∃ (p : Addr) (ps : List Str) (D : Str → Str → Int), vs = [.ref p] ∧ RoadsAt CR H p ps D ∧ RetL (ps.map V.str) H Q
theorem ok_rnames (M : Dm K CR "names" "Roads.names" s_Roads_names ["self"] f fd) (C : Cl K mg CR CT) (B : Bi mg) : FnOk P w K mg base CX0 1 f fd ["self"] (spRNames CR) := by
  refine M.F.ok sc_rnames (fun vs H Q E h => ?_) (fun cdv A outer s H vs Q E hr h => ?_)
  · obtain ⟨p, ps, D, rfl, _⟩ := h
    rfl
  obtain ⟨p, ps, D, rfl, hR, k⟩ := h
  obtain ⟨dx, t, l, r, kvs, h1, h2, h3, h4⟩ := hR.ex
  refine ⟨_, PSs.nox (pss_one (ps_ret (pe_callTy call_list_of (by rfl) B.list (by decide +kernel) (pa_cons (pe_fld (pv 0) rfl) pa_nil)))), ?_⟩
  exact s_retL (el_list (ev_fld (ev_var rfl) h1 C.R C.nTowns (rF_towns _ _ _)) (sq_of h2)) fun p H1 hp e1 h => k p H1 hp e1 h

theorem sc_length : FnScope ["self", "origin", "goal", "place"] ["self", "origin", "goal"] (defScope s_Roads_length) := ⟨rfl, rfl, rfl, by decide +kernel, rfl, by decide +kernel, by decide +kernel⟩
def spLength (CR : Addr) : Sp := fun vs H Q _ => ∃ (p : Addr) (ps : List Str) (D : Str → Str → Int) (a b : Str), vs = [.ref p, .str a, .str b] ∧ RoadsAt CR H p ps D ∧ a ∈ ps ∧ b ∈ ps ∧ RetV (.int (D a b)) H Q
theorem ok_length (M : Dm K CR "length" "Roads.length" s_Roads_length ["self", "origin", "goal"] f fd) (C : Cl K mg CR CT) : FnOk P w K mg base CX0 1 f fd ["self", "origin", "goal"] (spLength CR) := by
  refine M.F.ok sc_length (fun vs H Q E h => ?_) (fun cdv A outer s H vs Q E hr h => ?_)
  · obtain ⟨p, ps, D, a, b, rfl, _⟩ := h
    rfl
  obtain ⟨p, ps, D, a, b, rfl, hR, ha, hb, k⟩ := h
  have hu := hu_of hr
  refine ⟨_, PSs.nox (pss_cons (ps_for PassesOwn.never rfl (pi_list (pe_lst (pa_cons (pv 1) (pa_cons (pv 2) pa_nil)))) (pg_name (i := 3) sc_length.nd rfl (Or.inl rfl))
      (pss_one (ps_if (pt_cmp (pc_dnotin hu (pv 3) (pe_fld (pv 0) rfl))) (pss_one ps_never) pss_nil)))
    (pss_one (ps_ret (pe_dget1 hu (pe_dget hu (pe_fld (pv 0) rfl) (pv 1) (fun _ _ => rfl)) (pv 2) ⟨rfl, rfl, rfl, rfl⟩)))), ?_⟩
  obtain ⟨dx, t, l, r, kvs, h1, h2, h3, h4⟩ := hR.ex
  obtain ⟨h, hk, q1, q2, q3⟩ := h4 a ha
  refine q_forNLn (el_lst (ea_cons (ev_var rfl) (ea_cons (ev_var rfl) ea_nil)) (by simp)) (fun p' i σ' H' => (∃ v, σ' = [some (.ref p), some (.str a), some (.str b), v]) ∧ Ex H H' ∧ H' p' = some (.lst [.str a, .str b])) (fun p' H1 _ e h => ⟨⟨_, rfl⟩, e, h⟩) (fun p' i σ' H' _ z => sq_of z.2.2) ?_ ?_
  · rintro p' i x σ' H' hx ⟨⟨v, rfl⟩, e, hp⟩
    have hc : ∃ c ∈ ps, x = .str c := by
      match i, hx with
      | 0, hx => exact ⟨a, ha, (Option.some.inj hx).symm⟩
      | 1, hx => exact ⟨b, hb, (Option.some.inj hx).symm⟩
      | i + 2, hx => cases hx
    obtain ⟨c, hc, rfl⟩ := hc
    obtain ⟨h', hk', q1', _, _⟩ := h4 c hc
    refine s_when (b := false) (et_is (et_B (ev_dnotin (ev_var rfl) (ev_fld (ev_var rfl) (e _ _ h1) C.R C.nReached (rF_reached _ _ _)) (dget_ex e (dget_rd (k := kS c) h3)))) (by rw [q1']; rfl)) (fun z => by cases z) (fun _ H1 e1 => ?_)
    exact ⟨⟨_, rfl⟩, e.trans e1, e1 _ _ hp⟩
  · rintro p' σ' H' ⟨⟨v, rfl⟩, e, hp⟩
    exact s_ret (ev_dget1 (ev_dget (ev_fld (ev_var rfl) (e _ _ h1) C.R C.nReached (rF_reached _ _ _)) (ev_var rfl) (by rw [← q1]; exact dget_ex e (dget_rd (k := kS a) h3))) (k := kS b) (ev_var rfl) (ex_rd e q2) (q3 b hb)) fun H2 e2 => k H2 (e.trans e2)
end
end K49
/-! K49D2 -/
/-! gap, linked, links. -/
namespace K49
open PySem L2 Evl
section
variable {P : Program} {w : World} {K : PySem.W.Frag} {mg : Str → Option Value} {base : Heap} {CR CT f fT fL fN fG : Addr} {fd fdT fdL fdN fdG : FuncData}

theorem spTrip_v {H : Hp} {p : Addr} {o : Office} {t : Trip} (T : TableAt CT CR H p o) (ht : t ∈ o.ts) : SpV (spTrip CT CR) [.ref p, .str t.name] H (.ref (o.ad t.name)) :=
  fun H1 e Q q E => ⟨p, o, t, rfl, T.ex' e, ht, fun H2 e2 => q H2 e2⟩
theorem spLength_v {H : Hp} {p : Addr} {ps : List Str} {D : Str → Str → Int} {a b : Str} (R : RoadsAt CR H p ps D) (ha : a ∈ ps) (hb : b ∈ ps) : SpV (spLength CR) [.ref p, .str a, .str b] H (.int (D a b)) :=
  fun H1 e Q q E => ⟨p, ps, D, a, b, rfl, R.ex' e, ha, hb, fun H2 e2 => q H2 e2⟩

theorem ev_rlen {σ : St} {H : Hp} {ta tx ty : TE} {E : XK} {q : Addr} {ps : List Str} {D : Str → Str → Int} {a b : Str} (h : Ev ta σ H (.ref q)) (R : RoadsAt CR H q ps D) (hx : Ev tx σ H (.str a)) (hy : Ev ty σ H (.str b)) (ha : a ∈ ps) (hb : b ∈ ps) :
    Ev (tMeth CR "length" (spLength CR) [] E ta (tCons tx (tCons ty tNil))) σ H (.int (D a b)) := by
  obtain ⟨dx, t, l, r, kvs, h1, _⟩ := R.ex
  exact ev_meth h h1 (rF_no _ _ _) (ea_cons hx (ea_cons hy ea_nil)) (spLength_v R ha hb)
theorem ev_trip {σ : St} {H : Hp} {ta tx : TE} {E : XK} {p : Addr} {o : Office} {t : Trip} (h : Ev ta σ H (.ref p)) (T : TableAt CT CR H p o) (hx : Ev tx σ H (.str t.name)) (ht : t ∈ o.ts) :
    Ev (tMeth CT "trip" (spTrip CT CR) [] E ta (tCons tx tNil)) σ H (.ref (o.ad t.name)) := by
  obtain ⟨dx, q, b, h1, _⟩ := T.ex
  exact ev_meth h h1 (tF_no _ _) (ea_cons hx ea_nil) (spTrip_v T ht)
/-- table.roads -/
theorem TableAt.roads {H : Hp} {p : Addr} {o : Office} (T : TableAt CT CR H p o) (C : Cl K mg CR CT) : ∃ q : Addr, RoadsAt CR H q o.ps o.D ∧ ∀ {σ : St} {H1 : Hp} {ta : TE}, Ex H H1 → Ev ta σ H1 (.ref p) → Ev (tFld K ta "roads") σ H1 (.ref q) := by
  obtain ⟨dx, q, b, h1, h2, _⟩ := T.ex
  exact ⟨q, h2, fun e h => ev_fld h (e _ _ h1) C.T C.nRoads (tF_roads _ _)⟩
theorem sc_gap : FnScope ["table", "one", "other", "ahead", "behind", "minutes"] ["table", "one", "other"] (defScope s_gap) := ⟨rfl, rfl, rfl, by decide +kernel, rfl, by decide +kernel, by decide +kernel⟩
def Office.gap (o : Office) (x y : Trip) : Int := y.start - x.finish - o.D x.goal y.origin
def spGap (CT CR : Addr) : Sp := fun vs H Q _ => ∃ (p : Addr) (o : Office) (x y : Trip), vs = [.ref p, .str x.name, .str y.name] ∧ o.Ok ∧ TableAt CT CR H p o ∧ x ∈ o.ts ∧ y ∈ o.ts ∧ RetV (.int (o.gap x y)) H Q
theorem ok_gap (d : Df K mg "gap" s_gap ["table", "one", "other"] f fd) (C : Cl K mg CR CT) (MT : Dm K CT "trip" "Table.trip" s_Table_trip ["self", "name"] fT fdT) (ML : Dm K CR "length" "Roads.length" s_Roads_length ["self", "origin", "goal"] fL fdL) :
    FnOk P w K mg base CX0 2 f fd ["table", "one", "other"] (spGap CT CR) := by
  have GT : FnOk P w K mg base CX0 1 fT fdT ["self", "name"] (spTrip CT CR) := ok_trip MT C
  have GL : FnOk P w K mg base CX0 1 fL fdL ["self", "origin", "goal"] (spLength CR) := ok_length ML C
  refine d.F.ok sc_gap (fun vs H Q E h => ?_) (fun cdv A outer s H vs Q E hr h => ?_)
  · obtain ⟨p, o, x, y, rfl, _⟩ := h
    rfl
  obtain ⟨p, o, x, y, rfl, ok, hT, hx, hy, k⟩ := h
  refine ⟨_, PSs.nox (pss_cons (ps_set (i := 3) sc_gap.nd rfl (Or.inl rfl) (pe_meth (pv 0) C.T MT.m GT hr MT.b .nil pass0 (pa_cons (pv 1) pa_nil)))
    (pss_cons (ps_set (i := 4) sc_gap.nd rfl (Or.inl rfl) (pe_meth (pv 0) C.T MT.m GT hr MT.b .nil pass0 (pa_cons (pv 2) pa_nil)))
    (pss_cons (ps_set (i := 5) sc_gap.nd rfl (Or.inl rfl) (pe_meth (pe_fld (pv 0) rfl) C.R ML.m GL hr ML.b .nil pass0 (pa_cons (pe_ix ix_tup (pv 3) pe_int (fun _ _ => rfl)) (pa_cons (pe_ix ix_tup (pv 4) pe_int (fun _ _ => rfl)) pa_nil))))
    (pss_cons (ps_if (pt_cmp (pc_isN (pv 5))) (pss_one (ps_ret pe_non)) pss_nil)
    (pss_one (ps_ret (pe_op op_sub (pe_op op_sub (pe_ix ix_tup (pv 4) pe_int (fun _ _ => rfl)) (pe_ix ix_tup (pv 3) pe_int (fun _ _ => rfl))) (pv 5)))))))), ?_⟩
  obtain ⟨q, h2, hq⟩ := hT.roads C
  refine q_asg (ev_trip (ev_var rfl) hT (ev_var rfl) hx) fun H1 e1 => ?_
  refine q_asg (ev_trip (ev_var rfl) (hT.ex' e1) (ev_var rfl) hy) fun H2 e2 => ?_
  have e12 := e1.trans e2
  have ha := hT.tup hx
  have hc := hT.tup hy
  refine q_asg (ev_rlen (hq e12 (ev_var rfl)) (h2.ex' e12) (ev_op (ev_var rfl) ev_c (rv_ixT (st_of (e12 _ _ ha)) rfl)) (ev_op (ev_var rfl) ev_c (rv_ixT (st_of (e12 _ _ hc)) rfl)) (ok.goal x hx) (ok.org y hy)) fun H3 e3 => ?_
  refine q_when (b := false) (et_is (et_B (ev_isN (ev_var rfl))) rfl) (fun z => by cases z) (fun _ H4 e4 => ?_)
  exact s_ret (ev_op (ev_op (ev_op (ev_var rfl) ev_c (rv_ixT (st_of ((e12.trans (e3.trans e4)) _ _ hc)) rfl)) (ev_op (ev_var rfl) ev_c (rv_ixT (st_of ((e12.trans (e3.trans e4)) _ _ ha)) rfl)) rv_I0) (ev_var rfl) rv_I0) fun H5 e5 => k H5 ((e12.trans e3).trans (e4.trans e5))

theorem spGap_v {H : Hp} {p : Addr} {o : Office} {x y : Trip} (ok : o.Ok) (T : TableAt CT CR H p o) (hx : x ∈ o.ts) (hy : y ∈ o.ts) : SpV (spGap CT CR) [.ref p, .str x.name, .str y.name] H (.int (o.gap x y)) :=
  fun H1 e Q q E => ⟨p, o, x, y, rfl, ok, T.ex' e, hx, hy, fun H2 e2 => q H2 e2⟩
theorem sc_linked : FnScope ["table", "one", "other", "spare"] ["table", "one", "other"] (defScope s_linked) := ⟨rfl, rfl, rfl, by decide +kernel, rfl, by decide +kernel, by decide +kernel⟩
def Office.lk (o : Office) (x y : Trip) : Bool := decide (0 ≤ o.gap x y)
def spLinked (CT CR : Addr) : Sp := fun vs H Q _ => ∃ (p : Addr) (o : Office) (x y : Trip), vs = [.ref p, .str x.name, .str y.name] ∧ o.Ok ∧ TableAt CT CR H p o ∧ x ∈ o.ts ∧ y ∈ o.ts ∧ RetV (.bl (o.lk x y)) H Q
theorem ok_linked (d : Df K mg "linked" s_linked ["table", "one", "other"] f fd) (dG : Df K mg "gap" s_gap ["table", "one", "other"] fG fdG) (GG : FnOk P w K mg base CX0 2 fG fdG ["table", "one", "other"] (spGap CT CR)) :
    FnOk P w K mg base CX0 3 f fd ["table", "one", "other"] (spLinked CT CR) := by
  refine d.F.ok sc_linked (fun vs H Q E h => ?_) (fun cdv A outer s H vs Q E hr h => ?_)
  · obtain ⟨p, o, x, y, rfl, _⟩ := h
    rfl
  obtain ⟨p, o, x, y, rfl, ok, hT, hx, hy, k⟩ := h
  refine ⟨_, PSs.nox (pss_cons (ps_set (i := 3) sc_linked.nd rfl (Or.inl rfl) (pe_call GG hr rfl dG.g dG.F.kp dG.b .nil pass0 (pa_cons (pv 0) (pa_cons (pv 1) (pa_cons (pv 2) pa_nil)))))
    (pss_one (ps_ret (pe_and (pe_cmp (pc_notN (pv 3)) rfl) (pe_one (pe_cmpR op_ge (pv 3) pe_int (nomark _))))))), ?_⟩
  refine q_asg (ev_call (ea_cons (ev_var rfl) (ea_cons (ev_var rfl) (ea_cons (ev_var rfl) ea_nil))) (spGap_v ok hT hx hy)) fun H1 e1 => ?_
  exact s_ret (ev_is (ev_andV (a := true) (ev_is (ev_notN (ev_var rfl)) rfl) (fun _ => ev_op (ev_var rfl) ev_c rv_I0)) rfl) fun H2 e2 => k H2 (e1.trans e2)
theorem spLinked_v {H : Hp} {p : Addr} {o : Office} {x y : Trip} (ok : o.Ok) (T : TableAt CT CR H p o) (hx : x ∈ o.ts) (hy : y ∈ o.ts) : SpV (spLinked CT CR) [.ref p, .str x.name, .str y.name] H (.bl (o.lk x y)) :=
  fun H1 e Q q E => ⟨p, o, x, y, rfl, ok, T.ex' e, hx, hy, fun H2 e2 => q H2 e2⟩

/-! Table.names: shown later; its promise -/
def spTNames (CT CR : Addr) (TT : List (Addr × Str)) : Sp := fun vs H Q _ => ∃ (p : Addr) (o : Office), vs = [.ref p] ∧ o.Ok ∧ TableAt CT CR H p o ∧ LamX.Tabs TT H ∧ ∀ v H2, LamX.ExtN H H2 → LamX.Tabs TT H2 → (∃ (a : Addr) (xs : List Str), v = .ref a ∧ H2 a = some (.lst (xs.map V.str)) ∧ xs.Perm o.names) → Q v H2

theorem sc_links : FnScope ["table", "names", "found", "one", "other"] ["table"] (defScope s_links) := ⟨rfl, rfl, rfl, by decide +kernel, rfl, by decide +kernel, by decide +kernel⟩
/-- the trip of a name -/
def Office.trip (o : Office) (n : Str) : Trip := (o.ts.find? fun t => decide (t.name = n)).getD ⟨n, n, n, 0, 0, 0⟩
theorem Office.trip_in {o : Office} {n : Str} (h : n ∈ o.names) : o.trip n ∈ o.ts ∧ (o.trip n).name = n := by
  obtain ⟨t, ht, e⟩ := List.mem_map.mp h
  unfold Office.trip
  cases q : o.ts.find? fun t => decide (t.name = n) with
  | none => exact absurd (List.find?_eq_none.mp q t ht) (by simp [e])
  | some u => exact ⟨List.mem_of_find?_eq_some q, by simpa using List.find?_some q⟩
theorem Office.trip_of {o : Office} (ok : o.Ok) {t : Trip} (h : t ∈ o.ts) : o.trip t.name = t := by
  obtain ⟨h1, h2⟩ := Office.trip_in (o := o) (List.mem_map.mpr ⟨t, h, rfl⟩)
  obtain ⟨i, hi, ei⟩ := List.getElem_of_mem h1
  obtain ⟨j, hj, ej⟩ := List.getElem_of_mem h
  have : i = j := by
    have hi' : i < o.names.length := by unfold Office.names; simpa using hi
    have hj' : j < o.names.length := by unfold Office.names; simpa using hj
    refine (List.getElem_inj (h₀ := hi') (h₁ := hj') ok.nd).mp ?_
    have g : ∀ k (hk : k < o.ts.length) (hk' : k < o.names.length), o.names[k] = o.ts[k].name := fun k hk hk' => List.getElem_map _
    rw [g i hi, g j hj, ei, ej, h2]
  subst this
  rw [← ei, ← ej]
/-- names linked behind a name, of xs in their order -/
def Office.row (o : Office) (xs : List Str) (n : Str) : List Str := xs.filter fun m => o.lk (o.trip n) (o.trip m)
def spLinks (CT CR : Addr) (TT : List (Addr × Str)) : Sp := fun vs H Q _ => ∃ (p : Addr) (o : Office), vs = [.ref p] ∧ o.Ok ∧ TableAt CT CR H p o ∧ LamX.Tabs TT H ∧
  ∀ v H2, LamX.ExtN H H2 → LamX.Tabs TT H2 → (∃ (d : Addr) (xs : List Str) (kvs : List (Key × V)), v = .ref d ∧ xs.Perm o.names ∧ H2 d = some (.dK kvs) ∧ kvs.map (·.1) = xs.map kS ∧ ∀ n ∈ xs, ∃ a : Addr, valV kvs (kS n) = some (.ref a) ∧ H2 a = some (.lst ((o.row xs n).map V.str))) → Q v H2
theorem ok_links {TT : List (Addr × Str)} (d : Df K mg "links" s_links ["table"] f fd) (C : Cl K mg CR CT) (MN : Dm K CT "names" "Table.names" s_Table_names ["self"] fN fdN) (dL : Df K mg "linked" s_linked ["table", "one", "other"] fL fdL)
    (GN : FnOk P w K mg base CX0 4 fN fdN ["self"] (spTNames CT CR TT)) (GL : FnOk P w K mg base CX0 3 fL fdL ["table", "one", "other"] (spLinked CT CR)) : FnOk P w K mg base CX0 5 f fd ["table"] (spLinks CT CR TT) := by
  refine d.F.ok sc_links (fun vs H Q E h => ?_) (fun cdv A outer s H vs Q E hr h => ?_)
  · obtain ⟨p, o, rfl, _⟩ := h
    rfl
  obtain ⟨p, o, rfl, ok, hT, hTb, k⟩ := h
  have hu := hu_of hr
  obtain ⟨dx, q, b, h1, h2, h3⟩ := hT.ex
  refine ⟨_, PSs.nox (pss_cons (ps_set (i := 1) sc_links.nd rfl (Or.inl rfl) (pe_meth0 (pv 0) C.T MN.m GN hr MN.b .nil pass0))
    (pss_cons (ps_set (i := 2) sc_links.nd rfl (Or.inl rfl) pe_dnewK)
    (pss_cons (ps_for PassesOwn.never rfl (pi_list (pv 1)) (pg_name (i := 3) sc_links.nd rfl (Or.inr rfl))
      (pss_one (ps_dput hu (pv 2) (pv 3) (pe_lc (own := [("other", 4)]) (g := gName 4) (by rfl) sc_links.nd (pi_list (pv 1)) (blkOk_by (own := [("other", 4)]) (N := ["table", "names", "found", "one", "other"]) (sc := defScope s_links) (by decide +kernel))
        (fun _ _ _ _ _ => pg_name (i := 4) sc_links.nd rfl (Or.inl rfl)) (fun _ _ _ _ _ => pts_one (pt_val (pe_call GL (hr.mono (by decide)) rfl dL.g dL.F.kp dL.b .nil pass0 (pa_cons (pv 0) (pa_cons (pv 3) (pa_cons (pv 4) pa_nil)))))) (fun _ _ _ _ _ => pv 4)) rfl)))
    (pss_one (ps_ret (pv 2)))))), ?_⟩
  refine ⟨_, rfl, p, dx, _, rfl, h1, tF_no _ _, p, o, rfl, ok, hT, hTb, fun v H1 e1 hT1 ⟨a, xs, ev, ha, hp⟩ => ?_⟩
  subst ev
  refine fun d' hd' => ?_
  have hTm := hT.mono (exr_n e1)
  have hin : ∀ n ∈ xs, n ∈ o.names := fun n hn => hp.mem_iff.mp hn
  refine q_forLn (ev_var rfl) (sq_of (Ex.new hd' _ _ ha)) (fun i σ' H' => (∃ v, σ' = [some (.ref p), some (.ref a), some (.ref d'), v, none]) ∧ Ex H1 H' ∧ ∃ kvs : List (Key × V), H' d' = some (.dK kvs) ∧ kvs.map (·.1) = (xs.take i).map kS ∧ ∀ n ∈ xs.take i, ∃ b : Addr, valV kvs (kS n) = some (.ref b) ∧ H' b = some (.lst ((o.row xs n).map V.str)))
    (fun H2 e2 => ⟨⟨_, rfl⟩, (Ex.new hd').trans e2, [], e2 _ _ upd_same, rfl, by simp⟩) (fun i σ' H' _ z => sq_of (z.2.1 _ _ ha)) ?_ ?_
  · rintro i x σ' H' hx ⟨⟨v, rfl⟩, e, kvs, hk1, hk2, hk3⟩
    rw [List.getElem?_map] at hx
    obtain ⟨n, hn, rfl⟩ := Option.map_eq_some_iff.mp hx
    have hm : n ∈ xs := List.mem_of_getElem? hn
    have hi : i < xs.length := (List.getElem?_eq_some_iff.mp hn).1
    have tk : xs.take (i + 1) = xs.take i ++ [n] := by rw [List.take_add_one, hn]; rfl
    have nd : xs.Nodup := hp.nodup_iff.mpr ok.nd
    have new : n ∉ xs.take i := fun q => by
      have := (List.take_append_drop i xs) ▸ nd
      rw [← List.take_append_drop i xs] at nd
      refine (List.nodup_append.mp nd).2.2 n q n ?_ rfl
      have : xs.drop i = n :: xs.drop (i + 1) := by
        rw [List.drop_eq_getElem_cons hi]
        congr 1
        exact (List.getElem?_eq_some_iff.mp hn).2
      rw [this]; exact List.mem_cons_self
    have len : kvs.length = i := by
      have := congrArg List.length hk2
      simpa [Nat.min_eq_left (Nat.le_of_lt hi)] using this
    have xl : xs.length ≤ 40 := by rw [hp.length_eq]; unfold Office.names; rw [List.length_map]; exact ok.few
    refine s_dputP (k := kS n) (ep_l (el_lcF xs V.str (fun m => o.lk (o.trip n) (o.trip m)) V.str (ev_var rfl) (sq_of (e _ _ ha)) (by omega) (fun x => rfl) (fun m hm2 H3 e3 => ?_) (fun m hm2 H3 e3 _ => ev_var rfl))) (ev_var rfl) (ev_var rfl) hk1 (by omega) ?_
    · obtain ⟨t1, t2⟩ := Office.trip_in (hin n hm)
      obtain ⟨u1, u2⟩ := Office.trip_in (hin m hm2)
      have r := spLinked_v (H := H3) ok (hTm.ex' (e.trans e3)) t1 u1
      rw [t2, u2] at r
      exact et_B (ev_call (ea_cons (ev_var rfl) (ea_cons (ev_var rfl) (ea_cons (ev_var rfl) ea_nil))) r)
    · rintro v' H3 e3 ⟨H0, e4, ⟨b', rfl, hb'⟩, e5⟩
      have hd3 : H3 d' = some (.dK kvs) := e3 _ _ hk1
      have nb : ∀ c xs', H3 c = some (.lst xs') → c ≠ d' := fun c xs' hc => ne_of hc hd3 (by intro z; cases z)
      refine ⟨⟨_, rfl⟩, Ex.mut (e.trans e3) hd', _, upd_same, ?_, fun m hm => ?_⟩
      · have vn : valV kvs (kS n) = none := by
          cases q : valV kvs (kS n) with
          | none => rfl
          | some y =>
            have := valV_in q
            rw [hk2] at this
            obtain ⟨m, hm, em⟩ := List.mem_map.mp this
            exact (new (by cases em; exact hm)).elim
        rw [putK_new _ vn, List.map_append, hk2, tk, List.map_append]
        rfl
      · rw [tk] at hm
        by_cases c : m = n
        · subst c
          refine ⟨b', by rw [valV_put, if_pos rfl], ?_⟩
          rw [upd_ne (nb _ _ (e4 _ _ hb'))]
          exact e4 _ _ hb'
        · have hm' : m ∈ xs.take i := by
            rcases List.mem_append.mp hm with q | q
            · exact q
            · exact (c (by simpa using q)).elim
          obtain ⟨b2, q1, q2⟩ := hk3 m hm'
          refine ⟨b2, by rw [valV_put, if_neg (fun z => c (Sum.inr.inj z))]; exact q1, ?_⟩
          rw [upd_ne (nb _ _ (e3 _ _ q2))]
          exact e3 _ _ q2
  · rintro σ' H' ⟨⟨v, rfl⟩, e, kvs, hk1, hk2, hk3⟩
    rw [List.length_map, List.take_length] at hk2 hk3
    exact s_ret (ev_var rfl) fun H2 e2 => k _ H2 (e1.trans (LamX.ExtN.of (e.trans e2))) (hT1.ext (e.trans e2)) ⟨d', xs, kvs, rfl, hp, e2 _ _ hk1, hk2, fun n hn => by
      obtain ⟨b2, q1, q2⟩ := hk3 n hn
      exact ⟨b2, q1, e2 _ _ q2⟩⟩
end
end K49
/-! K49D3 -/
/-! check_place, check_links, check_row, minutes_between, block_length. -/
namespace K49
open PySem L2 Evl
theorem inV_str (a : Str) (l : List Str) : inV (.str a) (l.map V.str) = decide (a ∈ l) := by
  unfold inV
  induction l with
  | nil => rfl
  | cons b r ih =>
    rw [List.map_cons, List.any_cons, ih]
    have e : eqV (.str b) (.str a) = decide (b = a) := by
      first
      | rfl
      | (simp [eqV]; done)
      | (unfold eqV; simp)
    rw [e]
    by_cases c : b = a
    · subst c; simp
    · have : ¬ a = b := fun z => c z.symm
      simp [c, this]
theorem flat_strs (l : List Str) : (l.map V.str).all flatV = true := by
  rw [List.all_map]; exact List.all_eq_true.mpr fun _ _ => rfl

/-- each next one is linked -/
def Lkd {α : Type} (R : α → α → Bool) : List α → Prop
  | a :: b :: r => R a b = true ∧ Lkd R (b :: r)
  | _ => True
theorem Lkd.right {α : Type} {R : α → α → Bool} : ∀ {xs ys : List α}, Lkd R (xs ++ ys) → Lkd R ys
  | [], _, h => h
  | [a], [], _ => trivial
  | [a], b :: r, h => h.2
  | a :: b :: xs, ys, h => Lkd.right (xs := b :: xs) h.2
theorem Lkd.left {α : Type} {R : α → α → Bool} : ∀ {xs ys : List α}, Lkd R (xs ++ ys) → Lkd R xs
  | [], _, _ => trivial
  | [a], _, _ => trivial
  | a :: b :: xs, ys, h => ⟨h.1, Lkd.left (xs := b :: xs) h.2⟩
theorem Lkd.at {α : Type} {R : α → α → Bool} : ∀ {xs : List α} {i : Nat} {a b : α}, Lkd R xs → xs[i]? = some a → xs[i + 1]? = some b → R a b = true
  | a :: b :: r, 0, x, y, h, h1, h2 => by
    obtain rfl := Option.some.inj h1
    obtain rfl := Option.some.inj h2
    exact h.1
  | a :: b :: r, i + 1, x, y, h, h1, h2 => Lkd.at (xs := b :: r) (i := i) h.2 h1 h2
  | [a], i, x, y, _, _, h2 => by simp at h2
  | [], i, x, y, _, h1, _ => by simp at h1

def nms (row : List Trip) : List Str := row.map fun t => t.name
/-- a row of trips of the office, not empty -/
structure RowOk (o : Office) (row : List Trip) : Prop where
  mem : ∀ t ∈ row, t ∈ o.ts
  lk : Lkd o.lk row
  ne : row ≠ []
/-- the minutes from a place on -/
def Office.run (o : Office) : Str → List Trip → Int
  | _, [] => 0
  | a, t :: r => o.D a t.origin + (t.finish - t.start) + o.run t.goal r
/-- the length of a block -/
def Office.len (o : Office) (home : Str) (row : List Trip) : Int := o.run home row + o.D ((row.getLast?.map fun t => t.goal).getD home) home
section
variable {P : Program} {w : World} {K : PySem.W.Frag} {mg : Str → Option Value} {base : Heap} {CR CT f fT fL fN fG fM fR : Addr} {fd fdT fdL fdN fdG fdM fdR : FuncData}

theorem sc_check_place : FnScope ["table", "home"] ["table", "home"] (defScope s_check_place) := ⟨rfl, rfl, rfl, by decide +kernel, rfl, by decide +kernel, by decide +kernel⟩
def spCPlace (CT CR : Addr) : Sp := fun vs H Q _ => ∃ (p : Addr) (o : Office) (home : Str), vs = [.ref p, .str home] ∧ TableAt CT CR H p o ∧ home ∈ o.ps ∧ RetV .non H Q
theorem ok_check_place (d : Df K mg "check_place" s_check_place ["table", "home"] f fd) (C : Cl K mg CR CT) (B : Bi mg) (MN : Dm K CR "names" "Roads.names" s_Roads_names ["self"] fN fdN) :
    FnOk P w K mg base CX0 2 f fd ["table", "home"] (spCPlace CT CR) := by
  have GN : FnOk P w K mg base CX0 1 fN fdN ["self"] (spRNames CR) := ok_rnames MN C B
  refine d.F.ok sc_check_place (fun vs H Q E h => ?_) (fun cdv A outer s H vs Q E hr h => ?_)
  · obtain ⟨p, o, x, rfl, _⟩ := h
    rfl
  obtain ⟨p, o, x, rfl, hT, hx, k⟩ := h
  obtain ⟨q, hR, hq⟩ := hT.roads C
  refine ⟨_, PSs.nox (pss_one (ps_if (pt_cmpR op_notIn_seq (pv 1) (pe_meth0 (pe_fld (pv 0) rfl) C.R MN.m GN hr MN.b .nil pass0) (by rfl)) (pss_one ps_never) pss_nil)), ?_⟩
  obtain ⟨dx, t, l, r, kvs, h1, _⟩ := id hR
  refine s_when (b := false) (et_is (et_test (ev_opL (xs := o.ps.map V.str) (ev_var rfl) ?_ fun p' H1 hp' _ => rv_niL (sq_of hp') rfl (flat_strs _))) (by rw [inV_str]; simp [hx])) (fun z => by cases z) (fun _ H1 e1 => k H1 e1)
  intro H1 e1 Q1 q1
  exact hq e1 (ev_var rfl) H1 (Ex.refl H1) _ fun H2 e2 => ⟨q, dx, _, rfl, (e1.trans e2) _ _ h1, rF_no _ _ _, q, o.ps, o.D, rfl, hR.ex' (e1.trans e2), fun p3 H3 hp e3 h3 => q1 p3 H3 (fresh_back e2 hp) (e2.trans e3) h3⟩

theorem sc_check_links : FnScope ["table", "names", "name", "k"] ["table", "names"] (defScope s_check_links) := ⟨rfl, rfl, rfl, by decide +kernel, rfl, by decide +kernel, by decide +kernel⟩
def spCLinks (CT CR : Addr) (K : PySem.W.Frag) : Sp := fun vs H Q _ => ∃ (p a : Addr) (o : Office) (row : List Trip), vs = [.ref p, .ref a] ∧ o.Ok ∧ TableAt CT CR H p o ∧ SqL K H a ((nms row).map V.str) ∧ RowOk o row ∧ row.length ≤ 1000 ∧ RetV .non H Q
theorem ok_check_links (d : Df K mg "check_links" s_check_links ["table", "names"] f fd) (C : Cl K mg CR CT) (B : Bi mg) (MT : Dm K CT "trip" "Table.trip" s_Table_trip ["self", "name"] fT fdT) (dL : Df K mg "linked" s_linked ["table", "one", "other"] fL fdL)
    (GL : FnOk P w K mg base CX0 3 fL fdL ["table", "one", "other"] (spLinked CT CR)) : FnOk P w K mg base CX0 4 f fd ["table", "names"] (spCLinks CT CR K) := by
  have GT : FnOk P w K mg base CX0 1 fT fdT ["self", "name"] (spTrip CT CR) := ok_trip MT C
  refine d.F.ok sc_check_links (fun vs H Q E h => ?_) (fun cdv A outer s H vs Q E hr h => ?_)
  · obtain ⟨p, a, o, row, rfl, _⟩ := h
    rfl
  obtain ⟨p, a, o, row, rfl, ok, hT, hS, hrow, hlen, k⟩ := h
  refine ⟨_, PSs.nox (pss_cons (ps_for PassesOwn.never rfl (pi_list (pv 1)) (pg_name (i := 2) sc_check_links.nd rfl (Or.inl rfl)) (pss_one (ps_expr (pe_meth (pv 0) C.T MT.m GT (hr.mono (by decide)) MT.b .nil pass0 (pa_cons (pv 2) pa_nil)))))
    (pss_one (ps_for PassesOwn.never rfl (pi_range1 (by rfl) B.range (pa_cons (pe_op op_sub (pe_callB call_len_seq (by rfl) B.len PySem.boot_len (pa_cons (pv 1) pa_nil)) pe_int) pa_nil)) (pg_name (i := 3) sc_check_links.nd rfl (Or.inl rfl))
      (pss_one (ps_if (pt_not (pt_val (pe_call GL hr rfl dL.g dL.F.kp dL.b .nil pass0 (pa_cons (pv 0) (pa_cons (pe_ix ix_list (pv 1) (pv 3) (fun _ _ => rfl)) (pa_cons (pe_ix ix_list (pv 1) (pe_op op_add (pv 3) pe_int) (fun _ _ => rfl)) pa_nil)))))) (pss_one ps_never) pss_nil))))), ?_⟩
  refine q_forLn (ev_var rfl) hS (fun i σ' H' => (∃ v, σ' = [some (.ref p), some (.ref a), v, none]) ∧ Ex H H') (fun H1 e => ⟨⟨_, rfl⟩, e⟩) (fun i σ' H' _ z => ex_l z.2 hS) ?_ ?_
  · rintro i x σ' H' hx ⟨⟨v, rfl⟩, e⟩
    rw [List.getElem?_map] at hx
    obtain ⟨n, hn, rfl⟩ := Option.map_eq_some_iff.mp hx
    obtain ⟨t, ht, rfl⟩ := List.mem_map.mp (List.mem_of_getElem? hn)
    exact s_drop (ev_trip (ev_var rfl) (hT.ex' e) (ev_var rfl) (hrow.mem t ht)) fun H1 e1 => ⟨⟨_, rfl⟩, e.trans e1⟩
  · rintro σ' H' ⟨⟨v, rfl⟩, e⟩
    have hne := hrow.ne
    have hl : ((nms row).map V.str).length = row.length := by rw [List.length_map]; exact List.length_map _
    have hpos : 0 < row.length := List.length_pos_iff.mpr hne
    refine s_forR1 (n := (row.length : Int) - 1) (ea_cons (ev_op (ev_is (ev_len (ev_var rfl) (ex_l e hS)) (by rw [hl])) ev_c rv_I0) ea_nil) ⟨by omega, by omega⟩ (fun i σ' H' => (∃ v u, σ' = [some (.ref p), some (.ref a), v, u]) ∧ Ex H H') (fun H1 e1 => ⟨⟨_, _, rfl⟩, e.trans e1⟩) ?_ ?_
    · rintro i σ' H' hi ⟨⟨v, u, rfl⟩, e⟩
      have hi2 : i + 1 < row.length := by omega
      have q1 : row[i]? = some row[i] := List.getElem?_eq_getElem _
      have q2 : row[i + 1]? = some row[i + 1] := List.getElem?_eq_getElem _
      have g : ∀ (j : Nat) (t : Trip), row[j]? = some t → ((nms row).map V.str)[j]? = some (.str t.name) := fun j t h => by
        unfold nms
        rw [List.getElem?_map, List.getElem?_map, h]; rfl
      have m1 := hrow.mem _ (List.mem_of_getElem? q1)
      have m2 := hrow.mem _ (List.mem_of_getElem? q2)
      refine s_when (b := false) (et_is (et_not (et_B (ev_call (ea_cons (ev_var rfl) (ea_cons (ev_op (ev_var rfl) (ev_var rfl) (rv_ixL (ex_l e hS) (atI_nat (g i _ q1)))) (ea_cons (ev_op (ev_var rfl) (ev_op (ev_var rfl) ev_c rv_I0) (rv_ixL (ex_l e hS) (at_of (j := i + 1) (by omega) (g (i + 1) _ q2)))) ea_nil))) (spLinked_v ok (hT.ex' e) m1 m2)))) (by rw [hrow.lk.at q1 q2]; rfl)) (fun z => by cases z) (fun _ H1 e1 => ⟨⟨_, _, rfl⟩, e.trans e1⟩)
    · rintro σ' H' ⟨⟨v, u, rfl⟩, e⟩
      exact k H' e

theorem sc_check_row : FnScope ["table", "home", "names"] ["table", "home", "names"] (defScope s_check_row) := ⟨rfl, rfl, rfl, by decide +kernel, rfl, by decide +kernel, by decide +kernel⟩
def spCRow (CT CR : Addr) (K : PySem.W.Frag) : Sp := fun vs H Q _ => ∃ (p a : Addr) (o : Office) (home : Str) (row : List Trip), vs = [.ref p, .str home, .ref a] ∧ o.Ok ∧ TableAt CT CR H p o ∧ home ∈ o.ps ∧ SqL K H a ((nms row).map V.str) ∧ RowOk o row ∧ row.length ≤ 1000 ∧ RetV .non H Q
theorem ok_check_row (d : Df K mg "check_row" s_check_row ["table", "home", "names"] f fd) (dP : Df K mg "check_place" s_check_place ["table", "home"] fN fdN) (dL : Df K mg "check_links" s_check_links ["table", "names"] fL fdL)
    (GP : FnOk P w K mg base CX0 2 fN fdN ["table", "home"] (spCPlace CT CR)) (GL : FnOk P w K mg base CX0 4 fL fdL ["table", "names"] (spCLinks CT CR K)) : FnOk P w K mg base CX0 5 f fd ["table", "home", "names"] (spCRow CT CR K) := by
  refine d.F.ok sc_check_row (fun vs H Q E h => ?_) (fun cdv A outer s H vs Q E hr h => ?_)
  · obtain ⟨p, a, o, home, row, rfl, _⟩ := h
    rfl
  obtain ⟨p, a, o, home, row, rfl, ok, hT, hh, hS, hrow, hlen, k⟩ := h
  refine ⟨_, PSs.nox (pss_cons (ps_expr (pe_call GP (hr.mono (by decide)) rfl dP.g dP.F.kp dP.b .nil pass0 (pa_cons (pv 0) (pa_cons (pv 1) pa_nil))))
    (pss_one (ps_expr (pe_call GL hr rfl dL.g dL.F.kp dL.b .nil pass0 (pa_cons (pv 0) (pa_cons (pv 2) pa_nil)))))), ?_⟩
  refine q_drop (v := .non) (ev_call (ea_cons (ev_var rfl) (ea_cons (ev_var rfl) ea_nil)) fun H1 e Q1 q1 E1 => ⟨p, o, home, rfl, hT.ex' e, hh, fun H2 e2 => q1 H2 e2⟩) fun H1 e1 => ?_
  exact s_drop (v := .non) (ev_call (ea_cons (ev_var rfl) (ea_cons (ev_var rfl) ea_nil)) fun H2 e Q1 q1 E1 => ⟨p, a, o, row, rfl, ok, hT.ex' (e1.trans e), ex_l (e1.trans e) hS, hrow, hlen, fun H3 e3 => q1 H3 e3⟩) fun H2 e2 => k H2 (e1.trans e2)
theorem spCRow_v {H : Hp} {p a : Addr} {o : Office} {home : Str} {row : List Trip} (ok : o.Ok) (hT : TableAt CT CR H p o) (hh : home ∈ o.ps) (hS : SqL K H a ((nms row).map V.str)) (hrow : RowOk o row) (hlen : row.length ≤ 1000) : SpV (spCRow CT CR K) [.ref p, .str home, .ref a] H .non :=
  fun H1 e Q q E => ⟨p, a, o, home, row, rfl, ok, hT.ex' e, hh, ex_l e hS, hrow, hlen, fun H2 e2 => q H2 e2⟩

theorem sc_minutes : FnScope ["table", "origin", "goal", "minutes"] ["table", "origin", "goal"] (defScope s_minutes_between) := ⟨rfl, rfl, rfl, by decide +kernel, rfl, by decide +kernel, by decide +kernel⟩
def spMin (CT CR : Addr) : Sp := fun vs H Q _ => ∃ (p : Addr) (o : Office) (a b : Str), vs = [.ref p, .str a, .str b] ∧ TableAt CT CR H p o ∧ a ∈ o.ps ∧ b ∈ o.ps ∧ RetV (.int (o.D a b)) H Q
theorem ok_minutes (d : Df K mg "minutes_between" s_minutes_between ["table", "origin", "goal"] f fd) (C : Cl K mg CR CT) (ML : Dm K CR "length" "Roads.length" s_Roads_length ["self", "origin", "goal"] fL fdL) :
    FnOk P w K mg base CX0 2 f fd ["table", "origin", "goal"] (spMin CT CR) := by
  have GL : FnOk P w K mg base CX0 1 fL fdL ["self", "origin", "goal"] (spLength CR) := ok_length ML C
  refine d.F.ok sc_minutes (fun vs H Q E h => ?_) (fun cdv A outer s H vs Q E hr h => ?_)
  · obtain ⟨p, o, a, b, rfl, _⟩ := h
    rfl
  obtain ⟨p, o, a, b, rfl, hT, ha, hb, k⟩ := h
  obtain ⟨q, hR, hq⟩ := hT.roads C
  refine ⟨_, PSs.nox (pss_cons (ps_set (i := 3) sc_minutes.nd rfl (Or.inl rfl) (pe_meth (pe_fld (pv 0) rfl) C.R ML.m GL hr ML.b .nil pass0 (pa_cons (pv 1) (pa_cons (pv 2) pa_nil))))
    (pss_cons (ps_if (pt_cmp (pc_isN (pv 3))) (pss_one ps_never) pss_nil) (pss_one (ps_ret (pv 3))))), ?_⟩
  refine q_asg (ev_rlen (hq (Ex.refl H) (ev_var rfl)) hR (ev_var rfl) (ev_var rfl) ha hb) fun H1 e1 => ?_
  refine q_when (b := false) (et_is (et_B (ev_isN (ev_var rfl))) rfl) (fun z => by cases z) (fun _ H2 e2 => ?_)
  exact s_ret (ev_var rfl) fun H3 e3 => k H3 (e1.trans (e2.trans e3))
theorem ev_min {σ : St} {H : Hp} {ta tx ty : TE} {E : XK} {p : Addr} {o : Office} {a b : Str} (h : Ev ta σ H (.ref p)) (T : TableAt CT CR H p o) (hx : Ev tx σ H (.str a)) (hy : Ev ty σ H (.str b)) (ha : a ∈ o.ps) (hb : b ∈ o.ps) :
    Ev (tCall (spMin CT CR) [] E (tCons ta (tCons tx (tCons ty tNil)))) σ H (.int (o.D a b)) :=
  ev_call (ea_cons h (ea_cons hx (ea_cons hy ea_nil))) fun H1 e Q q E => ⟨p, o, a, b, rfl, T.ex' e, ha, hb, fun H2 e2 => q H2 e2⟩
end
end K49
/-! K49D4 -/
/-! block_length, cut. -/
namespace K49
open PySem L2 Evl
section
variable {P : Program} {w : World} {K : PySem.W.Frag} {mg : Str → Option Value} {base : Heap} {CR CT f fT fL fN fG fM fR fB : Addr} {fd fdT fdL fdN fdG fdM fdR fdB : FuncData}
theorem nms_at {row : List Trip} {j : Nat} {t : Trip} (h : row[j]? = some t) : ((nms row).map V.str)[j]? = some (.str t.name) := by
  unfold nms
  rw [List.getElem?_map, List.getElem?_map, h]; rfl
/-- where a car stands ahead of the i-th trip -/
def goalAt (row : List Trip) (a : Str) : Nat → Str
  | 0 => a
  | i + 1 => ((row[i]?).map fun t => t.goal).getD a
theorem goalAt_succ {row : List Trip} {a : Str} {i : Nat} {t : Trip} (h : row[i]? = some t) : goalAt row a (i + 1) = t.goal := by
  show ((row[i]?).map fun t => t.goal).getD a = _
  rw [h]; rfl
theorem run_take (o : Office) : ∀ (row : List Trip) (a : Str) (i : Nat) (t : Trip), row[i]? = some t → o.run a (row.take (i + 1)) = o.run a (row.take i) + o.D (goalAt row a i) t.origin + (t.finish - t.start)
  | [], _, i, t, h => by simp at h
  | x :: r, a, 0, t, h => by
    obtain rfl := Option.some.inj h
    simp [Office.run, goalAt]
  | x :: r, a, i + 1, t, h => by
    have h' : r[i]? = some t := by simpa using h
    have ih := run_take o r x.goal i t h'
    show o.D a x.origin + (x.finish - x.start) + o.run x.goal (r.take (i + 1)) = o.D a x.origin + (x.finish - x.start) + o.run x.goal (r.take i) + _ + _
    rw [ih]
    have e : goalAt r x.goal i = goalAt (x :: r) a (i + 1) := by
      cases i with
      | zero => rfl
      | succ j =>
        have hj : j < r.length := by
          have := (List.getElem?_eq_some_iff.mp h').1
          omega
        unfold goalAt
        simp [hj]
    rw [e]; omega
theorem goalAt_in {o : Office} (ok : o.Ok) {row : List Trip} (h : ∀ t ∈ row, t ∈ o.ts) {a : Str} (ha : a ∈ o.ps) : ∀ {i : Nat}, i ≤ row.length → goalAt row a i ∈ o.ps
  | 0, _ => ha
  | i + 1, hi => by
    have q : row[i]? = some row[i] := List.getElem?_eq_getElem _
    rw [goalAt_succ q]
    exact ok.goal _ (h _ (List.getElem_mem _))
theorem atI_lastO {α : Type} {xs : List α} {v : α} (h : xs.getLast? = some v) : atI xs (-1) = some v := by
  obtain ⟨ys, rfl⟩ : ∃ ys, xs = ys ++ [v] := List.getLast?_eq_some_iff.mp h
  exact atI_last ys v

theorem sc_blen : FnScope ["table", "home", "names", "trips", "at", "total", "trip", "name"] ["table", "home", "names"] (defScope s_block_length) := ⟨rfl, rfl, rfl, by decide +kernel, rfl, by decide +kernel, by decide +kernel⟩
def spBLen (CT CR : Addr) (K : PySem.W.Frag) : Sp := fun vs H Q _ => ∃ (p a : Addr) (o : Office) (home : Str) (row : List Trip), vs = [.ref p, .str home, .ref a] ∧ o.Ok ∧ TableAt CT CR H p o ∧ home ∈ o.ps ∧ SqL K H a ((nms row).map V.str) ∧ RowOk o row ∧ row.length ≤ 1000 ∧ RetV (.int (o.len home row)) H Q
theorem ok_blen (d : Df K mg "block_length" s_block_length ["table", "home", "names"] f fd) (C : Cl K mg CR CT) (B : Bi mg) (MT : Dm K CT "trip" "Table.trip" s_Table_trip ["self", "name"] fT fdT) (dM : Df K mg "minutes_between" s_minutes_between ["table", "origin", "goal"] fM fdM) (dR : Df K mg "check_row" s_check_row ["table", "home", "names"] fR fdR)
    (GM : FnOk P w K mg base CX0 2 fM fdM ["table", "origin", "goal"] (spMin CT CR)) (GR : FnOk P w K mg base CX0 5 fR fdR ["table", "home", "names"] (spCRow CT CR K)) : FnOk P w K mg base CX0 6 f fd ["table", "home", "names"] (spBLen CT CR K) := by
  have GT : FnOk P w K mg base CX0 1 fT fdT ["self", "name"] (spTrip CT CR) := ok_trip MT C
  refine d.F.ok sc_blen (fun vs H Q E h => ?_) (fun cdv A outer s H vs Q E hr h => ?_)
  · obtain ⟨p, a, o, home, row, rfl, _⟩ := h
    rfl
  obtain ⟨p, a, o, home, row, rfl, ok, hT, hh, hS, hrow, hlen, k⟩ := h
  have hr1 : Room 1 _ := hr.mono (by decide)
  have hr2 : Room 2 _ := hr.mono (by decide)
  refine ⟨_, PSs.nox (pss_cons (ps_expr (pe_call GR hr rfl dR.g dR.F.kp dR.b .nil pass0 (pa_cons (pv 0) (pa_cons (pv 1) (pa_cons (pv 2) pa_nil)))))
    (pss_cons (ps_if (pt_cmpR op_eq (pe_callB call_len_seq (by rfl) B.len PySem.boot_len (pa_cons (pv 2) pa_nil)) pe_int (nomark _)) (pss_one (ps_ret pe_int)) pss_nil)
    (pss_cons (ps_setLc (i := 3) (own := [("name", 7)]) (g := gName 7) (by rfl) sc_blen.nd rfl rfl (sw_true rfl rfl rfl (by decide +kernel)) (pi_list (pv 2)) (blkOk_by (own := [("name", 7)]) (N := ["table", "home", "names", "trips", "at", "total", "trip", "name"]) (sc := defScope s_block_length) (by decide +kernel))
        (fun _ _ _ _ _ => pg_name (i := 7) sc_blen.nd rfl (Or.inl rfl)) (fun _ _ _ _ _ => pts_nil) (fun _ _ _ _ _ => pe_meth (pv 0) C.T MT.m GT hr1 MT.b .nil pass0 (pa_cons (pv 7) pa_nil)))
    (pss_cons (ps_set (i := 4) sc_blen.nd rfl (Or.inl rfl) (pe_ix ix_tup (pe_ix ix_list (pv 3) pe_int (fun _ _ => rfl)) pe_int (fun _ _ => rfl)))
    (pss_cons (ps_set (i := 5) sc_blen.nd rfl (Or.inl rfl) (pe_op op_add (pe_call GM hr2 rfl dM.g dM.F.kp dM.b .nil pass0 (pa_cons (pv 0) (pa_cons (pv 1) (pa_cons (pv 4) pa_nil))))
        (pe_call GM hr2 rfl dM.g dM.F.kp dM.b .nil pass0 (pa_cons (pv 0) (pa_cons (pe_ix ix_tup (pe_ix ix_list (pv 3) (pe_un un_neg pe_int) (fun _ _ => rfl)) pe_int (fun _ _ => rfl)) (pa_cons (pv 1) pa_nil))))))
    (pss_cons (ps_for PassesOwn.never rfl (pi_list (pv 3)) (pg_name (i := 6) sc_blen.nd rfl (Or.inl rfl))
      (pss_cons (ps_set (i := 5) sc_blen.nd rfl (Or.inl rfl) (pe_op op_sub (pe_op op_add (pe_op op_add (pv 5) (pe_call GM hr2 rfl dM.g dM.F.kp dM.b .nil pass0 (pa_cons (pv 0) (pa_cons (pv 4) (pa_cons (pe_ix ix_tup (pv 6) pe_int (fun _ _ => rfl)) pa_nil))))) (pe_ix ix_tup (pv 6) pe_int (fun _ _ => rfl))) (pe_ix ix_tup (pv 6) pe_int (fun _ _ => rfl))))
        (pss_one (ps_set (i := 4) sc_blen.nd rfl (Or.inl rfl) (pe_ix ix_tup (pv 6) pe_int (fun _ _ => rfl))))))
    (pss_one (ps_ret (pv 5))))))))), ?_⟩
  have hne := hrow.ne
  have hpos : 0 < row.length := List.length_pos_iff.mpr hne
  have hl : ((nms row).map V.str).length = row.length := by rw [List.length_map]; exact List.length_map _
  refine q_drop (v := .non) (ev_call (ea_cons (ev_var rfl) (ea_cons (ev_var rfl) (ea_cons (ev_var rfl) ea_nil))) (spCRow_v ok hT hh hS hrow hlen)) fun H1 e1 => ?_
  refine q_when (b := false) (et_is (et_test (ev_op (ev_len (ev_var rfl) (ex_l e1 hS)) ev_c (rv_eq rfl))) (by rw [hl]; exact decide_eq_false (fun z => by injection z with z; omega))) (fun z => by cases z) (fun _ H2 e2 => ?_)
  have e12 := e1.trans e2
  refine q_asgL (xs := row.map fun t => V.ref (o.ad t.name)) ?_ fun q H3 hq e3 h3 => ?_
  · have r := el_lcF (K := K) (σ := start ["table", "home", "names", "trips", "at", "total", "trip", "name"] [.ref p, .str home, .ref a]) (H := H2) (a := a) (tl := tVar 2) (tt := tYes) (te := tMeth CT "trip" (spTrip CT CR) [] E0 (tVar 0) (tCons (tVar 7) tNil)) (vs := [7]) (j := 7) row (fun t => V.str t.name) (fun _ => true) (fun t => V.ref (o.ad t.name)) (ev_var rfl)
      (by have := ex_l e12 hS; unfold nms at this; rw [List.map_map] at this; exact this) (by omega) (fun x => rfl) (fun x hx H1 e => et_yes) (fun x hx H1 e _ => ev_trip (ev_var rfl) (hT.ex' (e12.trans e)) (ev_var rfl) (hrow.mem x hx))
    rw [filter_all] at r
    exact r
  have e123 := e12.trans e3
  obtain ⟨t0, ht0⟩ : ∃ t, row[0]? = some t := ⟨row[0], List.getElem?_eq_getElem hpos⟩
  have m0 := hrow.mem _ (List.mem_of_getElem? ht0)
  have gx : ∀ (i : Nat) (t : Trip), row[i]? = some t → (row.map fun t => V.ref (o.ad t.name))[i]? = some (.ref (o.ad t.name)) := fun i t h => by rw [List.getElem?_map, h]; rfl
  refine q_asg (v := .str t0.origin) (ev_op (ev_op (ev_var rfl) ev_c (rv_ixL (sq_of h3) (at_of (j := 0) rfl (gx 0 _ ht0)))) ev_c (rv_ixT (st_of (e123 _ _ (hT.tup m0))) rfl)) fun H4 e4 => ?_
  have e14 := e123.trans e4
  obtain ⟨tz, htz⟩ : ∃ t, row.getLast? = some t := ⟨row.getLast hne, List.getLast?_eq_some_getLast hne⟩
  have mz := hrow.mem _ (List.mem_of_getLast? htz)
  have hlast : atI (row.map fun t => V.ref (o.ad t.name)) (-1) = some (.ref (o.ad tz.name)) := by
    exact atI_lastO (by rw [List.getLast?_map, htz]; rfl)
  refine q_asg (v := .int (o.D home t0.origin + o.D tz.goal home)) (ev_op (ev_min (ev_var rfl) (hT.ex' e14) (ev_var rfl) (ev_var rfl) hh (ok.org _ m0))
    (ev_min (ev_var rfl) (hT.ex' e14) (ev_op (ev_op (ev_var rfl) (ev_un ev_c ru_neg) (rv_ixL (sq_of (e4 _ _ h3)) hlast)) ev_c (rv_ixT (st_of (e14 _ _ (hT.tup mz))) rfl)) (ev_var rfl) (ok.goal _ mz) hh) rv_I0) fun H5 e5 => ?_
  have e15 := e14.trans e5
  have h35 := (e4.trans e5) _ _ h3
  have bez : o.len home row = o.run t0.origin row + o.D home t0.origin + o.D tz.goal home - o.D t0.origin t0.origin := by
    unfold Office.len
    rw [htz]
    match row, ht0 with
    | x :: r, h => obtain rfl := Option.some.inj h; simp [Office.run]; omega
  refine q_forLn (ev_var rfl) (sq_of h35) (fun i σ' H' => (∃ v, σ' = [some (.ref p), some (.str home), some (.ref a), some (.ref q), some (.str (goalAt row t0.origin i)), some (.int (o.D home t0.origin + o.D tz.goal home + o.run t0.origin (row.take i))), v, none]) ∧ Ex H5 H')
    (fun H6 e6 => ⟨⟨none, by rw [List.take_zero, show o.run t0.origin [] = 0 from rfl, Int.add_zero]; rfl⟩, e6⟩) (fun i σ' H' _ z => sq_of (z.2 _ _ h35)) ?_ ?_
  · rintro i x σ' H' hx ⟨⟨v, rfl⟩, e⟩
    rw [List.getElem?_map] at hx
    obtain ⟨t, ht, rfl⟩ := Option.map_eq_some_iff.mp hx
    have mt := hrow.mem _ (List.mem_of_getElem? ht)
    have tt : ∀ {H9 : Hp}, Ex H' H9 → H9 (o.ad t.name) = some (.tup t.vs) := fun e9 => (e15.trans (e.trans e9)) _ _ (hT.tup mt)
    have mat : goalAt row t0.origin i ∈ o.ps := goalAt_in ok hrow.mem (ok.org _ m0) (Nat.le_of_lt (List.getElem?_eq_some_iff.mp ht).1)
    refine q_asg (ev_op (ev_op (ev_op (ev_var rfl) (ev_min (ev_var rfl) (hT.ex' (e15.trans e)) (ev_var rfl) (ev_op (ev_var rfl) ev_c (rv_ixT (st_of (tt (Ex.refl _))) rfl)) mat (ok.org _ mt)) rv_I0) (ev_op (ev_var rfl) ev_c (rv_ixT (st_of (tt (Ex.refl _))) rfl)) rv_I0) (ev_op (ev_var rfl) ev_c (rv_ixT (st_of (tt (Ex.refl _))) rfl)) rv_I0) fun H7 e7 => ?_
    refine s_asg (ev_op (ev_var rfl) ev_c (rv_ixT (st_of (tt e7)) rfl)) fun H8 e8 => ⟨⟨some (.ref (o.ad t.name)), ?_⟩, (e.trans e7).trans e8⟩
    have ez : o.D home t0.origin + o.D tz.goal home + o.run t0.origin (row.take i) + o.D (goalAt row t0.origin i) t.origin + t.finish - t.start = o.D home t0.origin + o.D tz.goal home + o.run t0.origin (row.take (i + 1)) := by
      rw [run_take o row t0.origin i t ht]; omega
    rw [← ez, goalAt_succ ht]
    rfl
  · rintro σ' H' ⟨⟨v, rfl⟩, e⟩
    refine s_ret (ev_var rfl) fun H6 e6 => ?_
    have ez : o.D home t0.origin + o.D tz.goal home + o.run t0.origin (row.take (row.map fun t => V.ref (o.ad t.name)).length) = o.len home row := by
      rw [List.length_map, List.take_length, bez, ok.dg _ (ok.org _ m0)]; omega
    rw [ez]
    exact k H6 (e15.trans (e.trans e6))
theorem ev_blen {σ : St} {H : Hp} {ta tx ty : TE} {E : XK} {p a : Addr} {o : Office} {home : Str} {row : List Trip} (h : Ev ta σ H (.ref p)) (ok : o.Ok) (T : TableAt CT CR H p o) (hx : Ev tx σ H (.str home)) (hh : home ∈ o.ps) (hy : Ev ty σ H (.ref a)) (hS : SqL K H a ((nms row).map V.str)) (hrow : RowOk o row) (hlen : row.length ≤ 1000) :
    Ev (tCall (spBLen CT CR K) [] E (tCons ta (tCons tx (tCons ty tNil)))) σ H (.int (o.len home row)) :=
  ev_call (ea_cons h (ea_cons hx (ea_cons hy ea_nil))) fun H1 e Q q E => ⟨p, a, o, home, row, rfl, ok, T.ex' e, hh, ex_l e hS, hrow, hlen, fun H2 e2 => q H2 e2⟩
/-- .. of a row that is made on the way -/
theorem ev_blenN {σ : St} {H : Hp} {ta tx ty : TE} {E : XK} {p : Addr} {o : Office} {home : Str} {row : List Trip} (h : Ev ta σ H (.ref p)) (ok : o.Ok) (T : TableAt CT CR H p o) (hx : Ev tx σ H (.str home)) (hh : home ∈ o.ps) (hy : EvL ty σ H ((nms row).map V.str)) (hrow : RowOk o row) (hlen : row.length ≤ 1000) :
    Ev (tCall (spBLen CT CR K) [] E (tCons ta (tCons tx (tCons ty tNil)))) σ H (.int (o.len home row)) := fun H1 e Q q =>
  h H1 e _ fun H2 e2 => hx H2 (e.trans e2) _ fun H3 e3 => hy H3 ((e.trans e2).trans e3) _ fun a H4 ha e4 h4 =>
    ⟨p, a, o, home, row, rfl, ok, T.ex' (((e.trans e2).trans e3).trans e4), hh, sq_of h4, hrow, hlen, fun H5 e5 => q H5 (((e2.trans e3).trans e4).trans e5)⟩
theorem el_cat {σ : St} {H : Hp} {ta tb : TE} {l : Addr} {xs ys : List V} (h : Ev ta σ H (.ref l)) (hl : H l = some (.lst xs)) (hb : EvL tb σ H ys) (hz : xs.length + ys.length ≤ 100000) : EvL (tOp rCat ta tb) σ H (xs ++ ys) := fun H1 e Q q =>
  h H1 e _ fun H2 e2 => hb H2 (e.trans e2) _ fun b H3 hb3 e3 h3 => ⟨l, b, xs, ys, rfl, rfl, ((e.trans e2).trans e3) _ _ hl, h3, sz_of hz, fun p hp => q p _ (fresh_back (e2.trans e3) hp) ((e2.trans e3).trans (Ex.new hp)) upd_same⟩

theorem paired_snoc {α β : Type} {F : α → β → Prop} : ∀ {as : List α} {xs : List β} {x : β}, Paired F as (xs ++ [x]) → ∃ bs b, as = bs ++ [b] ∧ Paired F bs xs ∧ F b x
  | [a], [], x, .cons h .nil => ⟨[], a, rfl, .nil, h⟩
  | a :: a' :: as, [], x, .cons h k => by cases k
  | [], [], x, k => by cases k
  | [], y :: ys, x, k => by cases k
  | a :: as, y :: xs, x, .cons h k => by
    obtain ⟨bs, b, rfl, p, q⟩ := paired_snoc k
    exact ⟨a :: bs, b, rfl, .cons h p, q⟩
theorem paired_add {α β : Type} {F : α → β → Prop} : ∀ {as : List α} {xs : List β} {a : α} {x : β}, Paired F as xs → F a x → Paired F (as ++ [a]) (xs ++ [x])
  | _, _, _, _, .nil, h => .cons h .nil
  | _, _, _, _, .cons k r, h => .cons k (paired_add r h)
theorem paired_mem {α β : Type} {F G : α → β → Prop} : ∀ {as : List α} {xs : List β}, Paired F as xs → (∀ a ∈ as, ∀ x, F a x → G a x) → Paired G as xs
  | _, _, .nil, _ => .nil
  | _, _, .cons k r, h => .cons (h _ List.mem_cons_self _ k) (paired_mem r fun a ha => h a (List.mem_cons_of_mem _ ha))

theorem ListsAt.lst {H : Hp} {as : List Addr} {xss : List (List Str)} (r : ListsAt H as xss) : ∀ b ∈ as, ∃ ys : List Str, H b = some (.lst (ys.map V.str)) := by
  unfold ListsAt at r
  induction r with
  | nil => intro b hb; cases hb
  | cons h _ ih =>
    intro b hb
    rcases List.mem_cons.mp hb with e | hb
    · exact e ▸ ⟨_, h⟩
    · exact ih b hb

/-! ### cut -/
/-- one more trip: behind the last piece where that fits, else a piece of its own -/
def cutStep {α : Type} (fit : List α → Bool) (ps : List (List α)) (t : α) : List (List α) := match ps.getLast? with
  | some l => if fit (l ++ [t]) = true then ps.dropLast ++ [l ++ [t]] else ps ++ [[t]]
  | none => [[t]]
def cutAll {α : Type} (fit : List α → Bool) (row : List α) : List (List α) := row.foldl (cutStep fit) []
theorem cutStep_flat {α : Type} (fit : List α → Bool) (ps : List (List α)) (t : α) : (cutStep fit ps t).flatten = ps.flatten ++ [t] := by
  unfold cutStep
  cases h : ps.getLast? with
  | none =>
    have : ps = [] := List.getLast?_eq_none_iff.mp h
    subst this; rfl
  | some l =>
    obtain ⟨qs, rfl⟩ := List.getLast?_eq_some_iff.mp h
    by_cases c : fit (l ++ [t]) = true
    · simp [c]
    · simp [c]
theorem cutAll_take {α : Type} (fit : List α → Bool) {row : List α} {i : Nat} {t : α} (h : row[i]? = some t) : cutAll fit (row.take (i + 1)) = cutStep fit (cutAll fit (row.take i)) t := by
  unfold cutAll
  rw [List.take_add_one, h, List.foldl_append]; rfl
theorem cutAll_flat {α : Type} (fit : List α → Bool) (row : List α) : (cutAll fit row).flatten = row := by
  have gen : ∀ (l : List α) (ps : List (List α)), (l.foldl (cutStep fit) ps).flatten = ps.flatten ++ l := by
    intro l
    induction l with
    | nil => intro ps; simp
    | cons a r ih => intro ps; rw [List.foldl_cons, ih, cutStep_flat]; simp
  have := gen row []
  simpa [cutAll] using this
theorem cutAll_ne {α : Type} (fit : List α → Bool) (row : List α) : ∀ p ∈ cutAll fit row, p ≠ [] := by
  have gen : ∀ (l : List α) (ps : List (List α)), (∀ p ∈ ps, p ≠ []) → ∀ p ∈ l.foldl (cutStep fit) ps, p ≠ [] := by
    intro l
    induction l with
    | nil => intro ps h; exact h
    | cons a r ih =>
      intro ps h
      refine ih _ fun p hp => ?_
      unfold cutStep at hp
      split at hp
      · split at hp
        · rcases List.mem_append.mp hp with q | q
          · exact h p ((List.dropLast_sublist _).subset q)
          · simp at q; rw [q]; simp
        · rcases List.mem_append.mp hp with q | q
          · exact h p q
          · simp at q; rw [q]; simp
      · simp at hp; rw [hp]; simp
  exact gen row [] (by simp)
/-- a piece within a row -/
theorem RowOk.mid {o : Office} {a b c : List Trip} (h : RowOk o (a ++ b ++ c)) (hb : b ≠ []) : RowOk o b :=
  ⟨fun t ht => h.mem t (by simp [ht]), by have := h.lk; rw [List.append_assoc] at this; exact (Lkd.left (Lkd.right this)), hb⟩
def fits (o : Office) (home : Str) (limit : Int) (row : List Trip) : Bool := decide (o.len home row ≤ limit)
def spCut (CT CR : Addr) (K : PySem.W.Frag) : Sp := fun vs H Q _ => ∃ (p a : Addr) (o : Office) (home : Str) (row : List Trip) (limit : Int), vs = [.ref p, .str home, .ref a, .int limit] ∧ o.Ok ∧ TableAt CT CR H p o ∧ home ∈ o.ps ∧ SqL K H a ((nms row).map V.str) ∧ RowOk o row ∧ row.length ≤ 1000 ∧ (∀ t ∈ row, o.len home [t] ≤ limit) ∧
  RetP (fun v H2 => ∃ l, v = .ref l ∧ LL H2 l ((cutAll (fits o home limit) row).map nms)) H Q
theorem sc_cut : FnScope ["table", "home", "names", "limit", "name", "pieces"] ["table", "home", "names", "limit"] (defScope s_cut) := ⟨rfl, rfl, rfl, by decide +kernel, rfl, by decide +kernel, by decide +kernel⟩
theorem ok_cut (d : Df K mg "cut" s_cut ["table", "home", "names", "limit"] f fd) (B : Bi mg) (dB : Df K mg "block_length" s_block_length ["table", "home", "names"] fB fdB) (dR : Df K mg "check_row" s_check_row ["table", "home", "names"] fR fdR)
    (GB : FnOk P w K mg base CX0 6 fB fdB ["table", "home", "names"] (spBLen CT CR K)) (GR : FnOk P w K mg base CX0 5 fR fdR ["table", "home", "names"] (spCRow CT CR K)) : FnOk P w K mg base CX0 7 f fd ["table", "home", "names", "limit"] (spCut CT CR K) := by
  refine d.F.ok sc_cut (fun vs H Q E h => ?_) (fun cdv A outer s H vs Q E hr h => ?_)
  · obtain ⟨p, a, o, home, row, limit, rfl, _⟩ := h
    rfl
  obtain ⟨p, a, o, home, row, limit, rfl, ok, hT, hh, hS, hrow, hlen, hal, k⟩ := h
  have hr5 : Room 5 _ := hr.mono (by decide)
  refine ⟨_, PSs.nox (pss_cons (ps_expr (pe_call GR hr5 rfl dR.g dR.F.kp dR.b .nil pass0 (pa_cons (pv 0) (pa_cons (pv 1) (pa_cons (pv 2) pa_nil)))))
    (pss_cons (ps_for PassesOwn.never rfl (pi_list (pv 2)) (pg_name (i := 4) sc_cut.nd rfl (Or.inl rfl))
      (pss_one (ps_if (pt_cmpR op_gt (pe_call GB hr rfl dB.g dB.F.kp dB.b .nil pass0 (pa_cons (pv 0) (pa_cons (pv 1) (pa_cons (pe_lst (pa_cons (pv 4) pa_nil)) pa_nil)))) (pv 3) (nomark _)) (pss_one ps_never) pss_nil)))
    (pss_cons (ps_set (i := 5) sc_cut.nd rfl (Or.inl rfl) (pe_lst pa_nil))
    (pss_cons (ps_for PassesOwn.never rfl (pi_list (pv 2)) (pg_name (i := 4) sc_cut.nd rfl (Or.inl rfl))
      (pss_one (ps_if (PW.pt (pw_and (pt_cmpR op_gt (pe_callB call_len_seq (by rfl) B.len PySem.boot_len (pa_cons (pv 5) pa_nil)) pe_int (nomark _))
          (pw_and1 (pt_cmpR op_le (pe_call GB hr rfl dB.g dB.F.kp dB.b .nil pass0 (pa_cons (pv 0) (pa_cons (pv 1) (pa_cons (pe_op op_cat (pe_ix ix_list (pv 5) (pe_un un_neg pe_int) (fun _ _ => rfl)) (pe_lst (pa_cons (pv 4) pa_nil))) pa_nil)))) (pv 3) (nomark _)))))
        (pss_one (ps_expr (pe_bm PySem.F.plainAttrs_list PySem.F.slot_list_append PySem.F.type_list_append mt_append (pe_ix ix_list (pv 5) (pe_un un_neg pe_int) (fun _ _ => rfl)) (pa_cons (pv 4) pa_nil))))
        (pss_one (ps_expr (pe_bm PySem.F.plainAttrs_list PySem.F.slot_list_append PySem.F.type_list_append mt_append (pv 5) (pa_cons (pe_lst (pa_cons (pv 4) pa_nil)) pa_nil)))))))
    (pss_one (ps_ret (pv 5))))))), ?_⟩
  have single : ∀ t ∈ row, RowOk o [t] := fun t ht => ⟨fun u hu => by simp at hu; rw [hu]; exact hrow.mem t ht, trivial, by simp⟩
  refine q_drop (v := .non) (ev_call (ea_cons (ev_var rfl) (ea_cons (ev_var rfl) (ea_cons (ev_var rfl) ea_nil))) (spCRow_v ok hT hh hS hrow hlen)) fun H1 e1 => ?_
  refine q_forLn (ev_var rfl) (ex_l e1 hS) (fun i σ' H' => (∃ v, σ' = [some (.ref p), some (.str home), some (.ref a), some (.int limit), v, none]) ∧ Ex H1 H') (fun H2 e => ⟨⟨_, rfl⟩, e⟩) (fun i σ' H' _ z => ex_l (e1.trans z.2) hS) ?_ ?_
  · rintro i x σ' H' hx ⟨⟨v, rfl⟩, e⟩
    rw [List.getElem?_map] at hx
    obtain ⟨n, hn, rfl⟩ := Option.map_eq_some_iff.mp hx
    obtain ⟨t, ht, rfl⟩ := List.mem_map.mp (List.mem_of_getElem? hn)
    refine s_when (b := false) (et_is (et_test (ev_op (ev_blenN (row := [t]) (ev_var rfl) ok (hT.ex' (e1.trans e)) (ev_var rfl) hh (el_lst (ea_cons (ev_var rfl) ea_nil) (by simp [nms])) (single t ht) (by simp)) (ev_var rfl) rv_I0)) ?_) (fun z => by cases z) (fun _ H2 e2 => ⟨⟨_, rfl⟩, e.trans e2⟩)
    have := hal t ht
    exact decide_eq_false (by omega)
  · rintro σ' H' ⟨⟨v, rfl⟩, e⟩
    have e1' := e1.trans e
    refine q_asgL (el_lst ea_nil (by simp)) fun l H2 hl e2 h2 => ?_
    have e2' := e1'.trans e2
    have hl0 : H l = none := fresh_back e1' hl
    refine q_forLn (ev_var rfl) (ex_l e2' hS) (fun i σ' H' => (∃ v, σ' = [some (.ref p), some (.str home), some (.ref a), some (.int limit), v, some (.ref l)]) ∧ Ex H H' ∧ ∃ as : List Addr, H' l = some (.lst (as.map V.ref)) ∧ ListsAt H' as ((cutAll (fits o home limit) (row.take i)).map nms) ∧ as.Nodup ∧ ∀ b ∈ as, H b = none ∧ b ≠ l)
      (fun H3 e3 => ⟨⟨_, rfl⟩, e2'.trans e3, [], e3 _ _ h2, .nil, by simp, by simp⟩) (fun i σ' H' _ z => ex_l z.2.1 hS) ?_ ?_
    · rintro i x σ' H' hx ⟨⟨v, rfl⟩, e, as, hl', hL, hnd, hnew⟩
      rw [List.getElem?_map] at hx
      obtain ⟨n, hn, rfl⟩ := Option.map_eq_some_iff.mp hx
      unfold nms at hn
      rw [List.getElem?_map] at hn
      obtain ⟨t, ht, rfl⟩ := Option.map_eq_some_iff.mp hn
      have htm := List.mem_of_getElem? ht
      have hi := (List.getElem?_eq_some_iff.mp ht).1
      rw [cutAll_take _ ht]
      generalize hps : cutAll (fits o home limit) (row.take i) = ps at hL
      have hflat : ps.flatten = row.take i := by rw [← hps]; exact cutAll_flat _ _
      have hasl : as.length = ps.length := by have := Paired.length hL; simpa using this
      have hpl : ps.length ≤ 1000 := by
        have ne := hps ▸ cutAll_ne (fits o home limit) (row.take i)
        have le : ∀ l : List (List Trip), (∀ p ∈ l, p ≠ []) → l.length ≤ l.flatten.length := by
          intro l
          induction l with
          | nil => intro _; simp
          | cons a r ih =>
            intro h
            have h1 : 1 ≤ a.length := List.length_pos_iff.mpr (h a List.mem_cons_self)
            have h2 := ih fun p hp => h p (List.mem_cons_of_mem _ hp)
            simp only [List.length_cons, List.flatten_cons, List.length_append]; omega
        have := le ps ne
        rw [hflat, List.length_take] at this
        omega
      have big : as.length < 100000 := by omega
      have addNew : ∀ {D : Ends} {H3 : Hp}, Ex H' H3 → (∀ {H4 : Hp}, (∃ v, [some (V.ref p), some (.str home), some (.ref a), some (.int limit), some (.str t.name), some (.ref l)] = [some (.ref p), some (.str home), some (.ref a), some (.int limit), v, some (.ref l)]) ∧ Ex H H4 ∧ (∃ as : List Addr, H4 l = some (.lst (as.map V.ref)) ∧ ListsAt H4 as ((ps ++ [[t]]).map nms) ∧ as.Nodup ∧ ∀ b ∈ as, H b = none ∧ b ≠ l) →
          D.nx [some (V.ref p), some (.str home), some (.ref a), some (.int limit), some (.str t.name), some (.ref l)] H4) →
          tDrop (tBM K "list" rAppend (tVar 5) (tCons (tLst (tCons (tVar 4) tNil)) tNil)) D [some (V.ref p), some (.str home), some (.ref a), some (.int limit), some (.str t.name), some (.ref l)] H3 := by
        intro D H3 e3 kk
        refine s_appL (xs := as.map V.ref) (ys := (nms [t]).map V.str) (e3 _ _ hl') (ev_var rfl) (el_lst (ea_cons (ev_var rfl) ea_nil) (by simp [nms])) (by rw [List.length_map]; exact big) fun q H4 hq e4 h4 => kk ⟨⟨_, rfl⟩, Ex.mut ((e.trans e3).trans e4) hl0, as ++ [q], ?_, ?_, ?_, ?_⟩
        · rw [upd_same, List.map_append]; rfl
        · rw [List.map_append]
          have hql : q ≠ l := fun z => by rw [z, e3 _ _ hl'] at hq; cases hq
          have nl : ∀ b ∈ as ++ [q], b ≠ l := fun b hb => by
            rcases List.mem_append.mp hb with z | z
            · exact (hnew b z).2
            · have : b = q := by simpa using z
              rw [this]; exact hql
          refine paired_mem (F := fun (a : Addr) (xs : List Str) => H4 a = some (.lst (xs.map V.str))) (paired_add (hL.mono (exr (e3.trans e4))) h4) fun b hb x hx => ?_
          rw [upd_ne (nl b hb)]; exact hx
        · refine List.nodup_append.mpr ⟨hnd, by simp, ?_⟩
          intro x hx y hy z
          simp only [List.mem_singleton] at hy
          subst hy; subst z
          obtain ⟨w', hw'⟩ := hL.lst x hx
          rw [e3 _ _ hw'] at hq; cases hq
        · intro b hb
          rcases List.mem_append.mp hb with z | z
          · exact hnew b z
          · have : b = q := by simpa using z
            rw [this]; exact ⟨fresh_back (e.trans e3) hq, fun z => by rw [z, e3 _ _ hl'] at hq; cases hq⟩
      cases hg : ps.getLast? with
      | none =>
        have hps0 : ps = [] := List.getLast?_eq_none_iff.mp hg
        subst hps0
        have has : as = [] := by simpa using hasl
        subst has
        refine s_if (b := false) (et_is (et_and (a := false) (b := false) (et_is (et_test (ev_op (ev_len (ev_var rfl) (sq_of hl')) ev_c rv_I0)) rfl) (fun z => by cases z)) rfl) (fun z => by cases z) (fun _ H3 e3 => ?_)
        refine addNew e3 fun {H4} h => ?_
        obtain ⟨h1, h2, h3⟩ := h
        refine ⟨h1, h2, ?_⟩
        unfold cutStep; rw [hg]
        exact h3
      | some l0 =>
        obtain ⟨qs, rfl⟩ := List.getLast?_eq_some_iff.mp hg
        have hL0 := hL
        rw [List.map_append] at hL
        obtain ⟨bs, b, rfl, hbs, hb⟩ := paired_snoc hL
        have hlast : atI ((bs ++ [b]).map V.ref) (-1) = some (.ref b) := atI_lastO (by rw [List.map_append]; simp)
        have hrw : row = qs.flatten ++ (l0 ++ [t]) ++ row.drop (i + 1) := by
          have h2 : row.drop i = t :: row.drop (i + 1) := by
            rw [List.drop_eq_getElem_cons hi]
            congr 1
            exact (List.getElem?_eq_some_iff.mp ht).2
          refine (List.take_append_drop i row).symm.trans ?_
          rw [h2, ← hflat]
          simp
        have hro : RowOk o (l0 ++ [t]) := RowOk.mid (hrw ▸ hrow) (by simp)
        have hl0len : (l0 ++ [t]).length ≤ 1000 := by
          have := congrArg List.length hrw
          simp only [List.length_append] at this ⊢
          omega
        have hlen' : decide ((0 : Int) < ((bs ++ [b]).map V.ref).length) = true := decide_eq_true (by rw [List.length_map, List.length_append]; simp)
        have catl : ∀ {H3 : Hp}, Ex H' H3 → EvL (tOp rCat (tOp (rIxL K) (tVar 5) (tUn (rU fun i => .int (-i)) (tC (.int 1)))) (tLst (tCons (tVar 4) tNil))) [some (V.ref p), some (.str home), some (.ref a), some (.int limit), some (.str t.name), some (.ref l)] H3 ((nms (l0 ++ [t])).map V.str) := fun {H3} e3 => by
          have := el_cat (ta := tOp (rIxL K) (tVar 5) (tUn (rU fun i => .int (-i)) (tC (.int 1)))) (tb := tLst (tCons (tVar 4) tNil)) (σ := [some (V.ref p), some (.str home), some (.ref a), some (.int limit), some (.str t.name), some (.ref l)]) (H := H3) (l := b) (xs := (nms l0).map V.str) (ys := [.str t.name])
            (ev_op (ev_var rfl) (ev_un ev_c ru_neg) (rv_ixL (sq_of (e3 _ _ hl')) hlast)) (e3 _ _ hb) (el_lst (ea_cons (ev_var rfl) ea_nil) (by simp)) (by unfold nms; simp only [List.length_map, List.length_append] at hl0len ⊢; simp at hl0len ⊢; omega)
          unfold nms at this ⊢
          rw [List.map_append, List.map_append]
          exact this
        refine s_if (b := fits o home limit (l0 ++ [t])) (et_is (et_and (a := true) (b := fits o home limit (l0 ++ [t])) (et_is (et_test (ev_op (ev_len (ev_var rfl) (sq_of hl')) ev_c rv_I0)) hlen') (fun _ => et_test (ev_op (ev_blenN (ev_var rfl) ok (hT.ex' e) (ev_var rfl) hh (catl (Ex.refl H')) hro hl0len) (ev_var rfl) rv_I0))) rfl) (fun hc H3 e3 => ?_) (fun hc H3 e3 => ?_)
        · refine s_app (xs := (nms l0).map V.str) (e3 _ _ hb) (ev_op (ev_var rfl) (ev_un ev_c ru_neg) (rv_ixL (sq_of (e3 _ _ hl')) hlast)) (ev_var rfl) (by unfold nms; simp only [List.length_map, List.length_append] at hl0len ⊢; omega) fun H4 e4 => ⟨⟨_, rfl⟩, Ex.mut ((e.trans e3).trans e4) (hnew b (by simp)).1, bs ++ [b], ?_, ?_, hnd, hnew⟩
          · rw [upd_ne (Ne.symm (hnew b (by simp)).2)]
            exact e4 _ _ (e3 _ _ hl')
          · unfold cutStep
            rw [hg]
            simp only [hc, if_true]
            rw [List.dropLast_concat, List.map_append]
            refine paired_add (paired_mem (F := fun (a : Addr) (xs : List Str) => H' a = some (.lst (xs.map V.str))) hbs fun c hc' x hx => ?_) ?_
            · have hcb : c ≠ b := fun z => (List.nodup_append.mp hnd).2.2 c hc' b (by simp) z
              rw [upd_ne hcb]
              exact e4 _ _ (e3 _ _ hx)
            · rw [upd_same]
              unfold nms
              rw [List.map_append, List.map_append]; rfl
        · refine addNew e3 fun {H4} h => ?_
          obtain ⟨h1, h2, h3⟩ := h
          refine ⟨h1, h2, ?_⟩
          unfold cutStep; rw [hg]
          simp only [hc]
          exact h3
    · rintro σ' H' ⟨⟨v, rfl⟩, e, as, hl', hL, hnd, hnew⟩
      refine s_ret (ev_var rfl) fun H6 e6 => k _ H6 (e.trans e6) ⟨l, rfl, as, e6 _ _ hl', ?_⟩
      have hz : row.take ((nms row).map V.str).length = row := by rw [List.length_map]; unfold nms; rw [List.length_map, List.take_length]
      rw [hz] at hL
      exact hL.mono (exr e6)
end
end K49
/-! K49D5 -/
/-! leg_of, legs. -/
namespace K49
open PySem L2 Evl
def Trip.none : Trip := ⟨"", "", "", 0, 0, 0⟩
def Office.leg (o : Office) (home a : Str) (t : Trip) (final : Bool) : Trip :=
  { name := t.name, origin := a, goal := if final = true then home else t.goal, start := t.start - o.D a t.origin, finish := if final = true then t.finish + o.D t.goal home else t.finish, seats := t.seats }
/-- the legs of a row -/
def legRow (o : Office) (home : Str) (row : List Trip) : List Trip := (List.range row.length).map fun k => o.leg home (goalAt row home k) (row.getD k Trip.none) (decide ((k : Int) = (row.length : Int) - 1))
theorem legRow_take {o : Office} {home : Str} {row : List Trip} {k : Nat} {t : Trip} (h : row[k]? = some t) : (legRow o home row).take (k + 1) = (legRow o home row).take k ++ [o.leg home (goalAt row home k) t (decide ((k : Int) = (row.length : Int) - 1))] := by
  have hk := (List.getElem?_eq_some_iff.mp h).1
  rw [List.take_add_one]
  congr 1
  unfold legRow
  rw [List.getElem?_map, List.getElem?_range hk]
  show [o.leg home (goalAt row home k) (row.getD k Trip.none) _] = _
  rw [List.getD_eq_getElem?_getD, h]
  rfl
theorem legRow_len (o : Office) (home : Str) (row : List Trip) : (legRow o home row).length = row.length := by unfold legRow; simp
/-- trips as tuples in a list -/
def TupsAt (H : Hp) (l : Addr) (ts : List Trip) : Prop := ∃ as : List Addr, H l = some (.lst (as.map V.ref)) ∧ Paired (fun a (t : Trip) => H a = some (.tup t.vs)) as ts
theorem TupsAt.mono {H H' : Hp} {l : Addr} {ts : List Trip} (R : TupsAt H l ts) (e : ExR H H') : TupsAt H' l ts := by
  obtain ⟨as, h1, h2⟩ := R
  exact ⟨as, e.lst h1, Paired.mapP h2 fun _ _ h => e.tup h⟩
/-- a dict of the names that were seen -/
def SeenAt (H : Hp) (d : Addr) (ks : List Str) : Prop := ∃ kvs : List (Key × V), H d = some (.dK kvs) ∧ kvs.map (·.1) = ks.map kS
theorem SeenAt.len {H : Hp} {d : Addr} {ks : List Str} {kvs : List (Key × V)} (h : kvs.map (·.1) = ks.map kS) : kvs.length = ks.length := by
  have := congrArg List.length h
  simpa using this
theorem not_kS {x : Str} {ks : List Str} (h : x ∉ ks) : ¬ kS x ∈ ks.map kS := fun m => by
  obtain ⟨y, hy, e⟩ := List.mem_map.mp m
  exact h (by cases e; exact hy)
theorem dec_int (a b : Int) : decide (V.int a = V.int b) = decide (a = b) := by
  by_cases e : a = b
  · subst e; simp
  · rw [decide_eq_false e]; exact decide_eq_false fun z => e (V.int.inj z)
theorem valV_new {kvs : List (Key × V)} {k : Key} (h : ¬ k ∈ kvs.map (·.1)) : valV kvs k = none := by
  cases q : valV kvs k with
  | none => rfl
  | some y => exact (h (valV_in q)).elim
section
variable {P : Program} {w : World} {K : PySem.W.Frag} {mg : Str → Option Value} {base : Heap}
theorem k_trip (T : Tx K mg) : FnOk P w K mg base CX0 1 T.f_trip T.fd_trip ["self", "name"] (spTrip T.CT T.CR) := ok_trip T.M_trip T.C
theorem k_rnames (T : Tx K mg) : FnOk P w K mg base CX0 1 T.f_rnames T.fd_rnames ["self"] (spRNames T.CR) := ok_rnames T.M_rnames T.C T.B
theorem k_len (T : Tx K mg) : FnOk P w K mg base CX0 1 T.f_len T.fd_len ["self", "origin", "goal"] (spLength T.CR) := ok_length T.M_len T.C
theorem k_gap (T : Tx K mg) : FnOk P w K mg base CX0 2 T.f_gap T.fd_gap ["table", "one", "other"] (spGap T.CT T.CR) := ok_gap T.d_gap T.C T.M_trip T.M_len
theorem k_linked (T : Tx K mg) : FnOk P w K mg base CX0 3 T.f_linked T.fd_linked ["table", "one", "other"] (spLinked T.CT T.CR) := ok_linked T.d_linked T.d_gap (k_gap T)
theorem k_check_place (T : Tx K mg) : FnOk P w K mg base CX0 2 T.f_check_place T.fd_check_place ["table", "home"] (spCPlace T.CT T.CR) := ok_check_place T.d_check_place T.C T.B T.M_rnames
theorem k_check_links (T : Tx K mg) : FnOk P w K mg base CX0 4 T.f_check_links T.fd_check_links ["table", "names"] (spCLinks T.CT T.CR K) := ok_check_links T.d_check_links T.C T.B T.M_trip T.d_linked (k_linked T)
theorem k_check_row (T : Tx K mg) : FnOk P w K mg base CX0 5 T.f_check_row T.fd_check_row ["table", "home", "names"] (spCRow T.CT T.CR K) := ok_check_row T.d_check_row T.d_check_place T.d_check_links (k_check_place T) (k_check_links T)
theorem k_min (T : Tx K mg) : FnOk P w K mg base CX0 2 T.f_minutes_between T.fd_minutes_between ["table", "origin", "goal"] (spMin T.CT T.CR) := ok_minutes T.d_minutes_between T.C T.M_len
theorem k_blen (T : Tx K mg) : FnOk P w K mg base CX0 6 T.f_block_length T.fd_block_length ["table", "home", "names"] (spBLen T.CT T.CR K) := ok_blen T.d_block_length T.C T.B T.M_trip T.d_minutes_between T.d_check_row (k_min T) (k_check_row T)
theorem k_cut (T : Tx K mg) : FnOk P w K mg base CX0 7 T.f_cut T.fd_cut ["table", "home", "names", "limit"] (spCut T.CT T.CR K) := ok_cut T.d_cut T.B T.d_block_length T.d_check_row (k_blen T) (k_check_row T)

theorem sc_leg_of : FnScope ["table", "home", "at", "trip", "final", "start"] ["table", "home", "at", "trip", "final"] (defScope s_leg_of) := ⟨rfl, rfl, rfl, by decide +kernel, rfl, by decide +kernel, by decide +kernel⟩
def spLeg (CT CR : Addr) : Sp := fun vs H Q _ => ∃ (p : Addr) (o : Office) (home a : Str) (t : Trip) (b : Bool), vs = [.ref p, .str home, .str a, .ref (o.ad t.name), .bl b] ∧ o.Ok ∧ TableAt CT CR H p o ∧ home ∈ o.ps ∧ a ∈ o.ps ∧ t ∈ o.ts ∧
  RetP (fun v H2 => ∃ q, v = .ref q ∧ H2 q = some (.tup (o.leg home a t b).vs)) H Q
theorem k_leg (T : Tx K mg) : FnOk P w K mg base CX0 3 T.f_leg_of T.fd_leg_of ["table", "home", "at", "trip", "final"] (spLeg T.CT T.CR) := by
  have G_minutes_between := k_min (P := P) (w := w) (base := base) T
  refine T.d_leg_of.F.ok sc_leg_of (fun vs H Q E h => ?_) (fun cdv A outer s H vs Q E hr h => ?_)
  · obtain ⟨p, o, home, a, t, b, rfl, _⟩ := h
    rfl
  obtain ⟨p, o, home, a, t, b, rfl, ok, hT, hh, ha, ht, k⟩ := h
  refine ⟨_, PSs.nox (pss_cons (ps_set (i := 5) sc_leg_of.nd rfl (Or.inl rfl) (pe_op op_sub (pe_ix ix_tup (pv 3) pe_int (fun _ _ => rfl)) (pe_call G_minutes_between (hr.mono (by decide)) rfl T.d_minutes_between.g T.d_minutes_between.F.kp T.d_minutes_between.b .nil pass0 (pa_cons (pv 0) (pa_cons (pv 2) (pa_cons (pe_ix ix_tup (pv 3) pe_int (fun _ _ => rfl)) pa_nil))))))
    (pss_cons (ps_if (pt_val (pv 4))
      (pss_one (ps_ret (pe_tup (pa_cons (pe_ix ix_tup (pv 3) pe_int (fun _ _ => rfl)) (pa_cons (pv 2) (pa_cons (pv 1) (pa_cons (pv 5) (pa_cons (pe_op op_add (pe_ix ix_tup (pv 3) pe_int (fun _ _ => rfl)) (pe_call G_minutes_between (hr.mono (by decide)) rfl T.d_minutes_between.g T.d_minutes_between.F.kp T.d_minutes_between.b .nil pass0 (pa_cons (pv 0) (pa_cons (pe_ix ix_tup (pv 3) pe_int (fun _ _ => rfl)) (pa_cons (pv 1) pa_nil))))) (pa_cons (pe_ix ix_tup (pv 3) pe_int (fun _ _ => rfl)) pa_nil)))))))))
      pss_nil)
    (pss_one (ps_ret (pe_tup (pa_cons (pe_ix ix_tup (pv 3) pe_int (fun _ _ => rfl)) (pa_cons (pv 2) (pa_cons (pe_ix ix_tup (pv 3) pe_int (fun _ _ => rfl)) (pa_cons (pv 5) (pa_cons (pe_ix ix_tup (pv 3) pe_int (fun _ _ => rfl)) (pa_cons (pe_ix ix_tup (pv 3) pe_int (fun _ _ => rfl)) pa_nil))))))))))), ?_⟩
  have tt : ∀ {H9 : Hp}, Ex H H9 → H9 (o.ad t.name) = some (.tup t.vs) := fun e9 => e9 _ _ (hT.tup ht)
  refine q_asg (ev_op (ev_op (ev_var rfl) ev_c (rv_ixT (st_of (tt (Ex.refl H))) rfl)) (ev_min (ev_var rfl) hT (ev_var rfl) (ev_op (ev_var rfl) ev_c (rv_ixT (st_of (tt (Ex.refl H))) rfl)) ha (ok.org _ ht)) rv_I0) fun H1 e1 => ?_
  refine q_when (b := b) (et_B (ev_var rfl)) (fun hb H2 e2 => ?_) (fun hb H2 e2 => ?_)
  · subst hb
    have t2 := tt (e1.trans e2)
    exact s_retU (eu_tup (ea_cons (ev_op (ev_var rfl) ev_c (rv_ixT (st_of t2) rfl)) (ea_cons (ev_var rfl) (ea_cons (ev_var rfl) (ea_cons (ev_var rfl) (ea_cons (ev_op (ev_op (ev_var rfl) ev_c (rv_ixT (st_of t2) rfl)) (ev_min (ev_var rfl) (hT.ex' (e1.trans e2)) (ev_op (ev_var rfl) ev_c (rv_ixT (st_of t2) rfl)) (ev_var rfl) (ok.goal _ ht) hh) rv_I0)
      (ea_cons (ev_op (ev_var rfl) ev_c (rv_ixT (st_of t2) rfl)) ea_nil)))))) (by simp)) fun q H3 hq e3 h3 => k _ H3 (e1.trans (e2.trans e3)) ⟨q, rfl, h3⟩
  · subst hb
    have t2 := tt (e1.trans e2)
    exact s_retU (eu_tup (ea_cons (ev_op (ev_var rfl) ev_c (rv_ixT (st_of t2) rfl)) (ea_cons (ev_var rfl) (ea_cons (ev_op (ev_var rfl) ev_c (rv_ixT (st_of t2) rfl)) (ea_cons (ev_var rfl) (ea_cons (ev_op (ev_var rfl) ev_c (rv_ixT (st_of t2) rfl))
      (ea_cons (ev_op (ev_var rfl) ev_c (rv_ixT (st_of t2) rfl)) ea_nil)))))) (by simp)) fun q H3 hq e3 h3 => k _ H3 (e1.trans (e2.trans e3)) ⟨q, rfl, h3⟩

theorem sc_legs : FnScope ["table", "home", "blocks", "names", "seen", "made", "at", "k", "trip"] ["table", "home", "blocks"] (defScope s_legs) := ⟨rfl, rfl, rfl, by decide +kernel, rfl, by decide +kernel, by decide +kernel⟩
def spLegs (CT CR : Addr) : Sp := fun vs H Q _ => ∃ (p bl : Addr) (o : Office) (home : Str) (rows : List (List Trip)), vs = [.ref p, .str home, .ref bl] ∧ o.Ok ∧ TableAt CT CR H p o ∧ home ∈ o.ps ∧ LL H bl (rows.map nms) ∧ (∀ r ∈ rows, RowOk o r) ∧ (nms rows.flatten).Nodup ∧ rows.flatten.length ≤ 1000 ∧
  RetP (fun v H2 => ∃ l, v = .ref l ∧ TupsAt H2 l (rows.flatMap (legRow o home))) H Q
theorem paired_get {α β : Type} {F : α → β → Prop} : ∀ {as : List α} {xs : List β} {i : Nat} {a : α}, Paired F as xs → as[i]? = some a → ∃ x, xs[i]? = some x ∧ F a x
  | _, _, 0, _, .cons h _, e => by obtain rfl := Option.some.inj e; exact ⟨_, rfl, h⟩
  | _, _, i + 1, a, .cons _ k, e => by
    obtain ⟨x, h1, h2⟩ := paired_get (i := i) (a := a) k (by simpa using e)
    exact ⟨x, by simpa using h1, h2⟩
  | _, _, _, _, .nil, e => by simp at e
theorem paired_app {α β : Type} {F : α → β → Prop} : ∀ {as bs : List α} {xs ys : List β}, Paired F as xs → Paired F bs ys → Paired F (as ++ bs) (xs ++ ys)
  | _, _, _, _, .nil, h => h
  | _, _, _, _, .cons k r, h => .cons k (paired_app r h)
theorem k_legs (T : Tx K mg) : FnOk P w K mg base CX0 7 T.f_legs T.fd_legs ["table", "home", "blocks"] (spLegs T.CT T.CR) := by
  have G_trip := k_trip (P := P) (w := w) (base := base) T
  have G_block_length := k_blen (P := P) (w := w) (base := base) T
  have G_leg_of := k_leg (P := P) (w := w) (base := base) T
  refine T.d_legs.F.ok sc_legs (fun vs H Q E h => ?_) (fun cdv A outer s H vs Q E hr h => ?_)
  · obtain ⟨p, bl, o, home, rows, rfl, _⟩ := h
    rfl
  obtain ⟨p, bl, o, home, rows, rfl, ok, hT, hh, hLL, hrows, hnd, hlen, k⟩ := h
  have hu := hu_of hr
  refine ⟨_, PSs.nox (pss_cons (ps_for PassesOwn.never rfl (pi_list (pv 2)) (pg_name (i := 3) sc_legs.nd rfl (Or.inl rfl))
      (pss_one (ps_expr (pe_call G_block_length (hr.mono (by decide)) rfl T.d_block_length.g T.d_block_length.F.kp T.d_block_length.b .nil pass0 (pa_cons (pv 0) (pa_cons (pv 1) (pa_cons (pv 3) pa_nil)))))))
    (pss_cons (ps_set (i := 4) sc_legs.nd rfl (Or.inl rfl) pe_dnewK)
    (pss_cons (ps_set (i := 5) sc_legs.nd rfl (Or.inl rfl) (pe_lst pa_nil))
    (pss_cons (ps_for PassesOwn.never rfl (pi_list (pv 2)) (pg_name (i := 3) sc_legs.nd rfl (Or.inl rfl))
      (pss_cons (ps_set (i := 6) sc_legs.nd rfl (Or.inl rfl) (pv 1))
      (pss_one (ps_for PassesOwn.never rfl (pi_range1 (by rfl) T.B.range (pa_cons (pe_callB call_len_seq (by rfl) T.B.len PySem.boot_len (pa_cons (pv 3) pa_nil)) pa_nil)) (pg_name (i := 7) sc_legs.nd rfl (Or.inl rfl))
        (pss_cons (ps_if (pt_cmp (pc_din hu (pe_ix ix_list (pv 3) (pv 7) (fun _ _ => rfl)) (pv 4)))
          (pss_one ps_never)
          pss_nil)
        (pss_cons (ps_dput hu (pv 4) (pe_ix ix_list (pv 3) (pv 7) (fun _ _ => rfl)) pe_bl rfl)
        (pss_cons (ps_set (i := 8) sc_legs.nd rfl (Or.inl rfl) (pe_meth (pv 0) T.C.T T.M_trip.m G_trip (hr.mono (by decide)) T.M_trip.b .nil pass0 (pa_cons (pe_ix ix_list (pv 3) (pv 7) (fun _ _ => rfl)) pa_nil)))
        (pss_cons (ps_expr (pe_bm PySem.F.plainAttrs_list PySem.F.slot_list_append PySem.F.type_list_append mt_append (pv 5) (pa_cons (pe_call G_leg_of (hr.mono (by decide)) rfl T.d_leg_of.g T.d_leg_of.F.kp T.d_leg_of.b .nil pass0 (pa_cons (pv 0) (pa_cons (pv 1) (pa_cons (pv 6) (pa_cons (pv 8) (pa_cons (pe_cmpR op_eq (pv 7) (pe_op op_sub (pe_callB call_len_seq (by rfl) T.B.len PySem.boot_len (pa_cons (pv 3) pa_nil)) pe_int) (nomark _)) pa_nil)))))) pa_nil)))
        (pss_one (ps_set (i := 6) sc_legs.nd rfl (Or.inl rfl) (pe_ix ix_tup (pv 8) pe_int (fun _ _ => rfl))))))))))))
    (pss_one (ps_ret (pv 5))))))), ?_⟩
  obtain ⟨as, hbl, hL⟩ := hLL
  have hrl : ∀ r ∈ rows, r.length ≤ 1000 := fun r hr' => by
    have := List.Sublist.length_le (List.sublist_flatten_of_mem hr')
    omega
  have rowat : ∀ {i : Nat} {x : V}, (as.map V.ref)[i]? = some x → ∃ (b : Addr) (row : List Trip), x = .ref b ∧ rows[i]? = some row ∧ H b = some (.lst ((nms row).map V.str)) := fun {i x} hx => by
    rw [List.getElem?_map] at hx
    obtain ⟨b, hb, rfl⟩ := Option.map_eq_some_iff.mp hx
    obtain ⟨ns, h1, h2⟩ := paired_get hL hb
    rw [List.getElem?_map] at h1
    obtain ⟨row, h3, rfl⟩ := Option.map_eq_some_iff.mp h1
    exact ⟨b, row, rfl, h3, h2⟩
  have hal : as.length = rows.length := by have := Paired.length hL; simpa using this
  refine q_forLn (ev_var rfl) (sq_of hbl) (fun i σ' H' => (∃ v, σ' = [some (.ref p), some (.str home), some (.ref bl), v, none, none, none, none, none]) ∧ Ex H H') (fun H1 e => ⟨⟨_, rfl⟩, e⟩) (fun i σ' H' _ z => sq_of (z.2 _ _ hbl)) ?_ ?_
  · rintro i x σ' H' hx ⟨⟨v, rfl⟩, e⟩
    obtain ⟨b, row, rfl, hrow, hb⟩ := rowat hx
    have hm := List.mem_of_getElem? hrow
    exact s_drop (ev_blen (ev_var rfl) ok (hT.ex' e) (ev_var rfl) hh (ev_var rfl) (sq_of (e _ _ hb)) (hrows row hm) (hrl row hm)) fun H1 e1 => ⟨⟨_, rfl⟩, e.trans e1⟩
  rintro σ' H0 ⟨⟨v, rfl⟩, e0⟩
  refine fun sn hsn => ?_
  have hsn0 : H sn = none := fresh_back e0 hsn
  refine q_asgL (el_lst ea_nil (by simp)) fun md H2 hmd e2 h2 => ?_
  have hmd0 : H md = none := fresh_back (e0.trans (Ex.new hsn)) hmd
  have hne : sn ≠ md := fun z => by rw [← z, upd_same] at hmd; cases hmd
  have e02 : Ex H H2 := (e0.trans (Ex.new hsn)).trans e2
  refine q_forLn (ev_var rfl) (sq_of (e02 _ _ hbl)) (fun i σ' H' => (∃ v3 v6 v7 v8, σ' = [some (.ref p), some (.str home), some (.ref bl), v3, some (.ref sn), some (.ref md), v6, v7, v8]) ∧ Ex H H' ∧ SeenAt H' sn (nms (rows.take i).flatten) ∧ TupsAt H' md ((rows.take i).flatMap (legRow o home)))
    (fun H3 e3 => ⟨⟨_, _, _, _, rfl⟩, e02.trans e3, ⟨[], e3 _ _ (e2 _ _ upd_same), rfl⟩, ⟨[], e3 _ _ h2, .nil⟩⟩) (fun i σ' H' _ z => sq_of (z.2.1 _ _ hbl)) ?_ ?_
  · rintro i x σ' H' hx ⟨⟨v3, v6, v7, v8, rfl⟩, e, hseen, hmade⟩
    obtain ⟨b, row, rfl, hrow, hb⟩ := rowat hx
    have hm := List.mem_of_getElem? hrow
    have hR := hrows row hm
    have tk : rows.take (i + 1) = rows.take i ++ [row] := by rw [List.take_add_one, hrow]; rfl
    have hfl : nms rows.flatten = nms (rows.take i).flatten ++ nms row ++ nms (rows.drop (i + 1)).flatten := by
      have h1 : rows = rows.take i ++ [row] ++ rows.drop (i + 1) := by rw [← tk, List.take_append_drop]
      have h2 : rows.flatten = (rows.take i ++ [row] ++ rows.drop (i + 1)).flatten := congrArg List.flatten h1
      rw [h2]
      unfold nms
      simp
    refine q_asg (ev_var rfl) fun H3 e3 => ?_
    have hl : ((nms row).map V.str).length = row.length := by rw [List.length_map]; exact List.length_map _
    have hrl' := hrl row hm
    refine s_forR1 (n := row.length) (ea_cons (ev_is (ev_len (ev_var rfl) (sq_of ((e.trans e3) _ _ hb))) (by rw [hl])) ea_nil) ⟨by omega, by omega⟩
      (fun j σ' H' => (∃ v7 v8, σ' = [some (.ref p), some (.str home), some (.ref bl), some (.ref b), some (.ref sn), some (.ref md), some (.str (goalAt row home j)), v7, v8]) ∧ Ex H H' ∧ SeenAt H' sn (nms (rows.take i).flatten ++ (nms row).take j) ∧ TupsAt H' md ((rows.take i).flatMap (legRow o home) ++ (legRow o home row).take j))
      (fun H4 e4 => ⟨⟨_, _, rfl⟩, (e.trans e3).trans e4, ?_, ?_⟩) ?_ ?_
    · obtain ⟨kvs, h1, h2⟩ := hseen
      exact ⟨kvs, e4 _ _ (e3 _ _ h1), by rw [h2]; simp⟩
    · have := hmade.mono (exr (e3.trans e4))
      simpa using this
    · rintro j σ' H5 hj ⟨⟨v7, v8, rfl⟩, e5, ⟨kvs, hk1, hk2⟩, hmade'⟩
      have hj' : j < row.length := by omega
      have ht : row[j]? = some row[j] := List.getElem?_eq_getElem _
      generalize row[j] = t at ht
      have mt := hR.mem _ (List.mem_of_getElem? ht)
      have nk : ∀ {H9 : Hp} {tt : Option V}, Ex H5 H9 → Ev (tOp (rIxL K) (tVar 3) (tVar 7)) [some (.ref p), some (.str home), some (.ref bl), some (.ref b), some (.ref sn), some (.ref md), some (.str (goalAt row home j)), some (.int (j : Int)), tt] H9 (.str t.name) := fun e9 =>
        ev_op (ev_var rfl) (ev_var rfl) (rv_ixL (sq_of (e9 _ _ (e5 _ _ hb))) (atI_nat (nms_at ht)))
      have tkj : (nms row).take (j + 1) = (nms row).take j ++ [t.name] := by
        rw [List.take_add_one]
        unfold nms
        rw [List.getElem?_map, ht]; rfl
      have newn : t.name ∉ nms (rows.take i).flatten ++ (nms row).take j := fun q => by
        have hd := hnd
        rw [hfl] at hd
        have h3 : nms row = (nms row).take j ++ t.name :: (nms row).drop (j + 1) := by
          have h4 := List.take_append_drop (j + 1) (nms row)
          rw [tkj] at h4
          simpa using h4.symm
        rw [h3] at hd
        have hd2 : ((nms (rows.take i).flatten ++ (nms row).take j) ++ (t.name :: ((nms row).drop (j + 1) ++ nms (rows.drop (i + 1)).flatten))).Nodup := by simpa using hd
        exact (List.nodup_append.mp hd2).2.2 _ q _ List.mem_cons_self rfl
      have hlenk : kvs.length ≤ 1000 := by
        have h1 := SeenAt.len (H := H) (d := sn) hk2
        have h2 := congrArg List.length hfl
        have h3 : (nms rows.flatten).length = rows.flatten.length := List.length_map _
        have h4 : (nms row).length = row.length := List.length_map _
        simp only [List.length_append, List.length_take] at h1 h2
        omega
      have vn := valV_new (kvs := kvs) (k := kS t.name) (by rw [hk2]; exact not_kS newn)
      refine q_when (b := false) (et_is (et_B (ev_din (nk (Ex.refl _)) (ev_var rfl) (dget_rd (k := kS t.name) (.inl hk1)))) (by rw [vn]; rfl)) (fun z => by cases z) (fun _ H6 e6 => ?_)
      refine s_dput (k := kS t.name) ev_c (ev_var rfl) (nk e6) (e6 _ _ hk1) (by omega) fun H7 e7 => ?_
      have e8 : Ex H (upd H7 sn (.dK (putK kvs (kS t.name) (.bl true)))) := Ex.mut ((e5.trans e6).trans e7) hsn0
      refine q_asg (ev_trip (ev_var rfl) (hT.ex' e8) (ev_op (ev_var rfl) (ev_var rfl) (rv_ixL (sq_of (e8 _ _ hb)) (atI_nat (nms_at ht)))) mt) fun H8 e9 => ?_
      have e10 := e8.trans e9
      obtain ⟨as', hm1, hm2⟩ := hmade'
      have hm8 : H8 md = some (.lst (as'.map V.ref)) := e9 _ _ (by rw [upd_ne hne.symm]; exact e7 _ _ (e6 _ _ hm1))
      have hgi := goalAt_in ok hR.mem hh (Nat.le_of_lt hj')
      refine s_appP (P := fun v H2 => ∃ q, v = .ref q ∧ H2 q = some (.tup (o.leg home (goalAt row home j) t (decide ((j : Int) = (row.length : Int) - 1))).vs)) hm8 (ev_var rfl) (ep_call (ea_cons (ev_var rfl) (ea_cons (ev_var rfl) (ea_cons (ev_var rfl) (ea_cons (ev_var rfl) (ea_cons (ev_op (ev_var rfl) (ev_op (ev_len (ev_var rfl) (sq_of (e10 _ _ hb))) ev_c rv_I0) (rv_eq rfl)) ea_nil)))))
        (fun H9 e11 Q1 q1 E1 => ⟨p, o, home, goalAt row home j, t, decide ((j : Int) = (row.length : Int) - 1), ?_, ok, hT.ex' (e10.trans e11), hh, hgi, mt, q1⟩)) ?_ ?_
      · rw [hl, dec_int]; rfl
      · have h1 := Paired.length hm2
        have h2 := congrArg List.length hfl
        have h3 : (nms rows.flatten).length = rows.flatten.length := List.length_map _
        have h4 : (nms row).length = row.length := List.length_map _
        have h5 : ∀ l : List (List Trip), (l.flatMap (legRow o home)).length = l.flatten.length := fun l => by
          induction l with
          | nil => rfl
          | cons a r ih => simp only [List.flatMap_cons, List.flatten_cons, List.length_append, legRow_len, ih]
        have h6 : (nms (rows.take i).flatten).length = (rows.take i).flatten.length := List.length_map _
        rw [List.length_append, h5, List.length_take, legRow_len] at h1
        rw [List.length_append, List.length_append] at h2
        rw [List.length_map]
        omega
      · rintro v9 H9 e11 ⟨q, rfl, hq⟩
        have hmn : ∀ {c : Addr} {xs : List V}, H9 c = some (.tup xs) → c ≠ md := fun {c xs} hc => ne_of hc (e11 _ _ hm8) (by intro z; cases z)
        refine s_asg (ev_op (ev_var rfl) ev_c (rv_ixT (st_of (Ex.mut (e10.trans e11) hmd0 _ _ (hT.tup mt))) rfl)) fun H10 e12 => ⟨⟨some (.int (j : Int)), some (.ref (o.ad t.name)), ?_⟩, (Ex.mut (e10.trans e11) hmd0).trans e12, ⟨putK kvs (kS t.name) (.bl true), ?_, ?_⟩, ⟨as' ++ [q], ?_, ?_⟩⟩
        · rw [goalAt_succ ht]; rfl
        · refine e12 _ _ ?_
          rw [upd_ne hne]
          exact e11 _ _ (e9 _ _ upd_same)
        · rw [putK_new _ vn, List.map_append, hk2, tkj, ← List.append_assoc, List.map_append (l₁ := nms (rows.take i).flatten ++ (nms row).take j)]; rfl
        · refine e12 _ _ ?_
          rw [upd_same, List.map_append]; rfl
        · rw [legRow_take ht, ← List.append_assoc]
          refine paired_add (Paired.mapP hm2 fun c t' hc => ?_) ?_
          · refine e12 _ _ ?_
            have hc9 : H9 c = some (.tup t'.vs) := e11 _ _ (e9 _ _ (by
              have : H7 c = some (.tup t'.vs) := e7 _ _ (e6 _ _ hc)
              rw [upd_ne (ne_of this (e7 _ _ (e6 _ _ hk1)) (by intro z; cases z))]
              exact this))
            rw [upd_ne (hmn hc9)]; exact hc9
          · refine e12 _ _ ?_
            rw [upd_ne (hmn hq)]; exact hq
    · rintro σ' H5 ⟨⟨v7, v8, rfl⟩, e5, hs5, hm5⟩
      have h4 : (nms row).length = row.length := List.length_map _
      refine ⟨⟨_, _, _, _, rfl⟩, e5, ?_, ?_⟩
      · rw [tk]
        have e : nms (rows.take i ++ [row]).flatten = nms (rows.take i).flatten ++ (nms row).take (row.length : Int).toNat := by
          rw [Int.toNat_natCast, ← h4, List.take_length]
          unfold nms; simp
        rw [e]; exact hs5
      · rw [tk]
        have e : (rows.take i ++ [row]).flatMap (legRow o home) = (rows.take i).flatMap (legRow o home) ++ (legRow o home row).take (row.length : Int).toNat := by
          rw [Int.toNat_natCast, ← legRow_len o home row, List.take_length]
          simp
        rw [e]; exact hm5
  · rintro σ' H5 ⟨⟨v3, v6, v7, v8, rfl⟩, e5, hs5, hm5⟩
    rw [List.length_map, hal, List.take_length] at hm5
    exact s_ret (ev_var rfl) fun H6 e6 => k _ H6 (e5.trans e6) ⟨md, rfl, hm5.mono (exr e6)⟩
end
end K49
/-! K49D6 -/
/-! checked_name, checked_number, check_roads, heights_from, Roads.__init__. -/
namespace K49
open PySem L2 Evl
abbrev signs : Str := "abcdefghijklmnopqrstuvwxyz0123456789"
structure NameOk (s : Str) : Prop where
  ne : s.length ≠ 0
  le : s.length ≤ 12
  sg : ∀ c ∈ s.cps.toList, c ∈ signs.cps.toList
section
variable {P : Program} {w : World} {K : PySem.W.Frag} {mg : Str → Option Value} {base : Heap}
theorem sc_checked_name : FnScope ["name", "sign"] ["name"] (defScope s_checked_name) := ⟨rfl, rfl, rfl, by decide +kernel, rfl, by decide +kernel, by decide +kernel⟩
def spCName : Sp := fun vs H Q _ => ∃ (x : Str), vs = [.str x] ∧ NameOk x ∧ RetV (.str x) H Q
theorem rc_lenS {H : Hp} {z : Str} (h : z.length ≤ sizeLine) : RC (fun xs H Q => ∃ z, xs = [.str z] ∧ z.length ≤ sizeLine ∧ Q (.int z.length) H) [.str z] H (.int z.length) := fun H1 e Q q => ⟨z, rfl, h, q H1 (Ex.refl H1)⟩
theorem k_checked_name (T : Tx K mg) : FnOk P w K mg base CX0 1 T.f_checked_name T.fd_checked_name ["name"] spCName := by
  refine T.d_checked_name.F.ok sc_checked_name (fun vs H Q E h => ?_) (fun cdv A outer s H vs Q E hr h => ?_)
  · obtain ⟨x, rfl, _⟩ := h
    rfl
  obtain ⟨x, rfl, hx, k⟩ := h
  obtain ⟨tl, hLONGEST⟩ := T.B.LONGEST
  obtain ⟨ts, hSIGNS⟩ := T.B.SIGNS
  refine ⟨_, PSs.nox (pss_cons (ps_if (PW.pt (pw_or (pt_cmpR op_eq (pe_callB call_len_str (by rfl) T.B.len PySem.boot_len (pa_cons (pv 0) pa_nil)) pe_int (nomark _)) (pw_or1 (pt_cmpR op_gt (pe_callB call_len_str (by rfl) T.B.len PySem.boot_len (pa_cons (pv 0) pa_nil)) (pe_glob (v := .int 12) rfl hLONGEST ⟨_, rfl⟩) (nomark _)))))
      (pss_one ps_never)
      pss_nil)
    (pss_cons (ps_for PassesOwn.never rfl (pi_str (pv 0)) (pg_name (i := 1) sc_checked_name.nd rfl (Or.inl rfl))
      (pss_one (ps_if (pt_cmpR op_notIn_sign (pv 1) (pe_glob (v := .str signs) rfl hSIGNS ⟨_, rfl⟩) (by rfl))
        (pss_one ps_never)
        pss_nil)))
    (pss_one (ps_ret (pv 0))))), ?_⟩
  have hz : x.length ≤ sizeLine := Nat.le_trans hx.le (by decide)
  refine q_when (b := false) (et_is (et_or (a := false) (b := false) (et_is (et_test (ev_op (ev_cb (ea_cons (ev_var rfl) ea_nil) (rc_lenS hz)) ev_c (rv_eq rfl))) (by rw [dec_int]; exact decide_eq_false (by have := hx.ne; omega))) (fun _ => et_is (et_test (ev_op (ev_cb (ea_cons (ev_var rfl) ea_nil) (rc_lenS hz)) ev_c rv_I0)) (decide_eq_false (by have := hx.le; omega)))) rfl) (fun z => by cases z) (fun _ H1 e1 => ?_)
  refine s_forS (D := { nx := _, rt := _ }) (ev_var rfl) (fun i σ' H' => (∃ v, σ' = [some (.str x), v]) ∧ Ex H H') (fun H2 e2 => ⟨⟨_, rfl⟩, e1.trans e2⟩) ?_ ?_
  · rintro i c σ' H' hc ⟨⟨v, rfl⟩, e⟩
    have hm : c ∈ x.cps.toList := by
      obtain ⟨h, e⟩ := Array.getElem?_eq_some_iff.mp hc
      rw [← e]; exact Array.getElem_mem_toList h
    refine s_when (b := false) (et_is (et_test (ev_op (r := fun x y H Q => ∃ (c : Nat) (z : Str), x = .str ⟨#[c]⟩ ∧ y = .str z ∧ Q (.bl (!decide (c ∈ z.cps.toList))) H) (ev_var rfl) ev_c fun H1 e Q q => ⟨c, signs, rfl, rfl, q H1 (Ex.refl H1)⟩)) (by rw [decide_eq_true (hx.sg c hm)]; rfl)) (fun z => by cases z) (fun _ H1 e1 => ⟨⟨_, rfl⟩, e.trans e1⟩)
  · rintro σ' H' ⟨⟨v, rfl⟩, e⟩
    exact s_ret (ev_var rfl) fun H3 e3 => k H3 (e.trans e3)
theorem sc_checked_number : FnScope ["value", "least"] ["value", "least"] (defScope s_checked_number) := ⟨rfl, rfl, rfl, by decide +kernel, rfl, by decide +kernel, by decide +kernel⟩
def spCNum : Sp := fun vs H Q _ => ∃ (x l : Int), vs = [.int x, .int l] ∧ l ≤ x ∧ x ≤ 1000000000 ∧ RetV (.int x) H Q
theorem k_checked_number (T : Tx K mg) : FnOk P w K mg base CX0 1 T.f_checked_number T.fd_checked_number ["value", "least"] spCNum := by
  refine T.d_checked_number.F.ok sc_checked_number (fun vs H Q E h => ?_) (fun cdv A outer s H vs Q E hr h => ?_)
  · obtain ⟨x, l, rfl, _⟩ := h
    rfl
  obtain ⟨x, l, rfl, h1, h2, k⟩ := h
  obtain ⟨tl, hLIMIT⟩ := T.B.LIMIT
  refine ⟨_, PSs.nox (pss_cons (ps_if (PW.pt (pw_or (pt_cmpR op_lt (pv 0) (pv 1) (nomark _)) (pw_or1 (pt_cmpR op_gt (pv 0) (pe_glob (v := .int 1000000000) rfl hLIMIT ⟨_, rfl⟩) (nomark _)))))
      (pss_one ps_never)
      pss_nil)
    (pss_one (ps_ret (pv 0)))), ?_⟩
  refine q_when (b := false) (et_is (et_or (a := false) (b := false) (et_is (et_test (ev_op (ev_var rfl) (ev_var rfl) rv_I0)) (decide_eq_false (by omega))) (fun _ => et_is (et_test (ev_op (ev_var rfl) ev_c rv_I0)) (decide_eq_false (by omega)))) rfl) (fun z => by cases z) (fun _ H1 e1 => ?_)
  exact s_ret (ev_var rfl) fun H3 e3 => k H3 (e1.trans e3)
theorem ev_cname {σ : St} {H : Hp} {ta : TE} {E : XK} {x : Str} (h : Ev ta σ H (.str x)) (hx : NameOk x) : Ev (tCall spCName [] E (tCons ta tNil)) σ H (.str x) := ev_call (ea_cons h ea_nil) fun H1 e Q q E => ⟨x, rfl, hx, fun H2 e2 => q H2 e2⟩
theorem ev_cnum {σ : St} {H : Hp} {ta tb : TE} {E : XK} {x l : Int} (h : Ev ta σ H (.int x)) (h' : Ev tb σ H (.int l)) (h1 : l ≤ x) (h2 : x ≤ 1000000000) : Ev (tCall spCNum [] E (tCons ta (tCons tb tNil))) σ H (.int x) := ev_call (ea_cons h (ea_cons h' ea_nil)) fun H1 e Q q E => ⟨x, l, rfl, h1, h2, fun H2 e2 => q H2 e2⟩
/-- ways as tuples in a list -/
def Wv (w : Way Str) : List V := [.str w.1, .str w.2.1, .int w.2.2]
def WaysAt (H : Hp) (l : Addr) (ws : List (Way Str)) : Prop := ∃ as : List Addr, H l = some (.lst (as.map V.ref)) ∧ Paired (fun a w => H a = some (.tup (Wv w))) as ws
theorem WaysAt.mono {H H' : Hp} {l : Addr} {ws : List (Way Str)} (R : WaysAt H l ws) (e : ExR H H') : WaysAt H' l ws := by
  obtain ⟨as, h1, h2⟩ := R
  exact ⟨as, e.lst h1, Paired.mapP h2 fun _ _ h => e.tup h⟩
structure RoadsIn (ps : List Str) (ws : List (Way Str)) : Prop where
  nm : ∀ a ∈ ps, NameOk a
  nd : ps.Nodup
  few : ps.length ≤ 12
  fewW : ws.length ≤ 60
  fr : ∀ w ∈ ws, w.1 ∈ ps
  to : ∀ w ∈ ws, w.2.1 ∈ ps
  lo : ∀ w ∈ ws, 1 ≤ w.2.2
  hi : ∀ w ∈ ws, w.2.2 ≤ 1000000000
theorem sc_check_roads : FnScope ["places", "ways", "seen", "place", "origin", "goal", "minutes"] ["places", "ways"] (defScope s_check_roads) := ⟨rfl, rfl, rfl, by decide +kernel, rfl, by decide +kernel, by decide +kernel⟩
def spCRoads : Sp := fun vs H Q _ => ∃ (a b : Addr) (ps : List Str) (ws : List (Way Str)), vs = [.ref a, .ref b] ∧ H a = some (.lst (ps.map V.str)) ∧ WaysAt H b ws ∧ RoadsIn ps ws ∧ RetV .non H Q
theorem k_check_roads (T : Tx K mg) : FnOk P w K mg base CX0 2 T.f_check_roads T.fd_check_roads ["places", "ways"] spCRoads := by
  have G_checked_name := k_checked_name (P := P) (w := w) (base := base) T
  have G_checked_number := k_checked_number (P := P) (w := w) (base := base) T
  refine T.d_check_roads.F.ok sc_check_roads (fun vs H Q E h => ?_) (fun cdv A outer s H vs Q E hr h => ?_)
  · obtain ⟨a, b, ps, ws, rfl, _⟩ := h
    rfl
  obtain ⟨a, b, ps, ws, rfl, ha, hb, R, k⟩ := h
  have hu := hu_of hr
  obtain ⟨tp, hMOST_PLACES⟩ := T.B.PLACES
  obtain ⟨tw, hMOST_WAYS⟩ := T.B.WAYS
  refine ⟨_, PSs.nox (pss_cons (ps_if (pt_cmpR op_gt (pe_callB call_len_seq (by rfl) T.B.len PySem.boot_len (pa_cons (pv 0) pa_nil)) (pe_glob (v := .int 12) rfl hMOST_PLACES ⟨_, rfl⟩) (nomark _))
      (pss_one ps_never)
      pss_nil)
    (pss_cons (ps_if (pt_cmpR op_gt (pe_callB call_len_seq (by rfl) T.B.len PySem.boot_len (pa_cons (pv 1) pa_nil)) (pe_glob (v := .int 60) rfl hMOST_WAYS ⟨_, rfl⟩) (nomark _))
      (pss_one ps_never)
      pss_nil)
    (pss_cons (ps_set (i := 2) sc_check_roads.nd rfl (Or.inl rfl) pe_dnewK)
    (pss_cons (ps_for PassesOwn.never rfl (pi_list (pv 0)) (pg_name (i := 3) sc_check_roads.nd rfl (Or.inl rfl))
      (pss_cons (ps_if (pt_cmp (pc_din hu (pe_call G_checked_name (hr.mono (by decide)) rfl T.d_checked_name.g T.d_checked_name.F.kp T.d_checked_name.b .nil pass0 (pa_cons (pv 3) pa_nil)) (pv 2)))
        (pss_one ps_never)
        pss_nil)
      (pss_one (ps_dput hu (pv 2) (pv 3) pe_bl rfl))))
    (pss_one (ps_for PassesOwn.never rfl (pi_list (pv 1)) (pg_tup (by rfl) (pgs_cons (pg_name (i := 4) sc_check_roads.nd rfl (Or.inl rfl)) (pgs_cons (pg_name (i := 5) sc_check_roads.nd rfl (Or.inl rfl)) (pgs_cons (pg_name (i := 6) sc_check_roads.nd rfl (Or.inl rfl)) pgs_nil))))
      (pss_cons (ps_for PassesOwn.never rfl (pi_list (pe_lst (pa_cons (pv 4) (pa_cons (pv 5) pa_nil)))) (pg_name (i := 3) sc_check_roads.nd rfl (Or.inl rfl))
        (pss_one (ps_if (pt_cmp (pc_dnotin hu (pv 3) (pv 2)))
          (pss_one ps_never)
          pss_nil)))
      (pss_one (ps_expr (pe_call G_checked_number (hr.mono (by decide)) rfl T.d_checked_number.g T.d_checked_number.F.kp T.d_checked_number.b .nil pass0 (pa_cons (pv 6) (pa_cons pe_int pa_nil)))))))))))), ?_⟩
  obtain ⟨as, hb1, hb2⟩ := hb
  have hal : as.length = ws.length := Paired.length hb2
  refine q_when (b := false) (et_is (et_test (ev_op (ev_len (ev_var rfl) (sq_of ha)) ev_c rv_I0)) (decide_eq_false (by have := R.few; rw [List.length_map]; omega))) (fun z => by cases z) (fun _ H1 e1 => ?_)
  refine q_when (b := false) (et_is (et_test (ev_op (ev_len (ev_var rfl) (sq_of (e1 _ _ hb1))) ev_c rv_I0)) (decide_eq_false (by have := R.fewW; rw [List.length_map]; omega))) (fun z => by cases z) (fun _ H2 e2 => ?_)
  have e12 := e1.trans e2
  refine fun sn hsn => ?_
  have hsn0 : H sn = none := fresh_back e12 hsn
  refine q_forLn (ev_var rfl) (sq_of ((e12.trans (Ex.new hsn)) _ _ ha)) (fun i σ' H' => (∃ v, σ' = [some (.ref a), some (.ref b), some (.ref sn), v, none, none, none]) ∧ Ex H H' ∧ SeenAt H' sn (ps.take i)) (fun H3 e3 => ⟨⟨_, rfl⟩, (e12.trans (Ex.new hsn)).trans e3, [], e3 _ _ upd_same, rfl⟩) (fun i σ' H' _ z => sq_of (z.2.1 _ _ ha)) ?_ ?_
  · rintro i x σ' H' hx ⟨⟨v, rfl⟩, e, kvs, hk1, hk2⟩
    rw [List.getElem?_map] at hx
    obtain ⟨n, hn, rfl⟩ := Option.map_eq_some_iff.mp hx
    have hm := List.mem_of_getElem? hn
    have tk : ps.take (i + 1) = ps.take i ++ [n] := by rw [List.take_add_one, hn]; rfl
    have newn : n ∉ ps.take i := fun q => by
      have hd := R.nd
      have h4 := List.take_append_drop (i + 1) ps
      rw [tk] at h4
      rw [← h4, List.append_assoc] at hd
      exact (List.nodup_append.mp hd).2.2 _ q n (by simp) rfl
    have vn := valV_new (kvs := kvs) (k := kS n) (by rw [hk2]; exact not_kS newn)
    have hlk : kvs.length ≤ 12 := by
      have h1 := SeenAt.len (H := H) (d := sn) hk2
      rw [List.length_take] at h1
      have := R.few
      omega
    refine q_when (b := false) (et_is (et_B (ev_din (ev_cname (ev_var rfl) (R.nm n hm)) (ev_var rfl) (dget_rd (k := kS n) (.inl hk1)))) (by rw [vn]; rfl)) (fun z => by cases z) (fun _ H6 e6 => ?_)
    refine s_dput (k := kS n) ev_c (ev_var rfl) (ev_var rfl) (e6 _ _ hk1) (by omega) fun H7 e7 => ⟨⟨_, rfl⟩, Ex.mut ((e.trans e6).trans e7) hsn0, _, upd_same, ?_⟩
    rw [putK_new _ vn, List.map_append, hk2, tk, List.map_append (l₁ := ps.take i)]; rfl
  rintro σ' H' ⟨⟨v, rfl⟩, e, kvs, hk1, hk2⟩
  rw [List.length_map, List.take_length] at hk2
  refine s_forL (ev_var rfl) (sq_of (e _ _ hb1)) (fun i σ' H' => (∃ v4 v5 v6 v3, σ' = [some (.ref a), some (.ref b), some (.ref sn), v3, v4, v5, v6]) ∧ Ex H H' ∧ H' sn = some (.dK kvs)) (fun H3 e3 => ⟨⟨_, _, _, _, rfl⟩, e.trans e3, e3 _ _ hk1⟩) (fun i σ' H' _ z => sq_of (z.2.1 _ _ hb1)) ?_ (fun σ' H' z => k H' z.2.1)
  rintro i x σ' H' hx ⟨⟨v4, v5, v6, v3, rfl⟩, e', hk⟩
  rw [List.getElem?_map] at hx
  obtain ⟨c, hc, rfl⟩ := Option.map_eq_some_iff.mp hx
  obtain ⟨wy, hw, hcw⟩ := paired_get hb2 hc
  have hwm := List.mem_of_getElem? hw
  refine ⟨c, Wv wy, rfl, st_of (e' _ _ hcw), rfl, _, _, rfl, _, _, rfl, _, _, rfl, rfl, ?_⟩
  refine q_forNLn (el_lst (ea_cons (ev_var rfl) (ea_cons (ev_var rfl) ea_nil)) (by simp)) (fun p' i σ' H'' => (∃ v, σ' = [some (.ref a), some (.ref b), some (.ref sn), v, some (.str wy.1), some (.str wy.2.1), some (.int wy.2.2)]) ∧ Ex H' H'' ∧ H'' p' = some (.lst [.str wy.1, .str wy.2.1])) (fun p' H1 _ e h => ⟨⟨_, rfl⟩, e, h⟩) (fun p' i σ' H' _ z => sq_of z.2.2) ?_ ?_
  · rintro p' i x σ' H'' hx ⟨⟨v, rfl⟩, e2, hp⟩
    have hc : ∃ c ∈ ps, x = .str c := by
      match i, hx with
      | 0, hx => exact ⟨wy.1, R.fr wy hwm, (Option.some.inj hx).symm⟩
      | 1, hx => exact ⟨wy.2.1, R.to wy hwm, (Option.some.inj hx).symm⟩
      | i + 2, hx => cases hx
    obtain ⟨n, hn, rfl⟩ := hc
    have hs : (valV kvs (kS n)).isSome = true := by
      cases q : valV kvs (kS n) with
      | some y => rfl
      | none =>
        have := valV_not q
        rw [hk2] at this
        exact (this (List.mem_map.mpr ⟨n, hn, rfl⟩)).elim
    exact s_when (b := false) (et_is (et_B (ev_dnotin (ev_var rfl) (ev_var rfl) (dget_rd (k := kS n) (.inl (e2 _ _ hk))))) (by rw [hs]; rfl)) (fun z => by cases z) (fun _ H1 e1 => ⟨⟨_, rfl⟩, e2.trans e1, e1 _ _ hp⟩)
  · rintro p' σ' H'' ⟨⟨v, rfl⟩, e2, hp⟩
    exact s_drop (ev_cnum (ev_var rfl) ev_c (R.lo wy hwm) (R.hi wy hwm)) fun H4 e4 => ⟨⟨_, _, _, _, rfl⟩, (e'.trans e2).trans e4, e4 _ _ (e2 _ _ hk)⟩
end
end K49
/-! K49D7 -/
/-! heights_from, Roads.__init__. -/
namespace K49
open PySem L2 Evl
/-- a table of names as a dict -/
def enc {β : Type} (h : β → V) (f : List (Str × β)) : List (Key × V) := f.map fun p => (kS p.1, h p.2)
theorem enc_keys {β : Type} (h : β → V) (f : List (Str × β)) : (enc h f).map (·.1) = (keys f).map kS := by
  unfold enc keys; rw [List.map_map, List.map_map]; rfl
theorem enc_val {β : Type} (h : β → V) (a : Str) : ∀ f : List (Str × β), valV (enc h f) (kS a) = (look f a).map h
  | [] => rfl
  | p :: r => by
    rw [look_cons]
    by_cases e : p.1 = a
    · rw [if_pos e]
      exact valV_pos (p := (kS p.1, h p.2)) (congrArg kS e)
    · rw [if_neg e, ← enc_val h a r]
      exact valV_neg (p := (kS p.1, h p.2)) (fun z => e (Sum.inr.inj z))
theorem enc_put {β : Type} (h : β → V) (f : List (Str × β)) (a : Str) (v : β) : putK (enc h f) (kS a) (h v) = enc h (put f a v) := by
  unfold putK put
  rw [valV_any, any_look, enc_val, Option.isSome_map]
  split
  · unfold enc
    rw [List.map_map, List.map_map]
    apply List.map_congr_left
    intro p _
    simp only [Function.comp]
    by_cases e : p.1 = a
    · rw [if_pos e, if_pos (congrArg kS e)]
    · rw [if_neg e, if_neg (fun z => e (Sum.inr.inj z))]
  · unfold enc; simp
theorem enc_len {β : Type} (h : β → V) (f : List (Str × β)) : (enc h f).length = f.length := List.length_map _
theorem nodup_le {α : Type} [DecidableEq α] : ∀ {a b : List α}, a.Nodup → (∀ x ∈ a, x ∈ b) → a.length ≤ b.length
  | [], _, _, _ => Nat.zero_le _
  | x :: a, b, hn, hs => by
    obtain ⟨h1, h2⟩ := List.nodup_cons.mp hn
    have hx := hs x List.mem_cons_self
    have ih := nodup_le (a := a) (b := b.erase x) h2 fun y hy => (List.mem_erase_of_ne (fun z => h1 (by rw [← z]; exact hy))).mpr (hs y (List.mem_cons_of_mem _ hy))
    rw [List.length_erase_of_mem hx] at ih
    have : 0 < b.length := List.length_pos_of_mem hx
    simp only [List.length_cons]; omega
section
variable {P : Program} {w : World} {K : PySem.W.Frag} {mg : Str → Option Value} {base : Heap}
theorem sc_heights_from : FnScope ["origin", "ways", "found", "lowered", "first", "last", "minutes"] ["origin", "ways"] (defScope s_heights_from) := ⟨rfl, rfl, rfl, by decide +kernel, rfl, by decide +kernel, by decide +kernel⟩
abbrev Wm : Nat := 1000000000
def spHeights : Sp := fun vs H Q _ => ∃ (wl : Addr) (o : Str) (ps : List Str) (ws : List (Way Str)), vs = [.str o, .ref wl] ∧ WaysAt H wl ws ∧ RoadsIn ps ws ∧ o ∈ ps ∧
  RetP (fun v H2 => ∃ (d : Addr) (f : List (Str × Int)), v = .ref d ∧ H d = none ∧ H2 d = some (.dK (enc V.int f)) ∧ HtOk ps ws Wm o f ∧ ∀ w ∈ ws, lowers f w = false) H Q
theorem k_heights (T : Tx K mg) : FnOk P w K mg base CX0 1 T.f_heights_from T.fd_heights_from ["origin", "ways"] spHeights := by
  refine T.d_heights_from.F.ok sc_heights_from (fun vs H Q E h => ?_) (fun cdv A outer s H vs Q E hr h => ?_)
  · obtain ⟨wl, o, ps, ws, rfl, _⟩ := h
    rfl
  obtain ⟨wl, o, ps, ws, rfl, hW, R, ho, k⟩ := h
  have hu := hu_of hr
  refine ⟨_, PSs.nox (pss_cons (ps_set (i := 2) sc_heights_from.nd rfl (Or.inl rfl) (pe_disp (pps_cons (pv 0) pe_int pps_nil) (by rfl) (by rfl) (fun z => by cases z) (by decide)))
    (pss_cons (ps_set (i := 3) sc_heights_from.nd rfl (Or.inl rfl) pe_bl)
    (pss_cons (ps_while PassesOwn.never (pt_val (pv 3))
      (pss_cons (ps_set (i := 3) sc_heights_from.nd rfl (Or.inl rfl) pe_bl)
      (pss_one (ps_for PassesOwn.never rfl (pi_list (pv 1)) (pg_tup (by rfl) (pgs_cons (pg_name (i := 4) sc_heights_from.nd rfl (Or.inl rfl)) (pgs_cons (pg_name (i := 5) sc_heights_from.nd rfl (Or.inl rfl)) (pgs_cons (pg_name (i := 6) sc_heights_from.nd rfl (Or.inl rfl)) pgs_nil))))
        (pss_one (ps_if (PW.pt (pw_and (pt_cmp (pc_din hu (pv 4) (pv 2))) (pw_and1 (PW.pt (pw_or (pt_cmp (pc_dnotin hu (pv 5) (pv 2))) (pw_or1 (pt_cmpR op_lt (pe_op op_add (pe_dget hu (pv 2) (pv 4) (fun _ _ => rfl)) (pv 6)) (pe_dget hu (pv 2) (pv 5) (fun _ _ => rfl)) (nomark _))))))))
          (pss_cons (ps_dput hu (pv 2) (pv 5) (pe_op op_add (pe_dget hu (pv 2) (pv 4) (fun _ _ => rfl)) (pv 6)) rfl)
          (pss_one (ps_set (i := 3) sc_heights_from.nd rfl (Or.inl rfl) pe_bl)))
          pss_nil))))))
    (pss_one (ps_ret (pv 2)))))), ?_⟩
  obtain ⟨as, hb1, hb2⟩ := hW
  have hal : as.length = ws.length := Paired.length hb2
  refine fun d hd => ⟨_, rfl, upd_same, [(kS o, V.int 0)], rfl, (by simp), ?_⟩
  rw [upd_upd]
  have hm0 : mergeK [] [(kS o, V.int 0)] = enc V.int [(o, 0)] := rfl
  rw [hm0]
  refine q_asg ev_c fun H1 e1 => ?_
  have flen : ∀ {f : List (Str × Int)}, HtOk ps ws Wm o f → f.length ≤ 12 := fun {f} h => by
    have := nodup_le h.nd h.sub
    rw [show (keys f).length = f.length from List.length_map _] at this
    exact Nat.le_trans this R.few
  have e01 : Ex H H1 := (Ex.new hd).trans e1
  refine q_while (fun m σ' H' => ∃ (lw : Bool) (f : List (Str × Int)) (v4 v5 v6 : Option V), σ' = [some (.str o), some (.ref wl), some (.ref d), some (.bl lw), v4, v5, v6] ∧ Ex H H' ∧ H' d = some (.dK (enc V.int f)) ∧ HtOk ps ws Wm o f ∧ (lw = false → ∀ w ∈ ws, lowers f w = false) ∧ m = hmeas ps (13 * Wm) f + (if lw = true then 1 else 0))
    (hmeas ps (13 * Wm) [(o, 0)] + 1) ⟨true, [(o, 0)], _, _, _, rfl, e01, e1 _ _ upd_same, hok0 ho, (fun z => by cases z), rfl⟩ ?_
  rintro m σ' H' ⟨lw, f, v4, v5, v6, rfl, e, hdf, hok, hcl, rfl⟩
  refine ⟨lw, et_B (ev_var rfl), fun hlw H2 e2 => ?_, fun hlw H2 e2 => ?_⟩
  · subst hlw
    refine ⟨fun σ' H' => ∃ (lw : Bool) (g : List (Str × Int)) (v4 v5 v6 : Option V), σ' = [some (.str o), some (.ref wl), some (.ref d), some (.bl lw), v4, v5, v6] ∧ Ex H H' ∧ H' d = some (.dK (enc V.int g)) ∧ HtOk ps ws Wm o g ∧ (lw = false → g = f ∧ ∀ w ∈ ws, lowers f w = false) ∧ (lw = true → hmeas ps (13 * Wm) g < hmeas ps (13 * Wm) f), ?_, ?_⟩
    · rintro σ2 H3 ⟨lw, g, u4, u5, u6, rfl, e3, h3, hok3, hf3, ht3⟩
      refine ⟨_, ?_, lw, g, u4, u5, u6, rfl, e3, h3, hok3, fun z => ?_, rfl⟩
      · cases lw with
        | true => have := ht3 rfl; simp only [if_true]; omega
        | false => obtain ⟨rfl, _⟩ := hf3 rfl; simp
      · obtain ⟨rfl, q⟩ := hf3 z
        exact q
    · refine q_asg ev_c fun H3 e3 => ?_
      have e03 := (e.trans e2).trans e3
      refine s_forL (ev_var rfl) (sq_of (e03 _ _ hb1)) (fun i σ' H' => ∃ (lw : Bool) (g : List (Str × Int)) (v4 v5 v6 : Option V), σ' = [some (.str o), some (.ref wl), some (.ref d), some (.bl lw), v4, v5, v6] ∧ Ex H H' ∧ H' d = some (.dK (enc V.int g)) ∧ HtOk ps ws Wm o g ∧ (lw = false → g = f ∧ ∀ w ∈ ws.take i, lowers f w = false) ∧ (lw = true → hmeas ps (13 * Wm) g < hmeas ps (13 * Wm) f))
        (fun H4 e4 => ⟨false, f, v4, v5, v6, rfl, e03.trans e4, e4 _ _ (e3 _ _ (e2 _ _ hdf)), hok, fun _ => ⟨rfl, by simp⟩, fun z => by cases z⟩) (fun i σ' H' _ z => by obtain ⟨_, _, _, _, _, _, e, _⟩ := z; exact sq_of (e _ _ hb1)) ?_ ?_
      · rintro i x σ' H4 hx ⟨lw, g, u4, u5, u6, rfl, e4, h4, hok4, hf4, ht4⟩
        rw [List.getElem?_map] at hx
        obtain ⟨c, hc, rfl⟩ := Option.map_eq_some_iff.mp hx
        obtain ⟨wy, hw, hcw⟩ := paired_get hb2 hc
        have hwm := List.mem_of_getElem? hw
        have tk : ws.take (i + 1) = ws.take i ++ [wy] := by rw [List.take_add_one, hw]; rfl
        refine ⟨c, Wv wy, rfl, st_of (e4 _ _ hcw), rfl, _, _, rfl, _, _, rfl, _, _, rfl, rfl, ?_⟩
        have g1 : ∀ {H9 : Hp} {a : Str}, Ex H4 H9 → DGet H9 d (.str a) ((look g a).map V.int) := fun {H9 a} e9 => by
          have := dget_rd (k := kS a) (.inl (e9 _ _ h4))
          rw [enc_val] at this
          exact this
        have hlo := R.lo wy hwm
        have hhi := R.hi wy hwm
        refine s_when (b := lowers g wy) ?_ (fun hb H5 e5 => ?_) (fun hb H5 e5 => ?_)
        · -- the test
          cases h1 : look g wy.1 with
          | none =>
            refine et_is (et_and (a := false) (b := false) (et_is (et_B (ev_din (ev_var rfl) (ev_var rfl) (g1 (Ex.refl _)))) (by rw [h1]; rfl)) (fun z => by cases z)) ?_
            unfold lowers; rw [h1]; rfl
          | some v =>
            have in1 := et_is (et_B (ev_din (σ := [some (.str o), some (.ref wl), some (.ref d), some (.bl lw), some (.str wy.1), some (.str wy.2.1), some (.int wy.2.2)]) (tb := tVar 4) (ta := tVar 2) (ev_var rfl) (ev_var rfl) (g1 (a := wy.1) (Ex.refl H4)))) (show _ = true by rw [h1]; rfl)
            cases h2 : look g wy.2.1 with
            | none =>
              refine et_is (et_and in1 (fun _ => et_or (a := true) (b := false) (et_is (et_B (ev_dnotin (ev_var rfl) (ev_var rfl) (g1 (a := wy.2.1) (Ex.refl _)))) (by rw [h2]; rfl)) (fun z => by cases z))) ?_
              unfold lowers; rw [h1, h2]; rfl
            | some u =>
              refine et_is (et_and in1 (fun _ => et_or (a := false) (b := decide (v + wy.2.2 < u)) (et_is (et_B (ev_dnotin (ev_var rfl) (ev_var rfl) (g1 (a := wy.2.1) (Ex.refl _)))) (by rw [h2]; rfl)) (fun _ => et_test (ev_op (ev_op (ev_dget (ev_var rfl) (ev_var rfl) (v := .int v) (by have := g1 (a := wy.1) (Ex.refl H4); rw [h1] at this; exact this)) (ev_var rfl) rv_I0) (ev_dget (ev_var rfl) (ev_var rfl) (v := .int u) (by have := g1 (a := wy.2.1) (Ex.refl H4); rw [h2] at this; exact this)) rv_I0)))) ?_
              unfold lowers; rw [h1, h2]; rfl
        · -- lowered
          obtain ⟨v, h1⟩ : ∃ v, look g wy.1 = some v := by
            cases q : look g wy.1 with
            | none => unfold lowers at hb; rw [q] at hb; cases hb
            | some v => exact ⟨v, rfl⟩
          refine s_dput (k := kS wy.2.1) (v := .int (v + wy.2.2)) (ev_op (ev_dget (ev_var rfl) (ev_var rfl) (v := .int v) (by have := g1 (a := wy.1) e5; rw [h1] at this; exact this)) (ev_var rfl) rv_I0) (ev_var rfl) (ev_var rfl) (e5 _ _ h4) (by rw [enc_len]; have := flen hok4; omega) fun H6 e6 => ?_
          refine s_asg ev_c fun H7 e7 => ⟨true, lower1 g wy, _, _, _, rfl, (Ex.mut ((e4.trans e5).trans e6) (by first | exact fresh_back (Ex.refl H) hd | exact hd)).trans e7, ?_, hok_lower hok4 hwm hlo (by show wy.2.2 ≤ ((1000000000 : Nat) : Int); omega) (R.to wy hwm), (fun z => by cases z), fun _ => ?_⟩
          · refine e7 _ _ ?_
            rw [upd_same, enc_put]
            unfold lower1
            rw [if_pos hb, h1]; rfl
          · have hB : g.length * Wm < 13 * Wm := by
              have := flen hok4
              exact Nat.mul_lt_mul_of_pos_right (by omega) (by decide)
            have := hmeas_lower hok4 hB hlo (by show wy.2.2 ≤ ((1000000000 : Nat) : Int); omega) (R.to wy hwm) hb
            cases lw with
            | true => have := ht4 rfl; omega
            | false => obtain ⟨rfl, _⟩ := hf4 rfl; exact this
        · refine ⟨lw, g, _, _, _, rfl, e4.trans e5, e5 _ _ h4, hok4, fun z => ?_, ht4⟩
          obtain ⟨rfl, q⟩ := hf4 z
          refine ⟨rfl, fun w' hw' => ?_⟩
          rw [tk] at hw'
          rcases List.mem_append.mp hw' with r | r
          · exact q w' r
          · have : w' = wy := by simpa using r
            rw [this]; exact hb
      · rintro σ' H4 ⟨lw, g, u4, u5, u6, rfl, e4, h4, hok4, hf4, ht4⟩
        refine ⟨lw, g, u4, u5, u6, rfl, e4, h4, hok4, fun z => ?_, ht4⟩
        have := hf4 z
        rw [List.length_map, hal, List.take_length] at this
        exact this
  · exact s_ret (ev_var rfl) fun H3 e3 => k _ H3 ((e.trans e2).trans e3) ⟨d, f, rfl, hd, e3 _ _ (e2 _ _ hdf), hok, hcl hlw⟩
end
end K49
/-! K49D8 -/
/-! Roads.__init__. -/
namespace K49
open PySem L2 Evl
/-- all but what stands at x -/
def ExB (x : Addr) (H H' : Hp) : Prop := ∀ b o, H b = some o → b ≠ x → H' b = some o
theorem ExB.then {x : Addr} {H H1 H2 : Hp} (a : ExB x H H1) (b : Ex H1 H2) : ExB x H H2 := fun c o h n => b c o (a c o h n)
theorem ExB.upd {x : Addr} {H H1 : Hp} (a : ExB x H H1) (o : HO) : ExB x H (upd H1 x o) := fun c u h n => by rw [upd_ne n]; exact a c u h n
theorem ExB.mut {x p : Addr} {H H1 : Hp} (a : ExB x H H1) (o : HO) (h : H p = none) : ExB x H (L2.upd H1 p o) := fun c u hc n => by rw [upd_ne (ne_of_none hc h)]; exact a c u hc n
section
variable {K : PySem.W.Frag} {σ : St} {H H' : Hp} {ta tv : TE} {D : Ends} {P : V → Hp → Prop}
theorem s_fldP {a C dx : Addr} {fs : List (Str × V)} {f : Str} (hv : EvP tv σ H P) (ha : Ev ta σ H (.ref a)) (ho : H a = some (.ins C dx fs)) (hc : Cls K C) (hn : NoAttr K C f) (hl : fs.length < 1000)
    (q : ∀ y H0 H1, Ex H H0 → P y H0 → Ex H0 H1 → D.nx σ (upd H1 a (.ins C dx (putF f y fs)))) : sFld K ta tv f D σ H :=
  hv H (Ex.refl H) _ fun y H0 e0 hP => ha H0 e0 _ fun H1 e1 => ⟨a, C, dx, fs, rfl, (e0.trans e1) _ _ ho, hc, hn, hl, q y H0 H1 e0 hP e1⟩
end
theorem putF_new {f : Str} {v : V} : ∀ {fs : List (Str × V)}, fs.lookup f = none → putF f v fs = fs ++ [(f, v)]
  | [], _ => rfl
  | (g, u) :: r, h => by
    rw [lookup_c] at h
    by_cases e : f = g
    · rw [if_pos e] at h; cases h
    · rw [if_neg e] at h
      show (if g = f then _ else (g, u) :: putF f v r) = _
      rw [if_neg (fun z => e z.symm), putF_new h]; rfl
theorem pF1 (t : Addr) : putF "towns" (.ref t) [] = [(("towns" : Str), V.ref t)] := rfl
theorem pF2 (t l : Addr) : putF "lanes" (.ref l) (putF "towns" (.ref t) []) = [(("towns" : Str), V.ref t), (("lanes" : Str), V.ref l)] := by
  rw [pF1, putF_new (by rw [lookup_c, if_neg (fun z => ne_tl z.symm)]; rfl)]; rfl
theorem pF3 (t l r : Addr) : putF "reached" (.ref r) (putF "lanes" (.ref l) (putF "towns" (.ref t) [])) = rF t l r := by
  rw [pF2, putF_new (by rw [lookup_c, if_neg (fun z => ne_tr z.symm), lookup_c, if_neg (fun z => ne_lr z.symm)]; rfl)]; rfl
/-- every length is below the great number -/
def Near (ps : List Str) (ws : List (Way Str)) : Prop := ∀ a ∈ ps, ∀ b ∈ ps, far 1000000000 ps ws a b < 1000000000
section
variable {P : Program} {w : World} {K : PySem.W.Frag} {mg : Str → Option Value} {base : Heap}
theorem sc_Roads_init : FnScope ["self", "places", "ways", "place"] ["self", "places", "ways"] (defScope s_Roads_init) := ⟨rfl, rfl, rfl, by decide +kernel, rfl, by decide +kernel, by decide +kernel⟩
def spRInit (CR : Addr) : Sp := fun vs H Q _ => ∃ (x a b dx : Addr) (ps : List Str) (ws : List (Way Str)), vs = [.ref x, .ref a, .ref b] ∧ H x = some (.ins CR dx []) ∧ H a = some (.lst (ps.map V.str)) ∧ WaysAt H b ws ∧ RoadsIn ps ws ∧ Near ps ws ∧
  ∀ H', ExB x H H' → RoadsAt CR H' x ps (far 1000000000 ps ws) → Q .non H'
theorem k_rinit (T : Tx K mg) : FnOk P w K mg base CX0 3 T.f_rinit T.fd_rinit ["self", "places", "ways"] (spRInit T.CR) := by
  have G_check_roads := k_check_roads (P := P) (w := w) (base := base) T
  have G_heights_from := k_heights (P := P) (w := w) (base := base) T
  refine T.I_rinit.F.ok sc_Roads_init (fun vs H Q E h => ?_) (fun cdv A outer s H vs Q E hr h => ?_)
  · obtain ⟨x, a, b, dx, ps, ws, rfl, _⟩ := h
    rfl
  obtain ⟨x, a, b, dx, ps, ws, rfl, hx, ha, hW, R, hN, k⟩ := h
  have hu := hu_of hr
  refine ⟨_, PSs.nox (pss_cons (ps_expr (pe_call G_check_roads (hr.mono (by decide)) rfl T.d_check_roads.g T.d_check_roads.F.kp T.d_check_roads.b .nil pass0 (pa_cons (pv 1) (pa_cons (pv 2) pa_nil))))
    (pss_cons (ps_fld (pv 0) (pe_callTy call_list_of (by rfl) T.B.list (by decide +kernel) (pa_cons (pv 1) pa_nil)) rfl)
    (pss_cons (ps_fld (pv 0) (pe_callTy call_list_of (by rfl) T.B.list (by decide +kernel) (pa_cons (pv 2) pa_nil)) rfl)
    (pss_cons (ps_fld (pv 0) pe_dnewK rfl)
    (pss_one (ps_for PassesOwn.never rfl (pi_list (pe_fld (pv 0) rfl)) (pg_name (i := 3) sc_Roads_init.nd rfl (Or.inl rfl))
      (pss_one (ps_dput hu (pe_fld (pv 0) rfl) (pv 3) (pe_call G_heights_from (hr.mono (by decide)) rfl T.d_heights_from.g T.d_heights_from.F.kp T.d_heights_from.b .nil pass0 (pa_cons (pv 3) (pa_cons (pe_fld (pv 0) rfl) pa_nil))) rfl)))))))), ?_⟩
  have C := T.C
  have hax : a ≠ x := ne_of ha hx (by intro z; cases z)
  refine q_drop (v := .non) (ev_call (ea_cons (ev_var rfl) (ea_cons (ev_var rfl) ea_nil)) fun H1 e Q q E => ⟨a, b, ps, ws, rfl, e _ _ ha, hW.mono (exr e), R, fun H2 e2 => q H2 e2⟩) fun H1 e1 => ?_
  obtain ⟨as, hb1, hb2⟩ := id hW
  have hbx : b ≠ x := ne_of hb1 hx (by intro z; cases z)
  have ncx : ∀ {c : Addr} {xs : List V}, H c = some (.tup xs) → c ≠ x := fun hc => ne_of hc hx (by intro z; cases z)
  -- self.towns = list(places)
  refine s_fldP (ep_l (el_list (ev_var rfl) (sq_of (e1 _ _ ha)))) (ev_var rfl) (e1 _ _ hx) T.C.R C.nTowns (by show 0 < 1000; decide) fun y H2 H3 e2 ⟨t, hy, ht⟩ e3 => ?_
  subst hy
  have x3 : ExB x H (upd H3 x (.ins T.CR dx (putF "towns" (.ref t) []))) := ExB.upd (fun c u h n => e3 _ _ (e2 _ _ (e1 _ _ h))) _
  have htx : t ≠ x := ne_of ht (e2 _ _ (e1 _ _ hx)) (by intro z; cases z)
  have ht3 : upd H3 x (.ins T.CR dx (putF "towns" (.ref t) [])) t = some (.lst (ps.map V.str)) := by rw [upd_ne htx]; exact e3 _ _ ht
  refine s_fldP (ep_l (el_list (xs := as.map V.ref) (ev_var rfl) (sq_of (x3 _ _ hb1 hbx)))) (ev_var rfl) upd_same T.C.R C.nLanes (by rw [pF1]; show 1 < 1000; decide) fun y H4 H5 e4 ⟨l, hy, hl⟩ e5 => ?_
  subst hy
  have hlx : l ≠ x := ne_of hl (e4 _ _ upd_same) (by intro z; cases z)
  generalize hH6 : upd H5 x (.ins T.CR dx (putF "lanes" (.ref l) (putF "towns" (.ref t) []))) = H6
  have x6 : ExB x H H6 := by rw [← hH6]; exact (x3.then (e4.trans e5)).upd _
  have ht6 : H6 t = some (.lst (ps.map V.str)) := by rw [← hH6, upd_ne htx]; exact e5 _ _ (e4 _ _ ht3)
  have hl6 : H6 l = some (.lst (as.map V.ref)) := by rw [← hH6, upd_ne hlx]; exact e5 _ _ hl
  have hx6 : H6 x = some (.ins T.CR dx (putF "lanes" (.ref l) (putF "towns" (.ref t) []))) := by rw [← hH6]; exact upd_same
  -- self.reached = {}
  refine fun r hr6 => ⟨_, rfl, x, T.CR, dx, _, rfl, Ex.new hr6 _ _ hx6, C.R, C.nReached, (by rw [pF2]; show 2 < 1000; decide), ?_⟩
  have hr0 : H r = none := by
    cases q : H r with
    | none => rfl
    | some o =>
      have hrx : r ≠ x := fun z => by rw [z, hx6] at hr6; cases hr6
      rw [x6 _ _ q hrx] at hr6; cases hr6
  have hrx : r ≠ x := fun z => by rw [z, hx6] at hr6; cases hr6
  have hrt : t ≠ r := ne_of_none ht6 hr6
  have hrl : l ≠ r := ne_of_none hl6 hr6
  rw [pF3]
  refine s_forLn (xs := ps.map V.str) (ev_fld (ev_var rfl) upd_same T.C.R C.nTowns (rF_towns _ _ _)) (sq_of (by rw [upd_ne htx, upd_ne hrt]; exact ht6))
    (fun i σ' H' => (∃ v, σ' = [some (.ref x), some (.ref a), some (.ref b), v]) ∧ ExB x H H' ∧ H' x = some (.ins T.CR dx (rF t l r)) ∧ H' t = some (.lst (ps.map V.str)) ∧ H' l = some (.lst (as.map V.ref)) ∧ ∃ kvs : List (Key × V), H' r = some (.dK kvs) ∧ kvs.map (·.1) = (ps.take i).map kS ∧
      ∀ n ∈ ps.take i, ∃ (h : Addr) (hk : List (Key × V)), valV kvs (kS n) = some (.ref h) ∧ H' h = some (.dK hk) ∧ h ≠ r ∧ ∀ m ∈ ps, valV hk (kS m) = some (.int (far 1000000000 ps ws n m)))
    (fun H7 e7 => ⟨⟨_, rfl⟩, ((x6.mut _ hr0).upd _).then e7, e7 _ _ upd_same, e7 _ _ (by rw [upd_ne htx, upd_ne hrt]; exact ht6), e7 _ _ (by rw [upd_ne hlx, upd_ne hrl]; exact hl6), [], e7 _ _ (by rw [upd_ne hrx, upd_same]), rfl, by simp⟩)
    (fun i σ' H' _ z => sq_of z.2.2.2.1) ?_ ?_
  · rintro i y σ' H' hy ⟨⟨v, rfl⟩, xb, hx', ht', hl', kvs, hk1, hk2, hk3⟩
    rw [List.getElem?_map] at hy
    obtain ⟨n, hn, rfl⟩ := Option.map_eq_some_iff.mp hy
    have hm := List.mem_of_getElem? hn
    have tk : ps.take (i + 1) = ps.take i ++ [n] := by rw [List.take_add_one, hn]; rfl
    have newn : n ∉ ps.take i := fun q => by
      have hd := R.nd
      have h4 := List.take_append_drop (i + 1) ps
      rw [tk] at h4
      rw [← h4, List.append_assoc] at hd
      exact (List.nodup_append.mp hd).2.2 _ q n (by simp) rfl
    have vn := valV_new (kvs := kvs) (k := kS n) (by rw [hk2]; exact not_kS newn)
    have hlk : kvs.length ≤ 12 := by
      have h1 := SeenAt.len (H := H) (d := r) hk2
      rw [List.length_take] at h1
      have := R.few
      omega
    have hW' : WaysAt H' l ws := ⟨as, hl', Paired.mapP hb2 fun c w' hc => xb _ _ hc (ncx hc)⟩
    refine s_dputP (P := fun v H2 => ∃ (d : Addr) (f : List (Str × Int)), v = .ref d ∧ H' d = none ∧ H2 d = some (.dK (enc V.int f)) ∧ HtOk ps ws Wm n f ∧ ∀ w ∈ ws, lowers f w = false) (k := kS n) ?_ (ev_fld (ev_var rfl) hx' T.C.R C.nReached (rF_reached _ _ _)) (ev_var rfl) hk1 (by omega) ?_
    · intro H8 e8 Q8 q8
      have e8l := ev_fld (K := K) (σ := [some (.ref x), some (.ref a), some (.ref b), some (.str n)]) (ta := tVar 0) (H := H8) (ev_var rfl) (e8 _ _ hx') T.C.R C.nLanes (rF_lanes _ _ _)
      refine (ea_cons (ev_var rfl) (ea_cons e8l ea_nil) : EvA _ _ H8 _) H8 (Ex.refl H8) _ fun H9 e9 => ⟨l, n, ps, ws, rfl, hW'.mono (exr (e8.trans e9)), R, hm, fun v H10 e10 ⟨d, f, hv, hd0, hd, hok, hcl⟩ => q8 v H10 (e9.trans e10) ⟨d, f, hv, fresh_back (e8.trans e9) hd0, hd, hok, hcl⟩⟩
    · rintro v' H8 e8 ⟨H0, e9, ⟨d, f, rfl, hd0, hd, hok, hcl⟩, e10⟩
      have hdr : d ≠ r := fun z => by rw [z, hk1] at hd0; cases hd0
      have hxr : x ≠ r := fun z => hrx z.symm
      refine ⟨⟨_, rfl⟩, (xb.then e8).mut _ hr0, by rw [upd_ne hxr]; exact e8 _ _ hx', by rw [upd_ne hrt]; exact e8 _ _ ht', by rw [upd_ne hrl]; exact e8 _ _ hl', _, upd_same, ?_, fun m hm' => ?_⟩
      · rw [putK_new _ vn, List.map_append, hk2, tk, List.map_append (l₁ := ps.take i)]; rfl
      · by_cases c : m = n
        · subst c
          refine ⟨d, enc V.int f, by rw [valV_put, if_pos rfl], by rw [upd_ne hdr]; exact e9 _ _ hd, hdr, fun j hj => ?_⟩
          rw [enc_val, hok_is (by decide) R.lo R.fr hok hcl (hN m hm j hj)]; rfl
        · have hm2 : m ∈ ps.take i := by
            rw [tk] at hm'
            rcases List.mem_append.mp hm' with q | q
            · exact q
            · exact (c (by simpa using q)).elim
          obtain ⟨h, hk, q1, q2, q3, q4⟩ := hk3 m hm2
          exact ⟨h, hk, by rw [valV_put, if_neg (fun z => c (Sum.inr.inj z))]; exact q1, by rw [upd_ne q3]; exact e8 _ _ q2, q3, q4⟩
  · rintro σ' H' ⟨⟨v, rfl⟩, xb, hx', ht', hl', kvs, hk1, hk2, hk3⟩
    rw [List.length_map, List.take_length] at hk3
    refine k H' xb ⟨dx, t, l, r, kvs, hx', ht', .inl hk1, fun n hn => ?_⟩
    obtain ⟨h, hk, q1, q2, q3, q4⟩ := hk3 n hn
    exact ⟨h, hk, q1, .inl q2, q4⟩
end
end K49
/-! K49D9 -/
/-! check_trip, Table.__init__. -/
namespace K49
open PySem L2 Evl
structure TripOk (ps : List Str) (D : Str → Str → Int) (t : Trip) : Prop where
  nm : NameOk t.name
  org : t.origin ∈ ps
  goal : t.goal ∈ ps
  s0 : 0 ≤ t.start
  s1 : t.start ≤ 1000000000
  f0 : 0 ≤ t.finish
  f1 : t.finish ≤ 1000000000
  n0 : 0 ≤ t.seats
  n1 : t.seats ≤ 1000000000
  fwd : t.start < t.finish
  slow : D t.origin t.goal ≤ t.finish - t.start
section
variable {P : Program} {w : World} {K : PySem.W.Frag} {mg : Str → Option Value} {base : Heap}
theorem sc_check_trip : FnScope ["roads", "board", "trip", "name", "origin", "goal", "start", "finish", "seats", "least", "value"] ["roads", "board", "trip"] (defScope s_check_trip) := ⟨rfl, rfl, rfl, by decide +kernel, rfl, by decide +kernel, by decide +kernel⟩
def spCTrip (CR : Addr) : Sp := fun vs H Q _ => ∃ (r b c : Addr) (ps : List Str) (D : Str → Str → Int) (kvs : List (Key × V)) (t : Trip), vs = [.ref r, .ref b, .ref c] ∧ RoadsAt CR H r ps D ∧ H b = some (.dK kvs) ∧ ¬ kS t.name ∈ kvs.map (·.1) ∧ H c = some (.tup t.vs) ∧ TripOk ps D t ∧ RetV .non H Q
theorem k_check_trip (T : Tx K mg) : FnOk P w K mg base CX0 2 T.f_check_trip T.fd_check_trip ["roads", "board", "trip"] (spCTrip T.CR) := by
  have G_checked_name := k_checked_name (P := P) (w := w) (base := base) T
  have G_checked_number := k_checked_number (P := P) (w := w) (base := base) T
  have G_len := k_len (P := P) (w := w) (base := base) T
  refine T.d_check_trip.F.ok sc_check_trip (fun vs H Q E h => ?_) (fun cdv A outer s H vs Q E hr h => ?_)
  · obtain ⟨r, b, c, ps, D, kvs, t, rfl, _⟩ := h
    rfl
  obtain ⟨r, b, c, ps, D, kvs, t, rfl, hR, hb, hnew, hc, ok, k⟩ := h
  have hu := hu_of hr
  refine ⟨_, PSs.nox (pss_cons (ps_asg (pv 2) (pg_tup (by rfl) (pgs_cons (pg_name (i := 3) sc_check_trip.nd rfl (Or.inl rfl)) (pgs_cons (pg_name (i := 4) sc_check_trip.nd rfl (Or.inl rfl)) (pgs_cons (pg_name (i := 5) sc_check_trip.nd rfl (Or.inl rfl)) (pgs_cons (pg_name (i := 6) sc_check_trip.nd rfl (Or.inl rfl)) (pgs_cons (pg_name (i := 7) sc_check_trip.nd rfl (Or.inl rfl)) (pgs_cons (pg_name (i := 8) sc_check_trip.nd rfl (Or.inl rfl)) pgs_nil))))))))
    (pss_cons (ps_if (pt_cmp (pc_din hu (pe_call G_checked_name (hr.mono (by decide)) rfl T.d_checked_name.g T.d_checked_name.F.kp T.d_checked_name.b .nil pass0 (pa_cons (pv 3) pa_nil)) (pv 1)))
      (pss_one ps_never)
      pss_nil)
    (pss_cons (ps_set (i := 9) sc_check_trip.nd rfl (Or.inl rfl) (pe_meth (pv 0) T.C.R T.M_len.m G_len (hr.mono (by decide)) T.M_len.b .nil pass0 (pa_cons (pv 4) (pa_cons (pv 5) pa_nil))))
    (pss_cons (ps_for PassesOwn.never rfl (pi_list (pe_lst (pa_cons (pv 6) (pa_cons (pv 7) (pa_cons (pv 8) pa_nil))))) (pg_name (i := 10) sc_check_trip.nd rfl (Or.inl rfl))
      (pss_one (ps_expr (pe_call G_checked_number (hr.mono (by decide)) rfl T.d_checked_number.g T.d_checked_number.F.kp T.d_checked_number.b .nil pass0 (pa_cons (pv 10) (pa_cons pe_int pa_nil))))))
    (pss_cons (ps_if (pt_cmpR op_le (pv 7) (pv 6) (nomark _))
      (pss_one ps_never)
      pss_nil)
    (pss_cons (ps_if (pt_cmp (pc_isN (pv 9)))
      (pss_one ps_never)
      pss_nil)
    (pss_one (ps_if (pt_cmpR op_lt (pe_op op_sub (pv 7) (pv 6)) (pv 9) (nomark _))
      (pss_one ps_never)
      pss_nil)))))))), ?_⟩
  refine ⟨_, rfl, c, t.vs, rfl, st_of hc, rfl, _, _, rfl, _, _, rfl, _, _, rfl, _, _, rfl, _, _, rfl, _, _, rfl, rfl, ?_⟩
  have vn := valV_new hnew
  refine q_when (b := false) (et_is (et_B (ev_din (ev_cname (ev_var rfl) ok.nm) (ev_var rfl) (dget_rd (k := kS t.name) (.inl hb)))) (by rw [vn]; rfl)) (fun z => by cases z) (fun _ H1 e1 => ?_)
  refine q_asg (ev_rlen (ev_var rfl) (hR.ex' e1) (ev_var rfl) (ev_var rfl) ok.org ok.goal) fun H2 e2 => ?_
  have e12 := e1.trans e2
  refine q_forNLn (el_lst (ea_cons (ev_var rfl) (ea_cons (ev_var rfl) (ea_cons (ev_var rfl) ea_nil))) (by simp)) (fun p' i σ' H' => (∃ v, σ' = [some (.ref r), some (.ref b), some (.ref c), some (.str t.name), some (.str t.origin), some (.str t.goal), some (.int t.start), some (.int t.finish), some (.int t.seats), some (.int (D t.origin t.goal)), v]) ∧ Ex H H' ∧ H' p' = some (.lst [.int t.start, .int t.finish, .int t.seats]))
    (fun p' H1 _ e h => ⟨⟨_, rfl⟩, e12.trans e, h⟩) (fun p' i σ' H' _ z => sq_of z.2.2) ?_ ?_
  · rintro p' i x σ' H' hx ⟨⟨v, rfl⟩, e, hp⟩
    have hc : ∃ n : Int, (0 ≤ n ∧ n ≤ 1000000000) ∧ x = .int n := by
      match i, hx with
      | 0, hx => exact ⟨_, ⟨ok.s0, ok.s1⟩, (Option.some.inj hx).symm⟩
      | 1, hx => exact ⟨_, ⟨ok.f0, ok.f1⟩, (Option.some.inj hx).symm⟩
      | 2, hx => exact ⟨_, ⟨ok.n0, ok.n1⟩, (Option.some.inj hx).symm⟩
      | i + 3, hx => cases hx
    obtain ⟨n, ⟨h0, h1⟩, rfl⟩ := hc
    exact s_drop (ev_cnum (ev_var rfl) ev_c h0 h1) fun H4 e4 => ⟨⟨_, rfl⟩, e.trans e4, e4 _ _ hp⟩
  · rintro p' σ' H' ⟨⟨v, rfl⟩, e, hp⟩
    refine q_when (b := false) (et_is (et_test (ev_op (ev_var rfl) (ev_var rfl) rv_I0)) (decide_eq_false (by have := ok.fwd; omega))) (fun z => by cases z) (fun _ H5 e5 => ?_)
    refine q_when (b := false) (et_is (et_B (ev_isN (ev_var rfl))) rfl) (fun z => by cases z) (fun _ H6 e6 => ?_)
    exact s_when (b := false) (et_is (et_test (ev_op (ev_op (ev_var rfl) (ev_var rfl) rv_I0) (ev_var rfl) rv_I0)) (decide_eq_false (by have := ok.slow; omega))) (fun z => by cases z) (fun _ H7 e7 => k H7 (((e.trans e5).trans e6).trans e7))

/-- the address of a trip's tuple by its name -/
def adOf : List Addr → List Trip → Str → Addr
  | a :: as, t :: ts, n => if t.name = n then a else adOf as ts n
  | _, _, _ => 0
theorem adOf_at : ∀ {as : List Addr} {ts : List Trip} {i : Nat} {a : Addr} {t : Trip}, (ts.map fun t => t.name).Nodup → as[i]? = some a → ts[i]? = some t → adOf as ts t.name = a
  | a :: as, t :: ts, 0, b, u, _, h1, h2 => by
    obtain rfl := Option.some.inj h1
    obtain rfl := Option.some.inj h2
    simp [adOf]
  | a :: as, t :: ts, i + 1, b, u, hn, h1, h2 => by
    simp only [List.map_cons, List.nodup_cons] at hn
    have h2' : ts[i]? = some u := by simpa using h2
    have ne : ¬ t.name = u.name := fun z => hn.1 (by rw [z]; exact List.mem_map.mpr ⟨u, List.mem_of_getElem? h2', rfl⟩)
    show (if t.name = u.name then a else adOf as ts u.name) = b
    rw [if_neg ne]
    exact adOf_at hn.2 (by simpa using h1) h2'
  | [], _, _, _, _, _, h1, _ => by simp at h1
  | _ :: _, [], _, _, _, _, _, h2 => by simp at h2
theorem tpF1 (r : Addr) : putF "roads" (.ref r) [] = [(("roads" : Str), V.ref r)] := rfl
theorem tpF2 (r b : Addr) : putF "board" (.ref b) (putF "roads" (.ref r) []) = tF r b := by
  rw [tpF1, putF_new (by rw [lookup_c, if_neg (fun z => ne_rb z.symm)]; rfl)]; rfl
theorem sc_Table_init : FnScope ["self", "roads", "trips", "trip"] ["self", "roads", "trips"] (defScope s_Table_init) := ⟨rfl, rfl, rfl, by decide +kernel, rfl, by decide +kernel, by decide +kernel⟩
def spTInit (CT CR : Addr) : Sp := fun vs H Q _ => ∃ (x r l dx : Addr) (ps : List Str) (D : Str → Str → Int) (ts : List Trip), vs = [.ref x, .ref r, .ref l] ∧ H x = some (.ins CT dx []) ∧ RoadsAt CR H r ps D ∧ r ≠ x ∧ TupsAt H l ts ∧ (ts.map fun t => t.name).Nodup ∧ (∀ t ∈ ts, TripOk ps D t) ∧ ts.length ≤ 40 ∧
  ∀ H' ad, ExB x H H' → TableAt CT CR H' x ⟨ps, D, ts, ad⟩ → Q .non H'
theorem k_tinit (T : Tx K mg) : FnOk P w K mg base CX0 3 T.f_tinit T.fd_tinit ["self", "roads", "trips"] (spTInit T.CT T.CR) := by
  have G_check_trip := k_check_trip (P := P) (w := w) (base := base) T
  refine T.I_tinit.F.ok sc_Table_init (fun vs H Q E h => ?_) (fun cdv A outer s H vs Q E hr h => ?_)
  · obtain ⟨x, r, l, dx, ps, D, ts, rfl, _⟩ := h
    rfl
  obtain ⟨x, r, l, dx, ps, D, ts, rfl, hx, hR, hrx, hT, hnd, hok, hfew, k⟩ := h
  have hu := hu_of hr
  obtain ⟨tt, hMOST_TRIPS⟩ := T.B.TRIPS
  refine ⟨_, PSs.nox (pss_cons (ps_if (pt_cmpR op_gt (pe_callB call_len_seq (by rfl) T.B.len PySem.boot_len (pa_cons (pv 2) pa_nil)) (pe_glob (v := .int 40) rfl hMOST_TRIPS ⟨_, rfl⟩) (nomark _))
      (pss_one ps_never)
      pss_nil)
    (pss_cons (ps_fld (pv 0) (pv 1) rfl)
    (pss_cons (ps_fld (pv 0) pe_dnewK rfl)
    (pss_one (ps_for PassesOwn.never rfl (pi_list (pv 2)) (pg_name (i := 3) sc_Table_init.nd rfl (Or.inl rfl))
      (pss_cons (ps_expr (pe_call G_check_trip (hr.mono (by decide)) rfl T.d_check_trip.g T.d_check_trip.F.kp T.d_check_trip.b .nil pass0 (pa_cons (pv 1) (pa_cons (pe_fld (pv 0) rfl) (pa_cons (pv 3) pa_nil)))))
      (pss_one (ps_dput hu (pe_fld (pv 0) rfl) (pe_ix ix_tup (pv 3) pe_int (fun _ _ => rfl)) (pv 3) rfl)))))))), ?_⟩
  have C := T.C
  obtain ⟨as, hl, hp⟩ := hT
  have hal : as.length = ts.length := Paired.length hp
  have hlx : l ≠ x := ne_of hl hx (by intro z; cases z)
  -- the roads stay while x changes
  have rmono : ∀ {H' : Hp}, ExB x H H' → RoadsAt T.CR H' r ps D := fun {H'} e => by
    obtain ⟨dx', t, l', r', kvs, h1, h2, h3, h4⟩ := hR.ex
    have rd : ∀ {c : Addr} {kvs : List (Key × V)}, Rd H c (.dK kvs) → Rd H' c (.dK kvs) := fun {c kvs} h => by
      rcases h with h | ⟨ob, h⟩
      · exact .inl (e _ _ h (ne_of h hx (by intro z; cases z)))
      · exact .inr ⟨ob, e _ _ h (ne_of h hx (by intro z; cases z))⟩
    refine ⟨dx', t, l', r', kvs, e _ _ h1 hrx, e _ _ h2 (ne_of h2 hx (by intro z; cases z)), rd h3, fun a ha => ?_⟩
    obtain ⟨h, hk, q1, q2, q3⟩ := h4 a ha
    exact ⟨h, hk, q1, rd q2, q3⟩
  refine q_when (b := false) (et_is (et_test (ev_op (ev_len (ev_var rfl) (sq_of hl)) ev_c rv_I0)) (decide_eq_false (by rw [List.length_map]; omega))) (fun z => by cases z) (fun _ H1 e1 => ?_)
  refine s_fldP (ep_v (ev_var (v := .ref r) rfl)) (ev_var rfl) (e1 _ _ hx) T.C.T C.nRoads (by decide) fun y H2 H3 e2 hy e3 => ?_
  subst hy
  have x3 : ExB x H (upd H3 x (.ins T.CT dx (putF "roads" (.ref r) []))) := ExB.upd (fun c u h n => e3 _ _ (e2 _ _ (e1 _ _ h))) _
  refine fun b hb => ⟨_, rfl, x, T.CT, dx, _, rfl, Ex.new hb _ _ upd_same, C.T, C.nBoard, (by rw [tpF1]; show 1 < 1000; decide), ?_⟩
  rw [tpF2]
  have hbx : b ≠ x := fun z => by rw [z, upd_same] at hb; cases hb
  have hb0 : H b = none := by
    cases q : H b with
    | none => rfl
    | some o => rw [x3 _ _ q hbx] at hb; cases hb
  have hbl : l ≠ b := ne_of_none hl hb0
  refine s_forLn (xs := as.map V.ref) (ev_var rfl) (sq_of (by rw [upd_ne hlx, upd_ne hbl]; exact x3 _ _ hl hlx))
    (fun i σ' H' => (∃ v, σ' = [some (.ref x), some (.ref r), some (.ref l), v]) ∧ ExB x H H' ∧ H' x = some (.ins T.CT dx (tF r b)) ∧ ∃ kvs : List (Key × V), H' b = some (.dK kvs) ∧ kvs.map (·.1) = (ts.take i).map (fun t => kS t.name) ∧ ∀ t ∈ ts.take i, valV kvs (kS t.name) = some (.ref (adOf as ts t.name)))
    (fun H7 e7 => ⟨⟨_, rfl⟩, ((x3.mut _ hb0).upd _).then e7, e7 _ _ upd_same, [], e7 _ _ (by rw [upd_ne hbx, upd_same]), rfl, by simp⟩)
    (fun i σ' H' _ z => sq_of (z.2.1 _ _ hl hlx)) ?_ ?_
  · rintro i y σ' H' hy ⟨⟨v, rfl⟩, xb, hx', kvs, hk1, hk2, hk3⟩
    rw [List.getElem?_map] at hy
    obtain ⟨c, hc, rfl⟩ := Option.map_eq_some_iff.mp hy
    obtain ⟨t, ht, hct⟩ := paired_get hp hc
    have hm := List.mem_of_getElem? ht
    have tk : ts.take (i + 1) = ts.take i ++ [t] := by rw [List.take_add_one, ht]; rfl
    have hcx : c ≠ x := ne_of hct hx (by intro z; cases z)
    have newn : ¬ kS t.name ∈ kvs.map (·.1) := fun q => by
      rw [hk2] at q
      obtain ⟨u, hu, eu⟩ := List.mem_map.mp q
      have h4 := List.take_append_drop (i + 1) ts
      rw [tk] at h4
      have hd := hnd
      rw [← h4, List.append_assoc, List.map_append] at hd
      exact (List.nodup_append.mp hd).2.2 u.name (List.mem_map.mpr ⟨u, hu, rfl⟩) t.name (by simp) (Sum.inr.inj eu)
    have vn := valV_new newn
    have hlk : kvs.length ≤ 40 := by
      have h1 := congrArg List.length hk2
      simp only [List.length_map, List.length_take] at h1
      omega
    have bf : Ev (tFld K (tVar 0) "board") [some (.ref x), some (.ref r), some (.ref l), some (.ref c)] H' (.ref b) := ev_fld (ev_var rfl) hx' T.C.T C.nBoard (tF_board _ _)
    refine q_drop (v := .non) (ev_call (ea_cons (ev_var rfl) (ea_cons bf (ea_cons (ev_var rfl) ea_nil))) fun H8 e8 Q8 q8 E8 => ⟨r, b, c, ps, D, kvs, t, rfl, (rmono xb).ex' e8, e8 _ _ hk1, newn, e8 _ _ (xb _ _ hct hcx), hok t hm, fun H9 e9 => q8 H9 e9⟩) fun H8 e8 => ?_
    refine s_dput (k := kS t.name) (v := .ref c) (ev_var rfl) (ev_fld (ev_var rfl) (e8 _ _ hx') T.C.T C.nBoard (tF_board _ _)) (ev_op (ev_var rfl) ev_c (rv_ixT (st_of (e8 _ _ (xb _ _ hct hcx))) rfl)) (e8 _ _ hk1) (by omega) fun H9 e9 => ?_
    refine ⟨⟨_, rfl⟩, ((xb.then e8).then e9).mut _ hb0, by rw [upd_ne hbx.symm]; exact e9 _ _ (e8 _ _ hx'), _, upd_same, ?_, fun u hu => ?_⟩
    · rw [putK_new _ vn, List.map_append, hk2, tk, List.map_append (l₁ := ts.take i)]; rfl
    · by_cases e : u.name = t.name
      · rw [e, valV_put, if_pos rfl, adOf_at hnd hc ht]
      · have hu' : u ∈ ts.take i := by
          rw [tk] at hu
          rcases List.mem_append.mp hu with q | q
          · exact q
          · exact (e (by simp at q; rw [q])).elim
        rw [valV_put, if_neg (fun z => e (Sum.inr.inj z))]
        exact hk3 u hu'
  · rintro σ' H' ⟨⟨v, rfl⟩, xb, hx', kvs, hk1, hk2, hk3⟩
    rw [List.length_map, hal, List.take_length] at hk2 hk3
    refine k H' (adOf as ts) xb ⟨dx, r, b, hx', rmono xb, ⟨kvs, .inl hk1, hk2, hk3⟩, fun t ht => ?_⟩
    obtain ⟨i, hi, ei⟩ := List.getElem_of_mem ht
    have hi2 : i < ts.length := hi
    have hi' : i < as.length := by omega
    have h1 : as[i]? = some as[i] := List.getElem?_eq_getElem _
    have h2 : ts[i]? = some t := by rw [List.getElem?_eq_getElem hi, ei]
    obtain ⟨u, hu, hcu⟩ := paired_get hp h1
    rw [h2] at hu
    obtain rfl := Option.some.inj hu
    show H' (adOf as ts t.name) = _
    rw [adOf_at hnd h1 h2]
    exact xb _ _ hcu (ne_of hcu hx (by intro z; cases z))
end
end K49
/-! K49D10 -/
/-! check_rows, find_one. -/
namespace K49
open PySem L2 Evl
/-- rows that are not locked -/
structure RowsU (H : Hp) (d : Addr) (ks : List Key) (row : Key → List Str) : Prop where
  ex : ∃ kvs : List (Key × V), H d = some (.dK kvs) ∧ kvs.map (·.1) = ks ∧ ∀ k ∈ ks, ∃ a : Addr, valV kvs k = some (.ref a) ∧ H a = some (.lst ((row k).map V.str))
theorem RowsU.at {H : Hp} {d : Addr} {ks : List Key} {row : Key → List Str} (R : RowsU H d ks row) : RowsAt H d ks row := by
  obtain ⟨kvs, h1, h2, h3⟩ := R.ex
  exact ⟨kvs, .inl h1, h2, h3⟩
theorem RowsU.ex' {H H' : Hp} {d : Addr} {ks : List Key} {row : Key → List Str} (R : RowsU H d ks row) (e : Ex H H') : RowsU H' d ks row := by
  obtain ⟨kvs, h1, h2, h3⟩ := R.ex
  refine ⟨kvs, e _ _ h1, h2, fun k hk => ?_⟩
  obtain ⟨a, q1, q2⟩ := h3 k hk
  exact ⟨a, q1, e _ _ q2⟩
/-- small enough -/
structure Small (ks : List Key) (row : Key → List Str) : Prop where
  nd : ks.Nodup
  few : ks.length ≤ 40
  rows : ∀ k ∈ ks, (row k).length ≤ 40
  tx : ∀ x, kS x ∈ ks → x.cps.all (· < 0x110000) = true
section
variable {P : Program} {w : World} {K : PySem.W.Frag} {mg : Str → Option Value} {base : Heap}
theorem rc_lenD {H : Hp} {a : Addr} {kvs : List (Key × V)} (h : H a = some (.dK kvs)) : RC (fun xs H Q => ∃ a kvs, xs = [V.ref a] ∧ H a = some (.dK kvs) ∧ Q (.int kvs.length) H) [.ref a] H (.int kvs.length) := fun H1 e Q q => ⟨a, kvs, rfl, e _ _ h, q H1 (Ex.refl H1)⟩
theorem sc_check_rows : FnScope ["rows", "left"] ["rows"] (defScope s_check_rows) := ⟨rfl, rfl, rfl, by decide +kernel, rfl, by decide +kernel, by decide +kernel⟩
def spCRows : Sp := fun vs H Q _ => ∃ (d : Addr) (ks : List Key) (row : Key → List Str), vs = [.ref d] ∧ RowsU H d ks row ∧ Small ks row ∧ RetV .non H Q
theorem k_check_rows (T : Tx K mg) : FnOk P w K mg base CX0 1 T.f_check_rows T.fd_check_rows ["rows"] spCRows := by
  refine T.d_check_rows.F.ok sc_check_rows (fun vs H Q E h => ?_) (fun cdv A outer s H vs Q E hr h => ?_)
  · obtain ⟨d, ks, row, rfl, _⟩ := h
    rfl
  obtain ⟨d, ks, row, rfl, hR, hS, k⟩ := h
  have hu := hu_of hr
  obtain ⟨tl, hMOST_LEFTS⟩ := T.B.LEFTS
  refine ⟨_, PSs.nox (pss_cons (ps_if (pt_cmpR op_gt (pe_callB call_lenD (by rfl) T.B.len PySem.boot_len (pa_cons (pv 0) pa_nil)) (pe_glob (v := .int 40) rfl hMOST_LEFTS ⟨_, rfl⟩) (nomark _))
      (pss_one ps_never)
      pss_nil)
    (pss_one (ps_lock (ps_for PassesOwn.never rfl (pi_keys (pv 0)) (pg_name (i := 1) sc_check_rows.nd rfl (Or.inl rfl))
      (pss_one (ps_if (pt_cmpR op_gt (pe_callB call_len_seq (by rfl) T.B.len PySem.boot_len (pa_cons (pe_dget hu (pv 0) (pv 1) (fun _ _ => rfl)) pa_nil)) (pe_glob (v := .int 40) rfl hMOST_LEFTS ⟨_, rfl⟩) (nomark _))
        (pss_one ps_never)
        pss_nil)))))), ?_⟩
  obtain ⟨kvs, h1, h2, h3⟩ := hR.ex
  have hl : kvs.length = ks.length := by rw [← h2, List.length_map]
  refine q_when (b := false) (et_is (et_test (ev_op (ev_cb (ea_cons (ev_var rfl) ea_nil) (rc_lenD h1)) ev_c rv_I0)) (decide_eq_false (by have := hS.few; omega))) (fun z => by cases z) (fun _ H1 e1 => ?_)
  refine s_forK (iv := 0) rfl (e1 _ _ h1) (fun od i σ' H' => (∃ v, σ' = [some (.ref d), v]) ∧ Ex (upd H1 d (.frz od (.dK kvs))) H') (fun od => ⟨⟨_, rfl⟩, Ex.refl _⟩) (fun od i σ' H' _ z => z.2 _ _ upd_same) ?_ ?_
  · rintro od i kk vv σ' H' hi ⟨⟨v, rfl⟩, e⟩
    have hk : kk ∈ ks := by rw [← h2]; exact List.mem_map.mpr ⟨_, List.mem_of_getElem? hi, rfl⟩
    obtain ⟨a, q1, q2⟩ := h3 kk hk
    have hd : H' d = some (.frz od (.dK kvs)) := e _ _ upd_same
    have ha : H' a = some (.lst ((row kk).map V.str)) := e _ _ (by rw [upd_ne (ne_of q2 h1 (by intro z; cases z))]; exact e1 _ _ q2)
    refine s_when (b := false) (et_is (et_test (ev_op (ev_len (ev_dget (ev_var rfl) (ev_var rfl) (v := .ref a) (by rw [← q1]; exact dget_rd (.inr ⟨od, hd⟩))) (sq_of ha)) ev_c rv_I0)) (decide_eq_false (by have := hS.rows kk hk; rw [List.length_map]; omega))) (fun z => by cases z) (fun _ H2 e2 => ⟨⟨_, rfl⟩, e.trans e2⟩)
  · rintro od σ' H' ⟨⟨v, rfl⟩, e⟩
    exact k _ (e1.trans (ex_unlock (e1 _ _ h1) e))

/-! ### find_one -/
def seenD (sn : List Str) : List (Key × V) := sn.map fun x => (kS x, V.bl true)
theorem seenD_val (sn : List Str) (a : Str) : (valV (seenD sn) (kS a)).isSome = decide (a ∈ sn) := by
  rw [← valV_any]
  unfold seenD
  rw [List.any_map]
  induction sn with
  | nil => rfl
  | cons b r ih =>
    rw [List.any_cons, ih]
    by_cases e : b = a
    · subst e; simp
    · have h1 : ¬ a = b := fun z => e z.symm
      have h2 : ¬ kS b = kS a := fun z => e (Sum.inr.inj z)
      simp [h1, e]
theorem seenD_put {sn : List Str} {a : Str} (h : a ∉ sn) : putK (seenD sn) (kS a) (.bl true) = seenD (sn ++ [a]) := by
  have : valV (seenD sn) (kS a) = none := by
    have := seenD_val sn a
    rw [decide_eq_false h] at this
    simpa using this
  rw [putK_new _ this]
  unfold seenD; simp
/-- all but what stands at s and o -/
def ExC (s o : Addr) (H H' : Hp) : Prop := ∀ c u, H c = some u → c ≠ s → c ≠ o → H' c = some u
theorem ExC.refl (s o : Addr) (H : Hp) : ExC s o H H := fun _ _ h _ _ => h
theorem ExC.then {s o : Addr} {H H1 H2 : Hp} (a : ExC s o H H1) (b : Ex H1 H2) : ExC s o H H2 := fun c u h n1 n2 => b c u (a c u h n1 n2)
theorem ExC.trans {s o : Addr} {H H1 H2 : Hp} (a : ExC s o H H1) (b : ExC s o H1 H2) : ExC s o H H2 := fun c u h n1 n2 => b c u (a c u h n1 n2) n1 n2
theorem ExC.us {s o : Addr} {H H1 : Hp} (a : ExC s o H H1) (u : HO) : ExC s o H (upd H1 s u) := fun c v h n1 n2 => by rw [upd_ne n1]; exact a c v h n1 n2
theorem ExC.uo {s o : Addr} {H H1 : Hp} (a : ExC s o H H1) (u : HO) : ExC s o H (upd H1 o u) := fun c v h n1 n2 => by rw [upd_ne n2]; exact a c v h n1 n2
theorem RowsAt.exc {s o : Addr} {H H' : Hp} {d : Addr} {ks : List Key} {row : Key → List Str} {us uo : List (Key × V)} (R : RowsAt H d ks row) (hs : H s = some (.dK us)) (ho : H o = some (.dK uo)) (e : ExC s o H H') (n1 : d ≠ s) (n2 : d ≠ o) : RowsAt H' d ks row := by
  obtain ⟨kvs, h1, h2, h3⟩ := R.ex
  refine ⟨kvs, ?_, h2, fun k hk => ?_⟩
  · rcases h1 with h | ⟨ob, h⟩
    · exact .inl (e _ _ h n1 n2)
    · exact .inr ⟨ob, e _ _ h n1 n2⟩
  · obtain ⟨a, q1, q2⟩ := h3 k hk
    exact ⟨a, q1, e _ _ q2 (ne_of q2 hs (by intro z; cases z)) (ne_of q2 ho (by intro z; cases z))⟩
theorem sc_find_one : FnScope ["rows", "left", "seen", "owners", "right"] ["rows", "left", "seen", "owners"] (defScope s_find_one) := ⟨rfl, rfl, rfl, by decide +kernel, rfl, by decide +kernel, by decide +kernel⟩
structure FindIn (H : Hp) (d s o : Addr) (ks : List Key) (row : Key → List Str) (left : Key) (sn : List Str) (ow : List (Str × Key)) (U : List Str) (n : Nat) : Prop where
  rows : RowsAt H d ks row
  left : left ∈ ks
  hs : H s = some (.dK (seenD sn))
  ho : H o = some (.dK (enc kV ow))
  so : s ≠ o
  ds : d ≠ s
  do_ : d ≠ o
  nd : (keys ow).Nodup
  sd : sn.Nodup
  ok : ∀ r l, look ow r = some l → l ∈ ks
  inU : ∀ k ∈ ks, ∀ r ∈ row k, r ∈ U
  sU : ∀ r ∈ sn, r ∈ U
  oU : ∀ r ∈ keys ow, r ∈ U
  fuel : U.length < sn.length + n
  big : U.length ≤ 1000
def spFind (n : Nat) : Sp := fun vs H Q _ => ∃ (d s o : Addr) (ks : List Key) (row : Key → List Str) (left : Key) (sn : List Str) (ow : List (Str × Key)) (U : List Str), vs = [.ref d, kV left, .ref s, .ref o] ∧ FindIn H d s o ks row left sn ow U n ∧
  ∀ b sn' ow' H', Try row left (row left) sn ow b sn' ow' → ExC s o H H' → H' s = some (.dK (seenD sn')) → H' o = some (.dK (enc kV ow')) → Q (.bl b) H'
theorem Try.inU {row : Key → List Str} {left : Key} {rs seen : List Str} {ow : List (Str × Key)} {b : Bool} {s' : List Str} {o' : List (Str × Key)} {ks : List Key} {U : List Str} (h : Try row left rs seen ow b s' o') (hU : ∀ k ∈ ks, ∀ r ∈ row k, r ∈ U) :
    left ∈ ks → (∀ r ∈ rs, r ∈ row left) → (∀ r l, look ow r = some l → l ∈ ks) → (∀ r ∈ seen, r ∈ U) → ∀ r ∈ s', r ∈ U := by
  induction h with
  | nil => intro _ _ _ h; exact h
  | skip _ _ ih => intro h1 h2 h3 h4; exact ih h1 (fun r hr => h2 r (List.mem_cons_of_mem _ hr)) h3 h4
  | free _ _ => intro h1 h2 h3 h4 r hr; rcases List.mem_append.mp hr with q | q; exact h4 r q; rw [List.mem_singleton] at q; rw [q]; exact hU _ h1 _ (h2 _ List.mem_cons_self)
  | @turn left r rs seen ow l s' o' h1 hl k ih =>
    intro q1 q2 q3 q4
    refine ih (q3 _ _ hl) (fun _ h => h) q3 fun x hx => ?_
    rcases List.mem_append.mp hx with q | q
    · exact q4 x q
    · rw [List.mem_singleton] at q; rw [q]; exact hU _ q1 _ (q2 _ List.mem_cons_self)
  | @fail left r rs seen ow l s1 o1 b s2 o2 h1 hl k1 k2 ih1 ih2 =>
    intro q1 q2 q3 q4
    obtain ⟨e, _⟩ := k1.failed rfl
    subst e
    refine ih2 q1 (fun x hx => q2 x (List.mem_cons_of_mem _ hx)) q3 (ih1 (q3 _ _ hl) (fun _ h => h) q3 fun x hx => ?_)
    rcases List.mem_append.mp hx with q | q
    · exact q4 x q
    · rw [List.mem_singleton] at q; rw [q]; exact hU _ q1 _ (q2 _ List.mem_cons_self)
theorem tb_call {sp : Sp} {E : XK} {ta : TA} {σ : St} {H : Hp} {vs : List V} {Q : Bool → Hp → Prop} (h : EvA ta σ H vs) (k : ∀ H1, Ex H H1 → sp (vs ++ []) H1 (fun x H2 => ∃ c, x = .bl c ∧ Q c H2) E) : tB (tCall sp [] E ta) σ H Q := h H (Ex.refl H) _ k
theorem find_step (T : Tx K mg) {n : Nat} (G_find_one : FnOk P w K mg base CX0 n T.f_find_one T.fd_find_one ["rows", "left", "seen", "owners"] (spFind n)) : FnOk P w K mg base CX0 (n + 1) T.f_find_one T.fd_find_one ["rows", "left", "seen", "owners"] (spFind (n + 1)) := by
  refine T.d_find_one.F.ok sc_find_one (fun vs H Q E h => ?_) (fun cdv A outer s H vs Q E hr h => ?_)
  · obtain ⟨d, s, o, ks, row, left, sn, ow, U, rfl, _⟩ := h
    rfl
  obtain ⟨d, sa, o, ks, row, left, sn, ow, U, rfl, I, k⟩ := h
  have hu := hu_of hr
  refine ⟨_, PSs.nox (pss_cons (ps_for PassesOwn.never rfl (pi_list (pe_dget hu (pv 0) (pv 1) (fun _ _ => rfl))) (pg_name (i := 4) sc_find_one.nd rfl (Or.inl rfl))
      (pss_one (ps_if (pt_cmp (pc_dnotin hu (pv 4) (pv 2)))
        (pss_cons (ps_dput hu (pv 2) (pv 4) pe_bl rfl)
        (pss_one (ps_if (PW.pt (pw_or (pt_cmp (pc_dnotin hu (pv 4) (pv 3))) (pw_or1 (pt_val (pe_call G_find_one hr rfl T.d_find_one.g T.d_find_one.F.kp T.d_find_one.b .nil pass0 (pa_cons (pv 0) (pa_cons (pe_dget hu (pv 3) (pv 4) (fun _ _ => rfl)) (pa_cons (pv 2) (pa_cons (pv 3) pa_nil)))))))))
          (pss_cons (ps_dput hu (pv 3) (pv 4) (pv 1) rfl)
          (pss_one (ps_ret pe_bl)))
          pss_nil)))
        pss_nil)))
    (pss_one (ps_ret pe_bl))), ?_⟩
  obtain ⟨kvs, r1, r2, r3⟩ := I.rows.ex
  obtain ⟨a, q1, q2⟩ := r3 left I.left
  have nas : a ≠ sa := ne_of q2 I.hs (by intro z; cases z)
  have nao : a ≠ o := ne_of q2 I.ho (by intro z; cases z)
  refine q_forLn (ev_dget (ev_var rfl) (ev_var rfl) (v := .ref a) (by rw [← q1]; exact dget_rd r1)) (sq_of q2)
    (fun i σ' H' => (∃ v, σ' = [some (.ref d), some (kV left), some (.ref sa), some (.ref o), v]) ∧ ExC sa o H H' ∧ ∃ sn', H' sa = some (.dK (seenD sn')) ∧ H' o = some (.dK (enc kV ow)) ∧ sn'.Nodup ∧ (∀ r ∈ sn', r ∈ U) ∧ sn.length ≤ sn'.length ∧
      ∀ b s' o', Try row left ((row left).drop i) sn' ow b s' o' → Try row left (row left) sn ow b s' o')
    (fun H1 e1 => ⟨⟨_, rfl⟩, (ExC.refl _ _ _).then e1, sn, e1 _ _ I.hs, e1 _ _ I.ho, I.sd, I.sU, Nat.le_refl _, fun b s' o' h => h⟩) (fun i σ' H' _ z => sq_of (z.2.1 _ _ q2 nas nao)) ?_ ?_
  · rintro i x σ' H' hx ⟨⟨v, rfl⟩, e, sn', hs', ho', hd', hU', hle, htry⟩
    rw [List.getElem?_map] at hx
    obtain ⟨r, hr', rfl⟩ := Option.map_eq_some_iff.mp hx
    have hi := (List.getElem?_eq_some_iff.mp hr').1
    have hdrop : (row left).drop i = r :: (row left).drop (i + 1) := by
      rw [List.drop_eq_getElem_cons hi]
      congr 1
      exact (List.getElem?_eq_some_iff.mp hr').2
    rw [hdrop] at htry
    have hrm : r ∈ row left := List.mem_of_getElem? hr'
    have hsl : sn'.length ≤ 1000 := Nat.le_trans (nodup_le hd' hU') I.big
    have hol : ow.length ≤ 1000 := by
      have := nodup_le I.nd I.oU
      rw [show (keys ow).length = ow.length from List.length_map _] at this
      exact Nat.le_trans this I.big
    refine s_when (b := !decide (r ∈ sn')) (et_is (et_B (ev_dnotin (ev_var rfl) (ev_var rfl) (dget_rd (k := kS r) (.inl hs')))) (by rw [seenD_val])) (fun hb H1 e1 => ?_) (fun hb H1 e1 => ?_)
    · have hnew : r ∉ sn' := by simpa using hb
      refine q_dput (k := kS r) (v := .bl true) ev_c (ev_var rfl) (ev_var rfl) (e1 _ _ hs') (by unfold seenD; rw [List.length_map]; omega) fun H2 e2 => ?_
      rw [seenD_put hnew]
      generalize hH3 : upd H2 sa (.dK (seenD (sn' ++ [r]))) = H3
      have x3 : ExC sa o H H3 := by rw [← hH3]; exact ((e.then e1).then e2).us _
      have s3 : H3 sa = some (.dK (seenD (sn' ++ [r]))) := by rw [← hH3]; exact upd_same
      have o3 : H3 o = some (.dK (enc kV ow)) := by rw [← hH3, upd_ne I.so.symm]; exact e2 _ _ (e1 _ _ ho')
      have snd : (sn' ++ [r]).Nodup := by
        refine List.nodup_append.mpr ⟨hd', by simp, ?_⟩
        intro x hx y hy z
        simp only [List.mem_singleton] at hy
        exact hnew (by rw [← hy, ← z]; exact hx)
      have snU : ∀ x ∈ sn' ++ [r], x ∈ U := fun x hx => by
        rcases List.mem_append.mp hx with q | q
        · exact hU' x q
        · rw [List.mem_singleton] at q; rw [q]; exact I.inU _ I.left _ hrm
      have t1 : EvT (tB (tDNotIn (tVar 4) (tVar 3))) [some (.ref d), some (kV left), some (.ref sa), some (.ref o), some (.str r)] H3 (!((look ow r).map kV).isSome) := by
        have := dget_rd (k := kS r) (.inl o3)
        rw [enc_val] at this
        exact et_B (ev_dnotin (ev_var rfl) (ev_var rfl) this)
      refine t1 H3 (Ex.refl H3) _ fun H4 e4 => ?_
      cases hl : look ow r with
      | none =>
        refine iteT (iteT ?_)
        refine q_dput (k := kS r) (v := kV left) (ev_var rfl) (ev_var rfl) (ev_var rfl) (e4 _ _ o3) (by rw [enc_len]; omega) fun H5 e5 => ?_
        rw [enc_put]
        refine s_ret ev_c fun H6 e6 => k true _ _ H6 (htry _ _ _ (.free hnew hl)) ((((x3.then e4).then e5).uo _).then e6) (e6 _ _ ?_) (e6 _ _ upd_same)
        rw [upd_ne I.so]; exact e5 _ _ (e4 _ _ s3)
      | some l =>
        refine iteF ?_
        have hlo : DGet H4 o (.str r) (some (kV l)) := by
          have := dget_rd (k := kS r) (.inl (e4 _ _ o3))
          rw [enc_val, hl] at this
          exact this
        refine tb_call (ea_cons (ev_var rfl) (ea_cons (ev_dget (ev_var rfl) (ev_var rfl) hlo) (ea_cons (ev_var rfl) (ea_cons (ev_var rfl) ea_nil)))) fun H5 e5 => ?_
        have e45 := e4.trans e5
        have x5 := x3.then e45
        have I5 : FindIn H5 d sa o ks row l (sn' ++ [r]) ow U n :=
          ⟨I.rows.exc I.hs I.ho x5 I.ds I.do_, I.ok _ _ hl, e45 _ _ s3, e45 _ _ o3, I.so, I.ds, I.do_, I.nd, snd, I.ok, I.inU, snU, I.oU, by have := I.fuel; rw [List.length_append, List.length_singleton]; omega, I.big⟩
        refine ⟨d, sa, o, ks, row, l, sn' ++ [r], ow, U, rfl, I5, fun b s6 o6 H6 ht xc hs6 ho6 => ⟨b, rfl, ?_⟩⟩
        have x6 := x5.trans xc
        cases b with
        | true =>
          refine iteT ?_
          have F := ht.found rfl I.nd fun _ h => h
          have o6l : o6.length < 100000 := by
            have h1 := F.vals.length_eq
            simp only [List.length_map, List.length_cons] at h1
            omega
          refine q_dput (k := kS r) (v := kV left) (ev_var rfl) (ev_var rfl) (ev_var rfl) ho6 (by rw [enc_len]; exact o6l) fun H7 e7 => ?_
          rw [enc_put]
          refine s_ret ev_c fun H8 e8 => k true _ _ H8 (htry _ _ _ (.turn hnew hl ht)) (((x6.then e7).uo _).then e8) (e8 _ _ ?_) (e8 _ _ upd_same)
          rw [upd_ne I.so]; exact e7 _ _ hs6
        | false =>
          refine iteF ?_
          obtain ⟨eo, _, _⟩ := ht.failed rfl
          subst eo
          refine ⟨⟨_, rfl⟩, x6, s6, hs6, ho6, ht.nd snd, ht.inU I.inU (I.ok _ _ hl) (fun _ h => h) I.ok snU, ?_, fun b s' o' h => htry _ _ _ (.fail hnew hl ht h)⟩
          have := nodup_le snd ht.mono
          rw [List.length_append, List.length_singleton] at this
          omega
    · have hin : r ∈ sn' := by simpa using hb
      exact ⟨⟨_, rfl⟩, e.then e1, sn', e1 _ _ hs', e1 _ _ ho', hd', hU', hle, fun b s' o' h => htry _ _ _ (.skip hin h)⟩
  · rintro σ' H' ⟨⟨v, rfl⟩, e, sn', hs', ho', hd', hU', hle, htry⟩
    have hz : (row left).drop ((row left).map V.str).length = [] := by rw [List.length_map, List.drop_length]
    rw [hz] at htry
    exact s_ret ev_c fun H6 e6 => k false _ _ H6 (htry _ _ _ .nil) (e.then e6) (e6 _ _ hs') (e6 _ _ ho')
theorem k_find (T : Tx K mg) : ∀ n : Nat, FnOk P w K mg base CX0 n T.f_find_one T.fd_find_one ["rows", "left", "seen", "owners"] (spFind n)
  | 0 => by
    have no : ∀ vs H Q E, ¬ spFind 0 vs H Q E := fun vs H Q E h => by
      obtain ⟨d, s, o, ks, row, left, sn, ow, U, _, I, _⟩ := h
      have := nodup_le I.sd I.sU
      have := I.fuel
      omega
    exact ⟨fun vs H Q E h => absurd h (no vs H Q E), fun A outer s H args us vs Q E _ _ _ _ h => absurd h (no vs H Q E)⟩
  | n + 1 => find_step T (k_find T n)
end
end K49
/-! K49D11 -/
/-! owners_of, matching. -/
namespace K49
open PySem L2 Evl
/-- small rows, their right things within few -/
structure SmallU (ks : List Key) (row : Key → List Str) (U : List Str) : Prop where
  s : Small ks row
  inU : ∀ k ∈ ks, ∀ r ∈ row k, r ∈ U
  fewU : U.length ≤ 40
theorem kV_inj {k l : Key} (h : kV k = kV l) : k = l := by
  cases k <;> cases l <;> simp only [kV] at h
  · rw [V.int.inj h]
  · cases h
  · cases h
  · rw [V.str.inj h]
theorem Own.keysU {ks dn : List Key} {row : Key → List Str} {U : List Str} {ow : List (Str × Key)} {fl : List Key} {D : Str → Prop} (h : Own row dn ow fl D) (hd : ∀ x ∈ dn, x ∈ ks) (hU : ∀ k ∈ ks, ∀ r ∈ row k, r ∈ U) : ∀ r ∈ keys ow, r ∈ U := fun r hr => by
  obtain ⟨l, hl⟩ := Option.isSome_iff_exists.mp (look_isSome.mpr hr)
  exact hU l (hd l (h.val_in hl)) r (h.edge r l hl)
theorem Own.len {ks : List Key} {row : Key → List Str} {ow : List (Str × Key)} {fl : List Key} {D : Str → Prop} (h : Own row ks ow fl D) : ow.length + fl.length = ks.length := by
  have := h.part.length_eq
  rw [List.length_append, List.length_map] at this
  exact this.symm
section
variable {P : Program} {w : World} {K : PySem.W.Frag} {mg : Str → Option Value} {base : Heap}
theorem sc_owners_of : FnScope ["rows", "owners", "left"] ["rows"] (defScope s_owners_of) := ⟨rfl, rfl, rfl, by decide +kernel, rfl, by decide +kernel, by decide +kernel⟩
def OwnP (H : Hp) (ks : List Key) (row : Key → List Str) : V → Hp → Prop := fun v H2 => ∃ (o : Addr) (ow : List (Str × Key)) (fl : List Key) (D : Str → Prop), v = .ref o ∧ H o = none ∧ H2 o = some (.dK (enc kV ow)) ∧ Own row ks ow fl D
def spOwners : Sp := fun vs H Q _ => ∃ (d : Addr) (ks : List Key) (row : Key → List Str) (U : List Str), vs = [.ref d] ∧ RowsU H d ks row ∧ SmallU ks row U ∧ RetP (OwnP H ks row) H Q
theorem k_owners (T : Tx K mg) : FnOk P w K mg base CX0 42 T.f_owners_of T.fd_owners_of ["rows"] spOwners := by
  have G_check_rows := k_check_rows (P := P) (w := w) (base := base) T
  have G_find_one := k_find (P := P) (w := w) (base := base) T 41
  refine T.d_owners_of.F.ok sc_owners_of (fun vs H Q E h => ?_) (fun cdv A outer s H vs Q E hr h => ?_)
  · obtain ⟨d, ks, row, U, rfl, _⟩ := h
    rfl
  obtain ⟨d, ks, row, U, rfl, hR, hS, k⟩ := h
  have hu := hu_of hr
  refine ⟨_, PSs.nox (pss_cons (ps_expr (pe_call G_check_rows (hr.mono (by decide)) rfl T.d_check_rows.g T.d_check_rows.F.kp T.d_check_rows.b .nil pass0 (pa_cons (pv 0) pa_nil)))
    (pss_cons (ps_set (i := 1) sc_owners_of.nd rfl (Or.inl rfl) pe_dnewK)
    (pss_cons (ps_lock (ps_for PassesOwn.never rfl (pi_keys (pv 0)) (pg_name (i := 2) sc_owners_of.nd rfl (Or.inl rfl))
      (pss_one (ps_expr (pe_call G_find_one (hr.mono (by decide)) rfl T.d_find_one.g T.d_find_one.F.kp T.d_find_one.b .nil pass0 (pa_cons (pv 0) (pa_cons (pv 2) (pa_cons pe_dnewK (pa_cons (pv 1) pa_nil)))))))))
    (pss_one (ps_ret (pv 1)))))), ?_⟩
  refine q_drop (v := .non) (ev_call (ea_cons (ev_var rfl) ea_nil) fun H1 e Q1 q1 E1 => ⟨d, ks, row, rfl, hR.ex' e, hS.s, fun H2 e2 => q1 H2 e2⟩) fun H1 e1 => ?_
  refine fun o ho => ?_
  have hR1 := hR.ex' (e1.trans (Ex.new (o := .dK []) ho))
  obtain ⟨kvs, h1, h2, h3⟩ := id hR1
  have hl : kvs.length = ks.length := by rw [← h2, List.length_map]
  have hdo : d ≠ o := by
    intro z
    obtain ⟨kv0, q1, _⟩ := (hR.ex' e1).ex
    rw [z, ho] at q1; cases q1
  refine q_forK (iv := 0) rfl h1 (fun od i σ' H' => (∃ v, σ' = [some (.ref d), some (.ref o), v]) ∧ ExB o (upd (upd H1 o (.dK [])) d (.frz od (.dK kvs))) H' ∧ ∃ ow fl D, H' o = some (.dK (enc kV ow)) ∧ Own row (ks.take i) ow fl D)
    (fun od => ⟨⟨_, rfl⟩, fun _ _ h _ => h, [], [], _, by rw [upd_ne hdo.symm, upd_same]; rfl, own0⟩) (fun od i σ' H' _ z => z.2.1 _ _ upd_same hdo) ?_ ?_
  · rintro od i kk vv σ' H' hi ⟨⟨v, rfl⟩, e, ow, fl, D, hoH, hO⟩
    have hki : ks[i]? = some kk := by rw [← h2, List.getElem?_map, hi]; rfl
    have hk : kk ∈ ks := List.mem_of_getElem? hki
    have tk : ks.take (i + 1) = ks.take i ++ [kk] := by rw [List.take_add_one, hki]; rfl
    have sub : ∀ x ∈ ks.take i, x ∈ ks := fun x hx => List.mem_of_mem_take hx
    refine ⟨_, rfl, _, rfl, fun s hs => ⟨_, rfl, ?_⟩⟩
    have hRl : RowsAt (upd (upd H1 o (.dK [])) d (.frz od (.dK kvs))) d ks row := hR1.at.mono (exr_lock h1)
    have hRH : RowsAt H' d ks row := by
      obtain ⟨kvs', q1, q2, q3⟩ := hRl.ex
      refine ⟨kvs', ?_, q2, fun k hk => ?_⟩
      · rcases q1 with q | ⟨ob, q⟩
        · exact .inl (e _ _ q hdo)
        · exact .inr ⟨ob, e _ _ q hdo⟩
      · obtain ⟨a, a1, a2⟩ := q3 k hk
        refine ⟨a, a1, e _ _ a2 (fun z => ?_)⟩
        rw [z, upd_ne hdo.symm, upd_same] at a2; cases a2
    have hds : d ≠ s := fun z => by
      have := e d _ upd_same hdo
      rw [z, hs] at this; cases this
    have hso : s ≠ o := fun z => by rw [z, hoH] at hs; cases hs
    have I : FindIn (upd H' s (.dK [])) d s o ks row kk [] ow U 41 :=
      ⟨hRH.mono (exr (Ex.new hs)), hk, upd_same, by rw [upd_ne hso.symm]; exact hoH, hso, hds, hdo, hO.nd, by simp, fun r l hl => sub l (hO.val_in hl), hS.inU, by simp, hO.keysU sub hS.inU, by have := hS.fewU; simp; omega, by have := hS.fewU; omega⟩
    refine ⟨d, s, o, ks, row, kk, [], ow, U, rfl, I, fun b sn' ow' H2 ht xc hs2 ho2 => ?_⟩
    obtain ⟨fl', D', hO'⟩ := hO.step ht
    refine ⟨⟨_, rfl⟩, fun c u hc n => ?_, ow', fl', D', ho2, by rw [tk]; exact hO'⟩
    have hc' := e c u hc n
    have hcs : c ≠ s := ne_of_none hc' hs
    exact xc c u (by rw [upd_ne hcs]; exact hc') hcs n
  · rintro od σ' H' ⟨⟨v, rfl⟩, e, ow, fl, D, hoH, hO⟩
    rw [hl, List.take_length] at hO
    have ho0 : H o = none := fresh_back e1 ho
    refine s_ret (ev_var rfl) fun H2 e2 => k _ H2 (fun c u hc => e2 _ _ ?_) ⟨o, ow, fl, D, rfl, ho0, e2 _ _ (by rw [upd_ne hdo.symm]; exact hoH), hO⟩
    have hco : c ≠ o := ne_of_none hc ho0
    by_cases hcd : c = d
    · subst hcd
      rw [upd_same]
      have : upd H1 o (.dK []) c = some u := by rw [upd_ne hco]; exact e1 _ _ hc
      rw [h1] at this
      exact this
    · rw [upd_ne hcd]
      exact e c u (by rw [upd_ne hcd, upd_ne hco]; exact e1 _ _ hc) hco

/-! ### matching -/
/-- a dict by keys -/
def encK (g : List (Key × Str)) : List (Key × V) := g.map fun p => (p.1, V.str p.2)
def swp (ow : List (Str × Key)) : List (Key × Str) := ow.map fun p => (p.2, p.1)
theorem sc_matching : FnScope ["rows", "owners", "given", "right"] ["rows"] (defScope s_matching) := ⟨rfl, rfl, rfl, by decide +kernel, rfl, by decide +kernel, by decide +kernel⟩
def MatP (H : Hp) (ks : List Key) (row : Key → List Str) : V → Hp → Prop := fun v H2 => ∃ (g : Addr) (ow : List (Str × Key)) (fl : List Key) (D : Str → Prop), v = .ref g ∧ H g = none ∧ H2 g = some (.dK (encK (swp ow))) ∧ Own row ks ow fl D
def spMatch : Sp := fun vs H Q _ => ∃ (d : Addr) (ks : List Key) (row : Key → List Str) (U : List Str), vs = [.ref d] ∧ RowsU H d ks row ∧ SmallU ks row U ∧ RetP (MatP H ks row) H Q
theorem k_matching (T : Tx K mg) : FnOk P w K mg base CX0 43 T.f_matching T.fd_matching ["rows"] spMatch := by
  have G_owners_of := k_owners (P := P) (w := w) (base := base) T
  refine T.d_matching.F.ok sc_matching (fun vs H Q E h => ?_) (fun cdv A outer s H vs Q E hr h => ?_)
  · obtain ⟨d, ks, row, U, rfl, _⟩ := h
    rfl
  obtain ⟨d, ks, row, U, rfl, hR, hS, k⟩ := h
  have hu := hu_of hr
  refine ⟨_, PSs.nox (pss_cons (ps_set (i := 1) sc_matching.nd rfl (Or.inl rfl) (pe_call G_owners_of (hr.mono (by decide)) rfl T.d_owners_of.g T.d_owners_of.F.kp T.d_owners_of.b .nil pass0 (pa_cons (pv 0) pa_nil)))
    (pss_cons (ps_set (i := 2) sc_matching.nd rfl (Or.inl rfl) pe_dnewK)
    (pss_cons (ps_lock (ps_for PassesOwn.never rfl (pi_keys (pv 1)) (pg_name (i := 3) sc_matching.nd rfl (Or.inl rfl))
      (pss_one (ps_dput hu (pv 2) (pe_dget hu (pv 1) (pv 3) (fun _ _ => rfl)) (pv 3) rfl))))
    (pss_one (ps_ret (pv 2)))))), ?_⟩
  refine q_asgP (P := OwnP H ks row) (ep_call (ea_cons (ev_var rfl) ea_nil) fun H1 e Q1 q1 E1 => ⟨d, ks, row, U, rfl, hR.ex' e, hS, fun v H2 e2 ⟨o, ow, fl, D, a1, a2, a3, a4⟩ => q1 v H2 e2 ⟨o, ow, fl, D, a1, fresh_back e a2, a3, a4⟩⟩) fun v H1 e1 ⟨o, ow, fl, D, hv, ho0, ho, hO⟩ => ?_
  subst hv
  refine fun g hg => ?_
  have hgo : o ≠ g := ne_of_none ho hg
  have hg0 : H g = none := fresh_back e1 hg
  obtain ⟨v1, v2, v3⟩ := hO.vnd hS.s.nd
  refine q_forK (iv := 1) rfl (by rw [upd_ne hgo]; exact ho) (fun od i σ' H' => (∃ v, σ' = [some (.ref d), some (.ref o), some (.ref g), v]) ∧ ExB g (upd (upd H1 g (.dK [])) o (.frz od (.dK (enc kV ow)))) H' ∧ H' g = some (.dK (encK (swp (ow.take i)))))
    (fun od => ⟨⟨_, rfl⟩, fun _ _ h _ => h, by rw [upd_ne hgo.symm, upd_same]; rfl⟩) (fun od i σ' H' _ z => z.2.1 _ _ upd_same hgo) ?_ ?_
  · rintro od i kk vv σ' H' hi ⟨⟨v, rfl⟩, e, hgH⟩
    unfold enc at hi
    rw [List.getElem?_map] at hi
    obtain ⟨⟨r, l⟩, hp, ep⟩ := Option.map_eq_some_iff.mp hi
    obtain rfl : kS r = kk := congrArg Prod.fst ep
    have hfo : H' o = some (.frz od (.dK (enc kV ow))) := e _ _ upd_same hgo
    have hlook : look ow r = some l := look_of_mem hO.nd (List.mem_of_getElem? hp)
    have tk : ow.take (i + 1) = ow.take i ++ [(r, l)] := by rw [List.take_add_one, hp]; rfl
    have hlen : ow.length ≤ 40 := by have := hO.len; have := hS.s.few; omega
    have new : valV (encK (swp (ow.take i))) l = none := valV_new fun q => by
      obtain ⟨p, hp', e⟩ := List.mem_map.mp q
      obtain ⟨p2, hp2, rfl⟩ := List.mem_map.mp hp'
      obtain ⟨p3, hp3, rfl⟩ := List.mem_map.mp hp2
      have h4 := List.take_append_drop (i + 1) ow
      rw [tk] at h4
      rw [← h4, List.append_assoc, List.map_append] at v1
      exact (List.nodup_append.mp v1).2.2 p3.2 (List.mem_map.mpr ⟨p3, hp3, rfl⟩) l (by simp) e
    have dg : DGet H' o (.str r) (some (kV l)) := by
      have := dget_rd (k := kS r) (.inr ⟨od, hfo⟩ : Rd H' o (.dK (enc kV ow)))
      rw [enc_val, hlook] at this
      exact this
    refine s_dput (k := l) (v := .str r) (ev_var rfl) (ev_var rfl) (ev_dget (ev_var rfl) (ev_var rfl) dg) hgH (by unfold encK swp; simp; omega) fun H2 e2 => ⟨⟨_, rfl⟩, fun c u hc n => by rw [upd_ne n]; exact e2 _ _ (e c u hc n), ?_⟩
    rw [upd_same, putK_new _ new, tk]
    unfold encK swp
    simp
  · rintro od σ' H' ⟨⟨v, rfl⟩, e, hgH⟩
    rw [enc_len, List.take_length] at hgH
    refine s_ret (ev_var rfl) fun H2 e2 => k _ H2 (fun c u hc => e2 _ _ ?_) ⟨g, ow, fl, D, rfl, hg0, e2 _ _ (by rw [upd_ne hgo.symm]; exact hgH), hO⟩
    have hco : c ≠ o := ne_of_none hc ho0
    have hcg : c ≠ g := ne_of_none hc hg0
    rw [upd_ne hco]
    exact e c u (by rw [upd_ne hco, upd_ne hcg]; exact e1 _ _ hc) hcg
end
end K49
/-! K49D12 -/
/-! reached, cover, lacking. -/
namespace K49
open PySem L2 Evl
/-! ### lists as data -/
def kD : Key → PyData
  | .inl i => .int i
  | .inr x => .str x
theorem dpAll_keys {K : PySem.W.Frag} {H : Hp} : ∀ ks : List Key, DpAll K H (ks.map kV) (ks.map kD)
  | [] => .nil
  | .inl i :: r => .cons (.int i) (dpAll_keys r)
  | .inr x :: r => .cons (.str x) (dpAll_keys r)
theorem canLay_keys : ∀ {ks : List Key}, (∀ x, kS x ∈ ks → x.cps.all (· < 0x110000) = true) → PyData.canLayAll0 (ks.map kD) = true
  | [], _ => by unfold PyData.canLayAll0; rfl
  | .inl i :: r, h => by
    show PyData.canLayAll0 (.int i :: r.map kD) = true
    unfold PyData.canLayAll0
    rw [canLay_keys fun x hx => h x (List.mem_cons_of_mem _ hx)]
    unfold PyData.canLay0; rfl
  | .inr x :: r, h => by
    show PyData.canLayAll0 (.str x :: r.map kD) = true
    unfold PyData.canLayAll0
    rw [canLay_keys fun x hx => h x (List.mem_cons_of_mem _ hx)]
    unfold PyData.canLay0
    have := h x List.mem_cons_self
    rw [Bool.and_true]
    exact this
theorem depthAll_keys : ∀ ks : List Key, PyData.depthAll (ks.map kD) ≤ 1
  | [] => by show PyData.depthAll [] ≤ 1; unfold PyData.depthAll; exact Nat.zero_le _
  | .inl i :: r => by
    show PyData.depthAll (.int i :: r.map kD) ≤ 1
    have := depthAll_keys r
    unfold PyData.depthAll
    have h : PyData.depth (.int i) ≤ 1 := by unfold PyData.depth; omega
    omega
  | .inr x :: r => by
    show PyData.depthAll (.str x :: r.map kD) ≤ 1
    have := depthAll_keys r
    unfold PyData.depthAll
    have h : PyData.depth (.str x) ≤ 1 := by unfold PyData.depth; omega
    omega
theorem shaped_keys {ks : List Key} (h : ∀ x, kS x ∈ ks → x.cps.all (· < 0x110000) = true) : SeqAt.shaped (.list (ks.map kD)) = true := by
  unfold SeqAt.shaped
  have h1 : PyData.canLay0 (.list (ks.map kD)) = true := by
    unfold PyData.canLay0
    exact canLay_keys h
  have h2 : PyData.depth (.list (ks.map kD)) ≤ 64 := by
    have := depthAll_keys ks
    unfold PyData.depth
    omega
  rw [h1, decide_eq_true h2]; rfl
theorem eqv_nil_keys (ks : List Key) : PyData.eqv (.list (ks.map kD)) (.list []) = ks.isEmpty := by
  cases ks with
  | nil => unfold PyData.eqv; unfold PyData.eqvAll; rfl
  | cons a r => show PyData.eqv (.list (kD a :: r.map kD)) (.list []) = false; unfold PyData.eqv; unfold PyData.eqvAll; rfl
def keyD (L : List Key) : List (Key × V) := L.map fun k => (k, V.bl true)
theorem keyD_keys (L : List Key) : (keyD L).map (·.1) = L := by unfold keyD; rw [List.map_map]; exact List.map_id L
theorem keyD_val (L : List Key) (a : Key) : (valV (keyD L) a).isSome = decide (a ∈ L) := by
  cases q : valV (keyD L) a with
  | none =>
    have := valV_not q
    rw [keyD_keys] at this
    rw [decide_eq_false this]; rfl
  | some y =>
    have := valV_in q
    rw [keyD_keys] at this
    rw [decide_eq_true this]; rfl
theorem keyD_put {L : List Key} {a : Key} (h : a ∉ L) : putK (keyD L) a (.bl true) = keyD (L ++ [a]) := by
  rw [putK_new _ (valV_new (by rw [keyD_keys]; exact h))]
  unfold keyD; simp
theorem seenD_put_old {sn : List Str} {a : Str} (h : a ∈ sn) : putK (seenD sn) (kS a) (.bl true) = seenD sn := by
  unfold putK
  rw [valV_any, seenD_val, decide_eq_true h, if_pos rfl]
  unfold seenD
  rw [List.map_map]
  apply List.map_congr_left
  intro x _
  simp only [Function.comp]
  split <;> rfl
section
variable {P : Program} {w : World} {K : PySem.W.Frag} {mg : Str → Option Value} {base : Heap}
theorem sc_reached : FnScope ["rows", "owners", "had", "right", "lefts", "rights", "left", "waiting"] ["rows", "owners"] (defScope s_reached) := ⟨rfl, rfl, rfl, by decide +kernel, rfl, by decide +kernel, by decide +kernel⟩
theorem rmeas_start {ks : List Key} {row : Key → List Str} (h : Small ks row) {f : Key → Bool} : rmeas row ks [] (ks.filter f) ≤ 2000 := by
  unfold rmeas
  have h1 : (ks.filter f).length ≤ 40 := Nat.le_trans (List.length_filter_le _ _) h.few
  have h2 : ∀ l : List Key, (∀ k ∈ l, k ∈ ks) → (l.map fun k => 1 + (row k).length).sum ≤ 41 * l.length := by
    intro l
    induction l with
    | nil => intro _; simp
    | cons a r ih =>
      intro hm
      have := ih fun k hk => hm k (List.mem_cons_of_mem _ hk)
      have := h.rows a (hm a List.mem_cons_self)
      simp only [List.map_cons, List.sum_cons, List.length_cons]
      omega
  have h3 := h2 (ks.filter fun k => decide (k ∉ [])) fun k hk => (List.mem_filter.mp hk).1
  have h4 := Nat.le_trans (List.length_filter_le (fun k => decide (k ∉ ([] : List Key))) ks) h.few
  omega
def ReaP (H : Hp) (ks : List Key) (row : Key → List Str) (ow : List (Str × Key)) (fl : List Key) : V → Hp → Prop := fun v H2 => ∃ (t l r : Addr) (L : List Key) (R : List Str), v = .ref t ∧ H2 t = some (.tup [.ref l, .ref r]) ∧ H2 l = some (.dK (keyD L)) ∧ H2 r = some (.dK (seenD R)) ∧ H l = none ∧ H r = none ∧ Reach row ks ow fl L R [] ∧ (fl = [] → L = [])
def spReached : Sp := fun vs H Q _ => ∃ (d o : Addr) (ks : List Key) (row : Key → List Str) (U : List Str) (ow : List (Str × Key)) (fl : List Key) (D : Str → Prop), vs = [.ref d, .ref o] ∧ RowsU H d ks row ∧ SmallU ks row U ∧ H o = some (.dK (enc kV ow)) ∧ d ≠ o ∧ Own row ks ow fl D ∧ RetP (ReaP H ks row ow fl) H Q
theorem k_reached (T : Tx K mg) : FnOk P w K mg base CX0 1 T.f_reached T.fd_reached ["rows", "owners"] spReached := by
  refine T.d_reached.F.ok sc_reached (fun vs H Q E h => ?_) (fun cdv A outer s H vs Q E hr h => ?_)
  · obtain ⟨d, o, ks, row, U, ow, fl, D, rfl, _⟩ := h
    rfl
  obtain ⟨d, o, ks, row, U, ow, fl, D, rfl, hR, hS, ho, hdo, hO, k⟩ := h
  have hu := hu_of hr
  refine ⟨_, PSs.nox (pss_cons (ps_set (i := 2) sc_reached.nd rfl (Or.inr rfl) pe_dnewK)
    (pss_cons (ps_lock (ps_for PassesOwn.never rfl (pi_keys (pv 1)) (pg_name (i := 3) sc_reached.nd rfl (Or.inl rfl))
      (pss_one (ps_dput hu (pv 2) (pe_dget hu (pv 1) (pv 3) (fun _ _ => rfl)) pe_bl rfl))))
    (pss_cons (ps_set (i := 4) sc_reached.nd rfl (Or.inl rfl) pe_dnewK)
    (pss_cons (ps_set (i := 5) sc_reached.nd rfl (Or.inl rfl) pe_dnewK)
    (pss_cons (ps_lock (ps_setLc (i := 7) (own := [("left", 6)]) (g := gName 6) (by rfl) sc_reached.nd rfl rfl (sw_true rfl rfl rfl (by decide +kernel)) (pi_keys (pv 0)) (blkOk_by (own := [("left", 6)]) (N := ["rows", "owners", "had", "right", "lefts", "rights", "left", "waiting"]) (sc := defScope s_reached) (by decide +kernel)) (fun _ _ _ _ _ => pg_name (i := 6) sc_reached.nd rfl (Or.inl rfl)) (fun _ _ _ _ _ => (pts_one (pt_cmp (pc_dnotin hu (pv 6) (pv 2))))) (fun _ _ _ _ _ => (pv 6))))
    (pss_cons (ps_while PassesOwn.never (pt_cmpR (op_neD hr.units) (pv 7) (pe_lst pa_nil) (nomark _))
      (pss_cons (ps_set (i := 6) sc_reached.nd rfl (Or.inl rfl) (pe_bm0 PySem.F.plainAttrs_list PySem.F.slot_list_pop PySem.F.type_list_pop mt_pop (pv 7)))
      (pss_one (ps_if (pt_cmp (pc_dnotin hu (pv 6) (pv 4)))
        (pss_cons (ps_dput hu (pv 4) (pv 6) pe_bl rfl)
        (pss_one (ps_for PassesOwn.never rfl (pi_list (pe_dget hu (pv 0) (pv 6) (fun _ _ => rfl))) (pg_name (i := 3) sc_reached.nd rfl (Or.inl rfl))
          (pss_cons (ps_dput hu (pv 5) (pv 3) pe_bl rfl)
          (pss_one (ps_expr (pe_bm PySem.F.plainAttrs_list PySem.F.slot_list_append PySem.F.type_list_append mt_append (pv 7) (pa_cons (pe_dget hu (pv 1) (pv 3) (fun _ _ => rfl)) pa_nil))))))))
        pss_nil))))
    (pss_one (ps_ret (pe_tup (pa_cons (pv 4) (pa_cons (pv 5) pa_nil))))))))))), ?_⟩
  obtain ⟨v1, v2, v3⟩ := hO.vnd hS.s.nd
  have hol : ow.length ≤ 40 := by have := hO.len; have := hS.s.few; omega
  -- had = {}; the owners' lefts
  refine fun hd hhd => ?_
  have nho : o ≠ hd := ne_of_none ho hhd
  refine q_forK (iv := 1) rfl (by rw [upd_ne nho]; exact ho) (fun od i σ' H' => (∃ v, σ' = [some (.ref d), some (.ref o), some (.ref hd), v, none, none, none, none]) ∧ ExB hd (upd (upd H hd (.dK [])) o (.frz od (.dK (enc kV ow)))) H' ∧ H' hd = some (.dK (keyD ((ow.take i).map (·.2)))))
    (fun od => ⟨⟨_, rfl⟩, fun _ _ h _ => h, by rw [upd_ne nho.symm, upd_same]; rfl⟩) (fun od i σ' H' _ z => z.2.1 _ _ upd_same nho) ?_ ?_
  · rintro od i kk vv σ' H' hi ⟨⟨v, rfl⟩, e, hH⟩
    unfold enc at hi
    rw [List.getElem?_map] at hi
    obtain ⟨⟨r, l⟩, hp, ep⟩ := Option.map_eq_some_iff.mp hi
    obtain rfl : kS r = kk := congrArg Prod.fst ep
    have hfo : H' o = some (.frz od (.dK (enc kV ow))) := e _ _ upd_same nho
    have hlook : look ow r = some l := look_of_mem hO.nd (List.mem_of_getElem? hp)
    have tk : ow.take (i + 1) = ow.take i ++ [(r, l)] := by rw [List.take_add_one, hp]; rfl
    have new : l ∉ (ow.take i).map (·.2) := fun q => by
      obtain ⟨p3, hp3, e⟩ := List.mem_map.mp q
      have h4 := List.take_append_drop (i + 1) ow
      rw [tk] at h4
      rw [← h4, List.append_assoc, List.map_append] at v1
      exact (List.nodup_append.mp v1).2.2 p3.2 (List.mem_map.mpr ⟨p3, hp3, rfl⟩) l (by simp) e
    have dg : DGet H' o (.str r) (some (kV l)) := by
      have := dget_rd (k := kS r) (.inr ⟨od, hfo⟩ : Rd H' o (.dK (enc kV ow)))
      rw [enc_val, hlook] at this
      exact this
    refine s_dput (k := l) (v := .bl true) ev_c (ev_var rfl) (ev_dget (ev_var rfl) (ev_var rfl) dg) hH (by unfold keyD; simp; omega) fun H2 e2 => ⟨⟨_, rfl⟩, fun c u hc n => by rw [upd_ne n]; exact e2 _ _ (e c u hc n), ?_⟩
    rw [upd_same, keyD_put new, tk]
    simp
  rintro od σ' H1 ⟨⟨v, rfl⟩, e1, hH1⟩
  rw [enc_len, List.take_length] at hH1
  generalize hH2 : upd H1 o (.dK (enc kV ow)) = H2
  have e2 : Ex H H2 := fun c u hc => by
    have hch : c ≠ hd := ne_of_none hc hhd
    rw [← hH2]
    by_cases hco : c = o
    · subst hco; rw [ho] at hc; cases hc; exact upd_same
    · rw [upd_ne hco]
      exact e1 c u (by rw [upd_ne hco, upd_ne hch]; exact hc) hch
  have hhd2 : H2 hd = some (.dK (keyD (ow.map (·.2)))) := by rw [← hH2, upd_ne nho.symm]; exact hH1
  -- lefts = {}; rights = {}
  refine fun lf hlf => ?_
  have hlf0 : H lf = none := fresh_back e2 hlf
  refine fun rt hrt => ?_
  have hrl : lf ≠ rt := fun z => by rw [← z, upd_same] at hrt; cases hrt
  have hrt0 : H rt = none := fresh_back (e2.trans (Ex.new hlf)) hrt
  generalize hH3 : upd (upd H2 lf (.dK [])) rt (.dK []) = H3
  have e23 : Ex H2 H3 := by rw [← hH3]; exact (Ex.new hlf).trans (Ex.new hrt)
  have e3 := e2.trans e23
  have hlf3 : H3 lf = some (.dK []) := by rw [← hH3, upd_ne hrl, upd_same]
  have hrt3 : H3 rt = some (.dK []) := by rw [← hH3, upd_same]
  obtain ⟨kvs, r1, r2, r3⟩ := (hR.ex' e3).ex
  have hdhd : hd ≠ d := fun z => by
    obtain ⟨kv0, q1, _⟩ := hR.ex
    rw [← z, hhd] at q1; cases q1
  -- waiting = [left for left in rows if left not in had]
  have hk3 : kvs.length ≤ 40 := by have := hS.s.few; rw [← r2, List.length_map] at this; exact this
  refine q_lcK (fun k => !decide (k ∈ ow.map (·.2))) kV rfl r1 (by omega) (fun x => rfl) (fun od kk hk H4 e4 => ?_) (fun od kk hk H4 e4 _ => ev_var rfl) fun wt H4 hwt e4 hw4 => ?_
  · have hh : H4 hd = some (.dK (keyD (ow.map (·.2)))) := e4 _ _ (by rw [upd_ne hdhd]; exact e23 _ _ hhd2)
    exact et_is (et_B (ev_dnotin (ev_var rfl) (ev_var rfl) (dget_rd (k := kk) (.inl hh)))) (by rw [keyD_val])
  rw [r2] at hw4
  have e04 := e3.trans e4
  have hwt0 : H wt = none := fresh_back e3 hwt
  have nlw : lf ≠ wt := ne_of_none hlf3 hwt
  have nrw : rt ≠ wt := ne_of_none hrt3 hwt
  obtain ⟨kvs4, s1, s2, s3⟩ := (hR.ex' e04).ex
  have ho4 : H4 o = some (.dK (enc kV ow)) := e04 _ _ ho
  have ndk : ∀ {c : Addr} {u : HO}, H c = some u → c ≠ lf ∧ c ≠ rt ∧ c ≠ wt := fun h => ⟨ne_of_none h hlf0, ne_of_none h hrt0, ne_of_none h hwt0⟩
  have start : Reach row ks ow fl [] [] (ks.filter fun k => !decide (k ∈ ow.map (·.2))) := Reach.start hO fun x => by
    rw [List.mem_filter]
    constructor
    · rintro ⟨h1, h2⟩
      have h3 : x ∉ ow.map (·.2) := by simpa using h2
      exact (List.mem_append.mp (hO.part.mem_iff.mp h1)).resolve_left h3
    · intro hx
      refine ⟨hO.part.mem_iff.mpr (List.mem_append_right _ hx), ?_⟩
      have : x ∉ ow.map (·.2) := fun q => v3 x q hx
      simp [this]
  have hfl : fl = [] → ∀ x ∈ ks, x ∈ ow.map (·.2) := fun z x hx => by
    have := hO.part.mem_iff.mp hx
    rw [z, List.append_nil] at this
    exact this
  have start_nil : (∀ x ∈ ks, x ∈ ow.map (·.2)) → (ks.filter fun k => !decide (k ∈ ow.map (·.2))) = [] := fun h => by
    refine List.filter_eq_nil_iff.mpr fun x hx => ?_
    rw [decide_eq_true (h x hx)]; simp
  have inks : ∀ {L : List Key} {R : List Str} {W : List Key}, Reach row ks ow fl L R W → ∀ x, x ∈ L ∨ x ∈ W → x ∈ ks := fun q x hx => by
    rcases q.inL x hx with z | ⟨r, _, e⟩
    · exact hO.part.mem_iff.mpr (List.mem_append_right _ z)
    · exact hO.val_in e
  refine q_while (fun m σ' H' => ∃ (Ls : List Key) (Rs : List Str) (Wt : List Key) (v3 v6 : Option V), σ' = [some (.ref d), some (.ref o), some (.ref hd), v3, some (.ref lf), some (.ref rt), v6, some (.ref wt)] ∧ Ex H H' ∧ H' lf = some (.dK (keyD Ls)) ∧ H' rt = some (.dK (seenD Rs)) ∧ H' wt = some (.lst (Wt.map kV)) ∧ Reach row ks ow fl Ls Rs Wt ∧ (fl = [] → Ls = [] ∧ Wt = []) ∧ (∀ r ∈ Rs, D r) ∧ rmeas row ks Ls Wt ≤ 2000 ∧ m = rmeas row ks Ls Wt)
    _ ⟨[], [], _, _, _, rfl, e04, e4 _ _ hlf3, e4 _ _ hrt3, hw4, start, fun z => ⟨rfl, start_nil (hfl z)⟩, by simp, rmeas_start hS.s, rfl⟩ ?_
  rintro m σ' H5 ⟨Ls, Rs, Wt, v3', v6, rfl, e5, hl5, hr5, hw5, hRe, hFe, hRD, hm5, rfl⟩
  have wtx : ∀ x, kS x ∈ Wt → x.cps.all (· < 0x110000) = true := fun x hx => hS.s.tx x (inks hRe _ (.inr hx))
  refine ⟨!Wt.isEmpty, et_test (ev_opL (xs := []) (ev_var rfl) (el_lst ea_nil (by simp)) fun p H6 hp e6 => ?_), fun hne H6 e6 => ?_, fun hem H6 e6 => ?_⟩
  · refine rv_val fun H7 e7 Q7 q7 => ⟨.list (Wt.map kD), .list [], .lst (sq_of (e7 _ _ (e6 _ _ hw5))) (dpAll_keys Wt), .lst (sq_of (e7 _ _ hp)) .nil, shaped_keys wtx, shaped_keys (ks := []) (by simp), ?_⟩
    rw [eqv_nil_keys]
    exact q7
  · -- a turn
    have hW : Wt ≠ [] := by intro z; rw [z] at hne; cases hne
    obtain ⟨Wt', x, rfl⟩ : ∃ Wt' x, Wt = Wt' ++ [x] := ⟨Wt.dropLast, Wt.getLast hW, (List.dropLast_concat_getLast hW).symm⟩
    have hxk : x ∈ ks := inks hRe x (.inr (by simp))
    have hLl : Ls.length ≤ 40 := by
      have := nodup_le hRe.ndL fun y hy => inks hRe y (.inl hy)
      have := hS.s.few
      omega
    have hRl : Rs.length ≤ 40 := by
      have := nodup_le hRe.ndR (b := U) fun r hr => by
        obtain ⟨y, hy, hq⟩ := hRe.ofR r hr
        exact hS.inU y (inks hRe y (.inl hy)) r hq
      have := hS.fewU
      omega
    refine ⟨fun σ' H' => ∃ (Ls' : List Key) (Rs' : List Str) (Wt2 : List Key) (v3 v6 : Option V), σ' = [some (.ref d), some (.ref o), some (.ref hd), v3, some (.ref lf), some (.ref rt), v6, some (.ref wt)] ∧ Ex H H' ∧ H' lf = some (.dK (keyD Ls')) ∧ H' rt = some (.dK (seenD Rs')) ∧ H' wt = some (.lst (Wt2.map kV)) ∧ Reach row ks ow fl Ls' Rs' Wt2 ∧ (∀ r ∈ Rs', D r) ∧ rmeas row ks Ls' Wt2 < rmeas row ks Ls (Wt' ++ [x]), ?_, ?_⟩
    · rintro σ2 H7 ⟨Ls', Rs', Wt2, u3, u6, rfl, a1, a2, a3, a4, a5, a6, a7⟩
      exact ⟨_, a7, Ls', Rs', Wt2, u3, u6, rfl, a1, a2, a3, a4, a5, fun z => (by have := (hFe z).2; simp at this), a6, by omega, rfl⟩
    have hw6 : H6 wt = some (.lst ((Wt' ++ [x]).map kV)) := e6 _ _ hw5
    refine ⟨_, rfl, .inl ⟨rfl, _, sq_of hw6⟩, wt, _, kV x, rfl, rfl, hw6, by rw [List.map_append]; simp, ?_⟩
    rw [show ((Wt' ++ [x]).map kV).dropLast = Wt'.map kV by rw [List.map_append]; simp]
    generalize hH7 : upd H6 wt (.lst (Wt'.map kV)) = H7
    have e7 : Ex H H7 := by rw [← hH7]; exact Ex.mut (e5.trans e6) hwt0
    have hl7 : H7 lf = some (.dK (keyD Ls)) := by rw [← hH7, upd_ne nlw]; exact e6 _ _ hl5
    have hr7 : H7 rt = some (.dK (seenD Rs)) := by rw [← hH7, upd_ne nrw]; exact e6 _ _ hr5
    have hw7 : H7 wt = some (.lst (Wt'.map kV)) := by rw [← hH7]; exact upd_same
    refine s_when (b := !decide (x ∈ Ls)) (et_is (et_B (ev_dnotin (ev_var rfl) (ev_var rfl) (dget_rd (k := x) (.inl hl7)))) (by rw [keyD_val])) (fun hb H8 e8 => ?_) (fun hb H8 e8 => ?_)
    · have hxL : x ∉ Ls := by simpa using hb
      refine q_dput (k := x) (v := .bl true) ev_c (ev_var rfl) (ev_var rfl) (e8 _ _ hl7) (by unfold keyD; simp; omega) fun H9 e9 => ?_
      rw [keyD_put hxL]
      generalize hH10 : upd H9 lf (.dK (keyD (Ls ++ [x]))) = H10
      have e10 : Ex H H10 := by rw [← hH10]; exact Ex.mut ((e7.trans e8).trans e9) hlf0
      have hl10 : H10 lf = some (.dK (keyD (Ls ++ [x]))) := by rw [← hH10]; exact upd_same
      have hr10 : H10 rt = some (.dK (seenD Rs)) := by rw [← hH10, upd_ne hrl.symm]; exact e9 _ _ (e8 _ _ hr7)
      have hw10 : H10 wt = some (.lst (Wt'.map kV)) := by rw [← hH10, upd_ne nlw.symm]; exact e9 _ _ (e8 _ _ hw7)
      obtain ⟨kvs0, g1, g2, g3⟩ := hR.ex
      obtain ⟨a, a1, a2⟩ := g3 x hxk
      have hin := hRe.into hxL
      have hdead := Reach.deadRow hO hRD hRe.inL (x := x) (.inr (by simp))
      have hmeas := rmeas_into (row := row) (W := Wt') hS.s.nd hxL hxk
      have hrow := hS.s.rows x hxk
      have hWl : Wt'.length ≤ 2000 := by
        have : (Wt' ++ [x]).length ≤ rmeas row ks Ls (Wt' ++ [x]) := Nat.le_add_left _ _
        simp only [List.length_append, List.length_cons, List.length_nil] at this
        omega
      refine s_forLn (ev_dget (ev_var rfl) (ev_var rfl) (v := .ref a) (by rw [← a1]; exact dget_rd (.inl (e10 _ _ g1)))) (sq_of (e10 _ _ a2))
        (fun i σ' H' => ∃ (Rs' : List Str) (Wt2 : List Key) (v3 : Option V), σ' = [some (.ref d), some (.ref o), some (.ref hd), v3, some (.ref lf), some (.ref rt), some (kV x), some (.ref wt)] ∧ Ex H H' ∧ H' lf = some (.dK (keyD (Ls ++ [x]))) ∧ H' rt = some (.dK (seenD Rs')) ∧ H' wt = some (.lst (Wt2.map kV)) ∧ ReachIn row ks ow fl x ((row x).take i) (Ls ++ [x]) Rs' Wt2 ∧ (∀ r ∈ Rs', D r) ∧ Wt2.length = Wt'.length + i)
        (fun H11 e11 => ⟨Rs, Wt', _, rfl, e10.trans e11, e11 _ _ hl10, e11 _ _ hr10, e11 _ _ hw10, hin, hRD, rfl⟩) (fun i σ' H' _ z => by obtain ⟨_, _, _, _, z2, _⟩ := z; exact sq_of (z2 _ _ a2)) ?_ ?_
      · rintro i y σ' H11 hy ⟨Rs', Wt2, u3, rfl, e11, hl11, hr11, hw11, hI, hD11, hlen⟩
        rw [List.getElem?_map] at hy
        obtain ⟨r, hri, rfl⟩ := Option.map_eq_some_iff.mp hy
        have hi := (List.getElem?_eq_some_iff.mp hri).1
        have hrx : r ∈ row x := List.mem_of_getElem? hri
        have tk : (row x).take (i + 1) = (row x).take i ++ [r] := by rw [List.take_add_one, hri]; rfl
        obtain ⟨y, hy, _⟩ := hO.dead r (hdead r hrx)
        have hRl' : Rs'.length ≤ 40 := by
          have := nodup_le hI.ndR (b := U) fun s hs => by
            obtain ⟨z, hz, hq⟩ := hI.ofR s hs
            have : z ∈ ks := by
              rcases hI.inL z (.inl hz) with q | ⟨r', _, e⟩
              · exact hO.part.mem_iff.mpr (List.mem_append_right _ q)
              · exact hO.val_in e
            exact hS.inU z this s hq
          have := hS.fewU
          omega
        obtain ⟨R2, hR2, hRm, hRn⟩ : ∃ R2, putK (seenD Rs') (kS r) (.bl true) = seenD R2 ∧ (∀ z, z ∈ R2 ↔ z ∈ Rs' ∨ z = r) ∧ R2.Nodup := by
          by_cases c : r ∈ Rs'
          · exact ⟨Rs', seenD_put_old c, fun z => ⟨.inl, fun h => h.elim id fun h => h ▸ c⟩, hI.ndR⟩
          · refine ⟨Rs' ++ [r], seenD_put c, fun z => by simp, List.nodup_append.mpr ⟨hI.ndR, by simp, ?_⟩⟩
            intro p hp q hq e
            simp only [List.mem_singleton] at hq
            exact c (by rw [← hq, ← e]; exact hp)
        refine q_dput (k := kS r) (v := .bl true) ev_c (ev_var rfl) (ev_var rfl) hr11 (by unfold seenD; simp; omega) fun H12 e12 => ?_
        rw [hR2]
        generalize hH13 : upd H12 rt (.dK (seenD R2)) = H13
        have e13 : Ex H H13 := by rw [← hH13]; exact Ex.mut (e11.trans e12) hrt0
        have hl13 : H13 lf = some (.dK (keyD (Ls ++ [x]))) := by rw [← hH13, upd_ne hrl]; exact e12 _ _ hl11
        have hr13 : H13 rt = some (.dK (seenD R2)) := by rw [← hH13]; exact upd_same
        have hw13 : H13 wt = some (.lst (Wt2.map kV)) := by rw [← hH13, upd_ne nrw.symm]; exact e12 _ _ hw11
        have dg : DGet H13 o (.str r) (some (kV y)) := by
          have := dget_rd (k := kS r) (.inl (e13 _ _ ho) : Rd H13 o (.dK (enc kV ow)))
          rw [enc_val, hy] at this
          exact this
        refine s_app (v := kV y) hw13 (ev_var rfl) (ev_dget (ev_var rfl) (ev_var rfl) dg) (by rw [List.length_map]; omega) fun H14 e14 => ?_
        refine ⟨R2, Wt2 ++ [y], _, rfl, Ex.mut (e13.trans e14) hwt0, by rw [upd_ne nlw]; exact e14 _ _ hl13, by rw [upd_ne nrw]; exact e14 _ _ hr13, by rw [upd_same, List.map_append]; rfl, ?_, fun s hs => ?_, by simp; omega⟩
        · rw [tk]; exact hI.step hrx hy hRm hRn
        · rcases (hRm s).mp hs with q | q
          · exact hD11 s q
          · rw [q]; exact hdead r hrx
      · rintro σ' H11 ⟨Rs', Wt2, u3, rfl, e11, hl11, hr11, hw11, hI, hD11, hlen⟩
        rw [List.length_map] at hI hlen
        rw [List.take_length] at hI
        refine ⟨Ls ++ [x], Rs', Wt2, _, _, rfl, e11, hl11, hr11, hw11, hI.done, hD11, ?_⟩
        have : rmeas row ks (Ls ++ [x]) Wt2 = rmeas row ks (Ls ++ [x]) Wt' + (row x).length := by unfold rmeas; rw [hlen]; omega
        omega
    · have hxL : x ∈ Ls := by simpa using hb
      exact ⟨Ls, Rs, Wt', _, _, rfl, e7.trans e8, e8 _ _ hl7, e8 _ _ hr7, e8 _ _ hw7, hRe.skip hxL, hRD, rmeas_skip⟩
  · have hW : Wt = [] := by cases Wt with
      | nil => rfl
      | cons a r => cases hem
    subst hW
    exact s_retU (eu_tup (ea_cons (ev_var rfl) (ea_cons (ev_var rfl) ea_nil)) (by simp)) fun t H7 ht e7 h7 => k _ H7 ((e5.trans e6).trans e7) ⟨t, lf, rt, Ls, Rs, rfl, h7, e7 _ _ (e6 _ _ hl5), e7 _ _ (e6 _ _ hr5), hlf0, hrt0, hRe, fun z => (hFe z).1⟩
end
end K49
/-! K49D13 -/
/-! cover, lacking. -/
namespace K49
open PySem L2 Evl
section
variable {P : Program} {w : World} {K : PySem.W.Frag} {mg : Str → Option Value} {base : Heap} {σ : St} {H : Hp} {ta : TE}
def rListD : List V → Hp → VK → Prop := fun xs H Q => ∃ (a : Addr) (kvs : List (Key × V)), xs = [.ref a] ∧ Rd H a (.dK kvs) ∧ ∀ p, H p = none → Q (.ref p) (upd H p (.lst (kvs.map fun kv => kV kv.1)))
theorem el_listD {p : Addr} {kvs : List (Key × V)} (ha : Ev ta σ H (.ref p)) (h : Rd H p (.dK kvs)) : EvL (tCB rListD (tCons ta tNil)) σ H ((kvs.map (·.1)).map kV) := fun H1 e Q q =>
  ha H1 e _ fun H2 e2 => ⟨p, kvs, rfl, ex_rd (e.trans e2) h, fun l hl => q l _ (fresh_back e2 hl) (e2.trans (Ex.new hl)) (by rw [upd_same, List.map_map]; rfl)⟩
theorem eu_two {tb : TE} {xs ys : List V} (h1 : EvL ta σ H xs) (h2 : ∀ p H1, Ex H H1 → H1 p = some (.lst xs) → EvL tb σ H1 ys) : EvP (tTup (tCons ta (tCons tb tNil))) σ H (fun v H2 => ∃ t p q, v = .ref t ∧ H2 t = some (.tup [.ref p, .ref q]) ∧ H2 p = some (.lst xs) ∧ H2 q = some (.lst ys)) := fun H1 e Q q =>
  h1 H1 e _ fun p H2 _ e2 hp => h2 p H2 (e.trans e2) hp H2 (Ex.refl _) _ fun p2 H3 _ e3 hp2 => ⟨sz_of (by simp), fun t ht => q _ _ ((e2.trans e3).trans (Ex.new ht)) ⟨t, p, p2, rfl, upd_same, Ex.new ht _ _ (e3 _ _ hp), Ex.new ht _ _ hp2⟩⟩
theorem sc_cover : FnScope ["rows", "lefts", "rights", "left"] ["rows"] (defScope s_cover) := ⟨rfl, rfl, rfl, by decide +kernel, rfl, by decide +kernel, by decide +kernel⟩
def CovP (H : Hp) (ks : List Key) (row : Key → List Str) : V → Hp → Prop := fun v H2 => ∃ (t l r : Addr) (ow : List (Str × Key)) (fl : List Key) (D : Str → Prop) (L : List Key) (R : List Str), v = .ref t ∧ H2 t = some (.tup [.ref l, .ref r]) ∧ H2 l = some (.lst ((ks.filter fun k => !decide (k ∈ L)).map kV)) ∧ H2 r = some (.lst (R.map V.str)) ∧ Own row ks ow fl D ∧ Reach row ks ow fl L R []
def spCover : Sp := fun vs H Q _ => ∃ (d : Addr) (ks : List Key) (row : Key → List Str) (U : List Str), vs = [.ref d] ∧ RowsU H d ks row ∧ SmallU ks row U ∧ RetP (CovP H ks row) H Q
theorem RowsU.nd {d o : Addr} {ks : List Key} {row : Key → List Str} (h : RowsU H d ks row) (ho : H o = none) : d ≠ o := by
  obtain ⟨_, h1, _⟩ := h.ex
  exact ne_of_none h1 ho
theorem k_cover (T : Tx K mg) : FnOk P w K mg base CX0 43 T.f_cover T.fd_cover ["rows"] spCover := by
  have G_reached := k_reached (P := P) (w := w) (base := base) T
  have G_owners_of := k_owners (P := P) (w := w) (base := base) T
  refine T.d_cover.F.ok sc_cover (fun vs H Q E h => ?_) (fun cdv A outer s H vs Q E hr h => ?_)
  · obtain ⟨d, ks, row, U, rfl, _⟩ := h
    rfl
  obtain ⟨d, ks, row, U, rfl, hR, hS, k⟩ := h
  have hu := hu_of hr
  refine ⟨_, PSs.nox (pss_cons (ps_asg (pe_call G_reached (hr.mono (by decide)) rfl T.d_reached.g T.d_reached.F.kp T.d_reached.b .nil pass0 (pa_cons (pv 0) (pa_cons (pe_call G_owners_of (hr.mono (by decide)) rfl T.d_owners_of.g T.d_owners_of.F.kp T.d_owners_of.b .nil pass0 (pa_cons (pv 0) pa_nil)) pa_nil))) (pg_tup (by rfl) (pgs_cons (pg_name (i := 1) sc_cover.nd rfl (Or.inr rfl)) (pgs_cons (pg_name (i := 2) sc_cover.nd rfl (Or.inl rfl)) pgs_nil))))
    (pss_one (ps_ret (pe_tup (pa_cons (pe_lock (pe_lc (own := [("left", 3)]) (g := gName 3) (by rfl) sc_cover.nd (pi_keys (pv 0)) (blkOk_by (own := [("left", 3)]) (N := ["rows", "lefts", "rights", "left"]) (sc := defScope s_cover) (by decide +kernel)) (fun _ _ _ _ _ => pg_name (i := 3) sc_cover.nd rfl (Or.inl rfl)) (fun _ _ _ _ _ => (pts_one (pt_cmp (pc_dnotin hu (pv 3) (pv 1))))) (fun _ _ _ _ _ => (pv 3)))) (pa_cons (pe_callTy (call_listD rfl) (by rfl) T.B.list (by decide +kernel) (pa_cons (pv 2) pa_nil)) pa_nil)))))), ?_⟩
  refine ⟨_, rfl, _, rfl, ⟨d, ks, row, U, rfl, hR, hS, fun v H1 e1 ⟨o, ow, fl, D, hv, ho0, ho, hO⟩ => ?_⟩⟩
  subst hv
  refine ⟨d, o, ks, row, U, ow, fl, D, rfl, hR.ex' e1, hS, ho, hR.nd ho0, hO, fun v H2 e2 ⟨t, l, r, L, R, hv, ht, hl, hr, hl1, hr1, hRe, hfl⟩ => ?_⟩
  subst hv
  refine ⟨t, _, rfl, st_of ht, rfl, _, _, rfl, _, _, rfl, rfl, ?_⟩
  have e02 := e1.trans e2
  obtain ⟨kvs, h1, h2, h3⟩ := (hR.ex' e02).ex
  have hz : kvs.length ≤ 40000 := by have := hS.s.few; rw [← h2, List.length_map] at this; omega
  obtain ⟨_, g1, _⟩ := (hR.ex' e1).ex
  have hld : l ≠ d := (ne_of_none g1 hl1).symm
  have EL := el_lcKF (te := tVar 3) (tt := tB (tDNotIn (tVar 3) (tVar 1))) (vs := [3]) (j := 3) (iv := 0) (σ := [some (.ref d), some (.ref l), some (.ref r), none]) kvs (fun k => !decide (k ∈ L)) kV rfl h1 hz (fun x => rfl)
    (fun od kk hk H4 e4 => et_is (et_B (ev_dnotin (ev_var rfl) (ev_var rfl) (dget_rd (k := kk) (.inl (e4 _ _ (by rw [upd_ne hld]; exact hl)))))) (by rw [keyD_val])) (fun od kk hk H4 e4 _ => ev_var rfl)
  refine s_retP (eu_two EL fun p H3 e3 hp3 => el_listD (kvs := seenD R) (ev_var rfl) (.inl (e3 _ _ hr))) fun v H3 e3 ⟨q, p, p2, hv, hq, hp, hp2⟩ => ?_
  subst hv
  rw [h2] at hp
  refine k _ _ (e02.trans e3) ⟨q, p, p2, ow, fl, D, L, R, rfl, hq, hp, ?_, hO, hRe⟩
  rw [hp2]
  unfold seenD
  rw [List.map_map, List.map_map]
  rfl
theorem sc_lacking : FnScope ["rows", "lefts"] ["rows"] (defScope s_lacking) := ⟨rfl, rfl, rfl, by decide +kernel, rfl, by decide +kernel, by decide +kernel⟩
def LackP (H : Hp) (ks : List Key) (row : Key → List Str) : V → Hp → Prop := fun v H2 => ∃ (l : Addr) (ow : List (Str × Key)) (fl : List Key) (D : Str → Prop) (L : List Key) (R : List Str), v = .ref l ∧ H2 l = some (.lst (L.map kV)) ∧ Own row ks ow fl D ∧ Reach row ks ow fl L R [] ∧ (fl = [] → L = [])
def spLack : Sp := fun vs H Q _ => ∃ (d : Addr) (ks : List Key) (row : Key → List Str) (U : List Str), vs = [.ref d] ∧ RowsU H d ks row ∧ SmallU ks row U ∧ RetP (LackP H ks row) H Q
theorem k_lacking (T : Tx K mg) : FnOk P w K mg base CX0 43 T.f_lacking T.fd_lacking ["rows"] spLack := by
  have G_reached := k_reached (P := P) (w := w) (base := base) T
  have G_owners_of := k_owners (P := P) (w := w) (base := base) T
  refine T.d_lacking.F.ok sc_lacking (fun vs H Q E h => ?_) (fun cdv A outer s H vs Q E hr h => ?_)
  · obtain ⟨d, ks, row, U, rfl, _⟩ := h
    rfl
  obtain ⟨d, ks, row, U, rfl, hR, hS, k⟩ := h
  have hu := hu_of hr
  refine ⟨_, PSs.nox (pss_cons (ps_set (i := 1) sc_lacking.nd rfl (Or.inl rfl) (pe_ix ix_tup (pe_call G_reached (hr.mono (by decide)) rfl T.d_reached.g T.d_reached.F.kp T.d_reached.b .nil pass0 (pa_cons (pv 0) (pa_cons (pe_call G_owners_of (hr.mono (by decide)) rfl T.d_owners_of.g T.d_owners_of.F.kp T.d_owners_of.b .nil pass0 (pa_cons (pv 0) pa_nil)) pa_nil))) pe_int (fun _ _ => rfl)))
    (pss_one (ps_ret (pe_callTy (call_listD rfl) (by rfl) T.B.list (by decide +kernel) (pa_cons (pv 1) pa_nil))))), ?_⟩
  refine ⟨_, rfl, _, rfl, ⟨d, ks, row, U, rfl, hR, hS, fun v H1 e1 ⟨o, ow, fl, D, hv, ho0, ho, hO⟩ => ?_⟩⟩
  subst hv
  refine ⟨d, o, ks, row, U, ow, fl, D, rfl, hR.ex' e1, hS, ho, hR.nd ho0, hO, fun v H2 e2 ⟨t, l, r, L, R, hv, ht, hl, hr, hl1, hr1, hRe, hfl⟩ => ?_⟩
  subst hv
  refine ⟨t, _, 0, _, rfl, rfl, st_of ht, rfl, ?_⟩
  refine s_retL (el_listD (ev_var rfl) (.inl hl)) fun p H3 hp e3 hp3 => k _ _ ((e1.trans e2).trans e3) ⟨p, ow, fl, D, L, R, rfl, by rw [hp3, keyD_keys], hO, hRe, hfl⟩
end
end K49
/-! K49D14 -/
/-! check_behind, check_order, chains, apart. -/
namespace K49
open PySem L2 Evl
def rowK (row : Str → List Str) : Key → List Str
  | .inr x => row x
  | .inl _ => []
/-- a strict order told by rows -/
structure Ord (ns : List Str) (row : Str → List Str) : Prop where
  nd : ns.Nodup
  few : ns.length ≤ 40
  sub : ∀ a ∈ ns, ∀ b ∈ row a, b ∈ ns
  rnd : ∀ a ∈ ns, (row a).Nodup
  irr : ∀ a ∈ ns, a ∉ row a
  tr : ∀ a ∈ ns, ∀ b ∈ row a, ∀ c ∈ row b, c ∈ row a
  tx : ∀ a ∈ ns, a.cps.all (· < 0x110000) = true
theorem Ord.rfew {ns : List Str} {row : Str → List Str} (o : Ord ns row) : ∀ a ∈ ns, (row a).length ≤ 40 := fun a ha => Nat.le_trans (nodup_le (o.rnd a ha) (o.sub a ha)) o.few
theorem kS_inj {a b : Str} (h : kS a = kS b) : a = b := Sum.inr.inj h
theorem kS_mem {a : Str} {l : List Str} : kS a ∈ l.map kS ↔ a ∈ l := ⟨fun h => by obtain ⟨b, hb, e⟩ := List.mem_map.mp h; rw [← kS_inj e]; exact hb, fun h => List.mem_map.mpr ⟨a, h, rfl⟩⟩
theorem Ord.small {ns : List Str} {row : Str → List Str} (o : Ord ns row) : SmallU (ns.map kS) (rowK row) ns := by
  have mm : ∀ k ∈ ns.map kS, ∃ a ∈ ns, k = kS a := fun k hk => by obtain ⟨a, ha, e⟩ := List.mem_map.mp hk; exact ⟨a, ha, e.symm⟩
  refine ⟨⟨?_, by rw [List.length_map]; exact o.few, fun k hk => ?_, fun x hx => o.tx x (kS_mem.mp hx)⟩, fun k hk r hr => ?_, o.few⟩
  · exact List.Pairwise.map kS (fun a b h e => h (kS_inj e)) o.nd
  · obtain ⟨a, ha, rfl⟩ := mm k hk; exact o.rfew a ha
  · obtain ⟨a, ha, rfl⟩ := mm k hk; exact o.sub a ha r hr
def OrdAt (H : Hp) (d : Addr) (ns : List Str) (row : Str → List Str) : Prop := RowsU H d (ns.map kS) (rowK row)
theorem OrdAt.get {H : Hp} {d : Addr} {ns : List Str} {row : Str → List Str} (h : OrdAt H d ns row) : ∃ kvs : List (Key × V), H d = some (.dK kvs) ∧ kvs.map (·.1) = ns.map kS ∧ ∀ a ∈ ns, ∃ r : Addr, valV kvs (kS a) = some (.ref r) ∧ H r = some (.lst ((row a).map V.str)) := by
  obtain ⟨kvs, h1, h2, h3⟩ := h.ex
  exact ⟨kvs, h1, h2, fun a ha => h3 (kS a) (kS_mem.mpr ha)⟩
section
variable {P : Program} {w : World} {K : PySem.W.Frag} {mg : Str → Option Value} {base : Heap}
theorem sc_check_behind : FnScope ["order", "first", "behind", "second", "third"] ["order", "first"] (defScope s_check_behind) := ⟨rfl, rfl, rfl, by decide +kernel, rfl, by decide +kernel, by decide +kernel⟩
def spCBeh : Sp := fun vs H Q _ => ∃ (d : Addr) (ns : List Str) (row : Str → List Str) (a : Str), vs = [.ref d, .str a] ∧ (∃ kvs : List (Key × V), Rd H d (.dK kvs) ∧ ∀ a ∈ ns, ∃ r : Addr, valV kvs (kS a) = some (.ref r) ∧ H r = some (.lst ((row a).map V.str))) ∧ Ord ns row ∧ a ∈ ns ∧ RetV .non H Q
theorem k_check_behind (T : Tx K mg) : FnOk P w K mg base CX0 1 T.f_check_behind T.fd_check_behind ["order", "first"] spCBeh := by
  refine T.d_check_behind.F.ok sc_check_behind (fun vs H Q E h => ?_) (fun cdv A outer s H vs Q E hr h => ?_)
  · obtain ⟨d, ns, row, a, rfl, _⟩ := h
    rfl
  obtain ⟨d, ns, row, a, rfl, ⟨kvs, hd, hrow⟩, O, ha, k⟩ := h
  have hu := hu_of hr
  refine ⟨_, PSs.nox (pss_cons (ps_set (i := 2) sc_check_behind.nd rfl (Or.inl rfl) pe_dnewK)
    (pss_cons (ps_for PassesOwn.never rfl (pi_list (pe_dget hu (pv 0) (pv 1) (fun _ _ => rfl))) (pg_name (i := 3) sc_check_behind.nd rfl (Or.inl rfl))
      (pss_one (ps_dput hu (pv 2) (pv 3) pe_bl rfl)))
    (pss_one (ps_lock (ps_for PassesOwn.never rfl (pi_keys (pv 2)) (pg_name (i := 3) sc_check_behind.nd rfl (Or.inl rfl))
      (pss_one (ps_for PassesOwn.never rfl (pi_list (pe_dget hu (pv 0) (pv 3) (fun _ _ => rfl))) (pg_name (i := 4) sc_check_behind.nd rfl (Or.inl rfl))
        (pss_one (ps_if (pt_cmp (pc_dnotin hu (pv 4) (pv 2)))
          (pss_one ps_never)
          pss_nil))))))))), ?_⟩
  refine fun b hb => ?_
  obtain ⟨r, r1, r2⟩ := hrow a ha
  have e0 := Ex.new (o := .dK []) hb
  have hdb : ∀ {o : HO}, H d = some o → d ≠ b := fun h => ne_of_none h hb
  refine q_forLn (ev_dget (ev_var rfl) (ev_var rfl) (v := .ref r) (by rw [← r1]; exact dget_rd (k := kS a) (ex_rd e0 hd))) (sq_of (e0 _ _ r2)) (fun i σ' H' => (∃ v, σ' = [some (.ref d), some (.str a), some (.ref b), v, none]) ∧ Ex H H' ∧ H' b = some (.dK (seenD ((row a).take i))))
    (fun H1 e1 => ⟨⟨_, rfl⟩, e0.trans e1, e1 _ _ upd_same⟩) (fun i σ' H' _ z => sq_of (z.2.1 _ _ r2)) ?_ ?_
  · rintro i x σ' H' hx ⟨⟨v, rfl⟩, e, hbH⟩
    rw [List.getElem?_map] at hx
    obtain ⟨n, hn, rfl⟩ := Option.map_eq_some_iff.mp hx
    have tk : (row a).take (i + 1) = (row a).take i ++ [n] := by rw [List.take_add_one, hn]; rfl
    have newn : n ∉ (row a).take i := fun q => by
      have hd := O.rnd a ha
      have h4 := List.take_append_drop (i + 1) (row a)
      rw [tk] at h4
      rw [← h4, List.append_assoc] at hd
      exact (List.nodup_append.mp hd).2.2 _ q n (by simp) rfl
    refine s_dput (k := kS n) ev_c (ev_var rfl) (ev_var rfl) hbH (by unfold seenD; have := O.rfew a ha; simp; omega) fun H7 e7 => ⟨⟨_, rfl⟩, Ex.mut (e.trans e7) hb, ?_⟩
    rw [upd_same, seenD_put newn, tk]
  rintro σ' H1 ⟨⟨v, rfl⟩, e1, hb1⟩
  rw [List.length_map, List.take_length] at hb1
  refine s_forK (iv := 2) rfl hb1 (fun od i σ' H' => (∃ v v', σ' = [some (.ref d), some (.str a), some (.ref b), v, v']) ∧ Ex (upd H1 b (.frz od (.dK (seenD (row a))))) H') (fun od => ⟨⟨_, _, rfl⟩, Ex.refl _⟩) (fun od i σ' H' _ z => z.2 _ _ upd_same) ?_ ?_
  · rintro od i kk vv σ' H' hi ⟨⟨v, v', rfl⟩, e⟩
    unfold seenD at hi
    rw [List.getElem?_map] at hi
    obtain ⟨n, hn, ep⟩ := Option.map_eq_some_iff.mp hi
    obtain rfl : kS n = kk := congrArg Prod.fst ep
    have hna : n ∈ row a := List.mem_of_getElem? hn
    obtain ⟨r', q1, q2⟩ := hrow n (O.sub a ha n hna)
    have e' : ∀ c u, H c = some u → H' c = some u := fun c u hc => e _ _ (by rw [upd_ne (ne_of_none hc hb)]; exact e1 _ _ hc)
    have hd' : Rd H' d (.dK kvs) := by
      rcases hd with h | ⟨ob, h⟩
      · exact .inl (e' _ _ h)
      · exact .inr ⟨ob, e' _ _ h⟩
    refine s_forLn (ev_dget (ev_var rfl) (ev_var rfl) (v := .ref r') (by rw [← q1]; exact dget_rd hd')) (sq_of (e' _ _ q2)) (fun i σ'' H'' => (∃ v', σ'' = [some (.ref d), some (.str a), some (.ref b), some (.str n), v']) ∧ Ex H' H'') (fun H2 e2 => ⟨⟨_, rfl⟩, e2⟩) (fun i σ' H'' _ z => sq_of (z.2 _ _ (e' _ _ q2))) ?_ ?_
    · rintro j x σ'' H'' hx ⟨⟨v', rfl⟩, e2⟩
      rw [List.getElem?_map] at hx
      obtain ⟨m, hm, rfl⟩ := Option.map_eq_some_iff.mp hx
      have hma := O.tr a ha n hna m (List.mem_of_getElem? hm)
      refine s_when (b := false) (et_is (et_B (ev_dnotin (ev_var rfl) (ev_var rfl) (dget_rd (k := kS m) (.inr ⟨od, e2 _ _ (e _ _ upd_same)⟩)))) (by rw [seenD_val, decide_eq_true hma]; rfl)) (fun z => by cases z) (fun _ H3 e3 => ⟨⟨_, rfl⟩, e2.trans e3⟩)
    · rintro σ'' H'' ⟨⟨v', rfl⟩, e2⟩
      exact ⟨⟨_, _, rfl⟩, e.trans e2⟩
  · rintro od σ' H' ⟨⟨v, v', rfl⟩, e⟩
    exact k _ (e1.trans (ex_unlock hb1 e))
theorem sc_check_order : FnScope ["order", "name", "other"] ["order"] (defScope s_check_order) := ⟨rfl, rfl, rfl, by decide +kernel, rfl, by decide +kernel, by decide +kernel⟩
def spCOrd : Sp := fun vs H Q _ => ∃ (d : Addr) (ns : List Str) (row : Str → List Str), vs = [.ref d] ∧ OrdAt H d ns row ∧ Ord ns row ∧ RetV .non H Q
theorem k_check_order (T : Tx K mg) : FnOk P w K mg base CX0 2 T.f_check_order T.fd_check_order ["order"] spCOrd := by
  have G_check_rows := k_check_rows (P := P) (w := w) (base := base) T
  have G_check_behind := k_check_behind (P := P) (w := w) (base := base) T
  refine T.d_check_order.F.ok sc_check_order (fun vs H Q E h => ?_) (fun cdv A outer s H vs Q E hr h => ?_)
  · obtain ⟨d, ns, row, rfl, _⟩ := h
    rfl
  obtain ⟨d, ns, row, rfl, hO, O, k⟩ := h
  have hu := hu_of hr
  refine ⟨_, PSs.nox (pss_cons (ps_expr (pe_call G_check_rows (hr.mono (by decide)) rfl T.d_check_rows.g T.d_check_rows.F.kp T.d_check_rows.b .nil pass0 (pa_cons (pv 0) pa_nil)))
    (pss_cons (ps_lock (ps_for PassesOwn.never rfl (pi_keys (pv 0)) (pg_name (i := 1) sc_check_order.nd rfl (Or.inl rfl))
      (pss_one (ps_for PassesOwn.never rfl (pi_list (pe_dget hu (pv 0) (pv 1) (fun _ _ => rfl))) (pg_name (i := 2) sc_check_order.nd rfl (Or.inl rfl))
        (pss_one (ps_if (pt_cmp (pc_dnotin hu (pv 2) (pv 0)))
          (pss_one ps_never)
          pss_nil))))))
    (pss_cons (ps_lock (ps_for PassesOwn.never rfl (pi_keys (pv 0)) (pg_name (i := 1) sc_check_order.nd rfl (Or.inl rfl))
      (pss_one (ps_if (pt_cmpR op_in_seq (pv 1) (pe_dget hu (pv 0) (pv 1) (fun _ _ => rfl)) (by rfl))
        (pss_one ps_never)
        pss_nil))))
    (pss_one (ps_lock (ps_for PassesOwn.never rfl (pi_keys (pv 0)) (pg_name (i := 1) sc_check_order.nd rfl (Or.inl rfl))
      (pss_one (ps_expr (pe_call G_check_behind (hr.mono (by decide)) rfl T.d_check_behind.g T.d_check_behind.F.kp T.d_check_behind.b .nil pass0 (pa_cons (pv 0) (pa_cons (pv 1) pa_nil))))))))))), ?_⟩
  refine q_drop (v := .non) (ev_call (ea_cons (ev_var rfl) ea_nil) fun H1 e Q1 q1 E1 => ⟨d, _, _, rfl, hO.ex' e, O.small.s, fun H2 e2 => q1 H2 e2⟩) fun H1 e1 => ?_
  obtain ⟨kvs, h1, h2, h3⟩ := OrdAt.get (hO.ex' e1)
  have key : ∀ i k v, kvs[i]? = some (k, v) → ∃ n ∈ ns, k = kS n := fun i k v hi => by
    have : k ∈ kvs.map (·.1) := List.mem_map.mpr ⟨_, List.mem_of_getElem? hi, rfl⟩
    rw [h2] at this
    obtain ⟨n, hn, e⟩ := List.mem_map.mp this
    exact ⟨n, hn, e.symm⟩
  have isk : ∀ n ∈ ns, (valV kvs (kS n)).isSome = true := fun n hn => by obtain ⟨r, e, _⟩ := h3 n hn; rw [e]; rfl
  refine q_forK (iv := 0) rfl h1 (fun od i σ' H' => (∃ v v', σ' = [some (.ref d), v, v']) ∧ Ex (upd H1 d (.frz od (.dK kvs))) H') (fun od => ⟨⟨_, _, rfl⟩, Ex.refl _⟩) (fun od i σ' H' _ z => z.2 _ _ upd_same) ?_ ?_
  · rintro od i kk vv σ' H' hi ⟨⟨v, v', rfl⟩, e⟩
    obtain ⟨n, hn, rfl⟩ := key i kk vv hi
    obtain ⟨r, q1, q2⟩ := h3 n hn
    have hd' : H' d = some (.frz od (.dK kvs)) := e _ _ upd_same
    have hr' : H' r = some (.lst ((row n).map V.str)) := e _ _ (by rw [upd_ne (ne_of q2 h1 (by intro z; cases z))]; exact q2)
    refine s_forLn (ev_dget (ev_var rfl) (ev_var rfl) (v := .ref r) (by rw [← q1]; exact dget_rd (.inr ⟨od, hd'⟩))) (sq_of hr') (fun i σ'' H'' => (∃ v', σ'' = [some (.ref d), some (.str n), v']) ∧ Ex H' H'') (fun H2 e2 => ⟨⟨_, rfl⟩, e2⟩) (fun i σ' H'' _ z => sq_of (z.2 _ _ hr')) ?_ ?_
    · rintro j x σ'' H'' hx ⟨⟨v', rfl⟩, e2⟩
      rw [List.getElem?_map] at hx
      obtain ⟨m, hm, rfl⟩ := Option.map_eq_some_iff.mp hx
      have hma := O.sub n hn m (List.mem_of_getElem? hm)
      refine s_when (b := false) (et_is (et_B (ev_dnotin (ev_var rfl) (ev_var rfl) (dget_rd (k := kS m) (.inr ⟨od, e2 _ _ hd'⟩)))) (by rw [isk m hma]; rfl)) (fun z => by cases z) (fun _ H3 e3 => ⟨⟨_, rfl⟩, e2.trans e3⟩)
    · rintro σ'' H'' ⟨⟨v', rfl⟩, e2⟩
      exact ⟨⟨_, _, rfl⟩, e.trans e2⟩
  rintro od σ' H' ⟨⟨v, v', rfl⟩, e⟩
  have e2 := ex_unlock h1 e
  generalize hH2 : upd H' d (.dK kvs) = H2 at e2 ⊢
  refine q_forK (iv := 0) rfl (e2 _ _ h1) (fun od i σ' H' => (∃ v v', σ' = [some (.ref d), v, v']) ∧ Ex (upd H2 d (.frz od (.dK kvs))) H') (fun od => ⟨⟨_, _, rfl⟩, Ex.refl _⟩) (fun od i σ' H' _ z => z.2 _ _ upd_same) ?_ ?_
  · rintro od i kk vv σ' H' hi ⟨⟨v, v', rfl⟩, e⟩
    obtain ⟨n, hn, rfl⟩ := key i kk vv hi
    obtain ⟨r, q1, q2⟩ := h3 n hn
    have hd' : H' d = some (.frz od (.dK kvs)) := e _ _ upd_same
    have hr' : H' r = some (.lst ((row n).map V.str)) := e _ _ (by rw [upd_ne (ne_of q2 h1 (by intro z; cases z))]; exact e2 _ _ q2)
    refine s_when (b := false) (et_is (et_test (ev_op (ev_var rfl) (ev_dget (ev_var rfl) (ev_var rfl) (v := .ref r) (by rw [← q1]; exact dget_rd (.inr ⟨od, hd'⟩))) (rv_isL (sq_of hr') rfl (flat_strs _)))) (by show inV (.str n) _ = false; rw [inV_str]; exact decide_eq_false (O.irr n hn))) (fun z => by cases z) (fun _ H3 e3 => ⟨⟨_, _, rfl⟩, e.trans e3⟩)
  rintro od σ' H' ⟨⟨v, v', rfl⟩, e⟩
  have e3 := e2.trans (ex_unlock (e2 _ _ h1) e)
  generalize hH3 : upd H' d (.dK kvs) = H3 at e3 ⊢
  refine s_forK (iv := 0) rfl (e3 _ _ h1) (fun od i σ' H' => (∃ v v', σ' = [some (.ref d), v, v']) ∧ Ex (upd H3 d (.frz od (.dK kvs))) H') (fun od => ⟨⟨_, _, rfl⟩, Ex.refl _⟩) (fun od i σ' H' _ z => z.2 _ _ upd_same) ?_ ?_
  · rintro od i kk vv σ' H' hi ⟨⟨v, v', rfl⟩, e⟩
    obtain ⟨n, hn, rfl⟩ := key i kk vv hi
    refine s_drop (v := .non) (ev_call (ea_cons (ev_var rfl) (ea_cons (ev_var rfl) ea_nil)) fun H4 e4 Q1 q1 E1 => ⟨d, ns, row, n, rfl, ⟨kvs, .inr ⟨od, e4 _ _ (e _ _ upd_same)⟩, fun a ha => ?_⟩, O, hn, fun H2 e2 => q1 H2 e2⟩) fun H4 e4 => ⟨⟨_, _, rfl⟩, e.trans e4⟩
    obtain ⟨r, q1, q2⟩ := h3 a ha
    exact ⟨r, q1, e4 _ _ (e _ _ (by rw [upd_ne (ne_of q2 h1 (by intro z; cases z))]; exact e3 _ _ q2))⟩
  · rintro od σ' H' ⟨⟨v, v', rfl⟩, e⟩
    exact k _ ((e1.trans e3).trans (ex_unlock (e3 _ _ h1) e))
end
end K49
/-! K49Lam -/
/-! sorted(d, key=lambda ..): the lambda captures; its calls are walked. -/
namespace K49
open PySem PySem.W PySem.Calls PyProof.Rows
section
open L2
abbrev keyD3 (k1 k2 : Str → Int) (x : Str) : PyData := .tuple [.int (k1 x), .int (k2 x), .str x]
theorem alike3 (k1 k2 : Str → Int) (x y : Str) : alike (keyD3 k1 k2 x) (keyD3 k1 k2 y) = true := by
  simp only [keyD3, PySem.W.alike, PySem.W.alikeAll, Bool.and_self]
theorem depth3 (k1 k2 : Str → Int) (x : Str) : (keyD3 k1 k2 x).depth ≤ 8 := by
  unfold keyD3
  unfold PyData.depth
  unfold PyData.depthAll
  unfold PyData.depthAll
  unfold PyData.depthAll
  unfold PyData.depthAll
  unfold PyData.depth
  omega
theorem each_map {α β γ : Type} {R : α → γ → Prop} (f : β → γ) : ∀ {as : List α} {bs : List β}, EachIs (fun a b => R a (f b)) as bs → EachIs R as (bs.map f)
  | _, _, .nil => .nil
  | _, _, .cons h t => .cons h (each_map f t)
theorem each_vals : ∀ {ks : List Str} {vs : List Value}, Vals (ks.map V.str) vs → EachIs (fun v x => L2.RelV (.str x) v) vs ks
  | [], _, .nil => .nil
  | _ :: _, _, .cons r t => .cons r (each_vals t)
theorem vals_each : ∀ {ks : List Str} {vs : List Value}, EachIs (fun v x => L2.RelV (.str x) v) vs ks → Vals (ks.map V.str) vs
  | _, _, .nil => .nil
  | _, _, .cons r t => .cons r (vals_each t)
theorem reads3 {P : Program} {w : World} {H : Hp} {h : Heap} {t : Addr} {i j : Int} {x : Str} (ok : HOk P w H h) (e : H t = some (.tup [.int i, .int j, .str x])) : Reads h (.ref t) (.tuple [.int i, .int j, .str x]) [] := by
  have q : ObjOk P w H h t (.tup [.int i, .int j, .str x]) := ok t _ e
  obtain ⟨_, its, rv, o, h1, h2, n, h4⟩ := q
  cases rv with
  | cons r1 rv =>
    cases rv with
    | cons r2 rv =>
      cases rv with
      | cons r3 rv =>
        cases rv
        obtain ⟨t1, rfl⟩ := r1
        obtain ⟨t2, rfl⟩ := r2
        obtain ⟨t3, rfl⟩ := r3
        exact .tuple h1 h2 h4 (.cons (.int i t1) (.cons (.int j t2) (.cons (.str x t3) .nil)))
variable {X : Cx} {pins : List (Addr × Obj)} {σ : L2.St} {H2 : Hp} {s2 : Shared}
theorem inv_nofr (I : Inv X pins σ H2 s2) {b : Addr} (hb : s2.heap.objs.size ≤ b) : b ∉ frs X.stack := fun z => by
  rcases List.mem_cons.mp (I.stkSub _ z) with e | e
  · have h1 := I.lt
    rw [← e] at h1
    exact Nat.lt_irrefl _ (Nat.lt_of_lt_of_le h1 hb)
  · exact I.nofs hb e
/-- what lies above may be turned -/
theorem inv_turnedUp {t' : Nat} {h' : Heap} {it : Addr} {H : Hp} {s : Shared} (I2 : Inv X pins σ H2 s2) (hb : s2.heap.objs.size ≤ it) (I : Inv X pins σ H s) (k : ∀ b o, b ≠ it → s.heap.get? b = some o → h'.get? b = some o) (hn : H it = none) : Inv X pins σ H { s with heap := h', toks := t' } :=
  I.turned k hn (fun z => Nat.lt_irrefl _ (Nat.lt_of_lt_of_le (z ▸ I2.lt) hb)) (.inr (Nat.le_trans I2.sz hb))
    (fun x c e z => by obtain ⟨v, o, ho, _⟩ := I2.cell x c e; exact Nat.lt_irrefl _ (Nat.lt_of_lt_of_le (Heap.lt_size (z ▸ ho)) hb))
    (fun p hp z => Nat.lt_irrefl _ (Nat.lt_of_lt_of_le (Heap.lt_size (z ▸ (I2.pin p hp).1)) hb))
/-- what a key's call gives -/
def KeyH (X : Cx) (pins : List (Addr × Obj)) (σ : L2.St) (k1 k2 : Str → Int) (x : Str) (H1 : Hp) (s1 : Shared) (v : Value) (s3 : Shared) : Prop :=
  ∃ H3 t, Inv X pins σ H3 s3 ∧ (∀ b o, H1 b = some o → H3 b = some o) ∧ v = .ref t ∧ H3 t = some (.tup [.int (k1 x), .int (k2 x), .str x]) ∧ ∀ b o, s1.heap.get? b = some o → H1 b = none → b ∉ frs X.stack → s3.heap.get? b = some o ∧ H3 b = none
def Calls3 (X : Cx) (pins : List (Addr × Obj)) (σ : L2.St) (H2 : Hp) (f : Addr) (fo : Obj) (k1 k2 : Str → Int) (ks : List Str) : Prop :=
  ∀ x ∈ ks, ∀ (s1 : Shared) (H1 : Hp), Inv X pins σ H1 s1 → (∀ b o, H2 b = some o → H1 b = some o) → s1.heap.get? f = some fo → H1 f = none → ∀ u, L2.RelV (.str x) u → wpAny (model X.prog X.w) X.A.in1.in1 (call (.ref f) [u]) (KeyH X pins σ k1 k2 x H1 s1) (fun _ _ => False) s1
theorem restJ {f : Addr} {fo : Obj} {k1 k2 : Str → Int} {ks : List Str} {vs : List Value} {a kS : Addr} {e1 : Nat} {s : Shared} {H : Hp} {E : Value → Shared → Prop} {P : PySem.Fin → Shared → Prop} (I2 : Inv X pins σ H2 s2) (hu : X.A.units + 64 < cLine)
    (I : Inv X pins σ H s) (eH : ∀ b o, H2 b = some o → H b = some o) (hS : s2.heap.objs.size ≤ kS) (hA : s2.heap.objs.size ≤ a) (nS : H kS = none) (nA : H a = none)
    (nk : s.heap.get? kS = some (seqObj "list" #[] 0)) (na : s.heap.get? a = some (seqObj "list" #[] e1)) (hka : kS ≠ a)
    (hv : Vals (ks.map V.str) vs) (hZ : vs.length ≤ sizeLine) (hf : Calls3 X pins σ H2 f fo k1 k2 ks) (hfo : s.heap.get? f = some fo) (hfn : H f = none) (hfr : f ∉ frs X.stack) (hfk : f ≠ kS)
    (h : ∀ s' H' (out : List Value) (ys : List Str) c, ys.Perm ks → Inv X pins σ H' s' → (∀ b o, H2 b = some o → H' b = some o) → H' a = none → s'.heap.get? a = some (seqObj "list" (List.toArray out) c) → Vals (ys.map V.str) out → P (.done (.ret .none)) s') :
    wpAny (model X.prog X.w) X.A.in1.in1 (ksk_rest a (.ref f) false vs.toArray e1 (.ref kS)) P E s := by
  have hvl : ks.length = vs.length := by have := hv.length; rw [List.length_map] at this; exact this
  unfold ksk_rest
  refine wpAny_bind (wpAny_rule ?_)
  first
    | rw [List.forIn_toArray]
    | (rw [← Array.forIn_toList]; simp only [List.toList_toArray])
    | rw [← Array.forIn_toList]
  refine wpAny_bind (ksk_fold (fun i s' => ∃ kA e Hi, Inv X pins σ Hi s' ∧ (∀ b o, H2 b = some o → Hi b = some o) ∧ Hi kS = none ∧ Hi a = none ∧ s'.heap.get? f = some fo ∧ Hi f = none ∧ s'.heap.get? kS = some (seqObj "list" kA e) ∧ s'.heap.get? a = some (seqObj "list" #[] e1) ∧
      EachIs (fun v x => ∃ t, v = .ref t ∧ Hi t = some (.tup [.int (k1 x), .int (k2 x), .str x])) kA.toList (ks.take i)) vs 0 s
    ⟨#[], 0, H, I, eH, nS, nA, hfo, hfn, nk, na, by rw [List.take_zero]; exact EachIs.nil⟩ ?step ?done)
  case step =>
    rintro j x s' hx ⟨kA, e, Hi, I1, eI, nS1, nA1, f1, f2, nk', na', hk⟩
    simp only [Nat.zero_add] at hk ⊢
    have hj : j < vs.length := (List.getElem?_eq_some_iff.mp hx).1
    obtain ⟨k, hkj⟩ : ∃ k, ks[j]? = some k := ⟨_, List.getElem?_eq_getElem (by omega)⟩
    obtain ⟨u, hu', ru⟩ := hv.get (x := .str k) (i := j) (by rw [List.getElem?_map, hkj]; rfl)
    rw [hx] at hu'
    obtain rfl := Option.some.inj hu'
    have hz : kA.size ≤ vs.length := by
      have h1 := hk.length
      rw [Array.length_toList, List.length_take] at h1
      omega
    refine wpAny_bind (wpAny_attempt (wpAny_mono (hf k (List.mem_of_getElem? hkj) s' Hi I1 eI f1 f2 x ru) (fun v s'' he => ?_) fun _ _ hF => hF.elim))
    obtain ⟨H3, t, I3, eI3, rfl, h3, kp⟩ := he
    obtain ⟨q1, nS3⟩ := kp kS _ nk' nS1 (inv_nofr I2 hS)
    obtain ⟨q3, f3⟩ := kp f _ f1 f2 hfr
    obtain ⟨q2, nA3⟩ := kp a _ na' nA1 (inv_nofr I2 hA)
    obtain ⟨g, gg, dd, tk2, os2⟩ := s''
    have s1 := Heap.SameBut.update g kS (Obj.mapSeq (·.push (Value.ref t)))
    obtain ⟨c2, hc2⟩ : ∃ c2, (g.update kS (Obj.mapSeq (·.push (Value.ref t)))).get? kS = some (seqObj "list" (kA.push (Value.ref t)) c2) := ⟨_, get?_update_seq q1 (·.push (Value.ref t))⟩
    have ek : ks.take (j + 1) = ks.take j ++ [k] := by rw [List.take_add_one, hkj]; simp
    have ea : (kA.push (Value.ref t)).toList = kA.toList ++ [Value.ref t] := by simp
    refine wpAny_bind (listUpdate_at (s := ⟨g, gg, dd, tk2, os2⟩) q1 rfl ?_ (Nat.le_trans hz hZ) (Nat.le_trans (Nat.le_of_eq (Array.size_push ..)) (Nat.succ_le_succ (Nat.le_trans hz hZ))))
    refine wpAny_pure ⟨rfl, kA.push (.ref t), c2, H3, inv_turnedUp I2 (s := ⟨g, gg, dd, tk2, os2⟩) hS I3 (fun b o hb e => (s1.2 b hb).trans e) nS3, fun b o q => eI3 b o (eI b o q), nS3, nA3, (s1.2 f hfk).trans q3, f3, hc2, (s1.2 a hka.symm).trans q2, ?_⟩
    rw [ea, ek]
    refine each_snoc (R := fun (v : Value) (x : Str) => ∃ t, v = .ref t ∧ H3 t = some (.tup [.int (k1 x), .int (k2 x), .str x])) ⟨t, rfl, h3⟩ ?_
    exact hk.mono fun u d ⟨t, e1, e2⟩ => ⟨t, e1, eI3 _ _ e2⟩
  case done =>
    rintro ⟨h', gg, dd, tk, os2⟩ ⟨kA, e, Hi, I1, eI, nS1, nA1, f1, f2, nk', na', hk⟩
    have e3 : ks.take (0 + vs.length) = ks := List.take_of_length_le (by omega)
    rw [e3] at hk
    have hk' : EachIs (fun v k => ∃ as, Reads h' v k as) kA.toList (ks.map (keyD3 k1 k2)) := each_map (keyD3 k1 k2) (hk.mono fun v x ⟨t, e1, e2⟩ => by
        subst e1
        exact ⟨[], reads3 I1.hok e2⟩)
    have hsz : kA.size = vs.length := by
      have h1 := hk.length
      rw [Array.length_toList] at h1
      omega
    refine wpAny_bind (listItems_at nk' rfl ?_)
    obtain ⟨G, g1, g2⟩ := restrict h' fun b => decide (b ≠ kS)
    have gk : ∀ b, b ≠ kS → G.get? b = h'.get? b := fun b hb => g1 b (decide_eq_true hb)
    have hal : AllAlike (ks.map (keyD3 k1 k2)) := fun d hd d' hd' => by
      obtain ⟨x, _, rfl⟩ := List.mem_map.mp hd
      obtain ⟨y, _, rfl⟩ := List.mem_map.mp hd'
      exact alike3 k1 k2 x y
    refine keyH_end (κ := dataKind h' (ks.map (keyD3 k1 k2))) (h₁ := G) (s := ⟨h', gg, dd, tk, os2⟩) (fun b o hb e => ?_) (g2 kS (by simp)) nk' na' hka (SortsAt.data (s := ⟨h', gg, dd, tk, os2⟩) hk' hal (.inl fun d hd => ?_) fun d hd => ?_) hsz hZ fun h3 tk3 c k3 n3 => ?_
    · by_cases hbk : b = kS
      · rw [hbk, g2 kS (by simp)] at e; cases e
      · exact (gk b hbk).symm.trans e
    · obtain ⟨x, _, rfl⟩ := List.mem_map.mp hd
      exact ⟨_, _, rfl⟩
    · obtain ⟨x, _, rfl⟩ := List.mem_map.mp hd
      have := depth3 k1 k2 x
      show X.A.units + 1 + 1 + _ < _
      omega
    · have ko : KeyedOut false (ks.map (keyD3 k1 k2)) vs (sortVals (dataKind h' (ks.map (keyD3 k1 k2))) false kA.toList vs) := ⟨h', kA.toList, hal, rfl, hk'⟩
      have hvE : EachIs (fun v x => L2.RelV (.str x) v) vs ks := each_vals hv
      have out := keyedOut_each (keyD3 k1 k2) ko hvE
      have I4 : Inv X pins σ Hi ⟨h3, gg, dd, tk3, os2⟩ := by
        have I5 : Inv X pins σ Hi ⟨G, gg, dd, tk, os2⟩ := inv_turnedUp I2 (s := ⟨h', gg, dd, tk, os2⟩) (t' := tk) (h' := G) hS I1 (fun b o hb e => (gk b hb).trans e) nS1
        exact inv_turnedUp I2 (s := ⟨G, gg, dd, tk, os2⟩) (t' := tk3) (h' := h3) hA I5 (fun b o hb e => k3 b o hb e) nA1
      exact h ⟨h3, gg, dd, tk3, os2⟩ Hi _ _ c (List.mergeSort_perm ks (dataLe false (keyD3 k1 k2))) I4 eI nA1 n3 (vals_each out)
open LamX NdefX in
theorem lam_run {P : Program} {w : World} {K : PySem.W.Frag} {mg : Str → Option Value} {base : Heap} {N ps fr : List Str} {F : NF} {f : Addr} {A : Around} {outer : List Env} {s : Shared} {H : Hp} {us : List Value} {vs : List V} {ws : List (Option V)} {params : Arguments} {body : Expr} {pm ctv : Value} {k : Nat} {tb : TE} {Q : VK}
    (S : NScope N ps fr F.scope) (hr : Room (k + 1) A) (e0 : Env0 P w K mg base A outer s H) (of1 : s.heap.get? f = some (kla_obj F.name F.qual params body F.scope F.cl pm F.c ctv)) (hc : H F.c = some (CodeO F.c F.qual)) (C : CellsAt F.cl fr ws s.heap H) (r : Vals vs us) (hl : vs.length = ps.length)
    (hbind : bindArgs (kla_fn F.name F.qual params body F.scope F.cl pm (.ref F.c) ctv) ⟨us, []⟩ = pure (ps.zip us))
    (hbody : Room k (A.deeper (envF F f s.heap.objs.size)) → PE (ncx C8.CX0 P w K mg base N F f A outer s H C8.E0) body tb) (ht : tb (startF N vs ws) H Q) :
    codeAny (model P w) A (.call (.ref f) ⟨us, []⟩) (CR C8.CX0 outer P w H s Q C8.E0) s := by
  have lim : s.heap.NoLimit := e0.mod.nolimit.keeps fun b o e => (e0.bs b o e).1
  refine kla_callFunE hr.depth of1 rfl S.co S.gen rfl (codeO_at e0.hok hc) ?_
  rw [hbind]
  refine wpAny_pure (wpAny_newFunctionEnv S.nocell (fun ⟨n, _⟩ hy => S.par n (List.of_mem_zip hy).1) (fun h₁ hns hsb => ⟨lim.fresh _ hsb, ?_⟩) S.kind)
  show codeAny _ _ (.expr body (envF F f s.heap.objs.size)) _ _
  have kp : ∀ b o, s.heap.get? b = some o → h₁.get? b = some o := fun b o e => hsb.extBut b o (Nat.ne_of_lt (Heap.lt_size e)) (Heap.get?_push_of_some _ e)
  have I : Inv (ncx C8.CX0 P w K mg base N F f A outer s H C8.E0) [] (startF N vs ws) H { s with heap := h₁, toks := s.toks + (ps.zip us).length } := inv_startN S hr.hd e0 hl r C hns kp
  refine kla_codeExpr (wpAny_mono ((hbody (hr.deeper _)).run [] _ _ H Q I ht) (fun v s' hq => ?_) fun e s' hq => hq)
  obtain ⟨w', H', J', rv, q⟩ := hq
  exact ⟨w', H', J'.os, J'.bare, J'.base, J'.hok, rv, q⟩
open LamX NdefX in
theorem calls3 {f : Addr} {F : NF} {params : Arguments} {body : Expr} {pm ctv : Value} {k1 k2 : Str → Int} {ks : List Str} {N fr : List Str} {js : List Nat} {p : Str} {k : Nat} {tb : TE} (S : NScope N [p] fr F.scope) (hr : Room (k + 3) X.A) (hc : H2 F.c = some (CodeO F.c F.qual)) (cp : Caps X F.cl fr js)
    (hbind : ∀ u, bindArgs (kla_fn F.name F.qual params body F.scope F.cl pm (.ref F.c) ctv) ⟨[u], []⟩ = pure ([p].zip [u]))
    (hbody : ∀ (A : Around) (outer : List Env) (s : Shared) (H : Hp), Room k (A.deeper (envF F f s.heap.objs.size)) → PE (ncx C8.CX0 X.prog X.w X.K X.mg X.base N F f A outer s H C8.E0) body tb)
    (ht : ∀ x ∈ ks, ∀ H1, (∀ b o, H2 b = some o → H1 b = some o) → tb (startF N [.str x] (js.map (slotAt σ))) H1 fun v H3 => ∃ t, v = .ref t ∧ (∀ b o, H1 b = some o → H3 b = some o) ∧ H3 t = some (.tup [.int (k1 x), .int (k2 x), .str x])) :
    Calls3 X pins σ H2 f (kla_obj F.name F.qual params body F.scope F.cl pm F.c ctv) k1 k2 ks := by
  intro x hx s1 H1 I1 e1 hfo hfn u ru
  have e0 := I1.env0.in1.in1
  have rc := lam_run (us := [u]) (vs := [.str x]) S (hr.in1.in1 : Room (k + 1) _) e0 hfo (e1 _ _ hc) (cells_of I1 cp) (.cons ru .nil) rfl (hbind u) (hbody _ _ s1 H1) (ht x hx H1 e1)
  refine wpAny_call (codeAny_mono rc fun r s' hq => ?_)
  cases r with
  | error e => exact (show False from hq).elim
  | ok fl =>
    cases fl with
    | ret v =>
      obtain ⟨v', H3, os, bare, un, hok, rv, t, rfl, eH, h3⟩ := hq
      obtain rfl : v = Value.ref t := rv
      obtain ⟨hh, g, d, tk, os'⟩ := s'
      obtain rfl : os' = s1.os := os
      exact ⟨H3, t, I1.call (h' := hh) (g' := g) (d' := d) (t' := tk) (ch := []) un hok bare (fun b z => absurd z (by simp)), eH, rfl, h3, fun b o e n nf => ⟨un.keep b o e n nf (by simp), un.free b o e n (by simp)⟩⟩
    | next => exact False.elim hq
    | brk => exact False.elim hq
    | cont => exact False.elim hq
theorem boot_sorted : bootBuiltins "sorted" = some (.builtin "sorted") := by decide +kernel
open LamX NdefX in
def tSortLam (T : List (Addr × Str)) (js : List Nat) (N : List Str) (tb te : TE) : TE := fun σ H Q => te σ H fun v H1 => ∃ (d : Addr) (kvs : List (Key × V)) (ks : List Str) (k1 k2 : Str → Int), v = .ref d ∧ Rd H1 d (.dK kvs) ∧ kvs.map (·.1) = ks.map Sum.inr ∧ ks.length ≤ 1000 ∧ Tabs T H1 ∧
  (∀ H2, ExtN H1 H2 → ∀ x ∈ ks, tb (startF N [.str x] (js.map (slotAt σ))) H2 fun v H3 => ∃ t, v = .ref t ∧ (∀ b o, H2 b = some o → H3 b = some o) ∧ H3 t = some (.tup [.int (k1 x), .int (k2 x), .str x])) ∧
  ∀ (ys : List Str) (p : Addr) (H2 : Hp), ys.Perm ks → ExtN H1 H2 → Tabs T H2 → H2 p = none → Q (.ref p) (upd H2 p (.lst (ys.map V.str)))
open LamX NdefX in
theorem pe_sortedLam {T : List (Addr × Str)} {c P : Addr} {eD body : Expr} {te tb : TE} {params : Arguments} {scope : Scope} {p lpos kpos pos : Pos} {N fr : List Str} {js : List Nat} {pn : Str} {k : Nat}
    (hc : X.calm = true) (hr : Room (k + 3) X.A) (hg : Gl X "sorted") (hm : X.mg "sorted" = none) (he : PE X eD te) (TB : TabB X.base X.mg c P) (hcode : X.env.code = .ref c) (hmT : (P, X.env.qual ++ "<lambda>") ∈ T) (huT : ∀ p ∈ T, p.1 = P → p.2 = X.env.qual ++ "<lambda>") (hdef : defaultsOf params X.env = ([], []))
    (hfree : ∀ y ∈ scope.names, y.2 = .free → X.env.scope.names.lookup y.1 = some .cell ∨ X.env.scope.names.lookup y.1 = some .free) (hfr' : ∀ y ∈ fr, (y, NameKind.free) ∈ scope.names) (hjs : js.map (fun j => X.N[j]?) = fr.map some) (S : NScope N [pn] fr scope)
    (hbind : ∀ (q : Str) (cl : List (Str × Addr)) (pm cv ctv u : Value), bindArgs (kla_fn "<lambda>" q params body scope cl pm cv ctv) ⟨[u], []⟩ = pure ([pn].zip [u]))
    (hbody : ∀ (A : Around) (outer : List Env) (s : Shared) (H : Hp) (F : NF) (f : Addr), F.scope = scope → Room k (A.deeper (envF F f s.heap.objs.size)) → PE (ncx C8.CX0 X.prog X.w X.K X.mg X.base N F f A outer s H C8.E0) body tb)
    (hst : starEach [eD] X.env = (false, eval eD X.env) :: starEach [] X.env := by rfl) :
    PE X (.Call (.Name "sorted" p) [eD] [⟨some "key", .Lambda params body scope lpos, kpos⟩] pos) (tSortLam T js N tb te) := by
  refine ⟨fun pins s σ H Q I h => ?_⟩
  refine wpAny_Call_Name_kw (ld_blt I hg hm boot_sorted ?_)
  refine PyProof.Rows.callWith_kw (args_cons (thn (he.run pins s σ H _ I h) fun v s1 ⟨x, H1, I1, r1, d, kvs, ks, k1, k2, ex, hd, hks, hl, hT, hkey, q⟩ => args_nil ?_) hst) (by rw [hst]; rfl) (by rw [hst]; rfl) (by rfl) (by rfl)
  subst ex
  cases r1
  show wpAny _ _ (evalAll ((do let v ← eval (.Lambda params body scope lpos) X.env; standAt pos; pure v) :: [])) _ _ s1
  have hf0 : ∀ y ∈ scope.names, y.2 = .free → ∃ c, X.env.cells.lookup y.1 = some c := fun y hy e => (hfree y hy e).elim (fun z => I1.ok.has _ (.inl z)) fun z => I1.ok.has _ (.inr z)
  refine wpAny_evalAll_cons (wpAny_bind (lam_make2 I1 TB hcode hmT huT hT hdef hf0 fun f c' pm ctv H2 s2 I2 eN T2 hfo hfn hfr hco => wpAny_bind (wpAny_standAt (wpAny_pure (wpAny_evalAll_nil ?_)))))
  show wpAny _ _ (call (.builtin "sorted") [.ref d] [(Str.ofString "key", .ref f)]) _ _ _
  have hd2 : Rd H2 d (.dK kvs) := by
    rcases hd with h | ⟨o, h⟩
    · exact .inl (eN _ _ h fun ps z => by cases z)
    · exact .inr ⟨o, eN _ _ h fun ps z => by cases z⟩
  obtain ⟨z, lo, vs, rel, dd⟩ := dk_rd I2.hok hd2
  obtain ⟨ep, hat⟩ := dd.dictAt
  have hkeys : vs.map (·.1) = ks.map Sum.inr := rel.keys.symm.trans hks
  have hlv : vs.length = ks.length := by
    have e := congrArg List.length hkeys
    rw [List.length_map, List.length_map] at e
    exact e
  have h16 : vs.length ≤ sizeLine := by rw [hlv, sizeLine_eq]; omega
  refine call_function_entry_kw PyProof.Rows.kind_sorted PyProof.Rows.plain_sorted PyProof.Rows.entry_sorted (ksk_s1 _ _) ?_
  unfold Builtin.«sorted»
  refine wpAny_bind (m := checkCount "sorted" 1 1 _) (wpAny_pure ?_)
  refine wpAny_bind (PySem.W.kdu_collect (A := X.A.in1) (PySem.W.kdl_dict (knd := mixKind X.prog X.w) (kvs := vs) (ep := ep) lo) (I2.ok.hd hc) hat h16 fun h' tk acc hk hacc => ?_)
  have hal : acc.toList.length = ks.length := by rw [Array.length_toList, hacc.1, hlv]
  have hS : StrsAre acc.toList ks := strs_at hal fun j v e => by
    obtain ⟨k, x, e1, e2⟩ := hacc.2 j v (by rw [← Array.getElem?_toList]; exact e)
    have e3 : (vs.map (·.1))[j]? = some k := by rw [List.getElem?_map, e1]; all_goals rfl
    rw [hkeys, List.getElem?_map] at e3
    cases e4 : ks[j]? with
    | none => rw [e4] at e3; cases e3
    | some y =>
      rw [e4] at e3
      have e5 : Sum.inr y = k := Option.some.inj e3
      subst e5
      obtain ⟨t, ev⟩ := Value.isStrOf_shape (x := y) (v := v) e2
      exact ⟨y, t, rfl, ev⟩
  have hV : Vals (ks.map V.str) acc.toList := vals_of_strs hS
  have I3 : Inv X pins σ H2 { s2 with heap := h', toks := tk } := I2.kept hk
  refine wpAny_bind (wpAny_newList ?_ (by rw [hal, sizeLine_eq]; omega))
  have hoL : (h'.push (seqObj "list" acc.toList.toArray 0)).get? h'.objs.size = some (seqObj "list" acc.toList.toArray 0) := Heap.get?_push_size _ rfl
  show wpAny _ _ _ _ _ { s2 with heap := h'.push (seqObj "list" acc.toList.toArray 0), toks := tk }
  refine wpAny_bind (wpAny_holding (wpAny_call_entry_kw PyProof.Rows.slot_list_sort ⟨_, hoL, rfl⟩ PyProof.Rows.entry_list_sort ?body (ksk_l1 _ _)))
  case body =>
    rw [ksk_t1]
    have nA : H2 h'.objs.size = none := I3.hok.fresh (Nat.le_refl _)
    have hf2 : f < h'.objs.size := Heap.lt_size (hk _ _ hfo)
    generalize haE : h'.objs.size = a at nA hf2 hoL ⊢
    have ge2 : ({ s2 with heap := h', toks := tk } : Shared).heap.objs.size ≤ a := Nat.le_of_eq haE
    have IA : Inv X pins σ H2 { s2 with heap := h'.push (seqObj "list" acc.toList.toArray 0), toks := tk } := I3.kept (t' := tk) fun b o e => Heap.get?_push_of_some _ e
    generalize hhA : h'.push (seqObj "list" acc.toList.toArray 0) = hA at IA hoL ⊢
    obtain ⟨e1, ho1⟩ : ∃ e1, (hA.update a (Obj.mapSeq fun _ => (#[] : Array Value))).get? a = some (seqObj "list" #[] e1) := ⟨_, get?_update_seq hoL fun _ => #[]⟩
    have haS : a < hA.objs.size := Heap.lt_size hoL
    have hkS : ((hA.update a (Obj.mapSeq fun _ => (#[] : Array Value))).push (seqObj "tuple" acc.toList.toArray 0)).objs.size = hA.objs.size + 1 := by rw [size_push', Heap.size_update]
    have sb := Heap.SameBut.update hA a (Obj.mapSeq fun _ => (#[] : Array Value))
    have IB : Inv X pins σ H2 { s2 with heap := hA.update a (Obj.mapSeq fun _ => (#[] : Array Value)), toks := tk } := inv_turnedUp I3 (s := { s2 with heap := hA, toks := tk }) ge2 IA (fun b o hb e => (sb.2 b hb).trans e) nA
    have IC : Inv X pins σ H2 { s2 with heap := (hA.update a (Obj.mapSeq fun _ => (#[] : Array Value))).push (seqObj "tuple" acc.toList.toArray 0), toks := tk } := IB.kept (t' := tk) fun b o e => Heap.get?_push_of_some _ e
    have ID : Inv X pins σ H2 { s2 with heap := ((hA.update a (Obj.mapSeq fun _ => (#[] : Array Value))).push (seqObj "tuple" acc.toList.toArray 0)).push (seqObj "list" #[] 0), toks := tk } := IC.kept (t' := tk) fun b o e => Heap.get?_push_of_some _ e
    have nS : H2 ((hA.update a (Obj.mapSeq fun _ => (#[] : Array Value))).push (seqObj "tuple" acc.toList.toArray 0)).objs.size = none := IC.hok.fresh (Nat.le_refl _)
    have hfa : f ≠ a := Nat.ne_of_lt hf2
    have hfD : (((hA.update a (Obj.mapSeq fun _ => (#[] : Array Value))).push (seqObj "tuple" acc.toList.toArray 0)).push (seqObj "list" #[] 0)).get? f = some _ := Heap.get?_push_of_some _ (Heap.get?_push_of_some _ ((sb.2 f hfa).trans (by rw [← hhA]; exact Heap.get?_push_of_some _ (hk _ _ hfo))))
    have hzA : acc.toList.length ≤ sizeLine := by rw [hal, sizeLine_eq]; omega
    unfold ksk_tree
    refine wpAny_bind (listItems_at (s := { s2 with heap := hA, toks := tk }) hoL rfl ?_)
    refine wpAny_bind (listUpdate_at (s := { s2 with heap := hA, toks := tk }) hoL rfl ?_ (by rw [List.size_toArray]; exact hzA) (Nat.zero_le _))
    refine wpAny_bind (seqEpoch_at ho1 rfl ?_)
    refine wpAny_bind (wpAny_newTuple ?_ hzA)
    refine wpAny_bind (wpAny_newList ?_ (Nat.zero_le _))
    refine wpAny_holding ?_
    have hkey2 := fun x hx H1 (e : ∀ b o, H2 b = some o → H1 b = some o) => hkey H1 (eN.trans (ExtN.of e)) x hx
    refine restJ I3 (by have := hr.un; omega) ID (fun _ _ h => h) (by rw [hkS]; exact Nat.le_trans ge2 (Nat.le_trans (Nat.le_of_lt haS) (Nat.le_succ _))) ge2 nS nA (Heap.get?_push_size _ rfl) (Heap.get?_push_of_some _ (Heap.get?_push_of_some _ ho1)) (by rw [hkS]; exact Nat.ne_of_gt (Nat.lt_succ_of_lt haS)) hV hzA
      (calls3 (F := ⟨"<lambda>", X.env.qual ++ "<lambda>", params, [], scope, cloFrom X.env.cells scope.names [], c'⟩) S hr hco (Caps.made I2.ok hfree hfr' hjs) (fun u => hbind _ _ _ _ _ _) (fun A outer s H hr' => hbody A outer s H _ f rfl hr') hkey2)
      hfD hfn hfr (by rw [hkS]; exact Nat.ne_of_lt (Nat.lt_trans hf2 (Nat.lt_succ_of_lt haS))) fun s' H' out ys cc hp I4 eI nA4 n4 hv4 => ⟨_, rfl, wpAny_pure ?_⟩
    obtain ⟨g4, gg, dd', tk4, os4⟩ := s'
    refine ⟨_, rfl, .ref a, upd H' a (.lst (ys.map V.str)), I4.call (h' := g4) (g' := gg) (d' := dd') (t' := tk4) (ch := [a]) ⟨fun b o e n _ _ => e, fun b o e n _ _ => ⟨o.slots, e⟩, fun b o e n hx => ?_, fun b o e _ => ⟨o, e⟩, fun b xs q => ?_, fun b o u q => ?_, fun b ps q => ⟨#[], ?_⟩⟩ (fun b u e => ?_) I4.bare (fun b hb => ?_), rfl, q ys a H' hp (eN.trans (ExtN.of eI)) (T2.ext eI) nA4⟩
    · rw [upd_ne (fun z => hx (by simp [z]))]; exact n
    · rw [upd_ne (ne_of_none q nA4)]; exact q
    · rw [upd_ne (ne_of_none q nA4)]; exact q
    · rw [upd_ne (ne_of_none q nA4), q]; simp
    · by_cases hb : b = a
      · subst hb
        rw [upd_same] at e
        cases e
        refine ⟨?_, out, cc, hv4, n4⟩
        rw [List.length_map, hp.length_eq, sizeLine_eq]; omega
      · rw [upd_ne hb] at e
        exact (I4.hok b u e).stay (fun c v _ q => q) (fun c q => by rw [upd_ne (ne_of_none q nA4)]; exact q) fun c xs q => by rw [upd_ne (ne_of_none q nA4)]; exact q
    · have : b = a := by simpa using hb
      subst this
      exact ⟨.inr (Nat.le_trans I3.sz ge2), fun z => Nat.lt_irrefl _ (Nat.lt_of_lt_of_le (z ▸ I3.lt) ge2), fun x c e z => by obtain ⟨v, o, ho, _⟩ := I3.cell x c e; exact Nat.lt_irrefl _ (Nat.lt_of_lt_of_le (Heap.lt_size (z ▸ ho)) ge2),
        fun p hp z => Nat.lt_irrefl _ (Nat.lt_of_lt_of_le (Heap.lt_size (z ▸ (I3.pin p hp).1)) ge2)⟩
end
end K49
/-! K49D19 -/
/-! Table.names. -/
namespace K49
open PySem L2 Evl
section
variable {P : Program} {w : World} {K : PySem.W.Frag} {mg : Str → Option Value} {base : Heap}
theorem ix_tupK {X : Cx} {K : PySem.W.Frag} (h : X.K = K) : IxR X (rIxT K) := h ▸ ix_tup
/-- FunD.ok where the code object is told -/
theorem funD_okC {x qual : Str} {params : Arguments} {body : List Stmt} {scope : Scope} {dvs : List V} {kws : List (Str × V)} {f c : Addr} {fd : FuncData} {CX : CXT} {N ps : List Str} {k : Nat} {sp : Sp} (F : FunD K x qual params body scope dvs kws f fd) (hc : fd.code = .ref c) (S : FnScope N ps scope) (len : ∀ vs H Q E, sp vs H Q E → vs.length = ps.length)
    (hbody : ∀ (A : Around) (outer : List Env) (s : Shared) (H : Hp) (vs : List V) (Q : VK) (E : XK), Room k (A.deeper (PyProof.Rows.envOfC qual scope s.heap.objs.size f (.ref c))) → sp vs H Q E →
      ∃ t, PSs (cxOf CX P w K mg base N qual scope f (.ref c) A outer s H E) body t ∧ t { nx := fun _ H' => Q .non H', rt := Q } (start N vs) H) : FnOk P w K mg base CX (k + 1) f fd ps sp := by
  obtain ⟨oc, od, dV, kV, doc, pm, an, cdv, ct, osl, rfl, lk, hcd, _, _⟩ := F.ex
  obtain rfl : cdv = .ref c := hc
  exact fn_of lk hcd S len fun A outer s H vs Q E hr hsp => hbody A outer s H vs Q E hr hsp
abbrev qN : Str := "Table.names.<locals>.<lambda>"
def lamOf : Stmt → Option (Arguments × Expr × Scope)
  | .Return (some (.Call _ _ [⟨_, .Lambda a b c _, _⟩] _)) _ => some (a, b, c)
  | _ => none
theorem sc_tnames : FnScope ["self"] ["self"] (defScope s_Table_names) := ⟨rfl, rfl, rfl, by decide +kernel, rfl, by decide +kernel, by decide +kernel⟩
abbrev lamSc : Scope := { kind := .function, names := [("name", .local), ("self", .free)], isGenerator := false, isCoroutine := false, more := [] }
theorem hqN : ((("Table.names" : Str) ++ (".<locals>." : Str)) ++ ("<lambda>" : Str)) = qN := by decide +kernel
theorem hndN : NdefX.ndefB (defScope s_Table_names) lamSc ["self"] = true := by decide +kernel
theorem k_tnames (T : Tx K mg) (TB : LamX.TabB base mg T.cN T.PN) : FnOk P w K mg base CX0 4 T.f_tnames T.fd_tnames ["self"] (spTNames T.CT T.CR [(T.PN, qN)]) := by
  refine funD_okC T.M_tnames.F T.code_tnames sc_tnames (fun vs H Q E h => ?_) (fun A outer s H vs Q E hr h => ?_)
  · obtain ⟨p, o, rfl, _⟩ := h
    rfl
  obtain ⟨p, o, rfl, ok, hT, hTb, k⟩ := h
  have hu := hu_of hr
  obtain ⟨dx, q, b, h1, h2, h3⟩ := hT.ex
  refine ⟨_, PSs.nox (pss_one (ps_ret (pe_sortedLam (T := [(T.PN, qN)]) (N := ["name", "self"]) (fr := ["self"]) (js := [0]) (pn := "name") (k := 0)
    (tb := tTup (tCons (tOp (rIxT K) (tDGet (tFld K (tVar 1) "board") (tVar 0)) (tC (.int 3))) (tCons (tOp (rIxT K) (tDGet (tFld K (tVar 1) "board") (tVar 0)) (tC (.int 4))) (tCons (tVar 0) tNil))))
    rfl hr (by rfl) T.B.sorted (pe_fld (pv 0) rfl) TB rfl (List.mem_singleton.mpr (congrArg (Prod.mk T.PN) hqN)) (fun p hp _ => by rw [List.mem_singleton.mp hp]; exact hqN.symm) rfl
    (NdefX.ndef_free (fr := ["self"]) hndN) (NdefX.ndef_fr hndN) rfl (NdefX.nscope_by (by decide +kernel)) (fun _ _ _ _ _ _ => rfl) (fun A outer s H F f hF hr2 => ?_)))), ?_⟩
  · obtain ⟨nm, ql, pa, bo, sc, cl, c⟩ := F
    obtain rfl : sc = _ := hF
    exact pe_tup (pa_cons (pe_ix (ix_tupK (K := K) rfl) (pe_dget (hu_of hr2) (pe_fld (pv 1) rfl) (pv 0) (fun _ _ => rfl)) pe_int (fun _ _ => rfl)) (pa_cons (pe_ix (ix_tupK (K := K) rfl) (pe_dget (hu_of hr2) (pe_fld (pv 1) rfl) (pv 0) (fun _ _ => rfl)) pe_int (fun _ _ => rfl)) (pa_cons (pv 0) pa_nil)))
  have hks : (o.ts.map fun t => kS t.name) = o.names.map Sum.inr := by unfold Office.names; rw [List.map_map]; rfl
  obtain ⟨kvs, b1, b2, b3⟩ := h3.ex
  refine ⟨_, rfl, p, T.CT, dx, tF q b, .ref b, rfl, h1, T.C.T, T.C.nBoard, tF_board _ _, b, kvs, o.names, fun n => (o.trip n).start, fun n => (o.trip n).finish, rfl, b1, b2.trans hks, by unfold Office.names; rw [List.length_map]; have := ok.few; omega, hTb, fun H2 e2 x hx => ?_, fun ys pp H2 hp e2 hT2 hn => k _ _ (e2.trans (LamX.ExtN.of (Ex.new hn))) (hT2.ext (Ex.new hn)) ⟨pp, ys, rfl, upd_same, hp⟩⟩
  obtain ⟨t1, t2⟩ := Office.trip_in hx
  have hT2 := hT.mono (exr_n e2)
  have h12 : H2 p = some (.ins T.CT dx (tF q b)) := (exr_n e2).ins h1
  have b12 : Rd H2 b (.dK kvs) := (exr_n e2).rd b1
  have dg : DGet H2 b (.str x) (some (.ref (o.ad x))) := by
    have := dget_rd (k := kS x) b12
    have q3 := b3 _ t1
    rw [t2] at q3
    rw [q3] at this
    exact this
  have tup : H2 (o.ad x) = some (.tup (o.trip x).vs) := by
    have := hT2.tup t1
    rw [t2] at this; exact this
  have fld : Ev (tFld K (tVar 1) "board") [some (.str x), some (.ref p)] H2 (.ref b) := ev_fld (ev_var rfl) h12 T.C.T T.C.nBoard (tF_board _ _)
  have item : ∀ (i : Int) (v : V), atI (o.trip x).vs i = some v → Ev (tOp (rIxT K) (tDGet (tFld K (tVar 1) "board") (tVar 0)) (tC (.int i))) [some (.str x), some (.ref p)] H2 v := fun i v hv =>
    ev_op (ev_dget fld (ev_var rfl) dg) ev_c (rv_ixT (st_of tup) hv)
  refine eu_tup (ea_cons (item 3 (.int (o.trip x).start) rfl) (ea_cons (item 4 (.int (o.trip x).finish) rfl) (ea_cons (ev_var rfl) ea_nil))) (by simp) H2 (Ex.refl _) _ fun t H3 ht e3 h3' => ⟨t, rfl, e3, h3'⟩
theorem k_links (T : Tx K mg) (TB : LamX.TabB base mg T.cN T.PN) : FnOk P w K mg base CX0 5 T.f_links T.fd_links ["table"] (spLinks T.CT T.CR [(T.PN, qN)]) :=
  ok_links T.d_links T.C T.M_tnames T.d_linked (k_tnames T TB) (k_linked T)
end
theorem lk_irr {o : Office} (ok : o.Ok) {t : Trip} (h : t ∈ o.ts) : o.lk t t = false := by
  have h1 := ok.fwd t h
  have h2 := ok.nn _ (ok.goal t h) _ (ok.org t h)
  unfold Office.lk Office.gap
  exact decide_eq_false (by omega)
theorem lk_tr {o : Office} (ok : o.Ok) {a b c : Trip} (ha : a ∈ o.ts) (hb : b ∈ o.ts) (hc : c ∈ o.ts) (h1 : o.lk a b = true) (h2 : o.lk b c = true) : o.lk a c = true := by
  unfold Office.lk Office.gap at *
  have h1 := of_decide_eq_true h1
  have h2 := of_decide_eq_true h2
  have s := ok.slow b hb
  have t1 := ok.tri _ (ok.goal a ha) _ (ok.org c hc) _ (ok.org b hb)
  have t2 := ok.tri _ (ok.org b hb) _ (ok.org c hc) _ (ok.goal b hb)
  exact decide_eq_true (by omega)
theorem ord_of {o : Office} (ok : o.Ok) (tx : ∀ t ∈ o.ts, t.name.cps.all (· < 0x110000) = true) {xs : List Str} (hp : xs.Perm o.names) : Ord xs (o.row xs) := by
  have hin : ∀ n ∈ xs, n ∈ o.names := fun n hn => hp.mem_iff.mp hn
  refine ⟨hp.nodup_iff.mpr ok.nd, by rw [hp.length_eq]; unfold Office.names; rw [List.length_map]; exact ok.few, fun a ha b hb => (List.mem_filter.mp hb).1, fun a ha => (hp.nodup_iff.mpr ok.nd).filter _, fun a ha h => ?_, fun a ha b hb c hc => ?_, fun a ha => ?_⟩
  · have h2 := (List.mem_filter.mp h).2
    rw [lk_irr ok (Office.trip_in (hin a ha)).1] at h2; cases h2
  · obtain ⟨b1, b2⟩ := List.mem_filter.mp hb
    obtain ⟨c1, c2⟩ := List.mem_filter.mp hc
    exact List.mem_filter.mpr ⟨c1, lk_tr ok (Office.trip_in (hin a ha)).1 (Office.trip_in (hin b b1)).1 (Office.trip_in (hin c c1)).1 b2 c2⟩
  · obtain ⟨t, ht, e⟩ := List.mem_map.mp (hin a ha)
    rw [← e]; exact tx t ht
theorem ordAt_of {o : Office} {H : Hp} {d : Addr} {xs : List Str} {kvs : List (Key × V)} (h1 : H d = some (.dK kvs)) (h2 : kvs.map (·.1) = xs.map kS) (h3 : ∀ n ∈ xs, ∃ a : Addr, valV kvs (kS n) = some (.ref a) ∧ H a = some (.lst ((o.row xs n).map V.str))) : OrdAt H d xs (o.row xs) :=
  ⟨kvs, h1, h2, fun k hk => by
    obtain ⟨n, hn, rfl⟩ := List.mem_map.mp hk
    exact h3 n hn⟩
end K49
/-! K49D15 -/
/-! chains, apart. -/
namespace K49
open PySem L2 Evl
theorem op_notIn_seqK {X : Cx} {K : PySem.W.Frag} (h : X.K = K) : OpR X (compareOp .NotIn) (rIn K true) := h ▸ op_notIn_seq
theorem op_in_seqK {X : Cx} {K : PySem.W.Frag} (h : X.K = K) : OpR X (compareOp .In) (rIn K false) := h ▸ op_in_seq
theorem ix_listK {X : Cx} {K : PySem.W.Frag} (h : X.K = K) : IxR X (rIxL K) := h ▸ ix_list
/-- who follows a -/
def nxt (ow : List (Str × Key)) (a : Str) : Option Str := look (swp ow) (kS a)
theorem encK_val (g : List (Key × Str)) (k : Key) : valV (encK g) k = (look g k).map V.str := by
  induction g with
  | nil => rfl
  | cons p r ih =>
    obtain ⟨a, b⟩ := p
    rw [look_cons]
    show valV ((a, V.str b) :: encK r) k = _
    by_cases c : a = k
    · subst c; simp [valV]
    · rw [if_neg c, ← ih]
      simp [valV, c]
theorem nxt_edge {ks : List Key} {row : Key → List Str} {ow : List (Str × Key)} {fl : List Key} {D : Str → Prop} (h : Own row ks ow fl D) {a b : Str} (e : nxt ow a = some b) : look ow b = some (kS a) := by
  have := look_mem e
  obtain ⟨⟨r, l⟩, hp, ep⟩ := List.mem_map.mp this
  obtain rfl : l = kS a := congrArg Prod.fst ep
  obtain rfl : r = b := congrArg Prod.snd ep
  exact look_of_mem h.nd hp
theorem nxt_of {ks : List Key} {row : Key → List Str} {ow : List (Str × Key)} {fl : List Key} {D : Str → Prop} (h : Own row ks ow fl D) (hn : ks.Nodup) {a b : Str} (e : look ow b = some (kS a)) : nxt ow a = some b := by
  obtain ⟨v1, _, _⟩ := h.vnd hn
  refine look_of_mem ?_ (List.mem_map.mpr ⟨_, look_mem e, rfl⟩)
  have : keys (swp ow) = ow.map (·.2) := by unfold keys swp; rw [List.map_map]; rfl
  rw [this]; exact v1
/-- a chain that cannot be gone on with -/
structure Full (nx : Str → Option Str) (c : List Str) : Prop where
  ne : c ≠ []
  st : ∀ i a b, c[i]? = some a → c[i + 1]? = some b → nx a = some b
  en : ∀ a, c.getLast? = some a → nx a = none
theorem Ord.dec {ns : List Str} {row : Str → List Str} (o : Ord ns row) {a b : Str} (ha : a ∈ ns) (hb : b ∈ row a) : (row b).length < (row a).length := by
  have hbn := o.sub a ha b hb
  have h1 : ∀ x ∈ b :: row b, x ∈ row a := fun x hx => by
    rcases List.mem_cons.mp hx with z | z
    · rw [z]; exact hb
    · exact o.tr a ha b hb x z
  have := nodup_le (List.nodup_cons.mpr ⟨o.irr b hbn, o.rnd b hbn⟩) h1
  rw [List.length_cons] at this
  omega
section
variable {P : Program} {w : World} {K : PySem.W.Frag} {mg : Str → Option Value} {base : Heap}
theorem sc_chains : FnScope ["order", "given", "later", "name", "found", "chain"] ["order"] (defScope s_chains) := ⟨rfl, rfl, rfl, by decide +kernel, rfl, by decide +kernel, by decide +kernel⟩
def ChP (ns : List Str) (row : Str → List Str) : V → Hp → Prop := fun v H2 => ∃ (p : Addr) (cs : List (List Str)) (ow : List (Str × Key)) (fl : List Key) (D : Str → Prop), v = .ref p ∧ LL H2 p cs ∧ Own (rowK row) (ns.map kS) ow fl D ∧ cs.map List.head? = (ns.filter fun n => !(look ow n).isSome).map some ∧ ∀ c ∈ cs, Full (nxt ow) c
def spChains : Sp := fun vs H Q _ => ∃ (d : Addr) (ns : List Str) (row : Str → List Str), vs = [.ref d] ∧ OrdAt H d ns row ∧ Ord ns row ∧ RetP (ChP ns row) H Q
theorem k_chains (T : Tx K mg) : FnOk P w K mg base CX0 44 T.f_chains T.fd_chains ["order"] spChains := by
  have G_check_order := k_check_order (P := P) (w := w) (base := base) T
  have G_matching := k_matching (P := P) (w := w) (base := base) T
  refine T.d_chains.F.ok sc_chains (fun vs H Q E h => ?_) (fun cdv A outer s H vs Q E hr h => ?_)
  · obtain ⟨d, ns, row, rfl, _⟩ := h
    rfl
  obtain ⟨d, ns, row, rfl, hO, O, k⟩ := h
  have hu := hu_of hr
  refine ⟨_, PSs.nox (pss_cons (ps_expr (pe_call G_check_order (hr.mono (by decide)) rfl T.d_check_order.g T.d_check_order.F.kp T.d_check_order.b .nil pass0 (pa_cons (pv 0) pa_nil)))
    (pss_cons (ps_set (i := 1) sc_chains.nd rfl (Or.inl rfl) (pe_call G_matching (hr.mono (by decide)) rfl T.d_matching.g T.d_matching.F.kp T.d_matching.b .nil pass0 (pa_cons (pv 0) pa_nil)))
    (pss_cons (ps_set (i := 2) sc_chains.nd rfl (Or.inl rfl) pe_dnewK)
    (pss_cons (ps_lock (ps_for PassesOwn.never rfl (pi_keys (pv 1)) (pg_name (i := 3) sc_chains.nd rfl (Or.inl rfl))
      (pss_one (ps_dput hu (pv 2) (pe_dget hu (pv 1) (pv 3) (fun _ _ => rfl)) pe_bl rfl))))
    (pss_cons (ps_set (i := 4) sc_chains.nd rfl (Or.inl rfl) (pe_lst pa_nil))
    (pss_cons (ps_lock (ps_for PassesOwn.never rfl (pi_keys (pv 0)) (pg_name (i := 3) sc_chains.nd rfl (Or.inl rfl))
      (pss_one (ps_if (pt_cmp (pc_dnotin hu (pv 3) (pv 2)))
        (pss_cons (ps_set (i := 5) sc_chains.nd rfl (Or.inl rfl) (pe_lst (pa_cons (pv 3) pa_nil)))
        (pss_cons (ps_while PassesOwn.never (pt_cmp (pc_din hu (pe_ix ix_list (pv 5) (pe_un un_neg pe_int) (fun _ _ => rfl)) (pv 1)))
          (pss_one (ps_expr (pe_bm PySem.F.plainAttrs_list PySem.F.slot_list_append PySem.F.type_list_append mt_append (pv 5) (pa_cons (pe_dget hu (pv 1) (pe_ix ix_list (pv 5) (pe_un un_neg pe_int) (fun _ _ => rfl)) (fun _ _ => rfl)) pa_nil)))))
        (pss_one (ps_expr (pe_bm PySem.F.plainAttrs_list PySem.F.slot_list_append PySem.F.type_list_append mt_append (pv 4) (pa_cons (pv 5) pa_nil))))))
        pss_nil))))
    (pss_one (ps_ret (pv 4))))))))), ?_⟩
  refine q_drop (v := .non) (ev_call (ea_cons (ev_var rfl) ea_nil) fun H1 e Q1 q1 E1 => ⟨d, ns, row, rfl, hO.ex' e, O, fun H2 e2 => q1 H2 e2⟩) fun H1 e1 => ?_
  refine q_asgP (P := MatP H1 (ns.map kS) (rowK row)) (ep_call (ea_cons (ev_var rfl) ea_nil) fun H2 e Q1 q1 E1 => ⟨d, _, _, _, rfl, hO.ex' (e1.trans e), O.small, fun v H3 e3 ⟨g, ow, fl, D, a1, a2, a3, a4⟩ => q1 v H3 e3 ⟨g, ow, fl, D, a1, fresh_back e a2, a3, a4⟩⟩) fun v H2 e2 ⟨g, ow, fl, D, hv, hg0, hg, hOw⟩ => ?_
  subst hv
  have e02 := e1.trans e2
  have hg00 : H g = none := fresh_back e1 hg0
  have own : ow.length ≤ 40 := by have := hOw.len; have := O.few; rw [List.length_map] at *; omega
  refine fun lt hlt => ?_
  have hgl : g ≠ lt := ne_of_none hg hlt
  have hlt0 : H lt = none := fresh_back e02 hlt
  refine q_forK (iv := 1) rfl (by rw [upd_ne hgl]; exact hg) (fun od i σ' H' => (∃ v, σ' = [some (.ref d), some (.ref g), some (.ref lt), v, none, none]) ∧ ExB lt (upd (upd H2 lt (.dK [])) g (.frz od (.dK (encK (swp ow))))) H' ∧ H' lt = some (.dK (seenD ((keys ow).take i))))
    (fun od => ⟨⟨_, rfl⟩, fun _ _ h _ => h, by rw [upd_ne hgl.symm, upd_same]; rfl⟩) (fun od i σ' H' _ z => z.2.1 _ _ upd_same hgl) ?_ ?_
  · rintro od i kk vv σ' H' hi ⟨⟨v, rfl⟩, e, hlH⟩
    unfold encK swp at hi
    rw [List.getElem?_map, List.getElem?_map] at hi
    obtain ⟨⟨l, r⟩, hp', ep⟩ := Option.map_eq_some_iff.mp hi
    obtain ⟨⟨r', l'⟩, hp, ep'⟩ := Option.map_eq_some_iff.mp hp'
    obtain rfl : l' = l := congrArg Prod.fst ep'
    obtain rfl : r' = r := congrArg Prod.snd ep'
    obtain rfl : l' = kk := congrArg Prod.fst ep
    have hfg : H' g = some (.frz od (.dK (encK (swp ow)))) := e _ _ upd_same hgl
    have hl : look (swp ow) l' = some r' := look_of_mem (by
      have : keys (swp ow) = ow.map (·.2) := by unfold keys swp; rw [List.map_map]; rfl
      rw [this]; exact (hOw.vnd O.small.s.nd).1) (List.mem_map.mpr ⟨_, List.mem_of_getElem? hp, rfl⟩)
    have tk : (keys ow).take (i + 1) = (keys ow).take i ++ [r'] := by
      have : (keys ow)[i]? = some r' := by unfold keys; rw [List.getElem?_map, hp]; rfl
      rw [List.take_add_one, this]; rfl
    have new : r' ∉ (keys ow).take i := fun q => by
      have hd := hOw.nd
      have h4 := List.take_append_drop (i + 1) (keys ow)
      rw [tk] at h4
      rw [← h4, List.append_assoc] at hd
      exact (List.nodup_append.mp hd).2.2 _ q r' (by simp) rfl
    have dg : DGet H' g (kV l') (some (.str r')) := by
      have := dget_rd (k := l') (.inr ⟨od, hfg⟩ : Rd H' g (.dK (encK (swp ow))))
      rw [encK_val, hl] at this
      exact this
    refine s_dput (k := kS r') (v := .bl true) ev_c (ev_var rfl) (ev_dget (ev_var rfl) (ev_var rfl) dg) hlH (by unfold seenD keys; simp; omega) fun H3 e3 => ⟨⟨_, rfl⟩, fun c u hc n => by rw [upd_ne n]; exact e3 _ _ (e c u hc n), ?_⟩
    rw [upd_same, seenD_put new, tk]
  rintro od σ' H' ⟨⟨v, rfl⟩, e, hlH⟩
  have hll : (encK (swp ow)).length = (keys ow).length := by unfold encK swp keys; simp
  rw [hll, List.take_length] at hlH
  generalize hH3 : upd H' g (.dK (encK (swp ow))) = H3
  have e3 : Ex H H3 := fun c u hc => by
    have hcl : c ≠ lt := ne_of_none hc hlt0
    have hcg : c ≠ g := ne_of_none hc hg00
    rw [← hH3, upd_ne hcg]
    exact e c u (by rw [upd_ne hcg, upd_ne hcl]; exact e02 _ _ hc) hcl
  have hg3 : H3 g = some (.dK (encK (swp ow))) := by rw [← hH3]; exact upd_same
  have hl3 : H3 lt = some (.dK (seenD (keys ow))) := by rw [← hH3, upd_ne hgl.symm]; exact hlH
  refine q_asgL (el_lst ea_nil (by simp)) fun l H4 hl e4 h4 => ?_
  have e04 := e3.trans e4
  have hl0 : H l = none := fresh_back e3 hl
  have hg4 := e4 _ _ hg3
  have hl4 := e4 _ _ hl3
  have ngl : g ≠ l := ne_of_none hg3 hl
  have nll : lt ≠ l := ne_of_none hl3 hl
  obtain ⟨kvs, h1, h2, h3⟩ := OrdAt.get (hO.ex' e04)
  have hdl : d ≠ l := by
    obtain ⟨q, hq, _⟩ := OrdAt.get hO
    exact ne_of_none hq hl0
  have hdg : d ≠ g := by
    obtain ⟨q, hq, _⟩ := OrdAt.get hO
    exact ne_of_none hq hg00
  have hdt : d ≠ lt := by
    obtain ⟨q, hq, _⟩ := OrdAt.get hO
    exact ne_of_none hq hlt0
  have hkl : kvs.length = ns.length := by have := congrArg List.length h2; simpa using this
  refine q_forK (iv := 0) rfl h1 (fun od i σ' H' => (∃ v v', σ' = [some (.ref d), some (.ref g), some (.ref lt), v, some (.ref l), v']) ∧ ExB l (upd H4 d (.frz od (.dK kvs))) H' ∧ ∃ (as : List Addr) (cs : List (List Str)), H' l = some (.lst (as.map V.ref)) ∧ ListsAt H' as cs ∧ (∀ b ∈ as, b ≠ l) ∧
      cs.map List.head? = ((ns.take i).filter fun n => !(look ow n).isSome).map some ∧ ∀ c ∈ cs, Full (nxt ow) c)
    (fun od => ⟨⟨_, _, rfl⟩, fun _ _ h _ => h, [], [], by rw [upd_ne hdl.symm]; exact h4, .nil, by simp, by simp, by simp⟩) (fun od i σ' H' _ z => z.2.1 _ _ upd_same hdl) ?_ ?_
  · rintro od i kk vv σ' H' hi ⟨⟨v, v', rfl⟩, e, as, cs, hlH, hL, hnl, hhd, hfull⟩
    have hki : (ns.map kS)[i]? = some kk := by rw [← h2, List.getElem?_map, hi]; rfl
    rw [List.getElem?_map] at hki
    obtain ⟨n, hn, rfl⟩ := Option.map_eq_some_iff.mp hki
    have hnm := List.mem_of_getElem? hn
    have tk : ns.take (i + 1) = ns.take i ++ [n] := by rw [List.take_add_one, hn]; rfl
    have hg' : H' g = some (.dK (encK (swp ow))) := e _ _ (by rw [upd_ne hdg.symm]; exact hg4) ngl
    have hl' : H' lt = some (.dK (seenD (keys ow))) := e _ _ (by rw [upd_ne hdt.symm]; exact hl4) nll
    have lt_val : (valV (seenD (keys ow)) (kS n)).isSome = (look ow n).isSome := by
      rw [seenD_val]
      cases q : (look ow n).isSome with
      | true => exact decide_eq_true (look_isSome.mp q)
      | false => exact decide_eq_false fun h => by rw [look_isSome.mpr h] at q; cases q
    refine s_when (b := !(look ow n).isSome) (et_is (et_B (ev_dnotin (ev_var rfl) (ev_var rfl) (dget_rd (k := kS n) (.inl hl')))) (by rw [lt_val])) (fun hb H5 e5 => ?_) (fun hb H5 e5 => ?_)
    · refine q_asgL (el_lst (ea_cons (ev_var rfl) ea_nil) (by simp)) fun c H6 hc e6 h6 => ?_
      have hcl : c ≠ l := fun z => by rw [z, e5 _ _ hlH] at hc; cases hc
      have hc0 : H' c = none := fresh_back e5 hc
      refine q_while (fun m σ' H7 => ∃ (ch : List Str) (a : Str), σ' = [some (.ref d), some (.ref g), some (.ref lt), some (.str n), some (.ref l), some (.ref c)] ∧ Ex H' H7 ∧ H7 c = some (.lst (ch.map V.str)) ∧ ch.getLast? = some a ∧ ch.head? = some n ∧ a ∈ ns ∧ (∀ i a b, ch[i]? = some a → ch[i + 1]? = some b → nxt ow a = some b) ∧ ch.length + (row a).length ≤ 41 ∧ m = (row a).length)
        _ ⟨[n], n, rfl, e5.trans e6, h6, rfl, rfl, hnm, fun i a b _ hb => by simp at hb, by have := O.rfew n hnm; simp; omega, rfl⟩ ?_
      rintro m σ' H7 ⟨ch, a, rfl, e7, h7, hlast, hhead, han, hst, hlen, rfl⟩
      have hat : atI (ch.map V.str) (-1) = some (.str a) := atI_lastO (by rw [List.getLast?_map, hlast]; rfl)
      have dg : ∀ {H8 : Hp}, Ex H7 H8 → DGet H8 g (.str a) ((nxt ow a).map V.str) := fun {H8} e8 => by
        have := dget_rd (k := kS a) (.inl (e8 _ _ (e7 _ _ hg')) : Rd H8 g (.dK (encK (swp ow))))
        rw [encK_val] at this
        exact this
      have lastE : ∀ {H8 : Hp}, Ex H7 H8 → Ev (tOp (rIxL K) (tVar 5) (tUn (rU fun i => .int (-i)) (tC (.int 1)))) [some (.ref d), some (.ref g), some (.ref lt), some (.str n), some (.ref l), some (.ref c)] H8 (.str a) := fun e8 => ev_op (ev_var rfl) (ev_un ev_c ru_neg) (rv_ixL (sq_of (e8 _ _ h7)) hat)
      refine ⟨(nxt ow a).isSome, et_is (et_B (ev_din (lastE (Ex.refl _)) (ev_var rfl) (dg (Ex.refl _)))) (by cases nxt ow a <;> rfl), fun hs H8 e8 => ?_, fun hs H8 e8 => ?_⟩
      · obtain ⟨b, hb⟩ := Option.isSome_iff_exists.mp hs
        have hba : b ∈ row a := hOw.edge b _ (nxt_edge hOw hb)
        refine ⟨fun σ' H9 => ∃ (ch' : List Str) (b' : Str), σ' = [some (.ref d), some (.ref g), some (.ref lt), some (.str n), some (.ref l), some (.ref c)] ∧ Ex H' H9 ∧ H9 c = some (.lst (ch'.map V.str)) ∧ ch'.getLast? = some b' ∧ ch'.head? = some n ∧ b' ∈ ns ∧ (∀ i a b, ch'[i]? = some a → ch'[i + 1]? = some b → nxt ow a = some b) ∧ ch'.length + (row b').length ≤ 41 ∧ (row b').length < (row a).length, ?_, ?_⟩
        · rintro σ2 H9 ⟨ch', b', q1, q2, q3, q4, q5, q6, q7, q8, q9⟩
          exact ⟨_, q9, ch', b', q1, q2, q3, q4, q5, q6, q7, q8, rfl⟩
        · have hdec := O.dec han hba
          refine s_app (v := .str b) (e8 _ _ h7) (ev_var rfl) (ev_dget (ev_var rfl) (lastE e8) (by have := dg e8; rw [hb] at this; exact this)) (by rw [List.length_map]; omega) fun H9 e9 => ⟨ch ++ [b], b, rfl, Ex.mut ((e7.trans e8).trans e9) hc0, by rw [upd_same, List.map_append]; rfl, by simp, ?_, O.sub a han b hba, fun i x y hx hy => ?_, by simp; omega, hdec⟩
          · rw [List.head?_append, hhead]; rfl
          · have hlt := (List.getElem?_eq_some_iff.mp hy).1
            rw [List.length_append, List.length_cons, List.length_nil] at hlt
            have hxi : i < ch.length := by omega
            rw [List.getElem?_append_left hxi] at hx
            by_cases c2 : i + 1 < ch.length
            · rw [List.getElem?_append_left c2] at hy
              exact hst i x y hx hy
            · have : i + 1 = ch.length := by omega
              rw [List.getElem?_append_right (by omega), this] at hy
              simp at hy
              subst hy
              rw [List.getLast?_eq_getElem?, ← this] at hlast
              simp at hlast
              rw [hlast] at hx; cases hx
              exact hb
      · have hno : nxt ow a = none := by cases q : nxt ow a with
          | none => rfl
          | some b => rw [q] at hs; cases hs
        refine s_app (v := .ref c) (e8 _ _ (e7 _ _ hlH)) (ev_var rfl) (ev_var rfl) (by
          have : as.length ≤ 40 := by
            have h1 := Paired.length hL
            have h2 := congrArg List.length hhd
            rw [List.length_map, List.length_map] at h2
            have h3 := List.length_filter_le (fun n => !(look ow n).isSome) (ns.take i)
            rw [List.length_take] at h3
            have := O.few
            omega
          rw [List.length_map]; omega) fun H9 e9 => ⟨⟨_, _, rfl⟩, fun x u hx n => ?_, as ++ [c], cs ++ [ch], ?_, ?_, fun b hb => ?_, ?_, fun x hx => ?_⟩
        · rw [upd_ne n]; exact e9 _ _ (e8 _ _ (e7 _ _ (e x u hx n)))
        · rw [upd_same, List.map_append]; rfl
        · refine paired_mem (F := fun (a : Addr) (xs : List Str) => H9 a = some (.lst (xs.map V.str))) (paired_add (hL.mono (exr ((e7.trans e8).trans e9))) (e9 _ _ (e8 _ _ h7))) fun b hb x hx => ?_
          rw [upd_ne]; exact hx
          rcases List.mem_append.mp hb with z | z
          · exact hnl b z
          · have : b = c := by simpa using z
            rw [this]; exact hcl
        · rcases List.mem_append.mp hb with z | z
          · exact hnl b z
          · have : b = c := by simpa using z
            rw [this]; exact hcl
        · rw [tk, List.map_append, List.filter_append, List.map_append, hhd]
          congr 1
          rw [List.filter_cons, if_pos hb]
          simp [hhead]
        · rcases List.mem_append.mp hx with z | z
          · exact hfull x z
          · have : x = ch := by simpa using z
            rw [this]
            exact ⟨(fun z => by rw [z] at hhead; cases hhead), hst, (fun y hy => by rw [hlast] at hy; cases hy; exact hno)⟩
    · refine ⟨⟨_, _, rfl⟩, fun x u hx n => e5 _ _ (e x u hx n), as, cs, e5 _ _ hlH, hL.mono (exr e5), hnl, ?_, hfull⟩
      rw [tk, List.filter_append, List.map_append, hhd, List.filter_cons, if_neg (by rw [hb]; simp)]
      simp
  · rintro od σ' H' ⟨⟨v, v', rfl⟩, e, as, cs, hlH, hL, hnl, hhd, hfull⟩
    rw [hkl, List.take_length] at hhd
    have hdH : H' d = some (.frz od (.dK kvs)) := e _ _ upd_same hdl
    refine s_ret (ev_var rfl) fun H5 e5 => k _ H5 (fun c u hc => e5 _ _ ?_) ⟨l, cs, ow, fl, D, rfl, ⟨as, e5 _ _ (by rw [upd_ne hdl.symm]; exact hlH), ?_⟩, hOw, hhd, hfull⟩
    · have hcl : c ≠ l := ne_of_none hc hl0
      have hc4 := e04 _ _ hc
      by_cases hcd : c = d
      · subst hcd; rw [upd_same]; rw [h1] at hc4; exact hc4
      · rw [upd_ne hcd]
        exact e c u (by rw [upd_ne hcd]; exact hc4) hcl
    · refine paired_mem (F := fun (a : Addr) (xs : List Str) => H' a = some (.lst (xs.map V.str))) hL fun b hb x hx => e5 _ _ ?_
      rw [upd_ne]; exact hx
      intro z; rw [z, hdH] at hx; cases hx
theorem sc_apart : FnScope ["order", "lefts", "rights", "name"] ["order"] (defScope s_apart) := ⟨rfl, rfl, rfl, by decide +kernel, rfl, by decide +kernel, by decide +kernel⟩
def ApP (ns : List Str) (row : Str → List Str) : V → Hp → Prop := fun v H2 => ∃ (p : Addr) (ow : List (Str × Key)) (fl : List Key) (D : Str → Prop) (L : List Key) (R : List Str), v = .ref p ∧ Own (rowK row) (ns.map kS) ow fl D ∧ Reach (rowK row) (ns.map kS) ow fl L R [] ∧ H2 p = some (.lst ((ns.filter fun n => decide (kS n ∈ L) && !decide (n ∈ R)).map V.str))
def spApart : Sp := fun vs H Q _ => ∃ (d : Addr) (ns : List Str) (row : Str → List Str), vs = [.ref d] ∧ OrdAt H d ns row ∧ Ord ns row ∧ RetP (ApP ns row) H Q
theorem k_apart (T : Tx K mg) : FnOk P w K mg base CX0 44 T.f_apart T.fd_apart ["order"] spApart := by
  have G_check_order := k_check_order (P := P) (w := w) (base := base) T
  have G_cover := k_cover (P := P) (w := w) (base := base) T
  refine T.d_apart.F.ok sc_apart (fun vs H Q E h => ?_) (fun cdv A outer s H vs Q E hr h => ?_)
  · obtain ⟨d, ns, row, rfl, _⟩ := h
    rfl
  obtain ⟨d, ns, row, rfl, hO, O, k⟩ := h
  have hu := hu_of hr
  refine ⟨_, PSs.nox (pss_cons (ps_expr (pe_call G_check_order (hr.mono (by decide)) rfl T.d_check_order.g T.d_check_order.F.kp T.d_check_order.b .nil pass0 (pa_cons (pv 0) pa_nil)))
    (pss_cons (ps_asg (pe_call G_cover (hr.mono (by decide)) rfl T.d_cover.g T.d_cover.F.kp T.d_cover.b .nil pass0 (pa_cons (pv 0) pa_nil)) (pg_tup (by rfl) (pgs_cons (pg_name (i := 1) sc_apart.nd rfl (Or.inr rfl)) (pgs_cons (pg_name (i := 2) sc_apart.nd rfl (Or.inr rfl)) pgs_nil))))
    (pss_one (ps_ret (pe_lock (pe_lc (own := [("name", 3)]) (g := gName 3) (by rfl) sc_apart.nd (pi_keys (pv 0)) (blkOk_by (own := [("name", 3)]) (N := ["order", "lefts", "rights", "name"]) (sc := defScope s_apart) (by decide +kernel)) (fun _ _ _ _ _ => pg_name (i := 3) sc_apart.nd rfl (Or.inl rfl)) (fun _ _ _ _ _ => (pts_one (PW.pt (pw_and (pt_cmpR (op_notIn_seqK (K := K) rfl) (pv 3) (pv 1) (by rfl)) (pw_and1 (pt_cmpR (op_notIn_seqK (K := K) rfl) (pv 3) (pv 2) (by rfl))))))) (fun _ _ _ _ _ => (pv 3)))))))), ?_⟩
  refine q_drop (v := .non) (ev_call (ea_cons (ev_var rfl) ea_nil) fun H1 e Q1 q1 E1 => ⟨d, ns, row, rfl, hO.ex' e, O, fun H2 e2 => q1 H2 e2⟩) fun H1 e1 => ?_
  refine ⟨_, rfl, d, _, _, _, rfl, hO.ex' e1, O.small, fun v H2 e2 ⟨t, l, r, ow, fl, D, L, R, hv, ht, hl, hr, hOw, hRe⟩ => ?_⟩
  subst hv
  refine ⟨t, _, rfl, st_of ht, rfl, _, _, rfl, _, _, rfl, rfl, ?_⟩
  have e02 := e1.trans e2
  obtain ⟨kvs, h1, h2, h3⟩ := OrdAt.get (hO.ex' e02)
  have hz : kvs.length ≤ 40000 := by have := O.few; have h := congrArg List.length h2; rw [List.length_map, List.length_map] at h; omega
  have hl' : H2 l = some (.lst ((ns.filter fun n => !decide (kS n ∈ L)).map V.str)) := by
    rw [hl, List.filter_map, List.map_map]; rfl
  have key : ∀ k ∈ kvs.map (·.1), ∃ n ∈ ns, k = kS n := fun k hk => by
    rw [h2] at hk
    obtain ⟨n, hn, e⟩ := List.mem_map.mp hk
    exact ⟨n, hn, e.symm⟩
  have nl : ∀ {c : Addr} {ys : List V}, H2 c = some (.lst ys) → c ≠ d := fun h => ne_of h h1 (by intro z; cases z)
  refine s_retL (el_lcKF kvs (fun k => match k with | .inr n => decide (kS n ∈ L) && !decide (n ∈ R) | .inl _ => false) kV rfl h1 hz (fun x => rfl) (fun od k hk H4 e4 => ?_) (fun od k hk H4 e4 _ => ev_var rfl)) fun p H3 hp e3 hp3 => k _ _ (e02.trans e3) ⟨p, ow, fl, D, L, R, rfl, hOw, hRe, ?_⟩
  · obtain ⟨n, hn, rfl⟩ := key k hk
    have q1 := e4 _ _ (by rw [upd_ne (nl hl')]; exact hl')
    have q2 := e4 _ _ (by rw [upd_ne (nl hr)]; exact hr)
    refine et_is (et_and (a := decide (kS n ∈ L)) (b := !decide (n ∈ R)) (et_is (et_test (ev_op (ev_var rfl) (ev_var rfl) (rv_niL (x := .str n) (sq_of q1) rfl (flat_strs _)))) ?_) (fun _ => et_is (et_test (ev_op (ev_var rfl) (ev_var rfl) (rv_niL (x := .str n) (sq_of q2) rfl (flat_strs _)))) ?_)) (by show _ = (decide (kS n ∈ L) && !decide (n ∈ R)); cases decide (kS n ∈ L) <;> rfl)
    · show (!inV (.str n) _) = _
      rw [inV_str]
      by_cases c : kS n ∈ L <;> simp [c, hn]
    · show (!inV (.str n) _) = _
      rw [inV_str]
  · rw [hp3, h2, List.filter_map, List.map_map]; rfl
end
end K49
/-! K49R -/
/-! Further rules: max with default, dict(enumerate(xs)). -/
namespace K49
open PySem L2 PySem.Spec PyProof.Rows
section
variable {X : Cx}
theorem hold_ints {h : Heap} : ∀ {ns : List Int} {its : List Value}, Vals (ns.map V.int) its → PySem.W.HoldAll h its ns
  | [], _, .nil => ⟨_, .nil⟩
  | n :: ns, _, .cons r rr => by
    obtain ⟨t, rfl⟩ := r
    exact PySem.W.HoldAll.cons (PySem.W.holds_int n t) (hold_ints rr)
theorem maxOf_mem (x : Int) (xs : List Int) : PySem.W.maxOf x xs ∈ x :: xs ∧ ∀ y ∈ x :: xs, y ≤ PySem.W.maxOf x xs := by
  unfold PySem.W.maxOf
  induction xs generalizing x with
  | nil => simp
  | cons y ys ih =>
    rw [List.foldl_cons]
    have e : PySem.W.DatumOrd.lt x y = decide (x < y) := rfl
    rw [e]
    by_cases c : x < y
    · rw [if_pos (decide_eq_true c)]
      obtain ⟨h1, h2⟩ := ih y
      refine ⟨List.mem_cons_of_mem _ h1, fun z hz => ?_⟩
      rcases List.mem_cons.mp hz with q | q
      · have := h2 y List.mem_cons_self; omega
      · exact h2 z q
    · rw [if_neg (by simp [c])]
      obtain ⟨h1, h2⟩ := ih x
      refine ⟨?_, fun z hz => ?_⟩
      · rcases List.mem_cons.mp h1 with q | q
        · rw [q]; exact List.mem_cons_self
        · exact List.mem_cons_of_mem _ (List.mem_cons_of_mem _ q)
      · rcases List.mem_cons.mp hz with q | q
        · exact h2 z (by rw [q]; exact List.mem_cons_self)
        · rcases List.mem_cons.mp q with q | q
          · have := h2 x List.mem_cons_self; omega
          · exact h2 z (List.mem_cons_of_mem _ q)
/-- max(xs, default=d) of ints -/
def rMaxDef (K : PySem.W.Frag) : List V → List V → Hp → VK → Prop := fun vs zs H Q => ∃ (a : Addr) (ns : List Int) (d : V), vs = [V.ref a] ∧ zs = [d] ∧ SqL K H a (ns.map V.int) ∧ (ns = [] → Q d H) ∧ ∀ m, m ∈ ns → (∀ y, y ∈ ns → y ≤ m) → Q (.int m) H
theorem cr_maxDef (hc : X.calm = true) (hu : X.A.units + 64 < cLine) : CallRK X (.builtin "max") [Str.ofString "default"] (rMaxDef X.K) := by
  intro pins s σ H vs zs us ws Q I r rz h
  obtain ⟨a, ns, d, rfl, rfl, hs, q0, q⟩ := h
  obtain rfl := Vals.ref1 r
  obtain ⟨w, rfl, rw1⟩ := vals1 rz
  obtain ⟨its, rv, hl, _⟩ := I.list hs
  refine PySem.W.max_list_datum_default (α := Int) (d := w) (I.ok.hd hc) hl.isList (hold_ints rv) (by have : PySem.W.Datum.depth Int ≤ 8 := (by decide); omega) (fun e h' tk hk => ?_) fun y ys i v h' tk e hi hv hk => ?_
  · exact ⟨d, H, I.kept hk, rw1, q0 e⟩
  · obtain ⟨t, rfl⟩ := PySem.W.int_of_holds hv
    obtain ⟨m1, m2⟩ := maxOf_mem y ys
    exact ⟨.int _, H, I.kept hk, ⟨t, rfl⟩, q _ (e ▸ m1) (e ▸ m2)⟩
/-- a dict by 0, 1, .. -/
def enumD (xs : List V) : List (Key × V) := (List.range xs.length).map fun (i : Nat) => (Sum.inl (i : Int), xs.getD i .non)
def tDictEnum (K : PySem.W.Frag) (te : TE) : TE := fun σ H Q => te σ H fun v H1 => ∃ (a : Addr) (xs : List V), v = .ref a ∧ SqL K H1 a xs ∧ ∀ d, H1 d = none → Q (.ref d) (upd H1 d (.dK (enumD xs)))
theorem boot_enum : bootBuiltins "enumerate" = some (.type "enumerate") := by decide +kernel
theorem boot_dict : bootBuiltins "dict" = some (.type "dict") := by decide +kernel
theorem paired_of_at {α β : Type} {F : α → β → Prop} : ∀ {as : List α} {bs : List β}, as.length = bs.length → (∀ (i : Nat) a b, as[i]? = some a → bs[i]? = some b → F a b) → Paired F as bs
  | [], [], _, _ => .nil
  | [], _ :: _, h, _ => by simp at h
  | _ :: _, [], h, _ => by simp at h
  | a :: as, b :: bs, h, f => .cons (f 0 a b rfl rfl) (paired_of_at (by simpa using h) fun i x y h1 h2 => f (i + 1) x y (by simpa using h1) (by simpa using h2))
theorem pe_dictEnum {e : Expr} {te : TE} {p p2 pos pos2 : Pos} (hc : X.calm = true) (hg : Gl X "dict") (hm : X.mg "dict" = none) (hg2 : Gl X "enumerate") (hm2 : X.mg "enumerate" = none) (he : PE X e te)
    (na : starEach [e] X.env = (false, eval e X.env) :: starEach [] X.env := by rfl)
    (na2 : starEach [.Call (.Name "enumerate" p2) [e] [] pos2] X.env = (false, eval (.Call (.Name "enumerate" p2) [e] [] pos2) X.env) :: starEach [] X.env := by rfl) : PE X (.Call (.Name "dict" p) [.Call (.Name "enumerate" p2) [e] [] pos2] [] pos) (tDictEnum X.K te) := by
  refine ⟨fun pins s σ H Q I h => ?_⟩
  refine Call_ (ld_blt I hg hm boot_dict (PyProof.Rows.callWith_type1 (args_cons ?_ na2) na2))
  refine Call_ (ld_blt I hg2 hm2 boot_enum (PyProof.Rows.callWith_type1 (args_cons (thn (he.run pins s σ H _ I h) fun v s1 ⟨x, H1, I1, r1, a, xs, ex, hs, q⟩ => args_nil ?_) na) na))
  subst ex
  cases r1
  obtain ⟨its, rv, hl, hz⟩ := I1.list hs
  refine call_enumerate_list hl.isList fun h' hen hit hsz hk => ?_
  refine args_nil ?_
  have hsz1 : s1.heap.objs.size ≤ h'.objs.size := by rw [hsz]; omega
  obtain ⟨o0, hl0, _⟩ := hl.isList
  have hla : a < s1.heap.objs.size := Heap.lt_size hl0
  generalize hkvs : (List.range its.length).map (fun (i : Nat) => ((Sum.inl (i : Int) : Key), its.getD i .none)) = kvs
  refine call_dict_pairs (knd := mixKind X.prog X.w) (kvs := kvs) (PairArg.enumerate (s1.heap.objs.size + 1) s1.heap.objs.size a (Nat.succ_ne_self _) (Nat.ne_of_lt (Nat.lt_succ_of_lt hla)) (Nat.ne_of_lt hla) its.toArray) (I1.ok.hd hc) ⟨⟨_, hen⟩, hit, hl.isList.at fun o e => hk _ o e⟩ ⟨?_, fun i k v hr => ?_⟩ ?_ fun h2 tk hd hk2 => ?_
  · rw [← hkvs]; simp
  · obtain ⟨⟨t, rfl⟩, hv⟩ := hr
    have hv' : its[i]? = some v := by rw [← hv]; simp
    obtain ⟨hi, e⟩ := List.getElem?_eq_some_iff.mp hv'
    refine ⟨.inl (i : Int), ?_, ?_⟩
    · rw [← hkvs, List.getElem?_map, List.getElem?_range hi]
      simp [List.getD_eq_getElem?_getD, hv']
    · show keyIs (Sum.inl (i : Int)) (.int (i : Int) t) = true
      simp [keyIs, Value.isInt]
  · rw [rv.length] at hz; simpa using hz
  · refine ⟨.ref h'.objs.size, upd H1 h'.objs.size (.dK (enumD xs)), I1.laid (t' := tk) (fun b o e => hk2 b o ?_ (hk b o e)) hsz1 ?_, rfl, q _ (I1.hok.fresh hsz1)⟩
    · intro hb
      have := Heap.lt_size e
      simp at hb
      rcases hb with z | z
      · exact absurd z (Nat.ne_of_lt (Nat.lt_succ_of_lt this))
      · exact absurd z (Nat.ne_of_lt this)
    · have hnd : (kvs.map (·.1)).Nodup := by
        rw [← hkvs, List.map_map]
        exact List.Pairwise.map _ (fun a b h e => h (by have := Sum.inl.inj e; omega)) List.nodup_range
      rw [merged_nil_of_nodup _ hnd] at hd
      refine (⟨?_, beq_eq_false_iff_ne.mpr (Nat.ne_of_gt (Nat.lt_of_lt_of_le I1.big hsz1)), kvs, ?_, hd⟩ : ObjOk X.prog X.w _ _ _ (.dK (enumD xs)))
      · unfold enumD; rw [List.length_map, List.length_range]; exact hz
      · refine paired_of_at (by rw [← hkvs]; unfold enumD; rw [List.length_map, List.length_map, List.length_range, List.length_range, rv.length]) fun i a b ha hb => ?_
        unfold enumD at ha
        rw [← hkvs] at hb
        rw [List.getElem?_map] at ha hb
        obtain ⟨j, hj, rfl⟩ := Option.map_eq_some_iff.mp ha
        obtain ⟨j', hj', rfl⟩ := Option.map_eq_some_iff.mp hb
        have hjj := (List.getElem?_eq_some_iff.mp hj)
        have hjj' := (List.getElem?_eq_some_iff.mp hj')
        obtain ⟨l1, e1⟩ := hjj
        obtain ⟨l2, e2⟩ := hjj'
        rw [List.getElem_range] at e1 e2
        rw [List.length_range] at l1
        subst e1; subst e2
        refine ⟨rfl, ?_⟩
        obtain ⟨u, hu, ru⟩ := rv.get (List.getElem?_eq_getElem l1)
        show L2.RelV (xs.getD i .non) (its.getD i .none)
        rw [List.getD_eq_getElem?_getD, List.getD_eq_getElem?_getD, hu, List.getElem?_eq_getElem l1]
        exact ru
end
end K49
namespace K49
open PySem L2 PySem.Spec PyProof.Rows
/-- z * n, a short text -/
def rep (z : Str) (n : Int) : Str := ⟨(List.replicate n.toNat z.cps).foldl (· ++ ·) #[]⟩
theorem rep_size (z : Str) (n : Int) : (rep z n).cps.size = n.toNat * z.cps.size := by
  have h : ∀ (m : Nat) (acc : Array Nat), ((List.replicate m z.cps).foldl (· ++ ·) acc).size = acc.size + m * z.cps.size := by
    intro m
    induction m with
    | zero => intro acc; simp
    | succ m ih =>
      intro acc
      rw [List.replicate_succ, List.foldl_cons, ih, Array.size_append, Nat.succ_mul]; omega
  show ((List.replicate n.toNat z.cps).foldl (· ++ ·) #[]).size = _
  rw [h]; simp
def rStrMul : R2 := fun x y H Q => ∃ (z : Str) (n : Int), x = .str z ∧ y = .int n ∧ 0 ≤ n ∧ n ≤ 100 ∧ z.length ≤ 100 ∧ Q (.str (rep z n)) H
theorem op_strMul {X : Cx} : OpR X (binaryOp .Mult) rStrMul := by
  intro pins s σ H x y v u Q I rx ry h
  obtain ⟨z, n, rfl, rfl, h0, h1, hz, q⟩ := h
  obtain ⟨t, rfl⟩ := rx
  obtain ⟨t2, rfl⟩ := ry
  refine PySem.P.mul_str ?_ (fun _ _ => ?_) (fun _ _ => ?_) ?_
  · have a1 : ¬ n < -(2 ^ 63 : Int) := by omega
    have a2 : ¬ n ≥ 2 ^ 63 := by omega
    rw [decide_eq_false a1, decide_eq_false a2]; rfl
  · have h2 : (100 : Int) ≤ (2 ^ 63 - 1) / n := Int.le_ediv_of_mul_le (by omega) (by omega)
    omega
  · have : z.length * n.toNat ≤ 100 * 100 := Nat.mul_le_mul hz (by omega)
    unfold Builtin.Str.tooLong
    refine decide_eq_false ?_
    rw [sizeLine_eq]; omega
  · by_cases c : n < 1
    · rw [if_pos c]
      have : n.toNat = 0 := by omega
      refine ⟨by decide, ?_⟩
      refine ⟨.str _, H, I.kept fun b o e => e, ⟨_, rfl⟩, ?_⟩
      unfold rep at q
      rw [this] at q
      exact q
    · rw [if_neg c]
      by_cases d : (n == 1 || z.length == 0) = true
      · rw [if_pos d]
        have e : rep z n = z := by
          unfold rep
          rcases (Bool.or_eq_true _ _).mp d with k | k
          · have : n = 1 := by simpa using k
            rw [this]; simp
          · have : z.cps = #[] := by
              have : z.length = 0 := by simpa using k
              exact Array.eq_empty_of_size_eq_zero this
            have h0 : ∀ m : Nat, (List.replicate m (#[] : Array Nat)).foldl (· ++ ·) #[] = #[] := by
              intro m
              induction m with
              | zero => rfl
              | succ m ih => rw [List.replicate_succ, List.foldl_cons]; simpa using ih
            obtain ⟨c⟩ := z
            obtain rfl : c = #[] := this
            exact congrArg Str.mk (h0 n.toNat)
        refine ⟨.str _, H, I, ⟨_, rfl⟩, ?_⟩
        rw [e] at q
        exact q
      · rw [if_neg d]
        refine ⟨?_, .str _, H, I.kept fun b o e => e, ⟨_, rfl⟩, q⟩
        have h3 := rep_size z n
        have h4 : n.toNat * z.cps.size ≤ 100 * 100 := Nat.mul_le_mul (by omega) hz
        show (rep z n).cps.size ≤ _
        rw [h3, sizeLine_eq]; omega
end K49
/-! K49X -/
/-! an own exception with its own __init__, its context told. -/
namespace L2N
open PySem PySem.Spec PyProof.Rows L2
section
variable {X : Cx} {e : Expr} {es : List Expr} {ta : TA} {p pos : Pos}
theorem pmkN_oex {CX : CXT} {x : Str} {C fI : Addr} {k : Nat} {fd : FuncData} {ps : List Str} {sp : Sp} {ds : List Value} {dvs : List V} (T : OexC X.K C) (iC : PySem.W.findIn X.K (.ref C) "__init__" = some (some (.ref fI))) (tI : PySem.W.typeIn X.K (.ref fI) = some (.type "function"))
    (F1 : FnOk X.prog X.w X.K X.mg X.base CX k fI fd ps sp) (hr : Room (k + 1) X.A) (hb : Binds X.K fd ps ds) (hd : Vals dvs ds) (hx : Passes CX X (fun _ _ _ => False)) (hg : Gl X x) (hm : X.mg x = some (.ref C)) (ha : PA X (e :: es) ta)
    (hdb : (x == ("__debug__" : Str)) = false := by decide) (he : starEach (e :: es) X.env = (false, eval e X.env) :: starEach es X.env := by rfl) (hpl : (backTo pos (starEach es X.env)).any (·.1) = false := by rfl) :
    L2N.PMk X (.Call (.Name x p) (e :: es) [] pos) (tMkO C sp dvs ta) := by
  intro pins s σ H Q I h
  obtain ⟨nm, q, N, bs, bm, sn, sub, ab, col, dd, k0, k1, k2, k3, k5, hC, hbm⟩ := T.cls
  refine wpAny_Call_Name_kw (ld_glob I hg hm ?_ hdb)
  refine PySem.W.callWith_K (h₀ := X.base) I.ok.mod.kin T.kC (thn (ha.run pos pins s σ H _ I h) fun us s1 ⟨vs, H1, I1, r1, hz, q1⟩ => ⟨I1.kIn, ?_⟩) he hpl
  show wpAny _ _ (call (.ref C) us) _ _ _
  obtain ⟨hp, g, dr, tk, os⟩ := s1
  have hsz : hp.objs.size ≤ hp.objs.size + 1 := Nat.le_succ _
  have hn : H1 (hp.objs.size + 1) = none := I1.hok.fresh hsz
  have hq := q1 (hp.objs.size + 1) hn
  have kk : ∀ b o, hp.get? b = some o → ((hp.push (PySem.W.kdv_tup us)).push (PySem.HandSPX.excO C hp.objs.size)).get? b = some o := fun b o e => Heap.get?_push_of_some _ (Heap.get?_push_of_some _ e)
  have hget : ((hp.push (PySem.W.kdv_tup us)).push (PySem.HandSPX.excO C hp.objs.size)).get? (hp.objs.size + 1) = some (PySem.HandSPX.excO C hp.objs.size) := by heap_get
  have I2 : Inv X pins σ (upd H1 (hp.objs.size + 1) (exo (hp.objs.size + 1) C none)) ⟨(hp.push (PySem.W.kdv_tup us)).push (PySem.HandSPX.excO C hp.objs.size), g, dr, tk, os⟩ :=
    I1.laid (t' := tk) (a := hp.objs.size + 1) (o := exo (hp.objs.size + 1) C none) (h' := (hp.push (PySem.W.kdv_tup us)).push (PySem.HandSPX.excO C hp.objs.size)) kk hsz (exo_ok hget)
  have r2 : Vals (V.ref (hp.objs.size + 1) :: (vs ++ dvs)) (Value.ref (hp.objs.size + 1) :: (us ++ ds)) := .cons rfl (r1.append hd)
  have hl : (Value.ref (hp.objs.size + 1) :: us ++ ds).length = ps.length := by
    have e := r2.length
    rw [F1.len _ _ _ _ hq] at e
    exact e.symm
  have hus : us.length ≤ sizeLine := by
    rw [← Paired.length r1, sizeLine_eq]
    omega
  refine wpAny_call (PySem.HandSPX.call_own F.excBase_ValueError (fun Y => PySem.HandSPX.refsVE_contains Y bm hbm) (I1.kIn _ _ hC) (PySem.W.looks_findIn I1.kIn iC) (fun self => PySem.W.bind_fn I1.kIn self tI) hus
    (codeAny_mono (F1.run _ X.stack _ _ ⟨Value.ref (hp.objs.size + 1) :: us, []⟩ (Value.ref (hp.objs.size + 1) :: (us ++ ds)) _ _ (fun _ _ _ => False) (hr.make C us []) (I2.env0.make C us []) (hb _ (Value.ref (hp.objs.size + 1) :: us) I2.kIn hl) r2 hq) fun r s' hq' => ?_))
  cases r with
  | error er => exact hx pins σ _ _ er s' I2 hq'
  | ok fl =>
    cases fl with
    | ret u =>
      obtain ⟨v, H2, os2, bare2, un2, hok2, rv, ev, d, fs, ea, ed, hd1, q2⟩ := hq'
      subst ev
      obtain ⟨h2, g2, d2, t2, os'⟩ := s'
      obtain ⟨t0, G, J, kG, ge, hoe, na⟩ := mk_end0 (d2 := d2) (t2 := t2) I1 hsz kk un2 hok2 os2 bare2 ea ed hd1
      exact ⟨rv, ⟨hp.objs.size + 1, _, _, ⟨G, g2, d2, t2, os'⟩, _, .ref C, some d, rfl, J, kG, ge, hoe, ⟨rfl, rfl, fun vs hv => by cases hv; rfl⟩, rfl, rfl, na, rfl, bare2, raises_own T.exC T.tyC, q2⟩⟩
    | next => exact False.elim hq'
    | brk => exact False.elim hq'
    | cont => exact False.elim hq'
end
end L2N
/-! K49D16 -/
/-! TooFew.__init__, dealt. -/
namespace K49
open PySem L2 Evl
section
variable {P : Program} {w : World} {K : PySem.W.Frag} {mg : Str → Option Value} {base : Heap}
theorem sc_finit : FnScope ["self", "lefts", "rights"] ["self", "lefts", "rights"] (defScope s_TooFew_init) := ⟨rfl, rfl, rfl, by decide +kernel, rfl, by decide +kernel, by decide +kernel⟩
def spFInit (CF : Addr) : Sp := fun vs H Q _ => ∃ (a : Addr) (x y : V), vs = [.ref a, x, y] ∧ H a = some (exo a CF none) ∧ ∀ dx, H dx = none → dx ≠ a → Q .non (upd (upd (upd H dx (exd dx [("lefts", x)])) a (exo a CF (some dx))) dx (exd dx [("rights", y), ("lefts", x)]))
theorem k_finit (T : Tx K mg) : FnOk P w K mg base CX0 1 T.f_finit T.fd_finit ["self", "lefts", "rights"] (spFInit T.CF) := by
  refine T.X_finit.F.ok sc_finit (fun vs H Q E h => ?_) (fun cdv A outer s H vs Q E hr h => ?_)
  · obtain ⟨a, x, y, rfl, _⟩ := h
    rfl
  obtain ⟨a, x, y, rfl, ha, k⟩ := h
  refine ⟨_, PSs.nox (pss_cons (ps_ost (pv 0) (pv 1)) (pss_one (ps_ost (pv 0) (pv 2)))), ?_⟩
  refine ⟨_, rfl, _, rfl, a, T.CF, rfl, T.X_finit.x, T.X_finit.nl, .inl ⟨ha, fun dx hd hda => ?_⟩⟩
  refine ⟨_, rfl, _, rfl, a, T.CF, rfl, T.X_finit.x, T.X_finit.nr, .inr ⟨dx, _, upd_same, by rw [upd_ne hda, upd_same], by simp, ?_⟩⟩
  exact k dx hd hda
/-! ### dealt -/
theorem q_def : True := trivial
structure FewAt (H : Hp) (d : Addr) (ks : List Key) (row : Key → List Str) : Prop where
  ex : ∃ (l r : Addr) (L : List Key) (R : List Str), H d = some (.xd [("rights", .ref r), ("lefts", .ref l)]) ∧ H l = some (.lst (L.map kV)) ∧ H r = some (.lst (R.map V.str)) ∧ L.Nodup ∧ (∀ x ∈ L, x ∈ ks) ∧ R.Nodup ∧ (∀ q, q ∈ R ↔ ∃ x ∈ L, q ∈ row x) ∧ R.length < L.length
def DealP (ks : List Key) (row : Key → List Str) : V → Hp → Prop := fun v H2 => ∃ (g : Addr) (ow : List (Str × Key)) (D : Str → Prop), v = .ref g ∧ H2 g = some (.dK (encK (swp ow))) ∧ Own row ks ow [] D
def spDealt (CF : Addr) : Sp := fun vs H Q E => ∃ (d : Addr) (ks : List Key) (row : Key → List Str) (U : List Str), vs = [.ref d] ∧ RowsU H d ks row ∧ SmallU ks row U ∧ RetP (DealP ks row) H Q ∧
  ∀ dx H2, Ex H H2 → FewAt H2 dx ks row → E (.ref CF) (some dx) H2
theorem sc_dealt : FnScope ["rows", "lefts", "rights", "left", "right"] ["rows"] (defScope s_dealt) := ⟨rfl, rfl, rfl, by decide +kernel, rfl, by decide +kernel, by decide +kernel⟩
theorem k_dealt (T : Tx K mg) : FnOk P w K mg base (L2N.CX P w) 44 T.f_dealt T.fd_dealt ["rows"] (spDealt T.CF) := by
  have G_lacking := k_lacking (P := P) (w := w) (base := base) T
  have G_matching := k_matching (P := P) (w := w) (base := base) T
  have G_finit := k_finit (P := P) (w := w) (base := base) T
  refine T.d_dealt.F.ok sc_dealt (fun vs H Q E h => ?_) (fun cdv A outer s H vs Q E hr h => ?_)
  · obtain ⟨d, ks, row, U, rfl, _⟩ := h
    rfl
  obtain ⟨d, ks, row, U, rfl, hR, hS, k, kE⟩ := h
  have hu := hu_of hr
  refine ⟨_, (pss_cons (ps_set (i := 1) sc_dealt.nd rfl (Or.inl rfl) (pe_call G_lacking (hr.mono (by decide)) rfl T.d_lacking.g T.d_lacking.F.kp T.d_lacking.b .nil pass0 (pa_cons (pv 0) pa_nil)))
    (pss_cons (ps_if (pt_cmpR op_eq (pe_callB call_len_seq (by rfl) T.B.len PySem.boot_len (pa_cons (pv 1) pa_nil)) pe_int (nomark _))
      (pss_one (ps_ret (pe_call G_matching (hr.mono (by decide)) rfl T.d_matching.g T.d_matching.F.kp T.d_matching.b .nil pass0 (pa_cons (pv 0) pa_nil))))
      pss_nil)
    (pss_cons (ps_set (i := 2) sc_dealt.nd rfl (Or.inl rfl) (pe_lst pa_nil))
    (pss_cons (ps_for (passes_of rfl) rfl (pi_list (pv 1)) (pg_name (i := 3) sc_dealt.nd rfl (Or.inl rfl))
      (pss_one (ps_for (passes_of rfl) rfl (pi_list (pe_dget hu (pv 0) (pv 3) (fun _ _ => rfl))) (pg_name (i := 4) sc_dealt.nd rfl (Or.inl rfl))
        (pss_one (ps_if (pt_cmpR op_notIn_seq (pv 4) (pv 2) (by rfl))
          (pss_one (ps_expr (pe_bm PySem.F.plainAttrs_list PySem.F.slot_list_append PySem.F.type_list_append mt_append (pv 2) (pa_cons (pv 4) pa_nil))))
          pss_nil)))))
    (pss_one (L2N.ps_raise rfl (L2N.takes_of rfl rfl rfl rfl) (L2N.pmkN_oex T.X_finit.x T.X_finit.i T.X_finit.t G_finit (hr.mono (by decide)) T.X_finit.b .nil pass0 (by rfl) T.X_finit.g (pa_cons (pv 1) (pa_cons (pv 2) pa_nil))))))))), ?_⟩
  refine q_asgP (P := LackP H ks row) (ep_call (ea_cons (ev_var rfl) ea_nil) fun H1 e Q1 q1 E1 => ⟨d, ks, row, U, rfl, hR.ex' e, hS, fun v H2 e2 hv => q1 v H2 e2 hv⟩) fun v H1 e1 ⟨l, ow, fl, D, L, R, hv, hl, hO, hRe, hfl⟩ => ?_
  subst hv
  have hc := Reach.count hO hS.s.nd hRe
  have Lks : ∀ x ∈ L, x ∈ ks := fun x hx => by
    rcases hRe.inL x (.inl hx) with q | ⟨r', _, e⟩
    · exact hO.part.mem_iff.mpr (List.mem_append_right _ q)
    · exact hO.val_in e
  have hLl : L.length ≤ 40 := Nat.le_trans (nodup_le hRe.ndL Lks) hS.s.few
  refine q_when (b := decide (L = [])) (et_is (et_test (ev_op (ev_len (ev_var rfl) (sq_of hl)) ev_c (rv_eq rfl))) (by rw [dec_int, List.length_map]; cases L with | nil => rfl | cons a b => exact (decide_eq_false (by rw [List.length_cons]; omega)).trans (decide_eq_false (by simp)).symm)) (fun hb H2 e2 => ?_) (fun hb H2 e2 => ?_)
  · have hL : L = [] := of_decide_eq_true hb
    have hf0 : fl = [] := by
      rw [hL] at hc
      exact List.eq_nil_of_length_eq_zero (by simp at hc; omega)
    subst hf0
    refine s_retP (P := MatP H ks row) (ep_call (ea_cons (ev_var rfl) ea_nil) fun H3 e Q1 q1 E1 => ⟨d, ks, row, U, rfl, hR.ex' ((e1.trans e2).trans e), hS, fun v H4 e4 ⟨g, ow', fl', D', a1, a2, a3, a4⟩ => q1 v H4 e4 ⟨g, ow', fl', D', a1, fresh_back ((e1.trans e2).trans e) a2, a3, a4⟩⟩) fun v H3 e3 ⟨g, ow', fl', D', a1, a2, a3, a4⟩ => ?_
    have hm := Own.same hO a4 hS.s.nd
    have c1 := hO.len
    have c2 := a4.len
    have : fl' = [] := List.eq_nil_of_length_eq_zero (by simp at c1; omega)
    subst this
    exact k _ _ ((e1.trans e2).trans e3) ⟨g, ow', D', a1, a3, a4⟩
  · have hL : L ≠ [] := of_decide_eq_false hb
    have e12 := e1.trans e2
    refine q_asgL (el_lst ea_nil (by simp)) fun r H3 hr3 e3 h3 => ?_
    have hl2 := e2 _ _ hl
    have hR2 := hR.ex' e12
    obtain ⟨kvs, g1, g2, g3⟩ := hR2.ex
    have fewR : ∀ RR : List Str, RR.Nodup → (∀ q ∈ RR, ∃ x ∈ L, q ∈ row x) → RR.length ≤ 40 := fun RR hn hq => by
      have := nodup_le hn (b := U) fun q hqq => by
        obtain ⟨x, hx, hr⟩ := hq q hqq
        exact hS.inU x (Lks x hx) q hr
      have := hS.fewU
      omega
    refine q_forLn (ev_var rfl) (sq_of (e3 _ _ hl2)) (fun i σ' H' => ∃ (v v' : Option V) (RR : List Str), σ' = [some (.ref d), some (.ref l), some (.ref r), v, v'] ∧ Ex H2 H' ∧ H' r = some (.lst (RR.map V.str)) ∧ RR.Nodup ∧ ∀ q, q ∈ RR ↔ ∃ x ∈ L.take i, q ∈ row x)
      (fun H4 e4 => ⟨_, _, [], rfl, e3.trans e4, e4 _ _ h3, by simp, by simp⟩) (fun i σ' H' _ z => by obtain ⟨_, _, _, _, z, _⟩ := z; exact sq_of (z _ _ hl2)) ?_ ?_
    · rintro i y σ' H4 hy ⟨v, v', RR, rfl, e4, h4, hn4, hm4⟩
      rw [List.getElem?_map] at hy
      obtain ⟨x, hx, rfl⟩ := Option.map_eq_some_iff.mp hy
      have hxL := List.mem_of_getElem? hx
      have tk : L.take (i + 1) = L.take i ++ [x] := by rw [List.take_add_one, hx]; rfl
      obtain ⟨a, a1, a2⟩ := g3 x (Lks x hxL)
      refine s_forLn (ev_dget (ev_var rfl) (ev_var rfl) (v := .ref a) (by rw [← a1]; exact dget_rd (.inl (e4 _ _ g1)))) (sq_of (e4 _ _ a2)) (fun j σ' H' => ∃ (v' : Option V) (RR : List Str), σ' = [some (.ref d), some (.ref l), some (.ref r), some (kV x), v'] ∧ Ex H2 H' ∧ H' r = some (.lst (RR.map V.str)) ∧ RR.Nodup ∧ ∀ q, q ∈ RR ↔ (∃ x ∈ L.take i, q ∈ row x) ∨ q ∈ (row x).take j)
        (fun H5 e5 => ⟨_, RR, rfl, e4.trans e5, e5 _ _ h4, hn4, fun q => by rw [hm4]; simp⟩) (fun j σ' H' _ z => by obtain ⟨_, _, _, z, _⟩ := z; exact sq_of (z _ _ a2)) ?_ ?_
      · rintro j y σ' H5 hy ⟨v', RR, rfl, e5, h5, hn5, hm5⟩
        rw [List.getElem?_map] at hy
        obtain ⟨q, hq, rfl⟩ := Option.map_eq_some_iff.mp hy
        have tq : (row x).take (j + 1) = (row x).take j ++ [q] := by rw [List.take_add_one, hq]; rfl
        have hRR := fewR RR hn5 fun z hz => by
          rcases (hm5 z).mp hz with ⟨x', hx', h⟩ | h
          · exact ⟨x', List.mem_of_mem_take hx', h⟩
          · exact ⟨x, hxL, List.mem_of_mem_take h⟩
        refine s_when (b := !decide (q ∈ RR)) (et_is (et_test (ev_op (ev_var rfl) (ev_var rfl) (rv_niL (x := .str q) (sq_of h5) rfl (flat_strs _)))) (by rw [inV_str])) (fun hb H6 e6 => ?_) (fun hb H6 e6 => ?_)
        · have hqn : q ∉ RR := by simpa using hb
          refine s_app (v := .str q) (e6 _ _ h5) (ev_var rfl) (ev_var rfl) (by rw [List.length_map]; omega) fun H7 e7 => ⟨_, RR ++ [q], rfl, Ex.mut ((e5.trans e6).trans e7) (fresh_back (Ex.refl _) hr3), by rw [upd_same, List.map_append]; rfl, ?_, fun z => ?_⟩
          · refine List.nodup_append.mpr ⟨hn5, by simp, ?_⟩
            intro u hu w hw e
            simp only [List.mem_singleton] at hw
            exact hqn (by rw [← hw, ← e]; exact hu)
          · rw [List.mem_append, hm5, tq, List.mem_append, List.mem_singleton, or_assoc]
        · have hqn : q ∈ RR := by simpa using hb
          refine ⟨_, RR, rfl, e5.trans e6, e6 _ _ h5, hn5, fun z => ?_⟩
          rw [tq, List.mem_append, List.mem_singleton, ← or_assoc, ← hm5]
          exact ⟨.inl, fun h => h.elim id fun h => h ▸ hqn⟩
      · rintro σ' H5 ⟨v', RR, rfl, e5, h5, hn5, hm5⟩
        rw [List.length_map, List.take_length] at hm5
        refine ⟨_, _, RR, rfl, e5, h5, hn5, fun q => ?_⟩
        rw [hm5, tk]
        constructor
        · rintro (⟨x', hx', h⟩ | h)
          · exact ⟨x', List.mem_append_left _ hx', h⟩
          · exact ⟨x, by simp, h⟩
        · rintro ⟨x', hx', h⟩
          rcases List.mem_append.mp hx' with z | z
          · exact .inl ⟨x', z, h⟩
          · have : x' = x := by simpa using z
            rw [this] at h; exact .inr h
    · rintro σ' H4 ⟨v, v', RR, rfl, e4, h4, hn4, hm4⟩
      rw [List.length_map, List.take_length] at hm4
      have hlen : RR.length < L.length := by
        have h1 : RR.length ≤ R.length := nodup_le hn4 fun q hq => by
          obtain ⟨x, hx, h⟩ := (hm4 q).mp hq
          exact hRe.rowL x hx q h
        have h2 : fl ≠ [] := fun z => hL (hfl z)
        have h3 := List.length_pos_iff.mpr h2
        omega
      refine ⟨_, rfl, _, rfl, by simp, fun a ha => ?_⟩
      refine ⟨a, .ref l, .ref r, rfl, upd_same, fun dx hd hda => ⟨rfl, dx, [("rights", .ref r), ("lefts", .ref l)], by rw [upd_ne (Ne.symm hda), upd_same], upd_same, by rw [upd_ne hda] at hd; exact hd, ?_⟩⟩
      have hd4 : H4 dx = none := by rw [upd_ne hda] at hd; exact hd
      have ee : Ex H4 (upd (del (upd (upd (upd (upd H4 a (exo a T.CF none)) dx (exd dx [("lefts", .ref l)])) a (exo a T.CF (some dx))) dx (exd dx [("rights", .ref r), ("lefts", .ref l)])) a) dx (.xd [("rights", .ref r), ("lefts", .ref l)])) := fun c u hc => by
        have h1 : c ≠ a := ne_of_none hc ha
        have h2 : c ≠ dx := ne_of_none hc hd4
        rw [upd_ne h2, del_ne h1, upd_ne h2, upd_ne h1, upd_ne h2, upd_ne h1]; exact hc
      exact kE dx _ ((e12.trans e4).trans ee) ⟨l, r, L, RR, upd_same, ee _ _ (e4 _ _ hl2), ee _ _ h4, hRe.ndL, Lks, hn4, hm4, hlen⟩
end
end K49
/-! K49D17 -/
/-! check_cars, fit_cars. -/
namespace K49
open PySem L2 Evl
/-- name, seats, reach -/
abbrev Car := Str × Int × Int
def Cv (c : Car) : List V := [.str c.1, .int c.2.1, .int c.2.2]
def CarsAt (H : Hp) (l : Addr) (cs : List Car) : Prop := ∃ as : List Addr, H l = some (.lst (as.map V.ref)) ∧ Paired (fun a c => H a = some (.tup (Cv c))) as cs
theorem CarsAt.ex' {H H' : Hp} {l : Addr} {cs : List Car} (R : CarsAt H l cs) (e : Ex H H') : CarsAt H' l cs := by
  obtain ⟨as, h1, h2⟩ := R
  exact ⟨as, e _ _ h1, Paired.mapP h2 fun _ _ h => e _ _ h⟩
structure CarsIn (cs : List Car) : Prop where
  nm : ∀ c ∈ cs, NameOk c.1
  nd : (cs.map (·.1)).Nodup
  few : cs.length ≤ 40
  s0 : ∀ c ∈ cs, 0 ≤ c.2.1
  s1 : ∀ c ∈ cs, c.2.1 ≤ 1000000000
  r0 : ∀ c ∈ cs, 0 ≤ c.2.2
  r1 : ∀ c ∈ cs, c.2.2 ≤ 1000000000
section
variable {P : Program} {w : World} {K : PySem.W.Frag} {mg : Str → Option Value} {base : Heap}
theorem sc_check_cars : FnScope ["cars", "seen", "name", "seats", "reach"] ["cars"] (defScope s_check_cars) := ⟨rfl, rfl, rfl, by decide +kernel, rfl, by decide +kernel, by decide +kernel⟩
def spCCars : Sp := fun vs H Q _ => ∃ (a : Addr) (cs : List Car), vs = [.ref a] ∧ CarsAt H a cs ∧ CarsIn cs ∧ RetV .non H Q
theorem k_check_cars (T : Tx K mg) : FnOk P w K mg base CX0 2 T.f_check_cars T.fd_check_cars ["cars"] spCCars := by
  have G_checked_name := k_checked_name (P := P) (w := w) (base := base) T
  have G_checked_number := k_checked_number (P := P) (w := w) (base := base) T
  refine T.d_check_cars.F.ok sc_check_cars (fun vs H Q E h => ?_) (fun cdv A outer s H vs Q E hr h => ?_)
  · obtain ⟨a, cs, rfl, _⟩ := h
    rfl
  obtain ⟨a, cs, rfl, hC, R, k⟩ := h
  have hu := hu_of hr
  obtain ⟨tl, hMOST_LEFTS⟩ := T.B.LEFTS
  refine ⟨_, PSs.nox (pss_cons (ps_if (pt_cmpR op_gt (pe_callB call_len_seq (by rfl) T.B.len PySem.boot_len (pa_cons (pv 0) pa_nil)) (pe_glob (v := .int 40) rfl hMOST_LEFTS ⟨_, rfl⟩) (nomark _))
      (pss_one ps_never)
      pss_nil)
    (pss_cons (ps_set (i := 1) sc_check_cars.nd rfl (Or.inl rfl) pe_dnewK)
    (pss_one (ps_for PassesOwn.never rfl (pi_list (pv 0)) (pg_tup (by rfl) (pgs_cons (pg_name (i := 2) sc_check_cars.nd rfl (Or.inl rfl)) (pgs_cons (pg_name (i := 3) sc_check_cars.nd rfl (Or.inl rfl)) (pgs_cons (pg_name (i := 4) sc_check_cars.nd rfl (Or.inl rfl)) pgs_nil))))
      (pss_cons (ps_if (pt_cmp (pc_din hu (pe_call G_checked_name (hr.mono (by decide)) rfl T.d_checked_name.g T.d_checked_name.F.kp T.d_checked_name.b .nil pass0 (pa_cons (pv 2) pa_nil)) (pv 1)))
        (pss_one ps_never)
        pss_nil)
      (pss_cons (ps_dput hu (pv 1) (pv 2) pe_bl rfl)
      (pss_cons (ps_expr (pe_call G_checked_number (hr.mono (by decide)) rfl T.d_checked_number.g T.d_checked_number.F.kp T.d_checked_number.b .nil pass0 (pa_cons (pv 3) (pa_cons pe_int pa_nil))))
      (pss_one (ps_expr (pe_call G_checked_number (hr.mono (by decide)) rfl T.d_checked_number.g T.d_checked_number.F.kp T.d_checked_number.b .nil pass0 (pa_cons (pv 4) (pa_cons pe_int pa_nil)))))))))))), ?_⟩
  obtain ⟨as, hb1, hb2⟩ := hC
  have hal : as.length = cs.length := Paired.length hb2
  refine q_when (b := false) (et_is (et_test (ev_op (ev_len (ev_var rfl) (sq_of hb1)) ev_c rv_I0)) (decide_eq_false (by have := R.few; rw [List.length_map]; omega))) (fun z => by cases z) (fun _ H1 e1 => ?_)
  refine fun sn hsn => ?_
  have hsn0 : H sn = none := fresh_back e1 hsn
  have e2 := e1.trans (Ex.new (o := .dK []) hsn)
  refine s_forL (ev_var rfl) (sq_of (e2 _ _ hb1)) (fun i σ' H' => (∃ v1 v2 v3, σ' = [some (.ref a), some (.ref sn), v1, v2, v3]) ∧ Ex H H' ∧ H' sn = some (.dK (seenD ((cs.map (·.1)).take i)))) (fun H3 e3 => ⟨⟨_, _, _, rfl⟩, e2.trans e3, e3 _ _ upd_same⟩) (fun i σ' H' _ z => sq_of (z.2.1 _ _ hb1)) ?_ (fun σ' H' z => k H' z.2.1)
  rintro i x σ' H' hx ⟨⟨v1, v2, v3, rfl⟩, e, hk1⟩
  rw [List.getElem?_map] at hx
  obtain ⟨b, hb, rfl⟩ := Option.map_eq_some_iff.mp hx
  obtain ⟨c, hc, hbc⟩ := paired_get hb2 hb
  have hm := List.mem_of_getElem? hc
  have hci : (cs.map (·.1))[i]? = some c.1 := by rw [List.getElem?_map, hc]; rfl
  have tk : (cs.map (·.1)).take (i + 1) = (cs.map (·.1)).take i ++ [c.1] := by rw [List.take_add_one, hci]; rfl
  have newn : c.1 ∉ (cs.map (·.1)).take i := fun q => by
    have hd := R.nd
    have h4 := List.take_append_drop (i + 1) (cs.map (·.1))
    rw [tk] at h4
    rw [← h4, List.append_assoc] at hd
    exact (List.nodup_append.mp hd).2.2 _ q c.1 (by simp) rfl
  refine ⟨b, Cv c, rfl, st_of (e _ _ hbc), rfl, _, _, rfl, _, _, rfl, _, _, rfl, rfl, ?_⟩
  refine q_when (b := false) (et_is (et_B (ev_din (ev_cname (ev_var rfl) (R.nm c hm)) (ev_var rfl) (dget_rd (k := kS c.1) (.inl hk1)))) (by rw [seenD_val]; exact decide_eq_false newn)) (fun z => by cases z) (fun _ H6 e6 => ?_)
  have hlk : ((cs.map (·.1)).take i).length ≤ 40 := by rw [List.length_take, List.length_map]; have := R.few; omega
  refine q_dput (k := kS c.1) ev_c (ev_var rfl) (ev_var rfl) (e6 _ _ hk1) (by unfold seenD; rw [List.length_map]; omega) fun H7 e7 => ?_
  refine q_drop (ev_cnum (ev_var rfl) ev_c (R.s0 c hm) (R.s1 c hm)) fun H8 e8 => ?_
  refine s_drop (ev_cnum (ev_var rfl) ev_c (R.r0 c hm) (R.r1 c hm)) fun H9 e9 => ⟨⟨_, _, _, rfl⟩, (Ex.mut ((e.trans e6).trans e7) hsn0).trans (e8.trans e9), ?_⟩
  refine e9 _ _ (e8 _ _ ?_)
  rw [upd_same, seenD_put newn, tk]
/-! ### fit_cars -/
def mostOf (ns : List Int) : Int := ns.max?.getD 0
theorem mostOf_is {ns : List Int} {m : Int} (h1 : m ∈ ns) (h2 : ∀ y, y ∈ ns → y ≤ m) : mostOf ns = m := by
  unfold mostOf
  rw [List.max?_eq_some_iff.mpr ⟨h1, h2⟩]; rfl
theorem ev_maxDef {σ : St} {H : Hp} {te : TE} {ns : List Int} (h : EvL te σ H (ns.map V.int)) : Ev (tCKw (rMaxDef K) (tCons te tNil) (tCons (tC (.int 0)) tNil)) σ H (.int (mostOf ns)) := fun H1 e Q q => h H1 e _ fun p H2 _ e2 hp => ⟨p, ns, .int 0, rfl, rfl, sq_of hp, fun z => by subst z; exact q H2 e2, fun m h1 h2 => by rw [← mostOf_is h1 h2]; exact q H2 e2⟩
def fitRow (o : Office) (home : Str) (cs : List Car) (r : List Trip) : List Str := (cs.filter fun c => decide (mostOf (r.map fun t => t.seats) ≤ c.2.1) && decide (o.len home r ≤ c.2.2)).map (·.1)
theorem zip_snd {α β : Type} {F : α → β → Prop} : ∀ {as : List α} {bs : List β}, Paired F as bs → (as.zip bs).map (·.2) = bs ∧ (as.zip bs).map (·.1) = as ∧ ∀ p ∈ as.zip bs, F p.1 p.2
  | [], [], .nil => ⟨rfl, rfl, by simp⟩
  | a :: as, b :: bs, .cons h r => by
    obtain ⟨h1, h2, h3⟩ := zip_snd r
    refine ⟨by rw [List.zip_cons_cons, List.map_cons, h1], by rw [List.zip_cons_cons, List.map_cons, h2], fun p hp => ?_⟩
    rw [List.zip_cons_cons] at hp
    rcases List.mem_cons.mp hp with e | e
    · rw [e]; exact h
    · exact h3 p e
theorem sc_fit_cars : FnScope ["table", "home", "blocks", "cars", "told", "names", "length", "wanted", "name", "car"] ["table", "home", "blocks", "cars"] (defScope s_fit_cars) := ⟨rfl, rfl, rfl, by decide +kernel, rfl, by decide +kernel, by decide +kernel⟩
def spFit (CT CR : Addr) : Sp := fun vs H Q _ => ∃ (p bl cl : Addr) (o : Office) (home : Str) (rows : List (List Trip)) (cs : List Car), vs = [.ref p, .str home, .ref bl, .ref cl] ∧ o.Ok ∧ TableAt CT CR H p o ∧ home ∈ o.ps ∧ LL H bl (rows.map nms) ∧ (∀ r ∈ rows, RowOk o r) ∧ (∀ r ∈ rows, r.length ≤ 1000) ∧ rows.length ≤ 40 ∧ CarsAt H cl cs ∧ CarsIn cs ∧
  RetP (fun v H2 => ∃ l, v = .ref l ∧ LL H2 l (rows.map (fitRow o home cs))) H Q
theorem k_fit_cars (T : Tx K mg) : FnOk P w K mg base CX0 7 T.f_fit_cars T.fd_fit_cars ["table", "home", "blocks", "cars"] (spFit T.CT T.CR) := by
  have G_check_cars := k_check_cars (P := P) (w := w) (base := base) T
  have G_block_length := k_blen (P := P) (w := w) (base := base) T
  have G_trip := k_trip (P := P) (w := w) (base := base) T
  refine T.d_fit_cars.F.ok sc_fit_cars (fun vs H Q E h => ?_) (fun cdv A outer s H vs Q E hr h => ?_)
  · obtain ⟨p, bl, cl, o, home, rows, cs, rfl, _⟩ := h
    rfl
  obtain ⟨p, bl, cl, o, home, rows, cs, rfl, ok, hT, hh, hLL, hrows, hlen, hfew, hC, R, k⟩ := h
  have hu := hu_of hr
  obtain ⟨tl, hMOST_LEFTS⟩ := T.B.LEFTS
  refine ⟨_, PSs.nox (pss_cons (ps_expr (pe_call G_check_cars (hr.mono (by decide)) rfl T.d_check_cars.g T.d_check_cars.F.kp T.d_check_cars.b .nil pass0 (pa_cons (pv 3) pa_nil)))
    (pss_cons (ps_if (pt_cmpR op_gt (pe_callB call_len_seq (by rfl) T.B.len PySem.boot_len (pa_cons (pv 2) pa_nil)) (pe_glob (v := .int 40) rfl hMOST_LEFTS ⟨_, rfl⟩) (nomark _))
      (pss_one ps_never)
      pss_nil)
    (pss_cons (ps_set (i := 4) sc_fit_cars.nd rfl (Or.inl rfl) (pe_lst pa_nil))
    (pss_cons (ps_for PassesOwn.never rfl (pi_list (pv 2)) (pg_name (i := 5) sc_fit_cars.nd rfl (Or.inl rfl))
      (pss_cons (ps_set (i := 6) sc_fit_cars.nd rfl (Or.inr rfl) (pe_call G_block_length (hr.mono (by decide)) rfl T.d_block_length.g T.d_block_length.F.kp T.d_block_length.b .nil pass0 (pa_cons (pv 0) (pa_cons (pv 1) (pa_cons (pv 5) pa_nil)))))
      (pss_cons (ps_set (i := 7) sc_fit_cars.nd rfl (Or.inr rfl) (pe_callBK (cr_maxDef rfl hr.units) (by rfl) T.B.max (by decide +kernel) (pa_cons (pe_lc (own := [("name", 8)]) (g := gName 8) (by rfl) sc_fit_cars.nd (pi_list (pv 5)) (blkOk_by (own := [("name", 8)]) (N := ["table", "home", "blocks", "cars", "told", "names", "length", "wanted", "name", "car"]) (sc := defScope s_fit_cars) (by decide +kernel)) (fun _ _ _ _ _ => pg_name (i := 8) sc_fit_cars.nd rfl (Or.inl rfl)) (fun _ _ _ _ _ => pts_nil) (fun _ _ _ _ _ => (pe_ix (ix_tupK (K := K) rfl) (pe_meth (pv 0) T.C.T T.M_trip.m G_trip (hr.mono (by decide)) T.M_trip.b .nil pass0 (pa_cons (pv 8) pa_nil)) pe_int (fun _ _ => rfl)))) pa_nil) (pk_cons pe_int pk_nil)))
      (pss_one (ps_expr (pe_bm PySem.F.plainAttrs_list PySem.F.slot_list_append PySem.F.type_list_append mt_append (pv 4) (pa_cons (pe_lc (own := [("car", 9)]) (g := gName 9) (by rfl) sc_fit_cars.nd (pi_list (pv 3)) (blkOk_by (own := [("car", 9)]) (N := ["table", "home", "blocks", "cars", "told", "names", "length", "wanted", "name", "car"]) (sc := defScope s_fit_cars) (by decide +kernel)) (fun _ _ _ _ _ => pg_name (i := 9) sc_fit_cars.nd rfl (Or.inl rfl)) (fun _ _ _ _ _ => (pts_one (PW.pt (pw_and (pt_cmpR op_ge (pe_ix (ix_tupK (K := K) rfl) (pv 9) pe_int (fun _ _ => rfl)) (pv 7) (nomark _)) (pw_and1 (pt_cmpR op_ge (pe_ix (ix_tupK (K := K) rfl) (pv 9) pe_int (fun _ _ => rfl)) (pv 6) (nomark _))))))) (fun _ _ _ _ _ => (pe_ix (ix_tupK (K := K) rfl) (pv 9) pe_int (fun _ _ => rfl)))) pa_nil)))))))
    (pss_one (ps_ret (pv 4))))))), ?_⟩
  obtain ⟨bs, hb1, hb2⟩ := hLL
  have hbl : bs.length = rows.length := by have := Paired.length hb2; rw [List.length_map] at this; exact this
  refine q_drop (v := .non) (ev_call (ea_cons (ev_var rfl) ea_nil) fun H1 e Q1 q1 E1 => ⟨cl, cs, rfl, hC.ex' e, R, fun H2 e2 => q1 H2 e2⟩) fun H1 e1 => ?_
  refine q_when (b := false) (et_is (et_test (ev_op (ev_len (ev_var rfl) (sq_of (e1 _ _ hb1))) ev_c rv_I0)) (decide_eq_false (by rw [List.length_map]; omega))) (fun z => by cases z) (fun _ H2 e2 => ?_)
  refine q_asgL (el_lst ea_nil (by simp)) fun l H3 hl e3 h3 => ?_
  have e12 := e1.trans e2
  have hl0 : H l = none := fresh_back e12 hl
  have e13 := e12.trans e3
  obtain ⟨as, hc1, hc2⟩ := hC
  have hcl : as.length = cs.length := Paired.length hc2
  refine q_forLn (ev_var rfl) (sq_of (e13 _ _ hb1)) (fun i σ' H' => (∃ v1 v2 v3 v4 v5, σ' = [some (.ref p), some (.str home), some (.ref bl), some (.ref cl), some (.ref l), v1, v2, v3, v4, v5]) ∧ Ex H H' ∧ ∃ ls : List Addr, H' l = some (.lst (ls.map V.ref)) ∧ ListsAt H' ls ((rows.take i).map (fitRow o home cs)) ∧ ∀ b ∈ ls, b ≠ l)
    (fun H4 e4 => ⟨⟨_, _, _, _, _, rfl⟩, e13.trans e4, [], e4 _ _ h3, .nil, by simp⟩) (fun i σ' H' _ z => sq_of (z.2.1 _ _ hb1)) ?_ ?_
  · rintro i x σ' H' hx ⟨⟨v1, v2, v3, v4, v5, rfl⟩, e, ls, hls, hL, hnl⟩
    rw [List.getElem?_map] at hx
    obtain ⟨b, hb, rfl⟩ := Option.map_eq_some_iff.mp hx
    obtain ⟨ns, hn, hbn⟩ := paired_get hb2 hb
    rw [List.getElem?_map] at hn
    obtain ⟨r, hr', rfl⟩ := Option.map_eq_some_iff.mp hn
    have hrm := List.mem_of_getElem? hr'
    have hro := hrows r hrm
    have hrl := hlen r hrm
    have tk : rows.take (i + 1) = rows.take i ++ [r] := by rw [List.take_add_one, hr']; rfl
    refine q_asg (v := .int (o.len home r)) (ev_blen (ev_var rfl) ok (hT.ex' e) (ev_var rfl) hh (ev_var rfl) (sq_of (e _ _ hbn)) hro hrl) fun H5 e5 => ?_
    have e05 := e.trans e5
    have seats : EvL (tLc (iList K (tVar 5)) (gName 8) tYes (tOp (rIxT K) (tMeth T.CT "trip" (spTrip T.CT T.CR) [] E0 (tVar 0) (tCons (tVar 8) tNil)) (tC (.int 5))) [8]) [some (.ref p), some (.str home), some (.ref bl), some (.ref cl), some (.ref l), some (.ref b), some (.int (o.len home r)), v3, v4, v5] H5 ((r.map fun t => t.seats).map V.int) := by
      have q := el_lcF (K := K) (σ := [some (.ref p), some (.str home), some (.ref bl), some (.ref cl), some (.ref l), some (.ref b), some (.int (o.len home r)), v3, v4, v5]) (H := H5) (a := b) (tl := tVar 5) (tt := tYes) (te := tOp (rIxT K) (tMeth T.CT "trip" (spTrip T.CT T.CR) [] E0 (tVar 0) (tCons (tVar 8) tNil)) (tC (.int 5))) (vs := [8]) (j := 8) r (fun t => V.str t.name) (fun _ => true) (fun t => V.int t.seats) (ev_var rfl)
        (by have := sq_of (K := K) (e05 _ _ hbn); unfold nms at this; rw [List.map_map] at this; exact this) (by omega) (fun x => rfl) (fun x hx H1 e => et_yes)
        (fun x hx H1 e6 _ => ev_op (ev_trip (ev_var rfl) (hT.ex' (e05.trans e6)) (ev_var rfl) (hro.mem x hx)) ev_c (rv_ixT (st_of ((e05.trans e6) _ _ (hT.tup (hro.mem x hx)))) rfl))
      rw [filter_all] at q
      rw [List.map_map]
      exact q
    refine q_asg (v := .int (mostOf (r.map fun t => t.seats))) (ev_maxDef (ns := r.map fun t => t.seats) seats) fun H6 e6 => ?_
    generalize hm : mostOf (r.map fun t => t.seats) = m
    have e06 := e05.trans e6
    obtain ⟨z1, z2, z3⟩ := zip_snd hc2
    refine s_appL (xs := ls.map V.ref) (ys := (fitRow o home cs r).map V.str) (e6 _ _ (e5 _ _ hls)) (ev_var rfl) ?_ (by
        have := Paired.length hL
        rw [List.length_map, List.length_take] at this
        rw [List.length_map]; omega) fun u H7 hu' e7 hu7 => ?_
    · have q := el_lcF (K := K) (σ := [some (.ref p), some (.str home), some (.ref bl), some (.ref cl), some (.ref l), some (.ref b), some (.int (o.len home r)), some (.int m), v4, v5]) (H := H6) (a := cl) (tl := tVar 3) (tt := tAnd (tB (tOp (rI0 fun i j => .bl (decide (i ≥ j))) (tOp (rIxT K) (tVar 9) (tC (.int 1))) (tVar 7))) (tB (tOp (rI0 fun i j => .bl (decide (i ≥ j))) (tOp (rIxT K) (tVar 9) (tC (.int 2))) (tVar 6)))) (te := tOp (rIxT K) (tVar 9) (tC (.int 0))) (vs := [9]) (j := 9)
        (as.zip cs) (fun p => V.ref p.1) (fun p => decide (m ≤ p.2.2.1) && decide (o.len home r ≤ p.2.2.2)) (fun p => V.str p.2.1) (ev_var rfl) (by
          have : (as.zip cs).map (fun p => V.ref p.1) = as.map V.ref := by rw [← z2, List.map_map]; rw [z2]; rfl
          rw [this]; exact sq_of (e06 _ _ hc1)) (by rw [List.length_zip]; have := R.few; omega) (fun x => rfl) (fun x hx H1 e1 => by
          have hp := e1 _ _ (e06 _ _ (z3 x hx))
          refine et_is (et_and (a := decide (m ≤ x.2.2.1)) (b := decide (o.len home r ≤ x.2.2.2)) (et_test (ev_op (ev_op (ev_var rfl) ev_c (rv_ixT (st_of hp) rfl)) (ev_var rfl) rv_I0)) (fun _ => et_test (ev_op (ev_op (ev_var rfl) ev_c (rv_ixT (st_of hp) rfl)) (ev_var rfl) rv_I0))) ?_
          cases decide (m ≤ x.2.2.1) <;> rfl) (fun x hx H1 e1 _ => by
          have hp := e1 _ _ (e06 _ _ (z3 x hx))
          exact ev_op (ev_var rfl) ev_c (rv_ixT (st_of hp) rfl))
      · have e : ((as.zip cs).filter (fun p => decide (m ≤ p.2.2.1) && decide (o.len home r ≤ p.2.2.2))).map (fun p => V.str p.2.1) = (fitRow o home cs r).map V.str := by
          unfold fitRow
          rw [hm]
          conv => rhs; rw [← z1]
          rw [List.filter_map, List.map_map, List.map_map]; rfl
        rw [← e]
        exact q
    · refine ⟨⟨_, _, _, _, _, rfl⟩, Ex.mut (e06.trans e7) hl0, ls ++ [u], by rw [upd_same, List.map_append]; rfl, ?_, ?_⟩
      · have hul : u ≠ l := fun z => by rw [z, e6 _ _ (e5 _ _ hls)] at hu'; cases hu'
        rw [tk, List.map_append]
        refine paired_mem (F := fun (a : Addr) (xs : List Str) => H7 a = some (.lst (xs.map V.str))) (paired_add (hL.mono (exr ((e5.trans e6).trans e7))) hu7) fun b hb x hx => ?_
        rw [upd_ne]; exact hx
        rcases List.mem_append.mp hb with z | z
        · exact hnl b z
        · have : b = u := by simpa using z
          rw [this]; exact hul
      · intro b hb
        rcases List.mem_append.mp hb with z | z
        · exact hnl b z
        · have : b = u := by simpa using z
          rw [this]; exact fun z => by rw [z, e6 _ _ (e5 _ _ hls)] at hu'; cases hu'
  · rintro σ' H' ⟨⟨v1, v2, v3, v4, v5, rfl⟩, e, ls, hls, hL, hnl⟩
    rw [List.length_map, hbl, List.take_length] at hL
    exact s_ret (ev_var rfl) fun H4 e4 => k _ _ (e.trans e4) ⟨l, rfl, ls, e4 _ _ hls, hL.mono (exr e4)⟩
end
end K49
/-! K49D18 -/
/-! give_cars. -/
namespace K49
open PySem L2 Evl
def fitK (F : List (List Str)) : Key → List Str
  | .inl i => F.getD i.toNat []
  | .inr _ => []
def ksN (n : Nat) : List Key := (List.range n).map fun (i : Nat) => (Sum.inl (i : Int) : Key)
theorem ksN_mem {n : Nat} {k : Key} (h : k ∈ ksN n) : ∃ i : Nat, i < n ∧ k = Sum.inl (i : Int) := by
  obtain ⟨i, hi, e⟩ := List.mem_map.mp h
  exact ⟨i, List.mem_range.mp hi, e.symm⟩
theorem ksN_nd (n : Nat) : (ksN n).Nodup := List.pairwise_map.mpr (List.nodup_range.imp fun h e => h (by have := Sum.inl.inj e; omega))
theorem valV_of_mem {k : Key} {v : V} : ∀ {kvs : List (Key × V)}, (kvs.map (·.1)).Nodup → (k, v) ∈ kvs → valV kvs k = some v
  | (a, b) :: r, hn, h => by
    rw [List.map_cons, List.nodup_cons] at hn
    rcases List.mem_cons.mp h with e | h
    · cases e; simp [valV]
    · have hne : a ≠ k := fun z => hn.1 (List.mem_map.mpr ⟨_, h, z.symm⟩)
      have := valV_of_mem hn.2 h
      simpa [valV, hne] using this
theorem enumD_val {xs : List V} {i : Nat} {v : V} (h : xs[i]? = some v) : valV (enumD xs) (Sum.inl (i : Int)) = some v := by
  have hi := (List.getElem?_eq_some_iff.mp h).1
  refine valV_of_mem ?_ (List.mem_map.mpr ⟨i, List.mem_range.mpr hi, ?_⟩)
  · unfold enumD; rw [List.map_map]; exact ksN_nd xs.length
  · rw [List.getD_eq_getElem?_getD, h]; rfl
section
variable {P : Program} {w : World} {K : PySem.W.Frag} {mg : Str → Option Value} {base : Heap}
def GivP (F : List (List Str)) : V → Hp → Prop := fun v H2 => ∃ (p : Addr) (gs : List Str), v = .ref p ∧ H2 p = some (.lst (gs.map V.str)) ∧ gs.length = F.length ∧ gs.Nodup ∧ ∀ (k : Nat) g f, gs[k]? = some g → F[k]? = some f → g ∈ f
def spGive (CT CR CF : Addr) : Sp := fun vs H Q E => ∃ (p bl cl : Addr) (o : Office) (home : Str) (rows : List (List Trip)) (cs : List Car), vs = [.ref p, .str home, .ref bl, .ref cl] ∧ o.Ok ∧ TableAt CT CR H p o ∧ home ∈ o.ps ∧ LL H bl (rows.map nms) ∧ (∀ r ∈ rows, RowOk o r) ∧ (∀ r ∈ rows, r.length ≤ 1000) ∧ rows.length ≤ 40 ∧ CarsAt H cl cs ∧ CarsIn cs ∧
  RetP (GivP (rows.map (fitRow o home cs))) H Q ∧ ∀ dx H2, Ex H H2 → FewAt H2 dx (ksN rows.length) (fitK (rows.map (fitRow o home cs))) → E (.ref CF) (some dx) H2
theorem sc_give_cars : FnScope ["table", "home", "blocks", "cars", "rows", "given", "k"] ["table", "home", "blocks", "cars"] (defScope s_give_cars) := ⟨rfl, rfl, rfl, by decide +kernel, rfl, by decide +kernel, by decide +kernel⟩
theorem k_give_cars (T : Tx K mg) : FnOk P w K mg base (L2N.CX P w) 45 T.f_give_cars T.fd_give_cars ["table", "home", "blocks", "cars"] (spGive T.CT T.CR T.CF) := by
  have G_fit_cars := k_fit_cars (P := P) (w := w) (base := base) T
  have G_dealt := k_dealt (P := P) (w := w) (base := base) T
  refine T.d_give_cars.F.ok sc_give_cars (fun vs H Q E h => ?_) (fun cdv A outer s H vs Q E hr h => ?_)
  · obtain ⟨p, bl, cl, o, home, rows, cs, rfl, _⟩ := h
    rfl
  obtain ⟨p, bl, cl, o, home, rows, cs, rfl, ok, hT, hh, hLL, hrows, hlen, hfew, hC, R, k, kE⟩ := h
  have hu := hu_of hr
  refine ⟨_, (pss_cons (ps_set (i := 4) sc_give_cars.nd rfl (Or.inl rfl) (pe_dictEnum rfl (by rfl) T.B.dict (by rfl) T.B.enum (pe_call G_fit_cars (hr.mono (by decide)) rfl T.d_fit_cars.g T.d_fit_cars.F.kp T.d_fit_cars.b .nil pass0 (pa_cons (pv 0) (pa_cons (pv 1) (pa_cons (pv 2) (pa_cons (pv 3) pa_nil)))))))
    (pss_cons (ps_set (i := 5) sc_give_cars.nd rfl (Or.inr rfl) (pe_callS G_dealt (hr.mono (by decide)) rfl T.d_dealt.g T.d_dealt.F.kp T.d_dealt.b (fun σ => L2N.passAt (L2N.takes_of rfl rfl rfl rfl) σ) (pa_cons (pv 4) pa_nil)))
    (pss_one (ps_ret (pe_lc (own := [("k", 6)]) (g := gName 6) (by rfl) sc_give_cars.nd (pi_range1 (by rfl) T.B.range (pa_cons (pe_callB call_len_seq (by rfl) T.B.len PySem.boot_len (pa_cons (pv 2) pa_nil)) pa_nil)) (blkOk_by (own := [("k", 6)]) (N := ["table", "home", "blocks", "cars", "rows", "given", "k"]) (sc := defScope s_give_cars) (by decide +kernel)) (fun _ _ _ _ _ => pg_name (i := 6) sc_give_cars.nd rfl (Or.inl rfl)) (fun _ _ _ _ _ => pts_nil) (fun _ _ _ _ _ => (pe_dget hu (pv 5) (pv 6) (fun _ _ => rfl)))))))), ?_⟩
  generalize hF : rows.map (fitRow o home cs) = F at k kE
  have hFl : F.length = rows.length := by rw [← hF, List.length_map]
  refine ⟨_, rfl, _, rfl, _, rfl, _, rfl, p, bl, cl, o, home, rows, cs, rfl, ok, hT, hh, hLL, hrows, hlen, hfew, hC, R, fun v H1 e1 ⟨l, hv, ls, hl1, hl2⟩ => ?_⟩
  subst hv
  rw [hF] at hl2
  have hll : ls.length = F.length := Paired.length hl2
  refine ⟨l, _, rfl, sq_of hl1, fun d hd => ?_⟩
  have e2 := e1.trans (Ex.new (o := .dK (enumD (ls.map V.ref))) hd)
  generalize hH2 : upd H1 d (.dK (enumD (ls.map V.ref))) = H2 at e2
  have hd2 : H2 d = some (.dK (enumD (ls.map V.ref))) := by rw [← hH2]; exact upd_same
  have e12 : Ex H1 H2 := by rw [← hH2]; exact Ex.new hd
  have hkeys : (enumD (ls.map V.ref)).map (·.1) = ksN F.length := by
    unfold enumD ksN; rw [List.map_map, List.length_map, hll]; rfl
  have hget : ∀ i : Nat, i < F.length → ∃ a : Addr, valV (enumD (ls.map V.ref)) (Sum.inl (i : Int)) = some (.ref a) ∧ H2 a = some (.lst ((F.getD i []).map V.str)) := fun i hi => by
    obtain ⟨a, ha⟩ : ∃ a, ls[i]? = some a := ⟨ls[i], List.getElem?_eq_getElem (by omega)⟩
    obtain ⟨f, hf, haf⟩ := paired_get hl2 ha
    refine ⟨a, enumD_val (by rw [List.getElem?_map, ha]; rfl), ?_⟩
    rw [List.getD_eq_getElem?_getD, hf]
    exact e12 _ _ haf
  have hR : RowsU H2 d (ksN F.length) (fitK F) := ⟨_, hd2, hkeys, fun kk hk => by
    obtain ⟨i, hi, rfl⟩ := ksN_mem hk
    exact hget i hi⟩
  have hS : SmallU (ksN F.length) (fitK F) (cs.map (·.1)) := by
    have sub : ∀ i : Nat, i < F.length → ∃ r, F.getD i [] = fitRow o home cs r := fun i hi => by
      obtain ⟨f, hf⟩ : ∃ f, F[i]? = some f := ⟨F[i], List.getElem?_eq_getElem hi⟩
      have hf' := hf
      rw [← hF, List.getElem?_map] at hf'
      obtain ⟨r, _, e⟩ := Option.map_eq_some_iff.mp hf'
      exact ⟨r, by rw [List.getD_eq_getElem?_getD, hf]; exact e.symm⟩
    refine ⟨⟨ksN_nd _, by unfold ksN; rw [List.length_map, List.length_range]; omega, fun k hk => ?_, fun x hx => ?_⟩, fun k hk q hq => ?_, by rw [List.length_map]; exact R.few⟩
    · obtain ⟨i, hi, rfl⟩ := ksN_mem hk
      obtain ⟨r, e⟩ := sub i hi
      show (F.getD i []).length ≤ 40
      rw [e]; unfold fitRow
      rw [List.length_map]
      exact Nat.le_trans (List.length_filter_le _ _) R.few
    · obtain ⟨i, _, e⟩ := ksN_mem hx
      cases e
    · obtain ⟨i, hi, rfl⟩ := ksN_mem hk
      obtain ⟨r, e⟩ := sub i hi
      have hq' : q ∈ F.getD i [] := hq
      rw [e] at hq'
      unfold fitRow at hq'
      obtain ⟨c, hc, e⟩ := List.mem_map.mp hq'
      exact List.mem_map.mpr ⟨c, (List.mem_filter.mp hc).1, e⟩
  refine ⟨_, rfl, d, _, _, _, rfl, hR, hS, fun v H3 e3 ⟨g, ow, D, hv, hg, hO⟩ => ?_, fun dx H3 e3 hf => ?_⟩
  · subst hv
    have e03 := e2.trans e3
    obtain ⟨bs, hb1, hb2⟩ := hLL
    have hbl : bs.length = F.length := by have := Paired.length hb2; rw [List.length_map] at this; omega
    have got : ∀ i : Nat, i < F.length → ∃ q, look (swp ow) (Sum.inl (i : Int)) = some q ∧ look ow q = some (Sum.inl (i : Int)) ∧ q ∈ F.getD i [] := fun i hi => by
      have hk : (Sum.inl (i : Int) : Key) ∈ ksN F.length := List.mem_map.mpr ⟨i, List.mem_range.mpr hi, rfl⟩
      have := hO.part.mem_iff.mp hk
      rw [List.append_nil] at this
      obtain ⟨q, hq⟩ := mem_val this
      have hl := look_of_mem hO.nd hq
      refine ⟨q, look_of_mem ?_ (List.mem_map.mpr ⟨_, hq, rfl⟩), hl, hO.edge q _ hl⟩
      have : keys (swp ow) = ow.map (·.2) := by unfold keys swp; rw [List.map_map]; rfl
      rw [this]; exact (hO.vnd hS.s.nd).1
    let gs : List Str := (List.range F.length).map fun (i : Nat) => (look (swp ow) (Sum.inl (i : Int))).getD ⟨#[]⟩
    have hgs : ∀ (i : Nat) q, gs[i]? = some q → i < F.length ∧ look (swp ow) (Sum.inl (i : Int)) = some q := fun i q h => by
      have hi : i < F.length := by have := (List.getElem?_eq_some_iff.mp h).1; simpa [gs] using this
      obtain ⟨q', h1, _⟩ := got i hi
      have : gs[i]? = some q' := by
        show ((List.range F.length).map fun (i : Nat) => (look (swp ow) (Sum.inl (i : Int))).getD ⟨#[]⟩)[i]? = _
        rw [List.getElem?_map, List.getElem?_range hi, Option.map_some, h1]; rfl
      rw [this] at h; cases h
      exact ⟨hi, h1⟩
    have hgl : gs.length = F.length := by simp [gs]
    refine s_retL (el_lcR1 (fun _ => true) (fun i => (gs.map V.str).getD i .non) (ea_cons (ev_len (ev_var rfl) (sq_of (e03 _ _ hb1))) ea_nil) (by rw [List.length_map]; omega) (fun x => rfl) (fun i H4 e4 hi => et_yes) (fun i H4 e4 hi _ => ?_)) fun q H4 hq e4 hq4 => k _ _ (e03.trans e4) ⟨q, gs, rfl, ?_, hgl, ?_, fun i g f hg' hf => ?_⟩
    · have hi' : i < F.length := by rw [List.length_map] at hi; omega
      obtain ⟨q, h1, _⟩ := got i hi'
      have hgi : gs[i]? = some q := by
        obtain ⟨q', hq'⟩ : ∃ q', gs[i]? = some q' := ⟨gs[i], List.getElem?_eq_getElem (by omega)⟩
        have := (hgs i q' hq').2
        rw [h1] at this; cases this; exact hq'
      have dg : DGet H4 g (kV (Sum.inl (i : Int))) (some (.str q)) := by
        have := dget_rd (k := Sum.inl (i : Int)) (.inl (e4 _ _ hg) : Rd H4 g (.dK (encK (swp ow))))
        rw [encK_val, h1] at this
        exact this
      rw [List.getD_eq_getElem?_getD, List.getElem?_map, hgi]
      exact ev_dget (ev_var rfl) (ev_var rfl) dg
    · rw [hq4]
      refine congrArg (fun z => some (HO.lst z)) (given_all (by rw [List.length_map, List.length_map, List.length_map, List.length_range]; omega) fun i hi => ?_)
      rw [List.getD_eq_getElem?_getD]
      have : i < (gs.map V.str).length := by rw [List.length_map] at hi ⊢; omega
      rw [List.getElem?_eq_getElem this]; rfl
    · refine List.pairwise_iff_getElem.mpr fun i j hi hj hij e => ?_
      have a1 := (hgs i _ (List.getElem?_eq_getElem hi)).2
      have a2 := (hgs j _ (List.getElem?_eq_getElem hj)).2
      rw [← e] at a2
      obtain ⟨q1, b1, b2, _⟩ := got i (by omega)
      obtain ⟨q2, c1, c2, _⟩ := got j (by omega)
      rw [a1] at b1; cases b1
      rw [a2] at c1; cases c1
      rw [b2] at c2
      have := Sum.inl.inj (Option.some.inj c2)
      omega
    · obtain ⟨hi, h1⟩ := hgs i g hg'
      obtain ⟨q, c1, c2, c3⟩ := got i hi
      rw [h1] at c1; cases c1
      rw [List.getD_eq_getElem?_getD, hf] at c3
      exact c3
  · exact kE dx H3 (e2.trans e3) (by rw [← hFl]; exact hf)
end
end K49
/-! K49L1 -/
/-! The law's own defs: draw, name. -/
namespace K49
open PySem L2 Evl
def cell (sc : List Int) (k : Int) : Int := if 0 < sc.length then (sc.getD (k % sc.length).toNat 0) % 1000000007 else 5
def draw (sc : List Int) (k m : Int) : Int := (cell sc k + 37 * k + 1) * (48271 + k * k) % 2147483647 / 7 % m
theorem draw_nn {sc : List Int} {k m : Int} (h : 0 < m) : 0 ≤ draw sc k m ∧ draw sc k m < m := ⟨Int.emod_nonneg _ (by omega), Int.emod_lt_of_pos _ h⟩
section
variable {P : Program} {w : World} {K : PySem.W.Frag} {mg : Str → Option Value} {base : Heap}
theorem sc_l_draw : FnScope ["_law_script", "_law_k", "_law_many", "_law_cell"] ["_law_script", "_law_k", "_law_many"] (defScope s_l_draw) := ⟨rfl, rfl, rfl, by decide +kernel, rfl, by decide +kernel, by decide +kernel⟩
def spDraw (K : PySem.W.Frag) : Sp := fun vs H Q _ => ∃ (a : Addr) (sc : List Int) (k m : Int), vs = [.ref a, .int k, .int m] ∧ SqL K H a (sc.map V.int) ∧ 0 ≤ k ∧ k ≤ 1000 ∧ 0 < m ∧ RetV (.int (draw sc k m)) H Q
theorem k_l_draw (T : Tx K mg) : FnOk P w K mg base CX0 1 T.f_l_draw T.fd_l_draw ["_law_script", "_law_k", "_law_many"] (spDraw K) := by
  refine T.d_l_draw.F.ok sc_l_draw (fun vs H Q E h => ?_) (fun cdv A outer s H vs Q E hr h => ?_)
  · obtain ⟨a, sc, k, m, rfl, _⟩ := h
    rfl
  obtain ⟨a, sc, k, m, rfl, hS, h0, h1, hm, q⟩ := h
  have hu := hu_of hr
  refine ⟨_, PSs.nox (pss_cons (ps_set (i := 3) sc_l_draw.nd rfl (Or.inl rfl) pe_int)
    (pss_cons (ps_if (pt_cmpR op_gt (pe_callB call_len_seq (by rfl) T.B.len PySem.boot_len (pa_cons (pv 0) pa_nil)) pe_int (nomark _))
      (pss_one (ps_set (i := 3) sc_l_draw.nd rfl (Or.inl rfl) (pe_op op_mod (pe_ix ix_list (pv 0) (pe_op op_mod (pv 1) (pe_callB call_len_seq (by rfl) T.B.len PySem.boot_len (pa_cons (pv 0) pa_nil))) (fun _ _ => rfl)) pe_int)))
      pss_nil)
    (pss_one (ps_ret (pe_op op_mod (pe_op op_fdiv (pe_op op_mod (pe_op op_mul (pe_op op_add (pe_op op_add (pv 3) (pe_op op_mul pe_int (pv 1))) pe_int) (pe_op op_add pe_int (pe_op op_mul (pv 1) (pv 1)))) pe_int) pe_int) (pv 2)))))), ?_⟩
  have m1 : CMul 37 k := Or.inl ⟨by decide, by decide⟩
  have m2 : CMul k k := Or.inl ⟨by omega, by omega⟩
  have m3 : CMul (cell sc k + 37 * k + 1) (48271 + k * k) := Or.inr (by
    have h2 : 0 ≤ k * k := Int.mul_nonneg h0 h0
    have h3 : k * k ≤ 1000 * 1000 := Int.mul_le_mul h1 h1 h0 (by omega)
    constructor <;> omega)
  have m4 : CDiv ((cell sc k + 37 * k + 1) * (48271 + k * k) % 2147483647) 7 := ⟨by omega, by omega⟩
  refine q_asg (v := .int 5) ev_c fun H1 e1 => ?_
  refine q_ifAsg (b := decide (0 < sc.length)) (v := .int (cell sc k)) (et_is (et_test (ev_op (ev_len (ev_var rfl) (ex_l e1 hS)) ev_c rv_I0)) (by rw [List.length_map]; exact decide_eq_decide.mpr (by omega))) (fun hb => ?_) (fun hb => ?_) fun H2 e2 => ?_
  · have hb := of_decide_eq_true hb
    have hc : cell sc k = (sc.getD (k % sc.length).toNat 0) % 1000000007 := if_pos hb
    rw [hc]
    have hk1 : 0 ≤ k % (sc.length : Int) := Int.emod_nonneg _ (by omega)
    have hk2 : k % (sc.length : Int) < sc.length := Int.emod_lt_of_pos _ (by omega)
    have hi : (k % (sc.length : Int)).toNat < sc.length := by omega
    have hx : (sc.map V.int)[(k % (sc.length : Int)).toNat]? = some (.int (sc.getD (k % sc.length).toNat 0)) := by
      rw [List.getElem?_map, List.getD_eq_getElem?_getD, List.getElem?_eq_getElem hi]; rfl
    have hat : atI (sc.map V.int) (k % (sc.length : Int)) = some (.int (sc.getD (k % sc.length).toNat 0)) := at_of (j := (k % (sc.length : Int)).toNat) (by omega) hx
    refine ev_op (ev_op (ev_var rfl) (ev_op (ev_var rfl) (ev_len (ev_var rfl) (ex_l e1 hS)) (rv_I (by rw [List.length_map]; omega))) (rv_ixL (ex_l e1 hS) (by rw [List.length_map]; exact hat))) ev_c (rv_I (by decide))
  · have hb := of_decide_eq_false hb
    have hc : cell sc k = 5 := if_neg hb
    rw [hc]; rfl
  · exact s_ret (ev_op (ev_op (ev_op (ev_op (ev_op (ev_op (ev_var rfl) (ev_op ev_c (ev_var rfl) (rv_I m1)) rv_I0) ev_c rv_I0) (ev_op ev_c (ev_op (ev_var rfl) (ev_var rfl) (rv_I m2)) rv_I0) (rv_I m3)) ev_c (rv_I (by decide))) ev_c (rv_I m4)) (ev_var rfl) (rv_I hm)) fun H3 e3 => q H3 ((e1.trans e2).trans e3)
end
end K49
/-! K49L2 -/
/-! name, linked, length, like. -/
namespace K49
open PySem L2 Evl
abbrev signs0 : Str := "abcdefghijklmnopqrstuvwyz0123456789"
def sgn (n : Int) : Nat := signs0.cps.toList.getD n.toNat 0
def nameOf (sc : List Int) (k n : Int) : Str := rep "x" (draw sc k 11) ++ ⟨#[sgn n]⟩ ++ rep "x" (draw sc (k + 1) (11 - draw sc k 11) + n % 2)
section
variable {P : Program} {w : World} {K : PySem.W.Frag} {mg : Str → Option Value} {base : Heap}
theorem ev_draw {σ : St} {H : Hp} {ta tb tc : TE} {E : XK} {a : Addr} {sc : List Int} {k m : Int} (ha : Ev ta σ H (.ref a)) (hb : Ev tb σ H (.int k)) (hc : Ev tc σ H (.int m)) (hS : SqL K H a (sc.map V.int)) (h0 : 0 ≤ k) (h1 : k ≤ 1000) (hm : 0 < m) : Ev (tCall (spDraw K) [] E (tCons ta (tCons tb (tCons tc tNil)))) σ H (.int (draw sc k m)) :=
  ev_call (ea_cons ha (ea_cons hb (ea_cons hc ea_nil))) fun H1 e Q q E => ⟨a, sc, k, m, rfl, ex_l e hS, h0, h1, hm, fun H2 e2 => q H2 e2⟩
theorem rv_sm {H : Hp} {z : Str} {n : Int} (h0 : 0 ≤ n) (h1 : n ≤ 100) (hz : z.length ≤ 100) : RV rStrMul (.str z) (.int n) H (.str (rep z n)) := fun H1 _ _ q => ⟨z, n, rfl, rfl, h0, h1, hz, q H1 (Ex.refl H1)⟩
theorem rv_as {H : Hp} {i j : Str} (h : i.length + j.length ≤ sizeLine) : RV (fun x y H Q => ∃ i j, x = .str i ∧ y = .str j ∧ i.length + j.length ≤ sizeLine ∧ Q (.str (i ++ j)) H) (.str i) (.str j) H (.str (i ++ j)) := fun H1 _ _ q => ⟨i, j, rfl, rfl, h, q H1 (Ex.refl H1)⟩
theorem rv_ixS0 {H : Hp} {z : Str} {i : Int} {c : Nat} (hz : z.length ≤ sizeLine) (h : atI z.cps.toList i = some c) : RV rIxS (.str z) (.int i) H (.str ⟨#[c]⟩) := fun H1 _ _ q => ⟨z, i, c, rfl, rfl, hz, h, q H1 (Ex.refl H1)⟩
theorem str_app_length (a b : Str) : (a ++ b).length = a.length + b.length := Array.size_append
theorem sc_l_name : FnScope ["_law_script", "_law_k", "_law_number", "_law_ahead", "_law_behind"] ["_law_script", "_law_k", "_law_number"] (defScope s_l_name) := ⟨rfl, rfl, rfl, by decide +kernel, rfl, by decide +kernel, by decide +kernel⟩
def spName (K : PySem.W.Frag) : Sp := fun vs H Q _ => ∃ (a : Addr) (sc : List Int) (k n : Int), vs = [.ref a, .int k, .int n] ∧ SqL K H a (sc.map V.int) ∧ 0 ≤ k ∧ k ≤ 900 ∧ 0 ≤ n ∧ n < 35 ∧ RetV (.str (nameOf sc k n)) H Q
theorem k_l_name (T : Tx K mg) : FnOk P w K mg base CX0 2 T.f_l_name T.fd_l_name ["_law_script", "_law_k", "_law_number"] (spName K) := by
  have G_l_draw := k_l_draw (P := P) (w := w) (base := base) T
  refine T.d_l_name.F.ok sc_l_name (fun vs H Q E h => ?_) (fun cdv A outer s H vs Q E hr h => ?_)
  · obtain ⟨a, sc, k, n, rfl, _⟩ := h
    rfl
  obtain ⟨a, sc, k, n, rfl, hS, h0, h1, n0, n1, q⟩ := h
  have hu := hu_of hr
  refine ⟨_, PSs.nox (pss_cons (ps_set (i := 3) sc_l_name.nd rfl (Or.inl rfl) (pe_call G_l_draw (hr.mono (by decide)) rfl T.d_l_draw.g T.d_l_draw.F.kp T.d_l_draw.b .nil pass0 (pa_cons (pv 0) (pa_cons (pv 1) (pa_cons pe_int pa_nil)))))
    (pss_cons (ps_set (i := 4) sc_l_name.nd rfl (Or.inl rfl) (pe_op op_add (pe_call G_l_draw (hr.mono (by decide)) rfl T.d_l_draw.g T.d_l_draw.F.kp T.d_l_draw.b .nil pass0 (pa_cons (pv 0) (pa_cons (pe_op op_add (pv 1) pe_int) (pa_cons (pe_op op_sub pe_int (pv 3)) pa_nil)))) (pe_op op_mod (pv 2) pe_int)))
    (pss_one (ps_ret (pe_op op_add_str (pe_op op_add_str (pe_op op_strMul pe_str (pv 3)) (pe_ix ix_str pe_str (pv 2) (fun _ _ => rfl))) (pe_op op_strMul pe_str (pv 4))))))), ?_⟩
  obtain ⟨a0, a1⟩ := draw_nn (sc := sc) (k := k) (m := 11) (by omega)
  obtain ⟨b0, b1⟩ := draw_nn (sc := sc) (k := k + 1) (m := 11 - draw sc k 11) (by omega)
  refine q_asg (v := .int (draw sc k 11)) (ev_draw (ev_var rfl) (ev_var rfl) ev_c hS h0 (by omega) (by omega)) fun H1 e1 => ?_
  refine q_asg (v := .int (draw sc (k + 1) (11 - draw sc k 11) + n % 2)) (ev_op (ev_draw (ev_var rfl) (ev_op (ev_var rfl) ev_c rv_I0) (ev_op ev_c (ev_var rfl) rv_I0) (ex_l e1 hS) (by omega) (by omega) (by omega)) (ev_op (ev_var rfl) ev_c (rv_I (by decide))) rv_I0) fun H2 e2 => ?_
  have hx : ("x" : Str).length ≤ 100 := by decide +kernel
  have hx1 : ("x" : Str).cps.size = 1 := by decide +kernel
  have l1 : (rep "x" (draw sc k 11)).length ≤ 11 := by
    show (rep "x" (draw sc k 11)).cps.size ≤ 11
    rw [rep_size, hx1]; omega
  have l2 : (rep "x" (draw sc (k + 1) (11 - draw sc k 11) + n % 2)).length ≤ 20 := by
    show (rep "x" (draw sc (k + 1) (11 - draw sc k 11) + n % 2)).cps.size ≤ 20
    rw [rep_size, hx1]; omega
  have hsz : signs0.cps.toList.length = 35 := by decide +kernel
  have hg : signs0.cps.toList[n.toNat]? = some (sgn n) := by
    unfold sgn
    rw [List.getD_eq_getElem?_getD, List.getElem?_eq_getElem (by omega)]; rfl
  have hnn : n = (n.toNat : Int) := by omega
  have hat : atI signs0.cps.toList n = some (sgn n) := by
    have := atI_nat hg
    rw [← hnn] at this
    exact this
  have hz0 : signs0.length ≤ sizeLine := by decide +kernel
  refine s_ret (ev_op (ev_op (ev_op ev_c (ev_var rfl) (rv_sm (by omega) (by omega) hx)) (ev_op ev_c (ev_var rfl) (rv_ixS0 hz0 hat)) (rv_as ?_)) (ev_op ev_c (ev_var rfl) (rv_sm (by omega) (by omega) hx)) (rv_as ?_)) fun H3 e3 => q H3 ((e1.trans e2).trans e3)
  · have : (⟨#[sgn n]⟩ : Str).length = 1 := rfl
    rw [sizeLine_eq]; omega
  · rw [str_app_length]
    have : (⟨#[sgn n]⟩ : Str).length = 1 := rfl
    rw [sizeLine_eq]; omega
end
end K49
/-! K49L3 -/
/-! linked, length. -/
namespace K49
open PySem L2 Evl
/-- the law's table of lengths -/
def FarAt (H : Hp) (d : Addr) (ps : List Str) (F : Str → Str → Int) : Prop := ∃ kvs : List (List Key × V), Rd H d (.dT kvs) ∧ ∀ a ∈ ps, ∀ b ∈ ps, valV kvs [kS a, kS b] = some (.int (F a b))
theorem FarAt.mono {H H' : Hp} {d : Addr} {ps : List Str} {F : Str → Str → Int} (h : FarAt H d ps F) (e : ExR H H') : FarAt H' d ps F := by
  obtain ⟨kvs, h1, h2⟩ := h
  exact ⟨kvs, e.rdT h1, h2⟩
section
variable {P : Program} {w : World} {K : PySem.W.Frag} {mg : Str → Option Value} {base : Heap}
/-- far[a, b] -/
theorem ev_far {σ : St} {H : Hp} {tf ta tb : TE} {d : Addr} {ps : List Str} {F : Str → Str → Int} {a b : Str} (hd : Ev tf σ H (.ref d)) (ha : Ev ta σ H (.str a)) (hb : Ev tb σ H (.str b)) (hF : FarAt H d ps F) (ia : a ∈ ps) (ib : b ∈ ps) : Ev (tDGet tf (tTup (tCons ta (tCons tb tNil)))) σ H (.int (F a b)) := fun H1 e Q q => by
  refine hd H1 e _ fun H2 e2 => ?_
  refine eu_tup (ea_cons ha (ea_cons hb ea_nil)) (by simp) H2 (e.trans e2) _ fun p H3 hp e3 h3 => ?_
  obtain ⟨kvs, f1, f2⟩ := hF.mono (exr ((e.trans e2).trans e3))
  have := dget_rdT (k := [kS a, kS b]) f1 h3
  rw [f2 a ia b ib] at this
  exact ⟨d, _, rfl, this, q H3 (e2.trans e3)⟩
theorem sc_l_linked : FnScope ["_law_far", "_law_one", "_law_other"] ["_law_far", "_law_one", "_law_other"] (defScope s_l_linked) := ⟨rfl, rfl, rfl, by decide +kernel, rfl, by decide +kernel, by decide +kernel⟩
def spLLk (K : PySem.W.Frag) : Sp := fun vs H Q _ => ∃ (d t1 t2 : Addr) (ps : List Str) (F : Str → Str → Int) (x y : Trip), vs = [.ref d, .ref t1, .ref t2] ∧ FarAt H d ps F ∧ H t1 = some (.tup x.vs) ∧ H t2 = some (.tup y.vs) ∧ x.goal ∈ ps ∧ y.origin ∈ ps ∧ RetV (.bl (decide (x.finish + F x.goal y.origin ≤ y.start))) H Q
theorem k_l_linked (T : Tx K mg) : FnOk P w K mg base CX0 1 T.f_l_linked T.fd_l_linked ["_law_far", "_law_one", "_law_other"] (spLLk K) := by
  refine T.d_l_linked.F.ok sc_l_linked (fun vs H Q E h => ?_) (fun cdv A outer s H vs Q E hr h => ?_)
  · obtain ⟨d, t1, t2, ps, F, x, y, rfl, _⟩ := h
    rfl
  obtain ⟨d, t1, t2, ps, F, x, y, rfl, hF, h1, h2, hx, hy, q⟩ := h
  have hu := hu_of hr
  refine ⟨_, PSs.nox (pss_one (ps_ret (pe_cmpR op_le (pe_op op_add (pe_ix ix_tup (pv 1) pe_int (fun _ _ => rfl)) (pe_dget hu (pv 0) (pe_tup (pa_cons (pe_ix ix_tup (pv 1) pe_int (fun _ _ => rfl)) (pa_cons (pe_ix ix_tup (pv 2) pe_int (fun _ _ => rfl)) pa_nil))) (fun _ _ => rfl))) (pe_ix ix_tup (pv 2) pe_int (fun _ _ => rfl)) (nomark _)))), ?_⟩
  exact s_ret (ev_op (ev_op (ev_op (ev_var rfl) ev_c (rv_ixT (st_of h1) rfl)) (ev_far (ev_var rfl) (ev_op (ev_var rfl) ev_c (rv_ixT (st_of h1) rfl)) (ev_op (ev_var rfl) ev_c (rv_ixT (st_of h2) rfl)) hF hx hy) rv_I0) (ev_op (ev_var rfl) ev_c (rv_ixT (st_of h2) rfl)) rv_I0) fun H3 e3 => q H3 e3
/-! ### length -/
/-- tuples of trips in a list -/
def TupsL (K : PySem.W.Frag) (H : Hp) (p : Addr) (row : List Trip) : Prop := ∃ as : List Addr, SqL K H p (as.map V.ref) ∧ Paired (fun a t => H a = some (.tup (Trip.vs t))) as row
theorem TupsL.ex' {H H' : Hp} {p : Addr} {row : List Trip} (h : TupsL K H p row) (e : Ex H H') : TupsL K H' p row := by
  obtain ⟨as, h1, h2⟩ := h
  exact ⟨as, ex_l e h1, Paired.mapP h2 fun _ _ h => e _ _ h⟩
theorem TupsL.at {H : Hp} {p : Addr} {row : List Trip} (h : TupsL K H p row) : ∃ xs : List V, SqL K H p xs ∧ xs.length = row.length ∧ ∀ (i : Nat) (t : Trip), row[i]? = some t → ∃ a : Addr, xs[i]? = some (.ref a) ∧ H a = some (.tup t.vs) := by
  obtain ⟨as, h1, h2⟩ := h
  refine ⟨_, h1, by rw [List.length_map]; exact Paired.length h2, fun i t ht => ?_⟩
  have hi : i < as.length := by rw [Paired.length h2]; exact (List.getElem?_eq_some_iff.mp ht).1
  obtain ⟨t', ht', hq⟩ := paired_get h2 (List.getElem?_eq_getElem hi)
  rw [ht] at ht'; cases ht'
  exact ⟨_, by rw [List.getElem?_map, List.getElem?_eq_getElem hi]; rfl, hq⟩
/-- minutes of a row, from its first trip on -/
def runL (F : Str → Str → Int) : List Trip → Int
  | [] => 0
  | [t] => t.finish - t.start
  | t :: u :: r => t.finish - t.start + F t.goal u.origin + runL F (u :: r)
def lenL (F : Str → Str → Int) (home : Str) (row : List Trip) : Int := F home ((row.head?.map fun t => t.origin).getD home) + F ((row.getLast?.map fun t => t.goal).getD home) home + runL F row
theorem runL_snoc (F : Str → Str → Int) : ∀ (row : List Trip) (t : Trip), runL F (row ++ [t]) = runL F row + (t.finish - t.start) + ((row.getLast?.map fun u => F u.goal t.origin).getD 0)
  | [], t => by simp [runL]
  | [u], t => by simp [runL]; omega
  | u :: v :: r, t => by
    have ih := runL_snoc F (v :: r) t
    have e1 : runL F (u :: v :: r ++ [t]) = u.finish - u.start + F u.goal v.origin + runL F (v :: r ++ [t]) := rfl
    have e2 : runL F (u :: v :: r) = u.finish - u.start + F u.goal v.origin + runL F (v :: r) := rfl
    have e3 : (u :: v :: r).getLast? = (v :: r).getLast? := by simp
    rw [e1, e2, e3, ih]; omega
theorem sc_l_length : FnScope ["_law_far", "_law_home", "_law_row", "_law_total", "_law_k"] ["_law_far", "_law_home", "_law_row"] (defScope s_l_length) := ⟨rfl, rfl, rfl, by decide +kernel, rfl, by decide +kernel, by decide +kernel⟩
def spLLen (K : PySem.W.Frag) : Sp := fun vs H Q _ => ∃ (d p : Addr) (ps : List Str) (F : Str → Str → Int) (home : Str) (row : List Trip), vs = [.ref d, .str home, .ref p] ∧ FarAt H d ps F ∧ TupsL K H p row ∧ home ∈ ps ∧ row ≠ [] ∧ row.length ≤ 1000 ∧ (∀ t ∈ row, t.origin ∈ ps ∧ t.goal ∈ ps) ∧ RetV (.int (lenL F home row)) H Q
theorem k_l_length (T : Tx K mg) : FnOk P w K mg base CX0 1 T.f_l_length T.fd_l_length ["_law_far", "_law_home", "_law_row"] (spLLen K) := by
  refine T.d_l_length.F.ok sc_l_length (fun vs H Q E h => ?_) (fun cdv A outer s H vs Q E hr h => ?_)
  · obtain ⟨d, p, ps, F, home, row, rfl, _⟩ := h
    rfl
  obtain ⟨d, p, ps, F, home, row, rfl, hF, hT, hh, hne, hlen, hps, q⟩ := h
  have hu := hu_of hr
  refine ⟨_, PSs.nox (pss_cons (ps_set (i := 3) sc_l_length.nd rfl (Or.inl rfl) (pe_op op_add (pe_dget hu (pv 0) (pe_tup (pa_cons (pv 1) (pa_cons (pe_ix ix_tup (pe_ix ix_list (pv 2) pe_int (fun _ _ => rfl)) pe_int (fun _ _ => rfl)) pa_nil))) (fun _ _ => rfl)) (pe_dget hu (pv 0) (pe_tup (pa_cons (pe_ix ix_tup (pe_ix ix_list (pv 2) (pe_un un_neg pe_int) (fun _ _ => rfl)) pe_int (fun _ _ => rfl)) (pa_cons (pv 1) pa_nil))) (fun _ _ => rfl))))
    (pss_cons (ps_for PassesOwn.never rfl (pi_range1 (by rfl) T.B.range (pa_cons (pe_callB call_len_seq (by rfl) T.B.len PySem.boot_len (pa_cons (pv 2) pa_nil)) pa_nil)) (pg_name (i := 4) sc_l_length.nd rfl (Or.inl rfl))
      (pss_cons (ps_set (i := 3) sc_l_length.nd rfl (Or.inl rfl) (pe_op op_sub (pe_op op_add (pv 3) (pe_ix ix_tup (pe_ix ix_list (pv 2) (pv 4) (fun _ _ => rfl)) pe_int (fun _ _ => rfl))) (pe_ix ix_tup (pe_ix ix_list (pv 2) (pv 4) (fun _ _ => rfl)) pe_int (fun _ _ => rfl))))
      (pss_one (ps_if (pt_cmpR op_gt (pv 4) pe_int (nomark _))
        (pss_one (ps_set (i := 3) sc_l_length.nd rfl (Or.inl rfl) (pe_op op_add (pv 3) (pe_dget hu (pv 0) (pe_tup (pa_cons (pe_ix ix_tup (pe_ix ix_list (pv 2) (pe_op op_sub (pv 4) pe_int) (fun _ _ => rfl)) pe_int (fun _ _ => rfl)) (pa_cons (pe_ix ix_tup (pe_ix ix_list (pv 2) (pv 4) (fun _ _ => rfl)) pe_int (fun _ _ => rfl)) pa_nil))) (fun _ _ => rfl)))))
        pss_nil))))
    (pss_one (ps_ret (pv 3))))), ?_⟩
  obtain ⟨xs, hx, hxl, hat⟩ := hT.at
  have hpos : 0 < row.length := List.length_pos_iff.mpr hne
  obtain ⟨t0, ht0⟩ : ∃ t, row[0]? = some t := ⟨row[0], List.getElem?_eq_getElem hpos⟩
  obtain ⟨tz, htz⟩ : ∃ t, row.getLast? = some t := ⟨row.getLast hne, List.getLast?_eq_some_getLast hne⟩
  obtain ⟨a0, b0, c0⟩ := hat 0 t0 ht0
  have htz' : row[row.length - 1]? = some tz := by rw [← List.getLast?_eq_getElem?]; exact htz
  obtain ⟨az, bz, cz⟩ := hat _ tz htz'
  have hlast : atI xs (-1) = some (.ref az) := atI_lastO (by rw [List.getLast?_eq_getElem?, hxl]; exact bz)
  obtain ⟨m0, _⟩ := hps t0 (List.mem_of_getElem? ht0)
  obtain ⟨_, mz⟩ := hps tz (List.mem_of_getElem? htz')
  refine q_asg (v := .int (F home t0.origin + F tz.goal home)) (ev_op (ev_far (ev_var rfl) (ev_var rfl) (ev_op (ev_op (ev_var rfl) ev_c (rv_ixL hx (at_of (j := 0) rfl b0))) ev_c (rv_ixT (st_of c0) rfl)) hF hh m0)
    (ev_far (ev_var rfl) (ev_op (ev_op (ev_var rfl) (ev_un ev_c ru_neg) (rv_ixL hx hlast)) ev_c (rv_ixT (st_of cz) rfl)) (ev_var rfl) hF mz hh) rv_I0) fun H1 e1 => ?_
  refine q_forR1 (n := (row.length : Int)) (ea_cons (by have := ev_len (K := K) (σ := [some (V.ref d), some (.str home), some (.ref p), some (.int (F home t0.origin + F tz.goal home)), none]) (ta := tVar 2) (ev_var rfl) (ex_l e1 hx); rw [hxl] at this; exact this) ea_nil) (by omega)
    (fun i σ' H' => (∃ v, σ' = [some (.ref d), some (.str home), some (.ref p), some (.int (F home t0.origin + F tz.goal home + runL F (row.take i))), v]) ∧ Ex H H')
    (fun H2 e2 => ⟨⟨none, by rw [List.take_zero, show runL F [] = 0 from rfl, Int.add_zero]; rfl⟩, e1.trans e2⟩) ?_ ?_
  · rintro i σ' H' hi ⟨⟨v, rfl⟩, e⟩
    have hi' : i < row.length := by omega
    obtain ⟨t, ht⟩ : ∃ t, row[i]? = some t := ⟨row[i], List.getElem?_eq_getElem hi'⟩
    obtain ⟨a, b, c⟩ := hat i t ht
    have tk : row.take (i + 1) = row.take i ++ [t] := by rw [List.take_add_one, ht]; rfl
    have hrun := runL_snoc F (row.take i) t
    rw [← tk] at hrun
    have ixE : ∀ {σ : St} {H9 : Hp} {j : Int} {vv : V} {ti : TE}, Ex H H9 → σ[2]? = some (some (.ref p)) → Ev ti σ H9 (.int (i : Int)) → atI t.vs j = some vv → Ev (tOp (rIxT K) (tOp (rIxL K) (tVar 2) ti) (tC (.int j))) σ H9 vv := fun e9 hσ hti hj =>
      ev_op (ev_op (ev_var hσ) hti (rv_ixL (ex_l e9 hx) (atI_nat b))) ev_c (rv_ixT (st_of (e9 _ _ c)) hj)
    refine q_asg (v := .int (F home t0.origin + F tz.goal home + runL F (row.take i) + t.finish - t.start)) (ev_op (ev_op (ev_var rfl) (ixE e rfl (ev_var rfl) rfl) rv_I0) (ixE e rfl (ev_var rfl) rfl) rv_I0) fun H2 e2 => ?_
    have e02 := e.trans e2
    refine s_when (b := decide (0 < i)) (et_is (et_test (ev_op (ev_var rfl) ev_c rv_I0)) (decide_eq_decide.mpr (by omega))) (fun hb H3 e3 => ?_) (fun hb H3 e3 => ?_)
    · have hb := of_decide_eq_true hb
      obtain ⟨u, hu'⟩ : ∃ u, row[i - 1]? = some u := ⟨row[i - 1], List.getElem?_eq_getElem (by omega)⟩
      obtain ⟨au, bu, cu⟩ := hat (i - 1) u hu'
      have e03 := e02.trans e3
      have hlast' : (row.take i).getLast? = some u := by
        rw [List.getLast?_eq_getElem?, List.length_take, Nat.min_eq_left (by omega), List.getElem?_take_of_lt (by omega)]; exact hu'
      refine s_asg (ev_op (ev_var rfl) (ev_far (ev_var rfl) (ev_op (ev_op (ev_var rfl) (ev_op (ev_var rfl) ev_c rv_I0) (rv_ixL (ex_l e03 hx) (at_of (j := i - 1) (by omega) bu))) ev_c (rv_ixT (st_of (e03 _ _ cu)) rfl)) (ixE e03 rfl (ev_var rfl) rfl) (hF.mono (exr e03)) (hps u (List.mem_of_getElem? hu')).2 (hps t (List.mem_of_getElem? ht)).1) rv_I0) fun H4 e4 => ⟨⟨some (.int (i : Int)), ?_⟩, e03.trans e4⟩
      have ez : F home t0.origin + F tz.goal home + runL F (row.take i) + t.finish - t.start + F u.goal t.origin = F home t0.origin + F tz.goal home + runL F (row.take (i + 1)) := by
        rw [hrun, hlast']; simp; omega
      rw [← ez]; rfl
    · have hb := of_decide_eq_false hb
      have hi0 : i = 0 := by omega
      refine ⟨⟨some (.int (i : Int)), ?_⟩, e02.trans e3⟩
      have ez : F home t0.origin + F tz.goal home + runL F (row.take i) + t.finish - t.start = F home t0.origin + F tz.goal home + runL F (row.take (i + 1)) := by
        rw [hrun]; subst hi0; simp; omega
      rw [← ez]; rfl
  · rintro σ' H' ⟨⟨v, rfl⟩, e⟩
    refine s_ret (ev_var rfl) fun H2 e2 => ?_
    have ez : F home t0.origin + F tz.goal home + runL F (row.take (row.length : Int).toNat) = lenL F home row := by
      rw [Int.toNat_natCast, List.take_length]
      unfold lenL
      have : row.head? = some t0 := by rw [List.head?_eq_getElem?]; exact ht0
      rw [this, htz]; rfl
    rw [ez]
    exact q H2 (e.trans e2)
end
end K49
/-! K49L4 -/
/-! ways. -/
namespace K49
open PySem L2 Evl
def plc (ps : List Str) (i : Nat) : Str := ps.getD i ⟨#[]⟩
def ringW (sc : List Int) (ps : List Str) (scale : Int) (k : Nat) : Way Str := (plc ps k, plc ps ((k + 1) % ps.length), 1 + draw sc (10 + k) (30 * scale))
def moreW (sc : List Int) (ps : List Str) (scale : Int) (k : Nat) : Way Str :=
  (plc ps (draw sc (20 + k) (ps.length * ps.length) % ps.length).toNat, plc ps (draw sc (20 + k) (ps.length * ps.length) / ps.length).toNat, 1 + draw sc (30 + k) (30 * scale))
def waysOf (sc : List Int) (ps : List Str) (scale : Int) : List (Way Str) := (List.range ps.length).map (ringW sc ps scale) ++ (List.range (draw sc 4 9).toNat).map (moreW sc ps scale)
theorem plc_at {ps : List Str} {i : Nat} (h : i < ps.length) : (ps.map V.str)[i]? = some (.str (plc ps i)) := by
  unfold plc
  rw [List.getElem?_map, List.getD_eq_getElem?_getD, List.getElem?_eq_getElem h]; rfl
theorem plc_mem {ps : List Str} {i : Nat} (h : i < ps.length) : plc ps i ∈ ps := by
  unfold plc
  rw [List.getD_eq_getElem?_getD, List.getElem?_eq_getElem h]
  exact List.getElem_mem h
section
variable {P : Program} {w : World} {K : PySem.W.Frag} {mg : Str → Option Value} {base : Heap}
theorem range_snoc {α : Type} (f : Nat → α) (i : Nat) : (List.range (i + 1)).map f = (List.range i).map f ++ [f i] := by rw [List.range_succ, List.map_append]; rfl
theorem ev_lenN {σ : St} {H : Hp} {te : TE} {p : Addr} {xs : List Str} (h : Ev te σ H (.ref p)) (hx : SqL K H p (xs.map V.str)) : Ev (tCB (fun xs H Q => ∃ p ys, xs = [.ref p] ∧ (SqL K H p ys ∨ SqT K H p ys) ∧ Q (.int ys.length) H) (tCons te tNil)) σ H (.int xs.length) := by
  have := ev_len h hx
  rw [List.length_map] at this
  exact this
theorem sc_l_ways : FnScope ["_law_script", "_law_places", "_law_scale", "_law_many", "_law_ways_here", "_law_k", "_law_pair"] ["_law_script", "_law_places", "_law_scale"] (defScope s_l_ways) := ⟨rfl, rfl, rfl, by decide +kernel, rfl, by decide +kernel, by decide +kernel⟩
def spWays (K : PySem.W.Frag) : Sp := fun vs H Q _ => ∃ (a b : Addr) (sc : List Int) (ps : List Str) (scale : Int), vs = [.ref a, .ref b, .int scale] ∧ SqL K H a (sc.map V.int) ∧ H b = some (.lst (ps.map V.str)) ∧ 0 < ps.length ∧ ps.length ≤ 12 ∧ 1 ≤ scale ∧ scale ≤ 100000 ∧
  RetP (fun v H2 => ∃ p, v = .ref p ∧ WaysAt H2 p (waysOf sc ps scale)) H Q
theorem k_l_ways (T : Tx K mg) : FnOk P w K mg base CX0 2 T.f_l_ways T.fd_l_ways ["_law_script", "_law_places", "_law_scale"] (spWays K) := by
  have G_l_draw := k_l_draw (P := P) (w := w) (base := base) T
  refine T.d_l_ways.F.ok sc_l_ways (fun vs H Q E h => ?_) (fun cdv A outer s H vs Q E hr h => ?_)
  · obtain ⟨a, b, sc, ps, scale, rfl, _⟩ := h
    rfl
  obtain ⟨a, b, sc, ps, scale, rfl, hS, hb, hpos, h12, s1, s2, k⟩ := h
  have hu := hu_of hr
  refine ⟨_, PSs.nox (pss_cons (ps_set (i := 3) sc_l_ways.nd rfl (Or.inl rfl) (pe_callB call_len_seq (by rfl) T.B.len PySem.boot_len (pa_cons (pv 1) pa_nil)))
    (pss_cons (ps_set (i := 4) sc_l_ways.nd rfl (Or.inl rfl) (pe_lst pa_nil))
    (pss_cons (ps_for PassesOwn.never rfl (pi_range1 (by rfl) T.B.range (pa_cons (pv 3) pa_nil)) (pg_name (i := 5) sc_l_ways.nd rfl (Or.inl rfl))
      (pss_one (ps_expr (pe_bm PySem.F.plainAttrs_list PySem.F.slot_list_append PySem.F.type_list_append mt_append (pv 4) (pa_cons (pe_tup (pa_cons (pe_ix ix_list (pv 1) (pv 5) (fun _ _ => rfl)) (pa_cons (pe_ix ix_list (pv 1) (pe_op op_mod (pe_op op_add (pv 5) pe_int) (pv 3)) (fun _ _ => rfl)) (pa_cons (pe_op op_add pe_int (pe_call G_l_draw (hr.mono (by decide)) rfl T.d_l_draw.g T.d_l_draw.F.kp T.d_l_draw.b .nil pass0 (pa_cons (pv 0) (pa_cons (pe_op op_add pe_int (pv 5)) (pa_cons (pe_op op_mul pe_int (pv 2)) pa_nil))))) pa_nil)))) pa_nil)))))
    (pss_cons (ps_for PassesOwn.never rfl (pi_range1 (by rfl) T.B.range (pa_cons (pe_call G_l_draw (hr.mono (by decide)) rfl T.d_l_draw.g T.d_l_draw.F.kp T.d_l_draw.b .nil pass0 (pa_cons (pv 0) (pa_cons pe_int (pa_cons pe_int pa_nil)))) pa_nil)) (pg_name (i := 5) sc_l_ways.nd rfl (Or.inl rfl))
      (pss_cons (ps_set (i := 6) sc_l_ways.nd rfl (Or.inl rfl) (pe_call G_l_draw (hr.mono (by decide)) rfl T.d_l_draw.g T.d_l_draw.F.kp T.d_l_draw.b .nil pass0 (pa_cons (pv 0) (pa_cons (pe_op op_add pe_int (pv 5)) (pa_cons (pe_op op_mul (pv 3) (pv 3)) pa_nil)))))
      (pss_one (ps_expr (pe_bm PySem.F.plainAttrs_list PySem.F.slot_list_append PySem.F.type_list_append mt_append (pv 4) (pa_cons (pe_tup (pa_cons (pe_ix ix_list (pv 1) (pe_op op_mod (pv 6) (pv 3)) (fun _ _ => rfl)) (pa_cons (pe_ix ix_list (pv 1) (pe_op op_fdiv (pv 6) (pv 3)) (fun _ _ => rfl)) (pa_cons (pe_op op_add pe_int (pe_call G_l_draw (hr.mono (by decide)) rfl T.d_l_draw.g T.d_l_draw.F.kp T.d_l_draw.b .nil pass0 (pa_cons (pv 0) (pa_cons (pe_op op_add pe_int (pv 5)) (pa_cons (pe_op op_mul pe_int (pv 2)) pa_nil))))) pa_nil)))) pa_nil))))))
    (pss_one (ps_ret (pv 4))))))), ?_⟩
  have c1 : CMul 30 scale := Or.inl ⟨by decide, by decide⟩
  refine q_asg (v := .int ps.length) (ev_lenN (ev_var rfl) (sq_of hb)) fun H1 e1 => ?_
  refine q_asgL (el_lst ea_nil (by simp)) fun l H2 hl e2 h2 => ?_
  have e02 := e1.trans e2
  have hl0 : H l = none := fresh_back e1 hl
  -- one more
  have addW : ∀ {D : Ends} {H3 : Hp} {σ : St} {tu : TE} {as : List Addr} {ws : List (Way Str)} (wy : Way Str), σ[4]? = some (some (.ref l)) → Ex H H3 → H3 l = some (.lst (as.map V.ref)) → Paired (fun a w => H3 a = some (.tup (Wv w))) as ws → as.length ≤ 1000 → EvU tu σ H3 (Wv wy) →
      (∀ H4, Ex H H4 → (∃ as', H4 l = some (.lst (as'.map V.ref)) ∧ Paired (fun a w => H4 a = some (.tup (Wv w))) as' (ws ++ [wy]) ∧ as'.length = as.length + 1) → D.nx σ H4) →
      tDrop (tBM K "list" rAppend (tVar 4) (tCons tu tNil)) D σ H3 := by
    intro D H3 σ tu as ws wy hσ e3 h3 hp hz hu kk
    refine s_appU (xs := as.map V.ref) h3 (ev_var hσ) hu (by rw [List.length_map]; omega) fun q H4 hq e4 h4 => kk _ (Ex.mut (e3.trans e4) hl0) ⟨as ++ [q], by rw [upd_same, List.map_append]; rfl, ?_, by simp⟩
    have hql : q ≠ l := fun z => by rw [z, h3] at hq; cases hq
    refine paired_mem (F := fun (a : Addr) (w : Way Str) => H4 a = some (.tup (Wv w))) (paired_add (Paired.mapP hp fun _ _ h => e4 _ _ h) h4) fun x hx w' hw => ?_
    rw [upd_ne]; exact hw
    intro z
    rw [z] at hw
    rw [e4 _ _ h3] at hw; cases hw
  refine q_forR1 (n := (ps.length : Int)) (ea_cons (ev_var rfl) ea_nil) (by omega) (fun i σ' H' => (∃ v, σ' = [some (.ref a), some (.ref b), some (.int scale), some (.int ps.length), some (.ref l), v, none]) ∧ Ex H H' ∧ ∃ as, H' l = some (.lst (as.map V.ref)) ∧ Paired (fun a w => H' a = some (.tup (Wv w))) as ((List.range i).map (ringW sc ps scale)))
    (fun H3 e3 => ⟨⟨_, rfl⟩, e02.trans e3, [], e3 _ _ h2, .nil⟩) ?_ ?_
  · rintro i σ' H' hi ⟨⟨v, rfl⟩, e, as, has, hp⟩
    have hi' : i < ps.length := by omega
    have hm : (i + 1) % ps.length < ps.length := Nat.mod_lt _ hpos
    refine addW (ringW sc ps scale i) rfl e has hp (by have := Paired.length hp; simp at this; omega) ?_ fun H4 e4 ⟨as', h1, h2, _⟩ => ⟨⟨_, rfl⟩, e4, as', h1, by rw [range_snoc]; exact h2⟩
    refine eu_tup (ea_cons (ev_op (ev_var rfl) (ev_var rfl) (rv_ixL (sq_of (e _ _ hb)) (atI_nat (plc_at hi')))) (ea_cons (ev_op (ev_var rfl) (ev_op (ev_op (ev_var rfl) ev_c rv_I0) (ev_var rfl) (rv_I (by omega))) (rv_ixL (sq_of (e _ _ hb)) (at_of (j := (i + 1) % ps.length) (by rw [Int.natCast_emod]; rfl) (plc_at hm))))
      (ea_cons (ev_op ev_c (ev_draw (ev_var rfl) (ev_op ev_c (ev_var rfl) rv_I0) (ev_op ev_c (ev_var rfl) (rv_I c1)) (ex_l e hS) (by omega) (by omega) (by omega)) rv_I0) ea_nil))) (by show 3 ≤ 100000; decide)
  rintro σ' H3 ⟨⟨v, rfl⟩, e3, as, has, hp⟩
  rw [Int.toNat_natCast] at hp
  have hal := Paired.length hp
  rw [List.length_map, List.length_range] at hal
  obtain ⟨d0, d1⟩ := draw_nn (sc := sc) (k := 4) (m := 9) (by omega)
  refine q_forR1 (n := draw sc 4 9) (ea_cons (ev_draw (ev_var rfl) ev_c ev_c (ex_l e3 hS) (by omega) (by omega) (by omega)) ea_nil) (by omega) (fun i σ' H' => (∃ v v', σ' = [some (.ref a), some (.ref b), some (.int scale), some (.int ps.length), some (.ref l), v, v']) ∧ Ex H H' ∧ ∃ as, H' l = some (.lst (as.map V.ref)) ∧ Paired (fun a w => H' a = some (.tup (Wv w))) as ((List.range ps.length).map (ringW sc ps scale) ++ (List.range i).map (moreW sc ps scale)))
    (fun H4 e4 => ⟨⟨_, _, rfl⟩, e3.trans e4, as, e4 _ _ has, by rw [List.range_zero, List.map_nil, List.append_nil]; exact Paired.mapP hp fun _ _ h => e4 _ _ h⟩) ?_ ?_
  · rintro i σ' H' hi ⟨⟨v, v', rfl⟩, e, as, has, hp⟩
    have hmm : (0 : Int) < ps.length * ps.length := Int.mul_pos (by omega) (by omega)
    obtain ⟨p0, p1⟩ := draw_nn (sc := sc) (k := 20 + i) (m := ps.length * ps.length) hmm
    have c2 : CMul (ps.length : Int) ps.length := Or.inl ⟨by omega, by omega⟩
    have q0 : 0 ≤ draw sc (20 + i) (ps.length * ps.length) % ps.length := Int.emod_nonneg _ (by omega)
    have q1 : draw sc (20 + i) (ps.length * ps.length) % ps.length < ps.length := Int.emod_lt_of_pos _ (by omega)
    have r0 : 0 ≤ draw sc (20 + i) (ps.length * ps.length) / ps.length := Int.ediv_nonneg p0 (by omega)
    have r1 : draw sc (20 + i) (ps.length * ps.length) / ps.length < ps.length := Int.ediv_lt_of_lt_mul (by omega) p1
    refine q_asg (v := .int (draw sc (20 + i) (ps.length * ps.length))) (ev_draw (ev_var rfl) (ev_op ev_c (ev_var rfl) rv_I0) (ev_op (ev_var rfl) (ev_var rfl) (rv_I c2)) (ex_l e hS) (by omega) (by omega) hmm) fun H4 e4 => ?_
    have e04 := e.trans e4
    refine addW (moreW sc ps scale i) rfl e04 (e4 _ _ has) (Paired.mapP hp fun _ _ h => e4 _ _ h) (by have := Paired.length hp; simp at this; omega) ?_ fun H5 e5 ⟨as', h1, h2, _⟩ => ⟨⟨_, _, rfl⟩, e5, as', h1, by rw [range_snoc, ← List.append_assoc]; exact h2⟩
    refine eu_tup (ea_cons (ev_op (ev_var rfl) (ev_op (ev_var rfl) (ev_var rfl) (rv_I (by omega))) (rv_ixL (sq_of (e04 _ _ hb)) (at_of (j := (draw sc (20 + i) (ps.length * ps.length) % ps.length).toNat) (by omega) (plc_at (by omega)))))
      (ea_cons (ev_op (ev_var rfl) (ev_op (ev_var rfl) (ev_var rfl) (rv_I ⟨by omega, by omega⟩)) (rv_ixL (sq_of (e04 _ _ hb)) (at_of (j := (draw sc (20 + i) (ps.length * ps.length) / ps.length).toNat) (by omega) (plc_at (by omega)))))
      (ea_cons (ev_op ev_c (ev_draw (ev_var rfl) (ev_op ev_c (ev_var rfl) rv_I0) (ev_op ev_c (ev_var rfl) (rv_I c1)) (ex_l e04 hS) (by omega) (by omega) (by omega)) rv_I0) ea_nil))) (by show 3 ≤ 100000; decide)
  · rintro σ' H4 ⟨⟨v, v', rfl⟩, e, as, has, hp⟩
    exact s_ret (ev_var rfl) fun H5 e5 => k _ H5 (e.trans e5) ⟨l, rfl, as, e5 _ _ has, Paired.mapP hp fun _ _ h => e5 _ _ h⟩
end
end K49
/-! K49L5 -/
/-! the law's table of lengths. -/
namespace K49
open PySem L2 Evl
abbrev BIG : Int := 1000000000
structure FarG (kvs : List (List Key × V)) (ps : List Str) (M : Str → Str → Int) : Prop where
  few : kvs.length ≤ 1000
  val : ∀ a ∈ ps, ∀ b ∈ ps, valV kvs [kS a, kS b] = some (.int (M a b))
theorem putK_len_old {κ : Type} [DecidableEq κ] {kvs : List (κ × V)} {k : κ} {v : V} (h : (valV kvs k).isSome = true) : (putK kvs k v).length = kvs.length := by
  unfold putK
  rw [valV_any, if_pos h, List.length_map]
theorem putK_len_le {κ : Type} [DecidableEq κ] (kvs : List (κ × V)) (k : κ) (v : V) : (putK kvs k v).length ≤ kvs.length + 1 := by
  unfold putK
  split
  · rw [List.length_map]; omega
  · simp
theorem key2 {a b x y : Str} : ([kS a, kS b] = [kS x, kS y]) ↔ (a = x ∧ b = y) := by
  constructor
  · intro h
    obtain ⟨h1, h2⟩ := List.cons.inj h
    exact ⟨kS_inj h1, kS_inj (List.cons.inj h2).1⟩
  · rintro ⟨rfl, rfl⟩; rfl
theorem FarG.put {kvs : List (List Key × V)} {ps : List Str} {M : Str → Str → Int} (h : FarG kvs ps M) {a b : Str} (ha : a ∈ ps) (hb : b ∈ ps) (v : Int) : FarG (putK kvs [kS a, kS b] (.int v)) ps (put2 M a b v) := by
  refine ⟨?_, fun x hx y hy => ?_⟩
  · rw [putK_len_old (by rw [h.val a ha b hb]; rfl)]; exact h.few
  · rw [valV_put]
    unfold put2
    by_cases c : x = a ∧ y = b
    · obtain ⟨rfl, rfl⟩ := c
      simp
    · rw [if_neg c, if_neg (fun z => c (by have := key2.mp z; exact ⟨this.1, this.2⟩))]
      exact h.val x hx y hy
section
variable {P : Program} {w : World} {K : PySem.W.Frag} {mg : Str → Option Value} {base : Heap} {σ : St} {H : Hp} {ta tb te : TE} {D : Ends} {tz : TS}
theorem s_dputT {d : Addr} {kvs : List (List Key × V)} {a b : Str} {v : V} (hv : Ev te σ H v) (ho : Ev ta σ H (.ref d)) (hk : EvU tb σ H [.str a, .str b]) (hd : H d = some (.dT kvs)) (hz : kvs.length ≤ 10000) (q : ∀ H1, Ex H H1 → D.nx σ (upd H1 d (.dT (putK kvs [kS a, kS b] v)))) : sDPut ta tb te D σ H :=
  hv H (Ex.refl H) _ fun H1 e1 => ho H1 e1 _ fun H2 e2 => hk H2 (e1.trans e2) _ fun p H3 _ e3 h3 => ⟨d, _, rfl, DPut.t (k := [kS a, kS b]) (((e1.trans e2).trans e3) _ _ hd) h3 (by rw [sizeLine_eq]; omega), q H3 ((e1.trans e2).trans e3)⟩
theorem eu_two' {a b : V} (ha : Ev ta σ H a) (hb : Ev tb σ H b) : EvU (tTup (tCons ta (tCons tb tNil))) σ H [a, b] := eu_tup (ea_cons ha (ea_cons hb ea_nil)) (by simp)
def rMin2 : List V → Hp → VK → Prop := fun xs H Q => ∃ i j, xs = [.int i, .int j] ∧ Q (.int (if j < i then j else i)) H
theorem ev_min2 {i j : Int} (ha : Ev ta σ H (.int i)) (hb : Ev tb σ H (.int j)) : Ev (tCB rMin2 (tCons ta (tCons tb tNil))) σ H (.int (min i j)) := fun H1 e Q q =>
  ha H1 e _ fun H2 e2 => hb H2 (e.trans e2) _ fun H3 e3 => ⟨i, j, rfl, by
    have : (if j < i then j else i) = min i j := by omega
    rw [this]; exact q H3 (e2.trans e3)⟩
theorem ev_intB {b : Bool} (ha : Ev ta σ H (.bl b)) : Ev (tCB (fun xs H Q => (∃ i, xs = [.int i] ∧ Q (.int i) H) ∨ ∃ k, xs = [.bl k] ∧ Q (.int (if k then 1 else 0)) H) (tCons ta tNil)) σ H (.int (if b then 1 else 0)) := fun H1 e Q q =>
  ha H1 e _ fun H2 e2 => .inr ⟨b, rfl, q H2 e2⟩
theorem sc_l_lengths : FnScope ["_law_places", "_law_ways_here", "_law_far", "_law_origin", "_law_goal", "_law_minutes", "_law_amid", "_law_total"] ["_law_places", "_law_ways_here"] (defScope s_l_lengths) := ⟨rfl, rfl, rfl, by decide +kernel, rfl, by decide +kernel, by decide +kernel⟩
def spLens (K : PySem.W.Frag) : Sp := fun vs H Q _ => ∃ (a b : Addr) (ps : List Str) (ws : List (Way Str)), vs = [.ref a, .ref b] ∧ H a = some (.lst (ps.map V.str)) ∧ WaysAt H b ws ∧ ps.length ≤ 12 ∧ ws.length ≤ 60 ∧ (∀ w ∈ ws, w.1 ∈ ps ∧ w.2.1 ∈ ps ∧ 1 ≤ w.2.2) ∧
  RetP (fun v H2 => ∃ d, v = .ref d ∧ FarAt H2 d ps (far BIG ps ws)) H Q
theorem k_l_lengths (T : Tx K mg) : FnOk P w K mg base CX0 1 T.f_l_lengths T.fd_l_lengths ["_law_places", "_law_ways_here"] (spLens K) := by
  refine T.d_l_lengths.F.ok sc_l_lengths (fun vs H Q E h => ?_) (fun cdv A outer s H vs Q E hr h => ?_)
  · obtain ⟨a, b, ps, ws, rfl, _⟩ := h
    rfl
  obtain ⟨a, b, ps, ws, rfl, ha, hb, h12, h60, hws, k⟩ := h
  have hu := hu_of hr
  refine ⟨_, PSs.nox (pss_cons (ps_set (i := 2) sc_l_lengths.nd rfl (Or.inl rfl) pe_dnewT)
    (pss_cons (ps_for PassesOwn.never rfl (pi_list (pv 0)) (pg_name (i := 3) sc_l_lengths.nd rfl (Or.inl rfl))
      (pss_one (ps_for PassesOwn.never rfl (pi_list (pv 0)) (pg_name (i := 4) sc_l_lengths.nd rfl (Or.inl rfl))
        (pss_one (ps_dput hu (pv 2) (pe_tup (pa_cons (pv 3) (pa_cons (pv 4) pa_nil))) (pe_op op_mul (pe_op op_pow pe_int pe_int) (pe_callTy call_int1 (by rfl) T.B.int (by decide +kernel) (pa_cons (pe_cmpR op_ne (pv 3) (pv 4) (nomark _)) pa_nil))) rfl)))))
    (pss_cons (ps_for PassesOwn.never rfl (pi_list (pv 1)) (pg_tup (by rfl) (pgs_cons (pg_name (i := 3) sc_l_lengths.nd rfl (Or.inl rfl)) (pgs_cons (pg_name (i := 4) sc_l_lengths.nd rfl (Or.inl rfl)) (pgs_cons (pg_name (i := 5) sc_l_lengths.nd rfl (Or.inl rfl)) pgs_nil))))
      (pss_one (ps_dput hu (pv 2) (pe_tup (pa_cons (pv 3) (pa_cons (pv 4) pa_nil))) (pe_callB (call_min2 rfl) (by rfl) T.B.min (by decide +kernel) (pa_cons (pv 5) (pa_cons (pe_dget hu (pv 2) (pe_tup (pa_cons (pv 3) (pa_cons (pv 4) pa_nil))) (fun _ _ => rfl)) pa_nil))) rfl)))
    (pss_cons (ps_for PassesOwn.never rfl (pi_list (pv 0)) (pg_name (i := 6) sc_l_lengths.nd rfl (Or.inl rfl))
      (pss_one (ps_for PassesOwn.never rfl (pi_list (pv 0)) (pg_name (i := 3) sc_l_lengths.nd rfl (Or.inl rfl))
        (pss_one (ps_for PassesOwn.never rfl (pi_list (pv 0)) (pg_name (i := 4) sc_l_lengths.nd rfl (Or.inl rfl))
          (pss_cons (ps_set (i := 7) sc_l_lengths.nd rfl (Or.inl rfl) (pe_op op_add (pe_dget hu (pv 2) (pe_tup (pa_cons (pv 3) (pa_cons (pv 6) pa_nil))) (fun _ _ => rfl)) (pe_dget hu (pv 2) (pe_tup (pa_cons (pv 6) (pa_cons (pv 4) pa_nil))) (fun _ _ => rfl))))
          (pss_one (ps_dput hu (pv 2) (pe_tup (pa_cons (pv 3) (pa_cons (pv 4) pa_nil))) (pe_callB (call_min2 rfl) (by rfl) T.B.min (by decide +kernel) (pa_cons (pv 7) (pa_cons (pe_dget hu (pv 2) (pe_tup (pa_cons (pv 3) (pa_cons (pv 4) pa_nil))) (fun _ _ => rfl)) pa_nil))) rfl))))))))
    (pss_one (ps_ret (pv 2))))))), ?_⟩
  refine fun d hd => ?_
  obtain ⟨bs, hb1, hb2⟩ := hb
  have hbl : bs.length = ws.length := Paired.length hb2
  have e0 : Ex H (upd H d (.dT [])) := Ex.new hd
  -- 0 or 10 ** 9
  refine q_forLn (ev_var rfl) (sq_of (e0 _ _ ha)) (fun i σ' H' => (∃ v3 v4, σ' = [some (.ref a), some (.ref b), some (.ref d), v3, v4, none, none, none]) ∧ Ex H H' ∧ ∃ kvs : List (List Key × V), H' d = some (.dT kvs) ∧ kvs.length ≤ i * ps.length ∧ ∀ x y, x ∈ ps.take i → y ∈ ps → valV kvs [kS x, kS y] = some (.int (tab0 BIG x y)))
    (fun H1 e1 => ⟨⟨_, _, rfl⟩, e0.trans e1, [], e1 _ _ upd_same, by simp, by simp⟩) (fun i σ' H' _ z => sq_of (z.2.1 _ _ ha)) ?_ ?_
  · rintro i x σ' H' hx ⟨⟨v3, v4, rfl⟩, e, kvs, hk1, hk2, hk3⟩
    rw [List.getElem?_map] at hx
    obtain ⟨o, ho, rfl⟩ := Option.map_eq_some_iff.mp hx
    have hi := (List.getElem?_eq_some_iff.mp ho).1
    have tk : ps.take (i + 1) = ps.take i ++ [o] := by rw [List.take_add_one, ho]; rfl
    have hin : i * ps.length ≤ 12 * 12 := Nat.mul_le_mul (by omega) h12
    refine s_forLn (ev_var rfl) (sq_of (e _ _ ha)) (fun j σ'' H'' => (∃ v4, σ'' = [some (.ref a), some (.ref b), some (.ref d), some (.str o), v4, none, none, none]) ∧ Ex H H'' ∧ ∃ kvs : List (List Key × V), H'' d = some (.dT kvs) ∧ kvs.length ≤ i * ps.length + j ∧ ∀ x y, (x ∈ ps.take i ∧ y ∈ ps) ∨ (x = o ∧ y ∈ ps.take j) → valV kvs [kS x, kS y] = some (.int (tab0 BIG x y)))
      (fun H1 e1 => ⟨⟨_, rfl⟩, e.trans e1, kvs, e1 _ _ hk1, by omega, fun x y h => by rcases h with h | h; exact hk3 x y h.1 h.2; simp at h⟩) (fun j σ' H' _ z => sq_of (z.2.1 _ _ ha)) ?_ ?_
    · rintro j x σ'' H'' hx ⟨⟨v4, rfl⟩, e', kvs', hk1', hk2', hk3'⟩
      rw [List.getElem?_map] at hx
      obtain ⟨g, hg, rfl⟩ := Option.map_eq_some_iff.mp hx
      have hj := (List.getElem?_eq_some_iff.mp hg).1
      have tg : ps.take (j + 1) = ps.take j ++ [g] := by rw [List.take_add_one, hg]; rfl
      have hv : Ev (tOp (rI CMul fun i j => .int (i * j)) (tOp (rI CPow fun i j => .int (i ^ j.toNat)) (tC (.int 10)) (tC (.int 9))) (tCB (fun xs H Q => (∃ i, xs = [.int i] ∧ Q (.int i) H) ∨ ∃ k, xs = [.bl k] ∧ Q (.int (if k then 1 else 0)) H) (tCons (tOp rNe (tVar 3) (tVar 4)) tNil))) [some (.ref a), some (.ref b), some (.ref d), some (.str o), some (.str g), none, none, none] H'' (.int (tab0 BIG o g)) := by
        have := ev_op (r := rI CMul fun i j => .int (i * j)) (ev_op (r := rI CPow fun i j => .int (i ^ j.toNat)) (σ := [some (V.ref a), some (.ref b), some (.ref d), some (.str o), some (.str g), none, none, none]) (H := H'') (ev_c (v := .int 10)) (ev_c (v := .int 9)) (rv_I ⟨by decide, by decide, by decide⟩)) (ev_intB (ev_op (r := rNe) (ta := tVar 3) (tb := tVar 4) (ev_var rfl) (ev_var rfl) (rv_ne (x := .str o) (y := .str g) rfl))) (rv_I (Or.inl ⟨by decide, by decide⟩))
        have e : (10 : Int) ^ (9 : Int).toNat * (if (!decide (V.str o = V.str g)) then 1 else 0) = tab0 BIG o g := by
          unfold tab0
          by_cases c : o = g
          · subst c; simp
          · have : V.str o ≠ V.str g := fun z => c (V.str.inj z)
            rw [if_neg c, decide_eq_false this]; decide
        rw [e] at this
        exact this
      refine s_dputT hv (ev_var rfl) (eu_two' (ev_var rfl) (ev_var rfl)) hk1' (by omega) fun H3 e3 => ⟨⟨_, rfl⟩, Ex.mut (e'.trans e3) hd, _, upd_same, ?_, fun x y h => ?_⟩
      · have := putK_len_le kvs' [kS o, kS g] (.int (tab0 BIG o g)); omega
      · rw [valV_put]
        by_cases c : [kS x, kS y] = [kS o, kS g]
        · obtain ⟨rfl, rfl⟩ := key2.mp c
          rw [if_pos rfl]
        · rw [if_neg c]
          refine hk3' x y ?_
          rcases h with h | ⟨h1, h2⟩
          · exact .inl h
          · rw [tg] at h2
            rcases List.mem_append.mp h2 with q | q
            · exact .inr ⟨h1, q⟩
            · exact (c (key2.mpr ⟨h1, by simpa using q⟩)).elim
    · rintro σ'' H'' ⟨⟨v4, rfl⟩, e', kvs', hk1', hk2', hk3'⟩
      rw [List.length_map] at hk2' hk3'
      rw [List.take_length] at hk3'
      refine ⟨⟨_, _, rfl⟩, e', kvs', hk1', by rw [Nat.succ_mul]; exact hk2', fun x y hx hy => hk3' x y ?_⟩
      rw [tk] at hx
      rcases List.mem_append.mp hx with q | q
      · exact .inl ⟨q, hy⟩
      · exact .inr ⟨by simpa using q, hy⟩
  rintro σ' H1 ⟨⟨v3, v4, rfl⟩, e1, kvs1, hk1, hk2, hk3⟩
  rw [List.length_map] at hk2 hk3
  rw [List.take_length] at hk3
  have hin : ps.length * ps.length ≤ 12 * 12 := Nat.mul_le_mul h12 h12
  have G1 : FarG kvs1 ps (tab0 BIG) := ⟨by omega, fun x hx y hy => hk3 x y hx hy⟩
  -- the ways
  refine q_forL (ev_var rfl) (sq_of (e1 _ _ hb1)) (fun i σ' H' => (∃ v3 v4 v5, σ' = [some (.ref a), some (.ref b), some (.ref d), v3, v4, v5, none, none]) ∧ Ex H H' ∧ ∃ kvs : List (List Key × V), H' d = some (.dT kvs) ∧ FarG kvs ps ((ws.take i).foldl layWay (tab0 BIG)))
    (fun H2 e2 => ⟨⟨_, _, _, rfl⟩, e1.trans e2, kvs1, e2 _ _ hk1, G1⟩) (fun i σ' H' _ z => sq_of (z.2.1 _ _ hb1)) ?_ ?_
  · rintro i x σ' H' hx ⟨⟨v3, v4, v5, rfl⟩, e, kvs, hk, G⟩
    rw [List.getElem?_map] at hx
    obtain ⟨c, hc, rfl⟩ := Option.map_eq_some_iff.mp hx
    obtain ⟨wy, hw, hcw⟩ := paired_get hb2 hc
    have hwm := List.mem_of_getElem? hw
    obtain ⟨w1, w2, w3⟩ := hws wy hwm
    have tk : ws.take (i + 1) = ws.take i ++ [wy] := by rw [List.take_add_one, hw]; rfl
    refine ⟨c, Wv wy, rfl, st_of (e _ _ hcw), rfl, _, _, rfl, _, _, rfl, _, _, rfl, rfl, ?_⟩
    have fa : FarAt H' d ps ((ws.take i).foldl layWay (tab0 BIG)) := ⟨kvs, .inl hk, G.val⟩
    refine s_dputT (ev_min2 (ev_var rfl) (ev_far (ev_var rfl) (ev_var rfl) (ev_var rfl) fa w1 w2)) (ev_var rfl) (eu_two' (ev_var rfl) (ev_var rfl)) hk (by have := G.few; omega) fun H3 e3 => ⟨⟨_, _, _, rfl⟩, Ex.mut (e.trans e3) hd, _, upd_same, ?_⟩
    rw [tk, List.foldl_append]
    exact G.put w1 w2 _
  rintro σ' H2 ⟨⟨v3', v4', v5, rfl⟩, e2, kvs2, hk2', G2⟩
  rw [List.length_map, hbl, List.take_length] at G2
  -- the passes
  refine q_forLn (ev_var rfl) (sq_of (e2 _ _ ha)) (fun i σ' H' => (∃ v3 v4 v5 v6 v7, σ' = [some (.ref a), some (.ref b), some (.ref d), v3, v4, v5, v6, v7]) ∧ Ex H H' ∧ ∃ kvs : List (List Key × V), H' d = some (.dT kvs) ∧ FarG kvs ps ((ps.take i).foldl (fun M m => pass m M) (tab1 BIG ws)))
    (fun H3 e3 => ⟨⟨_, _, _, _, _, rfl⟩, e2.trans e3, kvs2, e3 _ _ hk2', G2⟩) (fun i σ' H' _ z => sq_of (z.2.1 _ _ ha)) ?_ ?_
  · rintro i x σ' H' hx ⟨⟨v3, v4, v5, v6, v7, rfl⟩, e, kvs, hk, G⟩
    rw [List.getElem?_map] at hx
    obtain ⟨m, hm, rfl⟩ := Option.map_eq_some_iff.mp hx
    have hmp := List.mem_of_getElem? hm
    have tk : ps.take (i + 1) = ps.take i ++ [m] := by rw [List.take_add_one, hm]; rfl
    generalize hM : (ps.take i).foldl (fun M m => pass m M) (tab1 BIG ws) = M at G
    have ok : TabOk BIG ws M := by rw [← hM]; exact passes_ok _ (tab1_ok (by decide) fun w hw => (hws w hw).2.2)
    have pm : ∀ x, pass m M x m = M x m := fun x => by have := ok.dg m; have := ok.nn x m; unfold pass; omega
    have mp : ∀ y, pass m M m y = M m y := fun y => by have := ok.dg m; have := ok.nn m y; unfold pass; omega
    refine s_forLn (ev_var rfl) (sq_of (e _ _ ha)) (fun j σ'' H'' => (∃ v3 v4 v5 v7, σ'' = [some (.ref a), some (.ref b), some (.ref d), v3, v4, v5, some (.str m), v7]) ∧ Ex H H'' ∧ ∃ (kvs : List (List Key × V)) (N : Str → Str → Int), H'' d = some (.dT kvs) ∧ FarG kvs ps N ∧ (∀ x y, N x y = M x y ∨ N x y = pass m M x y) ∧ ∀ x y, x ∈ ps.take j → y ∈ ps → N x y = pass m M x y)
      (fun H3 e3 => ⟨⟨_, _, _, _, rfl⟩, e.trans e3, kvs, M, e3 _ _ hk, G, fun _ _ => .inl rfl, by simp⟩) (fun j σ' H' _ z => sq_of (z.2.1 _ _ ha)) ?_ ?_
    · rintro j x σ'' H3 hx ⟨⟨v3, v4, v5, v7, rfl⟩, e3, kvs3, N, hk3, G3, hN, hdn⟩
      rw [List.getElem?_map] at hx
      obtain ⟨o, ho, rfl⟩ := Option.map_eq_some_iff.mp hx
      have hop := List.mem_of_getElem? ho
      have to : ps.take (j + 1) = ps.take j ++ [o] := by rw [List.take_add_one, ho]; rfl
      refine s_forLn (ev_var rfl) (sq_of (e3 _ _ ha)) (fun l σ'' H'' => (∃ v4 v5 v7, σ'' = [some (.ref a), some (.ref b), some (.ref d), some (.str o), v4, v5, some (.str m), v7]) ∧ Ex H H'' ∧ ∃ (kvs : List (List Key × V)) (N : Str → Str → Int), H'' d = some (.dT kvs) ∧ FarG kvs ps N ∧ (∀ x y, N x y = M x y ∨ N x y = pass m M x y) ∧ ∀ x y, (x ∈ ps.take j ∧ y ∈ ps) ∨ (x = o ∧ y ∈ ps.take l) → N x y = pass m M x y)
        (fun H4 e4 => ⟨⟨_, _, _, rfl⟩, e3.trans e4, kvs3, N, e4 _ _ hk3, G3, hN, fun x y h => by rcases h with h | h; exact hdn x y h.1 h.2; simp at h⟩) (fun l σ' H' _ z => sq_of (z.2.1 _ _ ha)) ?_ ?_
      · rintro l x σ'' H4 hx ⟨⟨v4, v5, v7, rfl⟩, e4, kvs4, N4, hk4, G4, hN4, hdn4⟩
        rw [List.getElem?_map] at hx
        obtain ⟨g, hg, rfl⟩ := Option.map_eq_some_iff.mp hx
        have hgp := List.mem_of_getElem? hg
        have tg : ps.take (l + 1) = ps.take l ++ [g] := by rw [List.take_add_one, hg]; rfl
        have f4 : FarAt H4 d ps N4 := ⟨kvs4, .inl hk4, G4.val⟩
        have q1 : N4 o m = M o m := by rcases hN4 o m with q | q; exact q; rw [q, pm]
        have q2 : N4 m g = M m g := by rcases hN4 m g with q | q; exact q; rw [q, mp]
        refine q_asg (v := .int (M o m + M m g)) (by rw [← q1, ← q2]; exact ev_op (ev_far (ev_var rfl) (ev_var rfl) (ev_var rfl) f4 hop hmp) (ev_far (ev_var rfl) (ev_var rfl) (ev_var rfl) f4 hmp hgp) rv_I0) fun H5 e5 => ?_
        have q3 : min (M o m + M m g) (N4 o g) = pass m M o g := by
          rcases hN4 o g with q | q
          · rw [q]; rfl
          · rw [q]; unfold pass; omega
        refine s_dputT (by rw [← q3]; exact ev_min2 (ev_var rfl) (ev_far (ev_var rfl) (ev_var rfl) (ev_var rfl) (f4.mono (exr e5)) hop hgp)) (ev_var rfl) (eu_two' (ev_var rfl) (ev_var rfl)) (e5 _ _ hk4) (by have := G4.few; omega) fun H6 e6 => ⟨⟨_, _, _, rfl⟩, Ex.mut ((e4.trans e5).trans e6) hd, _, put2 N4 o g (pass m M o g), upd_same, G4.put hop hgp _, fun x y => ?_, fun x y h => ?_⟩
        · unfold put2
          by_cases c : x = o ∧ y = g
          · obtain ⟨rfl, rfl⟩ := c
            right; simp
          · rw [if_neg c]; exact hN4 x y
        · unfold put2
          by_cases c : x = o ∧ y = g
          · obtain ⟨rfl, rfl⟩ := c
            simp
          · rw [if_neg c]
            refine hdn4 x y ?_
            rcases h with h | ⟨h1, h2⟩
            · exact .inl h
            · rw [tg] at h2
              rcases List.mem_append.mp h2 with q | q
              · exact .inr ⟨h1, q⟩
              · exact (c ⟨h1, by simpa using q⟩).elim
      · rintro σ'' H4 ⟨⟨v4, v5, v7, rfl⟩, e4, kvs4, N4, hk4, G4, hN4, hdn4⟩
        rw [List.length_map, List.take_length] at hdn4
        refine ⟨⟨_, _, _, _, rfl⟩, e4, kvs4, N4, hk4, G4, hN4, fun x y hx hy => hdn4 x y ?_⟩
        rw [to] at hx
        rcases List.mem_append.mp hx with q | q
        · exact .inl ⟨q, hy⟩
        · exact .inr ⟨by simpa using q, hy⟩
    · rintro σ'' H3 ⟨⟨v3, v4, v5, v7, rfl⟩, e3, kvs3, N, hk3, G3, hN, hdn⟩
      rw [List.length_map, List.take_length] at hdn
      refine ⟨⟨_, _, _, _, _, rfl⟩, e3, kvs3, hk3, G3.few, fun x hx y hy => ?_⟩
      rw [tk, List.foldl_append, hM]
      show _ = some (V.int (pass m M x y))
      rw [← hdn x y hx hy]
      exact G3.val x hx y hy
  · rintro σ' H3 ⟨⟨v3, v4, v5, v6, v7, rfl⟩, e3, kvs3, hk3', G3⟩
    rw [List.length_map, List.take_length] at G3
    exact s_ret (ev_var rfl) fun H4 e4 => k _ H4 (e3.trans e4) ⟨d, rfl, kvs3, .inl (e4 _ _ hk3'), G3.val⟩
end
end K49
/-! K49Name -/
/-! the names. -/
namespace K49
open PySem L2 Evl
theorem rep_mem (z : Str) (n : Int) : ∀ c ∈ (rep z n).cps.toList, c ∈ z.cps.toList := by
  have h : ∀ (m : Nat) (acc : Array Nat) (c : Nat), c ∈ ((List.replicate m z.cps).foldl (· ++ ·) acc).toList → c ∈ acc.toList ∨ c ∈ z.cps.toList := by
    intro m
    induction m with
    | zero => intro acc c hc; exact .inl hc
    | succ m ih =>
      intro acc c hc
      rw [List.replicate_succ, List.foldl_cons] at hc
      rcases ih _ c hc with q | q
      · rw [Array.toList_append] at q
        exact (List.mem_append.mp q)
      · exact .inr q
  intro c hc
  rcases h n.toNat #[] c hc with q | q
  · simp at q
  · exact q
theorem signs0_nd : signs0.cps.toList.Nodup := by decide +kernel
theorem signs0_len : signs0.cps.toList.length = 35 := by decide +kernel
theorem signs0_in : ∀ c ∈ signs0.cps.toList, c ∈ signs.cps.toList := by decide +kernel
theorem x_in : ∀ c ∈ ("x" : Str).cps.toList, c ∈ signs.cps.toList := by decide +kernel
theorem signs_small : ∀ c ∈ signs.cps.toList, c < 128 := by decide +kernel
theorem x_size : ("x" : Str).cps.size = 1 := by decide +kernel
theorem sgn_mem {n : Int} (h0 : 0 ≤ n) (h1 : n < 35) : sgn n ∈ signs0.cps.toList := by
  unfold sgn
  have := signs0_len
  rw [List.getD_eq_getElem?_getD, List.getElem?_eq_getElem (by omega)]
  exact List.getElem_mem _
theorem sgn_inj {i j : Int} (i0 : 0 ≤ i) (i1 : i < 35) (j0 : 0 ≤ j) (j1 : j < 35) (h : sgn i = sgn j) : i = j := by
  unfold sgn at h
  have hl := signs0_len
  rw [List.getD_eq_getElem?_getD, List.getElem?_eq_getElem (by omega), List.getD_eq_getElem?_getD, List.getElem?_eq_getElem (by omega)] at h
  have := (List.getElem_inj signs0_nd).mp h
  omega
theorem name_cps (sc : List Int) (k n : Int) : (nameOf sc k n).cps = (rep "x" (draw sc k 11)).cps ++ #[sgn n] ++ (rep "x" (draw sc (k + 1) (11 - draw sc k 11) + n % 2)).cps := rfl
theorem name_inj {sc : List Int} {k i j : Int} (i0 : 0 ≤ i) (i1 : i < 35) (j0 : 0 ≤ j) (j1 : j < 35) (h : nameOf sc k i = nameOf sc k j) : i = j := by
  refine sgn_inj i0 i1 j0 j1 ?_
  have h := congrArg Str.cps h
  rw [name_cps, name_cps] at h
  have e : ∀ (a b : Array Nat) (s : Nat), (a ++ #[s] ++ b)[a.size]? = some s := fun a b s => by
    rw [Array.getElem?_append_left (by simp), Array.getElem?_append_right (Nat.le_refl _)]; simp
  have h2 := congrArg (fun z : Array Nat => z[(rep "x" (draw sc k 11)).cps.size]?) h
  simp only [e] at h2
  exact Option.some.inj h2
theorem name_ok {sc : List Int} {k n : Int} (n0 : 0 ≤ n) (n1 : n < 35) : NameOk (nameOf sc k n) := by
  obtain ⟨a0, a1⟩ := draw_nn (sc := sc) (k := k) (m := 11) (by omega)
  obtain ⟨b0, b1⟩ := draw_nn (sc := sc) (k := k + 1) (m := 11 - draw sc k 11) (by omega)
  have hs : (nameOf sc k n).length = (draw sc k 11).toNat + 1 + (draw sc (k + 1) (11 - draw sc k 11) + n % 2).toNat := by
    show (nameOf sc k n).cps.size = _
    rw [name_cps, Array.size_append, Array.size_append, rep_size, rep_size, x_size]
    simp
  refine ⟨by rw [hs]; omega, by rw [hs]; omega, fun c hc => ?_⟩
  rw [name_cps, Array.toList_append, Array.toList_append] at hc
  rcases List.mem_append.mp hc with q | q
  · rcases List.mem_append.mp q with q | q
    · exact x_in c (rep_mem _ _ c q)
    · have : c = sgn n := by simpa using q
      rw [this]; exact signs0_in _ (sgn_mem n0 n1)
  · exact x_in c (rep_mem _ _ c q)
theorem NameOk.tx {x : Str} (h : NameOk x) : x.cps.all (· < 0x110000) = true := by
  rw [← Array.all_toList, List.all_eq_true]
  intro c hc
  have := signs_small c (h.sg c hc)
  exact decide_eq_true (by omega)
end K49
/-! K49L6 -/
/-! trips, cars. -/
namespace K49
open PySem L2 Evl
def maxI (a b : Int) : Int := if b > a then b else a
def tripOf (sc : List Int) (ps : List Str) (F : Str → Str → Int) (scale : Int) (k : Nat) : Trip where
  name := nameOf sc 6 k
  origin := plc ps (draw sc (40 + 4 * k) ps.length).toNat
  goal := plc ps (draw sc (41 + 4 * k) ps.length).toNat
  start := 150 * scale + draw sc (42 + 4 * k) (600 * scale)
  finish := maxI (150 * scale + draw sc (42 + 4 * k) (600 * scale) + 1) (150 * scale + draw sc (42 + 4 * k) (600 * scale) + F (plc ps (draw sc (40 + 4 * k) ps.length).toNat) (plc ps (draw sc (41 + 4 * k) ps.length).toNat) + draw sc (43 + 4 * k) 2 * draw sc (44 + 4 * k) (60 * scale))
  seats := draw sc (100 + k) 7
def tripsOf (sc : List Int) (ps : List Str) (F : Str → Str → Int) (scale : Int) : List Trip := (List.range (draw sc 8 13).toNat).map (tripOf sc ps F scale)
def encT (ts : List Trip) (ad : Str → Addr) : List (Key × V) := ts.map fun t => (kS t.name, V.ref (ad t.name))
structure TripsAt (H : Hp) (d : Addr) (ts : List Trip) (ad : Str → Addr) : Prop where
  dk : H d = some (.dK (encT ts ad))
  tup : ∀ t ∈ ts, H (ad t.name) = some (.tup t.vs)
theorem TripsAt.ex' {H H' : Hp} {d : Addr} {ts : List Trip} {ad : Str → Addr} (h : TripsAt H d ts ad) (e : Ex H H') : TripsAt H' d ts ad := ⟨e _ _ h.dk, fun t ht => e _ _ (h.tup t ht)⟩
theorem tripName_inj {sc : List Int} {ps : List Str} {F : Str → Str → Int} {scale : Int} {i j : Nat} (hi : i < 35) (hj : j < 35) (h : (tripOf sc ps F scale i).name = (tripOf sc ps F scale j).name) : i = j := by
  have := name_inj (sc := sc) (k := 6) (i := i) (j := j) (by omega) (by omega) (by omega) (by omega) h
  omega
theorem tripsOf_nd (sc : List Int) (ps : List Str) (F : Str → Str → Int) (scale : Int) {n : Nat} (hn : n ≤ 35) : (((List.range n).map (tripOf sc ps F scale)).map fun t => t.name).Nodup := by
  rw [List.map_map]
  refine List.pairwise_map.mpr (List.nodup_range.imp_of_mem fun {a b} ha hb h e => h (tripName_inj (by have := List.mem_range.mp ha; omega) (by have := List.mem_range.mp hb; omega) e))
section
variable {P : Program} {w : World} {K : PySem.W.Frag} {mg : Str → Option Value} {base : Heap}
theorem ev_name {σ : St} {H : Hp} {ta tb tc : TE} {E : XK} {a : Addr} {sc : List Int} {k n : Int} (ha : Ev ta σ H (.ref a)) (hb : Ev tb σ H (.int k)) (hc : Ev tc σ H (.int n)) (hS : SqL K H a (sc.map V.int)) (h0 : 0 ≤ k) (h1 : k ≤ 900) (n0 : 0 ≤ n) (n1 : n < 35) : Ev (tCall (spName K) [] E (tCons ta (tCons tb (tCons tc tNil)))) σ H (.str (nameOf sc k n)) :=
  ev_call (ea_cons ha (ea_cons hb (ea_cons hc ea_nil))) fun H1 e Q q E => ⟨a, sc, k, n, rfl, ex_l e hS, h0, h1, n0, n1, fun H2 e2 => q H2 e2⟩
theorem sc_l_trips : FnScope ["_law_script", "_law_places", "_law_far", "_law_scale", "_law_trips_here", "_law_k", "_law_origin", "_law_goal", "_law_start", "_law_more", "_law_name_here", "_law_finish"] ["_law_script", "_law_places", "_law_far", "_law_scale"] (defScope s_l_trips) := ⟨rfl, rfl, rfl, by decide +kernel, rfl, by decide +kernel, by decide +kernel⟩
def spTrips (K : PySem.W.Frag) : Sp := fun vs H Q _ => ∃ (a b d : Addr) (sc : List Int) (ps : List Str) (F : Str → Str → Int) (scale : Int), vs = [.ref a, .ref b, .ref d, .int scale] ∧ SqL K H a (sc.map V.int) ∧ H b = some (.lst (ps.map V.str)) ∧ FarAt H d ps F ∧ 0 < ps.length ∧ ps.length ≤ 12 ∧ 1 ≤ scale ∧ scale ≤ 100000 ∧
  RetP (fun v H2 => ∃ t ad, v = .ref t ∧ H t = none ∧ TripsAt H2 t (tripsOf sc ps F scale) ad) H Q
theorem k_l_trips (T : Tx K mg) : FnOk P w K mg base CX0 3 T.f_l_trips T.fd_l_trips ["_law_script", "_law_places", "_law_far", "_law_scale"] (spTrips K) := by
  have G_l_draw := k_l_draw (P := P) (w := w) (base := base) T
  have G_l_name := k_l_name (P := P) (w := w) (base := base) T
  refine T.d_l_trips.F.ok sc_l_trips (fun vs H Q E h => ?_) (fun cdv A outer s H vs Q E hr h => ?_)
  · obtain ⟨a, b, d, sc, ps, F, scale, rfl, _⟩ := h
    rfl
  obtain ⟨a, b, d, sc, ps, F, scale, rfl, hS, hb, hF, hpos, h12, s1, s2, k⟩ := h
  have hu := hu_of hr
  refine ⟨_, PSs.nox (pss_cons (ps_set (i := 4) sc_l_trips.nd rfl (Or.inl rfl) pe_dnewK)
    (pss_cons (ps_for PassesOwn.never rfl (pi_range1 (by rfl) T.B.range (pa_cons (pe_call G_l_draw (hr.mono (by decide)) rfl T.d_l_draw.g T.d_l_draw.F.kp T.d_l_draw.b .nil pass0 (pa_cons (pv 0) (pa_cons pe_int (pa_cons pe_int pa_nil)))) pa_nil)) (pg_name (i := 5) sc_l_trips.nd rfl (Or.inl rfl))
      (pss_cons (ps_set (i := 6) sc_l_trips.nd rfl (Or.inl rfl) (pe_ix ix_list (pv 1) (pe_call G_l_draw (hr.mono (by decide)) rfl T.d_l_draw.g T.d_l_draw.F.kp T.d_l_draw.b .nil pass0 (pa_cons (pv 0) (pa_cons (pe_op op_add pe_int (pe_op op_mul pe_int (pv 5))) (pa_cons (pe_callB call_len_seq (by rfl) T.B.len PySem.boot_len (pa_cons (pv 1) pa_nil)) pa_nil)))) (fun _ _ => rfl)))
      (pss_cons (ps_set (i := 7) sc_l_trips.nd rfl (Or.inl rfl) (pe_ix ix_list (pv 1) (pe_call G_l_draw (hr.mono (by decide)) rfl T.d_l_draw.g T.d_l_draw.F.kp T.d_l_draw.b .nil pass0 (pa_cons (pv 0) (pa_cons (pe_op op_add pe_int (pe_op op_mul pe_int (pv 5))) (pa_cons (pe_callB call_len_seq (by rfl) T.B.len PySem.boot_len (pa_cons (pv 1) pa_nil)) pa_nil)))) (fun _ _ => rfl)))
      (pss_cons (ps_set (i := 8) sc_l_trips.nd rfl (Or.inl rfl) (pe_op op_add (pe_op op_mul pe_int (pv 3)) (pe_call G_l_draw (hr.mono (by decide)) rfl T.d_l_draw.g T.d_l_draw.F.kp T.d_l_draw.b .nil pass0 (pa_cons (pv 0) (pa_cons (pe_op op_add pe_int (pe_op op_mul pe_int (pv 5))) (pa_cons (pe_op op_mul pe_int (pv 3)) pa_nil))))))
      (pss_cons (ps_set (i := 9) sc_l_trips.nd rfl (Or.inl rfl) (pe_op op_mul (pe_call G_l_draw (hr.mono (by decide)) rfl T.d_l_draw.g T.d_l_draw.F.kp T.d_l_draw.b .nil pass0 (pa_cons (pv 0) (pa_cons (pe_op op_add pe_int (pe_op op_mul pe_int (pv 5))) (pa_cons pe_int pa_nil)))) (pe_call G_l_draw (hr.mono (by decide)) rfl T.d_l_draw.g T.d_l_draw.F.kp T.d_l_draw.b .nil pass0 (pa_cons (pv 0) (pa_cons (pe_op op_add pe_int (pe_op op_mul pe_int (pv 5))) (pa_cons (pe_op op_mul pe_int (pv 3)) pa_nil))))))
      (pss_cons (ps_set (i := 10) sc_l_trips.nd rfl (Or.inl rfl) (pe_call G_l_name (hr.mono (by decide)) rfl T.d_l_name.g T.d_l_name.F.kp T.d_l_name.b .nil pass0 (pa_cons (pv 0) (pa_cons pe_int (pa_cons (pv 5) pa_nil)))))
      (pss_cons (ps_set (i := 11) sc_l_trips.nd rfl (Or.inl rfl) (pe_callB (call_max2 rfl) (by rfl) T.B.max (by decide +kernel) (pa_cons (pe_op op_add (pv 8) pe_int) (pa_cons (pe_op op_add (pe_op op_add (pv 8) (pe_dget hu (pv 2) (pe_tup (pa_cons (pv 6) (pa_cons (pv 7) pa_nil))) (fun _ _ => rfl))) (pv 9)) pa_nil))))
      (pss_one (ps_dput hu (pv 4) (pv 10) (pe_tup (pa_cons (pv 10) (pa_cons (pv 6) (pa_cons (pv 7) (pa_cons (pv 8) (pa_cons (pv 11) (pa_cons (pe_call G_l_draw (hr.mono (by decide)) rfl T.d_l_draw.g T.d_l_draw.F.kp T.d_l_draw.b .nil pass0 (pa_cons (pv 0) (pa_cons (pe_op op_add pe_int (pv 5)) (pa_cons pe_int pa_nil)))) pa_nil))))))) rfl)))))))))
    (pss_one (ps_ret (pv 4))))), ?_⟩
  refine fun t ht => ?_
  have e0 : Ex H (upd H t (.dK [])) := Ex.new ht
  have hl := fun {H' : Hp} (e : Ex H H') => sq_of (K := K) (e _ _ hb)
  have cm : ∀ c : Int, 0 ≤ c → c ≤ 1000 → CMul c scale := fun c h1 h2 => Or.inl ⟨by omega, by omega⟩
  obtain ⟨n0, n1⟩ := draw_nn (sc := sc) (k := 8) (m := 13) (by omega)
  refine q_forR1 (n := draw sc 8 13) (ea_cons (ev_draw (ev_var rfl) ev_c ev_c (ex_l e0 hS) (by omega) (by omega) (by omega)) ea_nil) (by omega) (fun i σ' H' => (∃ v5 v6 v7 v8 v9 v10 v11, σ' = [some (.ref a), some (.ref b), some (.ref d), some (.int scale), some (.ref t), v5, v6, v7, v8, v9, v10, v11]) ∧ Ex H H' ∧ ∃ ad, TripsAt H' t ((List.range i).map (tripOf sc ps F scale)) ad)
    (fun H1 e1 => ⟨⟨_, _, _, _, _, _, _, rfl⟩, e0.trans e1, fun _ => 0, e1 _ _ upd_same, by simp⟩) ?_ ?_
  · rintro i σ' H' hi ⟨⟨v5, v6, v7, v8, v9, v10, v11, rfl⟩, e, ad, hT⟩
    have hi13 : i < 13 := by omega
    have hlen : (0 : Int) < ps.length := by omega
    obtain ⟨o0, o1⟩ := draw_nn (sc := sc) (k := 40 + 4 * i) (m := ps.length) hlen
    obtain ⟨g0, g1⟩ := draw_nn (sc := sc) (k := 41 + 4 * i) (m := ps.length) hlen
    have c4 : CMul 4 (i : Int) := Or.inl ⟨by decide, by decide⟩
    have d4 : ∀ {σ : St} {H9 : Hp} {c m : Int} {tm : TE}, Ex H H9 → σ[0]? = some (some (.ref a)) → σ[5]? = some (some (.int (i : Int))) → Ev tm σ H9 (.int m) → 0 ≤ c → c ≤ 200 → 0 < m → Ev (tCall (spDraw K) [] E0 (tCons (tVar 0) (tCons (tOp (rI0 fun i j => .int (i + j)) (tC (.int c)) (tOp (rI CMul fun i j => .int (i * j)) (tC (.int 4)) (tVar 5))) (tCons tm tNil)))) σ H9 (.int (draw sc (c + 4 * i) m)) :=
      fun e9 h0 h5 hm c0 c1 m0 => ev_draw (ev_var h0) (ev_op ev_c (ev_op ev_c (ev_var h5) (rv_I c4)) rv_I0) hm (ex_l e9 hS) (by omega) (by omega) m0
    refine q_asg (v := .str (tripOf sc ps F scale i).origin) (ev_op (ev_var rfl) (d4 e rfl rfl (ev_lenN (ev_var rfl) (hl e)) (by omega) (by omega) hlen) (rv_ixL (hl e) (at_of (j := (draw sc (40 + 4 * i) ps.length).toNat) (by omega) (plc_at (by omega))))) fun H1 e1 => ?_
    have e01 := e.trans e1
    refine q_asg (v := .str (tripOf sc ps F scale i).goal) (ev_op (ev_var rfl) (d4 e01 rfl rfl (ev_lenN (ev_var rfl) (hl e01)) (by omega) (by omega) hlen) (rv_ixL (hl e01) (at_of (j := (draw sc (41 + 4 * i) ps.length).toNat) (by omega) (plc_at (by omega))))) fun H2 e2 => ?_
    have e02 := e01.trans e2
    refine q_asg (v := .int (tripOf sc ps F scale i).start) (ev_op (ev_op ev_c (ev_var rfl) (rv_I (cm 150 (by omega) (by omega)))) (d4 e02 rfl rfl (ev_op ev_c (ev_var rfl) (rv_I (cm 600 (by omega) (by omega)))) (by omega) (by omega) (by omega)) rv_I0) fun H3 e3 => ?_
    have e03 := e02.trans e3
    obtain ⟨r0, r1⟩ := draw_nn (sc := sc) (k := 43 + 4 * i) (m := 2) (by omega)
    refine q_asg (v := .int (draw sc (43 + 4 * i) 2 * draw sc (44 + 4 * i) (60 * scale))) (ev_op (d4 e03 rfl rfl ev_c (by omega) (by omega) (by omega)) (d4 e03 rfl rfl (ev_op ev_c (ev_var rfl) (rv_I (cm 60 (by omega) (by omega)))) (by omega) (by omega) (by omega)) (rv_I (Or.inl ⟨by omega, by omega⟩))) fun H4 e4 => ?_
    have e04 := e03.trans e4
    refine q_asg (v := .str (tripOf sc ps F scale i).name) (ev_name (ev_var rfl) ev_c (ev_var rfl) (ex_l e04 hS) (by omega) (by omega) (by omega) (by omega)) fun H5 e5 => ?_
    have e05 := e04.trans e5
    refine q_asg (v := .int (tripOf sc ps F scale i).finish) (ev_max2 (ev_op (ev_var rfl) ev_c rv_I0) (ev_op (ev_op (ev_var rfl) (ev_far (ev_var rfl) (ev_var rfl) (ev_var rfl) (hF.mono (exr e05)) (plc_mem (by omega)) (plc_mem (by omega))) rv_I0) (ev_var rfl) rv_I0)) fun H6 e6 => ?_
    have e06 := e05.trans e6
    have hT6 := hT.ex' (((((e1.trans e2).trans e3).trans e4).trans e5).trans e6)
    refine s_dputP (k := kS (tripOf sc ps F scale i).name) (ep_u (xs := (tripOf sc ps F scale i).vs) (eu_tup (ea_cons (ev_var rfl) (ea_cons (ev_var rfl) (ea_cons (ev_var rfl) (ea_cons (ev_var rfl) (ea_cons (ev_var rfl) (ea_cons (ev_draw (ev_var rfl) (ev_op ev_c (ev_var rfl) rv_I0) ev_c (ex_l e06 hS) (by omega) (by omega) (by omega)) ea_nil)))))) (by show 6 ≤ 100000; decide))) (ev_var rfl) (ev_var rfl) hT6.dk (by unfold encT; simp; omega) ?_
    rintro v H7 e7 ⟨H8, e8, ⟨q, rfl, hq⟩, e9⟩
    have hnew : ∀ u ∈ (List.range i).map (tripOf sc ps F scale), u.name ≠ (tripOf sc ps F scale i).name := fun u hu z => by
      obtain ⟨j, hj, rfl⟩ := List.mem_map.mp hu
      have hj := List.mem_range.mp hj
      have := tripName_inj (by omega) (by omega) z
      omega
    have vn : valV (encT ((List.range i).map (tripOf sc ps F scale)) ad) (kS (tripOf sc ps F scale i).name) = none := valV_new fun z => by
      obtain ⟨p, hp, ep⟩ := List.mem_map.mp z
      obtain ⟨u, hu, rfl⟩ := List.mem_map.mp hp
      exact hnew u hu (kS_inj ep)
    have d7 : H7 t = some (.dK (encT ((List.range i).map (tripOf sc ps F scale)) ad)) := e7 _ _ hT6.dk
    refine ⟨⟨_, _, _, _, _, _, _, rfl⟩, Ex.mut (e06.trans e7) ht, fun n => if n = (tripOf sc ps F scale i).name then q else ad n, ?_, fun u hu => ?_⟩
    · rw [upd_same, putK_new _ vn, range_snoc]
      unfold encT
      rw [List.map_append]
      congr 3
      · refine List.map_congr_left fun u hu => ?_
        show _ = (kS u.name, V.ref (if u.name = (tripOf sc ps F scale i).name then q else ad u.name))
        rw [if_neg (hnew u hu)]
      · simp
    · rw [range_snoc] at hu
      rcases List.mem_append.mp hu with z | z
      · have h1 := e7 _ _ (hT6.tup u z)
        show upd H7 t _ (if u.name = _ then q else ad u.name) = _
        rw [if_neg (hnew u z), upd_ne (ne_of h1 d7 (by intro z; cases z))]
        exact h1
      · have : u = tripOf sc ps F scale i := by simpa using z
        subst this
        have h1 := e8 _ _ hq
        show upd H7 t _ (if _ = _ then q else _) = _
        rw [if_pos rfl, upd_ne (ne_of h1 d7 (by intro z; cases z))]
        exact h1
  · rintro σ' H1 ⟨⟨v5, v6, v7, v8, v9, v10, v11, rfl⟩, e, ad, hT⟩
    exact s_ret (ev_var rfl) fun H2 e2 => k _ H2 (e.trans e2) ⟨t, ad, rfl, ht, hT.ex' e2⟩
/-! ### cars -/
def carOf (sc : List Int) (L : Int) (k : Nat) : Car := (nameOf sc 130 k, 2 + draw sc (140 + k) 6, L / 2 + draw sc (121 + k) (1 + L))
def carsOf (sc : List Int) (L : Int) : List Car := (List.range (draw sc 120 9).toNat).map (carOf sc L)
theorem sc_l_cars : FnScope ["_law_script", "_law_longest", "_law_cars_here", "_law_k", "_law_reach"] ["_law_script", "_law_longest"] (defScope s_l_cars) := ⟨rfl, rfl, rfl, by decide +kernel, rfl, by decide +kernel, by decide +kernel⟩
def spCars (K : PySem.W.Frag) : Sp := fun vs H Q _ => ∃ (a : Addr) (sc : List Int) (L : Int), vs = [.ref a, .int L] ∧ SqL K H a (sc.map V.int) ∧ 0 ≤ L ∧ RetP (fun v H2 => ∃ c, v = .ref c ∧ CarsAt H2 c (carsOf sc L)) H Q
theorem k_l_cars (T : Tx K mg) : FnOk P w K mg base CX0 3 T.f_l_cars T.fd_l_cars ["_law_script", "_law_longest"] (spCars K) := by
  have G_l_draw := k_l_draw (P := P) (w := w) (base := base) T
  have G_l_name := k_l_name (P := P) (w := w) (base := base) T
  refine T.d_l_cars.F.ok sc_l_cars (fun vs H Q E h => ?_) (fun cdv A outer s H vs Q E hr h => ?_)
  · obtain ⟨a, sc, L, rfl, _⟩ := h
    rfl
  obtain ⟨a, sc, L, rfl, hS, hL, k⟩ := h
  have hu := hu_of hr
  refine ⟨_, PSs.nox (pss_cons (ps_set (i := 2) sc_l_cars.nd rfl (Or.inl rfl) (pe_lst pa_nil))
    (pss_cons (ps_for PassesOwn.never rfl (pi_range1 (by rfl) T.B.range (pa_cons (pe_call G_l_draw (hr.mono (by decide)) rfl T.d_l_draw.g T.d_l_draw.F.kp T.d_l_draw.b .nil pass0 (pa_cons (pv 0) (pa_cons pe_int (pa_cons pe_int pa_nil)))) pa_nil)) (pg_name (i := 3) sc_l_cars.nd rfl (Or.inl rfl))
      (pss_cons (ps_set (i := 4) sc_l_cars.nd rfl (Or.inl rfl) (pe_op op_add (pe_op op_fdiv (pv 1) pe_int) (pe_call G_l_draw (hr.mono (by decide)) rfl T.d_l_draw.g T.d_l_draw.F.kp T.d_l_draw.b .nil pass0 (pa_cons (pv 0) (pa_cons (pe_op op_add pe_int (pv 3)) (pa_cons (pe_op op_add pe_int (pv 1)) pa_nil))))))
      (pss_one (ps_expr (pe_bm PySem.F.plainAttrs_list PySem.F.slot_list_append PySem.F.type_list_append mt_append (pv 2) (pa_cons (pe_tup (pa_cons (pe_call G_l_name (hr.mono (by decide)) rfl T.d_l_name.g T.d_l_name.F.kp T.d_l_name.b .nil pass0 (pa_cons (pv 0) (pa_cons pe_int (pa_cons (pv 3) pa_nil)))) (pa_cons (pe_op op_add pe_int (pe_call G_l_draw (hr.mono (by decide)) rfl T.d_l_draw.g T.d_l_draw.F.kp T.d_l_draw.b .nil pass0 (pa_cons (pv 0) (pa_cons (pe_op op_add pe_int (pv 3)) (pa_cons pe_int pa_nil))))) (pa_cons (pv 4) pa_nil)))) pa_nil))))))
    (pss_one (ps_ret (pv 2))))), ?_⟩
  refine q_asgL (el_lst ea_nil (by simp)) fun l H2 hl e2 h2 => ?_
  obtain ⟨n0, n1⟩ := draw_nn (sc := sc) (k := 120) (m := 9) (by omega)
  refine q_forR1 (n := draw sc 120 9) (ea_cons (ev_draw (ev_var rfl) ev_c ev_c (ex_l e2 hS) (by omega) (by omega) (by omega)) ea_nil) (by omega) (fun i σ' H' => (∃ v v', σ' = [some (.ref a), some (.int L), some (.ref l), v, v']) ∧ Ex H H' ∧ ∃ as, H' l = some (.lst (as.map V.ref)) ∧ Paired (fun a w => H' a = some (.tup (Cv w))) as ((List.range i).map (carOf sc L)))
    (fun H3 e3 => ⟨⟨_, _, rfl⟩, e2.trans e3, [], e3 _ _ h2, .nil⟩) ?_ ?_
  · rintro i σ' H' hi ⟨⟨v, v', rfl⟩, e, as, has, hp⟩
    refine q_asg (v := .int (L / 2 + draw sc (121 + i) (1 + L))) (ev_op (ev_op (ev_var rfl) ev_c (rv_I ⟨by decide, by decide⟩)) (ev_draw (ev_var rfl) (ev_op ev_c (ev_var rfl) rv_I0) (ev_op ev_c (ev_var rfl) rv_I0) (ex_l e hS) (by omega) (by omega) (by omega)) rv_I0) fun H3 e3 => ?_
    have e03 := e.trans e3
    have hal := Paired.length hp
    rw [List.length_map, List.length_range] at hal
    refine s_appU (xs := as.map V.ref) (ys := Cv (carOf sc L i)) (e3 _ _ has) (ev_var rfl) (eu_tup (ea_cons (ev_name (ev_var rfl) ev_c (ev_var rfl) (ex_l e03 hS) (by omega) (by omega) (by omega) (by omega)) (ea_cons (ev_op ev_c (ev_draw (ev_var rfl) (ev_op ev_c (ev_var rfl) rv_I0) ev_c (ex_l e03 hS) (by omega) (by omega) (by omega)) rv_I0) (ea_cons (ev_var rfl) ea_nil))) (by show 3 ≤ 100000; decide)) (by rw [List.length_map]; omega) fun q H4 hq e4 h4 => ?_
    have hql : q ≠ l := fun z => by rw [z, e3 _ _ has] at hq; cases hq
    refine ⟨⟨_, _, rfl⟩, Ex.mut (e03.trans e4) hl, as ++ [q], by rw [upd_same, List.map_append]; rfl, ?_⟩
    rw [range_snoc]
    refine paired_mem (F := fun (a : Addr) (w : Car) => H4 a = some (.tup (Cv w))) (paired_add (Paired.mapP hp fun _ _ h => e4 _ _ (e3 _ _ h)) h4) fun x hx w' hw => ?_
    rw [upd_ne]; exact hw
    intro z
    rw [z] at hw
    rw [e4 _ _ (e3 _ _ has)] at hw; cases hw
  · rintro σ' H3 ⟨⟨v, v', rfl⟩, e, as, has, hp⟩
    exact s_ret (ev_var rfl) fun H5 e5 => k _ H5 (e.trans e5) ⟨l, rfl, as, e5 _ _ has, Paired.mapP hp fun _ _ h => e5 _ _ h⟩
theorem carsIn {sc : List Int} {L : Int} (h0 : 0 ≤ L) (h1 : L ≤ 500000000) : CarsIn (carsOf sc L) := by
  obtain ⟨n0, n1⟩ := draw_nn (sc := sc) (k := 120) (m := 9) (by omega)
  have mm : ∀ c ∈ carsOf sc L, ∃ i : Nat, i < 9 ∧ c = carOf sc L i := fun c hc => by
    obtain ⟨i, hi, e⟩ := List.mem_map.mp hc
    exact ⟨i, by have := List.mem_range.mp hi; omega, e.symm⟩
  have nm : ((carsOf sc L).map (·.1)).Nodup := by
    unfold carsOf
    rw [List.map_map]
    refine List.pairwise_map.mpr (List.nodup_range.imp_of_mem fun {a b} ha hb h e => h ?_)
    have ha := List.mem_range.mp ha
    have hb := List.mem_range.mp hb
    have := name_inj (sc := sc) (k := 130) (i := a) (j := b) (by omega) (by omega) (by omega) (by omega) e
    omega
  refine ⟨fun c hc => ?_, nm, by unfold carsOf; rw [List.length_map, List.length_range]; omega, fun c hc => ?_, fun c hc => ?_, fun c hc => ?_, fun c hc => ?_⟩ <;> obtain ⟨i, hi, rfl⟩ := mm c hc
  · exact name_ok (by omega) (by omega)
  · have := draw_nn (sc := sc) (k := 140 + i) (m := 6) (by omega); show 0 ≤ 2 + draw sc (140 + i) 6; omega
  · have := draw_nn (sc := sc) (k := 140 + i) (m := 6) (by omega); show 2 + draw sc (140 + i) 6 ≤ _; omega
  · have := draw_nn (sc := sc) (k := 121 + i) (m := 1 + L) (by omega); show 0 ≤ L / 2 + draw sc (121 + i) (1 + L); omega
  · have := draw_nn (sc := sc) (k := 121 + i) (m := 1 + L) (by omega); show L / 2 + draw sc (121 + i) (1 + L) ≤ _; omega
end
end K49
/-! K49L7 -/
/-! rows. -/
namespace K49
open PySem L2 Evl
def lkF (F : Str → Str → Int) (a b : Trip) : Bool := decide (a.finish + F a.goal b.origin ≤ b.start)
section
variable {P : Program} {w : World} {K : PySem.W.Frag} {mg : Str → Option Value} {base : Heap}
theorem ev_isiL {σ : St} {H : Hp} {te : TE} {a : Addr} {xs : List V} (h : Ev te σ H (.ref a)) (hx : H a = some (.lst xs)) : Ev (tCB (rIsi K) (tCons te (tCons (tC (.ty "list")) tNil))) σ H (.bl true) := fun H1 e Q q =>
  h H1 e _ fun H2 e2 => ⟨.ref a, .ty "list", .type "list", .type "list", true, rfl, .ty "list", .base (.lst ((e.trans e2) _ _ hx)), rfl, q H2 e2⟩
theorem encT_val {ts : List Trip} {ad : Str → Addr} (nd : (ts.map fun t => t.name).Nodup) {t : Trip} (h : t ∈ ts) : valV (encT ts ad) (kS t.name) = some (.ref (ad t.name)) := by
  refine valV_of_mem ?_ (List.mem_map.mpr ⟨t, h, rfl⟩)
  unfold encT
  rw [List.map_map]
  have : (ts.map fun t => kS t.name) = (ts.map fun t => t.name).map kS := by rw [List.map_map]; rfl
  show (ts.map fun t => kS t.name).Nodup
  rw [this]
  exact List.Pairwise.map kS (fun a b h e => h (kS_inj e)) nd
theorem TripsAt.get {H : Hp} {d : Addr} {ts : List Trip} {ad : Str → Addr} (T : TripsAt H d ts ad) (nd : (ts.map fun t => t.name).Nodup) {t : Trip} (h : t ∈ ts) : DGet H d (.str t.name) (some (.ref (ad t.name))) := by
  have := dget_rd (k := kS t.name) (.inl T.dk)
  rw [encT_val nd h] at this
  exact this
theorem ev_llk {σ : St} {H : Hp} {ta tb tc : TE} {E : XK} {d t1 t2 : Addr} {ps : List Str} {F : Str → Str → Int} {x y : Trip} (ha : Ev ta σ H (.ref d)) (hb : Ev tb σ H (.ref t1)) (hc : Ev tc σ H (.ref t2)) (hF : FarAt H d ps F) (h1 : H t1 = some (.tup x.vs)) (h2 : H t2 = some (.tup y.vs)) (hx : x.goal ∈ ps) (hy : y.origin ∈ ps) : Ev (tCall (spLLk K) [] E (tCons ta (tCons tb (tCons tc tNil)))) σ H (.bl (lkF F x y)) :=
  ev_call (ea_cons ha (ea_cons hb (ea_cons hc ea_nil))) fun H1 e Q q E => ⟨d, t1, t2, ps, F, x, y, rfl, hF.mono (exr e), e _ _ h1, e _ _ h2, hx, hy, fun H2 e2 => q H2 e2⟩
/-- rows that the law's check takes -/
structure RowsIn (ts : List Trip) (F : Str → Str → Int) (rows : List (List Trip)) : Prop where
  ne : ∀ r ∈ rows, r ≠ []
  mem : ∀ r ∈ rows, ∀ t ∈ r, t ∈ ts
  lk : ∀ r ∈ rows, Lkd (lkF F) r
  nd : (nms rows.flatten).Nodup
  all : rows.flatten.length = ts.length
theorem sc_l_rows : FnScope ["_law_told", "_law_trips_here", "_law_far", "_law_seen", "_law_row", "_law_k", "_law_name_here", "_law_ahead"] ["_law_told", "_law_trips_here", "_law_far"] (defScope s_l_rows) := ⟨rfl, rfl, rfl, by decide +kernel, rfl, by decide +kernel, by decide +kernel⟩
def spRows (K : PySem.W.Frag) : Sp := fun vs H Q _ => ∃ (p d f : Addr) (ts : List Trip) (ad : Str → Addr) (ps : List Str) (F : Str → Str → Int) (rows : List (List Trip)), vs = [.ref p, .ref d, .ref f] ∧ LL H p (rows.map nms) ∧ TripsAt H d ts ad ∧ FarAt H f ps F ∧ (ts.map fun t => t.name).Nodup ∧ ts.length ≤ 40 ∧ (∀ t ∈ ts, t.origin ∈ ps ∧ t.goal ∈ ps) ∧ RowsIn ts F rows ∧ RetV (.bl true) H Q
theorem k_l_rows (T : Tx K mg) : FnOk P w K mg base CX0 2 T.f_l_rows T.fd_l_rows ["_law_told", "_law_trips_here", "_law_far"] (spRows K) := by
  have G_l_linked := k_l_linked (P := P) (w := w) (base := base) T
  refine T.d_l_rows.F.ok sc_l_rows (fun vs H Q E h => ?_) (fun cdv A outer s H vs Q E hr h => ?_)
  · obtain ⟨p, d, f, ts, ad, ps, F, rows, rfl, _⟩ := h
    rfl
  obtain ⟨p, d, f, ts, ad, ps, F, rows, rfl, hL, hT, hF, nd, hfew, hps, R, k⟩ := h
  have hu := hu_of hr
  refine ⟨_, PSs.nox (pss_cons (ps_if (pt_not (pt_val (pe_callB call_isi (by rfl) T.B.isi (by decide +kernel) (pa_cons (pv 0) (pa_cons (pe_bltn (v := .ty "list") (by rfl) T.B.list (by decide +kernel) rfl) pa_nil)))))
      (pss_one (ps_ret pe_bl))
      pss_nil)
    (pss_cons (ps_set (i := 3) sc_l_rows.nd rfl (Or.inl rfl) (pe_lst pa_nil))
    (pss_cons (ps_for PassesOwn.never rfl (pi_list (pv 0)) (pg_name (i := 4) sc_l_rows.nd rfl (Or.inl rfl))
      (pss_cons (ps_if (PW.pt (pw_or (pt_not (pt_val (pe_callB call_isi (by rfl) T.B.isi (by decide +kernel) (pa_cons (pv 4) (pa_cons (pe_bltn (v := .ty "list") (by rfl) T.B.list (by decide +kernel) rfl) pa_nil))))) (pw_or1 (pt_cmpR op_eq (pe_callB call_len_seq (by rfl) T.B.len PySem.boot_len (pa_cons (pv 4) pa_nil)) pe_int (nomark _)))))
        (pss_one (ps_ret pe_bl))
        pss_nil)
      (pss_one (ps_for PassesOwn.never rfl (pi_range1 (by rfl) T.B.range (pa_cons (pe_callB call_len_seq (by rfl) T.B.len PySem.boot_len (pa_cons (pv 4) pa_nil)) pa_nil)) (pg_name (i := 5) sc_l_rows.nd rfl (Or.inl rfl))
        (pss_cons (ps_set (i := 6) sc_l_rows.nd rfl (Or.inl rfl) (pe_ix ix_list (pv 4) (pv 5) (fun _ _ => rfl)))
        (pss_cons (ps_if (PW.pt (pw_or (pt_cmp (pc_dnotin hu (pv 6) (pv 1))) (pw_or1 (pt_cmpR op_in_seq (pv 6) (pv 3) (by rfl)))))
          (pss_one (ps_ret pe_bl))
          pss_nil)
        (pss_cons (ps_expr (pe_bm PySem.F.plainAttrs_list PySem.F.slot_list_append PySem.F.type_list_append mt_append (pv 3) (pa_cons (pv 6) pa_nil)))
        (pss_cons (ps_set (i := 7) sc_l_rows.nd rfl (Or.inl rfl) (pe_dget hu (pv 1) (pe_ix ix_list (pv 4) (pe_callB (call_max2 rfl) (by rfl) T.B.max (by decide +kernel) (pa_cons pe_int (pa_cons (pe_op op_sub (pv 5) pe_int) pa_nil))) (fun _ _ => rfl)) (fun _ _ => rfl)))
        (pss_one (ps_if (PW.pt (pw_and (pt_cmpR op_gt (pv 5) pe_int (nomark _)) (pw_and1 (pt_not (pt_val (pe_call G_l_linked (hr.mono (by decide)) rfl T.d_l_linked.g T.d_l_linked.F.kp T.d_l_linked.b .nil pass0 (pa_cons (pv 2) (pa_cons (pv 7) (pa_cons (pe_dget hu (pv 1) (pv 6) (fun _ _ => rfl)) pa_nil)))))))))
          (pss_one (ps_ret pe_bl))
          pss_nil))))))))))
    (pss_one (ps_ret (pe_cmpR op_eq (pe_callB call_len_seq (by rfl) T.B.len PySem.boot_len (pa_cons (pv 3) pa_nil)) (pe_callB call_lenD (by rfl) T.B.len PySem.boot_len (pa_cons (pv 1) pa_nil)) (nomark _))))))), ?_⟩
  obtain ⟨as, hp, hLL⟩ := hL
  have hal : as.length = rows.length := by have := Paired.length hLL; rw [List.length_map] at this; exact this
  refine q_when (b := false) (et_is (et_not (et_B (ev_isiL (ev_var rfl) hp))) rfl) (fun z => by cases z) (fun _ H1 e1 => ?_)
  refine q_asgL (el_lst ea_nil (by simp)) fun l H2 hl e2 h2 => ?_
  have e02 := e1.trans e2
  have hl0 : H l = none := fresh_back e1 hl
  have nlen : ∀ r : List Trip, (nms r).length = r.length := fun r => List.length_map _
  have fl40 : rows.flatten.length ≤ 40 := by rw [R.all]; exact hfew
  refine q_forLn (ev_var rfl) (sq_of (e02 _ _ hp)) (fun i σ' H' => (∃ v4 v5 v6 v7, σ' = [some (.ref p), some (.ref d), some (.ref f), some (.ref l), v4, v5, v6, v7]) ∧ Ex H H' ∧ H' l = some (.lst ((nms (rows.take i).flatten).map V.str)))
    (fun H3 e3 => ⟨⟨_, _, _, _, rfl⟩, e02.trans e3, e3 _ _ h2⟩) (fun i σ' H' _ z => sq_of (z.2.1 _ _ hp)) ?_ ?_
  · rintro i x σ' H' hx ⟨⟨v4, v5, v6, v7, rfl⟩, e, hs⟩
    rw [List.getElem?_map] at hx
    obtain ⟨b, hb, rfl⟩ := Option.map_eq_some_iff.mp hx
    obtain ⟨ns, hn, hbn⟩ := paired_get hLL hb
    rw [List.getElem?_map] at hn
    obtain ⟨r, hr', rfl⟩ := Option.map_eq_some_iff.mp hn
    have hrm := List.mem_of_getElem? hr'
    have hri := (List.getElem?_eq_some_iff.mp hr').1
    have tk : rows.take (i + 1) = rows.take i ++ [r] := by rw [List.take_add_one, hr']; rfl
    have split : rows = rows.take i ++ r :: rows.drop (i + 1) := by
      rw [← (List.getElem?_eq_some_iff.mp hr').2, ← List.drop_eq_getElem_cons hri, List.take_append_drop]
    have hfl : rows.flatten = (rows.take i).flatten ++ (r ++ (rows.drop (i + 1)).flatten) := by
      conv => lhs; rw [split]
      rw [List.flatten_append, List.flatten_cons]
    have hrl : r.length ≤ 40 := by rw [hfl, List.length_append, List.length_append] at fl40; omega
    have hpl : (rows.take i).flatten.length ≤ 40 := by rw [hfl, List.length_append] at fl40; omega
    have hne := R.ne r hrm
    have hpos := List.length_pos_iff.mpr hne
    refine q_when (b := false) (et_is (et_or (a := false) (b := false) (et_is (et_not (et_B (ev_isiL (ev_var rfl) (e _ _ hbn)))) rfl) (fun _ => et_is (et_test (ev_op (ev_lenN (ev_var rfl) (sq_of (e _ _ hbn))) ev_c (rv_eq rfl))) (by rw [dec_int, nlen]; exact decide_eq_false (by omega)))) rfl) (fun z => by cases z) (fun _ H3 e3 => ?_)
    have e03 := e.trans e3
    refine s_forR1 (n := (r.length : Int)) (ea_cons (by have := ev_lenN (K := K) (σ := [some (V.ref p), some (.ref d), some (.ref f), some (.ref l), some (.ref b), v5, v6, v7]) (te := tVar 4) (ev_var rfl) (sq_of (e03 _ _ hbn)); rw [nlen] at this; exact this) ea_nil) (by omega)
      (fun j σ' H' => (∃ v5 v6 v7, σ' = [some (.ref p), some (.ref d), some (.ref f), some (.ref l), some (.ref b), v5, v6, v7]) ∧ Ex H H' ∧ H' l = some (.lst ((nms ((rows.take i).flatten ++ r.take j)).map V.str)))
      (fun H4 e4 => ⟨⟨_, _, _, rfl⟩, e03.trans e4, by rw [List.take_zero, List.append_nil]; exact e4 _ _ (e3 _ _ hs)⟩) ?_ ?_
    · rintro j σ' H4 hj ⟨⟨v5, v6, v7, rfl⟩, e4, hs4⟩
      have hj' : j < r.length := by omega
      obtain ⟨t, ht⟩ : ∃ t, r[j]? = some t := ⟨r[j], List.getElem?_eq_getElem hj'⟩
      have htr := List.mem_of_getElem? ht
      have htm := R.mem r hrm t htr
      have tj : r.take (j + 1) = r.take j ++ [t] := by rw [List.take_add_one, ht]; rfl
      have at_r : ∀ {m : Nat} {u : Trip}, r[m]? = some u → ((nms r).map V.str)[m]? = some (.str u.name) := fun h => by unfold nms; rw [List.getElem?_map, List.getElem?_map, h]; rfl
      have newn : t.name ∉ nms ((rows.take i).flatten ++ r.take j) := fun q => by
        have hd := R.nd
        have e9 : rows.flatten = ((rows.take i).flatten ++ r.take j) ++ (t :: (r.drop (j + 1) ++ (rows.drop (i + 1)).flatten)) := by
          rw [hfl]
          conv => lhs; rw [← List.take_append_drop (j + 1) r, tj]
          simp
        rw [e9] at hd
        unfold nms at hd q
        rw [List.map_append, List.map_cons] at hd
        exact (List.nodup_append.mp hd).2.2 _ q _ List.mem_cons_self rfl
      have hT4 := hT.ex' e4
      refine q_asg (v := .str t.name) (ev_op (ev_var rfl) (ev_var rfl) (rv_ixL (sq_of (e4 _ _ hbn)) (atI_nat (at_r ht)))) fun H5 e5 => ?_
      have e05 := e4.trans e5
      have hT5 := hT.ex' e05
      refine q_when (b := false) (et_is (et_or (a := false) (b := false) (et_is (et_B (ev_dnotin (ev_var rfl) (ev_var rfl) (hT5.get nd htm))) rfl) (fun _ => et_is (et_test (ev_op (ev_var rfl) (ev_var rfl) (rv_isL (x := .str t.name) (sq_of (e5 _ _ hs4)) rfl (flat_strs _)))) (by rw [inV_str]; exact decide_eq_false newn))) rfl) (fun z => by cases z) (fun _ H6 e6 => ?_)
      have hpj : (nms ((rows.take i).flatten ++ r.take j)).length ≤ 80 := by rw [nlen, List.length_append, List.length_take]; omega
      refine q_app (v := .str t.name) (e6 _ _ (e5 _ _ hs4)) (ev_var rfl) (ev_var rfl) (by rw [List.length_map]; omega) fun H7 e7 => ?_
      have e8 := Ex.mut (o := .lst ((nms ((rows.take i).flatten ++ r.take j)).map V.str ++ [.str t.name])) ((e05.trans e6).trans e7) hl0
      generalize hH8 : upd H7 l (.lst ((nms ((rows.take i).flatten ++ r.take j)).map V.str ++ [.str t.name])) = H8 at e8 ⊢
      have hs8 : H8 l = some (.lst ((nms ((rows.take i).flatten ++ r.take (j + 1))).map V.str)) := by
        rw [← hH8, upd_same, tj]
        unfold nms
        simp
      have hT8 := hT.ex' e8
      obtain ⟨u, hu0, hul⟩ : ∃ u, r[j - 1]? = some u ∧ u ∈ r := ⟨r[j - 1], List.getElem?_eq_getElem (by omega), List.getElem_mem _⟩
      have hum := R.mem r hrm u hul
      refine q_asg (v := .ref (ad u.name)) (ev_dget (ev_var rfl) (ev_op (ev_var rfl) (ev_max2 ev_c (ev_op (ev_var rfl) ev_c rv_I0)) (rv_ixL (sq_of (e8 _ _ hbn)) (at_of (j := j - 1) (by split <;> omega) (at_r hu0)))) (hT8.get nd hum)) fun H9 e9 => ?_
      have e09 := e8.trans e9
      have hT9 := hT.ex' e09
      refine s_when (b := false) (et_is (et_and (a := decide (0 < j)) (b := false) (et_is (et_test (ev_op (ev_var rfl) ev_c rv_I0)) (decide_eq_decide.mpr (by omega))) (fun hb => et_is (et_not (et_B (ev_llk (ev_var rfl) (ev_var rfl) (ev_dget (ev_var rfl) (ev_var rfl) (hT9.get nd htm)) (hF.mono (exr e09)) (hT9.tup u hum) (hT9.tup t htm) (hps u hum).2 (hps t htm).1))) (by
          have hb := of_decide_eq_true hb
          rw [(R.lk r hrm).at hu0 (by rw [show j - 1 + 1 = j by omega]; exact ht)]; rfl))) (by cases decide (0 < j) <;> rfl)) (fun z => by cases z) (fun _ H10 e10 => ⟨⟨_, _, _, rfl⟩, e09.trans e10, e10 _ _ (e9 _ _ hs8)⟩)
    · rintro σ' H4 ⟨⟨v5, v6, v7, rfl⟩, e4, hs4⟩
      rw [Int.toNat_natCast, List.take_length] at hs4
      refine ⟨⟨_, _, _, _, rfl⟩, e4, ?_⟩
      rw [tk, List.flatten_append]
      simpa using hs4
  · rintro σ' H3 ⟨⟨v4, v5, v6, v7, rfl⟩, e3, hs3⟩
    rw [List.length_map, hal, List.take_length] at hs3
    refine s_ret (v := .bl true) ?_ fun H4 e4 => k H4 (e3.trans e4)
    have hT3 := hT.ex' e3
    have := ev_op (r := rEq) (σ := [some (V.ref p), some (.ref d), some (.ref f), some (.ref l), v4, v5, v6, v7]) (H := H3) (ev_lenN (K := K) (te := tVar 3) (ev_var rfl) (sq_of hs3)) (ev_cb (ea_cons (ta := tVar 1) (ev_var rfl) ea_nil) (rc_lenD hT3.dk)) (rv_eq rfl)
    rw [dec_int, nlen, R.all] at this
    have e : (encT ts ad).length = ts.length := List.length_map _
    rw [e, decide_eq_true rfl] at this
    exact this
end
end K49
/-! K49L8 -/
/-! apart, blocks. -/
namespace K49
open PySem L2 Evl
section
variable {P : Program} {w : World} {K : PySem.W.Frag} {mg : Str → Option Value} {base : Heap}
theorem cutV_to {xs : List V} {k : Nat} (h : k ≤ xs.length) : cutV xs none (some (k : Int)) = xs.take k := by
  unfold cutV
  rw [HT.sIx_none, HT.sIx_nat, Nat.min_eq_left h]; simp
theorem sc_l_apart : FnScope ["_law_told", "_law_trips_here", "_law_far", "_law_k", "_law_other", "_law_one", "_law_two"] ["_law_told", "_law_trips_here", "_law_far"] (defScope s_l_apart) := ⟨rfl, rfl, rfl, by decide +kernel, rfl, by decide +kernel, by decide +kernel⟩
def spLApart (K : PySem.W.Frag) : Sp := fun vs H Q _ => ∃ (p d f : Addr) (ts : List Trip) (ad : Str → Addr) (ps : List Str) (F : Str → Str → Int) (L : List Trip), vs = [.ref p, .ref d, .ref f] ∧ H p = some (.lst ((nms L).map V.str)) ∧ TripsAt H d ts ad ∧ FarAt H f ps F ∧ (ts.map fun t => t.name).Nodup ∧ L.length ≤ 40 ∧ (∀ t ∈ ts, t.origin ∈ ps ∧ t.goal ∈ ps) ∧ (∀ t ∈ L, t ∈ ts) ∧ (nms L).Nodup ∧ (∀ a ∈ L, ∀ b ∈ L, lkF F a b = false) ∧ RetV (.bl true) H Q
theorem k_l_apart (T : Tx K mg) : FnOk P w K mg base CX0 2 T.f_l_apart T.fd_l_apart ["_law_told", "_law_trips_here", "_law_far"] (spLApart K) := by
  have G_l_linked := k_l_linked (P := P) (w := w) (base := base) T
  refine T.d_l_apart.F.ok sc_l_apart (fun vs H Q E h => ?_) (fun cdv A outer s H vs Q E hr h => ?_)
  · obtain ⟨p, d, f, ts, ad, ps, F, L, rfl, _⟩ := h
    rfl
  obtain ⟨p, d, f, ts, ad, ps, F, L, rfl, hp, hT, hF, nd, hfew, hps, hLt, hLn, hap, k⟩ := h
  have hu := hu_of hr
  refine ⟨_, PSs.nox (pss_cons (ps_if (pt_not (pt_val (pe_callB call_isi (by rfl) T.B.isi (by decide +kernel) (pa_cons (pv 0) (pa_cons (pe_bltn (v := .ty "list") (by rfl) T.B.list (by decide +kernel) rfl) pa_nil)))))
      (pss_one (ps_ret pe_bl))
      pss_nil)
    (pss_cons (ps_for PassesOwn.never rfl (pi_range1 (by rfl) T.B.range (pa_cons (pe_callB call_len_seq (by rfl) T.B.len PySem.boot_len (pa_cons (pv 0) pa_nil)) pa_nil)) (pg_name (i := 3) sc_l_apart.nd rfl (Or.inl rfl))
      (pss_cons (ps_if (PW.pt (pw_or (pt_cmp (pc_dnotin hu (pe_ix ix_list (pv 0) (pv 3) (fun _ _ => rfl)) (pv 1))) (pw_or1 (pt_cmpR op_in_seq (pe_ix ix_list (pv 0) (pv 3) (fun _ _ => rfl)) (pe_slice sl_list (pv 0) po_none (po_some (pv 3))) (by rfl)))))
        (pss_one (ps_ret pe_bl))
        pss_nil)
      (pss_one (ps_for PassesOwn.never rfl (pi_list (pe_slice sl_list (pv 0) po_none (po_some (pv 3)))) (pg_name (i := 4) sc_l_apart.nd rfl (Or.inl rfl))
        (pss_cons (ps_set (i := 5) sc_l_apart.nd rfl (Or.inl rfl) (pe_dget hu (pv 1) (pe_ix ix_list (pv 0) (pv 3) (fun _ _ => rfl)) (fun _ _ => rfl)))
        (pss_cons (ps_set (i := 6) sc_l_apart.nd rfl (Or.inl rfl) (pe_dget hu (pv 1) (pv 4) (fun _ _ => rfl)))
        (pss_one (ps_if (PW.pt (pw_or (pt_val (pe_call G_l_linked (hr.mono (by decide)) rfl T.d_l_linked.g T.d_l_linked.F.kp T.d_l_linked.b .nil pass0 (pa_cons (pv 2) (pa_cons (pv 5) (pa_cons (pv 6) pa_nil))))) (pw_or1 (pt_val (pe_call G_l_linked (hr.mono (by decide)) rfl T.d_l_linked.g T.d_l_linked.F.kp T.d_l_linked.b .nil pass0 (pa_cons (pv 2) (pa_cons (pv 6) (pa_cons (pv 5) pa_nil))))))))
          (pss_one (ps_ret pe_bl))
          pss_nil))))))))
    (pss_one (ps_ret pe_bl)))), ?_⟩
  have nlen : ∀ r : List Trip, (nms r).length = r.length := fun r => List.length_map _
  refine q_when (b := false) (et_is (et_not (et_B (ev_isiL (ev_var rfl) hp))) rfl) (fun z => by cases z) (fun _ H1 e1 => ?_)
  refine q_forR1 (n := (L.length : Int)) (ea_cons (by have := ev_lenN (K := K) (σ := [some (V.ref p), some (.ref d), some (.ref f), none, none, none, none]) (te := tVar 0) (ev_var rfl) (sq_of (e1 _ _ hp)); rw [nlen] at this; exact this) ea_nil) (by omega)
    (fun i σ' H' => (∃ v3 v4 v5 v6, σ' = [some (.ref p), some (.ref d), some (.ref f), v3, v4, v5, v6]) ∧ Ex H H') (fun H2 e2 => ⟨⟨_, _, _, _, rfl⟩, e1.trans e2⟩) ?_ ?_
  · rintro i σ' H' hi ⟨⟨v3, v4, v5, v6, rfl⟩, e⟩
    have hi' : i < L.length := by omega
    obtain ⟨t, ht⟩ : ∃ t, L[i]? = some t := ⟨L[i], List.getElem?_eq_getElem hi'⟩
    have htL := List.mem_of_getElem? ht
    have htm := hLt t htL
    have at_L : ∀ {m : Nat} {u : Trip}, L[m]? = some u → ((nms L).map V.str)[m]? = some (.str u.name) := fun h => by unfold nms; rw [List.getElem?_map, List.getElem?_map, h]; rfl
    have newn : t.name ∉ nms (L.take i) := fun q => by
      have h4 := List.take_append_drop i L
      rw [List.drop_eq_getElem_cons hi', (List.getElem?_eq_some_iff.mp ht).2] at h4
      rw [← h4] at hLn
      unfold nms at hLn q
      rw [List.map_append, List.map_cons] at hLn
      exact (List.nodup_append.mp hLn).2.2 _ q _ List.mem_cons_self rfl
    have slE : ∀ {σ : St} {H9 : Hp}, Ex H H9 → σ[0]? = some (some (.ref p)) → σ[3]? = some (some (.int (i : Int))) → EvL (tSl (rSlL K) (tVar 0) tNoPart (tPart (tVar 3))) σ H9 ((nms (L.take i)).map V.str) := fun {σ H9} e9 h0 h3 => by
      have := el_sl (K := K) (te := tVar 0) (ev_var h0) eo_none (eo_some (ev_var h3)) (sq_of (e9 _ _ hp))
      have e : cutV ((nms L).map V.str) none (some (i : Int)) = (nms (L.take i)).map V.str := by
        unfold nms
        rw [cutV_to (by rw [List.length_map, List.length_map]; omega), ← List.map_take, ← List.map_take]
      rw [e] at this
      exact this
    have toldE : ∀ {σ : St} {H9 : Hp}, Ex H H9 → σ[0]? = some (some (.ref p)) → σ[3]? = some (some (.int (i : Int))) → Ev (tOp (rIxL K) (tVar 0) (tVar 3)) σ H9 (.str t.name) := fun e9 h0 h3 => ev_op (ev_var h0) (ev_var h3) (rv_ixL (sq_of (e9 _ _ hp)) (atI_nat (at_L ht)))
    have tl : (nms (L.take i)).length = i := by rw [nlen, List.length_take]; omega
    refine q_when (b := false) (et_is (et_or (a := false) (b := false) (et_is (et_B (ev_dnotin (toldE e rfl rfl) (ev_var rfl) ((hT.ex' e).get nd htm))) rfl) (fun _ => et_is (et_test (ev_opL (xs := (nms (L.take i)).map V.str) (toldE e rfl rfl) (slE e rfl rfl) fun q H3 hq e3 => rv_isL (x := .str t.name) (sq_of hq) rfl (flat_strs _))) (by rw [inV_str]; exact decide_eq_false newn))) rfl) (fun z => by cases z) (fun _ H3 e3 => ?_)
    have e03 := e.trans e3
    refine s_forNL (xs := (nms (L.take i)).map V.str) (slE e03 rfl rfl) (fun q j σ' H' => (∃ v4 v5 v6, σ' = [some (.ref p), some (.ref d), some (.ref f), some (.int (i : Int)), v4, v5, v6]) ∧ Ex H H' ∧ H' q = some (.lst ((nms (L.take i)).map V.str)))
      (fun q H4 hq e4 h4 => ⟨⟨_, _, _, rfl⟩, e03.trans e4, h4⟩) (fun q j σ' H' _ z => sq_of z.2.2) ?_ ?_
    · rintro q j x σ' H4 hx ⟨⟨v4, v5, v6, rfl⟩, e4, hq⟩
      rw [List.getElem?_map] at hx
      obtain ⟨n, hn, rfl⟩ := Option.map_eq_some_iff.mp hx
      unfold nms at hn
      rw [List.getElem?_map] at hn
      obtain ⟨u, hu', rfl⟩ := Option.map_eq_some_iff.mp hn
      have huL : u ∈ L := List.mem_of_mem_take (List.mem_of_getElem? hu')
      have hum := hLt u huL
      refine q_asg (v := .ref (ad t.name)) (ev_dget (ev_var rfl) (toldE e4 rfl rfl) ((hT.ex' e4).get nd htm)) fun H5 e5 => ?_
      have e05 := e4.trans e5
      refine q_asg (v := .ref (ad u.name)) (ev_dget (ev_var rfl) (ev_var rfl) ((hT.ex' e05).get nd hum)) fun H6 e6 => ?_
      have e06 := e05.trans e6
      have hT6 := hT.ex' e06
      have hF6 := hF.mono (exr e06)
      refine s_when (b := false) (et_is (et_or (a := false) (b := false) (et_is (et_B (ev_llk (ev_var rfl) (ev_var rfl) (ev_var rfl) hF6 (hT6.tup t htm) (hT6.tup u hum) (hps t htm).2 (hps u hum).1)) (hap t htL u huL)) (fun _ => et_is (et_B (ev_llk (ev_var rfl) (ev_var rfl) (ev_var rfl) hF6 (hT6.tup u hum) (hT6.tup t htm) (hps u hum).2 (hps t htm).1)) (hap u huL t htL))) rfl) (fun z => by cases z) (fun _ H7 e7 => ⟨⟨_, _, _, rfl⟩, e06.trans e7, e7 _ _ (e6 _ _ (e5 _ _ hq))⟩)
    · rintro q σ' H4 ⟨⟨v4, v5, v6, rfl⟩, e4, hq⟩
      exact ⟨⟨_, _, _, _, rfl⟩, e4⟩
  · rintro σ' H' ⟨⟨v3, v4, v5, v6, rfl⟩, e⟩
    exact s_ret ev_c fun H2 e2 => k H2 (e.trans e2)
/-! ### blocks -/
def cutRows (o : Office) (home : Str) (limit : Int) (rows : List (List Trip)) : List (List Trip) := rows.flatMap (cutAll (fits o home limit))
theorem sc_l_blocks : FnScope ["_law_table", "_law_home", "_law_rows_here", "_law_limit", "_law_blocks_here", "_law_row"] ["_law_table", "_law_home", "_law_rows_here", "_law_limit"] (defScope s_l_blocks) := ⟨rfl, rfl, rfl, by decide +kernel, rfl, by decide +kernel, by decide +kernel⟩
def spBlocks (CT CR : Addr) : Sp := fun vs H Q _ => ∃ (p a : Addr) (o : Office) (home : Str) (rows : List (List Trip)) (limit : Int), vs = [.ref p, .str home, .ref a, .int limit] ∧ o.Ok ∧ TableAt CT CR H p o ∧ home ∈ o.ps ∧ LL H a (rows.map nms) ∧ (∀ r ∈ rows, RowOk o r) ∧ rows.flatten.length ≤ 1000 ∧ (∀ r ∈ rows, ∀ t ∈ r, o.len home [t] ≤ limit) ∧
  RetP (fun v H2 => ∃ l, v = .ref l ∧ LL H2 l ((cutRows o home limit rows).map nms)) H Q
theorem flat_le (rows : List (List Trip)) (h : ∀ p ∈ rows, p ≠ []) : rows.length ≤ rows.flatten.length := by
  induction rows with
  | nil => simp
  | cons a r ih =>
    have h1 : 1 ≤ a.length := List.length_pos_iff.mpr (h a List.mem_cons_self)
    have h2 := ih fun p hp => h p (List.mem_cons_of_mem _ hp)
    simp only [List.length_cons, List.flatten_cons, List.length_append]; omega
theorem mem_flat_le {α : Type} {rows : List (List α)} {r : List α} (h : r ∈ rows) : r.length ≤ rows.flatten.length := by
  obtain ⟨a, b, e⟩ := List.append_of_mem h
  rw [e, List.flatten_append, List.flatten_cons, List.length_append, List.length_append]; omega
theorem cutRows_flat (o : Office) (home : Str) (limit : Int) (rows : List (List Trip)) : (cutRows o home limit rows).flatten = rows.flatten := by
  unfold cutRows
  induction rows with
  | nil => rfl
  | cons a r ih => rw [List.flatMap_cons, List.flatten_append, ih, cutAll_flat, List.flatten_cons]
theorem cutRows_ne (o : Office) (home : Str) (limit : Int) (rows : List (List Trip)) : ∀ p ∈ cutRows o home limit rows, p ≠ [] := fun p hp => by
  obtain ⟨r, _, h⟩ := List.mem_flatMap.mp hp
  exact cutAll_ne _ _ p h
theorem k_l_blocks (T : Tx K mg) : FnOk P w K mg base CX0 8 T.f_l_blocks T.fd_l_blocks ["_law_table", "_law_home", "_law_rows_here", "_law_limit"] (spBlocks T.CT T.CR) := by
  have G_cut := k_cut (P := P) (w := w) (base := base) T
  refine T.d_l_blocks.F.ok sc_l_blocks (fun vs H Q E h => ?_) (fun cdv A outer s H vs Q E hr h => ?_)
  · obtain ⟨p, a, o, home, rows, limit, rfl, _⟩ := h
    rfl
  obtain ⟨p, a, o, home, rows, limit, rfl, ok, hT, hh, hL, hrows, hlen, hlim, k⟩ := h
  have hu := hu_of hr
  refine ⟨_, PSs.nox (pss_cons (ps_set (i := 4) sc_l_blocks.nd rfl (Or.inl rfl) (pe_lst pa_nil))
    (pss_cons (ps_for PassesOwn.never rfl (pi_list (pv 2)) (pg_name (i := 5) sc_l_blocks.nd rfl (Or.inl rfl))
      (pss_one (ps_set (i := 4) sc_l_blocks.nd rfl (Or.inl rfl) (pe_op op_cat (pv 4) (pe_call G_cut (hr.mono (by decide)) rfl T.d_cut.g T.d_cut.F.kp T.d_cut.b .nil pass0 (pa_cons (pv 0) (pa_cons (pv 1) (pa_cons (pe_callTy call_list_of (by rfl) T.B.list (by decide +kernel) (pa_cons (pv 5) pa_nil)) (pa_cons (pv 3) pa_nil)))))))))
    (pss_one (ps_ret (pv 4))))), ?_⟩
  obtain ⟨as, hp, hLL⟩ := hL
  have hal : as.length = rows.length := by have := Paired.length hLL; rw [List.length_map] at this; exact this
  refine q_asgL (el_lst ea_nil (by simp)) fun l H2 hl e2 h2 => ?_
  refine q_forLn (ev_var rfl) (sq_of (e2 _ _ hp)) (fun i σ' H' => ∃ l v, σ' = [some (.ref p), some (.str home), some (.ref a), some (.int limit), some (.ref l), v] ∧ Ex H H' ∧ LL H' l ((cutRows o home limit (rows.take i)).map nms))
    (fun H3 e3 => ⟨l, _, rfl, e2.trans e3, [], e3 _ _ h2, .nil⟩) (fun i σ' H' _ z => by obtain ⟨_, _, _, z, _⟩ := z; exact sq_of (z _ _ hp)) ?_ ?_
  · rintro i x σ' H' hx ⟨l, v, rfl, e, as', has, hls⟩
    rw [List.getElem?_map] at hx
    obtain ⟨b, hb, rfl⟩ := Option.map_eq_some_iff.mp hx
    obtain ⟨ns, hn, hbn⟩ := paired_get hLL hb
    rw [List.getElem?_map] at hn
    obtain ⟨r, hr', rfl⟩ := Option.map_eq_some_iff.mp hn
    have hrm := List.mem_of_getElem? hr'
    have tk : rows.take (i + 1) = rows.take i ++ [r] := by rw [List.take_add_one, hr']; rfl
    have hrl : r.length ≤ 1000 := Nat.le_trans (mem_flat_le hrm) hlen
    refine ⟨_, rfl, _, rfl, _, rfl, ?_⟩
    refine el_list (K := K) (ev_var rfl) (sq_of (e _ _ hbn)) H' (Ex.refl _) _ fun q H3 hq e3 hq3 => ?_
    have e03 := e.trans e3
    refine ⟨_, rfl, p, q, o, home, r, limit, rfl, ok, hT.ex' e03, hh, sq_of hq3, hrows r hrm, hrl, hlim r hrm, fun v H4 e4 ⟨l2, hv, as2, h4, hls2⟩ => ?_⟩
    subst hv
    have e04 := e03.trans e4
    have c1 := Paired.length hls
    have c2 := Paired.length hls2
    rw [List.length_map] at c1 c2
    have b1 : (cutRows o home limit (rows.take i)).length ≤ 1000 := by
      have := flat_le _ (cutRows_ne o home limit (rows.take i))
      rw [cutRows_flat] at this
      have h9 : (rows.take i).flatten.length ≤ rows.flatten.length := by
        conv => rhs; rw [← List.take_append_drop i rows, List.flatten_append, List.length_append]
        omega
      omega
    have b2 : (cutAll (fits o home limit) r).length ≤ 1000 := by
      have := flat_le _ (cutAll_ne (fits o home limit) r)
      rw [cutAll_flat] at this
      omega
    refine ⟨l, l2, as'.map V.ref, as2.map V.ref, rfl, rfl, e4 _ _ (e3 _ _ has), h4, by rw [List.length_map, List.length_map, sizeLine_eq]; omega, fun n hn => ?_⟩
    have en := Ex.new (o := .lst (as'.map V.ref ++ as2.map V.ref)) hn
    refine ⟨n, _, rfl, e04.trans en, as' ++ as2, by rw [upd_same, List.map_append], ?_⟩
    have e9 : (cutRows o home limit (rows.take (i + 1))).map nms = (cutRows o home limit (rows.take i)).map nms ++ (cutAll (fits o home limit) r).map nms := by
      rw [tk]; unfold cutRows; simp
    rw [e9]
    exact paired_app (hls.mono (exr ((e3.trans e4).trans en))) (hls2.mono (exr en))
  · rintro σ' H3 ⟨l, v, rfl, e3, hL3⟩
    rw [List.length_map, hal, List.take_length] at hL3
    exact s_ret (ev_var rfl) fun H4 e4 => k _ _ (e3.trans e4) ⟨l, rfl, hL3.mono (exr e4)⟩
end
end K49
/-! K49Sort -/
/-! sorted texts are one list. -/
namespace K49
open PySem PySem.Spec PyProof.Rows
def leS (a b : Str) : Prop := a.cps.toList ≤ b.cps.toList
theorem leS_of {a b : Str} (h : (!ltCps b.cps.toList a.cps.toList) = true) : leS a b := by
  rw [ltCps_eq] at h
  have : ¬ b.cps.toList < a.cps.toList := by simpa using h
  exact List.not_lt.mp this
theorem leS_trans {a b c : Str} (h1 : leS a b) (h2 : leS b c) : leS a c := List.le_trans h1 h2
theorem leS_anti {a b : Str} (h1 : leS a b) (h2 : leS b a) : a = b := by
  have := List.le_antisymm h1 h2
  obtain ⟨⟨a⟩⟩ := a
  obtain ⟨⟨b⟩⟩ := b
  have h : a = b := this
  rw [h]
theorem rising_pw : ∀ (l : List Str) (p : Str), risingS p l = true → (p :: l).Pairwise leS
  | [], p, _ => by simp
  | x :: r, p, h => by
    have h' : (!ltCps x.cps.toList p.cps.toList && risingS x r) = true := h
    rw [Bool.and_eq_true] at h'
    have ih := rising_pw r x h'.2
    have hp := leS_of h'.1
    refine List.pairwise_cons.mpr ⟨fun y hy => ?_, ih⟩
    rcases List.mem_cons.mp hy with e | e
    · rw [e]; exact hp
    · exact leS_trans hp ((List.pairwise_cons.mp ih).1 y e)
theorem sorted_pw : ∀ (l : List Str), sortedS l = true → l.Pairwise leS
  | [], _ => by simp
  | x :: r, h => rising_pw r x h
theorem eq_of_pw : ∀ {l m : List Str}, l.Perm m → l.Pairwise leS → m.Pairwise leS → l = m
  | [], m, h, _, _ => (List.nil_perm.mp h).symm
  | a :: l, [], h, _, _ => by have := h.length_eq; simp at this
  | a :: l, b :: m, h, h1, h2 => by
    have e : a = b := by
      have ha : a ∈ b :: m := h.mem_iff.mp List.mem_cons_self
      have hb : b ∈ a :: l := h.mem_iff.mpr List.mem_cons_self
      rcases List.mem_cons.mp ha with q | q
      · exact q
      · rcases List.mem_cons.mp hb with r | r
        · exact r.symm
        · exact leS_anti ((List.pairwise_cons.mp h1).1 b r) ((List.pairwise_cons.mp h2).1 a q)
    subst e
    rw [eq_of_pw (List.Perm.cons_inv h) (List.pairwise_cons.mp h1).2 (List.pairwise_cons.mp h2).2]
theorem sorted_one {l m xs ys : List Str} (hl : l.Perm xs) (hm : m.Perm ys) (h : xs.Perm ys) (sl : sortedS l = true) (sm : sortedS m = true) : l = m := eq_of_pw ((hl.trans h).trans hm.symm) (sorted_pw l sl) (sorted_pw m sm)
end K49
/-! K49L9 -/
/-! legs. -/
namespace K49
open PySem L2 Evl
def legsOf (o : Office) (home : Str) (rows : List (List Trip)) : List Trip := rows.flatMap (legRow o home)
theorem legRow_nms (o : Office) (home : Str) (row : List Trip) : nms (legRow o home row) = nms row := by
  unfold legRow nms
  rw [List.map_map]
  refine List.ext_getElem (by simp) fun i h1 h2 => ?_
  simp only [List.getElem_map, List.getElem_range, Function.comp]
  have hi : i < row.length := by simpa using h2
  show (row.getD i Trip.none).name = _
  rw [List.getD_eq_getElem?_getD, List.getElem?_eq_getElem hi]; rfl
theorem legsOf_nms (o : Office) (home : Str) (rows : List (List Trip)) : nms (legsOf o home rows) = nms rows.flatten := by
  unfold legsOf
  induction rows with
  | nil => rfl
  | cons a r ih =>
    unfold nms at ih ⊢
    rw [List.flatMap_cons, List.flatten_cons, List.map_append, List.map_append, ih]
    congr 1
    exact legRow_nms o home a
section
variable {P : Program} {w : World} {K : PySem.W.Frag} {mg : Str → Option Value} {base : Heap}
theorem dp_strs {H : Hp} : ∀ l : List Str, DpAll K H (l.map V.str) (l.map PyData.str)
  | [] => .nil
  | x :: r => .cons (.str x) (dp_strs r)
theorem strs_lay {l : List Str} (h : ∀ x ∈ l, x.cps.all (· < 0x110000) = true) : PyData.canLay0 (.list (l.map .str)) = true := by
  unfold PyData.canLay0
  induction l with
  | nil => unfold PyData.canLayAll0; rfl
  | cons a r ih =>
    show PyData.canLayAll0 (.str a :: r.map .str) = true
    unfold PyData.canLayAll0
    rw [ih fun x hx => h x (List.mem_cons_of_mem _ hx)]
    unfold PyData.canLay0
    have := h a List.mem_cons_self
    rw [Bool.and_true]
    exact this
theorem strs_depth : ∀ l : List Str, PyData.depthAll (l.map .str) ≤ 1
  | [] => by show PyData.depthAll [] ≤ 1; unfold PyData.depthAll; exact Nat.zero_le _
  | a :: r => by
    show PyData.depthAll (.str a :: r.map .str) ≤ 1
    have := strs_depth r
    unfold PyData.depthAll
    have h : PyData.depth (.str a) ≤ 1 := by unfold PyData.depth; omega
    omega
theorem strs_shaped {l : List Str} (h : ∀ x ∈ l, x.cps.all (· < 0x110000) = true) : SeqAt.shaped (.list (l.map .str)) = true := by
  unfold SeqAt.shaped
  have h2 : PyData.depth (.list (l.map .str)) ≤ 64 := by
    have := strs_depth l
    unfold PyData.depth
    omega
  rw [strs_lay h, decide_eq_true h2]; rfl
theorem el_catE {σ : St} {H : Hp} {ta tb : TE} {l b : Addr} {xs ys : List V} (h : Ev ta σ H (.ref l)) (hl : H l = some (.lst xs)) (hb : Ev tb σ H (.ref b)) (hb2 : H b = some (.lst ys)) (hz : xs.length + ys.length ≤ 100000) : EvL (tOp rCat ta tb) σ H (xs ++ ys) := fun H1 e Q q =>
  h H1 e _ fun H2 e2 => hb H2 (e.trans e2) _ fun H3 e3 => ⟨l, b, xs, ys, rfl, rfl, ((e.trans e2).trans e3) _ _ hl, ((e.trans e2).trans e3) _ _ hb2, sz_of hz, fun p hp => q p _ (fresh_back (e2.trans e3) hp) ((e2.trans e3).trans (Ex.new hp)) upd_same⟩
theorem rv_eqStrs {H : Hp} {p q : Addr} {l : List Str} (hp : SqL K H p (l.map V.str)) (hq : SqL K H q (l.map V.str)) (h : ∀ x ∈ l, x.cps.all (· < 0x110000) = true) : RV (rEqD K) (.ref p) (.ref q) H (.bl true) := fun H1 e Q k =>
  ⟨.list (l.map .str), .list (l.map .str), .lst (ex_l e hp) (dp_strs l), .lst (ex_l e hq) (dp_strs l), strs_shaped h, strs_shaped h, by
    rw [SeqAt.eqv_refl _ (strs_lay h)]; exact k H1 (Ex.refl H1)⟩
theorem sc_l_legs : FnScope ["_law_roads", "_law_table", "_law_home", "_law_blocks_here", "_law_made", "_law_due", "_law_block", "_law_leg"] ["_law_roads", "_law_table", "_law_home", "_law_blocks_here"] (defScope s_l_legs) := ⟨rfl, rfl, rfl, by decide +kernel, rfl, by decide +kernel, by decide +kernel⟩
def spLLegs (CT CR : Addr) (TT : List (Addr × Str)) : Sp := fun vs H Q _ => ∃ (r p bl : Addr) (o : Office) (home : Str) (rows : List (List Trip)), vs = [.ref r, .ref p, .str home, .ref bl] ∧ o.Ok ∧ TableAt CT CR H p o ∧ RoadsAt CR H r o.ps o.D ∧ home ∈ o.ps ∧ LL H bl (rows.map nms) ∧ (∀ r ∈ rows, RowOk o r) ∧ (nms rows.flatten).Nodup ∧ rows.flatten.length ≤ 40 ∧
  (∀ t ∈ rows.flatten, NameOk t.name) ∧ (∀ t ∈ legsOf o home rows, TripOk o.ps o.D t) ∧ (∀ ad, (⟨o.ps, o.D, legsOf o home rows, ad⟩ : Office).Ok) ∧ LamX.Tabs TT H ∧ ∀ H2, LamX.ExtN H H2 → LamX.Tabs TT H2 → Q (.bl true) H2
theorem k_l_legs (T : Tx K mg) (TB : LamX.TabB base mg T.cN T.PN) : FnOk P w K mg base CX0 8 T.f_l_legs T.fd_l_legs ["_law_roads", "_law_table", "_law_home", "_law_blocks_here"] (spLLegs T.CT T.CR [(T.PN, qN)]) := by
  have G_legs := k_legs (P := P) (w := w) (base := base) T
  have G_tinit := k_tinit (P := P) (w := w) (base := base) T
  have G_tnames := k_tnames (P := P) (w := w) (base := base) T TB
  refine T.d_l_legs.F.ok sc_l_legs (fun vs H Q E h => ?_) (fun cdv A outer s H vs Q E hr h => ?_)
  · obtain ⟨r, p, bl, o, home, rows, rfl, _⟩ := h
    rfl
  obtain ⟨r, p, bl, o, home, rows, rfl, ok, hT, hRd, hh, hL, hrows, hnd, hlen, hnm, htr, hok2, hTb, k⟩ := h
  have hu := hu_of hr
  refine ⟨_, PSs.nox (pss_cons (ps_set (i := 4) sc_l_legs.nd rfl (Or.inl rfl) (pe_call G_legs (hr.mono (by decide)) rfl T.d_legs.g T.d_legs.F.kp T.d_legs.b .nil pass0 (pa_cons (pv 1) (pa_cons (pv 2) (pa_cons (pv 3) pa_nil)))))
    (pss_cons (ps_set (i := 5) sc_l_legs.nd rfl (Or.inl rfl) (pe_lst pa_nil))
    (pss_cons (ps_for PassesOwn.never rfl (pi_list (pv 3)) (pg_name (i := 6) sc_l_legs.nd rfl (Or.inl rfl))
      (pss_one (ps_set (i := 5) sc_l_legs.nd rfl (Or.inl rfl) (pe_op op_cat (pv 5) (pv 6)))))
    (pss_one (ps_ret (pe_and (pe_cmpR (op_eqD hr.units) (pe_lc (own := [("_law_leg", 7)]) (g := gName 7) (by rfl) sc_l_legs.nd (pi_list (pv 4)) (blkOk_by (own := [("_law_leg", 7)]) (N := ["_law_roads", "_law_table", "_law_home", "_law_blocks_here", "_law_made", "_law_due", "_law_block", "_law_leg"]) (sc := defScope s_l_legs) (by decide +kernel)) (fun _ _ _ _ _ => pg_name (i := 7) sc_l_legs.nd rfl (Or.inl rfl)) (fun _ _ _ _ _ => pts_nil) (fun _ _ _ _ _ => (pe_ix (ix_tupK (K := K) rfl) (pv 7) pe_int (fun _ _ => rfl)))) (pv 5) (nomark _)) (pe_one (pe_cmpR (op_eqD hr.units) (pe_callB cr_sortedS (by rfl) T.B.sorted (by decide +kernel) (pa_cons (pe_meth0 (pe_make T.I_tinit.m G_tinit (hr.mono (by decide)) (by rfl) T.C.gT T.I_tinit.b .nil pass0 (pa_cons (pv 0) (pa_cons (pv 4) pa_nil))) T.C.T T.M_tnames.m G_tnames (hr.mono (by decide)) T.M_tnames.b .nil pass0) pa_nil)) (pe_callB cr_sortedS (by rfl) T.B.sorted (by decide +kernel) (pa_cons (pv 5) pa_nil)) (nomark _))))))))), ?_⟩
  obtain ⟨bs, hb1, hb2⟩ := hL
  have hbl : bs.length = rows.length := by have := Paired.length hb2; rw [List.length_map] at this; exact this
  have nlen : ∀ r : List Trip, (nms r).length = r.length := fun r => List.length_map _
  refine q_asgP (P := fun v H2 => ∃ l, v = .ref l ∧ TupsAt H2 l (legsOf o home rows)) (ep_call (ea_cons (ev_var rfl) (ea_cons (ev_var rfl) (ea_cons (ev_var rfl) ea_nil))) fun H1 e Q1 q1 E1 => ⟨p, bl, o, home, rows, rfl, ok, hT.ex' e, hh, ⟨bs, e _ _ hb1, hb2.mono (exr e)⟩, hrows, hnd, by omega, fun v H2 e2 h => q1 v H2 e2 h⟩) fun v H1 e1 ⟨m, hv, hm⟩ => ?_
  subst hv
  refine q_asgL (el_lst ea_nil (by simp)) fun l0 H2 hl0 e2 h2 => ?_
  have e02 := e1.trans e2
  refine q_forLn (ev_var rfl) (sq_of (e02 _ _ hb1)) (fun i σ' H' => ∃ l v v', σ' = [some (.ref r), some (.ref p), some (.str home), some (.ref bl), some (.ref m), some (.ref l), v, v'] ∧ Ex H2 H' ∧ H' l = some (.lst ((nms (rows.take i).flatten).map V.str)))
    (fun H3 e3 => ⟨l0, _, _, rfl, e3, e3 _ _ h2⟩) (fun i σ' H' _ z => by obtain ⟨_, _, _, _, z, _⟩ := z; exact sq_of (z _ _ (e02 _ _ hb1))) ?_ ?_
  · rintro i x σ' H' hx ⟨l, v, v', rfl, e, hl⟩
    rw [List.getElem?_map] at hx
    obtain ⟨b, hb, rfl⟩ := Option.map_eq_some_iff.mp hx
    obtain ⟨ns, hn, hbn⟩ := paired_get hb2 hb
    rw [List.getElem?_map] at hn
    obtain ⟨rw1, hr', rfl⟩ := Option.map_eq_some_iff.mp hn
    have hrm := List.mem_of_getElem? hr'
    have tk : rows.take (i + 1) = rows.take i ++ [rw1] := by rw [List.take_add_one, hr']; rfl
    have h9 : (rows.take i).flatten.length ≤ rows.flatten.length := by
      conv => rhs; rw [← List.take_append_drop i rows, List.flatten_append, List.length_append]
      omega
    have h8 := mem_flat_le hrm
    refine s_asgL (xs := (nms (rows.take (i + 1)).flatten).map V.str) ?_ fun q H3 hq e3 h3 => ⟨q, _, _, rfl, e.trans e3, h3⟩
    have bbn := e _ _ (e02 _ _ hbn)
    have := el_catE (σ := [some (.ref r), some (.ref p), some (.str home), some (.ref bl), some (.ref m), some (.ref l), some (.ref b), v']) (ta := tVar 5) (tb := tVar 6) (ev_var rfl) hl (ev_var rfl) bbn (by rw [List.length_map, List.length_map, nlen, nlen]; omega)
    have e9 : (nms (rows.take (i + 1)).flatten).map V.str = (nms (rows.take i).flatten).map V.str ++ (nms rw1).map V.str := by
      rw [tk, List.flatten_append]; unfold nms; simp
    rw [e9]
    exact this
  rintro σ' H3 ⟨l, v, v', rfl, e3, hl⟩
  rw [List.length_map, hbl, List.take_length] at hl
  have e03 := e02.trans e3
  have tx : ∀ x ∈ nms rows.flatten, x.cps.all (· < 0x110000) = true := fun x hx => by
    obtain ⟨t, ht, rfl⟩ := List.mem_map.mp hx
    exact (hnm t ht).tx
  obtain ⟨as, hm1, hm2⟩ := (hm.mono (exr (e2.trans e3)))
  have hal : as.length = (legsOf o home rows).length := Paired.length hm2
  have hll : (legsOf o home rows).length = rows.flatten.length := by rw [← nlen, legsOf_nms, nlen]
  obtain ⟨z1, z2, z3⟩ := zip_snd hm2
  have first : EvL (tLc (iList K (tVar 4)) (gName 7) tYes (tOp (rIxT K) (tVar 7) (tC (.int 0))) [7]) [some (.ref r), some (.ref p), some (.str home), some (.ref bl), some (.ref m), some (.ref l), v, v'] H3 ((nms rows.flatten).map V.str) := by
    have q := el_lcF (K := K) (σ := [some (.ref r), some (.ref p), some (.str home), some (.ref bl), some (.ref m), some (.ref l), v, v']) (H := H3) (a := m) (tl := tVar 4) (tt := tYes) (te := tOp (rIxT K) (tVar 7) (tC (.int 0))) (vs := [7]) (j := 7) (as.zip (legsOf o home rows)) (fun p => V.ref p.1) (fun _ => true) (fun p => V.str p.2.name) (ev_var rfl)
      (by
        have : (as.zip (legsOf o home rows)).map (fun p => V.ref p.1) = as.map V.ref := by conv => rhs; rw [← z2, List.map_map]
                                                                                           rfl
        rw [this]; exact sq_of hm1) (by rw [List.length_zip]; omega) (fun x => rfl) (fun x hx H1 e => et_yes) (fun x hx H1 e _ => ev_op (ev_var rfl) ev_c (rv_ixT (st_of (e _ _ (z3 x hx))) rfl))
    rw [filter_all] at q
    have e : (as.zip (legsOf o home rows)).map (fun p => V.str p.2.name) = (nms rows.flatten).map V.str := by
      rw [← legsOf_nms o home rows]
      unfold nms
      conv => rhs; rw [← z1]
      rw [List.map_map, List.map_map]; rfl
    rw [e] at q
    exact q
  refine ev_opL1 first (fun H4 e4 => ev_var rfl) (fun q H4 hq e4 => rv_eqStrs (sq_of hq) (sq_of (e4 _ _ hl)) tx) H3 (Ex.refl _) _ fun H4 e4 => ⟨true, rfl, ?_⟩
  rw [if_pos rfl]
  have e34 := e3.trans e4
  have e04 := e03.trans e4
  refine ⟨_, rfl, _, rfl, fun x dx hx hdx hne => ?_⟩
  have e45 : ∀ c u, H4 c = some u → upd (upd H4 dx (.own x)) x (.ins T.CT dx []) c = some u := fun c u hc => by
    rw [upd_ne (ne_of_none hc hx), upd_ne (ne_of_none hc hdx)]; exact hc
  have hm5 := hm.mono (exr ((e2.trans e3).trans (e4.trans e45)))
  refine ⟨x, r, m, dx, o.ps, o.D, legsOf o home rows, rfl, upd_same, hRd.mono (exr (e04.trans e45)), ?_, hm5, ?_, htr, by omega, fun H5 ad eB hT5 => ⟨rfl, ?_⟩⟩
  · obtain ⟨_, _, _, _, _, h1, _⟩ := (hRd.mono (exr e04)).ex
    exact ne_of_none h1 hx
  · have : (legsOf o home rows).map (fun t => t.name) = nms (legsOf o home rows) := rfl
    rw [this, legsOf_nms]; exact hnd
  have e05 : Ex H4 H5 := fun c u hc => eB c u (e45 c u hc) (ne_of_none hc hx)
  obtain ⟨dx2, q2, b2, h51, _⟩ := id hT5.ex
  have hTb5 : LamX.Tabs [(T.PN, qN)] H5 := hTb.ext (e04.trans e05)
  refine ⟨x, dx2, _, rfl, h51, tF_no _ _, x, ⟨o.ps, o.D, legsOf o home rows, ad⟩, rfl, hok2 ad, hT5, hTb5, fun vv H6 eN hTb6 ⟨a6, xs, hv, ha6, hp6⟩ => ?_⟩
  subst hv
  have hnames : (⟨o.ps, o.D, legsOf o home rows, ad⟩ : Office).names = nms rows.flatten := legsOf_nms o home rows
  rw [hnames] at hp6
  have xl : xs.length ≤ 40 := by rw [hp6.length_eq, nlen]; exact hlen
  refine ⟨a6, xs, rfl, sq_of ha6, by omega, fun ys q hys sys hq => ?_⟩
  have l6 : H6 l = some (.lst ((nms rows.flatten).map V.str)) := eN _ _ (e05 _ _ (e4 _ _ hl)) fun ps z => by cases z
  refine ⟨_, rfl, l, nms rows.flatten, rfl, sq_of (Ex.new hq _ _ l6), by rw [nlen]; omega, fun zs q2 hzs szs hq2 => ?_⟩
  obtain rfl := sorted_one hys hzs hp6 sys szs
  have eF := (Ex.new (o := .lst (ys.map V.str)) hq).trans (Ex.new (o := .lst (ys.map V.str)) hq2)
  refine rv_eqStrs (K := K) (l := ys) (sq_of (Ex.new hq2 _ _ upd_same)) (sq_of upd_same) (fun x hx => tx x (hzs.mem_iff.mp hx)) _ (Ex.refl _) _ fun H7 e7 => k H7 ((LamX.ExtN.of (e04.trans e05)).trans (eN.trans (LamX.ExtN.of (eF.trans e7)))) (hTb6.ext (eF.trans e7))
end
end K49
/-! K49Hot -/
/-! walking lists, tuples, dicts while an exception is handled: the ends. -/
namespace K49
open PySem PySem.Spec PyProof.Rows HotX
section
variable {prog : Program} {w : World} {A : Around} {E : Value → Shared → Prop} {s : Shared}
/-- the exception stands as it stood -/
theorem hot_keep {x1 : Addr} {h h' : Heap} (hot : HotAt A x1 h) (k : ∀ o, h.get? x1 = some o → h'.get? x1 = some o) : HotAt A x1 h' := by
  obtain ⟨hh, o1, vs1, h1, d1, c1⟩ := hot
  exact ⟨hh, o1, vs1, k _ h1, d1, c1⟩
theorem pyNext_list_end_hot {it l x1 : Addr} {i : Nat} {items : Array Value} {Q : Option Value → Shared → Prop} (hot : HotAt A x1 s.heap) (hx1 : x1 ≠ it)
    (hit : s.heap.IsListIter it l i) (hl : s.heap.IsList l items) (hx : items[i]? = none)
    (hQ : ∀ h', Heap.ExtBut it s.heap h' → Q none { s with heap := h' }) : wpAny (model prog w) A (pyNext (.ref it)) Q E s := by
  obtain ⟨o, ho, hc, hd⟩ := id hit
  obtain ⟨ol, hol, _, nl, hdl⟩ := hl
  obtain ⟨hh, o1, vs1, h1, d1, c1⟩ := hot
  unfold pyNext
  refine wpAny_bind (wpAny_attempt (wpAny_callSpecial?_slot (name := Str.ofString "__next__") hit.typeIs slot_listiter_next
    (wpAny_call_entry slot_listiter_next hit.typeIs entry_listiter_next ?_ (args_listiter_next _))))
  show wpAny _ _ (field (.ref it) 0 >>= _) _ _ s
  refine wpAny_bind (wpAny_field ho hd (x := .ref l) rfl ?_)
  show wpAny _ _ (if (Value.ref l == Value.none) = true then _ else _) _ _ s
  rw [if_neg (show ¬ ((Value.ref l == Value.none) = true) from Bool.false_ne_true)]
  show wpAny _ _ (field (.ref it) 1 >>= _) _ _ s
  refine wpAny_bind (wpAny_field ho hd (x := .int i 0) rfl ?_)
  show wpAny _ _ (seqItems? (.ref l) >>= _) _ _ s
  refine wpAny_bind (wpAny_seqItems hol hdl ?_)
  simp only [Int.toNat_natCast, hx]
  refine wpAny_bind (wpAny_rule (wpAny_bind (wpAny_setField ho hd (by simp) ?_)))
  show wpAny _ _ (newExc (.type "StopIteration") [] >>= _) _ _ _
  refine wpAny_bind ?_
  simp only [newExc, newTuple]
  refine wpAny_bind (wpAny_newObj_type ?_ (by size_fits))
  refine wpAny_bind (m := firstArgMember _ _) (wpAny_of_eq (a := Value.none) (by first | rfl | (simp only [firstArgMember]; rfl)) ?_)
  refine wpAny_newObj_type ?_ (by size_fits)
  have upb : ∀ f (b : Addr) (o : Obj), b ≠ it → s.heap.get? b = some o → (s.heap.update it f).get? b = some o := fun f b o hb e => ((Heap.SameBut.update s.heap it f).2 b hb).trans e
  refine raiseNew_hot ⟨hh, o1, vs1, Heap.get?_push_of_some _ (Heap.get?_push_of_some _ (upb _ x1 o1 hx1 h1)), d1, c1⟩ (Nat.ne_of_lt (Heap.lt_size (Heap.get?_push_of_some _ (upb _ x1 o1 hx1 h1)))) (Heap.get?_push_size _ rfl) rfl (by first | (simp; done) | (simp; omega) | (simp only [Array.size_append]; simp; omega)) ?_
  refine wpAny_bind (wpAny_isInstance (T := "StopIteration") (b := true) ⟨_, Heap.get?_update_self _ (Heap.get?_push_size _ rfl) rfl, rfl⟩ isSubtype_stop ?_)
  refine wpAny_pure (hQ _ fun b o hb e => ?_)
  rw [Heap.get?_update_other _ _ (Nat.ne_of_gt (Heap.lt_size (Heap.get?_push_of_some _ (upb _ b o hb e))))]
  exact Heap.get?_push_of_some _ (Heap.get?_push_of_some _ (upb _ b o hb e))
theorem pyNext_tuple_end_hot {it t x1 : Addr} {i : Nat} {items : Array Value} {Q : Option Value → Shared → Prop} (hot : HotAt A x1 s.heap) (hx1 : x1 ≠ it)
    (hit : s.heap.IsTupleIter it t i) (ht : s.heap.IsTuple t items) (hx : items[i]? = none)
    (hQ : ∀ h', Heap.ExtBut it s.heap h' → Q none { s with heap := h' }) : wpAny (model prog w) A (pyNext (.ref it)) Q E s := by
  obtain ⟨o, ho, hc, hd⟩ := id hit
  obtain ⟨ol, hol, _, nl, hdl⟩ := ht
  obtain ⟨hh, o1, vs1, h1, d1, c1⟩ := hot
  unfold pyNext
  refine wpAny_bind (wpAny_attempt (wpAny_callSpecial?_slot (name := Str.ofString "__next__") hit.typeIs F.slot_tuple_iterator_next
    (wpAny_call_entry F.slot_tuple_iterator_next hit.typeIs F.entry_tuple_iterator_next ?_ (F.args_tuple_iterator_next_1 _))))
  show wpAny _ _ (field (.ref it) 0 >>= _) _ _ s
  refine wpAny_bind (wpAny_field ho hd (x := .ref t) rfl ?_)
  show wpAny _ _ (if (Value.ref t == Value.none) = true then _ else _) _ _ s
  rw [if_neg (show ¬ ((Value.ref t == Value.none) = true) from Bool.false_ne_true)]
  show wpAny _ _ (field (.ref it) 1 >>= _) _ _ s
  refine wpAny_bind (wpAny_field ho hd (x := .int i 0) rfl ?_)
  show wpAny _ _ (seqItems? (.ref t) >>= _) _ _ s
  refine wpAny_bind (wpAny_seqItems hol hdl ?_)
  simp only [Int.toNat_natCast, hx]
  refine wpAny_bind (wpAny_rule (wpAny_bind (wpAny_setField ho hd (by simp) ?_)))
  show wpAny _ _ (newExc (.type "StopIteration") [] >>= _) _ _ _
  refine wpAny_bind ?_
  simp only [newExc, newTuple]
  refine wpAny_bind (wpAny_newObj_type ?_ (by size_fits))
  refine wpAny_bind (m := firstArgMember _ _) (wpAny_of_eq (a := Value.none) (by first | rfl | (simp only [firstArgMember]; rfl)) ?_)
  refine wpAny_newObj_type ?_ (by size_fits)
  have upb : ∀ f (b : Addr) (o : Obj), b ≠ it → s.heap.get? b = some o → (s.heap.update it f).get? b = some o := fun f b o hb e => ((Heap.SameBut.update s.heap it f).2 b hb).trans e
  refine raiseNew_hot ⟨hh, o1, vs1, Heap.get?_push_of_some _ (Heap.get?_push_of_some _ (upb _ x1 o1 hx1 h1)), d1, c1⟩ (Nat.ne_of_lt (Heap.lt_size (Heap.get?_push_of_some _ (upb _ x1 o1 hx1 h1)))) (Heap.get?_push_size _ rfl) rfl (by first | (simp; done) | (simp; omega) | (simp only [Array.size_append]; simp; omega)) ?_
  refine wpAny_bind (wpAny_isInstance (T := "StopIteration") (b := true) ⟨_, Heap.get?_update_self _ (Heap.get?_push_size _ rfl) rfl, rfl⟩ isSubtype_stop ?_)
  refine wpAny_pure (hQ _ fun b o hb e => ?_)
  rw [Heap.get?_update_other _ _ (Nat.ne_of_gt (Heap.lt_size (Heap.get?_push_of_some _ (upb _ b o hb e))))]
  exact Heap.get?_push_of_some _ (Heap.get?_push_of_some _ (upb _ b o hb e))
/-- a, b = a tuple, there -/
theorem unpackItems_tuple_hot {t x1 : Addr} {items : Array Value} {Q : List Value → Shared → Prop} (hot : HotAt A x1 s.heap) (ht : s.heap.IsTuple t items)
    (hQ : ∀ h', Heap.ExtBut s.heap.objs.size s.heap h' → Q items.toList { s with heap := h' }) : wpAny (model prog w) A (unpackItems (.ref t) items.size none) Q E s := by
  have hlt : t ≠ s.heap.objs.size := by obtain ⟨o, ho, _⟩ := ht; exact Nat.ne_of_lt (Heap.lt_size ho)
  have hx1 : x1 ≠ s.heap.objs.size := by obtain ⟨_, o, _, ho, _⟩ := id hot; exact Nat.ne_of_lt (Heap.lt_size ho)
  unfold unpackItems
  refine wpAny_bind ?_
  · unfold notIterableAtAll
    refine wpAny_bind (wpAny_specialOf ht.typeIs F.slot_tuple_iter.lookup ?_)
    refine wpAny_pure ?_
    simp only [Bool.false_eq_true, if_false]
    refine wpAny_bind (wpAny_holding (wpAny_pyIter_tuple ht ?_))
    refine wpAny_bind (wpAny_holding (wpAny_draw_tuple hlt items.size 0 _ _ ⟨_, Heap.get?_push_size _ rfl, rfl, rfl⟩ (ht.push _) (by omega) fun h₁ hit₁ hs₁ => ?_))
    have hall : List.take items.size (List.drop 0 items.toList) = items.toList := by
      rw [List.drop_zero]; exact List.take_of_length_le (by simp)
    rw [hall]
    rw [if_neg (by simp)]
    have ht₁ : h₁.IsTuple t items := (ht.push _).extBut hs₁.extBut hlt
    have hot₁ : HotAt A x1 h₁ := hot_keep hot fun o e => hs₁.extBut x1 o hx1 (Heap.get?_push_of_some _ e)
    refine wpAny_bind (wpAny_holding (pyNext_tuple_end_hot (s := { s with heap := h₁ }) hot₁ hx1 hit₁ ht₁ (by simp) fun h₂ he₂ => ?_))
    simp only [Option.isSome_none, Bool.false_eq_true, if_false]
    refine wpAny_pure (hQ h₂ fun b o hb e => he₂ b o hb (hs₁.extBut b o hb (Heap.get?_push_of_some _ e)))
theorem assign_Tuple_hot {env : Env} {elts : List Expr} {x1' : Nat} {pos : Pos} {t x1 : Addr} {items : Array Value} {Q : Unit → Shared → Prop} (hot : HotAt A x1 s.heap) (ht : s.heap.IsTuple t items)
    (hn : (assignEach elts env).length = items.size) (hstar : (assignEach elts env).findIdx? (·.1) = none)
    (h : ∀ h', Heap.ExtBut s.heap.objs.size s.heap h' → wpAny (model prog w) A (assignInOrder ((assignEach elts env).map (·.2)) items.toList) Q E { s with heap := h' }) :
    wpAny (model prog w) A (assign (.Tuple elts x1' pos) env (.ref t)) Q E s := by
  rw [arm_assign_Tuple]
  refine wpAny_bind (wpAny_standAt ?_)
  unfold unpack
  rw [hn, hstar]
  exact wpAny_bind (wpAny_holding (unpackItems_tuple_hot hot ht h))
end
end K49
/-! K49HotLc -/
/-! a list comprehension over a list while an exception is handled. -/
namespace L2
open PySem PySem.Spec PyProof.Rows HotX L2H K49
/-- a walk that ends where x1 is handled -/
structure TurnL (P : Program) (w : World) (K : PySem.W.Frag) (tg : Expr) (J : It) (fp : List Addr) (it : Addr) (tn : Nat → Heap → Prop) (x1 : Addr) : Prop where
  mem : it ∈ fp
  obj : ∀ i h, tn i h → ∀ b ∈ fp, ∃ o, h.get? b = some o ∧ ∀ v, o.data ≠ .cell v
  keep : ∀ i h h', tn i h → (∀ b ∈ fp, ∀ o, h.get? b = some o → h'.get? b = some o) → tn i h'
  item : ∀ (X : Cx), X.prog = P → X.w = w → X.K = K → ∀ (i : Nat) (pins : List (Addr × Obj)) (s : Shared) (σ : St) (H : Hp) (E : Value → Shared → Prop), Inv X pins σ H s → (∀ b ∈ fp, FpOk X pins H b) → tn i s.heap → J.go i H →
    wpAny (model P w) X.A (pyNext (.ref it)) (fun r s1 => ∃ u, r = some u ∧
      wpAny (model P w) X.A (letOwnedTupleGo tg (.ref it) u) (fun _ s2 => ∃ x H', Inv X pins σ H' s2 ∧ RelV x u ∧ J.yld i H x H' ∧ tn (i + 1) s2.heap ∧ ∀ b ∈ fp, H' b = none) E s1) E s
  done : ∀ (X : Cx), X.prog = P → X.w = w → X.K = K → ∀ {s : Shared}, HotAt X.A x1 s.heap → ∀ (i : Nat) (pins : List (Addr × Obj)) (σ : St) (H : Hp) (E : Value → Shared → Prop), Inv X pins σ H s → (∀ b ∈ fp, FpOk X pins H b) → tn i s.heap → J.stop i H →
    wpAny (model P w) X.A (pyNext (.ref it)) (fun r s1 => r = none ∧ Inv X pins σ H s1) E s
  self : ∀ (A : Around) (i : Nat) (s : Shared) (Q : Value → Shared → Prop) (E : Value → Shared → Prop), tn i s.heap → Q (.ref it) s → wpAny (model P w) A (pyIter (.ref it)) Q E s
theorem turn_listL {P : Program} {w : World} {K : PySem.W.Frag} {tg : Expr} {x1 : Addr} (a it : Addr) (hx1 : x1 ≠ it) : TurnL P w K tg (Itl K a) [it] it (fun i h => h.IsListIter it a i) x1 where
  mem := by simp
  obj := (turn_list (P := P) (w := w) (K := K) (tg := tg) a it).obj
  keep := (turn_list (P := P) (w := w) (K := K) (tg := tg) a it).keep
  item := by
    intro X hP hw hK i pins s σ H E I hf st hg
    subst hP hw hK
    obtain ⟨xs, x, hq, hx⟩ := hg
    obtain ⟨its, rv, p, hz⟩ := I.list hq
    obtain ⟨u, hu, ru⟩ := rv.get hx
    obtain ⟨f0, f1, f2, f3, f4, f5⟩ := hf it (by simp)
    refine wpAny_pyNext_list_item st p.isList (x := u) (by simpa using hu) fun h' st' sb => ?_
    have I1 : Inv X pins σ H { s with heap := h' } := I.turned (t' := s.toks) (fun b o hb e => (sb.2 b hb).trans e) f0 f1 f3 f4 f5
    obtain ⟨o, e, c, d⟩ := id st'
    exact ⟨u, rfl, go_of (s := { s with heap := h' }) e c d (by decide) ⟨x, H, I1, ru, ⟨rfl, fun ys hy => by rw [I.list_inj hy hq]; exact hx⟩, st', fun b hb => (hf b hb).1⟩⟩
  done := by
    intro X hP hw hK s hot i pins σ H E I hf st hg
    subst hP hw hK
    obtain ⟨xs, hq, hx⟩ := hg
    obtain ⟨its, rv, p, hz⟩ := I.list hq
    obtain ⟨f0, f1, f2, f3, f4, f5⟩ := hf it (by simp)
    have hl := rv.length
    exact pyNext_list_end_hot hot hx1 st p.isList (by simp; omega) fun h' eb => ⟨rfl, I.turned (t' := s.toks) (fun b o hb e => eb b o hb e) f0 f1 f3 f4 f5⟩
  self := fun _ _ _ _ _ st h => wpAny_pyIter_listiter st h
def PIEL (X : Cx) (pins : List (Addr × Obj)) (σ : St) (tg : Expr) (R : It → Hp → Prop) (itv : Value) (s2 : Shared) : Prop :=
  ∃ (x1 it : Addr) (fp : List Addr) (tn : Nat → Heap → Prop) (J : It) (H' : Hp), itv = .ref it ∧ Inv X pins σ H' s2 ∧ TurnL X.prog X.w X.K tg J fp it tn x1 ∧ (X.A.handled = some (.ref x1) ∧ x1 ∉ fp) ∧ tn 0 s2.heap ∧ (∀ b ∈ fp, FpOk X pins H' b) ∧ R J H'
structure PIL (X : Cx) (tg iter : Expr) (wi : TI) : Prop where
  run : ∀ (pins : List (Addr × Obj)) (s : Shared) (σ : St) (H : Hp) (R : It → Hp → Prop), Inv X pins σ H s → wi σ H R →
    wpAny (model X.prog X.w) X.A (eval iter X.env) (fun v s1 => wpAny (model X.prog X.w) X.A (pyIter v) (PIEL X pins σ tg R) X.xe s1) X.xe s
section
variable {X : Cx} {tg : Expr}
theorem pi_listL {l : Expr} {tl : TE} (hc : HotC X) (hl : PE X l tl) : PIL X tg l (iList X.K tl) := by
  refine ⟨fun pins s σ H R I h => ?_⟩
  refine thn (hl.run pins s σ H _ I h) fun v s1 ⟨x, H1, I1, r1, q1⟩ => ?_
  obtain ⟨a, e, ⟨xs, hq⟩, q⟩ := q1
  subst e
  cases r1
  obtain ⟨its, rv, p, hz⟩ := I1.list hq
  obtain ⟨x1, hot⟩ := hc.at I1
  have hx1 : x1 ≠ s1.heap.objs.size := by obtain ⟨_, o, _, ho, _⟩ := id hot; exact Nat.ne_of_lt (Heap.lt_size ho)
  refine wpAny_pyIter_list p.isList ?_
  refine ⟨x1, s1.heap.objs.size, [s1.heap.objs.size], _, _, H1, rfl, I1.kept (t' := s1.toks) fun b o e => Heap.get?_push_of_some _ e, turn_listL a _ hx1, ⟨hot.1, by simpa using hx1⟩, ⟨_, Heap.get?_push_size _ rfl, rfl, rfl⟩, fun b hb => ?_, q⟩
  have e : b = s1.heap.objs.size := by simpa using hb
  subst e
  exact I1.fpOk (Nat.le_refl _) (I1.hok.fresh (Nat.le_refl _))
theorem lc_coreH {pins : List (Addr × Obj)} {s : Shared} {σ : St} {H : Hp} {Q : VK} {elt tg iter : Expr} {ifs : List Expr} {scope : Scope} {own : List (Str × Nat)} {pos pos' : Pos} {wi : TI} {g : TG} {tt : TT} {te : TE} {use : Option (Value → Sem Unit)} {Qf : Value → Shared → Prop}
    (hc : HotC X) (hN : X.N.Nodup) (I : Inv X pins σ H s) (hi : PIL X tg iter wi) (ok : BlkOk X.N X.env.scope scope own)
    (hg : ∀ (s : Shared) (H : Hp) (C : Addr) (cl : List (Str × Addr)) (fp : List Addr), PG (X.blk s H scope (compEnvC scope cl C X.env) fp) tg g) (ht : ∀ (s : Shared) (H : Hp) (C : Addr) (cl : List (Str × Addr)) (fp : List Addr), PTs (X.blk s H scope (compEnvC scope cl C X.env) fp) ifs tt)
    (he : ∀ (s : Shared) (H : Hp) (C : Addr) (cl : List (Str × Addr)) (fp : List Addr), PE (X.blk s H scope (compEnvC scope cl C X.env) fp) elt te) (hs : ∀ x, foldedSetIterable iter X.env x = pure x)
    (h : tLc wi g tt te (own.map (·.2)) σ H Q)
    (hRR : ∀ D C s' m H', Inv X pins σ H' s' → Q (.ref D) H' → s'.heap.Ns C m → FpOk X pins H' C → compPost (model X.prog X.w) X.A X.xe use Qf (.ref D) C (.ok .next) s') :
    wpAny (model X.prog X.w) X.A (comprehension (.ListComp elt [⟨tg, iter, ifs, 0⟩] scope pos) scope X.env pos' (newList []) false (eval iter X.env) use) Qf X.xe s := by
  have hfree : ∀ y ∈ scope.names, y.2 = .free → ∃ c, X.env.cells.lookup y.1 = some c := fun y hy e => by
    rcases ok.free y hy e with k | k
    · exact I.ok.has _ (.inl k)
    · exact I.ok.has _ (.inr k)
  refine wpAny_comprehension_free (use := use) rfl hs (closure_ok hfree) ok.kind (fun y hy e => by rw [ok.uniq y hy, e])
    (thn (hi.run pins s σ H _ I h) fun xv s1 hx => thn hx fun itv s2 h2 => ?_)
  obtain ⟨x1, it, fp, tn, J, H2, e, I2, T, nx1, st2, f2, q⟩ := h2
  have hotp : ∀ {σ' : L2.St} {H' : Hp} {s' : Shared}, Inv X pins σ' H' s' → X.A.handled = some (.ref x1) → HotAt X.A x1 s'.heap ∧ H' x1 = none ∧ x1 ∉ X.fs ∧ x1 ≠ X.env.locals := fun I' hx => by
    obtain ⟨p, ⟨hh, v1, e1, c1⟩, hp⟩ := hc
    have P1 := I'.pin p (List.mem_append_left _ hp)
    rw [hx] at hh
    obtain rfl : x1 = p.1 := Value.ref.inj (Option.some.inj hh)
    exact ⟨⟨hx, p.2, v1, P1.1, e1, c1⟩, P1.2.1, P1.2.2.2.1, P1.2.2.1⟩
  subst e
  refine wpAny_newObj_type (newEnv_comp ?_) (by show 0 ≤ sizeLine; decide)
  generalize hD : s2.heap.objs.size = D
  have hDn : H2 D = none := I2.hok.fresh (Nat.le_of_eq hD)
  obtain ⟨W, ⟨m0, w0⟩, turn⟩ := q D hDn
  -- the new list
  generalize hs3 : ({ s2 with heap := s2.heap.push { cls := .type "list", data := .seq ([] : List Value).toArray } } : Shared) = s3
  have I3 : Inv X pins σ (upd H2 D (.lst [])) s3 := by
    rw [← hs3]
    refine I2.laid (t' := s2.toks) (fun b o e => Heap.get?_push_of_some _ e) (Nat.le_of_eq hD) ⟨Nat.zero_le _, [], 0, .nil, ?_⟩
    rw [← hD]
    exact Heap.get?_push_size _ rfl
  have h3 : s3.heap = s2.heap.push { cls := .type "list", data := .seq ([] : List Value).toArray } := by rw [← hs3]
  have sz : ∀ b ∈ fp, b < s2.heap.objs.size := fun b hb => by
    obtain ⟨o, e, _⟩ := T.obj _ _ st2 b hb
    exact Heap.lt_size e
  have f3 : ∀ b ∈ fp, FpOk X pins (upd H2 D (.lst [])) b ∧ b < s3.heap.objs.size := fun b hb => by
    have hlt := sz b hb
    refine ⟨⟨?_, (f2 b hb).2⟩, by rw [h3, Heap.size_push]; exact Nat.lt_succ_of_lt hlt⟩
    rw [upd_ne (by rw [← hD]; exact Nat.ne_of_lt hlt)]
    exact (f2 b hb).1
  have st3 : tn 0 s3.heap := T.keep _ _ _ st2 fun b _ o e => by rw [h3]; exact Heap.get?_push_of_some _ e
  have I4 := block_start I3 ok hN f3
  have pg := hg s3 (upd H2 D (.lst [])) s3.heap.objs.size (cellsFrom (s3.heap.objs.size + 1) scope.names (cloFrom X.env.cells scope.names [])) fp
  have pt := ht s3 (upd H2 D (.lst [])) s3.heap.objs.size (cellsFrom (s3.heap.objs.size + 1) scope.names (cloFrom X.env.cells scope.names [])) fp
  have pe := he s3 (upd H2 D (.lst [])) s3.heap.objs.size (cellsFrom (s3.heap.objs.size + 1) scope.names (cloFrom X.env.cells scope.names [])) fp
  show codeAny _ _ (.compStart (.ListComp elt [⟨tg, iter, ifs, 0⟩] scope pos) 0 (.ref it) (.ref D) (compEnvC scope (cellsFrom (s3.heap.objs.size + 1) scope.names (cloFrom X.env.cells scope.names [])) s3.heap.objs.size X.env)) (compPost (model X.prog X.w) X.A X.xe use Qf (.ref D) s3.heap.objs.size) { s3 with heap := pushCells (s3.heap.push { cls := .type "dict", data := .dict #[] }) scope.names }
  have nfp : ∀ b ∈ fp, (upd H2 D (.lst [])) b = none := fun b hb => (f3 b hb).1.1
  generalize hce : compEnvC scope (cellsFrom (s3.heap.objs.size + 1) scope.names (cloFrom X.env.cells scope.names [])) s3.heap.objs.size X.env = ce at I4 pg pt pe ⊢
  have cL : ce.locals = s3.heap.objs.size := by subst hce; rfl
  generalize hH3 : upd H2 D (.lst []) = H3 at I3 I4 pg pt pe w0 nfp f3
  generalize hs4 : ({ s3 with heap := pushCells (s3.heap.push { cls := .type "dict", data := .dict #[] }) scope.names } : Shared) = s4 at I4 ⊢
  have st4 : tn 0 s4.heap := T.keep _ _ _ st3 fun b _ o e => by rw [← hs4]; exact pushCells_keeps _ _ _ _ (Heap.get?_push_of_some _ e)
  have stat : ∀ {σ' : St} {H' : Hp} {s' : Shared}, Inv (X.blk s3 H3 scope ce fp) [] σ' H' s' → (∀ b ∈ fp, H' b = none) → ∀ b ∈ fp, FpOk (X.blk s3 H3 scope ce fp) [] H' b := fun {σ' H' s'} I' hn b hb =>
    ⟨hn b hb, (I'.ok.exf b hb).1, I'.ok.exfs b hb, .inl hb, fun x c e => (I'.ok.exf b hb).2 x c e, fun p hp => absurd (show p ∈ ([] : List (Addr × Obj)) ++ [] from hp) (by simp)⟩
  have hotb : ∀ {σ' : L2.St} {H' : Hp} {s' : Shared}, Inv (X.blk s3 H3 scope ce fp) [] σ' H' s' → HotAt X.A x1 s'.heap := fun {σ' H' s'} I' => by
    obtain ⟨⟨hx, o1, v1, g1, d1, c1⟩, n1, nf, nl⟩ := hotp I3 nx1.1
    exact ⟨hx, o1, v1, I'.base.keep x1 o1 g1 n1 (fun z => (List.mem_cons.mp (I3.stkSub x1 z)).elim nl nf) nx1.2, d1, c1⟩
  have loop : codeAny (model X.prog X.w) X.A (.compLoop (.ListComp elt [⟨tg, iter, ifs, 0⟩] scope pos) 0 (.ref it) (.ref D) ce) (compPost (model X.prog X.w) X.A X.xe use Qf (.ref D) s3.heap.objs.size) s4 := by
    refine compLoop_any (fun n s' => ∃ i H', Inv (X.blk s3 H3 scope ce fp) [] (wipe σ (own.map (·.2))) H' s' ∧ tn i s'.heap ∧ (∀ b ∈ fp, H' b = none) ∧ W i n H') ?_ m0 ⟨0, H3, I4, st4, nfp, w0⟩
    rintro n s5 ⟨i, H5, I5, st5, n5, w5⟩
    rcases turn i n H5 w5 with ⟨stop, qq⟩ | ⟨go, Nx, hNx, step⟩
    · have td := T.done (X.blk s3 H3 scope ce fp) rfl rfl rfl (hotb I5) i [] _ H5 (fun _ _ => False) I5 (stat I5 n5) st5 stop
      refine thnF td fun r s6 ⟨hr, I6⟩ => ?_
      subst hr
      -- back in the def's context
      have I7 : Inv X pins σ H5 s6 := I3.call' (ch := fp) I6.os I6.base I6.hok I6.bare fun b hb => ⟨(f3 b hb).1.2.2.2.1, (f3 b hb).1.2.1, (f3 b hb).1.2.2.2.2.1, (f3 b hb).1.2.2.2.2.2⟩
      have nC : H5 s3.heap.objs.size = none := by
        have z : H5 ce.locals = none := I6.free
        rw [cL] at z
        exact z
      obtain ⟨m, hn, _⟩ := I6.loc
      have hn : s6.heap.Ns ce.locals m := hn
      rw [cL] at hn
      exact hRR D s3.heap.objs.size s6 m H5 I7 qq hn (I3.fpOk (Nat.le_refl _) nC)
    · have ti := T.item (X.blk s3 H3 scope ce fp) rfl rfl rfl i [] s5 _ H5 (fun _ _ => False) I5 (stat I5 n5) st5 go
      refine thnF ti fun r s6 ⟨u, hr, h6⟩ => ?_
      subst hr
      refine thnF h6 fun _ s7 ⟨x, H7, I7, r7, y7, st7, n7⟩ => ?_
      have I7' := I7.pinned (stat I7 n7) (T.obj _ _ st7)
      refine thnF (pg.run _ s7 _ H7 x u _ I7' r7 (step x H7 y7)) fun _ s8 ⟨σ8, H8, I8, hw8, q8⟩ => ?_
      refine thnF (pt.run _ s8 σ8 H8 _ I8 q8) fun b s9 ⟨H9, I9, q9⟩ => ?_
      -- the turn's end
      have fin : ∀ {s' : Shared} {H' : Hp}, Inv (X.blk s3 H3 scope ce fp) ([] ++ pinsAt fp s7.heap) σ8 H' s' → Nx H' → ∃ m, m < n ∧ ∃ i H', Inv (X.blk s3 H3 scope ce fp) [] (wipe σ (own.map (·.2))) H' s' ∧ tn i s'.heap ∧ (∀ b ∈ fp, H' b = none) ∧ W i m H' := fun {s' H'} I' nx => by
        obtain ⟨m', hm, w'⟩ := hNx H' nx
        have pin' : ∀ b ∈ fp, ∀ o, s7.heap.get? b = some o → s'.heap.get? b = some o ∧ H' b = none := fun b hb o e =>
          let z := I'.pin (b, o) (List.mem_append_right _ (List.mem_append_right _ (mem_pinsAt hb e)))
          ⟨z.1, z.2.1⟩
        have hl : (wipe σ (own.map (·.2))).length = σ8.length := by rw [← hw8, wipe_length]
        refine ⟨m', hm, i + 1, H', (I'.unpinned (pins := [])).weak hl (fun j v e => ?_), T.keep _ _ _ st7 fun b hb o e => (pin' b hb o e).1, fun b hb => ?_, w'⟩
        · rw [← hw8] at e
          exact (wipe_some e).1
        · obtain ⟨o, e, _⟩ := T.obj _ _ st7 b hb
          exact (pin' b hb o e).2
      cases b with
      | false =>
        simp only [Bool.false_eq_true, if_false] at q9 ⊢
        exact fin I9 q9
      | true =>
        simp only [if_true] at q9 ⊢
        refine thnF (pe.run _ s9 σ8 H9 _ I9 q9) fun z s10 ⟨yv, H10, I10, r10, acc, hD10, hz10, nx⟩ => ?_
        exact app_ok (X := X.blk s3 H3 scope ce fp) I10 hD10 hz10 r10 fun s11 I11 => fin I11 nx
  exact codeAny_compStart_list loop (T.self X.A 0 _ _ _ st4 loop)
/-- as a value -/
theorem pe_lcH {elt tg iter : Expr} {ifs : List Expr} {scope : Scope} {own : List (Str × Nat)} {pos : Pos} {wi : TI} {g : TG} {tt : TT} {te : TE} (hc : HotC X) (hN : X.N.Nodup) (hi : PIL X tg iter wi) (ok : BlkOk X.N X.env.scope scope own)
    (hg : ∀ (s : Shared) (H : Hp) (C : Addr) (cl : List (Str × Addr)) (fp : List Addr), PG (X.blk s H scope (compEnvC scope cl C X.env) fp) tg g) (ht : ∀ (s : Shared) (H : Hp) (C : Addr) (cl : List (Str × Addr)) (fp : List Addr), PTs (X.blk s H scope (compEnvC scope cl C X.env) fp) ifs tt)
    (he : ∀ (s : Shared) (H : Hp) (C : Addr) (cl : List (Str × Addr)) (fp : List Addr), PE (X.blk s H scope (compEnvC scope cl C X.env) fp) elt te) (hs : ∀ x, foldedSetIterable iter X.env x = pure x := by intro _; rfl) :
    PE X (.ListComp elt [⟨tg, iter, ifs, 0⟩] scope pos) (tLc wi g tt te (own.map (·.2))) := by
  refine ⟨fun pins s σ H Q I h => ?_⟩
  rw [eval_ListComp]
  refine lc_coreH hc hN I hi ok hg ht he hs h fun D C s' m H' I' q hn f => ⟨m, hn, fun h'' sb => ?_⟩
  obtain ⟨f0, f1, f2, f3, f4, f5⟩ := f
  exact ⟨.ref D, H', I'.turned (t' := s'.toks) (fun b o hb e => (sb.2 b hb).trans e) f0 f1 f3 f4 f5, rfl, q⟩
end
end L2
/-! K49HotT -/
/-! a, b = a tuple; list(d): while an exception is handled. -/
namespace L2
open PySem PySem.Spec PyProof.Rows HotX L2H K49
section
variable {X : Cx} {pos : Pos}
theorem pg_tupH {es : List Expr} {k : Nat} {t : TGs} {n : Nat} (hc : HotC X) (h : PGs X es t)
    (hn : (assignEach es X.env).length = n := by rfl) (hst : (assignEach es X.env).findIdx? (·.1) = none := by rfl) : PG X (.Tuple es k pos) (gTup X.K n t) := by
  refine ⟨fun pins s σ H v u Q I r hw => ?_⟩
  obtain ⟨a, xs, e1, hq, hl, hw⟩ := hw
  subst e1
  cases r
  obtain ⟨its, rv, ht, hz⟩ := I.tuple hq
  obtain ⟨x1, hot⟩ := hc.at I
  refine assign_Tuple_hot hot ht (by simp [hn, ← hl, rv.length]) hst fun h' hx => ?_
  have I1 : Inv X pins σ H { s with heap := h' } := I.kept (t' := s.toks) fun b o e => hx b o (Nat.ne_of_lt (Heap.lt_size e)) e
  exact h.run pins _ σ H xs _ Q I1 (by simpa using rv) hw
end
end L2
/-! K49HotD -/
/-! list(d) while an exception is handled. -/
namespace PySem
open PySem PySem.Spec PyProof.Rows HotX
section
variable {prog : Program} {w : World} {K : Type} [DecidableEq K] {knd : KeyKind prog w K} {A : Around} {E : Value → Shared → Prop} {s : Shared}
theorem pyNext_dict_end_hot {x1 it d : Addr} {i ep : Nat} {kvs : List (K × Value)} {Q : Option Value → Shared → Prop} (hot : HotAt A x1 s.heap) (hx1 : x1 ≠ it) (hit : s.heap.IsKeyIter it d i kvs.length ep)
    (hm : s.heap.DictAt knd d kvs ep) (hx : kvs[i]? = none)
    (hQ : ∀ h', Heap.ExtBut it s.heap h' → Q none { s with heap := h' }) : wpAny (model prog w) A (pyNext (.ref it)) Q E s := by
  obtain ⟨o, ho, hc, hd⟩ := id hit
  obtain ⟨od, es, hod, hcd, hdd, hk, hp, hn⟩ := id hm
  obtain ⟨hh, o1, vs1, h1, d1, c1⟩ := hot
  unfold pyNext
  refine wpAny_bind (wpAny_attempt (wpAny_callSpecial?_slot (name := Str.ofString "__next__") hit.typeIs F.slot_dict_keyiterator_next
    (wpAny_call_entry F.slot_dict_keyiterator_next hit.typeIs F.entry_dict_keyiterator_next ?_ (F.args_dict_keyiterator_next_1 _))))
  refine wpAny_bind (wpAny_pure ?_)
  refine wpAny_bind ?_
  refine wpAny_bind ?_
  first | refine wpAny_bind (wpAny_typeNameOfWhole_keyiter hit.typeIs (wpAny_pure ?_)) | refine wpAny_bind (wpAny_typeNameOf_keyiter hit.typeIs (wpAny_pure ?_))
  refine wpAny_bind (wpAny_fieldsOf ho hd ?_)
  have hown : Builtin.Dict_items.ownsTuple "dict_keyiterator" = false := by decide
  simp only [hown, Bool.false_eq_true, if_false]
  show wpAny _ _ (if (Value.ref d == Value.none) = true then _ else _) _ _ s
  rw [if_neg (show ¬ ((Value.ref d == Value.none) = true) from Bool.false_ne_true)]
  refine wpAny_bind (wpAny_pure ?_)
  refine wpAny_bind (wpAny_dictEntries hod hdd ?_)
  have hsz : es.size = kvs.length := by rw [← hp.length]; simp
  rw [if_neg (by rw [hsz]; simp)]
  refine wpAny_bind (wpAny_pure ?_)
  refine wpAny_bind (wpAny_dictEpoch hod hdd ?_)
  rw [if_neg (by simp)]
  refine wpAny_pure ?_
  have hge : es.size ≤ i := by rw [hsz]; simpa using hx
  simp only [show ¬ ((i : Int) < 0) from by omega, if_false, Int.toNat_natCast, Array.getElem?_eq_none hge]
  refine wpAny_bind ?_
  first | refine wpAny_bind (wpAny_typeNameOfWhole_keyiter hit.typeIs (wpAny_pure ?_)) | refine wpAny_bind (wpAny_typeNameOf_keyiter hit.typeIs (wpAny_pure ?_))
  show wpAny _ _ (setField (.ref it) 0 .none >>= _) _ _ s
  refine wpAny_bind (wpAny_setField ho hd (by simp) ?_)
  show wpAny _ _ (newExc (.type "StopIteration") [] >>= _) _ _ _
  refine wpAny_bind ?_
  simp only [newExc, newTuple]
  refine wpAny_bind (wpAny_newObj_type ?_ (by size_fits))
  refine wpAny_bind (m := firstArgMember _ _) (wpAny_of_eq (a := Value.none) (by first | rfl | (simp only [firstArgMember]; rfl)) ?_)
  refine wpAny_newObj_type ?_ (by size_fits)
  have upb : ∀ f (b : Addr) (o : Obj), b ≠ it → s.heap.get? b = some o → (s.heap.update it f).get? b = some o := fun f b o hb e => ((Heap.SameBut.update s.heap it f).2 b hb).trans e
  refine raiseNew_hot ⟨hh, o1, vs1, Heap.get?_push_of_some _ (Heap.get?_push_of_some _ (upb _ x1 o1 hx1 h1)), d1, c1⟩ (Nat.ne_of_lt (Heap.lt_size (Heap.get?_push_of_some _ (upb _ x1 o1 hx1 h1)))) (Heap.get?_push_size _ rfl) rfl (by first | (simp; done) | (simp; omega) | (simp only [Array.size_append]; simp; omega)) ?_
  refine wpAny_bind (wpAny_isInstance (T := "StopIteration") (b := true) ⟨_, Heap.get?_update_self _ (Heap.get?_push_size _ rfl) rfl, rfl⟩ isSubtype_stop ?_)
  refine wpAny_pure (hQ _ fun b o hb e => ?_)
  rw [Heap.get?_update_other _ _ (Nat.ne_of_gt (Heap.lt_size (Heap.get?_push_of_some _ (upb _ b o hb e))))]
  exact Heap.get?_push_of_some _ (Heap.get?_push_of_some _ (upb _ b o hb e))
end
namespace W
open PySem.Calls
structure KdlSrcH (prog : Program) (w : World) (T : String) (r d x1 : Addr) (n : Nat) (P : Nat → Value → Prop) (OK : Heap → Prop) : Prop where
  type : ∀ s : Shared, OK s.heap → s.TypeIs (.ref r) T
  there : ∀ h : Heap, OK h → r < h.objs.size ∧ d < h.objs.size ∧ x1 < h.objs.size
  keep : ∀ h h' : Heap, OK h → (∀ b, b = r ∨ b = d ∨ b = x1 → ∀ o, h.get? b = some o → h'.get? b = some o) → OK h'
  notList : (Value.type T == Value.type "list") = false
  notTuple : (Value.type T == Value.type "tuple") = false
  hint : ∀ (A : Around) (E : Value → Shared → Prop) (s : Shared) (Q : Bool → Shared → Prop), OK s.heap → Q false s → wpAny (model prog w) A (Builtin.List.listLengthHint (.ref r)) Q E s
  iter : ∀ (A : Around) (s : Shared), A.handled = some (.ref x1) → OK s.heap → ∃ (oI : Obj) (St : Nat → Heap → Prop),
    (∀ (E : Value → Shared → Prop) (Q : Value → Shared → Prop), Q (.ref s.heap.objs.size) { s with heap := s.heap.push oI } → wpAny (model prog w) A (pyIter (.ref r)) Q E s) ∧
    Walks prog w A s.heap.objs.size [s.heap.objs.size, d, x1] [s.heap.objs.size] n P St ∧ St 0 (s.heap.push oI)
section
variable {prog : Program} {w : World} {A : Around} {E : Value → Shared → Prop} {s : Shared} {T : String} {r d x1 : Addr} {n : Nat} {P : Nat → Value → Prop} {OK : Heap → Prop}
theorem kdlH_extend {R : Result → Shared → Prop} (K : KdlSrcH prog w T r d x1 n P OK) (hh : A.handled = some (.ref x1)) (hok : OK s.heap) (S : Addr) (hSr : S ≠ r) (hSd : S ≠ d) (hSx : S ≠ x1) (res : Value) (c₀ : Nat) (hS : s.heap.get? S = some { cls := .type "list", data := .seq #[] c₀ })
    (hR : ∀ h' tk acc' c', (∀ b o, b ≠ S → s.heap.get? b = some o → h'.get? b = some o) → h'.get? S = some { cls := .type "list", dict := none, data := .seq acc' c', slots := #[] } → ItemsOf P acc' n → R (.ok (.ret res)) { s with heap := h', toks := tk }) (hn : n ≤ sizeLine) :
    wpAny (model prog w) A.in1 (Builtin.List.listExtendWith (.ref S) (.ref r) res)
      (fun fin s' => match fin with | .done f => R (.ok f) s' | .again c' => c'.quiet = true ∧ codeAny (model prog w) A c' R s') (fun e s' => R (.error e) s') s := by
  have hSI : S ≠ s.heap.objs.size := Nat.ne_of_lt (Heap.lt_size hS)
  have hSf : S ∉ [s.heap.objs.size, d, x1] := by simp only [List.mem_cons, List.not_mem_nil, or_false, not_or]; exact ⟨hSI, hSd, hSx⟩
  obtain ⟨oI, St, hit, W, st⟩ := K.iter A.in1 s hh hok
  have key : ∀ (h : Heap) (c₁ tk : Nat), St 0 h → (∀ b o, b ≠ S → s.heap.get? b = some o → h.get? b = some o) →
      h.get? S = some { cls := .type "list", data := .seq #[] c₁ } → codeAny (model prog w) A (.builtin "list.extend.loop" ⟨[.ref S, .ref s.heap.objs.size, res], []⟩) R { s with heap := h, toks := tk } := by
    intro h c₁ tk hst hk hS₁
    refine codeAny_extend_loopS W.toS hn S hSf res n 0 _ #[] c₁ rfl (Nat.zero_le _) hst hS₁ (ItemsOf.nil _) fun s' acc' c' hm hS' hacc => ?_
    rw [Moved.eq_with hm]
    refine hR s'.heap s'.toks acc' c' (fun b o hb e => hm.heap b o (fun hmem => ?_) (hk b o hb e)) hS' hacc
    rcases List.mem_cons.mp hmem with e' | hmem
    · exact hb e'
    · exact absurd (Heap.lt_size e) (by rw [List.mem_singleton.mp hmem]; exact Nat.lt_irrefl _)
  unfold Builtin.List.listExtendWith
  refine wpAny_bind (wpAny_typeOf (T := T) (K.type s hok) ?_)
  have h1 : Builtin.List.listSameRef (.ref S) (.ref r) = false := by simp [Builtin.List.listSameRef, hSr]
  simp only [h1, K.notList, K.notTuple, Bool.or_false, Bool.false_eq_true, if_false]
  refine wpAny_bind (hit _ _ ?_)
  have hS₁ := Heap.get?_push_of_some oI hS
  refine wpAny_bind (wpAny_holding (K.hint _ _ _ _ (K.keep _ _ hok fun b _ o e => Heap.get?_push_of_some _ e) ?_))
  refine wpAny_ite_split (fun _ => ?_) (fun _ => wpAny_pure ⟨plainId_quiet PySem.F.plain_extend_loop _, key _ c₀ _ st (fun b o _ e => Heap.get?_push_of_some _ e) hS₁⟩)
  refine wpAny_bind (wpAny_rule ?_)
  refine wpAny_bind ?_
  show wpAny _ _ (updateSeq S (·.push .none) >>= fun _ => updateSeq S (·.pop)) _ _ _
  refine wpAny_bind (wpAny_updateSeq hS₁ rfl ?_)
  have hS₂ := Heap.get?_update_self (Obj.mapSeq (·.push Value.none)) hS₁ rfl
  refine wpAny_updateSeq (hz := by seq_fits) hS₂ rfl ?_
  have hS₃ := Heap.get?_update_self (Obj.mapSeq (·.pop)) hS₂ rfl
  refine wpAny_pure ⟨plainId_quiet PySem.F.plain_extend_loop _, key _ _ _ ?_ (fun b o hb e => ?_) hS₃⟩
  · refine W.frame 0 _ _ st fun b hb o e => ?_
    have hbS : b ≠ S := fun h => hSf (h ▸ hb)
    exact (Heap.get?_update_other _ _ (Ne.symm hbS)).trans ((Heap.get?_update_other _ _ (Ne.symm hbS)).trans e)
  · exact (Heap.get?_update_other _ _ (Ne.symm hb)).trans ((Heap.get?_update_other _ _ (Ne.symm hb)).trans (Heap.get?_push_of_some _ e))
theorem kdlH_init {R : Result → Shared → Prop} (K : KdlSrcH prog w T r d x1 n P OK) (hh : A.handled = some (.ref x1)) (hok : OK s.heap) (S : Addr) (hSr : S ≠ r) (hSd : S ≠ d) (hSx : S ≠ x1) (hS : s.heap.get? S = some { cls := .type "list", data := .seq #[] })
    (hR : ∀ h' tk acc' c', (∀ b o, b ≠ S → s.heap.get? b = some o → h'.get? b = some o) → h'.get? S = some { cls := .type "list", dict := none, data := .seq acc' c', slots := #[] } → ItemsOf P acc' n → R (.ok (.ret .none)) { s with heap := h', toks := tk }) (hn : n ≤ sizeLine) :
    wpAny (model prog w) A.in1 (Builtin.«list.__init__» ⟨[.ref S, .ref r], []⟩)
      (fun fin s' => match fin with | .done f => R (.ok f) s' | .again c' => c'.quiet = true ∧ codeAny (model prog w) A c' R s') (fun e s' => R (.error e) s') s := by
  show wpAny _ _ (do let old ← Builtin.List.listItems (.ref S); Builtin.List.listUpdate (.ref S) (fun _ => #[]); letGo old.toList.reverse; Builtin.List.listExtendWith (.ref S) (.ref r) .none) _ _ s
  refine wpAny_bind ?_
  unfold Builtin.List.listItems
  refine wpAny_bind (wpAny_seqItems hS rfl (wpAny_pure ?_))
  show wpAny _ _ (updateSeq S (fun _ => #[]) >>= fun _ => letGo (#[] : Array Value).toList.reverse >>= fun _ => Builtin.List.listExtendWith (.ref S) (.ref r) .none) _ _ s
  refine wpAny_bind (wpAny_updateSeq hS rfl ?_)
  have hS₂ := Heap.get?_update_self (Obj.mapSeq (fun _ => (#[] : Array Value))) hS rfl
  have oth : ∀ b o, b ≠ S → s.heap.get? b = some o → (s.heap.update S (Obj.mapSeq (fun _ => (#[] : Array Value)))).get? b = some o :=
    fun b o hb e => (Heap.get?_update_other _ _ (Ne.symm hb)).trans e
  refine wpAny_bind (wpAny_letGo ?_)
  refine kdlH_extend K hh (K.keep _ _ hok fun b hb o e => oth b o (by rcases hb with rfl | rfl | rfl; exact hSr.symm; exact hSd.symm; exact hSx.symm) e) S hSr hSd hSx .none _ hS₂ (fun h' tk acc' c' hk hS' hacc => ?_) hn
  exact hR h' tk acc' c' (fun b o hb e => hk b o hb (oth b o hb e)) hS' hacc
theorem kdlH_call {Q : Value → Shared → Prop} (K : KdlSrcH prog w T r d x1 n P OK) (hh : A.handled = some (.ref x1)) (hok : OK s.heap) (hn : n ≤ sizeLine)
    (hQ : ∀ h' tk acc' c', (∀ b o, s.heap.get? b = some o → h'.get? b = some o) → h'.get? s.heap.objs.size = some { cls := .type "list", dict := none, data := .seq acc' c', slots := #[] } → ItemsOf P acc' n → Q (.ref s.heap.objs.size) { s with heap := h', toks := tk }) :
    wpAny (model prog w) A (call (.type "list") [.ref r]) Q E s := by
  refine callType_codes (Q₁ := fun obj s₁ => obj = .ref s.heap.objs.size ∧ s₁ = { s with heap := s.heap.push { cls := .type "list", data := .seq #[] } }) PySem.F.called_list (PySem.F.typeCall_list_1 _) PySem.F.entry_list_init
    (code_list_new _ ⟨rfl, rfl⟩) fun obj s₁ h₁ => ?_
  obtain ⟨rfl, rfl⟩ := h₁
  have hS : (s.heap.push { cls := .type "list", data := .seq #[] }).get? s.heap.objs.size = some { cls := .type "list", data := .seq #[] } := Heap.get?_push_size _ rfl
  have hlt := K.there _ hok
  refine ⟨⟨_, hS, rfl⟩, PySem.F.args_list_init_2 _ _, kdlH_init (A := A.in1) K hh (K.keep _ _ hok fun b _ o e => Heap.get?_push_of_some _ e) _ (Nat.ne_of_gt hlt.1) (Nat.ne_of_gt hlt.2.1) (Nat.ne_of_gt hlt.2.2) hS (fun h' tk acc' c' hk hS' hacc => ?_) hn⟩
  exact ⟨rfl, hQ h' tk acc' c' (fun b o e => hk b o (Nat.ne_of_lt (Heap.lt_size e)) (Heap.get?_push_of_some _ e)) hS' hacc⟩

end
/-- the exception that is handled, as an object -/
def ExcObj (x1 : Addr) (h : Heap) : Prop := ∃ (o : Obj) (vs : Array Value), h.get? x1 = some o ∧ o.data = .fields vs ∧ vs[2]? = some .none
section
variable {prog : Program} {w : World} {K : Type} [DecidableEq K] {knd : KeyKind prog w K} {d x1 : Addr} {kvs : List (K × Value)} {ep : Nat} {A : Around}
theorem excObj_keep {h h' : Heap} (x : ExcObj x1 h) (k : ∀ o, h.get? x1 = some o → h'.get? x1 = some o) : ExcObj x1 h' := by
  obtain ⟨o, vs, a, b, c⟩ := x
  exact ⟨o, vs, k _ a, b, c⟩
theorem walks_dictKeysH (hh : A.handled = some (.ref x1)) (I d : Addr) (hne : d ≠ I) (hx : x1 ≠ I) (kvs : List (K × Value)) (ep : Nat) :
    Walks prog w A I [I, d, x1] [I] kvs.length (fun i v => ∃ k x, kvs[i]? = some (k, x) ∧ knd.is k v = true) (fun i h => (h.IsKeyIter I d i kvs.length ep ∧ h.DictAt knd d kvs ep) ∧ ExcObj x1 h) where
  sub := fun b hb => by simp at hb; simp [hb]
  frame := fun _ _ _ st hk => ⟨⟨st.1.1.at fun o e => hk I (by simp) o e, st.1.2.at' fun o e => hk d (by simp) o e⟩, excObj_keep st.2 fun o e => hk x1 (by simp) o e⟩
  item := fun i s Q E hi st hQ => by
    obtain ⟨⟨k, x⟩, hx'⟩ : ∃ p, kvs[i]? = some p := ⟨kvs[i], by simp [hi]⟩
    refine wpAny_pyNext_dict_item st.1.1 st.1.2 hx' fun key h' hkey hit' hs' => ?_
    exact hQ key h' s.toks ⟨k, x, hx', hkey⟩ ⟨⟨hit', st.1.2.extBut hs'.extBut hne⟩, excObj_keep st.2 fun o e => hs'.extBut x1 o hx e⟩ fun b o hb e => hs'.extBut b o (fun h => hb (by simp [h])) e
  done := fun s Q E st hQ => by
    obtain ⟨o, vs, a, b, c⟩ := st.2
    exact pyNext_dict_end_hot ⟨hh, o, vs, a, b, c⟩ hx st.1.1 st.1.2 (by simp) fun h' he' => hQ h' s.toks fun b o hb e => he' b o (fun h => hb (by simp [h])) e
  self := fun _ _ _ _ st hQ => wpAny_pyIter_keyiter st.1.1 hQ
theorem kdlH_dict (lo : (d == sysModules) = false) : KdlSrcH prog w "dict" d d x1 kvs.length (fun i v => ∃ k x, kvs[i]? = some (k, x) ∧ knd.is k v = true) (fun h => h.DictAt knd d kvs ep ∧ ExcObj x1 h) where
  type := fun _ hm => hm.1.dictOf.typeIs
  there := fun _ hm => ⟨hm.1.lt_size, hm.1.lt_size, by obtain ⟨o, _, a, _⟩ := hm.2; exact Heap.lt_size a⟩
  keep := fun _ _ hm hk => ⟨hm.1.at' fun o e => hk d (.inl rfl) o e, excObj_keep hm.2 fun o e => hk x1 (.inr (.inr rfl)) o e⟩
  notList := by decide
  notTuple := by decide
  hint := fun _ _ _ _ hm hq => kdl_hint_dict hm.1.dictOf.typeIs hq
  iter := fun _ s hh hm => ⟨_, _, (fun _ _ hq => wpAny_pyIter_dict lo hm.1 hq), walks_dictKeysH hh _ d (Nat.ne_of_lt hm.1.lt_size) (by obtain ⟨o, _, a, _⟩ := hm.2; exact Nat.ne_of_lt (Heap.lt_size a)) kvs ep, ⟨⟨⟨_, Heap.get?_push_size _ rfl, rfl, rfl⟩, hm.1.push _⟩, excObj_keep hm.2 fun o e => Heap.get?_push_of_some _ e⟩⟩
end
end W
end PySem
/-! K49HotE -/
/-! list(d), len(set(e)): while an exception is handled. -/
namespace L2
open PySem PySem.Spec PyProof.Rows HotX L2H K49
section
variable {X : Cx}
theorem call_listDH (hc : HotC X) : CallR X (.type "list") (fun xs H Q => ∃ (a : Addr) (kvs : List (Key × V)), xs = [.ref a] ∧ Rd H a (.dK kvs) ∧ ∀ p, H p = none → Q (.ref p) (upd H p (.lst (kvs.map fun kv => kV kv.1)))) := by
  intro pins s σ H xs us Q I r q
  obtain ⟨a, kvs, ex, hd, q⟩ := q
  subst ex
  obtain ⟨u, eu, rx⟩ := vals1 r
  subst eu
  cases rx
  obtain ⟨z, lo, vs, rel, dd⟩ := dk_rd I.hok hd
  obtain ⟨ep, hat⟩ := dd.dictAt
  obtain ⟨x1, hot⟩ := hc.at I
  obtain ⟨hh, xo⟩ := hot
  have ek : (kvs.map fun kv => kV kv.1) = vs.map fun p => kV p.1 := by
    have e := congrArg (List.map kV) rel.keys
    rw [List.map_map, List.map_map] at e
    exact e
  refine PySem.W.kdlH_call (PySem.W.kdlH_dict (x1 := x1) (knd := mixKind X.prog X.w) (kvs := vs) (ep := ep) lo) hh ⟨hat, xo⟩ (by rw [← rel.length]; exact z) fun h' tk acc c' hk hD hacc => ?_
  have hv : Vals (vs.map fun p => kV p.1) acc.toList := keys_at (by rw [Array.length_toList]; exact hacc.1) fun j v e => hacc.2 j v (by rw [← Array.getElem?_toList]; exact e)
  refine ⟨.ref s.heap.objs.size, upd H s.heap.objs.size (.lst (kvs.map fun kv => kV kv.1)), I.laid (t' := tk) hk (Nat.le_refl _)
    (show ObjOk X.prog X.w _ _ _ (.lst (kvs.map fun kv => kV kv.1)) from ⟨by rw [List.length_map]; exact z, acc.toList, c', by rw [ek]; exact hv, by rw [Array.toArray_toList]; exact hD⟩), rfl, q _ (I.hok.fresh (Nat.le_refl _))⟩
end
end L2
/-! K49HotS -/
/-! len(set(xs)) of distinct texts while an exception is handled. -/
namespace SS
open PySem PySem.Spec PyProof.Rows HotX K49
section
variable {prog : Program} {w : World} {A : Around} {x1 : Addr}
theorem walks_listH (hh : A.handled = some (.ref x1)) (I ax : Addr) (hne : ax ≠ I) (hx : x1 ≠ I) (items : Array Value) :
    Walks prog w A I [I, ax, x1] [I] items.size (fun i v => items[i]? = some v) (fun i h => (h.IsListIter I ax i ∧ h.IsList ax items) ∧ PySem.W.ExcObj x1 h) where
  sub := fun b hb => by simp at hb; simp [hb]
  frame := fun _ _ _ st hk => ⟨⟨st.1.1.at fun o e => hk I (by simp) o e, st.1.2.at fun o e => hk ax (by simp) o e⟩, PySem.W.excObj_keep st.2 fun o e => hk x1 (by simp) o e⟩
  item := fun i s Q E hi st hQ => by
    refine wpAny_pyNext_list_item st.1.1 st.1.2 (x := items[i]) (by simp [hi]) fun h' hit' hs' => ?_
    exact hQ _ h' s.toks (by simp [hi]) ⟨⟨hit', st.1.2.extBut hs'.extBut hne⟩, PySem.W.excObj_keep st.2 fun o e => hs'.extBut x1 o hx e⟩ fun b o hb e => hs'.extBut b o (fun h => hb (by simp [h])) e
  done := fun s Q E st hQ => by
    obtain ⟨o, vs, a, b, c⟩ := st.2
    exact pyNext_list_end_hot ⟨hh, o, vs, a, b, c⟩ hx st.1.1 st.1.2 (by simp) fun h' he' => hQ h' s.toks fun b o hb e => he' b o (fun h => hb (by simp [h])) e
  self := fun _ _ _ _ st hQ => wpAny_pyIter_listiter st.1.1 hQ
end
section
variable {prog : Program} {w : World} {A : Around} {R : Result → Shared → Prop} {I : Addr} {fp wr : List Addr} {G : Array GenState → Array GenState → Prop} {n : Nat} {P : Nat → Value → Prop} {St : Nat → Shared → Prop}
theorem loopStrN (W : WalksS prog w A.in1 I fp wr G n P St) (S : Addr) (hSf : S ∉ fp) (xs : List Str) (hsz : xs.length = n) (hn1 : n ≤ 1000) (hnd : xs.Nodup)
    (hval : ∀ i v, P i v → ∃ t, v = .str (xs.getD i Str.empty) t) :
    ∀ (k i : Nat) (s : Shared), n - i = k → i ≤ n → St i s →
      s.heap.SetOf (PySem.strKind prog w) S (fun k' => (xs.take i).any (· == k')) i →
      (∀ s', Moved (S :: wr) G s s' → s'.heap.SetOf (PySem.strKind prog w) S (fun k' => (xs.take n).any (· == k')) n → R (.ok (.ret .none)) s') →
      codeAny (model prog w) A (.builtin "set.update.loop" ⟨[.ref S, .ref I], []⟩) R s := by
  have hSw : S ∉ wr := fun h => hSf (W.sub _ h)
  have hsub : ∀ b ∈ wr, b ∈ S :: wr := fun b hb => List.mem_cons_of_mem _ hb
  intro k
  induction k with
  | zero =>
    intro i s hk hi hst hS hR
    have hin : i = n := by omega
    subst hin
    refine codeAny_builtin PyProof.Rows.F.entry_set_update_loop ?_
    rw [Around.under_plainId PyProof.Rows.F.plain_set_update_loop _]
    show wpAny _ A.in1 (pyNext (.ref I) >>= _) _ _ s
    refine wpAny_bind (W.done s _ _ hst fun s' hm => ?_)
    show wpAny _ A.in1 (ret Value.none) _ _ s'
    exact wpAny_pure (hR s' (hm.mono hsub) (by
      obtain ⟨o, es, ep, t, ho, rest⟩ := hS
      exact ⟨o, es, ep, t, hm.heap S _ hSw ho, rest⟩))
  | succ k ih =>
    intro i s hk hi hst hS hR
    have hlt : i < n := by omega
    refine codeAny_builtin PyProof.Rows.F.entry_set_update_loop ?_
    rw [Around.under_plainId PyProof.Rows.F.plain_set_update_loop _]
    show wpAny _ A.in1 (pyNext (.ref I) >>= _) _ _ s
    refine wpAny_bind (W.item i s _ _ hlt hst fun v s' hP hst' hm => ?_)
    obtain ⟨t, rfl⟩ := hval i v hP
    have hS' : s'.heap.SetOf (PySem.strKind prog w) S (fun k' => (xs.take i).any (· == k')) i := by
      obtain ⟨o, es, ep, tb, ho, rest⟩ := hS
      exact ⟨o, es, ep, tb, hm.heap S _ hSw ho, rest⟩
    show wpAny _ A.in1 (holding [Value.str (xs.getD i Str.empty) t] (setAdd S (.str (xs.getD i Str.empty) t)) >>= _) _ _ s'
    refine wpAny_bind (wpAny_holding ?_)
    unfold setAdd
    refine wpAny_holding ?_
    refine wpAny_bind ((PySem.strKind prog w).pyHash (k := xs.getD i Str.empty) (strKind_is _ _ _ _) ?_)
    refine wpAny_setAddHashed_of (knd := PySem.strKind prog w) (s := { s' with toks := s'.toks + 1 }) (strKind_is _ _ _ _) rfl hS' (by unfold scanBound; omega) fun h' hsb hS2 => ?_
    have hSi : h'.SetOf (PySem.strKind prog w) S (fun k' => (xs.take (i + 1)).any (· == k')) (i + 1) := by
      have hix : i < xs.length := by omega
      have ht : xs.take (i + 1) = xs.take i ++ [xs.getD i Str.empty] := by
        rw [List.take_add_one, List.getElem?_eq_getElem hix]
        simp [List.getD_eq_getElem?_getD, List.getElem?_eq_getElem hix]
      have hni : (xs.take i).any (· == xs.getD i Str.empty) = false := by
        rw [List.any_eq_false]
        intro y hy e
        have e' : y = xs.getD i Str.empty := by simpa using e
        obtain ⟨j, hj, ej⟩ := List.mem_iff_getElem.mp hy
        rw [List.length_take] at hj
        rw [List.getElem_take] at ej
        rw [List.getD_eq_getElem?_getD, List.getElem?_eq_getElem hix, Option.getD_some] at e'
        exact absurd (ej.trans e') (List.pairwise_iff_getElem.mp hnd j i (by omega) hix (by omega))
      refine SetOf_congr hS2 (fun k' => ?_) (by rw [hni]; rfl)
      show ((xs.take i).any (· == k') || decide (k' = xs.getD i Str.empty)) = (xs.take (i + 1)).any (· == k')
      rw [ht, List.any_append]
      congr 1
      by_cases e : k' = xs.getD i Str.empty
      · rw [e]; simp
      · have hb : (xs.getD i Str.empty == k') = false := by simpa [beq_iff_eq] using (fun h' : xs.getD i Str.empty = k' => e h'.symm)
        simp only [List.any_cons, List.any_nil, hb, Bool.or_false, decide_eq_false e]
    refine wpAny_pure ⟨plainId_quiet PyProof.Rows.F.plain_set_update_loop _, ih (i + 1) _ (by omega) hlt (W.frame _ s' _ _ hst' (Nat.le_succ _) fun b hb o e => ?_) hSi fun s'' hm'' hS'' => ?_⟩
    · rw [hsb.2 b (fun h : b = S => hSf (by rw [← h]; exact hb))]; exact e
    · refine hR s'' (Moved.trans W.gtrans ((hm.mono hsub).then_heap (Nat.le_succ _) fun b o hb e => ?_) hm'') hS''
      rw [hsb.2 b (fun h : b = S => hb (by rw [h]; exact List.mem_cons_self))]; exact e
end
section
variable {prog : Program} {w : World} {A : Around} {E : Value → Shared → Prop} {s : Shared}
theorem call_set_listSN {l : Addr} {items : Array Value} {xs : List Str} {Q : Value → Shared → Prop}
    {x1 : Addr} (hh : A.handled = some (.ref x1)) (xo : PySem.W.ExcObj x1 s.heap) (hl : s.heap.IsList l items) (hi : PyProof.Rows.StrsAre items.toList xs) (hn1 : xs.length ≤ 1000) (hnd : xs.Nodup)
    (h : ∀ (h' : Heap) (tk : Nat), h'.SetOf (PySem.strKind prog w) s.heap.objs.size (fun k' => (xs.take items.size).any (· == k')) items.size →
      (∀ b o, b < s.heap.objs.size → s.heap.get? b = some o → h'.get? b = some o) → Q (.ref s.heap.objs.size) { s with heap := h', toks := tk }) :
    wpAny (model prog w) A (call (.type "set") [.ref l]) Q E s := by
  obtain ⟨c, tl, hmro⟩ := PySem.F.called_set.mro
  have hmade := PySem.F.called_set.made
  have hsub := PySem.F.called_set.sub
  refine wpAny_call (codeAny_of_tree ?_)
  show wpAny _ _ (callAny (.type "set") _) _ _ _
  refine wpAny_pure ⟨Code.quiet_builtin _ (by decide +kernel), codeAny_builtin PySem.F.entry_type_call ?_⟩
  rw [Around.under_plain (weight_type_call_type "set" [.ref l] []) rfl]
  have h1 := PySem.F.called_set.notType
  have h2 := PySem.F.called_set.canCreate
  have hct := PySem.F.typeCall_set_1 (.ref l)
  repeat (any_goals (first | assumption | wp_step))

  refine codeAny_mono (code_set_new_1 (.ref l) (E := E) (Q₁ := fun obj s₁ => ∃ led : Bool, obj = .ref s.heap.objs.size ∧ s₁ = { s with heap := s.heap.push { cls := .type "set", dict := none, data := .set #[] 0 (.fresh 0 0 led) } }) fun led => ⟨led, rfl, rfl⟩) fun r s₁ hr => ?_
  cases r with
  | error e => exact hr
  | ok fl =>
    cases fl with
    | ret obj =>
      obtain ⟨led, rfl, rfl⟩ := hr
      have hS : (s.heap.push { cls := .type "set", dict := none, data := .set #[] 0 (.fresh 0 0 led) }).get? s.heap.objs.size = some { cls := .type "set", dict := none, data := .set #[] 0 (.fresh 0 0 led) } := Heap.get?_push_size _ rfl
      have hT : Shared.TypeIs { s with heap := s.heap.push { cls := .type "set", dict := none, data := .set #[] 0 (.fresh 0 0 led) } } (.ref s.heap.objs.size) "set" := ⟨_, hS, rfl⟩
      have hli := PySem.F.called_set.init.lookup
      have hbi := PySem.F.called_set.init.bind (.ref s.heap.objs.size)
      repeat (any_goals (first | assumption | wp_step))

      refine codeAny_mono (codeAny_call_builtin (R := wants (fun r s₂ => r = .none ∧ ∃ h' tk, s₂ = { s with heap := h', toks := tk } ∧
          h'.SetOf (PySem.strKind prog w) s.heap.objs.size (fun k' => (xs.take items.size).any (· == k')) items.size ∧
          (∀ b o, b < s.heap.objs.size → s.heap.get? b = some o → h'.get? b = some o)) E) PySem.F.called_set.init.plain PySem.F.entry_set_init (check_set_init_1 hT ?_)) fun r₂ s₂ hr₂ => ?_
      · obtain ⟨ol, hol, hcl, nl, hdl⟩ := hl
        obtain ⟨ocls, odict, odata, oslots⟩ := ol
        simp only at hcl hdl
        subst hcl; subst hdl
        have hol' : (s.heap.push { cls := .type "set", dict := none, data := .set #[] 0 (.fresh 0 0 led) }).get? l = some { cls := .type "list", dict := odict, data := .seq items nl, slots := oslots } := Heap.get?_push_of_some _ hol
        have hsls := PySem.F.sub_list_set
        have hslf := PySem.F.sub_list_frozenset
        have hne : (Value.type "list" == Value.type "dict") = false := by decide
        have hl1 : (s.heap.push { cls := .type "set", dict := none, data := .set #[] 0 (.fresh 0 0 led) }).IsList l items := ⟨_, hol', rfl, nl, rfl⟩
        unfold Builtin.«set.__init__» noKeywords Builtin.Frozenset.updateFrom
        generalize hPI : pyIter = PI
        wp_walk
        subst hPI

        refine wpAny_pyIter_list hl1 ?_
        refine wpAny_bind (wpAny_runValue ?_)
        have hlS : l < s.heap.objs.size := Heap.lt_size hol
        have hh3 : A.in1.in1.in1.handled = some (.ref x1) := by simp [hh]
        have hneI : l ≠ (s.heap.push { cls := .type "set", dict := none, data := .set #[] 0 (.fresh 0 0 led) }).objs.size := by
          rw [Heap.size_push]; exact Nat.ne_of_lt (Nat.lt_succ_of_lt hlS)
        have hxs : x1 < s.heap.objs.size := by obtain ⟨o, _, a, _⟩ := xo; exact Heap.lt_size a
        have hxI : x1 ≠ (s.heap.push { cls := .type "set", dict := none, data := .set #[] 0 (.fresh 0 0 led) }).objs.size := by
          rw [Heap.size_push]; exact Nat.ne_of_lt (Nat.lt_succ_of_lt hxs)
        have hSf : s.heap.objs.size ∉ [(s.heap.push { cls := .type "set", dict := none, data := .set #[] 0 (.fresh 0 0 led) }).objs.size, l, x1] := by
          rw [Heap.size_push]; simp only [List.mem_cons, List.mem_singleton, List.not_mem_nil, or_false, not_or]
          exact ⟨Nat.ne_of_lt (Nat.lt_succ_self _), Nat.ne_of_gt hlS, Nat.ne_of_gt hxs⟩
        have hsz : xs.length = items.size := by rw [← StrsAre.len_eq hi, Array.length_toList]
        have hval : ∀ (i : Nat) (v : Value), items[i]? = some v → ∃ t, v = .str (xs.getD i Str.empty) t := fun i v hv => strs_at hi i v (by rw [Array.getElem?_toList]; exact hv)
        refine loopStrN ((walks_listH hh3 _ l hneI hxI items).toS) s.heap.objs.size
          hSf xs hsz (by rw [← hsz]; exact hn1) hnd hval (items.size - 0) 0 _ (by omega) (Nat.zero_le _)
          ⟨⟨⟨_, Heap.get?_push_size _ rfl, rfl, rfl⟩, (hl1.push _)⟩, PySem.W.excObj_keep xo fun o e => Heap.get?_push_of_some _ (Heap.get?_push_of_some _ e)⟩ ?hS0 ?hR
        case hS0 =>
          have hget : ((s.heap.push { cls := .type "set", dict := none, data := .set #[] 0 (.fresh 0 0 led) }).push { cls := .type "list_iterator", data := .fields #[.ref l, .int 0 0] }).get? s.heap.objs.size
              = some { cls := .type "set", dict := none, data := .set #[] 0 (.fresh 0 0 led) } := Heap.get?_push_of_some _ hS
          exact PyProof.Rows.SetOf_congr ((PyProof.Rows.setObjOf_fresh (knd := PySem.strKind prog w) led).setOf hget (by unfold scanBound; omega)) (fun _ => rfl) rfl
        case hR =>
          intro s' hm hS'
          obtain ⟨h', g', d', tk', os'⟩ := s'
          have eg : g' = s.gens := hm.gens
          have ed : d' = s.drawn := hm.drawn
          have eo : os' = s.os := hm.os
          subst eg; subst ed; subst eo
          show wpAny _ _ _ _ _ _
          refine wpAny_pure ?_
          show wpAny _ _ (ret Value.none) _ _ _
          refine wpAny_pure ⟨rfl, h', tk', rfl, hS', fun b o hb e => ?_⟩
          have hb1 : b ≠ s.heap.objs.size := Nat.ne_of_lt hb
          have hb2 : b ≠ (s.heap.push { cls := .type "set", dict := none, data := .set #[] 0 (.fresh 0 0 led) }).objs.size := by
            rw [Heap.size_push]; exact Nat.ne_of_lt (Nat.lt_succ_of_lt hb)
          exact hm.heap b o (by simp only [List.mem_cons, List.mem_singleton, List.not_mem_nil, or_false, not_or]; exact ⟨hb1, hb2⟩) (Heap.get?_push_of_some _ (Heap.get?_push_of_some _ e))

      · cases r₂ with
        | error e => exact hr₂
        | ok fl₂ =>
          cases fl₂ with
          | ret r =>
            obtain ⟨rfl, h', tk, rfl, hS', hk'⟩ := hr₂
            repeat (any_goals (first | assumption | wp_step))
            exact h _ _ hS' hk'
          | _ => exact hr₂.elim
    | _ => exact hr.elim

end
end SS
namespace L2
open PySem PySem.Spec PyProof.Rows HotX L2H K49
section
variable {X : Cx}
/-- len(set(xs)): xs distinct texts -/
def tLenSetN (K : PySem.W.Frag) (ta : TE) : TE := fun σ H Q => ta σ H fun x H1 => ∃ (l : Addr) (xs : List Str), x = .ref l ∧ SqL K H1 l (xs.map V.str) ∧ xs.Nodup ∧ xs.length ≤ 1000 ∧ Q (.int xs.length) H1
theorem pe_lenSetH {a : Expr} {ta : TE} {p p2 q pos : Pos} (hc : HotC X) (hg : Gl X "len") (hm : X.mg "len" = none) (hg2 : Gl X "set") (hm2 : X.mg "set" = none) (ha : PE X a ta)
    (na : starEach [a] X.env = (false, eval a X.env) :: starEach [] X.env := by rfl) : PE X (.Call (.Name "len" p) [.Call (.Name "set" p2) [a] [] q] [] pos) (tLenSetN X.K ta) := by
  refine ⟨fun pins s σ H Q I h => ?_⟩
  refine Call_ (ld_blt I hg hm boot_len ?_)
  refine PyProof.Rows.callWith_builtin1 (PyProof.Rows.args_cons ?_ rfl) rfl rfl
  refine Call_ (ld_blt I hg2 hm2 boot_set ?_)
  refine PyProof.Rows.callWith_type1 (PyProof.Rows.args_cons (thn (ha.run pins s σ H _ I h) fun v s1 ⟨x, H1, I1, r1, q1⟩ => PyProof.Rows.args_nil ?_) na) na rfl
  obtain ⟨l, xs, rfl, hq, hnd, h1, q1⟩ := q1
  cases r1
  obtain ⟨its, r, pl, hz⟩ := I1.list hq
  obtain ⟨x1, hh, xo⟩ := hc.at I1
  refine SS.call_set_listSN hh xo pl.isList (by simpa using strsAre_of r) h1 hnd fun h' tk hS hk => ?_
  refine PyProof.Rows.args_nil ?_
  have hl : its.toArray.size = xs.length := by rw [List.size_toArray, ← r.length, List.length_map]
  rw [hl] at hS
  obtain ⟨o, es, ep, t, ho, hex, hd, _, _, _, hf, hn⟩ := hS
  have I2 : Inv X pins σ H1 { s1 with heap := h', toks := tk } := I1.kept fun b o e => hk b o (Heap.lt_size e) e
  refine call_len_set ho hex hd hf (by rw [hn] <;> omega) ⟨.int xs.length, H1, I2.tok _, ⟨_, by rw [hn]⟩, q1⟩
end
end L2
/-! K49HotM -/
/-! dict(enumerate(xs)) while an exception is handled. -/
namespace PySem
open PySem PySem.Spec PyProof.Rows HotX PySem.Calls K49
structure NewAttrErrH (h h' : Heap) (e : Addr) (o : Value) (name : Str) : Prop where
  keeps : ∀ b ob, h.get? b = some ob → h'.get? b = some ob
  there : ∃ ob, h'.get? e = some ob ∧ ob.cls = .type "AttributeError"
def raisesAttrH (o : Value) (name : Str) : Spec := fun A R s => ∃ x1, HotAt A x1 s.heap ∧ ∀ h' tk e, NewAttrErrH s.heap h' e o name → R (.error (.ref e)) { s with heap := h', toks := tk }
section
variable {α : Type} {prog : Program} {w : World} {A : Around} {E : Value → Shared → Prop} {s : Shared}
theorem wpAny_raiseAttrErrorH {o : Value} {name : Str} {msg : Str} {Q : α → Shared → Prop} {x1 : Addr} (hot : HotAt A x1 s.heap)
    (h : ∀ h' tk e, NewAttrErrH s.heap h' e o name → E (.ref e) { s with heap := h', toks := tk }) (hm : msg.length ≤ sizeLine := by size_fits) :
    wpAny (model prog w) A (raiseAttrError o name msg : Sem α) Q E s := by
  unfold raiseAttrError
  refine wpAny_bind (wpAny_mkStr (wpAny_bind ?_) hm)
  unfold newExc newTuple
  refine wpAny_bind (wpAny_newObj_type ?_ (by size_fits))
  refine wpAny_bind (m := firstArgMember _ _) (wpAny_of_eq (a := Value.none) (by simp only [firstArgMember, attrError_no_first]; rfl) ?_)
  rw [ownMembersOf_AttributeError]
  refine wpAny_newObj_type ?_ (by size_fits)
  obtain ⟨hp, g, d, tk, os⟩ := s
  have f1 := sub_AttributeError
  repeat (any_goals (first | assumption | wp_step))
  obtain ⟨hh, o1, vs1, h1, d1, c1⟩ := hot
  have hl1 : x1 < hp.objs.size := Heap.lt_size h1
  have hn1 : hp.objs.size + 1 ≠ x1 := Nat.ne_of_gt (Nat.lt_succ_of_lt hl1)
  refine raiseNew_hot ⟨hh, o1, vs1, (Heap.get?_update_other _ _ (by simpa only [Heap.size_push] using hn1)).trans (Heap.get?_push_of_some _ (Heap.get?_push_of_some _ h1)), d1, c1⟩ (by simpa only [Heap.size_push] using hn1.symm) (Heap.get?_update_self _ (Heap.get?_push_size _ rfl) rfl) rfl (by simp) ?_
  dsimp only
  refine h _ _ _ ⟨fun b ob hb => ?_, ?_⟩
  · have hlt : b < hp.objs.size := Heap.lt_size hb
    have hne : hp.objs.size + 1 ≠ b := Nat.ne_of_gt (Nat.lt_succ_of_lt hlt)
    simp only [Heap.size_push]
    exact (Heap.get?_update_other _ _ hne).trans ((Heap.get?_update_other _ _ hne).trans (Heap.get?_push_of_some _ (Heap.get?_push_of_some _ hb)))
  · exact ⟨_, Heap.get?_update_self _ (Heap.get?_update_self _ (Heap.get?_push_size _ rfl) rfl) rfl, rfl⟩
theorem meets_getattribute_miss_enumerateH (a : Addr) (fs : Array Value) (sl : Array (Option Value)) (name : Str) (u : Tok) (hmiss : typeLookup (.type "enumerate") name = pure none) (hname : (["__module__", "__name__", "__qualname__", "__doc__", "__annotations__"] : List Str).contains name = false) (hsz : name.length + 100 ≤ sizeLine := by size_fits) :
    Meets (Builtin.«object.__getattribute__» ⟨[.ref a, .str name u], []⟩) (fun A R s => s.heap.get? a = some { cls := .type "enumerate", dict := none, data := .fields fs, slots := sl } ∧ raisesAttrH (.ref a) name A R s) :=
  Meets.of_wp fun prog w A R s hs => by
    obtain ⟨hp, g, d, tk, os⟩ := s
    obtain ⟨hx, hs⟩ := hs
    have hT : (⟨hp, g, d, tk, os⟩ : Shared).TypeIs (.ref a) "enumerate" := ⟨_, hx, rfl⟩
    unfold Builtin.«object.__getattribute__»
    repeat (any_goals (first | assumption | wp_step))
    simp only [hname, Bool.false_eq_true, if_false]
    repeat (any_goals (first | assumption | wp_step))
    obtain ⟨x1, hot, hs⟩ := hs
    exact wpAny_raiseAttrErrorH hot hs (attrMsg_fits (by decide +kernel) hsz)

theorem getAttrOr_miss_enumerateH {prog : Program} {w : World} {A : Around} {E : Value → Shared → Prop} {s : Shared} {a : Addr} {o : Obj} {fs : Array Value} {name : Str} {Q : Option Value → Shared → Prop} (hx : s.heap.get? a = some o) (hc : o.cls = .type "enumerate") (hdat : o.data = .fields fs) (hd : o.dict = none) (hmiss : typeLookup (.type "enumerate") name = pure none)
    (hname : (["__module__", "__name__", "__qualname__", "__doc__", "__annotations__"] : List Str).contains name = false) {x1 : Addr} (hot : HotAt A x1 s.heap)
    (h : ∀ h' tk, (∀ b o, s.heap.get? b = some o → h'.get? b = some o) → Q none { s with heap := h', toks := tk }) (hsz : name.length + 100 ≤ sizeLine := by size_fits) :
    wpAny (model prog w) A (getAttr? (.ref a) name) Q E s := by
  obtain ⟨c, dct, dat, sl⟩ := o
  simp only at hc hdat hd
  subst hc hdat hd
  obtain ⟨hp, g, d, tk, os⟩ := s
  have hT : ∀ tk', (⟨hp, g, d, tk', os⟩ : Shared).TypeIs (.ref a) "enumerate" := fun _ => ⟨_, hx, rfl⟩
  have f1 := sub_AttributeError
  have f3 := F.slot_enumerate_getattribute.lookup
  have f4 := F.slot_enumerate_getattribute.bind (.ref a)
  have f5 := enumerate_getattr_none
  unfold getAttr? getAttrBy?
  repeat (any_goals (first | assumption | exact hT _ | ((with_reducible show wpAny _ _ (call (Value.builtin "enumerate.__getattribute__") _ _) _ _ _); refine call_meets F.slot_enumerate_getattribute (hT _) entry_enumerate_getattribute (F.args_enumerate_getattribute_2 _ _) (meets_getattribute_miss_enumerateH a fs sl name _ hmiss hname hsz) ⟨hx, x1, hot, fun h' tk' e hx' => ?_⟩) | wp_step))
  obtain ⟨⟨ocl, od, odt, osl⟩, he, hec⟩ := hx'.there
  simp only at hec
  subst hec
  show wpAny _ _ (getattributeRaised _ _ _ _ _ _ _) _ _ _
  unfold getattributeRaised
  repeat (any_goals (first | assumption | wp_step))
  exact h _ _ hx'.keeps

theorem wpAny_nextOf_list_endH {it l : Addr} {i : Nat} {items} {Q : Value → Shared → Prop} {x1 : Addr} (hot : HotAt A x1 s.heap) (hx1 : x1 ≠ it)
    (hit : s.heap.IsListIter it l i) (hl : s.heap.IsList l items) (hx : items[i]? = none)
    (hE : ∀ h' e, Heap.ExtBut it s.heap h' → (∃ o, h'.get? e = some o ∧ o.cls = .type "StopIteration") → E (.ref e) { s with heap := h' }) :
    wpAny (model prog w) A (Builtin.SmallTypes.nextOf (.ref it)) Q E s := by
  obtain ⟨o, ho, hc, hd⟩ := id hit
  obtain ⟨hh, o1, vs1, h1, d1, c1⟩ := hot
  obtain ⟨ol, hol, _, nl, hdl⟩ := hl
  unfold Builtin.SmallTypes.nextOf
  refine wpAny_bind (wpAny_callSpecial?_slot (name := Str.ofString "__next__") hit.typeIs slot_listiter_next
    (wpAny_call_entry slot_listiter_next hit.typeIs entry_listiter_next ?_ (args_listiter_next _)))
  show wpAny _ _ (field (.ref it) 0 >>= _) _ _ s
  refine wpAny_bind (wpAny_field ho hd (x := .ref l) rfl ?_)
  show wpAny _ _ (if (Value.ref l == Value.none) = true then _ else _) _ _ s
  rw [if_neg (show ¬ ((Value.ref l == Value.none) = true) from Bool.false_ne_true)]
  show wpAny _ _ (field (.ref it) 1 >>= _) _ _ s
  refine wpAny_bind (wpAny_field ho hd (x := .int i 0) rfl ?_)
  show wpAny _ _ (seqItems? (.ref l) >>= _) _ _ s
  refine wpAny_bind (wpAny_seqItems hol hdl ?_)
  simp only [Int.toNat_natCast, hx]
  refine wpAny_bind (wpAny_rule (wpAny_bind (wpAny_setField ho hd (by simp) ?_)))
  show wpAny _ _ (newExc (.type "StopIteration") [] >>= _) _ _ _
  refine wpAny_bind ?_
  simp only [newExc, newTuple]
  refine wpAny_bind (wpAny_newObj_type ?_ (by size_fits))
  refine wpAny_bind (m := firstArgMember _ _) (wpAny_of_eq (a := Value.none) (by first | rfl | (simp only [firstArgMember]; rfl)) ?_)
  refine wpAny_newObj_type ?_ (by size_fits)
  have upb : ∀ f (b : Addr) (o : Obj), b ≠ it → s.heap.get? b = some o → (s.heap.update it f).get? b = some o := fun f b o hb e => ((Heap.SameBut.update s.heap it f).2 b hb).trans e
  refine raiseNew_hot ⟨hh, o1, vs1, Heap.get?_push_of_some _ (Heap.get?_push_of_some _ (upb _ x1 o1 hx1 h1)), d1, c1⟩ (Nat.ne_of_lt (Heap.lt_size (Heap.get?_push_of_some _ (upb _ x1 o1 hx1 h1)))) (Heap.get?_push_size _ rfl) rfl (by first | (simp; done) | (simp; omega) | (simp only [Array.size_append]; simp; omega)) ?_
  refine hE _ _ (fun b o hb e => ?_) ⟨_, Heap.get?_update_self _ (Heap.get?_push_size _ rfl) rfl, rfl⟩
  rw [Heap.get?_update_other _ _ (Nat.ne_of_gt (Heap.lt_size (Heap.get?_push_of_some _ (upb _ b o hb e))))]
  exact Heap.get?_push_of_some _ (Heap.get?_push_of_some _ (upb _ b o hb e))
theorem wpAny_pyNext_enum_endH {e it l : Addr} {i : Nat} {items : Array Value} {old : Value} {Q : Option Value → Shared → Prop} {x1 : Addr} (hot : HotAt A x1 s.heap) (hx1 : x1 ≠ it)
    (he : IsEnum s.heap e it i old) (hit : s.heap.IsListIter it l i) (hl : s.heap.IsList l items) (hx : items[i]? = none)
    (hQ : ∀ h', Heap.ExtBut it s.heap h' → Q none { s with heap := h' }) : wpAny (model prog w) A (pyNext (.ref e)) Q E s := by
  have hT : s.TypeIs (.ref e) "enumerate" := ⟨_, he, rfl⟩
  unfold pyNext
  refine wpAny_bind (wpAny_attempt (wpAny_callSpecial?_slot (name := Str.ofString "__next__") hT F.slot_enumerate_next
    (wpAny_call_entry F.slot_enumerate_next hT F.entry_enumerate_next ?_ (F.args_enumerate_next_1 _))))
  show wpAny _ _ (field (.ref e) 2 >>= _) _ _ _
  refine wpAny_bind (wpAny_field he rfl (x := .ref it) rfl ?_)
  refine wpAny_bind (wpAny_nextOf_list_endH hot hx1 hit hl hx fun h' x he' hx' => ?_)
  obtain ⟨o, ho, hc⟩ := hx'
  refine wpAny_bind (wpAny_isInstance (T := "StopIteration") (b := true) ⟨o, ho, hc⟩ isSubtype_stop ?_)
  exact wpAny_pure (hQ _ he')
theorem wpAny_pyNext_enum_end_heldH {e it l T : Addr} {i : Nat} {items : Array Value} {old : Value} {f : Bool} {Q : Option Value → Shared → Prop} {x1 : Addr} (hot : HotAt A x1 s.heap) (hx1 : x1 ≠ it)
    (he : IsEnumHeld s.heap e it i old T f) (hit : s.heap.IsListIter it l i) (hl : s.heap.IsList l items) (hx : items[i]? = none)
    (hQ : ∀ h', Heap.ExtBut it s.heap h' → Q none { s with heap := h' }) : wpAny (model prog w) A (pyNext (.ref e)) Q E s := by
  have hTy : s.TypeIs (.ref e) "enumerate" := ⟨_, he, rfl⟩
  unfold pyNext
  refine wpAny_bind (wpAny_attempt (wpAny_callSpecial?_slot (name := Str.ofString "__next__") hTy F.slot_enumerate_next
    (wpAny_call_entry F.slot_enumerate_next hTy F.entry_enumerate_next ?_ (F.args_enumerate_next_1 _))))
  show wpAny _ _ (field (.ref e) 2 >>= _) _ _ _
  refine wpAny_bind (wpAny_field he rfl (x := .ref it) rfl ?_)
  refine wpAny_bind (wpAny_nextOf_list_endH hot hx1 hit hl hx fun h' x he' hx' => ?_)
  obtain ⟨o, ho, hc⟩ := hx'
  refine wpAny_bind (wpAny_isInstance (T := "StopIteration") (b := true) ⟨o, ho, hc⟩ isSubtype_stop ?_)
  exact wpAny_pure (hQ _ he')
end
structure PairArgH (prog : Program) (w : World) (x1 : Addr) (T : String) (a : Addr) (fp wr : List Addr) (n : Nat) (Rel : Nat → Value → Value → Prop) (OK : Heap → Prop) : Prop where
  type : ∀ s : Shared, OK s.heap → s.TypeIs (.ref a) T
  notDict : (Value.type T != Value.type "dict") = true
  keep : ∀ h h', OK h → (∀ b o, h.get? b = some o → h'.get? b = some o) → OK h'
  there : ∀ h, OK h → ∀ b ∈ fp, ∃ o, h.get? b = some o
  sub : ∀ b ∈ wr, b ∈ fp
  noKeys : ∀ (A : Around) (s : Shared) (Q : Option Value → Shared → Prop) (E : Value → Shared → Prop), A.handled = some (.ref x1) → OK s.heap →
    (∀ h' tk, (∀ b o, s.heap.get? b = some o → h'.get? b = some o) → Q none { s with heap := h', toks := tk }) → wpAny (model prog w) A (getAttr? (.ref a) "keys") Q E s
  iter : ∀ (A : Around) (s : Shared) (d : Addr) (Q : Value → Shared → Prop) (E : Value → Shared → Prop), A.handled = some (.ref x1) → OK s.heap → d < s.heap.objs.size → d ∉ fp →
    (∀ I wr' St h' tk, PairSrc prog w A I d wr' n Rel St → St 0 h' → (∀ b o, s.heap.get? b = some o → h'.get? b = some o) → (∀ b ∈ wr', b ∈ wr ∨ s.heap.get? b = none) → Q (.ref I) { s with heap := h', toks := tk }) →
    wpAny (model prog w) A (pyIter (.ref a)) Q E s

section
variable {prog : Program} {w : World}
theorem PairArgH.enumerate {x1 : Addr} (e it l : Addr) (hei : e ≠ it) (hle : l ≠ e) (hli : l ≠ it) (hxe : x1 ≠ e) (hxi : x1 ≠ it) (items : Array Value) :
    PairArgH prog w x1 "enumerate" e [e, it, l, x1] [e, it] items.size (fun i k v => (∃ t, k = .int i t) ∧ items[i]? = some v)
      (fun h => (∃ old, IsEnum h e it 0 old) ∧ h.IsListIter it l 0 ∧ h.IsList l items ∧ PySem.W.ExcObj x1 h) where
  type := fun s ok => let ⟨⟨_, he⟩, _⟩ := ok; ⟨_, he, rfl⟩
  notDict := by decide
  keep := fun h h' ok hk => by
    obtain ⟨⟨old, he⟩, hit, hl, hx⟩ := ok
    exact ⟨⟨old, hk _ _ he⟩, hit.at fun o x => hk _ o x, hl.at fun o x => hk _ o x, PySem.W.excObj_keep hx fun o x => hk _ o x⟩
  there := fun h ok b hb => by
    obtain ⟨⟨old, he⟩, ⟨o1, h1, _⟩, ⟨o2, h2, _⟩, ⟨o3, _, h3, _⟩⟩ := ok
    simp only [List.mem_cons, List.not_mem_nil, or_false] at hb
    rcases hb with rfl | rfl | rfl | rfl
    all_goals first | exact ⟨_, he⟩ | exact ⟨_, h1⟩ | exact ⟨_, h2⟩ | exact ⟨_, h3⟩
  sub := fun b hb => by simp at hb ⊢; rcases hb with rfl | rfl <;> simp
  noKeys := fun A s Q E hA ok h => let ⟨⟨_, he⟩, _, _, hx⟩ := ok; getAttrOr_miss_enumerateH he rfl rfl rfl enumerate_no_keys (by decide +kernel) ⟨hA, hx⟩ h
  iter := fun A s d Q E hA ok hd hdf h => by
    obtain ⟨⟨old, he⟩, hit, hl, hxo⟩ := ok
    simp only [List.mem_cons, List.not_mem_nil, or_false, not_or] at hdf
    obtain ⟨de, dit, dl, dx⟩ := hdf
    refine wpAny_pyIter_enum he (h e [e, it] (fun i h => h.IsListIter it l i ∧ h.IsList l items ∧ PySem.W.ExcObj x1 h ∧ ((∃ old, IsEnum h e it i old) ∨ ∃ old T f oT, IsEnumHeld h e it i old T f ∧ h.get? T = some oT ∧ T ≠ e ∧ T ≠ it ∧ T ≠ d)) s.heap s.toks ?_
      ⟨hit, hl, hxo, .inl ⟨old, he⟩⟩ (fun _ _ e => e) fun b hb => .inl hb)
    exact {
      off := fun hm => by
        simp only [List.mem_cons, List.not_mem_nil, or_false] at hm
        rcases hm with x | x
        · exact de x
        · exact dit x
      frame := fun i h₁ h₂ st hk => by
        obtain ⟨hit, hl, hxo, he⟩ := st
        refine ⟨hit.at fun o x => hk _ o (Ne.symm dit) x, hl.at fun o x => hk _ o (Ne.symm dl) x, PySem.W.excObj_keep hxo fun o x => hk _ o (Ne.symm dx) x, ?_⟩
        rcases he with ⟨old, he⟩ | ⟨old, T, f, oT, he, hT, r1, r2, r3⟩
        · exact .inl ⟨old, hk _ _ (Ne.symm de) he⟩
        · exact .inr ⟨old, T, f, oT, hk _ _ (Ne.symm de) he, hk _ _ r3 hT, r1, r2, r3⟩
      item := fun i s₁ Q₁ E₁ hi st hds hQ => by
        obtain ⟨hit, hl, hxo, he⟩ := st
        have ex := Array.getElem?_eq_getElem hi
        have ec : ((i + 1 : Nat) : Int) = (i : Int) + 1 := by omega
        have nit : s₁.heap.objs.size ≠ it := let ⟨_, x, _⟩ := hit; Nat.ne_of_gt (Heap.lt_size x)
        rcases he with ⟨old, he⟩ | ⟨old, T, f, oT, he, hT, r1, r2, r3⟩
        · refine wpAny_pyNext_enum_item he hit hl ex hei fun h' ho hit' hT hsz hk => ?_
          exact hQ s₁.heap.objs.size _ _ h' (s₁.toks + 1) ⟨⟨_, rfl⟩, ex⟩ (.inl ⟨_, hT, rfl, _, rfl⟩)
            ⟨hit', hl.at fun o x => hk l o hle hli x, PySem.W.excObj_keep hxo fun o x => hk x1 o hxe hxi x, .inr ⟨_, s₁.heap.objs.size, false, _, (by rw [ec]; exact ho), hT, Nat.ne_of_gt (Heap.lt_size he), nit, Nat.ne_of_gt hds⟩⟩
            fun b o hb x => hk b o (fun y => hb (by simp [y])) (fun y => hb (by simp [y])) x
        · refine wpAny_pyNext_enum_item_held he hT r1 r2 hit hl ex hei fun h' ho hit' hT' hsz hk => ?_
          exact hQ s₁.heap.objs.size _ _ h' (s₁.toks + 1) ⟨⟨_, rfl⟩, ex⟩ (.inl ⟨_, hT', rfl, _, rfl⟩)
            ⟨hit', hl.at fun o x => hk l o hle hli x, PySem.W.excObj_keep hxo fun o x => hk x1 o hxe hxi x, .inr ⟨old, T, true, oT, (by rw [ec]; exact ho), hk _ _ r1 r2 hT, r1, r2, r3⟩⟩
            fun b o hb x => hk b o (fun y => hb (by simp [y])) (fun y => hb (by simp [y])) x
      done := fun s₁ Q₁ E₁ st hQ => by
        obtain ⟨hit, hl, hxo, he⟩ := st
        have hx : items[items.size]? = none := Array.getElem?_eq_none (Nat.le_refl _)
        rcases he with ⟨old, he⟩ | ⟨old, T, f, oT, he, hT, r1, r2, r3⟩
        · exact wpAny_pyNext_enum_endH ⟨hA, hxo⟩ hxi he hit hl hx fun h' hk => hQ h' s₁.toks fun b o hb x => hk b o (fun y => hb (by simp [y])) x
        · exact wpAny_pyNext_enum_end_heldH ⟨hA, hxo⟩ hxi he hit hl hx fun h' hk => hQ h' s₁.toks fun b o hb x => hk b o (fun y => hb (by simp [y])) x }

end
section
variable {prog : Program} {w : World} {A : Around} {s : Shared} {R : Result → Shared → Prop} {I d : Addr} {wr : List Addr} {n : Nat} {Rel : Nat → Value → Value → Prop} {St : Nat → Heap → Prop} {Tab : Nat → Heap → Prop}
theorem updateFrom_argH {x1 : Addr} {nm T : String} {a : Addr} {fp : List Addr} {OK : Heap → Prop} (P : PairArgH prog w x1 T a fp wr n Rel OK) (res : Value) (hh : A.handled = some (.ref x1)) (ok : OK s.heap) (hdf : d ∉ fp) (tab : Tab 0 s.heap)
    (alive : ∀ i h, Tab i h → d < h.objs.size)
    (keepT : ∀ i h h' (wr' : List Addr), d ∉ wr' → (∀ b ∈ wr', b ∈ wr ∨ s.heap.get? b = none) → Tab i h → (∀ b o, b ∉ wr' → h.get? b = some o → h'.get? b = some o) → Tab i h')
    (step : ∀ i k v (s : Shared) (Q : Unit → Shared → Prop) (E : Value → Shared → Prop), i < n → Rel i k v → Tab i s.heap → (∃ T, PairAt s.heap T k v) →
      (∀ h' tk, Tab (i + 1) h' → Heap.SameBut d s.heap h' → Q () { s with heap := h', toks := tk }) → wpAny (model prog w) A.in1 (dictSet d k v) Q E s)
    (hR : ∀ h' tk, Tab n h' → (∀ b o, b ≠ d → b ∉ wr → s.heap.get? b = some o → h'.get? b = some o) → R (.ok (.ret res)) { s with heap := h', toks := tk }) :
    wpAny (model prog w) A.in1 (Builtin.Dict.updateFrom nm d (.ref a) [] res)
      (fun fin s' => match fin with | .done f => R (.ok f) s' | .again c' => c'.quiet = true ∧ codeAny (model prog w) A c' R s') (fun e s' => R (.error e) s') s := by
  unfold Builtin.Dict.updateFrom
  refine wpAny_bind (wpAny_typeOf (P.type s ok) ?_)
  rw [if_pos P.notDict]
  refine wpAny_bind (P.noKeys A.in1 s _ _ hh ok fun h₁ tk₁ hk₁ => ?_)
  simp only [Option.isNone_none, if_true]
  refine wpAny_bind (wpAny_rule ?_)
  have hs₁ : d < h₁.objs.size := alive 0 h₁ (keepT 0 s.heap h₁ [] (fun h => nomatch h) (fun _ h => nomatch h) tab fun b o _ e => hk₁ b o e)
  refine wpAny_bind (P.iter A.in1 { s with heap := h₁, toks := tk₁ } d _ _ hh (P.keep _ _ ok hk₁) hs₁ hdf fun I wr' St h₂ tk₂ S st hk₂ hwr => ?_)
  have hwr' : ∀ b ∈ wr', b ∈ wr ∨ s.heap.get? b = none := fun b hb => (hwr b hb).imp id fun e => by
    cases hq : s.heap.get? b with
    | none => rfl
    | some o => exact absurd (hk₁ b o hq) (by rw [show h₁.get? b = none from e]; exact fun q => nomatch q)
  refine wpAny_pure ⟨plainId_quiet plain_update_loop _, ?_⟩
  refine update_loop (s := s) (h₀ := s.heap) (Tab := Tab) S res alive (fun i h h' tb hk => keepT i h h' wr' S.off hwr' tb hk) step ?_ n 0 0 h₂ tk₂ (Nat.sub_zero _) (Nat.zero_le _) st
    (keepT 0 s.heap h₂ [] (fun h => nomatch h) (fun _ h => nomatch h) tab fun b o _ e => hk₂ b o (hk₁ b o e)) (fun b o _ _ e => hk₂ b o (hk₁ b o e))
  intro h' tk' tb hk
  refine hR h' tk' tb fun b o hb hw e => hk b o hb (fun hm => ?_) e
  rcases hwr' b hm with h | h
  · exact hw h
  · rw [h] at e; cases e
end
section
variable {prog : Program} {w : World} {K : Type} [DecidableEq K] {A : Around} {E : Value → Shared → Prop} {s : Shared} {x1 : Addr} {T : String} {a d : Addr} {fp wr : List Addr} {n : Nat} {Rel : Nat → Value → Value → Prop} {OK : Heap → Prop}
theorem updateFrom_pairsHot {knd : KeyKind prog w K} {R : Result → Shared → Prop} {nm : String} {acc kvs : List (K × Value)} (P : PairArgH prog w x1 T a fp wr n Rel OK) (res : Value) (hh : A.handled = some (.ref x1)) (ok : OK s.heap) (hdf : d ∉ fp) (hc : PairsHave knd n Rel kvs) (hm : s.heap.DictOf knd d acc)
    (hsz : acc.length + n ≤ sizeLine) (hR : ∀ h' tk, h'.DictOf knd d (merged acc kvs) → (∀ b o, b ≠ d → b ∉ wr → s.heap.get? b = some o → h'.get? b = some o) → R (.ok (.ret res)) { s with heap := h', toks := tk }) :
    wpAny (model prog w) A.in1 (Builtin.Dict.updateFrom nm d (.ref a) [] res)
      (fun fin s' => match fin with | .done f => R (.ok f) s' | .again c' => c'.quiet = true ∧ codeAny (model prog w) A c' R s') (fun e s' => R (.error e) s') s := by
  refine updateFrom_argH (Tab := fun i h => h.DictOf knd d (merged acc (kvs.take i))) P res hh ok hdf hm (fun _ _ tb => tb.lt_size) (fun i h h' wr' hd _ tb hk => tb.at' fun o e => hk d o hd e) ?_ ?_
  · intro i key v s' Q E' hi hrel tb _ hQ
    obtain ⟨k, hk, his⟩ := hc.2 i key v hrel
    refine wpAny_dictSet_pairs (hsz := by have := merged_length acc (kvs.take i); rw [List.length_take] at this; omega) his tb fun h' hm' hs => ?_
    exact hQ h' _ (by rw [merged_take_succ acc kvs i (k, v) hk]; exact hm') hs
  · intro h' tk tb hk
    have e : kvs.take n = kvs := List.take_of_length_le (Nat.le_of_eq hc.1)
    rw [e] at tb
    exact hR h' tk tb hk

theorem call_dict_argH {Q : Value → Shared → Prop} (P : PairArgH prog w x1 T a fp wr n Rel OK) (ok : OK s.heap)
    (upd : ∀ s₁ : Shared, s₁ = { s with heap := s.heap.push { cls := .type "dict", data := .dict #[] } } → s.heap.objs.size ∉ fp → OK s₁.heap →
      wpAny (model prog w) A.in1.in1 (Builtin.Dict.updateFrom "dict.__init__" s.heap.objs.size (.ref a) [] .none)
        (fun fin s' => match fin with | .done f => wants (fun r s₂ => r = .none ∧ Q (.ref s.heap.objs.size) s₂) E (.ok f) s' | .again c' => c'.quiet = true ∧ codeAny (model prog w) A.in1 c' (wants (fun r s₂ => r = .none ∧ Q (.ref s.heap.objs.size) s₂) E) s')
        (fun e s' => wants (fun r s₂ => r = .none ∧ Q (.ref s.heap.objs.size) s₂) E (.error e) s') s₁) :
    wpAny (model prog w) A (call (.type "dict") [.ref a]) Q E s := by
  refine callType_codes (Q₁ := fun obj s₁ => obj = .ref s.heap.objs.size ∧ s₁ = { s with heap := s.heap.push { cls := .type "dict", data := .dict #[] } }) F.kt_called_dict (F.kt_typeCall_dict_1 _) F.entry_dict_init (kt_code_dict_new _ ⟨rfl, rfl⟩) ?_
  rintro obj s₁ ⟨rfl, rfl⟩
  have hT : Shared.TypeIs { s with heap := s.heap.push { cls := .type "dict", data := .dict #[] } } (.ref s.heap.objs.size) "dict" := ⟨_, Heap.get?_push_size _ rfl, rfl⟩
  refine ⟨hT, F.args_dict_init_2 _ _, ?_⟩
  unfold Builtin.«dict.__init__»
  refine wpAny_bind ?_
  unfold Builtin.Dict.selfAndRest
  refine wpAny_bind (wpAny_notOrdered_dict hT ?_)
  show wpAny _ _ (pure (s.heap.objs.size, [Value.ref a])) _ _ _
  refine wpAny_pure ?_
  refine upd _ rfl (fun hm => ?_) (P.keep _ _ ok fun b o e => Heap.get?_push_of_some _ e)
  obtain ⟨o, ho⟩ := P.there _ ok _ hm
  exact absurd (Heap.lt_size ho) (Nat.lt_irrefl _)

theorem call_dict_pairsHot {knd : KeyKind prog w K} {kvs : List (K × Value)} {Q : Value → Shared → Prop} (P : PairArgH prog w x1 T a fp wr n Rel OK) (hh : A.handled = some (.ref x1)) (ok : OK s.heap) (hc : PairsHave knd n Rel kvs) (hsz : n ≤ sizeLine)
    (h : ∀ h' tk, h'.DictOf knd s.heap.objs.size (merged [] kvs) → (∀ b o, b ∉ wr → s.heap.get? b = some o → h'.get? b = some o) → Q (.ref s.heap.objs.size) { s with heap := h', toks := tk }) :
    wpAny (model prog w) A (call (.type "dict") [.ref a]) Q E s := by
  refine call_dict_argH P ok fun s₁ hs₁ hdf ok₁ => ?_
  subst hs₁
  refine updateFrom_pairsHot (A := A.in1) (knd := knd) (acc := []) P .none hh ok₁ hdf hc (Heap.DictOf.new s.heap) (by simpa using hsz) fun h' tk hd' hk => ?_
  exact ⟨rfl, h h' tk hd' fun b o hw e => hk b o (Nat.ne_of_lt (Heap.lt_size e)) hw (Heap.get?_push_of_some _ e)⟩
end
end PySem
/-! K49HotN -/
namespace L2
open PySem PySem.Spec PyProof.Rows HotX L2H K49
section
variable {X : Cx}
theorem pe_dictEnumH {e : Expr} {te : TE} {p p2 pos pos2 : Pos} (hc : HotC X) (hg : Gl X "dict") (hm : X.mg "dict" = none) (hg2 : Gl X "enumerate") (hm2 : X.mg "enumerate" = none) (he : PE X e te)
    (na : starEach [e] X.env = (false, eval e X.env) :: starEach [] X.env := by rfl)
    (na2 : starEach [.Call (.Name "enumerate" p2) [e] [] pos2] X.env = (false, eval (.Call (.Name "enumerate" p2) [e] [] pos2) X.env) :: starEach [] X.env := by rfl) : PE X (.Call (.Name "dict" p) [.Call (.Name "enumerate" p2) [e] [] pos2] [] pos) (tDictEnum X.K te) := by
  refine ⟨fun pins s σ H Q I h => ?_⟩
  refine Call_ (ld_blt I hg hm K49.boot_dict (PyProof.Rows.callWith_type1 (args_cons ?_ na2) na2))
  refine Call_ (ld_blt I hg2 hm2 boot_enum (PyProof.Rows.callWith_type1 (args_cons (thn (he.run pins s σ H _ I h) fun v s1 ⟨x, H1, I1, r1, a, xs, ex, hs, q⟩ => args_nil ?_) na) na))
  subst ex
  cases r1
  obtain ⟨its, rv, hl, hz⟩ := I1.list hs
  refine call_enumerate_list hl.isList fun h' hen hit hsz hk => ?_
  refine args_nil ?_
  obtain ⟨x1, hh, xo⟩ := hc.at I1
  have hxs : x1 < s1.heap.objs.size := by obtain ⟨o, _, z, _⟩ := xo; exact Heap.lt_size z
  have hsz1 : s1.heap.objs.size ≤ h'.objs.size := by rw [hsz]; omega
  obtain ⟨o0, hl0, _⟩ := hl.isList
  have hla : a < s1.heap.objs.size := Heap.lt_size hl0
  generalize hkvs : (List.range its.length).map (fun (i : Nat) => ((Sum.inl (i : Int) : Key), its.getD i .none)) = kvs
  refine call_dict_pairsHot (x1 := x1) (knd := mixKind X.prog X.w) (kvs := kvs) (PairArgH.enumerate (s1.heap.objs.size + 1) s1.heap.objs.size a (Nat.succ_ne_self _) (Nat.ne_of_lt (Nat.lt_succ_of_lt hla)) (Nat.ne_of_lt hla) (Nat.ne_of_lt (Nat.lt_succ_of_lt hxs)) (Nat.ne_of_lt hxs) its.toArray) hh ⟨⟨_, hen⟩, hit, hl.isList.at fun o e => hk _ o e, PySem.W.excObj_keep xo fun o e => hk _ o e⟩ ⟨?_, fun i k v hr => ?_⟩ ?_ fun h2 tk hd hk2 => ?_
  · rw [← hkvs]; simp
  · obtain ⟨⟨t, rfl⟩, hv⟩ := hr
    have hv' : its[i]? = some v := by rw [← hv]; simp
    obtain ⟨hi, e⟩ := List.getElem?_eq_some_iff.mp hv'
    refine ⟨.inl (i : Int), ?_, ?_⟩
    · rw [← hkvs, List.getElem?_map, List.getElem?_range hi]
      simp [List.getD_eq_getElem?_getD, hv']
    · show keyIs (Sum.inl (i : Int)) (.int (i : Int) t) = true
      simp [keyIs, Value.isInt]
  · rw [rv.length] at hz; simpa using hz
  · refine ⟨.ref h'.objs.size, upd H1 h'.objs.size (.dK (enumD xs)), I1.laid (t' := tk) (fun b o e => hk2 b o ?_ (hk b o e)) hsz1 ?_, rfl, q _ (I1.hok.fresh hsz1)⟩
    · intro hb
      have := Heap.lt_size e
      simp at hb
      rcases hb with z | z
      · exact absurd z (Nat.ne_of_lt (Nat.lt_succ_of_lt this))
      · exact absurd z (Nat.ne_of_lt this)
    · have hnd : (kvs.map (·.1)).Nodup := by
        rw [← hkvs, List.map_map]
        exact List.Pairwise.map _ (fun a b h e => h (by have := Sum.inl.inj e; omega)) List.nodup_range
      rw [merged_nil_of_nodup _ hnd] at hd
      refine (⟨?_, beq_eq_false_iff_ne.mpr (Nat.ne_of_gt (Nat.lt_of_lt_of_le I1.big hsz1)), kvs, ?_, hd⟩ : ObjOk X.prog X.w _ _ _ (.dK (enumD xs)))
      · unfold enumD; rw [List.length_map, List.length_range]; exact hz
      · refine paired_of_at (by rw [← hkvs]; unfold enumD; rw [List.length_map, List.length_map, List.length_range, List.length_range, rv.length]) fun i a b ha hb => ?_
        unfold enumD at ha
        rw [← hkvs] at hb
        rw [List.getElem?_map] at ha hb
        obtain ⟨j, hj, rfl⟩ := Option.map_eq_some_iff.mp ha
        obtain ⟨j', hj', rfl⟩ := Option.map_eq_some_iff.mp hb
        have hjj := (List.getElem?_eq_some_iff.mp hj)
        have hjj' := (List.getElem?_eq_some_iff.mp hj')
        obtain ⟨l1, e1⟩ := hjj
        obtain ⟨l2, e2⟩ := hjj'
        rw [List.getElem_range] at e1 e2
        rw [List.length_range] at l1
        subst e1; subst e2
        refine ⟨rfl, ?_⟩
        obtain ⟨u, hu, ru⟩ := rv.get (List.getElem?_eq_getElem l1)
        show L2.RelV (xs.getD i .non) (its.getD i .none)
        rw [List.getD_eq_getElem?_getD, List.getD_eq_getElem?_getD, hu, List.getElem?_eq_getElem l1]
        exact ru
end
end L2
/-! K49L10 -/
/-! like, few: run while an exception is handled. -/
namespace K49
open PySem L2 Evl L2H PySem.Spec PyProof.Rows HotX
theorem fn_okH {P : Program} {w : World} {K : PySem.W.Frag} {mg : Str → Option Value} {base : Heap} {x qual : Str} {params : Arguments} {body : List Stmt} {scope : Scope} {f : Addr} {fd : FuncData} {CX : CXT} {N ps : List Str} {k : Nat} {sp : Sp} (F : FunD K x qual params body scope [] [] f fd) (S : FnScope N ps scope) (len : ∀ vs H Q E, sp vs H Q E → vs.length = ps.length)
    (hbody : ∀ (cdv : Value) (A : Around) (outer : List Env) (s : Shared) (H : Hp) (vs : List V) (Q : VK) (E : XK) (p : Addr × Obj), Hot1 A p → RoomH k (A.deeper (envOfC qual scope s.heap.objs.size f cdv)) → sp vs H Q E →
      ∃ t, PSs (cxH CX P w K mg base N qual scope f cdv A outer s H E p) body t ∧ t { nx := fun _ H' => Q .non H', rt := Q } (L2.start N vs) H) : FnH P w K mg base CX (k + 1) f fd ps sp := by
  obtain ⟨oc, od, dV, kV, doc, pm, an, cdv, ct, osl, rfl, lk, hcd, _, _⟩ := F.ex
  exact fn_ofH lk hcd S len fun A outer s H vs Q E p h1 hr hsp => hbody cdv A outer s H vs Q E p h1 hr hsp
theorem hu_ofH {A : Around} {k : Nat} (hr : RoomH k A) : A.units + 1 < cLine := by have := hr.un; omega
section
variable {P : Program} {w : World} {K : PySem.W.Frag} {mg : Str → Option Value} {base : Heap}
theorem ev_isiN {σ : L2.St} {H : Hp} {te : TE} {x : V} {t : Value} {n : String} {b : Bool} (h : Ev te σ H x) (ht : ∀ H', TyOf K H' x t) (hk : PySem.W.kitOne K t (.type n) = some b) : Ev (tCB (rIsi K) (tCons te (tCons (tC (.ty n)) tNil))) σ H (.bl b) := fun H1 e Q q =>
  h H1 e _ fun H2 e2 => ⟨x, .ty n, t, .type n, b, rfl, .ty n, .base (ht _), hk, q H2 e2⟩
theorem pass0H {X : Cx} : ∀ σ : L2.St, PassesAt CX0 X σ ((fun _ : L2.St => (fun _ _ _ => False : XK)) σ) := fun _ _ _ _ _ _ _ h => h.elim
/-- of one kind -/
def likeK : Key → Key → Bool
  | .inl _, .inl _ => true
  | .inr _, .inr _ => true
  | _, _ => false
theorem sc_l_like : FnScope ["_law_one", "_law_other"] ["_law_one", "_law_other"] (defScope s_l_like) := ⟨rfl, rfl, rfl, by decide +kernel, rfl, by decide +kernel, by decide +kernel⟩
def spLike (K : PySem.W.Frag) : Sp := fun vs H Q _ => ∃ x y : Key, vs = [kV x, kV y] ∧ RetV (.bl (likeK x y)) H Q
theorem k_l_like (T : Tx K mg) : FnH P w K mg base CX0 1 T.f_l_like T.fd_l_like ["_law_one", "_law_other"] (spLike K) := by
  refine fn_okH T.d_l_like.F sc_l_like (fun vs H Q E h => ?_) (fun cdv A outer s H vs Q E p hot hr h => ?_)
  · obtain ⟨x, y, rfl, _⟩ := h
    rfl
  obtain ⟨x, y, rfl, k⟩ := h
  have hu := hu_ofH hr
  refine ⟨_, PSs.nox (pss_cons (ps_if (pt_val (pe_callB call_isi (by rfl) T.B.isi (by decide +kernel) (pa_cons (pv 1) (pa_cons (pe_bltn (v := .ty "str") (by rfl) T.B.str (by decide +kernel) rfl) pa_nil))))
      (pss_one (ps_ret (pe_callB call_isi (by rfl) T.B.isi (by decide +kernel) (pa_cons (pv 0) (pa_cons (pe_bltn (v := .ty "str") (by rfl) T.B.str (by decide +kernel) rfl) pa_nil)))))
      pss_nil)
    (pss_one (ps_ret (pe_and (pe_callB call_isi (by rfl) T.B.isi (by decide +kernel) (pa_cons (pv 0) (pa_cons (pe_bltn (v := .ty "int") (by rfl) T.B.int (by decide +kernel) rfl) pa_nil))) (pe_one (pe_not (pe_callB call_isi (by rfl) T.B.isi (by decide +kernel) (pa_cons (pv 0) (pa_cons (pe_bltn (v := .ty "bool") (by rfl) T.B.bool (by decide +kernel) rfl) pa_nil))))))))), ?_⟩
  cases y with
  | inr y =>
    refine q_when (b := true) (et_is (et_B (ev_isiN (x := .str y) (ev_var rfl) (fun _ => .str y) rfl)) rfl) (fun _ H1 e1 => ?_) (fun z => by cases z)
    cases x with
    | inr x => exact s_ret (ev_isiN (x := .str x) (ev_var rfl) (fun _ => .str x) rfl) fun H2 e2 => k H2 (e1.trans e2)
    | inl x => exact s_ret (ev_isiN (x := .int x) (ev_var rfl) (fun _ => .int x) rfl) fun H2 e2 => k H2 (e1.trans e2)
  | inl y =>
    refine q_when (b := false) (et_is (et_B (ev_isiN (x := .int y) (ev_var rfl) (fun _ => .int y) rfl)) rfl) (fun z => by cases z) (fun _ H1 e1 => ?_)
    cases x with
    | inr x => exact s_ret (ev_andV (a := false) (b := false) (ev_isiN (x := .str x) (ev_var rfl) (fun _ => .str x) rfl) (fun z => by cases z)) fun H2 e2 => k H2 (e1.trans e2)
    | inl x => exact s_ret (ev_andV (a := true) (b := true) (ev_isiN (x := .int x) (ev_var rfl) (fun _ => .int x) rfl) (fun _ => ev_notV (a := false) (ev_isiN (x := .int x) (ev_var rfl) (fun _ => .int x) rfl))) fun H2 e2 => k H2 (e1.trans e2)
end
end K49
/-! K49L11 -/
/-! few. -/
namespace K49
open PySem L2 Evl L2H PySem.Spec PyProof.Rows HotX
/-- what the walk has gathered behind these lefts -/
def dueOf (row : Key → List Str) (ks : List Key) : List Str := ks.foldl (fun due x => due ++ (row x).filter fun q => !decide (q ∈ due)) []
theorem dueOf_snoc (row : Key → List Str) (ks : List Key) (x : Key) : dueOf row (ks ++ [x]) = dueOf row ks ++ (row x).filter fun q => !decide (q ∈ dueOf row ks) := by
  unfold dueOf
  rw [List.foldl_append]; rfl
theorem dueOf_facts (row : Key → List Str) (hrow : ∀ x, (row x).Nodup ∧ (row x).length ≤ 9) : ∀ n (ks : List Key), ks.length = n → (dueOf row ks).Nodup ∧ (∀ q, q ∈ dueOf row ks ↔ ∃ x ∈ ks, q ∈ row x) ∧ (dueOf row ks).length ≤ 9 * n
  | 0, ks, h => by
    have : ks = [] := List.length_eq_zero_iff.mp h
    subst this
    unfold dueOf
    simp
  | n + 1, ks, h => by
    have hne : ks ≠ [] := fun z => by subst z; simp at h
    have e := List.dropLast_concat_getLast hne
    generalize ks.dropLast = k0, ks.getLast hne = x at e
    subst e
    have hl : k0.length = n := by simpa using h
    obtain ⟨a, b, c⟩ := dueOf_facts row hrow n k0 hl
    rw [dueOf_snoc]
    refine ⟨List.nodup_append.mpr ⟨a, (hrow x).1.filter _, fun q hq q' hq' z => ?_⟩, fun q => ?_, ?_⟩
    · subst z
      have := (List.mem_filter.mp hq').2
      simp [hq] at this
    · rw [List.mem_append, List.mem_filter]
      constructor
      · rintro (hq | ⟨h, _⟩)
        · obtain ⟨y, hy, h⟩ := (b q).mp hq
          exact ⟨y, List.mem_append_left _ hy, h⟩
        · exact ⟨x, by simp, h⟩
      · rintro ⟨y, hy, hq⟩
        rcases List.mem_append.mp hy with hy | hy
        · exact .inl ((b q).mpr ⟨y, hy, hq⟩)
        · have : y = x := by simpa using hy
          subst this
          by_cases c : q ∈ dueOf row k0
          · exact .inl c
          · exact .inr ⟨hq, by simp [c]⟩
    · rw [List.length_append]
      have h1 := (hrow x).2
      have h2 := List.length_filter_le (fun q => !decide (q ∈ dueOf row k0)) (row x)
      omega
theorem ints_of {n : Nat} : ∀ L : List Key, (∀ x ∈ L, x ∈ ksN n) → ∃ Is : List Nat, L = Is.map (fun (i : Nat) => (Sum.inl (i : Int) : Key)) ∧ ∀ i ∈ Is, i < n
  | [], _ => ⟨[], rfl, by simp⟩
  | x :: r, h => by
    obtain ⟨Is, e, hI⟩ := ints_of r fun y hy => h y (List.mem_cons_of_mem _ hy)
    obtain ⟨i, hi, ex⟩ := ksN_mem (h x List.mem_cons_self)
    exact ⟨i :: Is, by rw [e, ex]; rfl, fun j hj => by rcases List.mem_cons.mp hj with rfl | hj; exact hi; exact hI j hj⟩
theorem nodup_take_not {α : Type} [DecidableEq α] {l : List α} (nd : l.Nodup) {i : Nat} {x : α} (h : l[i]? = some x) : x ∉ l.take i := fun q => by
  have hi := (List.getElem?_eq_some_iff.mp h).1
  have h4 := List.take_append_drop i l
  rw [List.drop_eq_getElem_cons hi, (List.getElem?_eq_some_iff.mp h).2] at h4
  rw [← h4] at nd
  exact (List.nodup_append.mp nd).2.2 _ q _ List.mem_cons_self rfl
theorem nodup_len_eq {α : Type} [DecidableEq α] {a b : List α} (ha : a.Nodup) (hb : b.Nodup) (h : ∀ x, x ∈ a ↔ x ∈ b) : a.length = b.length :=
  ((List.perm_ext_iff_of_nodup ha hb).mpr h).length_eq
theorem nodup_sub_len {α : Type} [DecidableEq α] : ∀ {a b : List α}, a.Nodup → a ⊆ b → a.length ≤ b.length
  | [], _, _, _ => Nat.zero_le _
  | x :: r, b, ha, h => by
    have h1 := List.nodup_cons.mp ha
    have hx : x ∈ b := h List.mem_cons_self
    have h2 := nodup_sub_len (b := b.erase x) h1.2 fun y hy => (List.mem_erase_of_ne (fun z : y = x => h1.1 (by rw [← z]; exact hy))).mpr (h (List.mem_cons_of_mem _ hy))
    rw [List.length_erase_of_mem hx] at h2
    have h3 := List.length_pos_of_mem hx
    simp only [List.length_cons]
    omega
theorem flat_ints (l : List Nat) : (l.map fun (i : Nat) => V.int (i : Int)).all flatV = true := by
  induction l with
  | nil => rfl
  | cons a r ih => rw [List.map_cons, List.all_cons, ih]; rfl
theorem inV_nat (a : Nat) (l : List Nat) : inV (.int (a : Int)) (l.map fun (i : Nat) => V.int (i : Int)) = decide (a ∈ l) := by
  unfold inV
  induction l with
  | nil => rfl
  | cons b r ih =>
    rw [List.map_cons, List.any_cons, ih]
    have e : eqV (.int (b : Int)) (.int (a : Int)) = decide ((b : Int) = (a : Int)) := by
      first
      | rfl
      | (simp [eqV]; done)
      | (unfold eqV; simp)
    rw [e]
    by_cases c : b = a
    · subst c; simp
    · have h1 : ¬ a = b := fun z => c z.symm
      have h2 : ¬ (b : Int) = (a : Int) := by omega
      simp [h1, h2]
theorem el_listDH {σ : L2.St} {H : Hp} {te : TE} {a : Addr} {kvs : List (Key × V)} (h : Ev te σ H (.ref a)) (hd : Rd H a (.dK kvs)) : EvL (tCB (fun xs H Q => ∃ (a : Addr) (kvs : List (Key × V)), xs = [.ref a] ∧ Rd H a (.dK kvs) ∧ ∀ p, H p = none → Q (.ref p) (upd H p (.lst (kvs.map fun kv => kV kv.1)))) (tCons te tNil)) σ H (kvs.map fun kv => kV kv.1) := fun H1 e Q q =>
  h H1 e _ fun H2 e2 => ⟨a, kvs, rfl, ex_rd (e.trans e2) hd, fun p hp => q p _ (fresh_back e2 hp) (e2.trans (Ex.new hp)) upd_same⟩
theorem ev_lkH {K : PySem.W.Frag} {σ : L2.St} {H : Hp} {ta : TA} {E : L2.St → XK} {x y : Key} (h : EvA ta σ H [kV x, kV y]) : Ev (tCallS (spLike K) E ta) σ H (.bl (likeK x y)) := fun H1 e Q q =>
  h H1 e _ fun H2 e2 => ⟨x, y, rfl, fun H3 e3 => q H3 (e2.trans e3)⟩
section
variable {P : Program} {w : World} {K : PySem.W.Frag} {mg : Str → Option Value} {base : Heap}
theorem sc_l_few : FnScope ["_law_paper", "_law_rows_here", "_law_lefts", "_law_rights", "_law_due", "_law_k", "_law_right"] ["_law_paper", "_law_rows_here"] (defScope s_l_few) := ⟨rfl, rfl, rfl, by decide +kernel, rfl, by decide +kernel, by decide +kernel⟩
def spFew (K : PySem.W.Frag) : Sp := fun vs H Q _ => ∃ (t d l r : Addr) (L : List Key) (R : List Str) (as : List Addr) (F : List (List Str)), vs = [.ref t, .ref d] ∧ H t = some (.tup [.ref l, .ref r]) ∧ H d = some (.dK (enumD (as.map V.ref))) ∧ ListsAt H as F ∧
  H l = some (.lst (L.map kV)) ∧ H r = some (.lst (R.map V.str)) ∧ L.Nodup ∧ (∀ x ∈ L, x ∈ ksN F.length) ∧ R.Nodup ∧ (∀ q, q ∈ R ↔ ∃ x ∈ L, q ∈ fitK F x) ∧ R.length < L.length ∧ (∀ f ∈ F, f.Nodup ∧ f.length ≤ 9) ∧ F.length ≤ 40 ∧ RetV (.bl true) H Q
theorem k_l_few (T : Tx K mg) : FnH P w K mg base CX0 2 T.f_l_few T.fd_l_few ["_law_paper", "_law_rows_here"] (spFew K) := by
  have G_l_like := k_l_like (P := P) (w := w) (base := base) T
  refine fn_okH T.d_l_few.F sc_l_few (fun vs H Q E h => ?_) (fun cdv A outer s H vs Q E p hot hr h => ?_)
  · obtain ⟨t, d, l, r, L, R, as, F, rfl, _⟩ := h
    rfl
  obtain ⟨t, d, l, r, L, R, as, F, rfl, ht, hd, hF, hl, hr', ndL, hLk, ndR, hR, hlt, hrow, hfew, k⟩ := h
  have hu := hu_ofH hr
  have hcH : ∀ X : Cx, X.A = (A.deeper (envOfC "_law_few" (defScope s_l_few) s.heap.objs.size T.f_l_few cdv)) → X.pn = [p] → HotC X := fun X h1 h2 => ⟨p, by rw [h1]; exact hot, by rw [h2]; exact List.mem_cons_self⟩
  refine ⟨_, PSs.nox (pss_cons (ps_asg (pv 0) (pg_tupH (hcH _ rfl rfl) (pgs_cons (pg_name (i := 2) sc_l_few.nd rfl (Or.inl rfl)) (pgs_cons (pg_name (i := 3) sc_l_few.nd rfl (Or.inl rfl)) pgs_nil))))
    (pss_cons (ps_if (PW.pt (pw_or (pt_not (pt_val (pe_callB call_isi (by rfl) T.B.isi (by decide +kernel) (pa_cons (pv 2) (pa_cons (pe_bltn (v := .ty "list") (by rfl) T.B.list (by decide +kernel) rfl) pa_nil))))) (pw_or (pt_not (pt_val (pe_callB call_isi (by rfl) T.B.isi (by decide +kernel) (pa_cons (pv 3) (pa_cons (pe_bltn (v := .ty "list") (by rfl) T.B.list (by decide +kernel) rfl) pa_nil))))) (pw_or1 (pt_cmpR op_ge (pe_callB call_len_seq (by rfl) T.B.len PySem.boot_len (pa_cons (pv 3) pa_nil)) (pe_callB call_len_seq (by rfl) T.B.len PySem.boot_len (pa_cons (pv 2) pa_nil)) (nomark _))))))
      (pss_one (ps_ret pe_bl))
      pss_nil)
    (pss_cons (ps_set (i := 4) sc_l_few.nd rfl (Or.inr rfl) (pe_lst pa_nil))
    (pss_cons (ps_forH PassesOwn.never (hcH _ rfl rfl) (pi_range1H (by rfl) T.B.range (pa_cons (pe_callB call_len_seq (by rfl) T.B.len PySem.boot_len (pa_cons (pv 2) pa_nil)) pa_nil)) (pg_name (i := 5) sc_l_few.nd rfl (Or.inl rfl))
      (pss_cons (ps_if (PW.pt (pw_or (pt_cmp (pc_dnotin hu (pe_ix ix_list (pv 2) (pv 5) (fun _ _ => rfl)) (pv 1))) (pw_or1 (pt_cmpR op_in_seq (pe_ix ix_list (pv 2) (pv 5) (fun _ _ => rfl)) (pe_slice sl_list (pv 2) po_none (po_some (pv 5))) (by rfl)))))
        (pss_one (ps_ret pe_bl))
        pss_nil)
      (pss_cons (ps_if (pt_not (pt_val (pe_callH (E := fun _ _ _ _ => False) G_l_like (hr.mono (by decide)) (hcH _ rfl rfl) rfl T.d_l_like.g T.d_l_like.F.kp T.d_l_like.b pass0H (pa_cons (pe_ix ix_list (pv 2) (pv 5) (fun _ _ => rfl)) (pa_cons (pe_ix ix_list (pe_callTy (call_listDH (hcH _ rfl rfl)) (by rfl) T.B.list (by decide +kernel) (pa_cons (pv 1) pa_nil)) pe_int (fun _ _ => rfl)) pa_nil)))))
        (pss_one (ps_ret pe_bl))
        pss_nil)
      (pss_one (ps_set (i := 4) sc_l_few.nd rfl (Or.inr rfl) (pe_op op_cat (pv 4) (pe_lcH (own := [("_law_right", 6)]) (g := gName 6) (hcH _ rfl rfl) sc_l_few.nd (pi_listL (hcH _ rfl rfl) (pe_dget hu (pv 1) (pe_ix ix_list (pv 2) (pv 5) (fun _ _ => rfl)) (fun _ _ => rfl))) (blkOk_by (own := [("_law_right", 6)]) (N := ["_law_paper", "_law_rows_here", "_law_lefts", "_law_rights", "_law_due", "_law_k", "_law_right"]) (sc := defScope s_l_few) (by decide +kernel)) (fun _ _ _ _ _ => pg_name (i := 6) sc_l_few.nd rfl (Or.inl rfl)) (fun _ _ _ _ _ => (pts_one (pt_cmpR (op_notIn_seqK (K := K) rfl) (pv 6) (pv 4) (by rfl)))) (fun _ _ _ _ _ => (pv 6)))))))))
    (pss_cons (ps_forH PassesOwn.never (hcH _ rfl rfl) (pi_range1H (by rfl) T.B.range (pa_cons (pe_callB call_len_seq (by rfl) T.B.len PySem.boot_len (pa_cons (pv 3) pa_nil)) pa_nil)) (pg_name (i := 5) sc_l_few.nd rfl (Or.inl rfl))
      (pss_one (ps_if (PW.pt (pw_or (pt_cmpR op_notIn_seq (pe_ix ix_list (pv 3) (pv 5) (fun _ _ => rfl)) (pv 4) (by rfl)) (pw_or (pt_cmpR op_in_seq (pe_ix ix_list (pv 3) (pv 5) (fun _ _ => rfl)) (pe_slice sl_list (pv 3) po_none (po_some (pv 5))) (by rfl)) (pw_or1 (pt_not (pt_val (pe_callH (E := fun _ _ _ _ => False) G_l_like (hr.mono (by decide)) (hcH _ rfl rfl) rfl T.d_l_like.g T.d_l_like.F.kp T.d_l_like.b pass0H (pa_cons (pe_ix ix_list (pv 3) (pv 5) (fun _ _ => rfl)) (pa_cons (pe_ix ix_list (pv 4) pe_int (fun _ _ => rfl)) pa_nil)))))))))
        (pss_one (ps_ret pe_bl))
        pss_nil)))
    (pss_one (ps_ret (pe_cmpR op_eq (pe_callB call_len_seq (by rfl) T.B.len PySem.boot_len (pa_cons (pv 3) pa_nil)) (pe_lenSetH (hcH _ rfl rfl) (by rfl) T.B.len (by rfl) T.B.set (pv 4)) (nomark _))))))))), ?_⟩
  obtain ⟨Is, rfl, hIs⟩ := ints_of L hLk
  have hal : as.length = F.length := Paired.length hF
  have el : (Is.map (fun (i : Nat) => (Sum.inl (i : Int) : Key))).map kV = Is.map fun (i : Nat) => V.int (i : Int) := by rw [List.map_map]; rfl
  rw [el] at hl
  have hll : (Is.map (fun (i : Nat) => (Sum.inl (i : Int) : Key))).length = Is.length := List.length_map _
  rw [hll] at hlt
  have ndI : Is.Nodup := by
    refine List.Pairwise.imp_of_mem ?_ (List.pairwise_map.mp ndL)
    intro a b _ _ h e
    exact h (by rw [e])
  have hIl : Is.length ≤ F.length := by
    have h2 : Is ⊆ List.range F.length := fun i hi => List.mem_range.mpr (hIs i hi)
    have := nodup_sub_len ndI h2
    rwa [List.length_range] at this
  have hfit : ∀ x, (fitK F x).Nodup ∧ (fitK F x).length ≤ 9 := fun x => by
    cases x with
    | inr y => exact ⟨List.nodup_nil, Nat.zero_le _⟩
    | inl i =>
      show (F.getD i.toNat []).Nodup ∧ _
      rw [List.getD_eq_getElem?_getD]
      by_cases c : i.toNat < F.length
      · show _ ∧ (F.getD i.toNat []).length ≤ 9
        rw [List.getD_eq_getElem?_getD, List.getElem?_eq_getElem c]
        exact hrow _ (List.getElem_mem c)
      · show _ ∧ (F.getD i.toNat []).length ≤ 9
        rw [List.getD_eq_getElem?_getD, List.getElem?_eq_none (by omega)]
        exact ⟨List.nodup_nil, Nat.zero_le _⟩
  have due := fun ks => dueOf_facts (fitK F) hfit ks.length ks rfl
  generalize hks : Is.map (fun (i : Nat) => (Sum.inl (i : Int) : Key)) = ks at *
  refine ⟨_, rfl, t, _, rfl, st_of ht, rfl, _, _, rfl, _, _, rfl, rfl, ?_⟩
  refine q_when (b := false) (et_is (et_or (a := false) (b := false) (et_is (et_not (et_B (ev_isiL (ev_var rfl) hl))) rfl) (fun _ => et_is (et_or (a := false) (b := false) (et_is (et_not (et_B (ev_isiL (ev_var rfl) hr'))) rfl) (fun _ => et_is (et_test (ev_op (ev_len (ev_var rfl) (sq_of hr')) (ev_len (ev_var rfl) (sq_of hl)) rv_I0)) (by rw [List.length_map, List.length_map]; exact decide_eq_false (by omega)))) rfl)) rfl) (fun z => by cases z) (fun _ H1 e1 => ?_)
  refine q_asgL (el_lst ea_nil (by simp)) fun b0 H2 hb0 e2 h2 => ?_
  have e02 := e1.trans e2
  refine q_forR1 (n := (Is.length : Int)) (ea_cons (by have := ev_len (K := K) (σ := [some (V.ref t), some (.ref d), some (.ref l), some (.ref r), some (.ref b0), none, none]) (ta := tVar 2) (ev_var rfl) (sq_of (e02 _ _ hl)); rw [List.length_map] at this; exact this) ea_nil) (by omega)
    (fun i σ' H' => ∃ u v5 v6, σ' = [some (.ref t), some (.ref d), some (.ref l), some (.ref r), some (.ref u), v5, v6] ∧ Ex H H' ∧ H' u = some (.lst ((dueOf (fitK F) (ks.take i)).map V.str))) (fun H3 e3 => ⟨_, _, _, rfl, e02.trans e3, e3 _ _ h2⟩) ?_ ?_
  · rintro i σ' H' hi ⟨u, v5, v6, rfl, e, hu'⟩
    have hi' : i < Is.length := by omega
    obtain ⟨n, hn⟩ : ∃ n, Is[i]? = some n := ⟨Is[i], List.getElem?_eq_getElem hi'⟩
    have hnF := hIs n (List.mem_of_getElem? hn)
    obtain ⟨a, ha⟩ : ∃ a, as[n]? = some a := ⟨as[n], List.getElem?_eq_getElem (by omega)⟩
    obtain ⟨f, hf, haf⟩ := paired_get hF ha
    have hfk : fitK F (Sum.inl (n : Int)) = f := by
      show F.getD (n : Int).toNat [] = f
      rw [Int.toNat_natCast, List.getD_eq_getElem?_getD, hf]; rfl
    have hkn : ks[i]? = some (Sum.inl (n : Int)) := by rw [← hks, List.getElem?_map, hn]; rfl
    have tk : ks.take (i + 1) = ks.take i ++ [Sum.inl (n : Int)] := by rw [List.take_add_one, hkn]; rfl
    have lefE : ∀ {σ : L2.St} {H9 : Hp}, Ex H H9 → σ[2]? = some (some (.ref l)) → σ[5]? = some (some (.int (i : Int))) → Ev (tOp (rIxL K) (tVar 2) (tVar 5)) σ H9 (.int (n : Int)) := fun e9 h0 h3 => ev_op (ev_var h0) (ev_var h3) (rv_ixL (sq_of (e9 _ _ hl)) (atI_nat (by rw [List.getElem?_map, hn]; rfl)))
    have dE : ∀ {H9 : Hp}, Ex H H9 → DGet H9 d (.int (n : Int)) (some (.ref a)) := fun {H9} e9 => by
      have h9 := dget_rd (H := H9) (a := d) (k := (Sum.inl (n : Int) : Key)) (.inl (e9 _ _ hd))
      rw [enumD_val (v := .ref a) (by rw [List.getElem?_map, ha]; rfl)] at h9
      exact h9
    have slE : ∀ {σ : L2.St} {H9 : Hp}, Ex H H9 → σ[2]? = some (some (.ref l)) → σ[5]? = some (some (.int (i : Int))) → EvL (tSl (rSlL K) (tVar 2) tNoPart (tPart (tVar 5))) σ H9 ((Is.take i).map fun (i : Nat) => V.int (i : Int)) := fun {σ H9} e9 h0 h3 => by
      have := el_sl (K := K) (te := tVar 2) (ev_var h0) eo_none (eo_some (ev_var h3)) (sq_of (e9 _ _ hl))
      rw [cutV_to (by rw [List.length_map]; omega), ← List.map_take] at this
      exact this
    refine q_when (b := false) (et_is (et_or (a := false) (b := false) (et_is (et_B (ev_dnotin (lefE e rfl rfl) (ev_var rfl) (dE e))) rfl) (fun _ => et_is (et_test (ev_opL (xs := (Is.take i).map fun (i : Nat) => V.int (i : Int)) (lefE e rfl rfl) (slE e rfl rfl) fun q H3 hq e3 => rv_isL (x := .int (n : Int)) (sq_of hq) rfl (flat_ints _))) (by rw [inV_nat]; exact decide_eq_false (nodup_take_not ndI hn)))) rfl) (fun z => by cases z) (fun _ H3 e3 => ?_)
    have e03 := e.trans e3
    have hpos : 0 < as.length := by omega
    obtain ⟨kv0, hk0⟩ : ∃ q, (enumD (as.map V.ref)).map (fun kv => kV kv.1) = V.int ((0 : Nat) : Int) :: q := by
      unfold enumD
      rw [List.map_map, List.length_map]
      obtain ⟨m, hm⟩ : ∃ m, as.length = m + 1 := ⟨as.length - 1, by omega⟩
      rw [hm, List.range_succ_eq_map, List.map_cons]
      exact ⟨_, rfl⟩
    refine q_when (b := false) (et_is (et_not (a := true) (et_B (ev_is (ev_lkH (x := Sum.inl (n : Int)) (y := Sum.inl ((0 : Nat) : Int)) (ea_cons (lefE e03 rfl rfl) (ea_cons (ev_opL1 (xs := (enumD (as.map V.ref)).map fun kv => kV kv.1) (el_listDH (ev_var rfl) (.inl (e03 _ _ hd))) (fun H4 e4 => ev_c) fun q H4 hq e4 => rv_ixL (sq_of hq) (by rw [hk0]; exact at_of (j := 0) rfl rfl)) ea_nil))) rfl))) rfl) (fun z => by cases z) (fun _ H4 e4 => ?_)
    have e04 := e03.trans e4
    refine s_asgL (xs := (dueOf (fitK F) (ks.take (i + 1))).map V.str) ?_ fun q H5 hq e5 h5 => ⟨q, _, _, rfl, e04.trans e5, h5⟩
    rw [tk, dueOf_snoc, List.map_append, hfk]
    have dl := (due (ks.take i)).2.2
    have tl : (ks.take i).length ≤ 40 := by rw [List.length_take, ← hks, List.length_map]; omega
    have fl := (hrow f (List.mem_of_getElem? hf)).2
    have hu4 := e4 _ _ (e3 _ _ hu')
    refine el_cat (ev_var rfl) hu4 (el_lcF (a := a) f V.str (fun q => !decide (q ∈ dueOf (fitK F) (ks.take i))) V.str (ev_dget (ev_var rfl) (lefE e04 rfl rfl) (dE e04)) (sq_of (e04 _ _ haf)) (by omega) (fun x => rfl) (fun x hx H5 e5 => ?_) (fun x hx H5 e5 _ => ev_var rfl)) (by
      rw [List.length_map, List.length_map]
      have := List.length_filter_le (fun q => !decide (q ∈ dueOf (fitK F) (ks.take i))) f
      omega)
    exact et_is (et_test (ev_op (ev_var rfl) (ev_var rfl) (rv_niL (x := .str x) (sq_of (e5 _ _ hu4)) rfl (flat_strs _)))) (by rw [inV_str])
  · rintro σ' H3 ⟨u, v5, v6, rfl, e, hu'⟩
    rw [Int.toNat_natCast, List.take_of_length_le (by rw [← hks, List.length_map]; omega)] at hu'
    obtain ⟨dnd, dmem, dlen⟩ := due ks
    have dR : ∀ q, q ∈ R ↔ q ∈ dueOf (fitK F) ks := fun q => (hR q).trans (dmem q).symm
    have kl : ks.length ≤ 40 := by rw [← hks, List.length_map]; omega
    have eRl : R.length = (dueOf (fitK F) ks).length := nodup_len_eq ndR dnd dR
    refine q_forR1 (n := (R.length : Int)) (ea_cons (by have := ev_len (K := K) (σ := [some (V.ref t), some (.ref d), some (.ref l), some (.ref r), some (.ref u), v5, v6]) (ta := tVar 3) (ev_var rfl) (sq_of (e _ _ hr')); rw [List.length_map] at this; exact this) ea_nil) (by omega)
      (fun i σ' H' => ∃ v5 v6, σ' = [some (.ref t), some (.ref d), some (.ref l), some (.ref r), some (.ref u), v5, v6] ∧ Ex H3 H') (fun H4 e4 => ⟨_, _, rfl, e4⟩) ?_ ?_
    · rintro i σ' H' hi ⟨v5, v6, rfl, e3⟩
      have e03 := e.trans e3
      have hi' : i < R.length := by omega
      obtain ⟨x, hx⟩ : ∃ x, R[i]? = some x := ⟨R[i], List.getElem?_eq_getElem hi'⟩
      have hxm := List.mem_of_getElem? hx
      obtain ⟨y, dr, hdue⟩ : ∃ y dr, dueOf (fitK F) ks = y :: dr := by
        cases hq : dueOf (fitK F) ks with
        | nil => rw [dR, hq] at hxm; cases hxm
        | cons y dr => exact ⟨y, dr, rfl⟩
      have rE : ∀ {σ : L2.St} {H9 : Hp}, Ex H H9 → σ[3]? = some (some (.ref r)) → σ[5]? = some (some (.int (i : Int))) → Ev (tOp (rIxL K) (tVar 3) (tVar 5)) σ H9 (.str x) := fun e9 h0 h3 => ev_op (ev_var h0) (ev_var h3) (rv_ixL (sq_of (e9 _ _ hr')) (atI_nat (by rw [List.getElem?_map, hx]; rfl)))
      have slE : ∀ {σ : L2.St} {H9 : Hp}, Ex H H9 → σ[3]? = some (some (.ref r)) → σ[5]? = some (some (.int (i : Int))) → EvL (tSl (rSlL K) (tVar 3) tNoPart (tPart (tVar 5))) σ H9 ((R.take i).map V.str) := fun {σ H9} e9 h0 h3 => by
        have := el_sl (K := K) (te := tVar 3) (ev_var h0) eo_none (eo_some (ev_var h3)) (sq_of (e9 _ _ hr'))
        rw [cutV_to (by rw [List.length_map]; omega), ← List.map_take] at this
        exact this
      refine s_when (b := false) (et_is (et_or (a := false) (b := false) (et_is (et_test (ev_op (rE e03 rfl rfl) (ev_var rfl) (rv_niL (x := .str x) (sq_of (e3 _ _ hu')) rfl (flat_strs _)))) (by rw [inV_str, decide_eq_true ((dR x).mp hxm)]; rfl)) (fun _ => et_is (et_or (a := false) (b := false) (et_is (et_test (ev_opL (xs := (R.take i).map V.str) (rE e03 rfl rfl) (slE e03 rfl rfl) fun q H4 hq e4 => rv_isL (x := .str x) (sq_of hq) rfl (flat_strs _))) (by rw [inV_str]; exact decide_eq_false (nodup_take_not ndR hx)))
        (fun _ => et_is (et_not (a := true) (et_B (ev_is (ev_lkH (x := Sum.inr x) (y := Sum.inr y) (ea_cons (rE e03 rfl rfl) (ea_cons (ev_op (ev_var rfl) ev_c (rv_ixL (sq_of (e3 _ _ hu')) (by rw [hdue]; exact at_of (j := 0) rfl rfl))) ea_nil))) rfl))) rfl)) rfl)) rfl) (fun z => by cases z) (fun _ H4 e4 => ⟨_, _, rfl, e3.trans e4⟩)
    · rintro σ' H4 ⟨v5, v6, rfl, e4⟩
      have e04 := e.trans e4
      refine s_ret (v := .bl true) (ev_is (ev_op (ev_len (ev_var rfl) (sq_of (e04 _ _ hr'))) (fun H5 e5 Q q => ⟨_, rfl, u, dueOf (fitK F) ks, rfl, sq_of (e5 _ _ (e4 _ _ hu')), dnd, by omega, q H5 (Ex.refl H5)⟩) (rv_eq rfl)) (by rw [List.length_map, eRl]; simp)) fun H5 e5 => k H5 (e04.trans e5)
end
end K49
/-! K49L12 -/
/-! given. -/
namespace K49
open PySem L2 Evl L2H PySem.Spec PyProof.Rows HotX
section
variable {P : Program} {w : World} {K : PySem.W.Frag} {mg : Str → Option Value} {base : Heap}
theorem sc_l_given : FnScope ["_law_table", "_law_home", "_law_blocks_here", "_law_cars_here", "_law_fit", "_law_told", "e", "_law_k"] ["_law_table", "_law_home", "_law_blocks_here", "_law_cars_here", "_law_fit"] (defScope s_l_given) := ⟨rfl, rfl, rfl, by decide +kernel, rfl, by decide +kernel, by decide +kernel⟩
def spGiven (CT CR : Addr) (K : PySem.W.Frag) : Sp := fun vs H Q _ => ∃ (p bl cl fl : Addr) (o : Office) (home : Str) (rows : List (List Trip)) (cs : List Car), vs = [.ref p, .str home, .ref bl, .ref cl, .ref fl] ∧ o.Ok ∧ TableAt CT CR H p o ∧ home ∈ o.ps ∧ LL H bl (rows.map nms) ∧ (∀ r ∈ rows, RowOk o r) ∧ (∀ r ∈ rows, r.length ≤ 1000) ∧ rows.length ≤ 40 ∧ CarsAt H cl cs ∧ CarsIn cs ∧
  LL H fl (rows.map (fitRow o home cs)) ∧ (cs.map (·.1)).Nodup ∧ cs.length ≤ 9 ∧ RetV (.bl true) H Q
theorem roomHm {k : Nat} {A : Around} (r : Room k A) (h : Option Value) : RoomH k (A.mark h) := ⟨r.dp, r.un⟩
theorem xfC_of {C f : Addr} {fd : FuncData} {qual : Str} {st : Stmt} {ps : List Str} (x : Dx K mg C qual st ps f fd) : XfC K C := ⟨x.ga, x.gg, x.x.exC, x.hd⟩
theorem k_l_given (T : Tx K mg) : FnOk P w K mg base CX0 46 T.f_l_given T.fd_l_given ["_law_table", "_law_home", "_law_blocks_here", "_law_cars_here", "_law_fit"] (spGiven T.CT T.CR K) := by
  have G_give_cars := k_give_cars (P := P) (w := w) (base := base) T
  have G_l_few := k_l_few (P := P) (w := w) (base := base) T
  refine T.d_l_given.F.ok sc_l_given (fun vs H Q E h => ?_) (fun cdv A outer s H vs Q E hr h => ?_)
  · obtain ⟨p, bl, cl, fl, o, home, rows, cs, rfl, _⟩ := h
    rfl
  obtain ⟨p, bl, cl, fl, o, home, rows, cs, rfl, ok, hT, hh, hL, hrows, hlen, hfew, hC, hCi, hF, ndc, hcl, k⟩ := h
  have hu := hu_of hr
  have hcS : ∀ (X : Cx) (a : Addr) (oe : Obj) (cls : Value) (d : Option Addr), L2N.Zn cls d oe → (∃ vs, oe.data = .fields vs) → X.A.handled = some (.ref a) → (a, oe) ∈ X.pn → HotC X := fun X a oe cls d hz ⟨vs, hd⟩ h1 h2 => ⟨(a, oe), ⟨h1, vs, hd, hz.2.2 vs hd⟩, h2⟩
  refine ⟨_, PSs.nox (pss_cons (ps_set (i := 5) sc_l_given.nd rfl (Or.inl rfl) pe_non)
    (pss_cons (L2N.ps_try_as (i := 6) (c := .ref T.CF) (Wout := fun _ _ _ _ => False) (ts := fun a cls d => tRet (tCallS (spFew K) (fun _ _ _ _ => False) (tCons (tTup (tCons (tXf a cls d T.CF "lefts" (tVar 6)) (tCons (tXf a cls d T.CF "rights" (tVar 6)) tNil))) (tCons (tDictEnum K (tVar 4)) tNil)))) rfl rfl sc_l_given.nd rfl rfl ⟨by rfl, by decide, .inl T.X_finit.g⟩ (fun u s' ⟨_, _, _, _, _, _, _, _, _, _, _, _, _, _, _, _, w⟩ => w.elim) (fun W pn xe tk pass => pss_one (ps_set (i := 5) sc_l_given.nd rfl (Or.inl rfl) (pe_callS G_give_cars (hr.mono (by decide)) rfl T.d_give_cars.g T.d_give_cars.F.kp T.d_give_cars.b (fun σ => L2N.passAt tk σ) (pa_cons (pv 0) (pa_cons (pv 1) (pa_cons (pv 2) (pa_cons (pv 3) pa_nil)))))) ) (fun a oe cls d pn hz hf => pss_one (ps_ret (pe_callH (E := fun _ _ _ _ => False) G_l_few (roomHm (hr.mono (by decide)) _) (hcS _ a oe cls d hz hf rfl List.mem_cons_self) rfl T.d_l_few.g T.d_l_few.F.kp T.d_l_few.b pass0H (pa_cons (pe_tup (pa_cons (pe_xf (xfC_of T.X_finit) T.X_finit.nl hz.zc hf (pv 6)) (pa_cons (pe_xf (xfC_of T.X_finit) T.X_finit.nr hz.zc hf (pv 6)) pa_nil))) (pa_cons (pe_dictEnumH (hcS _ a oe cls d hz hf rfl List.mem_cons_self) (by rfl) T.B.dict (by rfl) T.B.enum (pv 4)) pa_nil))))))
    (pss_cons (ps_if (PW.pt (pw_or (pt_not (pt_val (pe_callB call_isi (by rfl) T.B.isi (by decide +kernel) (pa_cons (pv 5) (pa_cons (pe_bltn (v := .ty "list") (by rfl) T.B.list (by decide +kernel) rfl) pa_nil))))) (pw_or1 (pt_cmpR op_ne (pe_callB call_len_seq (by rfl) T.B.len PySem.boot_len (pa_cons (pv 5) pa_nil)) (pe_callB call_len_seq (by rfl) T.B.len PySem.boot_len (pa_cons (pv 4) pa_nil)) (nomark _)))))
      (pss_one (ps_ret pe_bl))
      pss_nil)
    (pss_cons (ps_for PassesOwn.never rfl (pi_range1 (by rfl) T.B.range (pa_cons (pe_callB call_len_seq (by rfl) T.B.len PySem.boot_len (pa_cons (pv 5) pa_nil)) pa_nil)) (pg_name (i := 7) sc_l_given.nd rfl (Or.inl rfl))
      (pss_one (ps_if (PW.pt (pw_or (pt_cmpR op_notIn_seq (pe_ix ix_list (pv 5) (pv 7) (fun _ _ => rfl)) (pe_ix ix_list (pv 4) (pv 7) (fun _ _ => rfl)) (by rfl)) (pw_or1 (pt_cmpR op_in_seq (pe_ix ix_list (pv 5) (pv 7) (fun _ _ => rfl)) (pe_slice sl_list (pv 5) po_none (po_some (pv 7))) (by rfl)))))
        (pss_one (ps_ret pe_bl))
        pss_nil)))
    (pss_one (ps_ret pe_bl)))))), ?_⟩
  generalize hFF : rows.map (fitRow o home cs) = F at *
  have hFl : F.length = rows.length := by rw [← hFF, List.length_map]
  have hrowF : ∀ f ∈ F, f.Nodup ∧ f.length ≤ 9 := fun f hf => by
    rw [← hFF] at hf
    obtain ⟨r, _, rfl⟩ := List.mem_map.mp hf
    unfold fitRow
    refine ⟨List.Nodup.sublist (List.Sublist.map _ List.filter_sublist) ndc, ?_⟩
    rw [List.length_map]
    exact Nat.le_trans (List.length_filter_le _ _) hcl
  obtain ⟨as, hF1, hF2⟩ := hF
  have hal : as.length = F.length := Paired.length hF2
  refine q_asg (v := .non) ev_c fun H1 e1 => ?_
  refine ⟨_, rfl, _, rfl, _, rfl, _, rfl, p, bl, cl, o, home, rows, cs, rfl, ok, hT.ex' e1, hh, hL.mono (exr e1), hrows, hlen, hfew, (by obtain ⟨zs, z1, z2⟩ := hC; exact ⟨zs, e1 _ _ z1, Paired.mapP z2 fun _ _ h => e1 _ _ h⟩), hCi, fun v H2 e2 hv => ?_, fun dx H2 e2 hfw => ?_⟩
  · rw [hFF] at hv
    obtain ⟨p', gs, rfl, hp', hgl, hgn, hgm⟩ := hv
    have e02 := e1.trans e2
    refine q_when (b := false) (et_is (et_or (a := false) (b := false) (et_is (et_not (et_B (ev_isiL (ev_var rfl) hp'))) rfl) (fun _ => et_is (et_test (ev_op (ev_len (ev_var rfl) (sq_of hp')) (ev_len (ev_var rfl) (sq_of (e02 _ _ hF1))) (rv_ne rfl))) (by rw [List.length_map, List.length_map, hgl, hal]; simp))) rfl) (fun z => by cases z) (fun _ H3 e3 => ?_)
    have e03 := e02.trans e3
    refine q_forR1 (n := (gs.length : Int)) (ea_cons (by have := ev_len (K := K) (σ := [some (V.ref p), some (.str home), some (.ref bl), some (.ref cl), some (.ref fl), some (.ref p'), none, none]) (ta := tVar 5) (ev_var rfl) (sq_of (e3 _ _ hp')); rw [List.length_map] at this; exact this) ea_nil) (by omega)
      (fun i σ' H' => ∃ v6 v7, σ' = [some (.ref p), some (.str home), some (.ref bl), some (.ref cl), some (.ref fl), some (.ref p'), v6, v7] ∧ Ex H3 H') (fun H4 e4 => ⟨_, _, rfl, e4⟩) ?_ ?_
    · rintro i σ' H' hi ⟨v6, v7, rfl, e4⟩
      have e04 := e03.trans e4
      have hi' : i < gs.length := by omega
      obtain ⟨g, hg⟩ : ∃ g, gs[i]? = some g := ⟨gs[i], List.getElem?_eq_getElem hi'⟩
      obtain ⟨a, ha⟩ : ∃ a, as[i]? = some a := ⟨as[i], List.getElem?_eq_getElem (by omega)⟩
      obtain ⟨f, hf, haf⟩ := paired_get hF2 ha
      have hgf := hgm i g f hg hf
      have pE : ∀ {σ : L2.St} {H9 : Hp}, Ex H3 H9 → σ[5]? = some (some (.ref p')) → σ[7]? = some (some (.int (i : Int))) → Ev (tOp (rIxL K) (tVar 5) (tVar 7)) σ H9 (.str g) := fun e9 h0 h3 => ev_op (ev_var h0) (ev_var h3) (rv_ixL (sq_of (e9 _ _ (e3 _ _ hp'))) (atI_nat (by rw [List.getElem?_map, hg]; rfl)))
      have slE : ∀ {σ : L2.St} {H9 : Hp}, Ex H3 H9 → σ[5]? = some (some (.ref p')) → σ[7]? = some (some (.int (i : Int))) → EvL (tSl (rSlL K) (tVar 5) tNoPart (tPart (tVar 7))) σ H9 ((gs.take i).map V.str) := fun {σ H9} e9 h0 h3 => by
        have := el_sl (K := K) (te := tVar 5) (ev_var h0) eo_none (eo_some (ev_var h3)) (sq_of (e9 _ _ (e3 _ _ hp')))
        rw [cutV_to (by rw [List.length_map]; omega), ← List.map_take] at this
        exact this
      refine s_when (b := false) (et_is (et_or (a := false) (b := false) (et_is (et_test (ev_op (pE e4 rfl rfl) (ev_op (ev_var rfl) (ev_var rfl) (rv_ixL (sq_of (e04 _ _ hF1)) (atI_nat (by rw [List.getElem?_map, ha]; rfl)))) (rv_niL (x := .str g) (sq_of (e04 _ _ haf)) rfl (flat_strs _)))) (by rw [inV_str, decide_eq_true hgf]; rfl)) (fun _ => et_is (et_test (ev_opL (xs := (gs.take i).map V.str) (pE e4 rfl rfl) (slE e4 rfl rfl) fun q H5 hq e5 => rv_isL (x := .str g) (sq_of hq) rfl (flat_strs _))) (by rw [inV_str]; exact decide_eq_false (nodup_take_not hgn hg)))) rfl) (fun z => by cases z) (fun _ H5 e5 => ⟨_, _, rfl, e4.trans e5⟩)
    · rintro σ' H4 ⟨v6, v7, rfl, e4⟩
      exact s_ret ev_c fun H5 e5 => k H5 ((e03.trans e4).trans e5)
  · rw [hFF, ← hFl] at hfw
    obtain ⟨l, r, L, R, hx, hl, hr', ndL, hLk, ndR, hR, hlt⟩ := hfw.ex
    have e02 := e1.trans e2
    refine ⟨true, T.X_finit.te, fun _ a ha => ?_, fun z => by cases z⟩
    refine ⟨_, rfl, rfl, rfl, dx, _, .ref l, rfl, hx, rfl, _, rfl, rfl, rfl, dx, _, .ref r, rfl, hx, rfl, sz_of (by simp), fun t ht => ?_⟩
    have e23 := Ex.new (o := .tup [.ref l, .ref r]) ht
    have e03 := e02.trans e23
    refine ⟨_, rfl, fl, as.map V.ref, rfl, sq_of (e03 _ _ hF1), fun d hd => ?_⟩
    have e34 := Ex.new (o := .dK (enumD (as.map V.ref))) hd
    have e24 := e23.trans e34
    exact ⟨t, d, l, r, L, R, as, F, rfl, e34 _ _ upd_same, upd_same, hF2.mono (exr (e03.trans e34)), e24 _ _ hl, e24 _ _ hr', ndL, hLk, ndR, hR, hlt, hrowF, by omega, fun H5 e5 => k H5 ((e03.trans e34).trans e5)⟩
end
end K49
/-! K49V -/
/-! list(d.values()). -/
namespace L2
open PySem PySem.Spec PyProof.Rows K49
section
variable {X : Cx} {e : Expr} {td : TE} {apos cpos p pos : Pos}
def tLstVals (td : TE) : TE := fun σ H Q => td σ H fun x H1 => ∃ (d : Addr) (kvs : List (Key × V)), x = .ref d ∧ Rd H1 d (.dK kvs) ∧ ∀ q, H1 q = none → Q (.ref q) (upd H1 q (.lst (kvs.map fun kv => kv.2)))
theorem pe_listVals (hc : X.calm = true) (hg : Gl X "list") (hmg : X.mg "list" = none) (he : PE X e td) (hbase : attributeBase e "values" X.env (eval e X.env) = eval e X.env := by rfl) (hline : (apos.endLine == cpos.line) = true := by rfl)
    (na : starEach [.Call (.Attribute e "values" apos) [] [] cpos] X.env = (false, eval (.Call (.Attribute e "values" apos) [] [] cpos) X.env) :: starEach [] X.env := by rfl) :
    PE X (.Call (.Name "list" p) [.Call (.Attribute e "values" apos) [] [] cpos] [] pos) (tLstVals td) := by
  refine ⟨fun pins s σ H Q I h => ?_⟩
  refine Call_ (ld_blt I hg hmg (by decide +kernel : bootBuiltins "list" = some (.type "list")) (PyProof.Rows.callWith_type1 (args_cons ?_ na) na))
  refine wpAny_Call_method (T := "dict") (id := "dict.values") hbase rfl hline F.plainAttrs_dict F.slot_dict_values F.type_dict_values (thn (he.run pins s σ H _ I h) fun u s1 ⟨x, H1, I1, rx, d, kvs, ex, hd, q⟩ => ?_)
  subst ex
  obtain rfl : u = Value.ref d := rx
  obtain ⟨z, lo, vs, rel, dd⟩ := dk_rd I1.hok hd
  obtain ⟨ep, hat⟩ := dd.dictAt
  have hl : kvs.length = vs.length := rel.length
  refine ⟨dd.typeIs, dd.mapOf.noDict, ?_⟩
  have fin : wpAny (model X.prog X.w) X.A (spliced (backTo pos (starEach [] X.env))) (fun us s₂ => wpAny (model X.prog X.w) X.A (call (.type "list") (Value.ref s1.heap.objs.size :: us)) (EP X pins σ Q) X.xe s₂) X.xe { s1 with heap := s1.heap.push { cls := .type "dict_values", data := .fields #[.ref d] } } := by
    refine args_nil ?_
    refine PySem.W.kdl_call (PySem.W.kdl_values (knd := mixKind X.prog X.w) (kvs := vs) (ep := ep) (r := s1.heap.objs.size) (d := d)) (I1.ok.hd hc) ⟨⟨_, Heap.get?_push_size _ rfl, rfl, rfl⟩, hat.push _⟩ (by rw [← hl]; exact z) fun h' tk acc c' hk hD hacc => ?_
    have hv : Vals (kvs.map fun kv => kv.2) acc.toList := by
      refine K49.paired_of_at (by have h9 := hacc.1; rw [List.length_map, hl]; simpa using h9.symm) fun i a b ha hb => ?_
      rw [List.getElem?_map] at ha
      obtain ⟨kv, hkv, rfl⟩ := Option.map_eq_some_iff.mp ha
      obtain ⟨k, hk'⟩ := hacc.2 i b (by rw [← Array.getElem?_toList]; exact hb)
      obtain ⟨u, hu, ru⟩ := K49.paired_get rel hkv
      rw [hk'] at hu
      cases hu
      exact ru.2
    refine ⟨.ref _, upd H1 _ (.lst (kvs.map fun kv => kv.2)), I1.laid (t' := tk) (fun b o e => hk b o (Heap.get?_push_of_some _ e)) (by simp) 
      (show ObjOk X.prog X.w _ _ _ (.lst (kvs.map fun kv => kv.2)) from ⟨by rw [List.length_map]; exact z, acc.toList, c', hv, by rw [Array.toArray_toList]; exact hD⟩), rfl, q _ (I1.hok.fresh (by simp))⟩
  show wpAny _ _ (callWith cpos (.builtin "dict.values") [.ref d] [] []) _ X.xe s1
  exact method_meetsIn F.slot_dict_values F.entry_dict_values rfl (PySem.evalArgs_none ⟨rfl, dd.typeIs, F.args_dict_values_1 _, _, meets_dict_values (mixKind X.prog X.w) d lo, ⟨vs, dd⟩, fin⟩)
end
end L2
/-! K49P6 -/
/-! The plain law: the day that a script tells. -/
namespace K49
open PySem L2
def scaleOf (sc : List Int) : Int := [1, 40, 100000].getD (draw sc 3 3).toNat 1
def placesOf (sc : List Int) : List Str := (List.range (1 + draw sc 2 5).toNat).map fun (k : Nat) => nameOf sc 0 (k : Int)
theorem scale_in (sc : List Int) : 1 ≤ scaleOf sc ∧ scaleOf sc ≤ 100000 := by
  unfold scaleOf
  have h := draw_nn (sc := sc) (k := 3) (m := 3) (by omega)
  have : (draw sc 3 3).toNat = 0 ∨ (draw sc 3 3).toNat = 1 ∨ (draw sc 3 3).toNat = 2 := by omega
  rcases this with e | e | e <;> rw [e] <;> decide
theorem places_len (sc : List Int) : 0 < (placesOf sc).length ∧ (placesOf sc).length ≤ 5 := by
  unfold placesOf
  rw [List.length_map, List.length_range]
  have h := draw_nn (sc := sc) (k := 2) (m := 5) (by omega)
  omega
theorem names_nd (sc : List Int) (k : Int) {n : Nat} (h : n ≤ 35) : ((List.range n).map fun i : Nat => nameOf sc k i).Nodup := by
  refine List.pairwise_map.mpr (List.Pairwise.imp_of_mem ?_ List.nodup_range)
  intro a b ha hb hab e
  have h1 := List.mem_range.mp ha
  have h2 := List.mem_range.mp hb
  have := name_inj (by omega) (by omega) (by omega) (by omega) e
  omega
theorem places_nd (sc : List Int) : (placesOf sc).Nodup := by
  have h := draw_nn (sc := sc) (k := 2) (m := 5) (by omega)
  exact names_nd sc 0 (n := (1 + draw sc 2 5).toNat) (by omega)
theorem places_ok (sc : List Int) : ∀ a ∈ placesOf sc, NameOk a := fun a ha => by
  obtain ⟨k, hk, rfl⟩ := List.mem_map.mp ha
  have h := draw_nn (sc := sc) (k := 2) (m := 5) (by omega)
  have h1 := List.mem_range.mp hk
  exact name_ok (by omega) (by omega)
section
variable {sc : List Int} {ps : List Str} {scale : Int}
theorem plc_of {i : Nat} (h : i < ps.length) : plc ps i = ps[i] := by
  unfold plc
  rw [List.getD_eq_getElem?_getD, List.getElem?_eq_getElem h]; rfl
theorem ways_in (h0 : 0 < ps.length) (hs : 1 ≤ scale) : ∀ w ∈ waysOf sc ps scale, w.1 ∈ ps ∧ w.2.1 ∈ ps ∧ 1 ≤ w.2.2 ∧ w.2.2 ≤ 30 * scale := fun w hw => by
  unfold waysOf at hw
  rcases List.mem_append.mp hw with hw | hw
  · obtain ⟨k, hk, rfl⟩ := List.mem_map.mp hw
    have hk := List.mem_range.mp hk
    have hd := draw_nn (sc := sc) (k := 10 + k) (m := 30 * scale) (by omega)
    exact ⟨plc_mem hk, plc_mem (Nat.mod_lt _ h0), by show 1 ≤ 1 + _; omega, by show 1 + _ ≤ _; omega⟩
  · obtain ⟨k, hk, rfl⟩ := List.mem_map.mp hw
    have hd := draw_nn (sc := sc) (k := 30 + k) (m := 30 * scale) (by omega)
    have hp : (0 : Int) < (ps.length : Int) * ps.length := Int.mul_pos (by omega) (by omega)
    have hq := draw_nn (sc := sc) (k := 20 + k) (m := (ps.length : Int) * ps.length) hp
    have m1 : (draw sc (20 + k) (ps.length * ps.length) % ps.length).toNat < ps.length := by
      have := Int.emod_lt_of_pos (draw sc (20 + k) (ps.length * ps.length)) (b := ps.length) (by omega)
      have := Int.emod_nonneg (draw sc (20 + k) (ps.length * ps.length)) (b := ps.length) (by omega)
      omega
    have m2 : (draw sc (20 + k) (ps.length * ps.length) / ps.length).toNat < ps.length := by
      have := Int.ediv_lt_of_lt_mul (a := draw sc (20 + k) (ps.length * ps.length)) (b := ps.length) (c := ps.length) (by omega) hq.2
      omega
    exact ⟨plc_mem m1, plc_mem m2, by show 1 ≤ 1 + _; omega, by show 1 + _ ≤ _; omega⟩
theorem ways_len (h5 : ps.length ≤ 5) : (waysOf sc ps scale).length ≤ 13 := by
  unfold waysOf
  rw [List.length_append, List.length_map, List.length_map, List.length_range, List.length_range]
  have h := draw_nn (sc := sc) (k := 4) (m := 9) (by omega)
  omega
theorem far_bound (h0 : 0 < ps.length) (h5 : ps.length ≤ 5) (hs : 1 ≤ scale) {a b : Str} (ha : a ∈ ps) (hb : b ∈ ps) : far 1000000000 ps (waysOf sc ps scale) a b ≤ 120 * scale := by
  have W := ways_in (sc := sc) h0 hs
  obtain ⟨v, k, hv⟩ := ring_all (ps := ps) (ws := waysOf sc ps scale) (W := 30 * scale) (by omega) (fun k hk => by
    have hd := draw_nn (sc := sc) (k := 10 + k) (m := 30 * scale) (by omega)
    refine ⟨1 + draw sc (10 + k) (30 * scale), List.mem_append_left _ (List.mem_map.mpr ⟨k, List.mem_range.mpr hk, ?_⟩), by omega⟩
    unfold ringW
    rw [plc_of hk, plc_of (Nat.mod_lt _ h0)]) ha hb
  have h1 := far_le_walk (big := 1000000000) (by omega) (fun w hw => (W w hw).2.2.1) (fun w hw => (W w hw).1) k
  have h2 : ((ps.length - 1 : Nat) : Int) * (30 * scale) ≤ 4 * (30 * scale) := Int.mul_le_mul_of_nonneg_right (by omega) (by omega)
  omega
end
end K49
/-! K49P7 -/
/-! The plain law: the day's office. -/
namespace K49
open PySem L2
def waysS (sc : List Int) : List (Way Str) := waysOf sc (placesOf sc) (scaleOf sc)
def farS (sc : List Int) : Str → Str → Int := far 1000000000 (placesOf sc) (waysS sc)
def tripsS (sc : List Int) : List Trip := tripsOf sc (placesOf sc) (farS sc) (scaleOf sc)
def offS (sc : List Int) (ad : Str → Addr) : Office := ⟨placesOf sc, farS sc, tripsS sc, ad⟩
section
variable (sc : List Int)
theorem waysS_in : ∀ w ∈ waysS sc, w.1 ∈ placesOf sc ∧ w.2.1 ∈ placesOf sc ∧ 1 ≤ w.2.2 ∧ w.2.2 ≤ 30 * scaleOf sc := ways_in (places_len sc).1 (scale_in sc).1
theorem roads_in : RoadsIn (placesOf sc) (waysS sc) := by
  have W := waysS_in sc
  have hs := scale_in sc
  have hl := places_len sc
  exact ⟨places_ok sc, places_nd sc, by omega, by have := ways_len (sc := sc) (scale := scaleOf sc) hl.2; unfold waysS; omega, fun w hw => (W w hw).1, fun w hw => (W w hw).2.1, fun w hw => (W w hw).2.2.1, fun w hw => by have := (W w hw).2.2.2; omega⟩
theorem farS_le {a b : Str} (ha : a ∈ placesOf sc) (hb : b ∈ placesOf sc) : farS sc a b ≤ 120 * scaleOf sc := far_bound (places_len sc).1 (places_len sc).2 (scale_in sc).1 ha hb
theorem near_s : Near (placesOf sc) (waysS sc) := fun a ha b hb => by
  have h1 := farS_le sc ha hb
  have hs := scale_in sc
  unfold farS at h1
  omega
theorem farS_ok : TabOk 1000000000 (waysS sc) (farS sc) := far_ok (by omega) fun w hw => (waysS_in sc w hw).2.2.1
theorem farS_tri : ∀ a b c, c ∈ placesOf sc → farS sc a b ≤ farS sc a c + farS sc c b := far_tri (by omega) fun w hw => (waysS_in sc w hw).2.2.1
theorem trips_len : (tripsS sc).length ≤ 12 := by
  unfold tripsS tripsOf
  rw [List.length_map, List.length_range]
  have h := draw_nn (sc := sc) (k := 8) (m := 13) (by omega)
  omega
theorem trip_facts : ∀ t ∈ tripsS sc, NameOk t.name ∧ t.origin ∈ placesOf sc ∧ t.goal ∈ placesOf sc ∧ 150 * scaleOf sc ≤ t.start ∧ t.start < 750 * scaleOf sc ∧ t.start < t.finish ∧ t.finish ≤ 930 * scaleOf sc ∧ 0 ≤ t.seats ∧ t.seats ≤ 6 ∧ farS sc t.origin t.goal ≤ t.finish - t.start := fun t ht => by
  obtain ⟨k, hk, rfl⟩ := List.mem_map.mp ht
  have hk := List.mem_range.mp hk
  have h13 := draw_nn (sc := sc) (k := 8) (m := 13) (by omega)
  have hs := scale_in sc
  have hl := (places_len sc).1
  have d1 := draw_nn (sc := sc) (k := 40 + 4 * k) (m := (placesOf sc).length) (by omega)
  have d2 := draw_nn (sc := sc) (k := 41 + 4 * k) (m := (placesOf sc).length) (by omega)
  have d3 := draw_nn (sc := sc) (k := 42 + 4 * k) (m := 600 * scaleOf sc) (by omega)
  have d4 := draw_nn (sc := sc) (k := 43 + 4 * k) (m := 2) (by omega)
  have d5 := draw_nn (sc := sc) (k := 44 + 4 * k) (m := 60 * scaleOf sc) (by omega)
  have d6 := draw_nn (sc := sc) (k := 100 + k) (m := 7) (by omega)
  have p1 : plc (placesOf sc) (draw sc (40 + 4 * k) (placesOf sc).length).toNat ∈ placesOf sc := plc_mem (by omega)
  have p2 : plc (placesOf sc) (draw sc (41 + 4 * k) (placesOf sc).length).toNat ∈ placesOf sc := plc_mem (by omega)
  have hF := farS_le sc p1 p2
  have hF0 := (farS_ok sc).nn (plc (placesOf sc) (draw sc (40 + 4 * k) (placesOf sc).length).toNat) (plc (placesOf sc) (draw sc (41 + 4 * k) (placesOf sc).length).toNat)
  have hm : 0 ≤ draw sc (43 + 4 * k) 2 * draw sc (44 + 4 * k) (60 * scaleOf sc) ∧ draw sc (43 + 4 * k) 2 * draw sc (44 + 4 * k) (60 * scaleOf sc) ≤ 60 * scaleOf sc := by
    have : draw sc (43 + 4 * k) 2 = 0 ∨ draw sc (43 + 4 * k) 2 = 1 := by omega
    rcases this with e | e <;> rw [e] <;> omega
  refine ⟨name_ok (by omega) (by omega), p1, p2, ?_, ?_, ?_, ?_, ?_, ?_, ?_⟩
  all_goals simp only [tripOf]
  · omega
  · omega
  · unfold maxI; split <;> omega
  · unfold maxI; split <;> omega
  · omega
  · omega
  · unfold maxI; split <;> omega
theorem tripsS_nd : ((tripsS sc).map fun t => t.name).Nodup := by
  have h13 := draw_nn (sc := sc) (k := 8) (m := 13) (by omega)
  exact tripsOf_nd sc _ _ _ (by omega)
theorem trip_ok : ∀ t ∈ tripsS sc, TripOk (placesOf sc) (farS sc) t := fun t ht => by
  obtain ⟨h1, h2, h3, h4, h5, h6, h7, h8, h9, h10⟩ := trip_facts sc t ht
  have hs := scale_in sc
  exact ⟨h1, h2, h3, by omega, by omega, by omega, by omega, h8, by omega, h6, h10⟩
end
end K49
/-! K49P1 -/
/-! The plain law of chains: they part the names. -/
namespace K49
open PySem L2
section
variable {ns : List Str} {row : Str → List Str} {ow : List (Str × Key)} {fl : List Key} {D : Str → Prop} {cs : List (List Str)}
theorem ks_nd (O : Ord ns row) : (ns.map kS).Nodup := List.Pairwise.map kS (fun a b h e => h (kS_inj e)) O.nd
theorem ow_edge (O : Ord ns row) (h : Own (rowK row) (ns.map kS) ow fl D) {b : Str} {l : Key} (e : look ow b = some l) : ∃ a ∈ ns, l = kS a ∧ b ∈ row a ∧ b ∈ ns := by
  obtain ⟨a, ha, rfl⟩ := List.mem_map.mp (h.val_in e)
  have hb : b ∈ row a := h.edge b _ e
  exact ⟨a, ha, rfl, hb, O.sub a ha b hb⟩
theorem full_edge (O : Ord ns row) (h : Own (rowK row) (ns.map kS) ow fl D) {c : List Str} (F : Full (nxt ow) c) {i : Nat} {a b : Str} (ha : c[i]? = some a) (hb : c[i + 1]? = some b) : look ow b = some (kS a) ∧ b ∈ row a := by
  have e := nxt_edge h (F.st i a b ha hb)
  obtain ⟨a', _, e1, e2, _⟩ := ow_edge O h e
  rw [kS_inj e1]
  exact ⟨by rw [← kS_inj e1]; exact e, e2⟩
theorem head_of (hh : cs.map List.head? = (ns.filter fun n => !(look ow n).isSome).map some) {c : List Str} (hc : c ∈ cs) : ∃ a, c[0]? = some a ∧ a ∈ ns ∧ look ow a = none := by
  have : c.head? ∈ cs.map List.head? := List.mem_map.mpr ⟨c, hc, rfl⟩
  rw [hh] at this
  obtain ⟨a, ha, e⟩ := List.mem_map.mp this
  obtain ⟨h1, h2⟩ := List.mem_filter.mp ha
  refine ⟨a, by rw [← List.head?_eq_getElem?]; exact e.symm, h1, ?_⟩
  cases q : look ow a with
  | none => rfl
  | some x => rw [q] at h2; simp at h2
theorem head_at (hh : cs.map List.head? = (ns.filter fun n => !(look ow n).isSome).map some) {a : Str} (ha : a ∈ ns) (hl : look ow a = none) : ∃ c ∈ cs, c[0]? = some a := by
  have : some a ∈ (ns.filter fun n => !(look ow n).isSome).map some := List.mem_map.mpr ⟨a, List.mem_filter.mpr ⟨ha, by rw [hl]; rfl⟩, rfl⟩
  rw [← hh] at this
  obtain ⟨c, hc, e⟩ := List.mem_map.mp this
  exact ⟨c, hc, by rw [← List.head?_eq_getElem?]; exact e⟩
theorem in_ns (O : Ord ns row) (h : Own (rowK row) (ns.map kS) ow fl D) (hh : cs.map List.head? = (ns.filter fun n => !(look ow n).isSome).map some) {c : List Str} (hc : c ∈ cs) (F : Full (nxt ow) c) : ∀ (i : Nat) (a : Str), c[i]? = some a → a ∈ ns
  | 0, a, e => by
    obtain ⟨b, hb, h1, _⟩ := head_of hh hc
    rw [e] at hb; cases hb; exact h1
  | i + 1, a, e => by
    obtain ⟨b, hb⟩ : ∃ b, c[i]? = some b := ⟨c[i]'(by have := (List.getElem?_eq_some_iff.mp e).1; omega), List.getElem?_eq_getElem _⟩
    have := (full_edge O h F hb e).1
    obtain ⟨_, _, _, _, h5⟩ := ow_edge O h this
    exact h5
theorem same_at (O : Ord ns row) (h : Own (rowK row) (ns.map kS) ow fl D) (hh : cs.map List.head? = (ns.filter fun n => !(look ow n).isSome).map some) {c c' : List Str} (hc : c ∈ cs) (hc' : c' ∈ cs) (F : Full (nxt ow) c) (F' : Full (nxt ow) c') : ∀ (i j : Nat) (a : Str), c[i]? = some a → c'[j]? = some a → i = j ∧ c[0]? = c'[0]?
  | 0, 0, a, e, e' => ⟨rfl, e.trans e'.symm⟩
  | 0, j + 1, a, e, e' => by
    obtain ⟨b, hb, _, hn⟩ := head_of hh hc
    rw [e] at hb; cases hb
    obtain ⟨b, hb⟩ : ∃ b, c'[j]? = some b := ⟨c'[j]'(by have := (List.getElem?_eq_some_iff.mp e').1; omega), List.getElem?_eq_getElem _⟩
    rw [(full_edge O h F' hb e').1] at hn; cases hn
  | i + 1, 0, a, e, e' => by
    obtain ⟨b, hb, _, hn⟩ := head_of hh hc'
    rw [e'] at hb; cases hb
    obtain ⟨b, hb⟩ : ∃ b, c[i]? = some b := ⟨c[i]'(by have := (List.getElem?_eq_some_iff.mp e).1; omega), List.getElem?_eq_getElem _⟩
    rw [(full_edge O h F hb e).1] at hn; cases hn
  | i + 1, j + 1, a, e, e' => by
    obtain ⟨b, hb⟩ : ∃ b, c[i]? = some b := ⟨c[i]'(by have := (List.getElem?_eq_some_iff.mp e).1; omega), List.getElem?_eq_getElem _⟩
    obtain ⟨b', hb'⟩ : ∃ b, c'[j]? = some b := ⟨c'[j]'(by have := (List.getElem?_eq_some_iff.mp e').1; omega), List.getElem?_eq_getElem _⟩
    have h1 := (full_edge O h F hb e).1
    have h2 := (full_edge O h F' hb' e').1
    rw [h1] at h2
    have : b = b' := kS_inj (Option.some.inj h2)
    subst this
    obtain ⟨q1, q2⟩ := same_at O h hh hc hc' F F' i j b hb hb'
    exact ⟨by omega, q2⟩
theorem all_in (O : Ord ns row) (h : Own (rowK row) (ns.map kS) ow fl D) (hh : cs.map List.head? = (ns.filter fun n => !(look ow n).isSome).map some) (HF : ∀ c ∈ cs, Full (nxt ow) c) : ∀ (m : Nat) (a : Str), a ∈ ns → ns.length - (row a).length ≤ m → ∃ c ∈ cs, ∃ i : Nat, c[i]? = some a := by
  have hle : ∀ a ∈ ns, (row a).length ≤ ns.length := fun a ha => nodup_le' (O.rnd a ha) (O.sub a ha)
  intro m
  induction m with
  | zero =>
    intro a ha hm
    cases q : look ow a with
    | none => obtain ⟨c, hc, e⟩ := head_at hh ha q; exact ⟨c, hc, 0, e⟩
    | some l =>
      obtain ⟨b, hb, rfl, hab, _⟩ := ow_edge O h q
      have h1 := O.dec hb hab
      have h2 := hle b hb
      omega
  | succ m ih =>
    intro a ha hm
    cases q : look ow a with
    | none => obtain ⟨c, hc, e⟩ := head_at hh ha q; exact ⟨c, hc, 0, e⟩
    | some l =>
      obtain ⟨b, hb, rfl, hab, _⟩ := ow_edge O h q
      have h1 := O.dec hb hab
      have h2 := hle b hb
      obtain ⟨c, hc, i, e⟩ := ih b hb (by omega)
      have hn := nxt_of h (ks_nd O) q
      refine ⟨c, hc, i + 1, ?_⟩
      have hi := (List.getElem?_eq_some_iff.mp e).1
      by_cases c1 : i + 1 < c.length
      · have e2 := (HF c hc).st i b (c[i + 1]'c1) e (List.getElem?_eq_getElem c1)
        rw [hn] at e2
        rw [List.getElem?_eq_getElem c1]
        exact e2.symm
      · have e3 : c.getLast? = some b := by
          rw [List.getLast?_eq_getElem?, ← e]; congr 1; omega
        rw [(HF c hc).en b e3] at hn; cases hn
theorem chains_perm (O : Ord ns row) (h : Own (rowK row) (ns.map kS) ow fl D) (hh : cs.map List.head? = (ns.filter fun n => !(look ow n).isSome).map some) (HF : ∀ c ∈ cs, Full (nxt ow) c) : cs.flatten.Perm ns := by
  have hnd : cs.flatten.Nodup := by
    refine List.pairwise_flatten.mpr ⟨fun c hc => ?_, ?_⟩
    · refine List.pairwise_iff_getElem.mpr fun i j hi hj hij e => ?_
      have := (same_at O h hh hc hc (HF c hc) (HF c hc) i j c[i] (List.getElem?_eq_getElem hi) (by rw [List.getElem?_eq_getElem hj, e])).1
      omega
    · refine List.pairwise_iff_getElem.mpr fun i j hi hj hij x hx y hy e => ?_
      subst e
      obtain ⟨p, hp, ep⟩ := List.getElem_of_mem hx
      obtain ⟨q, hq, eq⟩ := List.getElem_of_mem hy
      have z := (same_at O h hh (List.getElem_mem hi) (List.getElem_mem hj) (HF _ (List.getElem_mem hi)) (HF _ (List.getElem_mem hj)) p q x (by rw [List.getElem?_eq_getElem hp, ep]) (by rw [List.getElem?_eq_getElem hq, eq])).2
      have nd2 : (cs.map List.head?).Nodup := by
        rw [hh]
        exact List.Pairwise.map some (fun a b h e => h (Option.some.inj e)) (O.nd.filter _)
      have := (List.pairwise_iff_getElem.mp nd2) i j (by rw [List.length_map]; exact hi) (by rw [List.length_map]; exact hj) hij
      rw [List.getElem_map, List.getElem_map, List.head?_eq_getElem?, List.head?_eq_getElem?] at this
      exact this z
  refine perm_of_mem hnd O.nd fun x => ⟨fun hx => ?_, fun hx => ?_⟩
  · obtain ⟨c, hc, hxc⟩ := List.mem_flatten.mp hx
    obtain ⟨i, hi, e⟩ := List.getElem_of_mem hxc
    exact in_ns O h hh hc (HF c hc) i x (by rw [List.getElem?_eq_getElem hi, e])
  · obtain ⟨c, hc, i, e⟩ := all_in O h hh HF _ x hx (Nat.le_refl _)
    exact List.mem_flatten.mpr ⟨c, hc, List.mem_of_getElem? e⟩
end
end K49
/-! K49P2 -/
/-! The plain law: as many chains as are apart. -/
namespace K49
open PySem L2
section
variable {ns : List Str} {row : Str → List Str} {ow : List (Str × Key)} {fl : List Key} {D : Str → Prop} {cs : List (List Str)}
theorem chains_len (O : Ord ns row) (h : Own (rowK row) (ns.map kS) ow fl D) (hh : cs.map List.head? = (ns.filter fun n => !(look ow n).isSome).map some) : cs.length = fl.length := by
  have e1 : cs.length = (ns.filter fun n => !(look ow n).isSome).length := by
    have := congrArg List.length hh
    rwa [List.length_map, List.length_map] at this
  have p1 : (keys ow).Perm (ns.filter fun n => (look ow n).isSome) := perm_of_mem h.nd (O.nd.filter _) fun x => by
    rw [List.mem_filter]
    constructor
    · intro hx
      have h1 := look_isSome.mpr hx
      refine ⟨?_, h1⟩
      obtain ⟨l, hl⟩ := Option.isSome_iff_exists.mp h1
      obtain ⟨_, _, _, _, h5⟩ := ow_edge O h hl
      exact h5
    · rintro ⟨_, h2⟩
      exact look_isSome.mp h2
  have l1 := p1.length_eq
  have l2 : (ns.filter fun n => (look ow n).isSome).length + (ns.filter fun n => !(look ow n).isSome).length = ns.length := by
    have := (List.filter_append_perm (fun n => (look ow n).isSome) ns).length_eq
    rw [List.length_append] at this
    exact this
  have l3 := h.part.length_eq
  rw [List.length_append, List.length_map, List.length_map] at l3
  have l4 : (keys ow).length = ow.length := by unfold keys; rw [List.length_map]
  omega
/-- an antichain has no more than there are chains -/
theorem anti_le (O : Ord ns row) (hp : cs.flatten.Perm ns) (hc : ∀ c ∈ cs, ∀ (i j : Nat) a b, i < j → c[i]? = some a → c[j]? = some b → b ∈ row a) {A : List Str} (nd : A.Nodup) (hA : ∀ a ∈ A, a ∈ ns) (ha : ∀ a ∈ A, ∀ b ∈ A, b ∉ row a) : A.length ≤ cs.length := by
  have ex : ∀ a ∈ A, ∃ k : Nat, k < cs.length ∧ a ∈ cs.getD k [] := fun a h => by
    obtain ⟨c, hc', hac⟩ := List.mem_flatten.mp (hp.mem_iff.mpr (hA a h))
    obtain ⟨k, hk, e⟩ := List.getElem_of_mem hc'
    exact ⟨k, hk, by rw [List.getD_eq_getElem?_getD, List.getElem?_eq_getElem hk, e]; exact hac⟩
  have ex2 : ∀ a : Str, ∃ k : Nat, a ∈ A → k < cs.length ∧ a ∈ cs.getD k [] := fun a => by
    by_cases h : a ∈ A
    · obtain ⟨k, h1⟩ := ex a h; exact ⟨k, fun _ => h1⟩
    · exact ⟨0, fun z => absurd z h⟩
  let f := fun a => Classical.choose (ex2 a)
  have hf : ∀ a ∈ A, f a < cs.length ∧ a ∈ cs.getD (f a) [] := fun a h => Classical.choose_spec (ex2 a) h
  have ndm : (A.map f).Nodup := by
    refine List.pairwise_map.mpr (List.Pairwise.imp_of_mem ?_ nd)
    intro a b ha' hb' hab e
    obtain ⟨k1, m1⟩ := hf a ha'
    obtain ⟨_, m2⟩ := hf b hb'
    have e' : f a = f b := e
    rw [← e'] at m2
    rw [List.getD_eq_getElem?_getD, List.getElem?_eq_getElem k1] at m1 m2
    obtain ⟨i, hi, ei⟩ := List.getElem_of_mem m1
    obtain ⟨j, hj, ej⟩ := List.getElem_of_mem m2
    have cm := List.getElem_mem k1
    rcases Nat.lt_trichotomy i j with q | q | q
    · exact ha a ha' b hb' (hc _ cm i j a b q (List.getElem?_eq_some_iff.mpr ⟨hi, ei⟩) (List.getElem?_eq_some_iff.mpr ⟨hj, ej⟩))
    · subst q; exact hab (ei.symm.trans ej)
    · exact ha b hb' a ha' (hc _ cm j i b a q (List.getElem?_eq_some_iff.mpr ⟨hj, ej⟩) (List.getElem?_eq_some_iff.mpr ⟨hi, ei⟩))
  have := nodup_le' ndm (b := List.range cs.length) fun k hk => by
    obtain ⟨a, ha', rfl⟩ := List.mem_map.mp hk
    exact List.mem_range.mpr (hf a ha').1
  rwa [List.length_map, List.length_range] at this
end
end K49
/-! K49P3 -/
/-! The plain law: what apart gives. -/
namespace K49
open PySem L2
section
variable {ns : List Str} {row : Str → List Str} {ow : List (Str × Key)} {fl L : List Key} {R : List Str} {D : Str → Prop}
theorem apart_free (q : Reach (rowK row) (ns.map kS) ow fl L R []) {a b : Str} (ha : a ∈ ns.filter fun n => decide (kS n ∈ L) && !decide (n ∈ R)) (hb : b ∈ ns.filter fun n => decide (kS n ∈ L) && !decide (n ∈ R)) : b ∉ row a := fun h => by
  have h1 := (List.mem_filter.mp ha).2
  have h2 := (List.mem_filter.mp hb).2
  simp only [Bool.and_eq_true, decide_eq_true_eq, Bool.not_eq_true', decide_eq_false_iff_not] at h1 h2
  exact h2.2 (q.rowL (kS a) h1.1 b h)
theorem apart_ge (O : Ord ns row) (h : Own (rowK row) (ns.map kS) ow fl D) (q : Reach (rowK row) (ns.map kS) ow fl L R []) : fl.length ≤ (ns.filter fun n => decide (kS n ∈ L) && !decide (n ∈ R)).length := by
  have hc := Reach.count h (ks_nd O) q
  have inK : ∀ x ∈ L, x ∈ ns.map kS := fun x hx => by
    rcases q.inL x (.inl hx) with z | ⟨r, _, z⟩
    · exact h.part.mem_iff.mpr (List.mem_append_right _ z)
    · exact h.val_in z
  have l1 : L.length ≤ (ns.filter fun n => decide (kS n ∈ L)).length := by
    have := nodup_le' q.ndL (b := (ns.filter fun n => decide (kS n ∈ L)).map kS) fun x hx => by
      obtain ⟨n, hn, rfl⟩ := List.mem_map.mp (inK x hx)
      exact List.mem_map.mpr ⟨n, List.mem_filter.mpr ⟨hn, decide_eq_true hx⟩, rfl⟩
    rwa [List.length_map] at this
  have l2 : ((ns.filter fun n => decide (kS n ∈ L)).filter fun n => decide (n ∈ R)).length ≤ R.length :=
    nodup_le' ((O.nd.filter _).filter _) fun x hx => of_decide_eq_true (List.mem_filter.mp hx).2
  have l3 := (List.filter_append_perm (fun n => decide (n ∈ R)) (ns.filter fun n => decide (kS n ∈ L))).length_eq
  rw [List.length_append] at l3
  have l4 : ((ns.filter fun n => decide (kS n ∈ L)).filter fun n => !decide (n ∈ R)) = ns.filter fun n => decide (kS n ∈ L) && !decide (n ∈ R) := by
    rw [List.filter_filter]
    exact List.filter_congr fun x _ => Bool.and_comm _ _
  rw [l4] at l3
  omega
end
end K49
/-! K49P4 -/
/-! The plain law: a chain goes up; matchings over names in another order. -/
namespace K49
open PySem L2
section
variable {ns ns' : List Str} {row row' : Str → List Str} {ow : List (Str × Key)} {fl : List Key} {D : Str → Prop} {cs : List (List Str)}
theorem full_lt (O : Ord ns row) (h : Own (rowK row) (ns.map kS) ow fl D) (hh : cs.map List.head? = (ns.filter fun n => !(look ow n).isSome).map some) {c : List Str} (hc : c ∈ cs) (F : Full (nxt ow) c) (i : Nat) : ∀ (d : Nat) a b, c[i]? = some a → c[i + d + 1]? = some b → b ∈ row a
  | 0, a, b, ha, hb => (full_edge O h F ha hb).2
  | d + 1, a, b, ha, hb => by
    obtain ⟨m, hm⟩ : ∃ m, c[i + d + 1]? = some m := ⟨c[i + d + 1]'(by have := (List.getElem?_eq_some_iff.mp hb).1; omega), List.getElem?_eq_getElem _⟩
    have h1 := full_lt O h hh hc F i d a m ha hm
    have h2 := (full_edge O h F hm (show c[i + d + 1 + 1]? = some b from hb)).2
    exact O.tr a (in_ns O h hh hc F i a ha) m h1 b h2
theorem full_up (O : Ord ns row) (h : Own (rowK row) (ns.map kS) ow fl D) (hh : cs.map List.head? = (ns.filter fun n => !(look ow n).isSome).map some) (HF : ∀ c ∈ cs, Full (nxt ow) c) : ∀ c ∈ cs, ∀ (i j : Nat) a b, i < j → c[i]? = some a → c[j]? = some b → b ∈ row a := fun c hc i j a b hij ha hb => by
  obtain ⟨d, rfl⟩ : ∃ d, j = i + d + 1 := ⟨j - i - 1, by omega⟩
  exact full_lt O h hh hc (HF c hc) i d a b ha hb
theorem own_perm (hp : ns.Perm ns') (hr : ∀ a ∈ ns, ∀ b, b ∈ row a ↔ b ∈ row' a) (h : Own (rowK row) (ns.map kS) ow fl D) : Own (rowK row') (ns'.map kS) ow fl D := by
  have mem : ∀ l ∈ ns.map kS, ∀ r, r ∈ rowK row l ↔ r ∈ rowK row' l := fun l hl r => by
    obtain ⟨a, ha, rfl⟩ := List.mem_map.mp hl
    exact hr a ha r
  refine ⟨h.nd, (hp.map kS).symm.trans h.part, fun r l e => (mem l (h.val_in e) r).mp (h.edge r l e), fun r hr' => ?_, fun l hl r hr' => h.fail l hl r ((mem l (h.part.mem_iff.mpr (List.mem_append_right _ hl)) r).mpr hr')⟩
  obtain ⟨l, e, q⟩ := h.dead r hr'
  exact ⟨l, e, fun x hx => q x ((mem l (h.val_in e) x).mpr hx)⟩
end
end K49
/-! K49P5 -/
/-! The plain law: as many chains as trips apart. -/
namespace K49
open PySem L2
section
variable {ns ns' : List Str} {row row' : Str → List Str} {ow ow' : List (Str × Key)} {fl fl' L : List Key} {R : List Str} {D D' : Str → Prop} {cs : List (List Str)}
theorem apart_len (O : Ord ns row) (O' : Ord ns' row') (hp : ns.Perm ns') (hr : ∀ a ∈ ns, ∀ b, b ∈ row a ↔ b ∈ row' a) (h : Own (rowK row) (ns.map kS) ow fl D) (hh : cs.map List.head? = (ns.filter fun n => !(look ow n).isSome).map some) (HF : ∀ c ∈ cs, Full (nxt ow) c)
    (h' : Own (rowK row') (ns'.map kS) ow' fl' D') (q : Reach (rowK row') (ns'.map kS) ow' fl' L R []) : (ns'.filter fun n => decide (kS n ∈ L) && !decide (n ∈ R)).length = cs.length := by
  have h2 := own_perm hp hr h
  have e1 := Own.same h2 h' (ks_nd O')
  have p1 := h2.part.length_eq
  have p2 := h'.part.length_eq
  rw [List.length_append, List.length_map, List.length_map] at p1 p2
  have e2 := chains_len O h hh
  have e3 := apart_ge O' h' q
  have e4 := anti_le O (chains_perm O h hh HF) (full_up O h hh HF) (A := ns'.filter fun n => decide (kS n ∈ L) && !decide (n ∈ R)) (O'.nd.filter _) (fun a ha => hp.mem_iff.mpr (List.mem_filter.mp ha).1)
    (fun a ha b hb z => apart_free q ha hb ((hr a (hp.mem_iff.mpr (List.mem_filter.mp ha).1) b).mp z))
  omega
end
end K49
/-! K49P8 -/
/-! The plain law: offices, their lengths, their orders. -/
namespace K49
open PySem L2
theorem offS_ok (sc : List Int) (ad : Str → Addr) : (offS sc ad).Ok where
  nd := tripsS_nd sc
  few := Nat.le_trans (trips_len sc) (by omega)
  org := fun t ht => (trip_facts sc t ht).2.1
  goal := fun t ht => (trip_facts sc t ht).2.2.1
  nn := fun a _ b _ => (farS_ok sc).nn a b
  tri := fun a _ b _ c hc => farS_tri sc a b c hc
  dg := fun a _ => (farS_ok sc).dg a
  fwd := fun t ht => (trip_facts sc t ht).2.2.2.2.2.1
  slow := fun t ht => (trip_facts sc t ht).2.2.2.2.2.2.2.2.2
section
variable {o : Office} (ok : o.Ok)
include ok
theorem lk_trans {x y z : Trip} (hx : x ∈ o.ts) (hy : y ∈ o.ts) (hz : z ∈ o.ts) (h1 : o.lk x y = true) (h2 : o.lk y z = true) : o.lk x z = true := by
  have h1 := of_decide_eq_true h1
  have h2 := of_decide_eq_true h2
  refine decide_eq_true ?_
  unfold Office.gap at h1 h2 ⊢
  have t1 := ok.tri _ (ok.goal x hx) _ (ok.org z hz) _ (ok.org y hy)
  have t2 := ok.tri _ (ok.org y hy) _ (ok.org z hz) _ (ok.goal y hy)
  have t3 := ok.slow y hy
  omega
end
theorem lk_lkF {o : Office} (a b : Trip) : lkF o.D a b = o.lk a b := by
  unfold lkF Office.lk Office.gap
  exact decide_eq_decide.mpr (by omega)
theorem Lkd.of {α : Type} {R : α → α → Bool} : ∀ {xs : List α}, (∀ (i : Nat) a b, xs[i]? = some a → xs[i + 1]? = some b → R a b = true) → Lkd R xs
  | [], _ => trivial
  | [_], _ => trivial
  | a :: b :: r, h => ⟨h 0 a b rfl rfl, Lkd.of (xs := b :: r) fun i x y h1 h2 => h (i + 1) x y h1 h2⟩
theorem Lkd.mono {α : Type} {R S : α → α → Bool} (hRS : ∀ a b, R a b = true → S a b = true) : ∀ {xs : List α}, Lkd R xs → Lkd S xs
  | [], _ => trivial
  | [_], _ => trivial
  | a :: b :: r, h => ⟨hRS _ _ h.1, Lkd.mono hRS (xs := b :: r) h.2⟩
theorem row_lt {o : Office} (ok : o.Ok) {r : List Trip} (hr : RowOk o r) (i : Nat) : ∀ (d : Nat) a b, r[i]? = some a → r[i + d + 1]? = some b → o.lk a b = true
  | 0, a, b, ha, hb => Lkd.at hr.lk ha hb
  | d + 1, a, b, ha, hb => by
    obtain ⟨m, hm⟩ : ∃ m, r[i + d + 1]? = some m := ⟨r[i + d + 1]'(by have := (List.getElem?_eq_some_iff.mp hb).1; omega), List.getElem?_eq_getElem _⟩
    exact lk_trans ok (hr.mem _ (List.mem_of_getElem? ha)) (hr.mem _ (List.mem_of_getElem? hm)) (hr.mem _ (List.mem_of_getElem? hb)) (row_lt ok hr i d a m ha hm) (Lkd.at hr.lk hm (show r[i + d + 1 + 1]? = some b from hb))
/-! ### lengths between two places -/
def Office.two (o : Office) : Str → List Trip → Str → Int
  | a, [], b => o.D a b
  | a, t :: r, b => o.D a t.origin + (t.finish - t.start) + o.two t.goal r b
theorem len_two' (o : Office) (b : Str) : ∀ (row : List Trip) (a : Str), o.run a row + o.D ((row.getLast?.map fun t => t.goal).getD a) b = o.two a row b
  | [], a => by simp [Office.run, Office.two]
  | t :: r, a => by
    have ih := len_two' o b r t.goal
    have e : ((t :: r).getLast?.map fun t => t.goal).getD a = (r.getLast?.map fun t => t.goal).getD t.goal := by
      cases r with
      | nil => rfl
      | cons u r => rw [List.getLast?_cons_cons, List.getLast?_cons]; rfl
    rw [e]
    show o.D a t.origin + (t.finish - t.start) + o.run t.goal r + _ = o.D a t.origin + (t.finish - t.start) + o.two t.goal r b
    omega
theorem len_two (o : Office) (home : Str) (row : List Trip) : o.len home row = o.two home row home := len_two' o home row home
theorem run_runL (o : Office) : ∀ (r : List Trip) (t : Trip) (a : Str), o.run a (t :: r) = o.D a t.origin + runL o.D (t :: r)
  | [], t, a => by simp [Office.run, runL]
  | u :: r, t, a => by
    have ih := run_runL o r u t.goal
    show o.D a t.origin + (t.finish - t.start) + o.run t.goal (u :: r) = o.D a t.origin + (t.finish - t.start + o.D t.goal u.origin + runL o.D (u :: r))
    omega
theorem lenL_len (o : Office) (home : Str) {row : List Trip} (h : row ≠ []) : lenL o.D home row = o.len home row := by
  cases row with
  | nil => exact absurd rfl h
  | cons t r =>
    unfold lenL Office.len
    rw [run_runL]
    simp only [List.head?_cons, Option.map_some, Option.getD_some]
    omega
section
variable {o : Office} (ok : o.Ok) {b : Str} (hb : b ∈ o.ps)
include ok hb
theorem two_ge : ∀ (row : List Trip) (a : Str), a ∈ o.ps → (∀ t ∈ row, t ∈ o.ts) → o.D a b ≤ o.two a row b
  | [], a, _, _ => Int.le_refl _
  | t :: r, a, ha, h => by
    have ht := h t List.mem_cons_self
    have ih := two_ge r t.goal (ok.goal t ht) fun u hu => h u (List.mem_cons_of_mem _ hu)
    have t1 := ok.tri a ha b hb _ (ok.org t ht)
    have t2 := ok.tri _ (ok.org t ht) b hb _ (ok.goal t ht)
    have t3 := ok.slow t ht
    show _ ≤ o.D a t.origin + (t.finish - t.start) + o.two t.goal r b
    omega
theorem two_pre (s : List Trip) : ∀ (r : List Trip) (a : Str), a ∈ o.ps → (∀ t ∈ r ++ s, t ∈ o.ts) → o.two a r b ≤ o.two a (r ++ s) b
  | [], a, ha, h => two_ge ok hb s a ha h
  | t :: r, a, ha, h => by
    have ht := h t List.mem_cons_self
    have ih := two_pre s r t.goal (ok.goal t ht) fun u hu => h u (List.mem_cons_of_mem _ hu)
    show o.D a t.origin + (t.finish - t.start) + o.two t.goal r b ≤ o.D a t.origin + (t.finish - t.start) + o.two t.goal (r ++ s) b
    omega
theorem two_one (t : Trip) (s : List Trip) : ∀ (r : List Trip) (a : Str), a ∈ o.ps → (∀ u ∈ r ++ t :: s, u ∈ o.ts) → o.two a [t] b ≤ o.two a (r ++ t :: s) b
  | [], a, ha, h => two_pre ok hb s [t] a ha h
  | u :: r, a, ha, h => by
    have hu := h u List.mem_cons_self
    have ht := h t (by simp)
    have ih := two_one t s r u.goal (ok.goal u hu) fun x hx => h x (List.mem_cons_of_mem _ hx)
    have t1 := ok.tri a ha _ (ok.org t ht) _ (ok.org u hu)
    have t2 := ok.tri _ (ok.org u hu) _ (ok.org t ht) _ (ok.goal u hu)
    have t3 := ok.slow u hu
    have e1 : o.two u.goal [t] b = o.D u.goal t.origin + (t.finish - t.start) + o.D t.goal b := rfl
    have e2 : o.two a [t] b = o.D a t.origin + (t.finish - t.start) + o.D t.goal b := rfl
    show _ ≤ o.D a u.origin + (u.finish - u.start) + o.two u.goal (r ++ t :: s) b
    omega
/-- linked trips end by B; no way is longer than M -/
theorem two_top {B M : Int} (hB : ∀ t ∈ o.ts, t.finish ≤ B) (hM : ∀ x ∈ o.ps, ∀ y ∈ o.ps, o.D x y ≤ M) : ∀ (r : List Trip) (t : Trip), (∀ u ∈ t :: r, u ∈ o.ts) → Lkd o.lk (t :: r) → o.two t.goal r b ≤ B - t.finish + M
  | [], t, h, _ => by
    have ht := h t List.mem_cons_self
    have := hB t ht
    have := hM _ (ok.goal t ht) _ hb
    show o.D t.goal b ≤ _
    omega
  | u :: r, t, h, l => by
    have ih := two_top hB hM r u (fun x hx => h x (List.mem_cons_of_mem _ hx)) l.2
    have h1 := of_decide_eq_true l.1
    unfold Office.gap at h1
    show o.D t.goal u.origin + (u.finish - u.start) + o.two u.goal r b ≤ _
    omega
end
section
variable {o : Office} (ok : o.Ok) {home : Str} (hh : home ∈ o.ps)
include ok hh
theorem len_nn {row : List Trip} (h : ∀ t ∈ row, t ∈ o.ts) : 0 ≤ o.len home row := by
  rw [len_two]
  have := two_ge ok hh row home hh h
  have := ok.nn _ hh _ hh
  omega
theorem len_pre {r s : List Trip} (h : ∀ t ∈ r ++ s, t ∈ o.ts) : o.len home r ≤ o.len home (r ++ s) := by
  rw [len_two, len_two]; exact two_pre ok hh s r home hh h
theorem len_one {row : List Trip} (h : ∀ t ∈ row, t ∈ o.ts) {t : Trip} (ht : t ∈ row) : o.len home [t] ≤ o.len home row := by
  obtain ⟨r, s, rfl⟩ := List.append_of_mem ht
  rw [len_two, len_two]; exact two_one ok hh t s r home hh h
theorem len_top {B M S : Int} (hB : ∀ t ∈ o.ts, t.finish ≤ B) (hS : ∀ t ∈ o.ts, S ≤ t.start) (hM : ∀ x ∈ o.ps, ∀ y ∈ o.ps, o.D x y ≤ M) {row : List Trip} (hr : RowOk o row) : o.len home row ≤ 2 * M + B - S := by
  obtain ⟨hm, hl, hne⟩ := hr
  cases row with
  | nil => exact absurd rfl hne
  | cons t r =>
    have := two_top ok hh hB hM r t hm hl
    have ht := hm t List.mem_cons_self
    have := hS t ht
    have := hM _ hh _ (ok.org t ht)
    rw [len_two]
    show o.D home t.origin + (t.finish - t.start) + o.two t.goal r home ≤ _
    omega
end
/-! ### cut -/
theorem cutAll_fit {α : Type} {fit : List α → Bool} {row : List α} (h : ∀ t ∈ row, fit [t] = true) : ∀ p ∈ cutAll fit row, fit p = true := by
  have gen : ∀ (l : List α) (ps : List (List α)), (∀ t ∈ l, fit [t] = true) → (∀ p ∈ ps, fit p = true) → ∀ p ∈ l.foldl (cutStep fit) ps, fit p = true := by
    intro l
    induction l with
    | nil => intro ps _ h; exact h
    | cons a r ih =>
      intro ps hl h
      refine ih _ (fun t ht => hl t (List.mem_cons_of_mem _ ht)) fun p hp => ?_
      have ha := hl a List.mem_cons_self
      unfold cutStep at hp
      split at hp
      · split at hp
        · rename_i c
          rcases List.mem_append.mp hp with q | q
          · exact h p ((List.dropLast_sublist _).subset q)
          · simp at q; rw [q]; exact c
        · rcases List.mem_append.mp hp with q | q
          · exact h p q
          · simp at q; rw [q]; exact ha
      · simp at hp; rw [hp]; exact ha
  exact gen row [] h (by simp)
theorem cutAll_one {α : Type} {fit : List α → Bool} {row : List α} (hne : row ≠ []) (h : ∀ i, fit (row.take i) = true) : cutAll fit row = [row] := by
  have gen : ∀ i, i < row.length → cutAll fit (row.take (i + 1)) = [row.take (i + 1)] := by
    intro i
    induction i with
    | zero =>
      intro hi
      have e : row[0]? = some row[0] := List.getElem?_eq_getElem hi
      rw [cutAll_take fit e, List.take_add_one, e, List.take_zero]; rfl
    | succ i ih =>
      intro hi
      have e : row[i + 1]? = some row[i + 1] := List.getElem?_eq_getElem hi
      have tk : row.take (i + 1 + 1) = row.take (i + 1) ++ [row[i + 1]] := by rw [List.take_add_one, e]; rfl
      rw [cutAll_take fit e, ih (by omega), tk]
      have hf := h (i + 1 + 1)
      rw [tk] at hf
      unfold cutStep
      simp [hf]
      rw [tk]; exact hf
  have hl : 0 < row.length := List.length_pos_iff.mpr hne
  have := gen (row.length - 1) (by omega)
  rw [show row.length - 1 + 1 = row.length by omega, List.take_length] at this
  exact this
theorem cutAll_mid {α : Type} {fit : List α → Bool} {row p : List α} (h : p ∈ cutAll fit row) : ∃ a c, row = a ++ p ++ c := by
  obtain ⟨s, t, e⟩ := List.append_of_mem h
  refine ⟨s.flatten, t.flatten, ?_⟩
  have := cutAll_flat fit row
  rw [e] at this
  rw [← this]; simp
theorem cutRows_ok {o : Office} {home : Str} {limit : Int} {rows : List (List Trip)} (h : ∀ r ∈ rows, RowOk o r) : ∀ p ∈ cutRows o home limit rows, RowOk o p := fun p hp => by
  obtain ⟨r, hr, q⟩ := List.mem_flatMap.mp hp
  obtain ⟨a, c, e⟩ := cutAll_mid q
  have := h r hr
  rw [e] at this
  exact this.mid (cutAll_ne _ _ p q)
theorem cutRows_fit {o : Office} {home : Str} {limit : Int} {rows : List (List Trip)} (h : ∀ r ∈ rows, ∀ t ∈ r, o.len home [t] ≤ limit) : ∀ p ∈ cutRows o home limit rows, o.len home p ≤ limit := fun p hp => by
  obtain ⟨r, hr, q⟩ := List.mem_flatMap.mp hp
  exact of_decide_eq_true (cutAll_fit (fit := fits o home limit) (fun t ht => decide_eq_true (h r hr t ht)) p q)
theorem cutRows_same {o : Office} (ok : o.Ok) {home : Str} (hh : home ∈ o.ps) {limit : Int} : ∀ {rows : List (List Trip)}, (∀ r ∈ rows, RowOk o r) → (∀ r ∈ rows, o.len home r ≤ limit) → cutRows o home limit rows = rows
  | [], _, _ => rfl
  | r :: s, h, hl => by
    have ih := cutRows_same ok hh (rows := s) (fun x hx => h x (List.mem_cons_of_mem _ hx)) fun x hx => hl x (List.mem_cons_of_mem _ hx)
    have hr := h r List.mem_cons_self
    have e : cutAll (fits o home limit) r = [r] := cutAll_one hr.ne fun i => decide_eq_true (by
      have h1 := len_pre ok hh (r := r.take i) (s := r.drop i) (by rw [List.take_append_drop]; exact hr.mem)
      rw [List.take_append_drop] at h1
      exact Int.le_trans h1 (hl r List.mem_cons_self))
    show cutAll (fits o home limit) r ++ cutRows o home limit s = _
    rw [e, ih]; rfl
end K49
/-! K49P9 -/
/-! The plain law: rows of trips, trips apart, legs, cars. -/
namespace K49
open PySem L2
def Office.rows (o : Office) (cs : List (List Str)) : List (List Trip) := cs.map fun c => c.map o.trip
theorem nms_map {o : Office} {c : List Str} (h : ∀ n ∈ c, n ∈ o.names) : nms (c.map o.trip) = c := by
  unfold nms
  rw [List.map_map]
  have : c.map ((fun t => t.name) ∘ o.trip) = c.map id := List.map_congr_left fun n hn => (Office.trip_in (h n hn)).2
  rw [this, List.map_id]
theorem rows_nms {o : Office} {cs : List (List Str)} (h : ∀ c ∈ cs, ∀ n ∈ c, n ∈ o.names) : (o.rows cs).map nms = cs := by
  unfold Office.rows
  rw [List.map_map]
  have : cs.map (nms ∘ fun c => c.map o.trip) = cs.map id := List.map_congr_left fun c hc => nms_map (h c hc)
  rw [this, List.map_id]
theorem nms_flat (rows : List (List Trip)) : nms rows.flatten = (rows.map nms).flatten := by
  unfold nms; rw [List.map_flatten]
/-- rows of linked trips, each trip once -/
structure Parts (o : Office) (rows : List (List Trip)) : Prop where
  ok : ∀ r ∈ rows, RowOk o r
  pm : (nms rows.flatten).Perm o.names
section
variable {o : Office} {rows : List (List Trip)}
theorem Parts.len (p : Parts o rows) : rows.flatten.length = o.ts.length := by
  have := p.pm.length_eq
  unfold nms Office.names at this
  rwa [List.length_map, List.length_map] at this
theorem Parts.mem (p : Parts o rows) : ∀ t ∈ rows.flatten, t ∈ o.ts := fun t ht => by
  obtain ⟨r, hr, h⟩ := List.mem_flatten.mp ht
  exact (p.ok r hr).mem t h
theorem Parts.all (ok : o.Ok) (p : Parts o rows) : ∀ t ∈ o.ts, ∃ r ∈ rows, t ∈ r := fun t ht => by
  have h1 : t.name ∈ nms rows.flatten := p.pm.mem_iff.mpr (List.mem_map.mpr ⟨t, ht, rfl⟩)
  obtain ⟨u, hu, e⟩ := List.mem_map.mp h1
  have h2 := Office.trip_of ok (p.mem u hu)
  have h3 := Office.trip_of ok ht
  have e : u.name = t.name := e
  rw [e, h3] at h2
  obtain ⟨r, hr, h⟩ := List.mem_flatten.mp hu
  exact ⟨r, hr, h2 ▸ h⟩
theorem Parts.rowsIn (ok : o.Ok) (p : Parts o rows) : RowsIn o.ts o.D rows where
  ne := fun r hr => (p.ok r hr).ne
  mem := fun r hr => (p.ok r hr).mem
  lk := fun r hr => Lkd.mono (fun a b h => by rw [lk_lkF]; exact h) (p.ok r hr).lk
  nd := p.pm.nodup_iff.mpr ok.nd
  all := p.len
theorem Parts.cut (p : Parts o rows) (home : Str) (limit : Int) : Parts o (cutRows o home limit rows) := ⟨cutRows_ok p.ok, by rw [cutRows_flat]; exact p.pm⟩
theorem Parts.few (ok : o.Ok) (p : Parts o rows) : rows.length ≤ 40 := by
  have h1 := flat_le rows fun r hr => (p.ok r hr).ne
  have h2 := p.len
  have h3 := ok.few
  omega
theorem Parts.rlen (ok : o.Ok) (p : Parts o rows) : ∀ r ∈ rows, r.length ≤ 40 := fun r hr => by
  have h1 := mem_flat_le hr
  have h2 := p.len
  have h3 := ok.few
  omega
theorem Parts.chains (ok : o.Ok) (tx : ∀ t ∈ o.ts, t.name.cps.all (· < 0x110000) = true) {xs : List Str} (hp : xs.Perm o.names) {ow : List (Str × Key)} {fl : List Key} {D : Str → Prop} {cs : List (List Str)} (h : Own (rowK (o.row xs)) (xs.map kS) ow fl D)
    (hh : cs.map List.head? = (xs.filter fun n => !(look ow n).isSome).map some) (HF : ∀ c ∈ cs, Full (nxt ow) c) : Parts o (o.rows cs) ∧ (o.rows cs).map nms = cs := by
  have O := ord_of ok tx hp
  have perm := chains_perm O h hh HF
  have inN : ∀ c ∈ cs, ∀ n ∈ c, n ∈ o.names := fun c hc n hn => hp.mem_iff.mp (perm.mem_iff.mp (List.mem_flatten.mpr ⟨c, hc, hn⟩))
  have e := rows_nms inN
  refine ⟨⟨fun r hr => ?_, ?_⟩, e⟩
  · obtain ⟨c, hc, rfl⟩ := List.mem_map.mp hr
    refine ⟨fun t ht => ?_, Lkd.of fun i a b ha hb => ?_, fun z => (HF c hc).ne (List.map_eq_nil_iff.mp z)⟩
    · obtain ⟨n, hn, rfl⟩ := List.mem_map.mp ht
      exact (Office.trip_in (inN c hc n hn)).1
    · rw [List.getElem?_map] at ha hb
      obtain ⟨x, hx, rfl⟩ := Option.map_eq_some_iff.mp ha
      obtain ⟨y, hy, rfl⟩ := Option.map_eq_some_iff.mp hb
      exact (List.mem_filter.mp (full_edge O h (HF c hc) hx hy).2).2
  · rw [nms_flat, e]
    exact perm.trans hp
theorem Parts.ge (ok : o.Ok) (tx : ∀ t ∈ o.ts, t.name.cps.all (· < 0x110000) = true) (p : Parts o rows) {L : List Trip} (hL : ∀ t ∈ L, t ∈ o.ts) (nd : (nms L).Nodup) (h : ∀ a ∈ L, ∀ b ∈ L, o.lk a b = false) : L.length ≤ rows.length := by
  have O := ord_of ok tx (List.Perm.refl o.names)
  have e := anti_le O (cs := rows.map nms) (by rw [← nms_flat]; exact p.pm) (fun c hc i j a b hij ha hb => by
    obtain ⟨r, hr, rfl⟩ := List.mem_map.mp hc
    unfold nms at ha hb
    rw [List.getElem?_map] at ha hb
    obtain ⟨x, hx, rfl⟩ := Option.map_eq_some_iff.mp ha
    obtain ⟨y, hy, rfl⟩ := Option.map_eq_some_iff.mp hb
    obtain ⟨d, rfl⟩ : ∃ d, j = i + d + 1 := ⟨j - i - 1, by omega⟩
    have hxm := (p.ok r hr).mem x (List.mem_of_getElem? hx)
    have hym := (p.ok r hr).mem y (List.mem_of_getElem? hy)
    refine List.mem_filter.mpr ⟨List.mem_map.mpr ⟨y, hym, rfl⟩, ?_⟩
    rw [Office.trip_of ok hxm, Office.trip_of ok hym]
    exact row_lt ok (p.ok r hr) i d x y hx hy) nd (fun a ha => by
      obtain ⟨t, ht, rfl⟩ := List.mem_map.mp ha
      exact List.mem_map.mpr ⟨t, hL t ht, rfl⟩) (fun a ha b hb z => by
      obtain ⟨t, ht, rfl⟩ := List.mem_map.mp ha
      obtain ⟨u, hu, rfl⟩ := List.mem_map.mp hb
      have := (List.mem_filter.mp z).2
      rw [Office.trip_of ok (hL t ht), Office.trip_of ok (hL u hu), h t ht u hu] at this
      cases this)
  rw [List.length_map] at e
  have e2 : (nms L).length = L.length := List.length_map _
  omega
/-- what apart gives, as trips -/
theorem low_facts (ok : o.Ok) {xs A : List Str} (hp : xs.Perm o.names) {ow : List (Str × Key)} {fl L : List Key} {R : List Str} (q : Reach (rowK (o.row xs)) (xs.map kS) ow fl L R []) (hA : A = xs.filter fun n => decide (kS n ∈ L) && !decide (n ∈ R)) :
    nms (A.map o.trip) = A ∧ A.Nodup ∧ (∀ t ∈ A.map o.trip, t ∈ o.ts) ∧ ∀ a ∈ A.map o.trip, ∀ b ∈ A.map o.trip, lkF o.D a b = false := by
  have inN : ∀ a ∈ A, a ∈ o.names := fun a ha => by rw [hA] at ha; exact hp.mem_iff.mp (List.mem_filter.mp ha).1
  refine ⟨nms_map inN, by rw [hA]; exact (hp.nodup_iff.mpr ok.nd).filter _, fun t ht => ?_, fun a ha b hb => ?_⟩
  · obtain ⟨n, hn, rfl⟩ := List.mem_map.mp ht
    exact (Office.trip_in (inN n hn)).1
  · obtain ⟨n, hn, rfl⟩ := List.mem_map.mp ha
    obtain ⟨m, hm, rfl⟩ := List.mem_map.mp hb
    rw [lk_lkF]
    cases c : o.lk (o.trip n) (o.trip m) with
    | false => rfl
    | true =>
      rw [hA] at hn hm
      exact absurd (List.mem_filter.mpr ⟨(List.mem_filter.mp hm).1, c⟩) (apart_free q hn hm)
theorem low_len (ok : o.Ok) (tx : ∀ t ∈ o.ts, t.name.cps.all (· < 0x110000) = true) {xs xs' : List Str} (hp : xs.Perm o.names) (hp' : xs'.Perm o.names) {ow ow' : List (Str × Key)} {fl fl' L : List Key} {R : List Str} {D D' : Str → Prop} {cs : List (List Str)}
    (h : Own (rowK (o.row xs)) (xs.map kS) ow fl D) (hh : cs.map List.head? = (xs.filter fun n => !(look ow n).isSome).map some) (HF : ∀ c ∈ cs, Full (nxt ow) c)
    (h' : Own (rowK (o.row xs')) (xs'.map kS) ow' fl' D') (q : Reach (rowK (o.row xs')) (xs'.map kS) ow' fl' L R []) : (xs'.filter fun n => decide (kS n ∈ L) && !decide (n ∈ R)).length = cs.length :=
  apart_len (ord_of ok tx hp) (ord_of ok tx hp') (hp.trans hp'.symm) (fun a ha b => by
    have m : ∀ x, x ∈ xs ↔ x ∈ xs' := fun x => (hp.trans hp'.symm).mem_iff
    unfold Office.row
    rw [List.mem_filter, List.mem_filter, m]) h hh HF h' q
/-! ### legs -/
theorem legsOf_mem (ok : o.Ok) {home : Str} (hh : home ∈ o.ps) (h : ∀ r ∈ rows, RowOk o r) : ∀ t ∈ legsOf o home rows, ∃ u ∈ o.ts, ∃ a ∈ o.ps, ∃ b, t = o.leg home a u b := fun t ht => by
  obtain ⟨r, hr, q⟩ := List.mem_flatMap.mp ht
  obtain ⟨k, hk, e⟩ := List.mem_map.mp q
  have hk := List.mem_range.mp hk
  refine ⟨r.getD k Trip.none, ?_, goalAt r home k, goalAt_in ok (h r hr).mem hh (Nat.le_of_lt hk), _, e.symm⟩
  rw [List.getD_eq_getElem?_getD, List.getElem?_eq_getElem hk]
  exact (h r hr).mem _ (List.getElem_mem hk)
end
section
variable (sc : List Int) (ad : Str → Addr) {rows : List (List Trip)} {home : Str}
theorem offS_tx : ∀ t ∈ (offS sc ad).ts, t.name.cps.all (· < 0x110000) = true := fun t ht => (trip_facts sc t ht).1.tx
theorem legS_ok (hh : home ∈ placesOf sc) {u : Trip} (hu : u ∈ tripsS sc) {a : Str} (ha : a ∈ placesOf sc) (b : Bool) : TripOk (placesOf sc) (farS sc) ((offS sc ad).leg home a u b) := by
  obtain ⟨h1, h2, h3, h4, h5, h6, h7, h8, h9, h10⟩ := trip_facts sc u hu
  have hs := scale_in sc
  have d1 := farS_le sc ha h2
  have d2 := farS_le sc h3 hh
  have n1 := (farS_ok sc).nn a u.origin
  have n2 := (farS_ok sc).nn u.goal home
  have t1 := farS_tri sc a u.goal u.origin h2
  have t2 := farS_tri sc a home u.goal h3
  cases b
  · refine ⟨h1, ha, h3, ?_, ?_, ?_, ?_, h8, ?_, ?_, ?_⟩
    · show 0 ≤ u.start - farS sc a u.origin; omega
    · show u.start - farS sc a u.origin ≤ _; omega
    · show 0 ≤ u.finish; omega
    · show u.finish ≤ _; omega
    · show u.seats ≤ _; omega
    · show u.start - farS sc a u.origin < u.finish; omega
    · show farS sc a u.goal ≤ u.finish - (u.start - farS sc a u.origin); omega
  · refine ⟨h1, ha, hh, ?_, ?_, ?_, ?_, h8, ?_, ?_, ?_⟩
    · show 0 ≤ u.start - farS sc a u.origin; omega
    · show u.start - farS sc a u.origin ≤ _; omega
    · show 0 ≤ u.finish + farS sc u.goal home; omega
    · show u.finish + farS sc u.goal home ≤ _; omega
    · show u.seats ≤ _; omega
    · show u.start - farS sc a u.origin < u.finish + farS sc u.goal home; omega
    · show farS sc a home ≤ u.finish + farS sc u.goal home - (u.start - farS sc a u.origin); omega
theorem legsS_ok (hh : home ∈ placesOf sc) (p : Parts (offS sc ad) rows) : ∀ t ∈ legsOf (offS sc ad) home rows, TripOk (placesOf sc) (farS sc) t := fun t ht => by
  obtain ⟨u, hu, a, ha, b, rfl⟩ := legsOf_mem (offS_ok sc ad) hh p.ok t ht
  exact legS_ok sc ad hh hu ha b
theorem legsS_off (hh : home ∈ placesOf sc) (p : Parts (offS sc ad) rows) (ad' : Str → Addr) : (⟨(offS sc ad).ps, (offS sc ad).D, legsOf (offS sc ad) home rows, ad'⟩ : Office).Ok := by
  have ok := offS_ok sc ad
  have L := legsS_ok sc ad hh p
  refine ⟨?_, ?_, fun t ht => (L t ht).org, fun t ht => (L t ht).goal, ok.nn, ok.tri, ok.dg, fun t ht => (L t ht).fwd, fun t ht => (L t ht).slow⟩
  · show (nms (legsOf (offS sc ad) home rows)).Nodup
    rw [legsOf_nms]; exact p.pm.nodup_iff.mpr ok.nd
  · show (legsOf (offS sc ad) home rows).length ≤ 40
    have e : (nms (legsOf (offS sc ad) home rows)).length = (nms rows.flatten).length := by rw [legsOf_nms]
    unfold nms at e
    rw [List.length_map, List.length_map, p.len] at e
    have := ok.few
    omega
theorem lenS_le (hh : home ∈ placesOf sc) {r : List Trip} (hr : RowOk (offS sc ad) r) : (offS sc ad).len home r ≤ 500000000 := by
  have hs := scale_in sc
  have := len_top (offS_ok sc ad) (home := home) hh (B := 930 * scaleOf sc) (M := 120 * scaleOf sc) (S := 150 * scaleOf sc) (fun t ht => (trip_facts sc t ht).2.2.2.2.2.2.1) (fun t ht => (trip_facts sc t ht).2.2.2.1) (fun x hx y hy => farS_le sc hx hy) hr
  omega
end
end K49
/-! K49W -/
/-! Words for the law's own body. -/
namespace K49
open PySem L2 Evl
theorem mostOf_mem {ns : List Int} (h : ns ≠ []) : mostOf ns ∈ ns := by
  unfold mostOf
  cases c : ns.max? with
  | none => exact absurd (List.max?_eq_none_iff.mp c) h
  | some m => exact (List.max?_eq_some_iff.mp c).1
theorem mostOf_le {ns : List Int} {y : Int} (hy : y ∈ ns) : y ≤ mostOf ns := by
  unfold mostOf
  cases c : ns.max? with
  | none => rw [List.max?_eq_none_iff.mp c] at hy; cases hy
  | some m => exact (List.max?_eq_some_iff.mp c).2 y hy
theorem paired_map {α β : Type} {F : α → β → Prop} (g : β → α) : ∀ l : List β, (∀ x ∈ l, F (g x) x) → Paired F (l.map g) l
  | [], _ => .nil
  | a :: r, h => .cons (h a List.mem_cons_self) (paired_map g r fun x hx => h x (List.mem_cons_of_mem _ hx))
theorem paired_unmap {α β γ : Type} {F : α → β → Prop} {g : γ → β} : ∀ {as : List α} {l : List γ}, Paired F as (l.map g) → Paired (fun a c => F a (g c)) as l
  | [], [], _ => .nil
  | _ :: _, _ :: _, h => by
    cases h with
    | cons h r => exact .cons h (paired_unmap r)
theorem TripsAt.n {H H' : Hp} {d : Addr} {ts : List Trip} {ad : Str → Addr} (h : TripsAt H d ts ad) (e : LamX.ExtN H H') : TripsAt H' d ts ad := ⟨e _ _ h.dk (fun _ z => by cases z), fun t ht => e _ _ (h.tup t ht) (fun _ z => by cases z)⟩
theorem CarsAt.n {H H' : Hp} {l : Addr} {cs : List Car} (R : CarsAt H l cs) (e : LamX.ExtN H H') : CarsAt H' l cs := by
  obtain ⟨as, h1, h2⟩ := R
  exact ⟨as, e _ _ h1 (fun _ z => by cases z), Paired.mapP h2 fun _ _ h => e _ _ h (fun _ z => by cases z)⟩
section
variable {K : PySem.W.Frag}
/-- what stands once the day is told -/
structure DayAt (K : PySem.W.Frag) (CT CR : Addr) (sc : List Int) (H : Hp) (a pl f t r b : Addr) (ad ad2 : Str → Addr) : Prop where
  S : SqL K H a (sc.map V.int)
  P : H pl = some (.lst ((placesOf sc).map V.str))
  F : FarAt H f (placesOf sc) (farS sc)
  T : TripsAt H t (tripsS sc) ad
  R : RoadsAt CR H r (placesOf sc) (farS sc)
  B : TableAt CT CR H b (offS sc ad2)
theorem DayAt.n {CT CR : Addr} {sc : List Int} {H H' : Hp} {a pl f t r b : Addr} {ad ad2 : Str → Addr} (h : DayAt K CT CR sc H a pl f t r b ad ad2) (e : LamX.ExtN H H') : DayAt K CT CR sc H' a pl f t r b ad ad2 :=
  ⟨(exr_n e).sql h.S, (exr_n e).lst h.P, h.F.mono (exr_n e), h.T.n e, h.R.mono (exr_n e), h.B.mono (exr_n e)⟩
theorem DayAt.x {CT CR : Addr} {sc : List Int} {H H' : Hp} {a pl f t r b : Addr} {ad ad2 : Str → Addr} (h : DayAt K CT CR sc H a pl f t r b ad ad2) (e : Ex H H') : DayAt K CT CR sc H' a pl f t r b ad ad2 := h.n (LamX.ExtN.of e)
end
section
variable {K : PySem.W.Frag} {σ : St} {H : Hp} {te ta tb tc : TE} {E : XK}
/-- max(xs) of a new list -/
theorem ev_max {ns : List Int} (h : EvL te σ H (ns.map V.int)) (hne : ns ≠ []) : Ev (tCB (rMax K) (tCons te tNil)) σ H (.int (mostOf ns)) := fun H1 e Q q => h H1 e _ fun p H2 _ e2 hp => ⟨p, ns, rfl, sq_of hp, List.length_pos_iff.mpr hne, fun m h1 h2 => by rw [← mostOf_is h1 h2]; exact q H2 e2⟩
theorem ev_maxV {ns : List Int} {p : Addr} (h : Ev te σ H (.ref p)) (hp : SqL K H p (ns.map V.int)) (hne : ns ≠ []) : Ev (tCB (rMax K) (tCons te tNil)) σ H (.int (mostOf ns)) := fun H1 e Q q => h H1 e _ fun H2 e2 => ⟨p, ns, rfl, ex_l (e.trans e2) hp, List.length_pos_iff.mpr hne, fun m h1 h2 => by rw [← mostOf_is h1 h2]; exact q H2 e2⟩
/-- [trips[n] for n in row] -/
theorem el_trips {tl : TE} {i j : Nat} {vs : List Nat} {c t : Addr} {ts row : List Trip} {ad : Str → Addr} (h : Ev tl σ H (.ref c)) (hc : SqL K H c ((nms row).map V.str)) (T : TripsAt H t ts ad) (nd : (ts.map fun t => t.name).Nodup) (hm : ∀ u ∈ row, u ∈ ts) (hz : row.length ≤ 1000)
    (hw : ∀ x, wipe ((wipe σ vs).set j (some x)) vs = wipe σ vs) (hi : ∀ x, ((wipe σ vs).set j (some x))[i]? = some (some (.ref t))) (hj : ∀ x, ((wipe σ vs).set j (some x))[j]? = some (some x)) :
    EvL (tLc (iList K tl) (gName j) tYes (tDGet (tVar i) (tVar j)) vs) σ H (row.map fun u => V.ref (ad u.name)) := by
  have q := el_lcF (K := K) (tt := tYes) (te := tDGet (tVar i) (tVar j)) row (fun u => V.str u.name) (fun _ => true) (fun u => V.ref (ad u.name)) h (by unfold nms at hc; rw [List.map_map] at hc; exact hc) (by omega) hw (fun x hx H1 e => et_yes) (fun x hx H1 e _ => ev_dget (ev_var (hi _)) (ev_var (hj _)) ((T.ex' e).get nd (hm x hx)))
  rw [filter_all] at q
  exact q
/-- [trips[n][5] for n in row] -/
theorem el_seats {tl : TE} {i j : Nat} {vs : List Nat} {c t : Addr} {ts row : List Trip} {ad : Str → Addr} (h : Ev tl σ H (.ref c)) (hc : SqL K H c ((nms row).map V.str)) (T : TripsAt H t ts ad) (nd : (ts.map fun t => t.name).Nodup) (hm : ∀ u ∈ row, u ∈ ts) (hz : row.length ≤ 1000)
    (hw : ∀ x, wipe ((wipe σ vs).set j (some x)) vs = wipe σ vs) (hi : ∀ x, ((wipe σ vs).set j (some x))[i]? = some (some (.ref t))) (hj : ∀ x, ((wipe σ vs).set j (some x))[j]? = some (some x)) :
    EvL (tLc (iList K tl) (gName j) tYes (tOp (rIxT K) (tDGet (tVar i) (tVar j)) (tC (.int 5))) vs) σ H ((row.map fun u => u.seats).map V.int) := by
  have q := el_lcF (K := K) (tt := tYes) (te := tOp (rIxT K) (tDGet (tVar i) (tVar j)) (tC (.int 5))) row (fun u => V.str u.name) (fun _ => true) (fun u => V.int u.seats) h (by unfold nms at hc; rw [List.map_map] at hc; exact hc) (by omega) hw (fun x hx H1 e => et_yes) (fun x hx H1 e _ => ev_op (ev_dget (ev_var (hi _)) (ev_var (hj _)) ((T.ex' e).get nd (hm x hx))) ev_c (rv_ixT (st_of ((T.ex' e).tup x (hm x hx))) rfl))
  rw [filter_all] at q
  rw [List.map_map]
  exact q
/-- the law's own length of a row that is told by a new list -/
theorem ev_llen {d : Addr} {home : Str} {ps : List Str} {F : Str → Str → Int} {row : List Trip} {ad : Str → Addr} (ha : Ev ta σ H (.ref d)) (hb : Ev tb σ H (.str home)) (hc : EvL tc σ H (row.map fun u => V.ref (ad u.name))) (hF : FarAt H d ps F) (T : ∀ u ∈ row, H (ad u.name) = some (.tup u.vs)) (hh : home ∈ ps) (hne : row ≠ []) (hz : row.length ≤ 1000)
    (hp : ∀ u ∈ row, u.origin ∈ ps ∧ u.goal ∈ ps) : Ev (tCall (spLLen K) [] E (tCons ta (tCons tb (tCons tc tNil)))) σ H (.int (lenL F home row)) := fun H1 e Q q =>
  ha H1 e _ fun H2 e2 => hb H2 (e.trans e2) _ fun H3 e3 => hc H3 ((e.trans e2).trans e3) _ fun p H4 hp4 e4 h4 => by
    have e04 := ((e.trans e2).trans e3).trans e4
    refine ⟨d, p, ps, F, home, row, rfl, hF.mono (exr e04), ⟨row.map fun u => ad u.name, ?_, paired_map _ _ fun u hu => e04 _ _ (T u hu)⟩, hh, hne, hz, hp, fun H5 e5 => q H5 (((e2.trans e3).trans e4).trans e5)⟩
    rw [List.map_map]; exact sq_of h4
/-- [length(.., [trips[n] for n in row]) for row in rows] -/
theorem el_lens {tl : TE} {j j2 i5 i6 i9 : Nat} {vs vs2 : List Nat} {c d t : Addr} {home : Str} {ps : List Str} {F : Str → Str → Int} {ts : List Trip} {rows : List (List Trip)} {ad : Str → Addr} (h : Ev tl σ H (.ref c)) (hL : LL H c (rows.map nms)) (T : TripsAt H t ts ad) (nd : (ts.map fun t => t.name).Nodup) (hF : FarAt H d ps F)
    (hps : ∀ u ∈ ts, u.origin ∈ ps ∧ u.goal ∈ ps) (hm : ∀ r ∈ rows, ∀ u ∈ r, u ∈ ts) (hne : ∀ r ∈ rows, r ≠ []) (hz : ∀ r ∈ rows, r.length ≤ 1000) (hzr : rows.length ≤ 40000) (hh : home ∈ ps)
    (hw : ∀ x, wipe ((wipe σ vs).set j (some x)) vs = wipe σ vs) (h5 : ∀ x, ((wipe σ vs).set j (some x))[i5]? = some (some (.ref d))) (h9 : ∀ x, ((wipe σ vs).set j (some x))[i9]? = some (some (.str home))) (hj : ∀ x, ((wipe σ vs).set j (some x))[j]? = some (some x))
    (hw2 : ∀ x y, wipe ((wipe ((wipe σ vs).set j (some x)) vs2).set j2 (some y)) vs2 = wipe ((wipe σ vs).set j (some x)) vs2) (h6 : ∀ x y, ((wipe ((wipe σ vs).set j (some x)) vs2).set j2 (some y))[i6]? = some (some (.ref t))) (hj2 : ∀ x y, ((wipe ((wipe σ vs).set j (some x)) vs2).set j2 (some y))[j2]? = some (some y)) :
    EvL (tLc (iList K tl) (gName j) tYes (tCall (spLLen K) [] E (tCons (tVar i5) (tCons (tVar i9) (tCons (tLc (iList K (tVar j)) (gName j2) tYes (tDGet (tVar i6) (tVar j2)) vs2) tNil)))) vs) σ H ((rows.map (lenL F home)).map V.int) := by
  obtain ⟨as, h1, h2⟩ := hL
  have hal : as.length = rows.length := by have := Paired.length h2; rw [List.length_map] at this; exact this
  have pz := paired_unmap (F := fun (a : Addr) (xs : List Str) => H a = some (.lst (xs.map V.str))) h2
  obtain ⟨z1, z2, z3⟩ := zip_snd pz
  have q := el_lcF (K := K) (σ := σ) (H := H) (a := c) (tl := tl) (tt := tYes) (te := tCall (spLLen K) [] E (tCons (tVar i5) (tCons (tVar i9) (tCons (tLc (iList K (tVar j)) (gName j2) tYes (tDGet (tVar i6) (tVar j2)) vs2) tNil)))) (vs := vs) (j := j) (as.zip rows) (fun p => V.ref p.1) (fun _ => true) (fun p => V.int (lenL F home p.2)) h
    (by
      have : (as.zip rows).map (fun p => V.ref p.1) = as.map V.ref := by conv => rhs; rw [← z2, List.map_map]
                                                                         rfl
      rw [this]; exact sq_of h1) (by rw [List.length_zip]; omega) hw (fun x hx H1 e => et_yes) (fun x hx H1 e _ => by
      have hr : x.2 ∈ rows := by rw [← z1]; exact List.mem_map.mpr ⟨x, hx, rfl⟩
      exact ev_llen (ev_var (h5 _)) (ev_var (h9 _)) (el_trips (ev_var (hj _)) (sq_of (e _ _ (z3 x hx))) (T.ex' e) nd (hm _ hr) (hz _ hr) (hw2 _) (h6 _) (hj2 _)) (hF.mono (exr e)) (fun u hu => (T.ex' e).tup u (hm _ hr u hu)) hh (hne _ hr) (hz _ hr) fun u hu => hps u (hm _ hr u hu))
  rw [filter_all] at q
  have e : (as.zip rows).map (fun p => V.int (lenL F home p.2)) = (rows.map (lenL F home)).map V.int := by
    conv => rhs; rw [← z1]
    rw [List.map_map, List.map_map]; rfl
  rw [e] at q
  exact q
/-- [length(.., [trips[n]]) for n in trips] -/
theorem el_alone {iv j i5 i9 : Nat} {vs : List Nat} {d t : Addr} {home : Str} {ps : List Str} {F : Str → Str → Int} {ts : List Trip} {ad : Str → Addr} (hv : σ[iv]? = some (some (.ref t))) (T : TripsAt H t ts ad) (nd : (ts.map fun t => t.name).Nodup) (hF : FarAt H d ps F)
    (hps : ∀ u ∈ ts, u.origin ∈ ps ∧ u.goal ∈ ps) (hz : ts.length ≤ 40000) (hh : home ∈ ps)
    (hw : ∀ x, wipe ((wipe σ vs).set j (some x)) vs = wipe σ vs) (h5 : ∀ x, ((wipe σ vs).set j (some x))[i5]? = some (some (.ref d))) (h9 : ∀ x, ((wipe σ vs).set j (some x))[i9]? = some (some (.str home))) (h6 : ∀ x, ((wipe σ vs).set j (some x))[iv]? = some (some (.ref t))) (hj : ∀ x, ((wipe σ vs).set j (some x))[j]? = some (some x)) :
    EvL (tLockE (tLc (iKeys (tVar iv)) (gName j) tYes (tCall (spLLen K) [] E (tCons (tVar i5) (tCons (tVar i9) (tCons (tLst (tCons (tDGet (tVar iv) (tVar j)) tNil)) tNil)))) vs)) σ H ((ts.map fun u => lenL F home [u]).map V.int) := by
  have key : ∀ k ∈ (encT ts ad).map (·.1), ∃ u ∈ ts, k = kS u.name := fun k hk => by
    unfold encT at hk
    rw [List.map_map] at hk
    obtain ⟨u, hu, e⟩ := List.mem_map.mp hk
    exact ⟨u, hu, e.symm⟩
  let pick : Key → V := fun k => ((ts.find? fun u => decide (kS u.name = k)).map fun u => V.int (lenL F home [u])).getD V.non
  have pk : ∀ u ∈ ts, pick (kS u.name) = V.int (lenL F home [u]) := fun u hu => by
    show ((ts.find? fun x => decide (kS x.name = kS u.name)).map _).getD V.non = _
    cases c : ts.find? fun x => decide (kS x.name = kS u.name) with
    | none => exact absurd (List.find?_eq_none.mp c u hu) (by simp)
    | some x =>
      have h1 := List.mem_of_find?_eq_some c
      have h2 : x.name = u.name := kS_inj (by have := List.find?_some c; simpa using this)
      have : x = u := by
        obtain ⟨i, hi, ei⟩ := List.getElem_of_mem h1
        obtain ⟨m, hm, em⟩ := List.getElem_of_mem hu
        have hi' : i < (ts.map fun t => t.name).length := by rw [List.length_map]; exact hi
        have hm' : m < (ts.map fun t => t.name).length := by rw [List.length_map]; exact hm
        have : i = m := (List.getElem_inj (h₀ := hi') (h₁ := hm') nd).mp (by rw [List.getElem_map, List.getElem_map, ei, em, h2])
        subst this
        rw [← ei, ← em]
      rw [this]; rfl
  have q := el_lcKF (σ := σ) (H := H) (tt := tYes) (te := tCall (spLLen K) [] E (tCons (tVar i5) (tCons (tVar i9) (tCons (tLst (tCons (tDGet (tVar iv) (tVar j)) tNil)) tNil)))) (vs := vs) (j := j) (encT ts ad) (fun _ => true) pick hv T.dk (by unfold encT; rw [List.length_map]; exact hz) hw (fun od k hk H1 e => et_yes) (fun od k hk H1 e _ => by
    obtain ⟨u, hu, rfl⟩ := key k hk
    rw [pk u hu]
    have hd1 := e _ _ upd_same
    have tup : H1 (ad u.name) = some (.tup u.vs) := e _ _ (by rw [upd_ne (ne_of (T.tup u hu) T.dk (by intro z; cases z))]; exact T.tup u hu)
    have dg := dget_rd (k := kS u.name) (.inr ⟨od, hd1⟩ : Rd H1 t (.dK (encT ts ad)))
    rw [encT_val nd hu] at dg
    exact ev_llen (row := [u]) (ev_var (h5 _)) (ev_var (h9 _)) (el_lst (ea_cons (ev_dget (ev_var (h6 _)) (ev_var (hj _)) dg) ea_nil) (by simp)) ((hF.mono (exr_lock T.dk)).mono (exr e)) (fun x hx => by rw [List.mem_singleton.mp hx]; exact tup) hh (by simp) (by simp) fun x hx => by rw [List.mem_singleton.mp hx]; exact hps u hu)
  rw [filter_all] at q
  have e : ((encT ts ad).map (·.1)).map pick = (ts.map fun u => lenL F home [u]).map V.int := by
    unfold encT
    rw [List.map_map, List.map_map, List.map_map]
    exact List.map_congr_left fun u hu => pk u hu
  rw [e] at q
  exact q
/-- [car[0] for car in cars if car[1] >= m and car[2] >= n] -/
theorem el_fit {tl tw ti : TE} {j : Nat} {vs : List Nat} {c : Addr} {cs : List Car} {m n : Int} (h : Ev tl σ H (.ref c)) (hC : CarsAt H c cs) (few : cs.length ≤ 40) (hw : ∀ x, wipe ((wipe σ vs).set j (some x)) vs = wipe σ vs) (hj : ∀ x, ((wipe σ vs).set j (some x))[j]? = some (some x))
    (h1 : ∀ x H1, Ex H H1 → Ev tw ((wipe σ vs).set j (some x)) H1 (.int m)) (h2 : ∀ x H1, Ex H H1 → Ev ti ((wipe σ vs).set j (some x)) H1 (.int n)) :
    EvL (tLc (iList K tl) (gName j) (tAnd (tTest (tOp (rI0 fun i j => .bl (decide (i ≥ j))) (tOp (rIxT K) (tVar j) (tC (.int 1))) tw)) (tTest (tOp (rI0 fun i j => .bl (decide (i ≥ j))) (tOp (rIxT K) (tVar j) (tC (.int 2))) ti))) (tOp (rIxT K) (tVar j) (tC (.int 0))) vs) σ H (((cs.filter fun c => decide (m ≤ c.2.1) && decide (n ≤ c.2.2)).map (·.1)).map V.str) := by
  obtain ⟨as, hc1, hc2⟩ := hC
  have hcl : as.length = cs.length := Paired.length hc2
  obtain ⟨z1, z2, z3⟩ := zip_snd hc2
  have q := el_lcF (K := K) (σ := σ) (H := H) (a := c) (tl := tl) (tt := tAnd (tTest (tOp (rI0 fun i j => .bl (decide (i ≥ j))) (tOp (rIxT K) (tVar j) (tC (.int 1))) tw)) (tTest (tOp (rI0 fun i j => .bl (decide (i ≥ j))) (tOp (rIxT K) (tVar j) (tC (.int 2))) ti))) (te := tOp (rIxT K) (tVar j) (tC (.int 0))) (vs := vs) (j := j)
    (as.zip cs) (fun p => V.ref p.1) (fun p => decide (m ≤ p.2.2.1) && decide (n ≤ p.2.2.2)) (fun p => V.str p.2.1) h (by
      have : (as.zip cs).map (fun p => V.ref p.1) = as.map V.ref := by rw [← z2, List.map_map]; rw [z2]; rfl
      rw [this]; exact sq_of hc1) (by rw [List.length_zip]; omega) hw (fun x hx H1 e1 => by
      have hp := e1 _ _ (z3 x hx)
      refine et_is (et_and (a := decide (m ≤ x.2.2.1)) (b := decide (n ≤ x.2.2.2)) (et_test (ev_op (ev_op (ev_var (hj _)) ev_c (rv_ixT (st_of hp) rfl)) (h1 _ _ e1) rv_I0)) (fun _ => et_test (ev_op (ev_op (ev_var (hj _)) ev_c (rv_ixT (st_of hp) rfl)) (h2 _ _ e1) rv_I0))) ?_
      cases decide (m ≤ x.2.2.1) <;> rfl) (fun x hx H1 e1 _ => by
      have hp := e1 _ _ (z3 x hx)
      exact ev_op (ev_var (hj _)) ev_c (rv_ixT (st_of hp) rfl))
  have e : ((as.zip cs).filter (fun p => decide (m ≤ p.2.2.1) && decide (n ≤ p.2.2.2))).map (fun p => V.str p.2.1) = ((cs.filter fun c => decide (m ≤ c.2.1) && decide (n ≤ c.2.2)).map (·.1)).map V.str := by
    conv => rhs; rw [← z1]
    rw [List.filter_map, List.map_map, List.map_map]; rfl
  rw [← e]
  exact q
/-- if one or not other: .., the other a call that may lay a table on -/
theorem q_whenOrB {t : TT} {tu tz : TS} {D : Ends} (h1 : EvT t σ H false) (h2 : ∀ H1, Ex H H1 → te σ H1 fun x H2 => ∃ c, x = .bl c ∧ if (!c) = true then tu { D with nx := tz D } σ H2 else tz D σ H2) : tSeq (tIfS (tOr t (tNot (tB te))) tu tNext) tz D σ H := h1 H (Ex.refl H) _ h2
/-! ### calls of the law's checks -/
theorem ev_lrows {p d f : Addr} {ts : List Trip} {ad : Str → Addr} {ps : List Str} {F : Str → Str → Int} {rows : List (List Trip)} (ha : Ev ta σ H (.ref p)) (hb : Ev tb σ H (.ref d)) (hc : Ev tc σ H (.ref f)) (hL : LL H p (rows.map nms)) (T : TripsAt H d ts ad) (hF : FarAt H f ps F) (nd : (ts.map fun t => t.name).Nodup) (hz : ts.length ≤ 40)
    (hps : ∀ t ∈ ts, t.origin ∈ ps ∧ t.goal ∈ ps) (R : RowsIn ts F rows) : Ev (tCall (spRows K) [] E (tCons ta (tCons tb (tCons tc tNil)))) σ H (.bl true) :=
  ev_call (ea_cons ha (ea_cons hb (ea_cons hc ea_nil))) fun H1 e Q q E => ⟨p, d, f, ts, ad, ps, F, rows, rfl, hL.mono (exr e), T.ex' e, hF.mono (exr e), nd, hz, hps, R, fun H2 e2 => q H2 e2⟩
theorem ev_lapart {p d f : Addr} {ts : List Trip} {ad : Str → Addr} {ps : List Str} {F : Str → Str → Int} {L : List Trip} (ha : Ev ta σ H (.ref p)) (hb : Ev tb σ H (.ref d)) (hc : Ev tc σ H (.ref f)) (hL : H p = some (.lst ((nms L).map V.str))) (T : TripsAt H d ts ad) (hF : FarAt H f ps F) (nd : (ts.map fun t => t.name).Nodup) (hz : L.length ≤ 40)
    (hps : ∀ t ∈ ts, t.origin ∈ ps ∧ t.goal ∈ ps) (hm : ∀ t ∈ L, t ∈ ts) (hn : (nms L).Nodup) (h : ∀ a ∈ L, ∀ b ∈ L, lkF F a b = false) : Ev (tCall (spLApart K) [] E (tCons ta (tCons tb (tCons tc tNil)))) σ H (.bl true) :=
  ev_call (ea_cons ha (ea_cons hb (ea_cons hc ea_nil))) fun H1 e Q q E => ⟨p, d, f, ts, ad, ps, F, L, rfl, e _ _ hL, T.ex' e, hF.mono (exr e), nd, hz, hps, hm, hn, h, fun H2 e2 => q H2 e2⟩
theorem ev_lenLL {p : Addr} {xss : List (List Str)} (ha : Ev ta σ H (.ref p)) (hL : LL H p xss) : Ev (tCB (rLenS K) (tCons ta tNil)) σ H (.int (xss.length : Int)) := by
  obtain ⟨as, h1, h2⟩ := hL
  have q := ev_len (K := K) ha (sq_of h1)
  rw [List.length_map, Paired.length h2] at q
  exact q
theorem ev_lenSt {p : Addr} {xs : List Str} (ha : Ev ta σ H (.ref p)) (h : H p = some (.lst (xs.map V.str))) : Ev (tCB (rLenS K) (tCons ta tNil)) σ H (.int (xs.length : Int)) := by
  have q := ev_len (K := K) ha (sq_of h)
  rw [List.length_map] at q
  exact q
/-! ### arguments, one by one -/
theorem a_consL {tr : TA} {xs : List V} {Q : List V → Hp → Prop} (h : EvL te σ H xs) (k : ∀ p H1, H p = none → Ex H H1 → H1 p = some (.lst xs) → tr σ H1 (fun vs H2 => Q (.ref p :: vs) H2)) : tCons te tr σ H Q := h H (Ex.refl H) _ k
theorem a_consV {tr : TA} {v : V} {Q : List V → Hp → Prop} (h : Ev te σ H v) (k : ∀ H1, Ex H H1 → tr σ H1 (fun vs H2 => Q (v :: vs) H2)) : tCons te tr σ H Q := h H (Ex.refl H) _ k
theorem a_nil {Q : List V → Hp → Prop} (k : Q [] H) : tNil σ H Q := k
/-- x = C(..) -/
theorem q_make {C : Addr} {sp : Sp} {E : XK} {t : TA} {i : Nat} {tz : TS} {D : Ends} (h : t σ H fun vs H1 => ∀ x dx, H1 x = none → H1 dx = none → dx ≠ x → sp (.ref x :: (vs ++ [])) (upd (upd H1 dx (.own x)) x (.ins C dx [])) (fun v H2 => v = .non ∧ tz D (σ.set i (some (.ref x))) H2) E) : tSeq (tAsg (tMake C sp [] E t) (gName i)) tz D σ H := h
/-! ### lists of lists of texts, compared -/
theorem dp_lists {as : List Addr} {xss : List (List Str)} (h : ListsAt H as xss) : DpAll K H (as.map V.ref) (xss.map fun xs => PyData.list (xs.map .str)) := by
  unfold ListsAt at h
  induction h with
  | nil => exact .nil
  | cons h _ ih => exact .cons (.lst (sq_of h) (dp_strs _)) ih
theorem lists_lay {xss : List (List Str)} (h : ∀ xs ∈ xss, ∀ x ∈ xs, x.cps.all (· < 0x110000) = true) : PyData.canLay0 (.list (xss.map fun xs => .list (xs.map .str))) = true := by
  unfold PyData.canLay0
  induction xss with
  | nil => unfold PyData.canLayAll0; rfl
  | cons a r ih =>
    show PyData.canLayAll0 (.list (a.map .str) :: r.map fun xs => .list (xs.map .str)) = true
    unfold PyData.canLayAll0
    rw [ih fun xs hx => h xs (List.mem_cons_of_mem _ hx), strs_lay (h a List.mem_cons_self)]; rfl
theorem lists_depth : ∀ xss : List (List Str), PyData.depthAll (xss.map fun xs => .list (xs.map .str)) ≤ 3
  | [] => by show PyData.depthAll [] ≤ 3; unfold PyData.depthAll; exact Nat.zero_le _
  | a :: r => by
    show PyData.depthAll (.list (a.map .str) :: r.map fun xs => .list (xs.map .str)) ≤ 3
    have := lists_depth r
    have h1 := strs_depth a
    unfold PyData.depthAll
    have h : PyData.depth (.list (a.map .str)) ≤ 3 := by unfold PyData.depth; omega
    omega
theorem lists_shaped {xss : List (List Str)} (h : ∀ xs ∈ xss, ∀ x ∈ xs, x.cps.all (· < 0x110000) = true) : SeqAt.shaped (.list (xss.map fun xs => .list (xs.map .str))) = true := by
  unfold SeqAt.shaped
  have h2 : PyData.depth (.list (xss.map fun xs => .list (xs.map .str))) ≤ 64 := by
    have := lists_depth xss
    unfold PyData.depth
    omega
  rw [lists_lay h, decide_eq_true h2]; rfl
theorem rv_neLists {p q : Addr} {xss : List (List Str)} (hp : LL H p xss) (hq : LL H q xss) (h : ∀ xs ∈ xss, ∀ x ∈ xs, x.cps.all (· < 0x110000) = true) : RV (rNeD K) (.ref p) (.ref q) H (.bl false) := fun H1 e Q k => by
  obtain ⟨as, h1, h2⟩ := hp.mono (exr e)
  obtain ⟨bs, g1, g2⟩ := hq.mono (exr e)
  exact ⟨_, _, .lst (sq_of h1) (dp_lists h2), .lst (sq_of g1) (dp_lists g2), lists_shaped h, lists_shaped h, by rw [SeqAt.eqv_refl _ (lists_lay h)]; exact k H1 (Ex.refl H1)⟩
theorem eqv_nil {xss : List (List Str)} : PyData.eqv (.list (xss.map fun xs => .list (xs.map .str))) (.list []) = decide (xss = []) := by
  cases xss with
  | nil => first | rfl | (simp [PyData.eqv, PyData.eqvAll]; done) | (unfold PyData.eqv; simp)
  | cons a r => first | rfl | (simp [PyData.eqv, PyData.eqvAll]; done) | (unfold PyData.eqv; simp)
theorem rv_eqNil {p q : Addr} {xss : List (List Str)} (hp : LL H p xss) (hq : H q = some (.lst [])) (h : ∀ xs ∈ xss, ∀ x ∈ xs, x.cps.all (· < 0x110000) = true) : RV (rEqD K) (.ref p) (.ref q) H (.bl (decide (xss = []))) := fun H1 e Q k => by
  obtain ⟨as, h1, h2⟩ := hp.mono (exr e)
  exact ⟨_, .list [], .lst (sq_of h1) (dp_lists h2), .lst (sq_of (e _ _ hq)) .nil, lists_shaped h, lists_shaped (xss := []) (by simp), by rw [eqv_nil]; exact k H1 (Ex.refl H1)⟩
theorem carsIn_nil : CarsIn [] := ⟨by simp, by simp, by simp, by simp, by simp, by simp, by simp⟩
/-- give_cars(table, home, [], []) == [] -/
theorem ev_give0 {CT CR CF p : Addr} {o : Office} {home : Str} {E : St → XK} (ha : Ev ta σ H (.ref p)) (hb : Ev tb σ H (.str home)) (ok : o.Ok) (hT : TableAt CT CR H p o) (hh : home ∈ o.ps) :
    Ev (tOp (rEqD K) (tCallS (spGive CT CR CF) E (tCons ta (tCons tb (tCons (tLst tNil) (tCons (tLst tNil) tNil))))) (tLst tNil)) σ H (.bl true) := fun H1 e Q q => by
  have l0 : ∀ H', EvL (tLst tNil) σ H' [] := fun H' => el_lst ea_nil (by simp)
  refine ha H1 e _ fun H2 e2 => hb H2 (e.trans e2) _ fun H3 e3 => (l0 H3) H3 (Ex.refl _) _ fun p1 H4 hp1 e4 h4 => (l0 H4) H4 (Ex.refl _) _ fun p2 H5 hp2 e5 h5 => ?_
  have e05 := (((e.trans e2).trans e3).trans e4).trans e5
  refine ⟨p, p1, p2, o, home, [], [], rfl, ok, hT.ex' e05, hh, ⟨[], e5 _ _ h4, .nil⟩, by simp, by simp, by simp, ⟨[], h5, .nil⟩, carsIn_nil, fun v H6 e6 ⟨g, gs, hv, hg, hgl, _⟩ => ?_, fun dx H6 e6 hfw => ?_⟩
  · subst hv
    obtain rfl : gs = [] := List.eq_nil_of_length_eq_zero hgl
    refine (l0 H6) H6 (Ex.refl _) _ fun p3 H7 hp3 e7 h7 => ?_
    exact rv_eqNil (xss := []) ⟨[], e7 _ _ hg, .nil⟩ h7 (by simp) H7 (Ex.refl _) _ fun H8 e8 => q H8 (((((e2.trans e3).trans e4).trans e5).trans e6).trans (e7.trans e8))
  · obtain ⟨_, _, L, R, _, _, _, _, hL, _, _, hlt⟩ := hfw.ex
    cases L with
    | nil => simp at hlt
    | cons x r => exact absurd (hL x List.mem_cons_self) (by simp [ksN])
/-- legs(table, home, []) == [] -/
theorem ev_legs0 {CT CR p : Addr} {o : Office} {home : Str} {E : XK} (ha : Ev ta σ H (.ref p)) (hb : Ev tb σ H (.str home)) (ok : o.Ok) (hT : TableAt CT CR H p o) (hh : home ∈ o.ps) :
    Ev (tOp (rEqD K) (tCall (spLegs CT CR) [] E (tCons ta (tCons tb (tCons (tLst tNil) tNil)))) (tLst tNil)) σ H (.bl true) := fun H1 e Q q => by
  have l0 : ∀ H', EvL (tLst tNil) σ H' [] := fun H' => el_lst ea_nil (by simp)
  refine ha H1 e _ fun H2 e2 => hb H2 (e.trans e2) _ fun H3 e3 => (l0 H3) H3 (Ex.refl _) _ fun p1 H4 hp1 e4 h4 => ?_
  have e04 := ((e.trans e2).trans e3).trans e4
  refine ⟨p, p1, o, home, [], rfl, ok, hT.ex' e04, hh, ⟨[], h4, .nil⟩, by simp, by simp [nms], by simp, fun v H6 e6 ⟨g, hv, as, hg, has⟩ => ?_⟩
  subst hv
  obtain rfl : as = [] := List.eq_nil_of_length_eq_zero (Paired.length has)
  refine (l0 H6) H6 (Ex.refl _) _ fun p3 H7 hp3 e7 h7 => ?_
  exact rv_eqNil (xss := []) ⟨[], e7 _ _ hg, .nil⟩ h7 (by simp) H7 (Ex.refl _) _ fun H8 e8 => q H8 ((((e2.trans e3).trans e4).trans e6).trans (e7.trans e8))
end
/-! ### numbers of the day -/
theorem atI_scale (sc : List Int) : atI [V.int 1, V.int 40, V.int 100000] (draw sc 3 3) = some (.int (scaleOf sc)) := by
  have h := draw_nn (sc := sc) (k := 3) (m := 3) (by omega)
  unfold scaleOf
  have : draw sc 3 3 = 0 ∨ draw sc 3 3 = 1 ∨ draw sc 3 3 = 2 := by omega
  rcases this with e | e | e <;> rw [e] <;> rfl
def homeOf (sc : List Int) : Str := plc (placesOf sc) (draw sc 18 (placesOf sc).length).toNat
theorem home_at (sc : List Int) : (draw sc 18 (placesOf sc).length).toNat < (placesOf sc).length := by
  have h := draw_nn (sc := sc) (k := 18) (m := (placesOf sc).length) (by have := (places_len sc).1; omega)
  omega
theorem home_in (sc : List Int) : homeOf sc ∈ placesOf sc := plc_mem (home_at sc)
theorem atI_home (sc : List Int) : atI ((placesOf sc).map V.str) (draw sc 18 (placesOf sc).length) = some (.str (homeOf sc)) := by
  have h := draw_nn (sc := sc) (k := 18) (m := (placesOf sc).length) (by have := (places_len sc).1; omega)
  have hl := home_at sc
  have e : draw sc 18 (placesOf sc).length = ((draw sc 18 (placesOf sc).length).toNat : Int) := by omega
  unfold homeOf
  rw [plc_of hl]
  generalize hn : (draw sc 18 (placesOf sc).length).toNat = n at hl e
  rw [e]
  exact atI_nat (by rw [List.getElem?_map, List.getElem?_eq_getElem hl]; simp only [hn, Option.map_some])
end K49
/-! K49L13 -/
/-! the law. -/
namespace K49
open PySem L2 Evl L2H PySem.Spec PyProof.Rows HotX
section
variable {P : Program} {w : World} {K : PySem.W.Frag} {mg : Str → Option Value} {base : Heap}
theorem passN0 {X : Cx} : ∀ σ : L2.St, PassesAt (L2N.CX X.prog X.w) X σ ((fun _ : L2.St => (fun _ _ _ => False : XK)) σ) := fun σ => L2N.passAt (W := fun _ _ _ _ => False) (fun u s' ⟨_, _, _, _, _, _, _, _, _, _, _, _, _, _, _, _, w⟩ => w.elim) σ
theorem pi_listK {X : Cx} {K : PySem.W.Frag} {tg l : Expr} {tl : TE} (h : X.K = K) (hl : PE X l tl) : PI X tg l (iList K tl) := by subst h; exact pi_list hl
theorem sc_law : FnScope ["_law_script", "_law_scale", "_law_k", "_law_places", "_law_ways_here", "_law_far", "_law_trips_here", "_law_roads", "_law_table", "_law_home", "_law_rows_here", "_law_low", "_law_longest", "_law_limit", "_law_alone", "_law_blocks_here", "_law_lengths_here", "_law_cars_here", "_law_fit", "_law_wanted", "_law_name_here", "_law_row", "_law_block", "_law_car"] ["_law_script"] (defScope s_law) := ⟨rfl, rfl, rfl, by decide +kernel, rfl, by decide +kernel, by decide +kernel⟩
def spLaw (K : PySem.W.Frag) (PN : Addr) : Sp := fun vs H Q _ => ∃ (a : Addr) (sc : List Int), vs = [.ref a] ∧ SqL K H a (sc.map V.int) ∧ LamX.Tabs [(PN, qN)] H ∧ ∀ H', Q (.bl true) H'
theorem k_law (T : Tx K mg) (TB : LamX.TabB base mg T.cN T.PN) : FnOk P w K mg base CX0 47 T.f_law T.fd_law ["_law_script"] (spLaw K T.PN) := by
  have G_l_draw := k_l_draw (P := P) (w := w) (base := base) T
  have G_l_name := k_l_name (P := P) (w := w) (base := base) T
  have G_l_ways := k_l_ways (P := P) (w := w) (base := base) T
  have G_l_lengths := k_l_lengths (P := P) (w := w) (base := base) T
  have G_l_trips := k_l_trips (P := P) (w := w) (base := base) T
  have G_rinit := k_rinit (P := P) (w := w) (base := base) T
  have G_tinit := k_tinit (P := P) (w := w) (base := base) T
  have G_chains := k_chains (P := P) (w := w) (base := base) T
  have G_links := k_links (P := P) (w := w) (base := base) T TB
  have G_apart := k_apart (P := P) (w := w) (base := base) T
  have G_l_rows := k_l_rows (P := P) (w := w) (base := base) T
  have G_l_apart := k_l_apart (P := P) (w := w) (base := base) T
  have G_give_cars := k_give_cars (P := P) (w := w) (base := base) T
  have G_legs := k_legs (P := P) (w := w) (base := base) T
  have G_l_length := k_l_length (P := P) (w := w) (base := base) T
  have G_l_blocks := k_l_blocks (P := P) (w := w) (base := base) T
  have G_l_legs := k_l_legs (P := P) (w := w) (base := base) T TB
  have G_l_cars := k_l_cars (P := P) (w := w) (base := base) T
  have G_l_given := k_l_given (P := P) (w := w) (base := base) T
  refine T.d_law.F.ok sc_law (fun vs H Q E h => ?_) (fun cdv A outer s H vs Q E hr h => ?_)
  · obtain ⟨a, sc, rfl, _⟩ := h
    rfl
  obtain ⟨a, sc, rfl, hS, hTb, k⟩ := h
  have hu := hu_of hr
  refine ⟨_, PSs.nox (pss_cons (ps_set (i := 1) sc_law.nd rfl (Or.inl rfl) (pe_ix ix_list (pe_lst (pa_cons pe_int (pa_cons pe_int (pa_cons pe_int pa_nil)))) (pe_call G_l_draw (hr.mono (by decide)) rfl T.d_l_draw.g T.d_l_draw.F.kp T.d_l_draw.b .nil pass0 (pa_cons (pv 0) (pa_cons pe_int (pa_cons pe_int pa_nil)))) (fun _ _ => rfl)))
    (pss_cons (ps_setLc (i := 3) (own := [("_law_k", 2)]) (g := gName 2) (by rfl) sc_law.nd rfl rfl (sw_true rfl rfl rfl (by decide +kernel)) (pi_range1 (by rfl) T.B.range (pa_cons (pe_op op_add pe_int (pe_call G_l_draw (hr.mono (by decide)) rfl T.d_l_draw.g T.d_l_draw.F.kp T.d_l_draw.b .nil pass0 (pa_cons (pv 0) (pa_cons pe_int (pa_cons pe_int pa_nil))))) pa_nil)) (blkOk_by (own := [("_law_k", 2)]) (N := ["_law_script", "_law_scale", "_law_k", "_law_places", "_law_ways_here", "_law_far", "_law_trips_here", "_law_roads", "_law_table", "_law_home", "_law_rows_here", "_law_low", "_law_longest", "_law_limit", "_law_alone", "_law_blocks_here", "_law_lengths_here", "_law_cars_here", "_law_fit", "_law_wanted", "_law_name_here", "_law_row", "_law_block", "_law_car"]) (sc := defScope s_law) (by decide +kernel)) (fun _ _ _ _ _ => pg_name (i := 2) sc_law.nd rfl (Or.inl rfl)) (fun _ _ _ _ _ => pts_nil) (fun _ _ _ _ _ => (pe_call G_l_name (hr.mono (by decide)) rfl T.d_l_name.g T.d_l_name.F.kp T.d_l_name.b .nil pass0 (pa_cons (pv 0) (pa_cons pe_int (pa_cons (pv 2) pa_nil))))))
    (pss_cons (ps_set (i := 4) sc_law.nd rfl (Or.inl rfl) (pe_call G_l_ways (hr.mono (by decide)) rfl T.d_l_ways.g T.d_l_ways.F.kp T.d_l_ways.b .nil pass0 (pa_cons (pv 0) (pa_cons (pv 3) (pa_cons (pv 1) pa_nil)))))
    (pss_cons (ps_set (i := 5) sc_law.nd rfl (Or.inr rfl) (pe_call G_l_lengths (hr.mono (by decide)) rfl T.d_l_lengths.g T.d_l_lengths.F.kp T.d_l_lengths.b .nil pass0 (pa_cons (pv 3) (pa_cons (pv 4) pa_nil))))
    (pss_cons (ps_set (i := 6) sc_law.nd rfl (Or.inr rfl) (pe_call G_l_trips (hr.mono (by decide)) rfl T.d_l_trips.g T.d_l_trips.F.kp T.d_l_trips.b .nil pass0 (pa_cons (pv 0) (pa_cons (pv 3) (pa_cons (pv 5) (pa_cons (pv 1) pa_nil))))))
    (pss_cons (ps_set (i := 7) sc_law.nd rfl (Or.inl rfl) (pe_make T.I_rinit.m G_rinit (hr.mono (by decide)) (by rfl) T.C.gR T.I_rinit.b .nil pass0 (pa_cons (pe_callTy call_list_of (by rfl) T.B.list (by decide +kernel) (pa_cons (pv 3) pa_nil)) (pa_cons (pe_callTy call_list_of (by rfl) T.B.list (by decide +kernel) (pa_cons (pv 4) pa_nil)) pa_nil))))
    (pss_cons (ps_set (i := 8) sc_law.nd rfl (Or.inl rfl) (pe_make T.I_tinit.m G_tinit (hr.mono (by decide)) (by rfl) T.C.gT T.I_tinit.b .nil pass0 (pa_cons (pv 7) (pa_cons (pe_listVals rfl (by rfl) T.B.list (pv 6)) pa_nil))))
    (pss_cut (ps_set (i := 9) sc_law.nd rfl (Or.inr rfl) (pe_ix ix_list (pv 3) (pe_call G_l_draw (hr.mono (by decide)) rfl T.d_l_draw.g T.d_l_draw.F.kp T.d_l_draw.b .nil pass0 (pa_cons (pv 0) (pa_cons pe_int (pa_cons (pe_callB call_len_seq (by rfl) T.B.len PySem.boot_len (pa_cons (pv 3) pa_nil)) pa_nil)))) (fun _ _ => rfl)))
    (pss_cons (ps_set (i := 10) sc_law.nd rfl (Or.inl rfl) (pe_call G_chains (hr.mono (by decide)) rfl T.d_chains.g T.d_chains.F.kp T.d_chains.b .nil pass0 (pa_cons (pe_call G_links (hr.mono (by decide)) rfl T.d_links.g T.d_links.F.kp T.d_links.b .nil pass0 (pa_cons (pv 8) pa_nil)) pa_nil)))
    (pss_cons (ps_set (i := 11) sc_law.nd rfl (Or.inl rfl) (pe_call G_apart (hr.mono (by decide)) rfl T.d_apart.g T.d_apart.F.kp T.d_apart.b .nil pass0 (pa_cons (pe_call G_links (hr.mono (by decide)) rfl T.d_links.g T.d_links.F.kp T.d_links.b .nil pass0 (pa_cons (pv 8) pa_nil)) pa_nil)))
    (pss_cons (ps_if (PW.pt (pw_or (pt_not (pt_val (pe_call G_l_rows (hr.mono (by decide)) rfl T.d_l_rows.g T.d_l_rows.F.kp T.d_l_rows.b .nil pass0 (pa_cons (pv 10) (pa_cons (pv 6) (pa_cons (pv 5) pa_nil)))))) (pw_or (pt_not (pt_val (pe_call G_l_apart (hr.mono (by decide)) rfl T.d_l_apart.g T.d_l_apart.F.kp T.d_l_apart.b .nil pass0 (pa_cons (pv 11) (pa_cons (pv 6) (pa_cons (pv 5) pa_nil)))))) (pw_or1 (pt_cmpR op_ne (pe_callB call_len_seq (by rfl) T.B.len PySem.boot_len (pa_cons (pv 11) pa_nil)) (pe_callB call_len_seq (by rfl) T.B.len PySem.boot_len (pa_cons (pv 10) pa_nil)) (nomark _))))))
      (pss_one (ps_ret pe_bl))
      pss_nil)
    (pss_cons (ps_if (pt_cmpR (op_eqD hr.units) (pv 10) (pe_lst pa_nil) (nomark _))
      (pss_one (ps_ret (pe_and (pe_cmpR (op_eqD hr.units) (pe_callS (E := fun _ _ _ _ => False) G_give_cars (hr.mono (by decide)) rfl T.d_give_cars.g T.d_give_cars.F.kp T.d_give_cars.b passN0 (pa_cons (pv 8) (pa_cons (pv 9) (pa_cons (pe_lst pa_nil) (pa_cons (pe_lst pa_nil) pa_nil))))) (pe_lst pa_nil) (nomark _)) (pe_one (pe_cmpR (op_eqD hr.units) (pe_call G_legs (hr.mono (by decide)) rfl T.d_legs.g T.d_legs.F.kp T.d_legs.b .nil pass0 (pa_cons (pv 8) (pa_cons (pv 9) (pa_cons (pe_lst pa_nil) pa_nil)))) (pe_lst pa_nil) (nomark _))))))
      pss_nil)
    (pss_cons (ps_set (i := 12) sc_law.nd rfl (Or.inl rfl) (pe_callB (cr_max rfl) (by rfl) T.B.max (by decide +kernel) (pa_cons (pe_lc (own := [("_law_row", 21)]) (g := gName 21) (by rfl) sc_law.nd (pi_list (pv 10)) (blkOk_by (own := [("_law_row", 21)]) (N := ["_law_script", "_law_scale", "_law_k", "_law_places", "_law_ways_here", "_law_far", "_law_trips_here", "_law_roads", "_law_table", "_law_home", "_law_rows_here", "_law_low", "_law_longest", "_law_limit", "_law_alone", "_law_blocks_here", "_law_lengths_here", "_law_cars_here", "_law_fit", "_law_wanted", "_law_name_here", "_law_row", "_law_block", "_law_car"]) (sc := defScope s_law) (by decide +kernel)) (fun _ _ _ _ _ => pg_name (i := 21) sc_law.nd rfl (Or.inl rfl)) (fun _ _ _ _ _ => pts_nil) (fun _ _ _ _ _ => (pe_call G_l_length (hr.mono (by decide)) rfl T.d_l_length.g T.d_l_length.F.kp T.d_l_length.b .nil pass0 (pa_cons (pv 5) (pa_cons (pv 9) (pa_cons (pe_lc (own := [("_law_name_here", 20)]) (g := gName 20) (by rfl) sc_law.nd (pi_listK (K := K) rfl (pv 21)) (blkOk_by (own := [("_law_name_here", 20)]) (N := ["_law_script", "_law_scale", "_law_k", "_law_places", "_law_ways_here", "_law_far", "_law_trips_here", "_law_roads", "_law_table", "_law_home", "_law_rows_here", "_law_low", "_law_longest", "_law_limit", "_law_alone", "_law_blocks_here", "_law_lengths_here", "_law_cars_here", "_law_fit", "_law_wanted", "_law_name_here", "_law_row", "_law_block", "_law_car"]) (sc := ({ kind := .function, names := [(".0", .local), ("_law_row", .local), ("_law_length", .globalImplicit), ("_law_far", .cell), ("_law_home", .cell), ("_law_trips_here", .cell)], isGenerator := false, isCoroutine := false } : Scope)) (by decide +kernel)) (fun _ _ _ _ _ => pg_name (i := 20) sc_law.nd rfl (Or.inl rfl)) (fun _ _ _ _ _ => pts_nil) (fun _ _ _ _ _ => (pe_dget hu (pv 6) (pv 20) (fun _ _ => rfl)))) pa_nil)))))) pa_nil)))
    (pss_cons (ps_set (i := 13) sc_law.nd rfl (Or.inl rfl) (pv 12))
    (pss_cut (ps_if (pt_cmpR op_gt (pe_call G_l_draw (hr.mono (by decide)) rfl T.d_l_draw.g T.d_l_draw.F.kp T.d_l_draw.b .nil pass0 (pa_cons (pv 0) (pa_cons pe_int (pa_cons pe_int pa_nil)))) pe_int (nomark _))
      (pss_cons (ps_set (i := 14) sc_law.nd rfl (Or.inl rfl) (pe_callB (cr_max rfl) (by rfl) T.B.max (by decide +kernel) (pa_cons (pe_lock (pe_lc (own := [("_law_name_here", 20)]) (g := gName 20) (by rfl) sc_law.nd (pi_keys (pv 6)) (blkOk_by (own := [("_law_name_here", 20)]) (N := ["_law_script", "_law_scale", "_law_k", "_law_places", "_law_ways_here", "_law_far", "_law_trips_here", "_law_roads", "_law_table", "_law_home", "_law_rows_here", "_law_low", "_law_longest", "_law_limit", "_law_alone", "_law_blocks_here", "_law_lengths_here", "_law_cars_here", "_law_fit", "_law_wanted", "_law_name_here", "_law_row", "_law_block", "_law_car"]) (sc := defScope s_law) (by decide +kernel)) (fun _ _ _ _ _ => pg_name (i := 20) sc_law.nd rfl (Or.inl rfl)) (fun _ _ _ _ _ => pts_nil) (fun _ _ _ _ _ => (pe_call G_l_length (hr.mono (by decide)) rfl T.d_l_length.g T.d_l_length.F.kp T.d_l_length.b .nil pass0 (pa_cons (pv 5) (pa_cons (pv 9) (pa_cons (pe_lst (pa_cons (pe_dget hu (pv 6) (pv 20) (fun _ _ => rfl)) pa_nil)) pa_nil))))))) pa_nil)))
      (pss_one (ps_set (i := 13) sc_law.nd rfl (Or.inl rfl) (pe_op op_add (pv 14) (pe_call G_l_draw (hr.mono (by decide)) rfl T.d_l_draw.g T.d_l_draw.F.kp T.d_l_draw.b .nil pass0 (pa_cons (pv 0) (pa_cons pe_int (pa_cons (pe_op op_sub (pe_op op_add pe_int (pv 12)) (pv 14)) pa_nil))))))))
      pss_nil)
    (pss_cons (ps_set (i := 15) sc_law.nd rfl (Or.inl rfl) (pe_call G_l_blocks (hr.mono (by decide)) rfl T.d_l_blocks.g T.d_l_blocks.F.kp T.d_l_blocks.b .nil pass0 (pa_cons (pv 8) (pa_cons (pv 9) (pa_cons (pv 10) (pa_cons (pv 13) pa_nil))))))
    (pss_cons (ps_if (PW.pt (pw_or (pt_not (pt_val (pe_call G_l_rows (hr.mono (by decide)) rfl T.d_l_rows.g T.d_l_rows.F.kp T.d_l_rows.b .nil pass0 (pa_cons (pv 15) (pa_cons (pv 6) (pa_cons (pv 5) pa_nil)))))) (pw_or (pt_cmpR op_lt (pe_callB call_len_seq (by rfl) T.B.len PySem.boot_len (pa_cons (pv 15) pa_nil)) (pe_callB call_len_seq (by rfl) T.B.len PySem.boot_len (pa_cons (pv 11) pa_nil)) (nomark _)) (pw_or1 (PW.pt (pw_and (pt_cmpR op_eq (pv 13) (pv 12) (nomark _)) (pw_and1 (pt_cmpR (op_neD hr.units) (pv 15) (pv 10) (nomark _)))))))))
      (pss_one (ps_ret pe_bl))
      pss_nil)
    (pss_cons (ps_set (i := 16) sc_law.nd rfl (Or.inr rfl) (pe_lc (own := [("_law_block", 22)]) (g := gName 22) (by rfl) sc_law.nd (pi_list (pv 15)) (blkOk_by (own := [("_law_block", 22)]) (N := ["_law_script", "_law_scale", "_law_k", "_law_places", "_law_ways_here", "_law_far", "_law_trips_here", "_law_roads", "_law_table", "_law_home", "_law_rows_here", "_law_low", "_law_longest", "_law_limit", "_law_alone", "_law_blocks_here", "_law_lengths_here", "_law_cars_here", "_law_fit", "_law_wanted", "_law_name_here", "_law_row", "_law_block", "_law_car"]) (sc := defScope s_law) (by decide +kernel)) (fun _ _ _ _ _ => pg_name (i := 22) sc_law.nd rfl (Or.inl rfl)) (fun _ _ _ _ _ => pts_nil) (fun _ _ _ _ _ => (pe_call G_l_length (hr.mono (by decide)) rfl T.d_l_length.g T.d_l_length.F.kp T.d_l_length.b .nil pass0 (pa_cons (pv 5) (pa_cons (pv 9) (pa_cons (pe_lc (own := [("_law_name_here", 20)]) (g := gName 20) (by rfl) sc_law.nd (pi_listK (K := K) rfl (pv 22)) (blkOk_by (own := [("_law_name_here", 20)]) (N := ["_law_script", "_law_scale", "_law_k", "_law_places", "_law_ways_here", "_law_far", "_law_trips_here", "_law_roads", "_law_table", "_law_home", "_law_rows_here", "_law_low", "_law_longest", "_law_limit", "_law_alone", "_law_blocks_here", "_law_lengths_here", "_law_cars_here", "_law_fit", "_law_wanted", "_law_name_here", "_law_row", "_law_block", "_law_car"]) (sc := ({ kind := .function, names := [(".0", .local), ("_law_block", .local), ("_law_length", .globalImplicit), ("_law_far", .cell), ("_law_home", .cell), ("_law_trips_here", .cell)], isGenerator := false, isCoroutine := false } : Scope)) (by decide +kernel)) (fun _ _ _ _ _ => pg_name (i := 20) sc_law.nd rfl (Or.inl rfl)) (fun _ _ _ _ _ => pts_nil) (fun _ _ _ _ _ => (pe_dget hu (pv 6) (pv 20) (fun _ _ => rfl)))) pa_nil)))))))
    (pss_cons (ps_if (PW.pt (pw_or (pt_cmpR op_gt (pe_callB (cr_max rfl) (by rfl) T.B.max (by decide +kernel) (pa_cons (pv 16) pa_nil)) (pv 13) (nomark _)) (pw_or1 (pt_not (pt_val (pe_call G_l_legs (hr.mono (by decide)) rfl T.d_l_legs.g T.d_l_legs.F.kp T.d_l_legs.b .nil pass0 (pa_cons (pv 7) (pa_cons (pv 8) (pa_cons (pv 9) (pa_cons (pv 15) pa_nil))))))))))
      (pss_one (ps_ret pe_bl))
      pss_nil)
    (pss_cons (ps_set (i := 17) sc_law.nd rfl (Or.inl rfl) (pe_call G_l_cars (hr.mono (by decide)) rfl T.d_l_cars.g T.d_l_cars.F.kp T.d_l_cars.b .nil pass0 (pa_cons (pv 0) (pa_cons (pv 12) pa_nil))))
    (pss_cons (ps_set (i := 18) sc_law.nd rfl (Or.inl rfl) (pe_lst pa_nil))
    (pss_cons (ps_for PassesOwn.never rfl (pi_range1 (by rfl) T.B.range (pa_cons (pe_callB call_len_seq (by rfl) T.B.len PySem.boot_len (pa_cons (pv 15) pa_nil)) pa_nil)) (pg_name (i := 2) sc_law.nd rfl (Or.inr rfl))
      (pss_cons (ps_set (i := 19) sc_law.nd rfl (Or.inr rfl) (pe_callB (cr_max rfl) (by rfl) T.B.max (by decide +kernel) (pa_cons (pe_lc (own := [("_law_name_here", 20)]) (g := gName 20) (by rfl) sc_law.nd (pi_list (pe_ix ix_list (pv 15) (pv 2) (fun _ _ => rfl))) (blkOk_by (own := [("_law_name_here", 20)]) (N := ["_law_script", "_law_scale", "_law_k", "_law_places", "_law_ways_here", "_law_far", "_law_trips_here", "_law_roads", "_law_table", "_law_home", "_law_rows_here", "_law_low", "_law_longest", "_law_limit", "_law_alone", "_law_blocks_here", "_law_lengths_here", "_law_cars_here", "_law_fit", "_law_wanted", "_law_name_here", "_law_row", "_law_block", "_law_car"]) (sc := defScope s_law) (by decide +kernel)) (fun _ _ _ _ _ => pg_name (i := 20) sc_law.nd rfl (Or.inl rfl)) (fun _ _ _ _ _ => pts_nil) (fun _ _ _ _ _ => (pe_ix (ix_tupK (K := K) rfl) (pe_dget hu (pv 6) (pv 20) (fun _ _ => rfl)) pe_int (fun _ _ => rfl)))) pa_nil)))
      (pss_one (ps_expr (pe_bm PySem.F.plainAttrs_list PySem.F.slot_list_append PySem.F.type_list_append mt_append (pv 18) (pa_cons (pe_lc (own := [("_law_car", 23)]) (g := gName 23) (by rfl) sc_law.nd (pi_list (pv 17)) (blkOk_by (own := [("_law_car", 23)]) (N := ["_law_script", "_law_scale", "_law_k", "_law_places", "_law_ways_here", "_law_far", "_law_trips_here", "_law_roads", "_law_table", "_law_home", "_law_rows_here", "_law_low", "_law_longest", "_law_limit", "_law_alone", "_law_blocks_here", "_law_lengths_here", "_law_cars_here", "_law_fit", "_law_wanted", "_law_name_here", "_law_row", "_law_block", "_law_car"]) (sc := defScope s_law) (by decide +kernel)) (fun _ _ _ _ _ => pg_name (i := 23) sc_law.nd rfl (Or.inl rfl)) (fun _ _ _ _ _ => (pts_one (PW.pt (pw_and (pt_cmpR op_ge (pe_ix (ix_tupK (K := K) rfl) (pv 23) pe_int (fun _ _ => rfl)) (pv 19) (nomark _)) (pw_and1 (pt_cmpR op_ge (pe_ix (ix_tupK (K := K) rfl) (pv 23) pe_int (fun _ _ => rfl)) (pe_ix (ix_listK (K := K) rfl) (pv 16) (pv 2) (fun _ _ => rfl)) (nomark _))))))) (fun _ _ _ _ _ => (pe_ix (ix_tupK (K := K) rfl) (pv 23) pe_int (fun _ _ => rfl)))) pa_nil))))))
    (pss_one (ps_ret (pe_call G_l_given (hr.mono (by decide)) rfl T.d_l_given.g T.d_l_given.F.kp T.d_l_given.b .nil pass0 (pa_cons (pv 8) (pa_cons (pv 9) (pa_cons (pv 15) (pa_cons (pv 17) (pa_cons (pv 18) pa_nil)))))))))))))))))))))))))))))), ?_⟩
  have hs := scale_in sc
  have hl := places_len sc
  have W := waysS_in sc
  -- the scale, the places
  refine q_asg (v := .int (scaleOf sc)) (ev_opL1 (xs := [V.int 1, V.int 40, V.int 100000]) (el_lst (ea_cons ev_c (ea_cons ev_c (ea_cons ev_c ea_nil))) (by simp)) (fun H1 e1 => ev_draw (ev_var rfl) ev_c ev_c (ex_l e1 hS) (by omega) (by omega) (by omega)) fun p H1 hp e1 => rv_ixL (sq_of hp) (atI_scale sc)) fun H1 e1 => ?_
  have hS1 := ex_l e1 hS
  have n2 := draw_nn (sc := sc) (k := 2) (m := 5) (by omega)
  refine q_asgL (xs := (placesOf sc).map V.str) (by
    have q := el_lcR1 (σ := [some (.ref a), some (.int (scaleOf sc)), none, none, none, none, none, none, none, none, none, none, none, none, none, none, none, none, none, none, none, none, none, none]) (H := H1) (ta := tCons (tOp (rI0 fun x y => .int (x + y)) (tC (.int 1)) (tCall (spDraw K) [] E0 (tCons (tVar 0) (tCons (tC (.int 2)) (tCons (tC (.int 5)) tNil))))) tNil) (j := 2) (vs := [2]) (t := tYes) (te := tCall (spName K) [] E0 (tCons (tVar 0) (tCons (tC (.int 0)) (tCons (tVar 2) tNil)))) (n := 1 + draw sc 2 5) (fun _ => true) (fun i => V.str (nameOf sc 0 (i : Int))) (ea_cons (ev_op ev_c (ev_draw (ev_var rfl) ev_c ev_c hS1 (by omega) (by omega) (by omega)) rv_I0) ea_nil) (by omega) (fun x => rfl) (fun i H2 e2 hi => et_yes) (fun i H2 e2 hi _ => ev_name (ev_var rfl) ev_c (ev_var rfl) (ex_l e2 hS1) (by omega) (by omega) (by omega) (by omega))
    have e : given (1 + draw sc 2 5).toNat (fun _ => true) (fun i => V.str (nameOf sc 0 (i : Int))) = (placesOf sc).map V.str := by
      unfold given placesOf
      rw [filter_all, List.map_map]; rfl
    rw [e] at q
    exact q) fun pl H2 hpl e2 hP2 => ?_
  have hS2 := ex_l (e1.trans e2) hS
  -- the ways, the lengths, the trips
  refine q_asgP (P := fun v H2 => ∃ p, v = .ref p ∧ WaysAt H2 p (waysS sc)) (ep_call (ea_cons (ev_var rfl) (ea_cons (ev_var rfl) (ea_cons (ev_var rfl) ea_nil))) fun H3 e Q1 q1 E1 => ⟨a, pl, sc, placesOf sc, scaleOf sc, rfl, ex_l e hS2, e _ _ hP2, hl.1, by omega, hs.1, hs.2, fun v H4 e4 h => q1 v H4 e4 h⟩) fun v H3 e3 ⟨wl, hv, hW⟩ => ?_
  subst hv
  have hP3 := e3 _ _ hP2
  refine q_asgP (P := fun v H2 => ∃ d, v = .ref d ∧ FarAt H2 d (placesOf sc) (farS sc)) (ep_call (ea_cons (ev_var rfl) (ea_cons (ev_var rfl) ea_nil)) fun H4 e Q1 q1 E1 => ⟨pl, wl, placesOf sc, waysS sc, rfl, e _ _ hP3, hW.mono (exr e), by omega, (roads_in sc).fewW, fun w hw => ⟨(W w hw).1, (W w hw).2.1, (W w hw).2.2.1⟩, fun v H5 e5 h => q1 v H5 e5 h⟩) fun v H4 e4 ⟨f, hv, hF⟩ => ?_
  subst hv
  have hP4 := e4 _ _ hP3
  have hS4 := ex_l (e3.trans e4) hS2
  refine q_asgP (P := fun v H2 => ∃ t ad, v = .ref t ∧ TripsAt H2 t (tripsS sc) ad) (ep_call (ea_cons (ev_var rfl) (ea_cons (ev_var rfl) (ea_cons (ev_var rfl) (ea_cons (ev_var rfl) ea_nil)))) fun H5 e Q1 q1 E1 => ⟨a, pl, f, sc, placesOf sc, farS sc, scaleOf sc, rfl, ex_l e hS4, e _ _ hP4, hF.mono (exr e), hl.1, by omega, hs.1, hs.2, fun v H6 e6 ⟨t, ad, h1, _, h3⟩ => q1 v H6 e6 ⟨t, ad, h1, h3⟩⟩) fun v H5 e5 ⟨t, ad, hv, hT⟩ => ?_
  subst hv
  have hP5 := e5 _ _ hP4
  -- the roads
  obtain ⟨ws, hw1, hw2⟩ := hW.mono (exr (e4.trans e5))
  have l1 : EvL (tCB (rListS K) (tCons (tVar 3) tNil)) [some (.ref a), some (.int (scaleOf sc)), none, some (.ref pl), some (.ref wl), some (.ref f), some (.ref t), none, none, none, none, none, none, none, none, none, none, none, none, none, none, none, none, none] H5 ((placesOf sc).map V.str) := el_list (ev_var rfl) (sq_of hP5)
  refine q_make (a_consL l1 fun p1 H6 hp1 e6 h6 => ?_)
  have l2 : EvL (tCB (rListS K) (tCons (tVar 4) tNil)) [some (.ref a), some (.int (scaleOf sc)), none, some (.ref pl), some (.ref wl), some (.ref f), some (.ref t), none, none, none, none, none, none, none, none, none, none, none, none, none, none, none, none, none] H6 (ws.map V.ref) := el_list (ev_var rfl) (sq_of (e6 _ _ hw1))
  refine a_consL l2 fun p2 H7 hp2 e7 h7 => a_nil fun r dxr hr0 hdr0 hner => ?_
  clear l1 l2
  have e78 : ∀ c u, H7 c = some u → upd (upd H7 dxr (.own r)) r (.ins T.CR dxr []) c = some u := fun c u hc => by
    rw [upd_ne (ne_of_none hc hr0), upd_ne (ne_of_none hc hdr0)]; exact hc
  have e58 := (e6.trans e7).trans e78
  refine ⟨r, p1, p2, dxr, placesOf sc, waysS sc, rfl, upd_same, e78 _ _ (e7 _ _ h6), ⟨ws, e78 _ _ h7, Paired.mapP hw2 fun _ _ h => e58 _ _ h⟩, roads_in sc, near_s sc, fun H8 eB hR => ⟨rfl, ?_⟩⟩
  have e58' : Ex H5 H8 := fun c u hc => eB c u (e58 c u hc) (ne_of_none ((e6.trans e7) _ _ hc) hr0)
  have hR : RoadsAt T.CR H8 r (placesOf sc) (farS sc) := hR
  have hT8 := hT.ex' e58'
  -- the table
  refine ⟨_, rfl, _, rfl, t, encT (tripsS sc) ad, rfl, .inl hT8.dk, fun q hq => fun b dxb hb0 hdb0 hneb => ?_⟩
  have e89 : ∀ c u, H8 c = some u → upd (upd (upd H8 q (.lst ((encT (tripsS sc) ad).map fun kv => kv.2))) dxb (.own b)) b (.ins T.CT dxb []) c = some u := fun c u hc => by
    have h1 : upd H8 q (.lst ((encT (tripsS sc) ad).map fun kv => kv.2)) c = some u := by rw [upd_ne (ne_of_none hc hq)]; exact hc
    rw [upd_ne (ne_of_none h1 hb0), upd_ne (ne_of_none h1 hdb0)]; exact h1
  have hql : upd (upd (upd H8 q (.lst ((encT (tripsS sc) ad).map fun kv => kv.2))) dxb (.own b)) b (.ins T.CT dxb []) q = some (.lst (((tripsS sc).map fun u => ad u.name).map V.ref)) := by
    have h1 : upd H8 q (.lst ((encT (tripsS sc) ad).map fun kv => kv.2)) q = some (.lst (((tripsS sc).map fun u => ad u.name).map V.ref)) := by
      rw [upd_same]; unfold encT; rw [List.map_map, List.map_map]; rfl
    rw [upd_ne (ne_of_none h1 hb0), upd_ne (ne_of_none h1 hdb0)]; exact h1
  refine ⟨b, r, q, dxb, placesOf sc, farS sc, tripsS sc, rfl, upd_same, hR.mono (exr e89), ?_, ⟨_, hql, paired_map _ _ fun u hu => e89 _ _ (hT8.tup u hu)⟩, tripsS_nd sc, trip_ok sc, Nat.le_trans (trips_len sc) (by omega), fun H9 ad2 eB9 hT9 => ⟨rfl, ?_⟩⟩
  · obtain ⟨_, _, _, _, _, h1, _⟩ := (hR.mono (exr (H' := upd H8 q (.lst ((encT (tripsS sc) ad).map fun kv => kv.2))) (Ex.new hq))).ex
    exact ne_of_none h1 hb0
  have e89' : Ex H8 H9 := fun c u hc => eB9 c u (e89 c u hc) (ne_of_none (Ex.new (o := .lst ((encT (tripsS sc) ad).map fun kv => kv.2)) hq c u hc) hb0)
  have e59 := e58'.trans e89'
  have hD : DayAt K T.CT T.CR sc H9 a pl f t r b ad ad2 := ⟨ex_l (e5.trans e59) hS4, e59 _ _ hP5, hF.mono (exr (e5.trans e59)), hT8.ex' e89', hR.mono (exr e89'), hT9⟩
  have hTb9 : LamX.Tabs [(T.PN, qN)] H9 := hTb.ext ((((e1.trans e2).trans e3).trans e4).trans (e5.trans e59))
  clear e59 e89' eB9 hT9 hql e89 hneb hdb0 hb0 dxb hq q hT8 hR e58' eB e58 e78 hner hdr0 hr0 h7 e7 hp2 h6 e6 hp1 hw2 hw1 hP5 hT e5 hS4 hP4 hF e4 hP3 hW e3 hS2 hP2 e2 hpl hS1 e1 hS hTb
  -- home
  refine q_cut (M := fun σ' H' => σ' = [some (.ref a), some (.int (scaleOf sc)), none, some (.ref pl), some (.ref wl), some (.ref f), some (.ref t), some (.ref r), some (.ref b), some (.str (homeOf sc)), none, none, none, none, none, none, none, none, none, none, none, none, none, none] ∧ DayAt K T.CT T.CR sc H' a pl f t r b ad ad2 ∧ LamX.Tabs [(T.PN, qN)] H') (s_asg (v := .str (homeOf sc)) (by
    have q : Ev (tCB (rLenS K) (tCons (tVar 3) tNil)) [some (.ref a), some (.int (scaleOf sc)), none, some (.ref pl), some (.ref wl), some (.ref f), some (.ref t), some (.ref r), some (.ref b), none, none, none, none, none, none, none, none, none, none, none, none, none, none, none] H9 (.int ((placesOf sc).length : Int)) := by
      have := ev_len (K := K) (σ := [some (.ref a), some (.int (scaleOf sc)), none, some (.ref pl), some (.ref wl), some (.ref f), some (.ref t), some (.ref r), some (.ref b), none, none, none, none, none, none, none, none, none, none, none, none, none, none, none]) (ta := tVar 3) (ev_var rfl) (sq_of hD.P)
      rw [List.length_map] at this
      exact this
    exact ev_op (ev_var rfl) (ev_draw (ev_var rfl) ev_c q hD.S (by omega) (by omega) (by omega)) (rv_ixL (sq_of hD.P) (atI_home sc))) fun H10 e10 => ⟨rfl, hD.x e10, hTb9.ext e10⟩) ?_
  rintro _ H10 ⟨rfl, hD10, hTb10⟩
  clear hD hTb9
  have ok := offS_ok sc ad2
  have tx := offS_tx sc ad2
  have hh : homeOf sc ∈ (offS sc ad2).ps := home_in sc
  have nd := tripsS_nd sc
  have hps : ∀ u ∈ tripsS sc, u.origin ∈ placesOf sc ∧ u.goal ∈ placesOf sc := fun u hu => ⟨(trip_facts sc u hu).2.1, (trip_facts sc u hu).2.2.1⟩
  -- the chains
  refine ⟨_, rfl, b, offS sc ad2, rfl, ok, hD10.B, hTb10, fun v H11 eN hTb11 ⟨d, xs, kvs, hv, hp, h1, h2, h3⟩ => ?_⟩
  subst hv
  refine ⟨d, xs, (offS sc ad2).row xs, rfl, ordAt_of h1 h2 h3, ord_of ok tx hp, fun v H12 e12 ⟨cl, cs, ow, fl, Dd, hv, hLc, hOw, hhd, hFu⟩ => ?_⟩
  subst hv
  obtain ⟨hpr, hcs⟩ := Parts.chains ok tx hp hOw hhd hFu
  have eN2 := eN.trans (LamX.ExtN.of e12)
  have hD12 := hD10.n eN2
  have hTb12 := hTb11.ext e12
  clear hD10 hTb10 hTb11 h1 h2 h3 kvs
  -- apart
  refine ⟨_, rfl, b, offS sc ad2, rfl, ok, hD12.B, hTb12, fun v H13 eN3 hTb13 ⟨d', xs', kvs', hv, hp', h1, h2, h3⟩ => ?_⟩
  subst hv
  refine ⟨d', xs', (offS sc ad2).row xs', rfl, ordAt_of h1 h2 h3, ord_of ok tx hp', fun v H14 e14 ⟨ll, ow', fl', D', LL0, RR, hv, hOw', hRe, hLl⟩ => ?_⟩
  subst hv
  have hll := low_len ok tx hp hp' hOw hhd hFu hOw' hRe
  generalize hA : (xs'.filter fun n => decide (kS n ∈ LL0) && !decide (n ∈ RR)) = A at hLl hll
  obtain ⟨a1, a2, a3, a4⟩ := low_facts ok hp' hRe hA.symm
  have eN4 := eN3.trans (LamX.ExtN.of e14)
  have hD := hD12.n eN4
  have hTb := hTb13.ext e14
  have hLc := hLc.mono (exr_n eN4)
  rw [← hcs] at hLc
  have hrl : ((offS sc ad2).rows cs).length = cs.length := List.length_map _
  generalize (offS sc ad2).rows cs = rows at hpr hcs hLc hrl
  have hAl : A.length = rows.length := by omega
  clear hD12 hTb12 hTb13 h1 h2 h3 kvs' hRe hOw' hOw hhd hFu hp hp' eN eN2 eN3 eN4 e12 e14
  have R0 := Parts.rowsIn ok hpr
  have hz40 : (tripsS sc).length ≤ 40 := Nat.le_trans (trips_len sc) (by omega)
  have few := hpr.few ok
  have hlow40 : (A.map (offS sc ad2).trip).length ≤ 40 := by rw [List.length_map, hAl]; exact few
  -- the check of the chains
  refine q_when (b := false) (et_is (et_or (a := false) (b := false) (et_is (et_not (et_B (ev_lrows (ev_var rfl) (ev_var rfl) (ev_var rfl) hLc hD.T hD.F nd hz40 hps R0))) rfl)
    (fun _ => et_is (et_or (a := false) (b := false) (et_is (et_not (et_B (ev_lapart (L := A.map (offS sc ad2).trip) (ev_var rfl) (ev_var rfl) (ev_var rfl) (by rw [a1]; exact hLl) hD.T hD.F nd hlow40 hps a3 (by rw [a1]; exact a2) a4))) rfl)
      (fun _ => et_is (et_test (ev_op (ev_lenSt (ev_var rfl) hLl) (ev_lenLL (ev_var rfl) hLc) (rv_ne rfl))) (by rw [List.length_map, hAl]; simp))) rfl)) rfl) (fun z => by cases z) (fun _ H15 e15 => ?_)
  have hD := hD.x e15
  have hTb := hTb.ext e15
  have hLc := hLc.mono (exr e15)
  have hLl := e15 _ _ hLl
  have htx : ∀ xs ∈ rows.map nms, ∀ x ∈ xs, x.cps.all (· < 0x110000) = true := fun xs hx x hxx => by
    obtain ⟨r, hr, rfl⟩ := List.mem_map.mp hx
    obtain ⟨u, hu, rfl⟩ := List.mem_map.mp hxx
    exact tx u ((hpr.ok r hr).mem u hu)
  -- no trips
  refine q_when (b := decide (rows.map nms = [])) (et_test (ev_opL (xs := []) (ev_var rfl) (el_lst ea_nil (by simp)) fun p H1 hp e1 => rv_eqNil (hLc.mono (exr e1)) hp htx)) (fun _ H16 e16 => ?_) (fun hb H16 e16 => ?_)
  · exact s_ret (ev_andV (ev_give0 (ev_var rfl) (ev_var rfl) ok (hD.x e16).B hh) fun _ => ev_legs0 (ev_var rfl) (ev_var rfl) ok (hD.x e16).B hh) fun H17 e17 => k H17
  have hne : rows ≠ [] := fun z => by rw [z] at hb; simp at hb
  have hD := hD.x e16
  have hTb := hTb.ext e16
  have hLc := hLc.mono (exr e16)
  have hLl := e16 _ _ hLl
  -- the longest
  have mem : ∀ r ∈ rows, ∀ u ∈ r, u ∈ tripsS sc := fun r hr => (hpr.ok r hr).mem
  have rne : ∀ r ∈ rows, r ≠ [] := fun r hr => (hpr.ok r hr).ne
  have rz : ∀ r ∈ rows, r.length ≤ 1000 := fun r hr => Nat.le_trans (hpr.rlen ok r hr) (by omega)
  refine q_asg (v := .int (mostOf (rows.map (lenL (farS sc) (homeOf sc))))) (ev_max (el_lens (ev_var rfl) hLc hD.T nd hD.F hps mem rne rz (by omega) hh (fun x => rfl) (fun x => rfl) (fun x => rfl) (fun x => rfl) (fun x y => rfl) (fun x y => rfl) (fun x y => rfl)) (by simpa using hne)) fun H17 e17 => ?_
  have lenE : ∀ r, r ≠ [] → lenL (farS sc) (homeOf sc) r = (offS sc ad2).len (homeOf sc) r := fun r h => lenL_len (offS sc ad2) (homeOf sc) h
  have g1 : ∀ r ∈ rows, (offS sc ad2).len (homeOf sc) r ≤ mostOf (rows.map (lenL (farS sc) (homeOf sc))) := fun r hr => by
    rw [← lenE r (rne r hr)]
    exact mostOf_le (List.mem_map.mpr ⟨r, hr, rfl⟩)
  have g2 : ∃ r ∈ rows, (offS sc ad2).len (homeOf sc) r = mostOf (rows.map (lenL (farS sc) (homeOf sc))) := by
    obtain ⟨r, hr, e⟩ := List.mem_map.mp (mostOf_mem (ns := rows.map (lenL (farS sc) (homeOf sc))) (by simpa using hne))
    exact ⟨r, hr, by rw [← lenE r (rne r hr)]; exact e⟩
  generalize mostOf (rows.map (lenL (farS sc) (homeOf sc))) = longest at g1 g2
  have g0 : 0 ≤ longest ∧ longest ≤ 500000000 := by
    obtain ⟨r, hr, e⟩ := g2
    rw [← e]
    exact ⟨len_nn ok hh (mem r hr), lenS_le sc ad2 hh (hpr.ok r hr)⟩
  have g3 : ∀ u ∈ tripsS sc, (offS sc ad2).len (homeOf sc) [u] ≤ longest := fun u hu => by
    obtain ⟨r, hr, h⟩ := hpr.all ok u hu
    exact Int.le_trans (len_one ok hh (mem r hr) h) (g1 r hr)
  refine q_asg (v := .int longest) (ev_var rfl) fun H18 e18 => ?_
  have hD := (hD.x e17).x e18
  have hTb := (hTb.ext e17).ext e18
  have hLc := (hLc.mono (exr e17)).mono (exr e18)
  have hLl := e18 _ _ (e17 _ _ hLl)
  -- the limit
  refine q_cut (M := fun σ' H' => ∃ v lim, σ' = [some (.ref a), some (.int (scaleOf sc)), none, some (.ref pl), some (.ref wl), some (.ref f), some (.ref t), some (.ref r), some (.ref b), some (.str (homeOf sc)), some (.ref cl), some (.ref ll), some (.int longest), some (.int lim), v, none, none, none, none, none, none, none, none, none] ∧ Ex H18 H' ∧ ∀ u ∈ tripsS sc, (offS sc ad2).len (homeOf sc) [u] ≤ lim) ?_ ?_
  · refine s_when (b := decide (0 < draw sc 19 3)) (et_test (ev_op (ev_draw (ev_var rfl) ev_c ev_c hD.S (by omega) (by omega) (by omega)) ev_c rv_I0)) (fun _ H19 e19 => ?_) (fun _ H19 e19 => ⟨none, longest, rfl, e19, g3⟩)
    have hD := hD.x e19
    have tne : tripsS sc ≠ [] := fun z => by
      obtain ⟨r, hr, _⟩ := g2
      obtain ⟨u, hu⟩ := List.exists_mem_of_ne_nil r (rne r hr)
      have := mem r hr u hu
      rw [z] at this; cases this
    refine q_asg (v := .int (mostOf ((tripsS sc).map fun u => lenL (farS sc) (homeOf sc) [u]))) (ev_max (el_alone rfl hD.T nd hD.F hps (by omega) hh (fun x => rfl) (fun x => rfl) (fun x => rfl) (fun x => rfl) (fun x => rfl)) (by simpa using tne)) fun H20 e20 => ?_
    have a1 : ∀ u ∈ tripsS sc, (offS sc ad2).len (homeOf sc) [u] ≤ mostOf ((tripsS sc).map fun u => lenL (farS sc) (homeOf sc) [u]) := fun u hu => by
      rw [← lenE [u] (by simp)]
      exact mostOf_le (List.mem_map.mpr ⟨u, hu, rfl⟩)
    have a2 : mostOf ((tripsS sc).map fun u => lenL (farS sc) (homeOf sc) [u]) ≤ longest := by
      obtain ⟨u, hu, e⟩ := List.mem_map.mp (mostOf_mem (ns := (tripsS sc).map fun u => lenL (farS sc) (homeOf sc) [u]) (by simpa using tne))
      rw [← e]
      show lenL (farS sc) (homeOf sc) [u] ≤ longest
      rw [lenE [u] (by simp)]
      exact g3 u hu
    generalize mostOf ((tripsS sc).map fun u => lenL (farS sc) (homeOf sc) [u]) = alone at a1 a2
    have d17 := draw_nn (sc := sc) (k := 17) (m := 1 + longest - alone) (by omega)
    refine s_asg (v := .int (alone + draw sc 17 (1 + longest - alone))) (ev_op (ev_var rfl) (ev_draw (ev_var rfl) ev_c (ev_op (ev_op ev_c (ev_var rfl) rv_I0) (ev_var rfl) rv_I0) (hD.x e20).S (by omega) (by omega) (by omega)) rv_I0) fun H21 e21 => ⟨_, _, rfl, (e19.trans e20).trans e21, fun u hu => by have := a1 u hu; omega⟩
  rintro _ H19 ⟨v14, lim, rfl, e19, hlim⟩
  have hD := hD.x e19
  have hTb := hTb.ext e19
  have hLc := hLc.mono (exr e19)
  have hLl := e19 _ _ hLl
  -- the blocks
  have hlimR : ∀ r ∈ rows, ∀ u ∈ r, (offS sc ad2).len (homeOf sc) [u] ≤ lim := fun r hr u hu => hlim u (mem r hr u hu)
  have hfl : rows.flatten.length ≤ 12 := by have h1 := hpr.len; have h2 : (offS sc ad2).ts.length ≤ 12 := trips_len sc; omega
  refine q_asgP (P := fun v H2 => ∃ l, v = .ref l ∧ LL H2 l ((cutRows (offS sc ad2) (homeOf sc) lim rows).map nms)) (ep_call (ea_cons (ev_var rfl) (ea_cons (ev_var rfl) (ea_cons (ev_var rfl) (ea_cons (ev_var rfl) ea_nil)))) fun H20 e Q1 q1 E1 => ⟨b, cl, offS sc ad2, homeOf sc, rows, lim, rfl, ok, hD.B.ex' e, hh, hLc.mono (exr e), hpr.ok, by omega, hlimR, fun v H21 e21 h => q1 v H21 e21 h⟩) fun v H20 e20 ⟨bl, hv, hLb⟩ => ?_
  subst hv
  have hpb := hpr.cut (homeOf sc) lim
  have bfit := cutRows_fit (o := offS sc ad2) hlimR
  have bsame : lim = longest → cutRows (offS sc ad2) (homeOf sc) lim rows = rows := fun e => cutRows_same ok hh hpr.ok (by rw [e]; exact g1)
  generalize cutRows (offS sc ad2) (homeOf sc) lim rows = blocks at hLb hpb bfit bsame
  have hge : A.length ≤ blocks.length := by
    have := hpb.ge ok tx a3 (by rw [a1]; exact a2) (fun x hx y hy => by rw [← lk_lkF]; exact a4 x hx y hy)
    rwa [List.length_map] at this
  have R1 := Parts.rowsIn ok hpb
  have hD := hD.x e20
  have hTb := hTb.ext e20
  have hLc := hLc.mono (exr e20)
  have hLl := e20 _ _ hLl
  -- the check of the blocks
  refine q_when (b := false) (et_is (et_or (a := false) (b := false) (et_is (et_not (et_B (ev_lrows (ev_var rfl) (ev_var rfl) (ev_var rfl) hLb hD.T hD.F nd hz40 hps R1))) rfl)
    (fun _ => et_is (et_or (a := false) (b := false) (et_is (et_test (ev_op (ev_lenLL (ev_var rfl) hLb) (ev_lenSt (ev_var rfl) hLl) rv_I0)) (decide_eq_false (by rw [List.length_map]; omega)))
      (fun _ => et_is (et_and (a := decide (lim = longest)) (b := false) (et_is (et_test (ev_op (ev_var rfl) (ev_var rfl) (rv_eq rfl))) (dec_int _ _)) (fun h => et_test (ev_op (ev_var rfl) (ev_var rfl) (rv_neLists (by rw [bsame (of_decide_eq_true h)] at hLb; exact hLb) hLc htx)))) (by simp))) rfl)) rfl) (fun z => by cases z) (fun _ H21 e21 => ?_)
  have hD := hD.x e21
  have hTb := hTb.ext e21
  have hLb := hLb.mono (exr e21)
  -- the lengths
  have bne : ∀ r ∈ blocks, r ≠ [] := fun r hr => (hpb.ok r hr).ne
  have bmem : ∀ r ∈ blocks, ∀ u ∈ r, u ∈ tripsS sc := fun r hr => (hpb.ok r hr).mem
  have bz : ∀ r ∈ blocks, r.length ≤ 1000 := fun r hr => Nat.le_trans (hpb.rlen ok r hr) (by omega)
  have bfew := hpb.few ok
  have bn0 : blocks ≠ [] := fun z => by
    obtain ⟨r, hr, _⟩ := g2
    obtain ⟨u, hu⟩ := List.exists_mem_of_ne_nil r (rne r hr)
    obtain ⟨r2, hr2, _⟩ := hpb.all ok u (mem r hr u hu)
    rw [z] at hr2; cases hr2
  refine q_asgL (el_lens (ev_var rfl) hLb hD.T nd hD.F hps bmem bne bz (by omega) hh (fun x => rfl) (fun x => rfl) (fun x => rfl) (fun x => rfl) (fun x y => rfl) (fun x y => rfl) (fun x y => rfl)) fun ls H22 hls0 e22 hls => ?_
  have hD := hD.x e22
  have hTb := hTb.ext e22
  have hLb := hLb.mono (exr e22)
  -- the legs
  refine q_whenOrB (et_is (et_test (ev_op (ev_maxV (ev_var rfl) (sq_of hls) (by simpa using bn0)) (ev_var rfl) rv_I0)) (decide_eq_false (by
    obtain ⟨r, hr, e⟩ := List.mem_map.mp (mostOf_mem (ns := blocks.map (lenL (farS sc) (homeOf sc))) (by simpa using bn0))
    rw [← e, lenE r (bne r hr)]
    have := bfit r hr
    omega))) fun H23 e23 => ⟨_, rfl, _, rfl, _, rfl, _, rfl, r, b, bl, offS sc ad2, homeOf sc, blocks, rfl, ok, (hD.x e23).B, (hD.x e23).R, hh, hLb.mono (exr e23), hpb.ok, hpb.pm.nodup_iff.mpr ok.nd, by have h1 := hpb.len; have h2 : (offS sc ad2).ts.length ≤ 12 := trips_len sc; omega, fun u hu => (trip_facts sc u (hpb.mem u hu)).1, legsS_ok sc ad2 (home_in sc) hpb, legsS_off sc ad2 (home_in sc) hpb, hTb.ext e23, fun H24 eN hTb24 => ⟨true, rfl, ?_⟩⟩
  rw [if_neg (by simp)]
  have eN2 := (LamX.ExtN.of e23).trans eN
  have hD := hD.n eN2
  have hLb := hLb.mono (exr_n eN2)
  have hls := (exr_n eN2).lst hls
  clear eN2 eN hTb24 hTb hLc hLl e23
  -- the cars
  refine q_asgP (P := fun v H2 => ∃ c, v = .ref c ∧ CarsAt H2 c (carsOf sc longest)) (ep_call (ea_cons (ev_var rfl) (ea_cons (ev_var rfl) ea_nil)) fun H25 e Q1 q1 E1 => ⟨a, sc, longest, rfl, ex_l e hD.S, g0.1, fun v H26 e26 h => q1 v H26 e26 h⟩) fun v H25 e25 ⟨cc, hv, hC⟩ => ?_
  subst hv
  have hci := carsIn (sc := sc) (L := longest) g0.1 g0.2
  have hc9 : (carsOf sc longest).length ≤ 9 := by
    have := draw_nn (sc := sc) (k := 120) (m := 9) (by omega)
    unfold carsOf
    rw [List.length_map, List.length_range]; omega
  generalize hcs2 : carsOf sc longest = cars at hC hci hc9
  have hD := hD.x e25
  have hLb := hLb.mono (exr e25)
  have hls := e25 _ _ hls
  obtain ⟨bs, hb1, hb2⟩ := id hLb
  have hbl : bs.length = blocks.length := by have := Paired.length hb2; rw [List.length_map] at this; exact this
  refine q_asgL (el_lst ea_nil (by simp)) fun fl H26 hfl0 e26 hfl1 => ?_
  -- who fits
  refine q_forR1 (n := (blocks.length : Int)) (ea_cons (by
      have := ev_lenLL (K := K) (σ := [some (.ref a), some (.int (scaleOf sc)), none, some (.ref pl), some (.ref wl), some (.ref f), some (.ref t), some (.ref r), some (.ref b), some (.str (homeOf sc)), some (.ref cl), some (.ref ll), some (.int longest), some (.int lim), v14, some (.ref bl), some (.ref ls), some (.ref cc), some (.ref fl), none, none, none, none, none]) (ta := tVar 15) (ev_var rfl) (hLb.mono (exr e26))
      rw [List.length_map] at this
      exact this) ea_nil) (by omega)
    (fun i σ' H' => (∃ v2 v19, σ' = [some (.ref a), some (.int (scaleOf sc)), v2, some (.ref pl), some (.ref wl), some (.ref f), some (.ref t), some (.ref r), some (.ref b), some (.str (homeOf sc)), some (.ref cl), some (.ref ll), some (.int longest), some (.int lim), v14, some (.ref bl), some (.ref ls), some (.ref cc), some (.ref fl), v19, none, none, none, none]) ∧ Ex H25 H' ∧ ∃ as : List Addr, H' fl = some (.lst (as.map V.ref)) ∧ ListsAt H' as ((blocks.take i).map (fitRow (offS sc ad2) (homeOf sc) cars)) ∧ ∀ c ∈ as, c ≠ fl)
    (fun H27 e27 => ⟨⟨_, _, rfl⟩, e26.trans e27, [], e27 _ _ hfl1, .nil, by simp⟩) ?_ ?_
  · rintro i σ' H' hi ⟨⟨v2, v19, rfl⟩, e, as, has, hL, hnl⟩
    have hi' : i < blocks.length := by omega
    obtain ⟨r1, hr1⟩ : ∃ x, blocks[i]? = some x := ⟨blocks[i], List.getElem?_eq_getElem hi'⟩
    obtain ⟨bb, hbb⟩ : ∃ x, bs[i]? = some x := ⟨bs[i], List.getElem?_eq_getElem (by omega)⟩
    obtain ⟨ns, hn, hbn⟩ := paired_get hb2 hbb
    rw [List.getElem?_map, hr1] at hn
    cases hn
    have hrm := List.mem_of_getElem? hr1
    have tk : blocks.take (i + 1) = blocks.take i ++ [r1] := by rw [List.take_add_one, hr1]; rfl
    refine q_asg (v := .int (mostOf (r1.map fun u => u.seats))) (ev_max (el_seats (c := bb) (ev_op (ev_var rfl) (ev_var rfl) (rv_ixL (sq_of (e _ _ hb1)) (atI_nat (by rw [List.getElem?_map, hbb]; rfl)))) (sq_of (e _ _ hbn)) (hD.x e).T nd (bmem _ hrm) (bz _ hrm) (fun x => rfl) (fun x => rfl) (fun x => rfl)) (by simpa using bne _ hrm)) fun H28 e28 => ?_
    have e08 := e.trans e28
    refine s_appL (xs := as.map V.ref) (ys := (fitRow (offS sc ad2) (homeOf sc) cars r1).map V.str) (e28 _ _ has) (ev_var rfl) (el_fit (m := mostOf (r1.map fun u => u.seats)) (n := (offS sc ad2).len (homeOf sc) r1) (ev_var rfl) (hC.ex' e08) (by omega) (fun x => rfl) (fun x => rfl) (fun x H1 e1 => ev_var rfl) (fun x H1 e1 => ev_op (ev_var rfl) (ev_var rfl) (rv_ixL (sq_of ((e08.trans e1) _ _ hls)) (atI_nat (by
        rw [List.getElem?_map, List.getElem?_map, hr1]
        show some (V.int (lenL (farS sc) (homeOf sc) r1)) = _
        rw [lenE _ (bne _ hrm)]))))) (by
        have := Paired.length hL
        rw [List.length_map, List.length_take] at this
        rw [List.length_map]; omega) fun u H29 hu0 e29 hu29 => ?_
    have hul : u ≠ fl := fun z => by rw [z, e28 _ _ has] at hu0; cases hu0
    refine ⟨⟨_, _, rfl⟩, Ex.mut (e08.trans e29) hfl0, as ++ [u], by rw [upd_same, List.map_append]; rfl, ?_, ?_⟩
    · rw [tk, List.map_append]
      refine paired_mem (F := fun (a : Addr) (xs : List Str) => H29 a = some (.lst (xs.map V.str))) (paired_add (hL.mono (exr (e28.trans e29))) hu29) fun c hc x hx => ?_
      rw [upd_ne]; exact hx
      rcases List.mem_append.mp hc with z | z
      · exact hnl c z
      · have : c = u := by simpa using z
        rw [this]; exact hul
    · intro c hc
      rcases List.mem_append.mp hc with z | z
      · exact hnl c z
      · have : c = u := by simpa using z
        rw [this]; exact hul
  · rintro σ' H27 ⟨⟨v2, v19, rfl⟩, e, as, has, hL, _⟩
    rw [Int.toNat_natCast, List.take_length] at hL
    exact s_ret (v := .bl true) (ev_call (ea_cons (ev_var rfl) (ea_cons (ev_var rfl) (ea_cons (ev_var rfl) (ea_cons (ev_var rfl) (ea_cons (ev_var rfl) ea_nil))))) fun H28 e28 Q1 q1 E1 => ⟨b, bl, cc, fl, offS sc ad2, homeOf sc, blocks, cars, rfl, ok, (hD.x (e.trans e28)).B, hh, hLb.mono (exr (e.trans e28)), hpb.ok, bz, bfew, hC.ex' (e.trans e28), hci, ⟨as, e28 _ _ has, hL.mono (exr e28)⟩, hci.nd, hc9, fun H29 e29 => q1 H29 e29⟩) fun H28 e28 => k H28
end
end K49
/-! K49Fin -/
/-! The end. -/
namespace K49
open PySem PySem.Spec PyProof.Rows L2 K49H
theorem tnames_code {K : PySem.W.Frag} {x qual : Str} {params : Arguments} {body : List Stmt} {scope : Scope} {dvs : List V} {kws : List (Str × V)} {p : Str × Option Str} {fd : FuncData} (F : FunD K x qual params body scope dvs kws (He.fAd K p) fd) : fd.code = .ref (He.cT K p).1 := by
  obtain ⟨oc, od, dV, kV, doc, pm, an, cdv, ct, osl, rfl, lk, hcd, _, _⟩ := F.ex
  obtain ⟨z, e⟩ := He.codeIn_ref hcd
  have e2 : (PySem.W.fnOf x qual params body scope dV kV doc pm an cdv ct).code = .ref z := e
  rw [e2]
  exact congrArg Value.ref (He.codeOf_eq lk e2).symm
theorem facts {K : PySem.W.Frag} {h : Heap} {mg : Str → Option Value} (X : K.In h) (G : h.Ns mainGlobals mg) (c : SaysK h K) : ∃ T : Tx K mg, T.cN = (He.cT K ("Table", some "names")).1 ∧ T.PN = (He.cT K ("Table", some "names")).2 ∧ T.f_law = He.ga K "law" := by
  have ex := c.ex
  unfold exK at ex
  obtain ⟨x1, ex⟩ := He.ba ex
  obtain ⟨x2, ex⟩ := He.ba ex
  obtain ⟨x3, ex⟩ := He.ba ex
  obtain ⟨x4, ex⟩ := He.ba ex
  obtain ⟨x5, ex⟩ := He.ba ex
  obtain ⟨x6, ex⟩ := He.ba ex
  obtain ⟨x7, x8⟩ := He.ba ex
  have xf := xfB_ok x2
  obtain ⟨z_gap, F_gap⟩ := c.d.def_ 0 (d := d_gap) rfl
  obtain ⟨z_linked, F_linked⟩ := c.d.def_ 1 (d := d_linked) rfl
  obtain ⟨z_links, F_links⟩ := c.d.def_ 2 (d := d_links) rfl
  obtain ⟨z_check_place, F_check_place⟩ := c.d.def_ 3 (d := d_check_place) rfl
  obtain ⟨z_check_links, F_check_links⟩ := c.d.def_ 4 (d := d_check_links) rfl
  obtain ⟨z_check_row, F_check_row⟩ := c.d.def_ 5 (d := d_check_row) rfl
  obtain ⟨z_minutes_between, F_minutes_between⟩ := c.d.def_ 6 (d := d_minutes_between) rfl
  obtain ⟨z_block_length, F_block_length⟩ := c.d.def_ 7 (d := d_block_length) rfl
  obtain ⟨z_cut, F_cut⟩ := c.d.def_ 8 (d := d_cut) rfl
  obtain ⟨z_leg_of, F_leg_of⟩ := c.d.def_ 9 (d := d_leg_of) rfl
  obtain ⟨z_legs, F_legs⟩ := c.d.def_ 10 (d := d_legs) rfl
  obtain ⟨z_checked_name, F_checked_name⟩ := c.d.def_ 11 (d := d_checked_name) rfl
  obtain ⟨z_checked_number, F_checked_number⟩ := c.d.def_ 12 (d := d_checked_number) rfl
  obtain ⟨z_check_rows, F_check_rows⟩ := c.d.def_ 13 (d := d_check_rows) rfl
  obtain ⟨z_find_one, F_find_one⟩ := c.d.def_ 14 (d := d_find_one) rfl
  obtain ⟨z_owners_of, F_owners_of⟩ := c.d.def_ 15 (d := d_owners_of) rfl
  obtain ⟨z_matching, F_matching⟩ := c.d.def_ 16 (d := d_matching) rfl
  obtain ⟨z_reached, F_reached⟩ := c.d.def_ 17 (d := d_reached) rfl
  obtain ⟨z_cover, F_cover⟩ := c.d.def_ 18 (d := d_cover) rfl
  obtain ⟨z_lacking, F_lacking⟩ := c.d.def_ 19 (d := d_lacking) rfl
  obtain ⟨z_dealt, F_dealt⟩ := c.d.def_ 21 (d := d_dealt) rfl
  obtain ⟨z_check_cars, F_check_cars⟩ := c.d.def_ 22 (d := d_check_cars) rfl
  obtain ⟨z_fit_cars, F_fit_cars⟩ := c.d.def_ 23 (d := d_fit_cars) rfl
  obtain ⟨z_give_cars, F_give_cars⟩ := c.d.def_ 24 (d := d_give_cars) rfl
  obtain ⟨z_check_behind, F_check_behind⟩ := c.d.def_ 25 (d := d_check_behind) rfl
  obtain ⟨z_check_order, F_check_order⟩ := c.d.def_ 26 (d := d_check_order) rfl
  obtain ⟨z_chains, F_chains⟩ := c.d.def_ 27 (d := d_chains) rfl
  obtain ⟨z_apart, F_apart⟩ := c.d.def_ 28 (d := d_apart) rfl
  obtain ⟨z_check_roads, F_check_roads⟩ := c.d.def_ 29 (d := d_check_roads) rfl
  obtain ⟨z_heights_from, F_heights_from⟩ := c.d.def_ 30 (d := d_heights_from) rfl
  obtain ⟨z_check_trip, F_check_trip⟩ := c.d.def_ 34 (d := d_check_trip) rfl
  obtain ⟨z_l_draw, F_l_draw⟩ := c.d.def_ 38 (d := d_l_draw) rfl
  obtain ⟨z_l_name, F_l_name⟩ := c.d.def_ 39 (d := d_l_name) rfl
  obtain ⟨z_l_ways, F_l_ways⟩ := c.d.def_ 40 (d := d_l_ways) rfl
  obtain ⟨z_l_lengths, F_l_lengths⟩ := c.d.def_ 41 (d := d_l_lengths) rfl
  obtain ⟨z_l_trips, F_l_trips⟩ := c.d.def_ 42 (d := d_l_trips) rfl
  obtain ⟨z_l_linked, F_l_linked⟩ := c.d.def_ 43 (d := d_l_linked) rfl
  obtain ⟨z_l_length, F_l_length⟩ := c.d.def_ 44 (d := d_l_length) rfl
  obtain ⟨z_l_rows, F_l_rows⟩ := c.d.def_ 45 (d := d_l_rows) rfl
  obtain ⟨z_l_apart, F_l_apart⟩ := c.d.def_ 46 (d := d_l_apart) rfl
  obtain ⟨z_l_like, F_l_like⟩ := c.d.def_ 47 (d := d_l_like) rfl
  obtain ⟨z_l_few, F_l_few⟩ := c.d.def_ 48 (d := d_l_few) rfl
  obtain ⟨z_l_given, F_l_given⟩ := c.d.def_ 49 (d := d_l_given) rfl
  obtain ⟨z_l_cars, F_l_cars⟩ := c.d.def_ 50 (d := d_l_cars) rfl
  obtain ⟨z_l_blocks, F_l_blocks⟩ := c.d.def_ 51 (d := d_l_blocks) rfl
  obtain ⟨z_l_legs, F_l_legs⟩ := c.d.def_ 52 (d := d_l_legs) rfl
  obtain ⟨z_law, F_law⟩ := c.d.def_ 53 (d := d_law) rfl
  obtain ⟨z_rnames, F_rnames⟩ := c.d.def_ 32 (d := d_Roads_names) rfl
  obtain ⟨z_len, F_len⟩ := c.d.def_ 33 (d := d_Roads_length) rfl
  obtain ⟨z_tnames, F_tnames⟩ := c.d.def_ 36 (d := d_Table_names) rfl
  obtain ⟨z_trip, F_trip⟩ := c.d.def_ 37 (d := d_Table_trip) rfl
  obtain ⟨z_rinit, F_rinit⟩ := c.d.def_ 31 (d := d_Roads_init) rfl
  obtain ⟨z_tinit, F_tinit⟩ := c.d.def_ 35 (d := d_Table_init) rfl
  obtain ⟨z_finit, F_finit⟩ := c.d.def_ 20 (d := d_TooFew_init) rfl
  exact ⟨{
    CR := He.ga K "Roads"
    CT := He.ga K "Table"
    CF := He.ga K "TooFew"
    cN := (He.cT K ("Table", some "names")).1
    PN := (He.cT K ("Table", some "names")).2
    C := ⟨He.cls_ok (c.d.fact 48 (f := .cls "Roads") rfl), He.cls_ok (c.d.fact 51 (f := .cls "Table") rfl), He.glo_ok X G (c.d.fact 47 (f := .glo "Roads") rfl), He.glo_ok X G (c.d.fact 50 (f := .glo "Table") rfl), He.noat_ok (c.d.fact 53 (f := .noat "Roads" "towns") rfl), He.noat_ok (c.d.fact 54 (f := .noat "Roads" "lanes") rfl), He.noat_ok (c.d.fact 55 (f := .noat "Roads" "reached") rfl), He.noat_ok (c.d.fact 56 (f := .noat "Table" "roads") rfl), He.noat_ok (c.d.fact 57 (f := .noat "Table" "board") rfl)⟩
    B := ⟨He.free_ok X G (c.d.fact 72 (f := .free "len") rfl), He.free_ok X G (c.d.fact 73 (f := .free "range") rfl), He.free_ok X G (c.d.fact 74 (f := .free "list") rfl), He.free_ok X G (c.d.fact 75 (f := .free "dict") rfl), He.free_ok X G (c.d.fact 76 (f := .free "enumerate") rfl), He.free_ok X G (c.d.fact 77 (f := .free "max") rfl), He.free_ok X G (c.d.fact 78 (f := .free "min") rfl), He.free_ok X G (c.d.fact 79 (f := .free "sorted") rfl), He.free_ok X G (c.d.fact 80 (f := .free "set") rfl), He.free_ok X G (c.d.fact 81 (f := .free "int") rfl), He.free_ok X G (c.d.fact 82 (f := .free "str") rfl), He.free_ok X G (c.d.fact 83 (f := .free "bool") rfl), He.free_ok X G (c.d.fact 84 (f := .free "isinstance") rfl), He.int_ok X G (c.d.fact 65 (f := .int "LIMIT" 1000000000) rfl), He.int_ok X G (c.d.fact 66 (f := .int "LONGEST" 12) rfl), He.int_ok X G (c.d.fact 67 (f := .int "MOST_LEFTS" 40) rfl), He.int_ok X G (c.d.fact 68 (f := .int "MOST_PLACES" 12) rfl), He.int_ok X G (c.d.fact 69 (f := .int "MOST_WAYS" 60) rfl), He.int_ok X G (c.d.fact 70 (f := .int "MOST_TRIPS" 40) rfl), He.str_ok X G (c.d.fact 71 (f := .str "SIGNS" "abcdefghijklmnopqrstuvwxyz0123456789") rfl)⟩
    f_gap := He.fAd K ("gap", none)
    fd_gap := z_gap
    d_gap := ⟨F_gap, He.glo_ok X G (c.d.fact 0 (f := .glo "gap") rfl), F_gap.bindsN fun _ _ _ _ _ _ us hl => match us, hl with | [_, _, _], _ => rfl⟩
    f_linked := He.fAd K ("linked", none)
    fd_linked := z_linked
    d_linked := ⟨F_linked, He.glo_ok X G (c.d.fact 1 (f := .glo "linked") rfl), F_linked.bindsN fun _ _ _ _ _ _ us hl => match us, hl with | [_, _, _], _ => rfl⟩
    f_links := He.fAd K ("links", none)
    fd_links := z_links
    d_links := ⟨F_links, He.glo_ok X G (c.d.fact 2 (f := .glo "links") rfl), F_links.bindsN fun _ _ _ _ _ _ us hl => match us, hl with | [_], _ => rfl⟩
    f_check_place := He.fAd K ("check_place", none)
    fd_check_place := z_check_place
    d_check_place := ⟨F_check_place, He.glo_ok X G (c.d.fact 3 (f := .glo "check_place") rfl), F_check_place.bindsN fun _ _ _ _ _ _ us hl => match us, hl with | [_, _], _ => rfl⟩
    f_check_links := He.fAd K ("check_links", none)
    fd_check_links := z_check_links
    d_check_links := ⟨F_check_links, He.glo_ok X G (c.d.fact 4 (f := .glo "check_links") rfl), F_check_links.bindsN fun _ _ _ _ _ _ us hl => match us, hl with | [_, _], _ => rfl⟩
    f_check_row := He.fAd K ("check_row", none)
    fd_check_row := z_check_row
    d_check_row := ⟨F_check_row, He.glo_ok X G (c.d.fact 5 (f := .glo "check_row") rfl), F_check_row.bindsN fun _ _ _ _ _ _ us hl => match us, hl with | [_, _, _], _ => rfl⟩
    f_minutes_between := He.fAd K ("minutes_between", none)
    fd_minutes_between := z_minutes_between
    d_minutes_between := ⟨F_minutes_between, He.glo_ok X G (c.d.fact 6 (f := .glo "minutes_between") rfl), F_minutes_between.bindsN fun _ _ _ _ _ _ us hl => match us, hl with | [_, _, _], _ => rfl⟩
    f_block_length := He.fAd K ("block_length", none)
    fd_block_length := z_block_length
    d_block_length := ⟨F_block_length, He.glo_ok X G (c.d.fact 7 (f := .glo "block_length") rfl), F_block_length.bindsN fun _ _ _ _ _ _ us hl => match us, hl with | [_, _, _], _ => rfl⟩
    f_cut := He.fAd K ("cut", none)
    fd_cut := z_cut
    d_cut := ⟨F_cut, He.glo_ok X G (c.d.fact 8 (f := .glo "cut") rfl), F_cut.bindsN fun _ _ _ _ _ _ us hl => match us, hl with | [_, _, _, _], _ => rfl⟩
    f_leg_of := He.fAd K ("leg_of", none)
    fd_leg_of := z_leg_of
    d_leg_of := ⟨F_leg_of, He.glo_ok X G (c.d.fact 9 (f := .glo "leg_of") rfl), F_leg_of.bindsN fun _ _ _ _ _ _ us hl => match us, hl with | [_, _, _, _, _], _ => rfl⟩
    f_legs := He.fAd K ("legs", none)
    fd_legs := z_legs
    d_legs := ⟨F_legs, He.glo_ok X G (c.d.fact 10 (f := .glo "legs") rfl), F_legs.bindsN fun _ _ _ _ _ _ us hl => match us, hl with | [_, _, _], _ => rfl⟩
    f_checked_name := He.fAd K ("checked_name", none)
    fd_checked_name := z_checked_name
    d_checked_name := ⟨F_checked_name, He.glo_ok X G (c.d.fact 11 (f := .glo "checked_name") rfl), F_checked_name.bindsN fun _ _ _ _ _ _ us hl => match us, hl with | [_], _ => rfl⟩
    f_checked_number := He.fAd K ("checked_number", none)
    fd_checked_number := z_checked_number
    d_checked_number := ⟨F_checked_number, He.glo_ok X G (c.d.fact 12 (f := .glo "checked_number") rfl), F_checked_number.bindsN fun _ _ _ _ _ _ us hl => match us, hl with | [_, _], _ => rfl⟩
    f_check_rows := He.fAd K ("check_rows", none)
    fd_check_rows := z_check_rows
    d_check_rows := ⟨F_check_rows, He.glo_ok X G (c.d.fact 13 (f := .glo "check_rows") rfl), F_check_rows.bindsN fun _ _ _ _ _ _ us hl => match us, hl with | [_], _ => rfl⟩
    f_find_one := He.fAd K ("find_one", none)
    fd_find_one := z_find_one
    d_find_one := ⟨F_find_one, He.glo_ok X G (c.d.fact 14 (f := .glo "find_one") rfl), F_find_one.bindsN fun _ _ _ _ _ _ us hl => match us, hl with | [_, _, _, _], _ => rfl⟩
    f_owners_of := He.fAd K ("owners_of", none)
    fd_owners_of := z_owners_of
    d_owners_of := ⟨F_owners_of, He.glo_ok X G (c.d.fact 15 (f := .glo "owners_of") rfl), F_owners_of.bindsN fun _ _ _ _ _ _ us hl => match us, hl with | [_], _ => rfl⟩
    f_matching := He.fAd K ("matching", none)
    fd_matching := z_matching
    d_matching := ⟨F_matching, He.glo_ok X G (c.d.fact 16 (f := .glo "matching") rfl), F_matching.bindsN fun _ _ _ _ _ _ us hl => match us, hl with | [_], _ => rfl⟩
    f_reached := He.fAd K ("reached", none)
    fd_reached := z_reached
    d_reached := ⟨F_reached, He.glo_ok X G (c.d.fact 17 (f := .glo "reached") rfl), F_reached.bindsN fun _ _ _ _ _ _ us hl => match us, hl with | [_, _], _ => rfl⟩
    f_cover := He.fAd K ("cover", none)
    fd_cover := z_cover
    d_cover := ⟨F_cover, He.glo_ok X G (c.d.fact 18 (f := .glo "cover") rfl), F_cover.bindsN fun _ _ _ _ _ _ us hl => match us, hl with | [_], _ => rfl⟩
    f_lacking := He.fAd K ("lacking", none)
    fd_lacking := z_lacking
    d_lacking := ⟨F_lacking, He.glo_ok X G (c.d.fact 19 (f := .glo "lacking") rfl), F_lacking.bindsN fun _ _ _ _ _ _ us hl => match us, hl with | [_], _ => rfl⟩
    f_dealt := He.fAd K ("dealt", none)
    fd_dealt := z_dealt
    d_dealt := ⟨F_dealt, He.glo_ok X G (c.d.fact 20 (f := .glo "dealt") rfl), F_dealt.bindsN fun _ _ _ _ _ _ us hl => match us, hl with | [_], _ => rfl⟩
    f_check_cars := He.fAd K ("check_cars", none)
    fd_check_cars := z_check_cars
    d_check_cars := ⟨F_check_cars, He.glo_ok X G (c.d.fact 21 (f := .glo "check_cars") rfl), F_check_cars.bindsN fun _ _ _ _ _ _ us hl => match us, hl with | [_], _ => rfl⟩
    f_fit_cars := He.fAd K ("fit_cars", none)
    fd_fit_cars := z_fit_cars
    d_fit_cars := ⟨F_fit_cars, He.glo_ok X G (c.d.fact 22 (f := .glo "fit_cars") rfl), F_fit_cars.bindsN fun _ _ _ _ _ _ us hl => match us, hl with | [_, _, _, _], _ => rfl⟩
    f_give_cars := He.fAd K ("give_cars", none)
    fd_give_cars := z_give_cars
    d_give_cars := ⟨F_give_cars, He.glo_ok X G (c.d.fact 23 (f := .glo "give_cars") rfl), F_give_cars.bindsN fun _ _ _ _ _ _ us hl => match us, hl with | [_, _, _, _], _ => rfl⟩
    f_check_behind := He.fAd K ("check_behind", none)
    fd_check_behind := z_check_behind
    d_check_behind := ⟨F_check_behind, He.glo_ok X G (c.d.fact 24 (f := .glo "check_behind") rfl), F_check_behind.bindsN fun _ _ _ _ _ _ us hl => match us, hl with | [_, _], _ => rfl⟩
    f_check_order := He.fAd K ("check_order", none)
    fd_check_order := z_check_order
    d_check_order := ⟨F_check_order, He.glo_ok X G (c.d.fact 25 (f := .glo "check_order") rfl), F_check_order.bindsN fun _ _ _ _ _ _ us hl => match us, hl with | [_], _ => rfl⟩
    f_chains := He.fAd K ("chains", none)
    fd_chains := z_chains
    d_chains := ⟨F_chains, He.glo_ok X G (c.d.fact 26 (f := .glo "chains") rfl), F_chains.bindsN fun _ _ _ _ _ _ us hl => match us, hl with | [_], _ => rfl⟩
    f_apart := He.fAd K ("apart", none)
    fd_apart := z_apart
    d_apart := ⟨F_apart, He.glo_ok X G (c.d.fact 27 (f := .glo "apart") rfl), F_apart.bindsN fun _ _ _ _ _ _ us hl => match us, hl with | [_], _ => rfl⟩
    f_check_roads := He.fAd K ("check_roads", none)
    fd_check_roads := z_check_roads
    d_check_roads := ⟨F_check_roads, He.glo_ok X G (c.d.fact 28 (f := .glo "check_roads") rfl), F_check_roads.bindsN fun _ _ _ _ _ _ us hl => match us, hl with | [_, _], _ => rfl⟩
    f_heights_from := He.fAd K ("heights_from", none)
    fd_heights_from := z_heights_from
    d_heights_from := ⟨F_heights_from, He.glo_ok X G (c.d.fact 29 (f := .glo "heights_from") rfl), F_heights_from.bindsN fun _ _ _ _ _ _ us hl => match us, hl with | [_, _], _ => rfl⟩
    f_check_trip := He.fAd K ("check_trip", none)
    fd_check_trip := z_check_trip
    d_check_trip := ⟨F_check_trip, He.glo_ok X G (c.d.fact 30 (f := .glo "check_trip") rfl), F_check_trip.bindsN fun _ _ _ _ _ _ us hl => match us, hl with | [_, _, _], _ => rfl⟩
    f_l_draw := He.fAd K ("_law_draw", none)
    fd_l_draw := z_l_draw
    d_l_draw := ⟨F_l_draw, He.glo_ok X G (c.d.fact 31 (f := .glo "_law_draw") rfl), F_l_draw.bindsN fun _ _ _ _ _ _ us hl => match us, hl with | [_, _, _], _ => rfl⟩
    f_l_name := He.fAd K ("_law_name", none)
    fd_l_name := z_l_name
    d_l_name := ⟨F_l_name, He.glo_ok X G (c.d.fact 32 (f := .glo "_law_name") rfl), F_l_name.bindsN fun _ _ _ _ _ _ us hl => match us, hl with | [_, _, _], _ => rfl⟩
    f_l_ways := He.fAd K ("_law_ways", none)
    fd_l_ways := z_l_ways
    d_l_ways := ⟨F_l_ways, He.glo_ok X G (c.d.fact 33 (f := .glo "_law_ways") rfl), F_l_ways.bindsN fun _ _ _ _ _ _ us hl => match us, hl with | [_, _, _], _ => rfl⟩
    f_l_lengths := He.fAd K ("_law_lengths", none)
    fd_l_lengths := z_l_lengths
    d_l_lengths := ⟨F_l_lengths, He.glo_ok X G (c.d.fact 34 (f := .glo "_law_lengths") rfl), F_l_lengths.bindsN fun _ _ _ _ _ _ us hl => match us, hl with | [_, _], _ => rfl⟩
    f_l_trips := He.fAd K ("_law_trips", none)
    fd_l_trips := z_l_trips
    d_l_trips := ⟨F_l_trips, He.glo_ok X G (c.d.fact 35 (f := .glo "_law_trips") rfl), F_l_trips.bindsN fun _ _ _ _ _ _ us hl => match us, hl with | [_, _, _, _], _ => rfl⟩
    f_l_linked := He.fAd K ("_law_linked", none)
    fd_l_linked := z_l_linked
    d_l_linked := ⟨F_l_linked, He.glo_ok X G (c.d.fact 36 (f := .glo "_law_linked") rfl), F_l_linked.bindsN fun _ _ _ _ _ _ us hl => match us, hl with | [_, _, _], _ => rfl⟩
    f_l_length := He.fAd K ("_law_length", none)
    fd_l_length := z_l_length
    d_l_length := ⟨F_l_length, He.glo_ok X G (c.d.fact 37 (f := .glo "_law_length") rfl), F_l_length.bindsN fun _ _ _ _ _ _ us hl => match us, hl with | [_, _, _], _ => rfl⟩
    f_l_rows := He.fAd K ("_law_rows", none)
    fd_l_rows := z_l_rows
    d_l_rows := ⟨F_l_rows, He.glo_ok X G (c.d.fact 38 (f := .glo "_law_rows") rfl), F_l_rows.bindsN fun _ _ _ _ _ _ us hl => match us, hl with | [_, _, _], _ => rfl⟩
    f_l_apart := He.fAd K ("_law_apart", none)
    fd_l_apart := z_l_apart
    d_l_apart := ⟨F_l_apart, He.glo_ok X G (c.d.fact 39 (f := .glo "_law_apart") rfl), F_l_apart.bindsN fun _ _ _ _ _ _ us hl => match us, hl with | [_, _, _], _ => rfl⟩
    f_l_like := He.fAd K ("_law_like", none)
    fd_l_like := z_l_like
    d_l_like := ⟨F_l_like, He.glo_ok X G (c.d.fact 40 (f := .glo "_law_like") rfl), F_l_like.bindsN fun _ _ _ _ _ _ us hl => match us, hl with | [_, _], _ => rfl⟩
    f_l_few := He.fAd K ("_law_few", none)
    fd_l_few := z_l_few
    d_l_few := ⟨F_l_few, He.glo_ok X G (c.d.fact 41 (f := .glo "_law_few") rfl), F_l_few.bindsN fun _ _ _ _ _ _ us hl => match us, hl with | [_, _], _ => rfl⟩
    f_l_given := He.fAd K ("_law_given", none)
    fd_l_given := z_l_given
    d_l_given := ⟨F_l_given, He.glo_ok X G (c.d.fact 42 (f := .glo "_law_given") rfl), F_l_given.bindsN fun _ _ _ _ _ _ us hl => match us, hl with | [_, _, _, _, _], _ => rfl⟩
    f_l_cars := He.fAd K ("_law_cars", none)
    fd_l_cars := z_l_cars
    d_l_cars := ⟨F_l_cars, He.glo_ok X G (c.d.fact 43 (f := .glo "_law_cars") rfl), F_l_cars.bindsN fun _ _ _ _ _ _ us hl => match us, hl with | [_, _], _ => rfl⟩
    f_l_blocks := He.fAd K ("_law_blocks", none)
    fd_l_blocks := z_l_blocks
    d_l_blocks := ⟨F_l_blocks, He.glo_ok X G (c.d.fact 44 (f := .glo "_law_blocks") rfl), F_l_blocks.bindsN fun _ _ _ _ _ _ us hl => match us, hl with | [_, _, _, _], _ => rfl⟩
    f_l_legs := He.fAd K ("_law_legs", none)
    fd_l_legs := z_l_legs
    d_l_legs := ⟨F_l_legs, He.glo_ok X G (c.d.fact 45 (f := .glo "_law_legs") rfl), F_l_legs.bindsN fun _ _ _ _ _ _ us hl => match us, hl with | [_, _, _, _], _ => rfl⟩
    f_law := He.fAd K ("law", none)
    fd_law := z_law
    d_law := ⟨F_law, He.glo_ok X G (c.d.fact 46 (f := .glo "law") rfl), F_law.bindsN fun _ _ _ _ _ _ us hl => match us, hl with | [_], _ => rfl⟩
    f_rnames := He.fAd K ("Roads", some "names")
    fd_rnames := z_rnames
    M_rnames := ⟨F_rnames, He.meth_ok (c.d.fact 58 (f := .meth "Roads" "names") rfl), F_rnames.bindsN fun _ _ _ _ _ _ us hl => match us, hl with | [_], _ => rfl⟩
    f_len := He.fAd K ("Roads", some "length")
    fd_len := z_len
    M_len := ⟨F_len, He.meth_ok (c.d.fact 59 (f := .meth "Roads" "length") rfl), F_len.bindsN fun _ _ _ _ _ _ us hl => match us, hl with | [_, _, _], _ => rfl⟩
    f_tnames := He.fAd K ("Table", some "names")
    fd_tnames := z_tnames
    M_tnames := ⟨F_tnames, He.meth_ok (c.d.fact 60 (f := .meth "Table" "names") rfl), F_tnames.bindsN fun _ _ _ _ _ _ us hl => match us, hl with | [_], _ => rfl⟩
    f_trip := He.fAd K ("Table", some "trip")
    fd_trip := z_trip
    M_trip := ⟨F_trip, He.meth_ok (c.d.fact 61 (f := .meth "Table" "trip") rfl), F_trip.bindsN fun _ _ _ _ _ _ us hl => match us, hl with | [_, _], _ => rfl⟩
    f_rinit := He.fAd K ("Roads", some "__init__")
    fd_rinit := z_rinit
    I_rinit := ⟨F_rinit, He.mkr_ok (c.d.fact 49 (f := .mkr "Roads") rfl), F_rinit.bindsN fun _ _ _ _ _ _ us hl => match us, hl with | [_, _, _], _ => rfl⟩
    f_tinit := He.fAd K ("Table", some "__init__")
    fd_tinit := z_tinit
    I_tinit := ⟨F_tinit, He.mkr_ok (c.d.fact 52 (f := .mkr "Table") rfl), F_tinit.bindsN fun _ _ _ _ _ _ us hl => match us, hl with | [_, _, _], _ => rfl⟩
    f_finit := He.fAd K ("TooFew", some "__init__")
    fd_finit := z_finit
    X_finit := ⟨F_finit, F_finit.bindsN fun _ _ _ _ _ _ us hl => match us, hl with | [_, _, _], _ => rfl, He.glo_ok X G (c.d.fact 62 (f := .glo "TooFew") rfl), ⟨oeB_ok x1, He.eqO_ok x7, xf.exC, of_decide_eq_true x8, He.keep_ok (c.d.fact 64 (f := .keep "TooFew") rfl)⟩, He.eqO_ok x4, of_decide_eq_true x3, He.eqO_ok x5, He.eqO_ok x6, xf.ga, xf.gg, xf.hdC, He.exm_ok (c.d.fact 63 (f := .exm "TooFew" "TooFew" true) rfl)⟩
    code_tnames := tnames_code F_tnames }, rfl, rfl, rfl⟩
theorem tabs_new {P : Addr} {q : Str} {H : Hp} (h : H P = some (.tbl #[])) : LamX.Tabs [(P, q)] H := fun p hp => by
  rw [List.mem_singleton.mp hp]
  exact ⟨#[], h, trivial, fun pos cv z => by cases z⟩
end K49
open PySem PySem.W PySem.Calls PyProof.Rows
theorem PySem.Challenge.cw_fleetpath_k49_whole_day_of_cars_holds : PySem.Challenge.rw_fleetpath_k49_whole_day_of_cars.Holds := by
  w_on; o_law
  refine HandSHeadRun.head_any (r := OpenLaw.row PySem.Challenge.rw_fleetpath_k49_whole_day_of_cars) (q := view (OpenLaw.row PySem.Challenge.rw_fleetpath_k49_whole_day_of_cars).prog [81]) (H := K49H.hk) (ob := K49H.ob) (M := 6000) (loose := K49H.loose) (d := HandSHeadRun.topDef (OpenLaw.row PySem.Challenge.rw_fleetpath_k49_whole_day_of_cars).prog 81) (kwd := []) K49H.ob_eq
    (by kernel_rfl) (fun s => by kernel_rfl) K49H.run (by kernel_rfl) (by kernel_rfl) (by kernel_rfl) (by rfl) (by first | assumption | decide +kernel) (by decide +kernel) ⟨rfl, rfl, rfl, rfl, rfl, by decide +kernel⟩ ?hw ?hc
  case hw => w_witness2
  case hc =>
    refine LamX.walk_ofTsE (l := PySem.Challenge.rw_fleetpath_k49_whole_day_of_cars) (n := 63) (k := 47) (x := "_law_script") (CX := fun _ => L2.CX0) rfl (by decide) (by kernel_rfl) ⟨rfl, by decide, by decide⟩ ?F (fun _ _ _ _ _ z => z)
    intro w mg fa h Y G hmg0
    obtain ⟨K, KX, c⟩ := Y
    have hmg : mg ("law" : PySem.Str) = some (.ref fa) := by
      have e : (HandSHeadRun.topDef (OpenLaw.row PySem.Challenge.rw_fleetpath_k49_whole_day_of_cars).prog 81).name = ("law" : PySem.Str) := by kernel_rfl
      rw [← e]
      exact hmg0
    obtain ⟨T, e1, e2, e3⟩ := K49.facts KX G c
    have ef : fa = T.f_law := by
      have := hmg.symm.trans T.d_law.g
      exact Value.ref.inj (Option.some.inj this)
    subst ef
    refine ⟨K, KX, T.fd_law, [(T.cN, T.PN)], K49.spLaw K T.PN, fun p hp => ?_, fun p hp => ?_, fun p hp => ?_, fun s u => T.d_law.F.bindsA (ps := ["_law_script"]) (fun _ _ _ _ _ _ us hl => match us, hl with | [_], _ => rfl) s [u] rfl, fun H a ns hl _ hT hS => ⟨a, ns, rfl, hS, K49.tabs_new (hT _ List.mem_cons_self), fun _ => rfl⟩, fun base _ _ TB => K49.k_law T (TB _ List.mem_cons_self)⟩
    · rw [List.mem_singleton.mp hp, e2]; exact c.emp
    · rw [List.mem_singleton.mp hp, e2]; exact c.out
    · rw [List.mem_singleton.mp hp, e1, e2]; exact codeHd_of_K KX c.hd
