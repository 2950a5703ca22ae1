import PyProof.Rows.All
import Wide.All
import OpenK.AllK
import Wide.FinOn
import KE.KStateDown
import HandS.ForMost
import HandS.Defaults
import HandS.Head0
import HandS.Head1
import HandS.Head2
import HandS.HeadEnd
import HandS.HeadHook1
import HandS.HeadHook2
import HandS.HeadHook3
import HandS.Walk
import HandS.Words
import HandS.Exc
import HandS.WordsExc
import HandS.TupAny
import HandS.TupMul
import HandS.TupLe
import HandS.Style
import HandS.Wide
import HandS.WideBits
import HandS.Deep
import KE.LtData
import PyProof.P3In
import KE.DataMinMax
import HandS.IsInst
import KE.SortData
import HandS.Strs
import PyProof.ReprRoads
import HandS.SetFor
import HandS.Conv
import HandS.CallLocal
import HandS.Star
import HandS.Zip
import KE.GoesEnum
import KE.SortLaws
import PyProof.ReprText
import PyProof.FitsInt
import PySem.Challenge.RW_pitstairs_k77_whole_papers_of_seasons
set_option Elab.async false
set_option linter.all false
set_option maxRecDepth 100000
set_option maxHeartbeats 4000000
/-! PDh0: what the head looks at: the words. -/
namespace PD
open PySem PySem.Spec PyProof.Rows L2
/-- what a name of the module stands for, and its code -/
def glA (g : Addr → Option Obj) (x : Str) : List Addr := match PySem.W.nsIn (He.frG g [mainGlobals]) mainGlobals x with
  | some (some (.ref a)) => [a]
  | _ => []
def cdA (g : Addr → Option Obj) (a : Addr) : List Addr := match g a with
  | some ⟨_, _, .func fd, _⟩ => He.refV fd.code
  | _ => []
def asP (g : Addr → Option Obj) (xs : List Str) : List Addr := mainGlobals :: xs.flatMap fun x => (glA g x).flatMap fun a => a :: cdA g a
def frP (xs : List Str) (g : Addr → Option Obj) : PySem.W.Frag := He.frG g (asP g xs)
/-- a value stands for data -/
def cdB : Nat → PySem.W.Frag → Value → PyData → Bool
  | 0, _, _, _ => false
  | n + 1, K, u, d => match d, u with
    | .none, .none => true
    | .bool b, .bool c => b == c
    | .int i, .int j _ => decide (i = j)
    | .str x, .str y _ => decide (x = y)
    | .tuple ds, .ref a => (match K.lookup a with
      | some ⟨.type c, _, .seq its _, _⟩ => decide (c = "tuple") && (decide (its.size ≤ sizeLine) && (decide (its.toList.length = ds.length) && (its.toList.zip ds).all fun p => cdB n K p.1 p.2))
      | _ => false)
    | .dict [(.none, .str x)], .ref a => He.eqO (PySem.W.nsIn K mainGlobals x) (some (some (.ref a)))
    | _, _ => false
def noList (K : PySem.W.Frag) : Bool := K.all fun q => match q.2.cls with
  | .type c => !decide (c = "list")
  | _ => true
def c1 (free : List Str) (cst : List (Str × PyData)) (tabs : List (Str × List (Str × PyData))) (fn : List He.DefD) (K : PySem.W.Frag) : Bool := noList K && ((free.all fun x => He.eqO (PySem.W.nsIn K mainGlobals x) (some none)) && ((cst.all fun p => match PySem.W.nsIn K mainGlobals p.1 with
    | some (some u) => cdB 6 K u p.2
    | _ => false) && ((tabs.all fun t => match PySem.W.nsIn K mainGlobals t.1 with
    | some (some (.ref a)) => t.2.all fun q => (match PySem.W.nsIn K a q.1 with
      | some (some u) => cdB 6 K u q.2
      | _ => false)
    | _ => false) && (fn.all fun d => He.eqO (PySem.W.nsIn K mainGlobals d.name) (some (some (.ref (He.ga K d.name)))) && d.ok K))))
def c2 (fn : List He.DefD) (K : PySem.W.Frag) : List He.FnW := fn.map fun d => He.fnW K d.at_
def c3 (tabs : List (Str × List (Str × PyData))) (K : PySem.W.Frag) : List (Option (List (Option (Str × Int)))) := tabs.map fun t => He.dicW K (He.ga K t.1)
def v3 (tabs : List (Str × List (Str × PyData))) (w : World) : List (Option (List (Option (Str × Int)))) := tabs.map fun t => some (He.keysIn w.params (t.2.map (·.1)))
abbrev AlP : Type := Bool × List He.FnW × List (Option (List (Option (Str × Int))))
def obsP (xs free : List Str) (cst : List (Str × PyData)) (tabs : List (Str × List (Str × PyData))) (fn : List He.DefD) (g : Addr → Option Obj) : AlP := (c1 free cst tabs fn (frP xs g), c2 fn (frP xs g), c3 tabs (frP xs g))
def valP (tabs : List (Str × List (Str × PyData))) (fn : List He.DefD) (w : World) : AlP := (true, fn.map He.DefD.val, v3 tabs w)
def obP (xs free : List Str) (cst : List (Str × PyData)) (tabs : List (Str × List (Str × PyData))) (fn : List He.DefD) (s : PySem.W.SharedT) : AlP := obsP xs free cst tabs fn (HandSHeadRun.getT s)
def isNsO (o : Option Obj) : Bool := match o with
  | some o => (match o.data with | .dict es _ => es.all (fun e => match e.key with | .str _ _ => true | _ => false) | _ => false)
  | none => false
def nsMapO (o : Option Obj) (name : Str) : Option Value := match o with
  | some o => (match o.data with | .dict es _ => nsFind es name | _ => none)
  | none => none
def keysO (o : Option Obj) : List Str := match o with
  | some o => (match o.data with
    | .dict es _ => es.toList.filterMap fun e => match e.key with | .str n _ => some n | _ => none
    | _ => [])
  | none => []
open PySem.W in
def looksO (mods : List Str) (o0 m0 o1 m1 : Option Obj) : Bool := (isNsO o0 && isNsO o1 && (keysO o0 ++ keysO o1).all fun k =>
  k.opensWith "type.__subclasses__." || k.opensWith "type.first-doc." || ((firstUseKey k || mods.any fun m => (keysBeside m).contains k) && (nsMapO o0 k).isNone) || decide (nsMapO o1 k = nsMapO o0 k)) && (isNsO m0 && isNsO m1 && laidNames.all fun x => decide (nsMapO m1 x = nsMapO m0 x))
def bnd (p : Program) : List Str := p.boundNames.filter fun x => !(x == ("__name__" : Str))
def looksT (p : Program) (h0 : Heap) (s : PySem.W.SharedT) : Bool × Bool × List Str := (looksO (PySem.importedModules p.main.body) (h0.get? cStatics) (h0.get? mainGlobals) (HandSHeadRun.getT s cStatics) (HandSHeadRun.getT s mainGlobals), s.gens.toList.all fun g => (match g with | .finished => true | _ => false), keysO (HandSHeadRun.getT s mainGlobals))
end PD

set_option maxHeartbeats 0
namespace Tk77
open PySem PySem.W PySem.Calls PySem.Spec PyProof.Rows L2 PD HandSHeadRun
def top (i : Nat) : Stmt := PySem.Challenge.pw_pitstairs_k77_whole_papers_of_seasons.main.body.getD i (.Pass ⟨0, 0, 0, 0⟩)
def h_is_whole : He.DefD := ⟨("is_whole", none), "is_whole", "is_whole", defArgs (top 1), defBody (top 1), defScope (top 1), [], []⟩
def h_is_between : He.DefD := ⟨("is_between", none), "is_between", "is_between", defArgs (top 2), defBody (top 2), defScope (top 2), [], []⟩
def h_is_tuple_of : He.DefD := ⟨("is_tuple_of", none), "is_tuple_of", "is_tuple_of", defArgs (top 3), defBody (top 3), defScope (top 3), [], []⟩
def h_is_wins : He.DefD := ⟨("is_wins", none), "is_wins", "is_wins", defArgs (top 97), defBody (top 97), defScope (top 97), [], []⟩
def h_first_wrong : He.DefD := ⟨("first_wrong", none), "first_wrong", "first_wrong", defArgs (top 4), defBody (top 4), defScope (top 4), [], []⟩
def h_are_indexes : He.DefD := ⟨("are_indexes", none), "are_indexes", "are_indexes", defArgs (top 5), defBody (top 5), defScope (top 5), [], []⟩
def h_are_rising : He.DefD := ⟨("are_rising", none), "are_rising", "are_rising", defArgs (top 8), defBody (top 8), defScope (top 8), [], []⟩
def h_wrong_in_wins : He.DefD := ⟨("wrong_in_wins", none), "wrong_in_wins", "wrong_in_wins", defArgs (top 98), defBody (top 98), defScope (top 98), [], []⟩
def h_is_triple : He.DefD := ⟨("is_triple", none), "is_triple", "is_triple", defArgs (top 99), defBody (top 99), defScope (top 99), [], []⟩
def h_wrong_in_triples : He.DefD := ⟨("wrong_in_triples", none), "wrong_in_triples", "wrong_in_triples", defArgs (top 100), defBody (top 100), defScope (top 100), [], []⟩
def h_wrong_in_left : He.DefD := ⟨("wrong_in_left", none), "wrong_in_left", "wrong_in_left", defArgs (top 101), defBody (top 101), defScope (top 101), [], []⟩
def h_games_left_by : He.DefD := ⟨("games_left_by", none), "games_left_by", "games_left_by", defArgs (top 102), defBody (top 102), defScope (top 102), [], []⟩
def h_most_wins_by : He.DefD := ⟨("most_wins_by", none), "most_wins_by", "most_wins_by", defArgs (top 103), defBody (top 103), defScope (top 103), [], []⟩
def h_games_among : He.DefD := ⟨("games_among", none), "games_among", "games_among", defArgs (top 104), defBody (top 104), defScope (top 104), [], []⟩
def h_is_over : He.DefD := ⟨("is_over", none), "is_over", "is_over", defArgs (top 105), defBody (top 105), defScope (top 105), [], []⟩
def h_lots_of_others : He.DefD := ⟨("lots_of_others", none), "lots_of_others", "lots_of_others", defArgs (top 106), defBody (top 106), defScope (top 106), [], []⟩
def h_lot_over_most : He.DefD := ⟨("lot_over_most", none), "lot_over_most", "lot_over_most", defArgs (top 107), defBody (top 107), defScope (top 107), [], []⟩
def h_lot_over_by : He.DefD := ⟨("lot_over_by", none), "lot_over_by", "lot_over_by", defArgs (top 108), defBody (top 108), defScope (top 108), [], []⟩
def h_can_be_first_by : He.DefD := ⟨("can_be_first_by", none), "can_be_first_by", "can_be_first_by", defArgs (top 109), defBody (top 109), defScope (top 109), [], []⟩
def h_is_lot_over : He.DefD := ⟨("is_lot_over", none), "is_lot_over", "is_lot_over", defArgs (top 110), defBody (top 110), defScope (top 110), [], []⟩
def h_wins_with : He.DefD := ⟨("wins_with", none), "wins_with", "wins_with", defArgs (top 111), defBody (top 111), defScope (top 111), [], []⟩
def h_results_of : He.DefD := ⟨("results_of", none), "results_of", "results_of", defArgs (top 112), defBody (top 112), defScope (top 112), [], []⟩
def h_results_by : He.DefD := ⟨("results_by", none), "results_by", "results_by", defArgs (top 113), defBody (top 113), defScope (top 113), [], []⟩
def h_is_result : He.DefD := ⟨("is_result", none), "is_result", "is_result", defArgs (top 114), defBody (top 114), defScope (top 114), [], []⟩
def h_are_results : He.DefD := ⟨("are_results", none), "are_results", "are_results", defArgs (top 115), defBody (top 115), defScope (top 115), [], []⟩
def h_is_season_claim : He.DefD := ⟨("is_season_claim", none), "is_season_claim", "is_season_claim", defArgs (top 143), defBody (top 143), defScope (top 143), [], []⟩
def h_is_other_claim : He.DefD := ⟨("is_other_claim", none), "is_other_claim", "is_other_claim", defArgs (top 146), defBody (top 146), defScope (top 146), [], []⟩
def h_other_judge : He.DefD := ⟨("other_judge", none), "other_judge", "other_judge", defArgs (top 153), defBody (top 153), defScope (top 153), [], []⟩
def h_settled_first : He.DefD := ⟨("settled_first", none), "settled_first", "settled_first", defArgs (top 154), defBody (top 154), defScope (top 154), [], []⟩
def h_other_settled : He.DefD := ⟨("other_settled", none), "other_settled", "other_settled", defArgs (top 158), defBody (top 158), defScope (top 158), [], []⟩
def h_has_claim_word : He.DefD := ⟨("has_claim_word", none), "has_claim_word", "has_claim_word", defArgs (top 195), defBody (top 195), defScope (top 195), [], []⟩
def h_is_claim_by : He.DefD := ⟨("is_claim_by", none), "is_claim_by", "is_claim_by", defArgs (top 196), defBody (top 196), defScope (top 196), [], []⟩
def h_opposite_by : He.DefD := ⟨("opposite_by", none), "opposite_by", "opposite_by", defArgs (top 197), defBody (top 197), defScope (top 197), [], []⟩
def h_is_shown : He.DefD := ⟨("is_shown", none), "is_shown", "is_shown", defArgs (top 198), defBody (top 198), defScope (top 198), [], []⟩
def h_settled_by : He.DefD := ⟨("settled_by", none), "settled_by", "settled_by", defArgs (top 199), defBody (top 199), defScope (top 199), [], []⟩
def h_is_claim : He.DefD := ⟨("is_claim", none), "is_claim", "is_claim", defArgs (top 204), defBody (top 204), defScope (top 204), [], []⟩
def h_check_claim : He.DefD := ⟨("check_claim", none), "check_claim", "check_claim", defArgs (top 205), defBody (top 205), defScope (top 205), [], []⟩
def h_opposite : He.DefD := ⟨("opposite", none), "opposite", "opposite", defArgs (top 206), defBody (top 206), defScope (top 206), [], []⟩
def h_settled : He.DefD := ⟨("settled", none), "settled", "settled", defArgs (top 208), defBody (top 208), defScope (top 208), [], []⟩
def h_accepts : He.DefD := ⟨("accepts", none), "accepts", "accepts", defArgs (top 210), defBody (top 210), defScope (top 210), [], []⟩
def h__law_pool : He.DefD := ⟨("_law_pool", none), "_law_pool", "_law_pool", defArgs (top 212), defBody (top 212), defScope (top 212), [], []⟩
def h__law_draw : He.DefD := ⟨("_law_draw", none), "_law_draw", "_law_draw", defArgs (top 213), defBody (top 213), defScope (top 213), [], []⟩
def h__law_pick : He.DefD := ⟨("_law_pick", none), "_law_pick", "_law_pick", defArgs (top 214), defBody (top 214), defScope (top 214), [], []⟩
def h__law_is_num : He.DefD := ⟨("_law_is_num", none), "_law_is_num", "_law_is_num", defArgs (top 215), defBody (top 215), defScope (top 215), [], []⟩
def h__law_is_in : He.DefD := ⟨("_law_is_in", none), "_law_is_in", "_law_is_in", defArgs (top 216), defBody (top 216), defScope (top 216), [], []⟩
def h__law_season : He.DefD := ⟨("_law_season", none), "_law_season", "_law_season", defArgs (top 217), defBody (top 217), defScope (top 217), [], []⟩
def h__law_games : He.DefD := ⟨("_law_games", none), "_law_games", "_law_games", defArgs (top 218), defBody (top 218), defScope (top 218), [], []⟩
def h__law_groups : He.DefD := ⟨("_law_groups", none), "_law_groups", "_law_groups", defArgs (top 219), defBody (top 219), defScope (top 219), [], []⟩
def h__law_over : He.DefD := ⟨("_law_over", none), "_law_over", "_law_over", defArgs (top 220), defBody (top 220), defScope (top 220), [], []⟩
def h__law_are_results : He.DefD := ⟨("_law_are_results", none), "_law_are_results", "_law_are_results", defArgs (top 221), defBody (top 221), defScope (top 221), [], []⟩
def h__law_is_over : He.DefD := ⟨("_law_is_over", none), "_law_is_over", "_law_is_over", defArgs (top 222), defBody (top 222), defScope (top 222), [], []⟩
def h__law_near : He.DefD := ⟨("_law_near", none), "_law_near", "_law_near", defArgs (top 223), defBody (top 223), defScope (top 223), [], []⟩
def h__law_team_right : He.DefD := ⟨("_law_team_right", none), "_law_team_right", "_law_team_right", defArgs (top 224), defBody (top 224), defScope (top 224), [], []⟩
def h__law_right : He.DefD := ⟨("_law_right", none), "_law_right", "_law_right", defArgs (top 225), defBody (top 225), defScope (top 225), [], []⟩
def h_law : He.DefD := ⟨("law", none), "law", "law", defArgs (top 226), defBody (top 226), defScope (top 226), [], []⟩
def hfn : List He.DefD := [h_is_whole, h_is_between, h_is_tuple_of, h_is_wins, h_first_wrong, h_are_indexes, h_are_rising, h_wrong_in_wins, h_is_triple, h_wrong_in_triples, h_wrong_in_left, h_games_left_by, h_most_wins_by, h_games_among, h_is_over, h_lots_of_others, h_lot_over_most, h_lot_over_by, h_can_be_first_by, h_is_lot_over, h_wins_with, h_results_of, h_results_by, h_is_result, h_are_results, h_is_season_claim, h_is_other_claim, h_other_judge, h_settled_first, h_other_settled, h_has_claim_word, h_is_claim_by, h_opposite_by, h_is_shown, h_settled_by, h_is_claim, h_check_claim, h_opposite, h_settled, h_accepts, h__law_pool, h__law_draw, h__law_pick, h__law_is_num, h__law_is_in, h__law_season, h__law_games, h__law_groups, h__law_over, h__law_are_results, h__law_is_over, h__law_near, h__law_team_right, h__law_right, h_law]
def CS : List (Str × PyData) := [(("MOST_WINS" : Str), (PyData.int 99)), (("FEWEST_TEAMS" : Str), (PyData.int 2)), (("MOST_TEAMS" : Str), (PyData.int 5)), (("MOST_GAMES" : Str), (PyData.int 20)), (("FIRSTS" : Str), (PyData.tuple [(PyData.str "first"), (PyData.str "not first")])), (("PICTURES" : Str), (PyData.tuple [(PyData.str "dearer"), (PyData.str "as cheap")])), (("SHORT_SIZE_otherclaims" : Str), (PyData.int 3)), (("LONG_SIZE_otherclaims" : Str), (PyData.int 4)), (("FIRST" : Str), (PyData.str "first")), (("NOT_FIRST" : Str), (PyData.str "not first")), (("WIDTHS" : Str), (PyData.tuple [(PyData.str "chains"), (PyData.str "apart")]))]
def tab_OPPOSITES : List (Str × PyData) := [(("above" : Str), (PyData.str "not above")), (("not above" : Str), (PyData.str "above")), (("best" : Str), (PyData.str "not best")), (("not best" : Str), (PyData.str "best")), (("sure" : Str), (PyData.str "not sure")), (("not sure" : Str), (PyData.str "sure")), (("alike" : Str), (PyData.str "unlike")), (("unlike" : Str), (PyData.str "alike")), (("surely best" : Str), (PyData.str "not surely best")), (("not surely best" : Str), (PyData.str "surely best")), (("first" : Str), (PyData.str "not first")), (("not first" : Str), (PyData.str "first")), (("dearer" : Str), (PyData.str "as cheap")), (("as cheap" : Str), (PyData.str "dearer")), (("chains" : Str), (PyData.str "apart")), (("apart" : Str), (PyData.str "chains")), (("owed" : Str), (PyData.str "dug")), (("dug" : Str), (PyData.str "owed"))]
def tab_SUBJECTS : List (Str × PyData) := [(("above" : Str), (PyData.tuple [(PyData.dict [(PyData.none, PyData.str "is_lot_claim")]), (PyData.dict [(PyData.none, PyData.str "lot_judge")]), (PyData.dict [(PyData.none, PyData.str "lot_settled")])])), (("not above" : Str), (PyData.tuple [(PyData.dict [(PyData.none, PyData.str "is_lot_claim")]), (PyData.dict [(PyData.none, PyData.str "lot_judge")]), (PyData.dict [(PyData.none, PyData.str "lot_settled")])])), (("best" : Str), (PyData.tuple [(PyData.dict [(PyData.none, PyData.str "is_lot_claim")]), (PyData.dict [(PyData.none, PyData.str "lot_judge")]), (PyData.dict [(PyData.none, PyData.str "lot_settled")])])), (("not best" : Str), (PyData.tuple [(PyData.dict [(PyData.none, PyData.str "is_lot_claim")]), (PyData.dict [(PyData.none, PyData.str "lot_judge")]), (PyData.dict [(PyData.none, PyData.str "lot_settled")])])), (("sure" : Str), (PyData.tuple [(PyData.dict [(PyData.none, PyData.str "is_lot_claim")]), (PyData.dict [(PyData.none, PyData.str "lot_judge")]), (PyData.dict [(PyData.none, PyData.str "lot_settled")])])), (("not sure" : Str), (PyData.tuple [(PyData.dict [(PyData.none, PyData.str "is_lot_claim")]), (PyData.dict [(PyData.none, PyData.str "lot_judge")]), (PyData.dict [(PyData.none, PyData.str "lot_settled")])])), (("alike" : Str), (PyData.tuple [(PyData.dict [(PyData.none, PyData.str "is_pair_claim")]), (PyData.dict [(PyData.none, PyData.str "pair_judge")]), (PyData.dict [(PyData.none, PyData.str "pair_settled")])])), (("unlike" : Str), (PyData.tuple [(PyData.dict [(PyData.none, PyData.str "is_pair_claim")]), (PyData.dict [(PyData.none, PyData.str "pair_judge")]), (PyData.dict [(PyData.none, PyData.str "pair_settled")])])), (("surely best" : Str), (PyData.tuple [(PyData.dict [(PyData.none, PyData.str "is_pair_claim")]), (PyData.dict [(PyData.none, PyData.str "pair_judge")]), (PyData.dict [(PyData.none, PyData.str "pair_settled")])])), (("not surely best" : Str), (PyData.tuple [(PyData.dict [(PyData.none, PyData.str "is_pair_claim")]), (PyData.dict [(PyData.none, PyData.str "pair_judge")]), (PyData.dict [(PyData.none, PyData.str "pair_settled")])])), (("first" : Str), (PyData.tuple [(PyData.dict [(PyData.none, PyData.str "is_other_claim")]), (PyData.dict [(PyData.none, PyData.str "other_judge")]), (PyData.dict [(PyData.none, PyData.str "other_settled")])])), (("not first" : Str), (PyData.tuple [(PyData.dict [(PyData.none, PyData.str "is_other_claim")]), (PyData.dict [(PyData.none, PyData.str "other_judge")]), (PyData.dict [(PyData.none, PyData.str "other_settled")])])), (("dearer" : Str), (PyData.tuple [(PyData.dict [(PyData.none, PyData.str "is_other_claim")]), (PyData.dict [(PyData.none, PyData.str "other_judge")]), (PyData.dict [(PyData.none, PyData.str "other_settled")])])), (("as cheap" : Str), (PyData.tuple [(PyData.dict [(PyData.none, PyData.str "is_other_claim")]), (PyData.dict [(PyData.none, PyData.str "other_judge")]), (PyData.dict [(PyData.none, PyData.str "other_settled")])])), (("chains" : Str), (PyData.tuple [(PyData.dict [(PyData.none, PyData.str "is_other_claim")]), (PyData.dict [(PyData.none, PyData.str "other_judge")]), (PyData.dict [(PyData.none, PyData.str "other_settled")])])), (("apart" : Str), (PyData.tuple [(PyData.dict [(PyData.none, PyData.str "is_other_claim")]), (PyData.dict [(PyData.none, PyData.str "other_judge")]), (PyData.dict [(PyData.none, PyData.str "other_settled")])])), (("owed" : Str), (PyData.tuple [(PyData.dict [(PyData.none, PyData.str "is_other_claim")]), (PyData.dict [(PyData.none, PyData.str "other_judge")]), (PyData.dict [(PyData.none, PyData.str "other_settled")])])), (("dug" : Str), (PyData.tuple [(PyData.dict [(PyData.none, PyData.str "is_other_claim")]), (PyData.dict [(PyData.none, PyData.str "other_judge")]), (PyData.dict [(PyData.none, PyData.str "other_settled")])]))]
def FR : List Str := [("isinstance" : Str), ("int" : Str), ("bool" : Str), ("tuple" : Str), ("list" : Str), ("str" : Str), ("len" : Str), ("abs" : Str), ("sum" : Str), ("all" : Str), ("any" : Str), ("max" : Str), ("min" : Str), ("sorted" : Str), ("set" : Str), ("range" : Str), ("enumerate" : Str), ("zip" : Str), ("repr" : Str), ("divmod" : Str)]
def TB : List (Str × List (Str × PyData)) := [(("OPPOSITES" : Str), tab_OPPOSITES), (("SUBJECTS" : Str), tab_SUBJECTS)]
def hxs0 : List PySem.Str := [("is_whole" : PySem.Str), ("is_between" : PySem.Str), ("is_tuple_of" : PySem.Str), ("is_wins" : PySem.Str), ("first_wrong" : PySem.Str), ("are_indexes" : PySem.Str), ("are_rising" : PySem.Str), ("wrong_in_wins" : PySem.Str), ("is_triple" : PySem.Str), ("wrong_in_triples" : PySem.Str), ("wrong_in_left" : PySem.Str), ("games_left_by" : PySem.Str), ("most_wins_by" : PySem.Str), ("games_among" : PySem.Str), ("is_over" : PySem.Str), ("lots_of_others" : PySem.Str), ("lot_over_most" : PySem.Str), ("lot_over_by" : PySem.Str), ("can_be_first_by" : PySem.Str), ("is_lot_over" : PySem.Str), ("wins_with" : PySem.Str), ("results_of" : PySem.Str), ("results_by" : PySem.Str), ("is_result" : PySem.Str), ("are_results" : PySem.Str), ("is_season_claim" : PySem.Str), ("is_other_claim" : PySem.Str), ("other_judge" : PySem.Str), ("settled_first" : PySem.Str), ("other_settled" : PySem.Str), ("has_claim_word" : PySem.Str), ("is_claim_by" : PySem.Str), ("opposite_by" : PySem.Str), ("is_shown" : PySem.Str), ("settled_by" : PySem.Str), ("is_claim" : PySem.Str), ("check_claim" : PySem.Str), ("opposite" : PySem.Str), ("settled" : PySem.Str), ("accepts" : PySem.Str)]
def hxs1 : List PySem.Str := [("_law_pool" : PySem.Str), ("_law_draw" : PySem.Str), ("_law_pick" : PySem.Str), ("_law_is_num" : PySem.Str), ("_law_is_in" : PySem.Str), ("_law_season" : PySem.Str), ("_law_games" : PySem.Str), ("_law_groups" : PySem.Str), ("_law_over" : PySem.Str), ("_law_are_results" : PySem.Str), ("_law_is_over" : PySem.Str), ("_law_near" : PySem.Str), ("_law_team_right" : PySem.Str), ("_law_right" : PySem.Str), ("law" : PySem.Str), ("OPPOSITES" : PySem.Str), ("SUBJECTS" : PySem.Str), ("FIRSTS" : PySem.Str), ("PICTURES" : PySem.Str), ("WIDTHS" : PySem.Str), ("LOTS" : PySem.Str), ("PAIRS" : PySem.Str), ("OTHERS" : PySem.Str)]
def hxs : List PySem.Str := hxs0 ++ hxs1
def hls0 : List PySem.Str := [("is_whole" : PySem.Str), ("is_between" : PySem.Str), ("is_tuple_of" : PySem.Str), ("first_wrong" : PySem.Str), ("are_indexes" : PySem.Str), ("are_unlike" : PySem.Str), ("is_order_by" : PySem.Str), ("are_rising" : PySem.Str), ("MOST_BLOCKS" : PySem.Str), ("MOST_GAIN" : PySem.Str), ("GAINS" : PySem.Str), ("RESTS" : PySem.Str), ("is_gain" : PySem.Str), ("is_rest" : PySem.Str), ("are_rests" : PySem.Str), ("is_pit_by" : PySem.Str), ("many_of" : PySem.Str), ("blocks_of" : PySem.Str), ("is_lot_by" : PySem.Str), ("has_block" : PySem.Str), ("lot_of" : PySem.Str), ("mark_of" : PySem.Str), ("needs_of" : PySem.Str), ("is_closed_mark" : PySem.Str), ("first_lacking" : PySem.Str), ("closed_marks" : PySem.Str), ("closed_lots_by" : PySem.Str), ("closure_mark" : PySem.Str), ("reach_table" : PySem.Str), ("is_orderly" : PySem.Str), ("worth_by" : PySem.Str), ("with_gain_by" : PySem.Str), ("is_payment_by" : PySem.Str), ("left_of_by" : PySem.Str), ("leaves_by" : PySem.Str), ("steps_from" : PySem.Str), ("ways_from" : PySem.Str), ("way_back" : PySem.Str), ("stream" : PySem.Str), ("stream_size" : PySem.Str)]
def hls1 : List PySem.Str := [("next_payment" : PySem.Str), ("best_payment_by" : PySem.Str), ("shows_best" : PySem.Str), ("best_worth_by" : PySem.Str), ("least_best_by" : PySem.Str), ("ABOVE" : PySem.Str), ("NOT_ABOVE" : PySem.Str), ("BEST" : PySem.Str), ("NOT_BEST" : PySem.Str), ("SURE" : PySem.Str), ("NOT_SURE" : PySem.Str), ("WORTHS" : PySem.Str), ("BESTS" : PySem.Str), ("SIZE" : PySem.Str), ("PAIR_SIZE_lotclaims" : PySem.Str), ("is_closed_lot" : PySem.Str), ("is_lot_claim" : PySem.Str), ("shows_above" : PySem.Str), ("shows_not_above" : PySem.Str), ("shows_not_best" : PySem.Str), ("lowered" : PySem.Str), ("is_lot_with_payment" : PySem.Str), ("shows_sure" : PySem.Str), ("shows_not_sure" : PySem.Str), ("JUDGES" : PySem.Str), ("lot_judge" : PySem.Str), ("settled_above" : PySem.Str), ("settled_best" : PySem.Str), ("settled_sure" : PySem.Str), ("lot_settled" : PySem.Str), ("is_tied" : PySem.Str), ("ties_in" : PySem.Str), ("are_apart_by" : PySem.Str), ("is_chain_by" : PySem.Str), ("apart_lot_by" : PySem.Str), ("chain_marks" : PySem.Str), ("chains_by" : PySem.Str), ("is_right_by" : PySem.Str), ("next_blocks" : PySem.Str), ("marks_back" : PySem.Str)]
def hls2 : List PySem.Str := [("debt_by" : PySem.Str), ("debts_from" : PySem.Str), ("least_debt_by" : PySem.Str), ("debt_order_by" : PySem.Str), ("FEWEST_TEAMS" : PySem.Str), ("MOST_TEAMS" : PySem.Str), ("MOST_WINS" : PySem.Str), ("MOST_GAMES" : PySem.Str), ("is_wins" : PySem.Str), ("wrong_in_wins" : PySem.Str), ("is_triple" : PySem.Str), ("wrong_in_triples" : PySem.Str), ("wrong_in_left" : PySem.Str), ("games_left_by" : PySem.Str), ("most_wins_by" : PySem.Str), ("games_among" : PySem.Str), ("is_over" : PySem.Str), ("lots_of_others" : PySem.Str), ("lot_over_most" : PySem.Str), ("lot_over_by" : PySem.Str), ("can_be_first_by" : PySem.Str), ("is_lot_over" : PySem.Str), ("wins_with" : PySem.Str), ("results_of" : PySem.Str), ("results_by" : PySem.Str), ("is_result" : PySem.Str), ("are_results" : PySem.Str), ("MOST_PLACES" : PySem.Str), ("MOST_COST" : PySem.Str), ("MOST_TIE" : PySem.Str), ("is_mark" : PySem.Str), ("wrong_in_marks" : PySem.Str), ("wrong_in_ties" : PySem.Str), ("is_picture" : PySem.Str), ("picture_cost_by" : PySem.Str), ("all_pictures" : PySem.Str), ("cheap_pictures" : PySem.Str), ("least_picture_by" : PySem.Str), ("least_cost_by" : PySem.Str), ("FIRST" : PySem.Str)]
def hls3 : List PySem.Str := [("NOT_FIRST" : PySem.Str), ("DEARER" : PySem.Str), ("AS_CHEAP" : PySem.Str), ("CHAINS" : PySem.Str), ("APART" : PySem.Str), ("OWED" : PySem.Str), ("DUG" : PySem.Str), ("FIRSTS" : PySem.Str), ("PICTURES" : PySem.Str), ("WIDTHS" : PySem.Str), ("LONG_SIZE_otherclaims" : PySem.Str), ("SHORT_SIZE_otherclaims" : PySem.Str), ("is_season_claim" : PySem.Str), ("is_picture_claim" : PySem.Str), ("is_orderly_claim" : PySem.Str), ("is_other_claim" : PySem.Str), ("shows_picture" : PySem.Str), ("are_chains" : PySem.Str), ("is_wide" : PySem.Str), ("shows_owed" : PySem.Str), ("shows_dug" : PySem.Str), ("SHOWS" : PySem.Str), ("other_judge" : PySem.Str), ("settled_first" : PySem.Str), ("settled_cost" : PySem.Str), ("settled_width" : PySem.Str), ("settled_debt" : PySem.Str), ("other_settled" : PySem.Str), ("are_alike_by" : PySem.Str), ("lot_between_by" : PySem.Str), ("LOW" : PySem.Str), ("HIGH" : PySem.Str), ("is_span" : PySem.Str), ("wrong_in_spans" : PySem.Str), ("are_gains_in" : PySem.Str), ("worst_gains_by" : PySem.Str), ("pit_with" : PySem.Str), ("worst_pit" : PySem.Str), ("regret_by" : PySem.Str), ("is_surely_best_by" : PySem.Str)]
def hls4 : List PySem.Str := [("ALIKE" : PySem.Str), ("UNLIKE" : PySem.Str), ("SURELY_BEST" : PySem.Str), ("NOT_SURELY_BEST" : PySem.Str), ("LIKENESS" : PySem.Str), ("SHORT_SIZE_pairclaims" : PySem.Str), ("LONG_SIZE_pairclaims" : PySem.Str), ("PAIR_SIZE_pairclaims" : PySem.Str), ("is_pair_claim" : PySem.Str), ("shows_likeness" : PySem.Str), ("shows_not_surely" : PySem.Str), ("pair_judge" : PySem.Str), ("settled_likeness" : PySem.Str), ("settled_surely" : PySem.Str), ("pair_settled" : PySem.Str), ("LOTS" : PySem.Str), ("PAIRS" : PySem.Str), ("OTHERS" : PySem.Str), ("OPPOSITES" : PySem.Str), ("SUBJECTS" : PySem.Str), ("has_claim_word" : PySem.Str), ("is_claim_by" : PySem.Str), ("opposite_by" : PySem.Str), ("is_shown" : PySem.Str), ("settled_by" : PySem.Str), ("PitError" : PySem.Str), ("NotAClaim" : PySem.Str), ("is_claim" : PySem.Str), ("check_claim" : PySem.Str), ("opposite" : PySem.Str), ("settled" : PySem.Str), ("accepts" : PySem.Str), ("_law_pool" : PySem.Str), ("_law_draw" : PySem.Str), ("_law_pick" : PySem.Str), ("_law_is_num" : PySem.Str), ("_law_is_in" : PySem.Str), ("_law_season" : PySem.Str), ("_law_games" : PySem.Str), ("_law_groups" : PySem.Str)]
def hls5 : List PySem.Str := [("_law_over" : PySem.Str), ("_law_are_results" : PySem.Str), ("_law_is_over" : PySem.Str), ("_law_near" : PySem.Str), ("_law_team_right" : PySem.Str), ("_law_right" : PySem.Str)]
def hls : List PySem.Str := hls0 ++ hls1 ++ hls2 ++ hls3 ++ hls4 ++ hls5
abbrev R : PySem.W.OpenRow := PySem.W.OpenLaw.row PySem.Challenge.rw_pitstairs_k77_whole_papers_of_seasons
abbrev hv : PySem.Program := PySem.W.view R.prog [226]
noncomputable abbrev hE (b : Bool) (w : World) (os : OsState) : Option PySem.W.SharedT := endF (stepQ (denQ tabQ) R.prog (w.withFollow "special-get-raises" b)) 7000 R.prog (w.withFollow "special-get-raises" b) os
end Tk77

set_option maxHeartbeats 0
namespace Tk77
open PySem PySem.W PySem.Calls PySem.Spec PyProof.Rows L2 PD HandSHeadRun
theorem hL_f (w : World) (os : OsState) : (hE false w os).map (fun s => looksT R.prog (boot_heap (w.withFollow "special-get-raises" false).params) s) = some ((true, true, (boot_heap (w.withFollow "special-get-raises" false).params).nsKeys mainGlobals ++ bnd R.prog)) := by kernel_rfl
theorem hL_t (w : World) (os : OsState) : (hE true w os).map (fun s => looksT R.prog (boot_heap (w.withFollow "special-get-raises" true).params) s) = some ((true, true, (boot_heap (w.withFollow "special-get-raises" true).params).nsKeys mainGlobals ++ bnd R.prog)) := by kernel_rfl
theorem hS_f (w : World) (os : OsState) : (hE false w os).map (fun s => seenQ hv hls (importedModules R.prog.main.body) (fun s => xlAt hv [] s && recOk R.toRowW.records s) s.abs) = some (openGood hv hls) := by kernel_rfl
theorem hS_t (w : World) (os : OsState) : (hE true w os).map (fun s => seenQ hv hls (importedModules R.prog.main.body) (fun s => xlAt hv [] s && recOk R.toRowW.records s) s.abs) = some (openGood hv hls) := by kernel_rfl
theorem hO1_f (w : World) (os : OsState) : (hE false w os).map (fun s => (obP hxs FR CS TB hfn s).1) = some (true) := by kernel_rfl
theorem hO1_t (w : World) (os : OsState) : (hE true w os).map (fun s => (obP hxs FR CS TB hfn s).1) = some (true) := by kernel_rfl
theorem hO23_f (w : World) (os : OsState) : (hE false w os).map (fun s => (obP hxs FR CS TB hfn s).2) = some ((hfn.map He.DefD.val, v3 TB (w.withFollow "special-get-raises" false))) := by kernel_rfl
theorem hO23_t (w : World) (os : OsState) : (hE true w os).map (fun s => (obP hxs FR CS TB hfn s).2) = some ((hfn.map He.DefD.val, v3 TB (w.withFollow "special-get-raises" true))) := by kernel_rfl
end Tk77

set_option maxHeartbeats 2000000
/-! PD1: pure data over the abstract heap: worlds, representation, extension, monotonicity. -/
namespace PD
open PySem PySem.Spec PyProof.Rows L2
abbrev D := PyData
abbrev En := List (Option D)
/-- an exception of an own class: its class's name, its attribute's name (empty: none), what it keeps -/
structure Xc where
  cls : Str
  fld : Str
  arg : D
/-- what may come of a piece of code: wishes for the value and for an exception -/
abbrev W (α : Type) := (α → Prop) → (Xc → Prop) → Prop
@[reducible] def W.ret {α : Type} (a : α) : W α := fun q _ => q a
@[reducible] def W.bind {α β : Type} (m : W α) (f : α → W β) : W β := fun q x => m (fun a => f a q x) x
@[reducible] def W.bad {α : Type} : W α := fun _ _ => False
@[reducible] def W.any {α : Type} (p : α → Prop) : W α := fun q _ => ∀ a, p a → q a
@[reducible] def W.need {α : Type} (p : Prop) (m : W α) : W α := fun q x => p ∧ m q x
/-- constants of a law: the written part, and what holds of the three ints of a pool -/
structure Cn where
  K : PySem.W.Frag
  mg : Str → Option Value
  G : Int → Int → Int → Prop
/-- a def as a value, by its name; the pool -/
@[reducible] def fnD (x : Str) : D := .dict [(.none, .str x)]
@[reducible] def poolD : D := .dict [(.none, .none)]
/-- what a pool's three ints keep -/
def G0 (x y z : Int) : Prop := (0 ≤ x ∧ x < 4294967296) ∧ 0 ≤ y
def IsPool (c : Cn) (H : Hp) (a : Addr) : Prop := ∃ x y z : Int, H a = some (.lst [.int x, .int y, .int z]) ∧ G0 x y z
mutual
inductive Rp (c : Cn) (P O : Addr → Prop) (H : Hp) : V → D → Prop
  | non : Rp c P O H .non .none
  | bl (b : Bool) : Rp c P O H (.bl b) (.bool b)
  | int (i : Int) : Rp c P O H (.int i) (.int i)
  | str (x : Str) : Rp c P O H (.str x) (.str x)
  | lst {a : Addr} {xs : List V} {ds : List D} : ¬ P a → ¬ O a → Rd H a (.lst xs) → RpA c P O H xs ds → Rp c P O H (.ref a) (.list ds)
  | tup {a : Addr} {xs : List V} {ds : List D} : SqT c.K H a xs → RpA c P O H xs ds → Rp c P O H (.ref a) (.tuple ds)
  | pool {a : Addr} : P a → Rp c P O H (.ref a) poolD
  | fn {a : Addr} {x : Str} : c.mg x = some (.ref a) → Rp c P O H (.ref a) (fnD x)
  | emp {a : Addr} : ¬ P a → ¬ O a → H a = some (.dK []) → Rp c P O H (.ref a) (.dict [])
inductive RpA (c : Cn) (P O : Addr → Prop) (H : Hp) : List V → List D → Prop
  | nil : RpA c P O H [] []
  | cons {v : V} {vs : List V} {d : D} {ds : List D} : Rp c P O H v d → RpA c P O H vs ds → RpA c P O H (v :: vs) (d :: ds)
end
/-- pools are pools -/
def POk (c : Cn) (P : Addr → Prop) (H : Hp) : Prop := ∀ a, P a → IsPool c H a
/-- the world has grown: new pools are new objects, what is no pool stands, pools are pools -/
structure Le (c : Cn) (P : Addr → Prop) (H : Hp) (P' : Addr → Prop) (H' : Hp) : Prop where
  mono : ∀ a, P a → P' a
  new : ∀ a, P' a → ¬ P a → H a = none
  keep : ∀ a o, ¬ P a → H a = some o → H' a = some o
  pool : POk c P' H'
section
variable {c : Cn} {P P' P'' O O' : Addr → Prop} {H H' H'' : Hp}
theorem Le.refl (ok : POk c P H) : Le c P H P H := ⟨fun _ h => h, fun _ h n => absurd h n, fun _ _ _ h => h, ok⟩
theorem Le.fresh (l : Le c P H P' H') {a : Addr} (hP : ¬ P' a) (h : H' a = none) : H a = none := by
  cases q : H a with
  | none => rfl
  | some o =>
    have hp : ¬ P a := fun z => hP (l.mono a z)
    rw [l.keep a o hp q] at h
    cases h
theorem Le.trans (l : Le c P H P' H') (m : Le c P' H' P'' H'') : Le c P H P'' H'' where
  mono a h := m.mono a (l.mono a h)
  new a h n := by
    by_cases z : P' a
    · exact l.new a z n
    · have h' := m.new a h z
      exact l.fresh z h'
  keep a o n h := by
    have z : ¬ P' a := fun z => by
      have := l.new a z n
      rw [h] at this
      cases this
    exact m.keep a o z (l.keep a o n h)
  pool := m.pool
/-- a new object that is no pool -/
theorem Le.laid (ok : POk c P H) {p : Addr} {o : HO} (hp : H p = none) : Le c P H P (upd H p o) where
  mono _ h := h
  new a h n := absurd h n
  keep a u _ h := by rw [upd_ne (ne_of_none h hp)]; exact h
  pool a q := by
    obtain ⟨x, y, z, e, g⟩ := ok a q
    exact ⟨x, y, z, by rw [upd_ne (ne_of_none e hp)]; exact e, g⟩
theorem Le.np (l : Le c P H P' H') {a : Addr} {o : HO} (n : ¬ P a) (h : H a = some o) : ¬ P' a := fun z => by
  have := l.new a z n
  rw [h] at this
  cases this
theorem Le.rd (l : Le c P H P' H') {a : Addr} {o : HO} (n : ¬ P a) (h : Rd H a o) : Rd H' a o := by
  rcases h with h | ⟨ob, h⟩
  · exact .inl (l.keep a _ n h)
  · exact .inr ⟨ob, l.keep a _ n h⟩
theorem Le.npr (l : Le c P H P' H') {a : Addr} {o : HO} (n : ¬ P a) (h : Rd H a o) : ¬ P' a := by
  rcases h with h | ⟨ob, h⟩
  · exact l.np n h
  · exact l.np n h
theorem notPool_tup {a : Addr} {xs : List V} (hP : IsPool c H a) (h : Rd H a (.tup xs)) : False := by
  obtain ⟨x, y, z, e, _⟩ := hP
  rcases h with h | ⟨_, h⟩ <;> (rw [e] at h; cases h)
theorem Le.sqT (l : Le c P H P' H') (ok : POk c P H) {a : Addr} {xs : List V} (h : SqT c.K H a xs) : SqT c.K H' a xs := by
  rcases h with h | h
  · exact .inl (l.rd (fun z => notPool_tup (ok a z) h) h)
  · exact .inr h
mutual
theorem Rp.mono (l : Le c P H P' H') (ok : POk c P H) (ho : ∀ a, O' a → O a) : ∀ {v : V} {d : D}, Rp c P O H v d → Rp c P' O' H' v d
  | _, _, .non => .non
  | _, _, .bl b => .bl b
  | _, _, .int i => .int i
  | _, _, .str x => .str x
  | _, _, .lst h1 h2 h3 h4 => .lst (l.npr h1 h3) (fun z => h2 (ho _ z)) (l.rd h1 h3) (RpA.mono l ok ho h4)
  | _, _, .tup h1 h2 => .tup (l.sqT ok h1) (RpA.mono l ok ho h2)
  | _, _, .pool h => .pool (l.mono _ h)
  | _, _, .fn h => .fn h
  | _, _, .emp h1 h2 h3 => .emp (l.np h1 h3) (fun z => h2 (ho _ z)) (l.keep _ _ h1 h3)
theorem RpA.mono (l : Le c P H P' H') (ok : POk c P H) (ho : ∀ a, O' a → O a) : ∀ {vs : List V} {ds : List D}, RpA c P O H vs ds → RpA c P' O' H' vs ds
  | _, _, .nil => .nil
  | _, _, .cons h t => .cons (Rp.mono l ok ho h) (RpA.mono l ok ho t)
end
theorem Rp.le (l : Le c P H P' H') (ok : POk c P H) {v : V} {d : D} (h : Rp c P O H v d) : Rp c P' O H' v d := h.mono l ok fun _ z => z
theorem RpA.le (l : Le c P H P' H') (ok : POk c P H) {vs : List V} {ds : List D} (h : RpA c P O H vs ds) : RpA c P' O H' vs ds := h.mono l ok fun _ z => z
theorem RpA.length : ∀ {vs : List V} {ds : List D}, RpA c P O H vs ds → vs.length = ds.length
  | _, _, .nil => rfl
  | _, _, .cons _ t => by rw [List.length_cons, List.length_cons, RpA.length t]
theorem RpA.get : ∀ {vs : List V} {ds : List D} {i : Nat} {d : D}, RpA c P O H vs ds → ds[i]? = some d → ∃ v, vs[i]? = some v ∧ Rp c P O H v d
  | _, _, _, _, .nil, e => by simp at e
  | _, _, 0, _, .cons h _, e => by
    simp only [List.getElem?_cons_zero, Option.some.injEq] at e
    subst e
    exact ⟨_, rfl, h⟩
  | _, _, i + 1, _, .cons _ t, e => by
    simp only [List.getElem?_cons_succ] at e ⊢
    exact RpA.get t e
theorem RpA.getV : ∀ {vs : List V} {ds : List D} {i : Nat} {v : V}, RpA c P O H vs ds → vs[i]? = some v → ∃ d, ds[i]? = some d ∧ Rp c P O H v d
  | _, _, _, _, .nil, e => by simp at e
  | _, _, 0, _, .cons h _, e => by
    simp only [List.getElem?_cons_zero, Option.some.injEq] at e
    subst e
    exact ⟨_, rfl, h⟩
  | _, _, i + 1, _, .cons _ t, e => by
    simp only [List.getElem?_cons_succ] at e ⊢
    exact RpA.getV t e
theorem RpA.append : ∀ {vs ws : List V} {ds es : List D}, RpA c P O H vs ds → RpA c P O H ws es → RpA c P O H (vs ++ ws) (ds ++ es)
  | _, _, _, _, .nil, s => s
  | _, _, _, _, .cons h t, s => .cons h (RpA.append t s)
theorem RpA.take : ∀ {vs : List V} {ds : List D} (n : Nat), RpA c P O H vs ds → RpA c P O H (vs.take n) (ds.take n)
  | _, _, 0, _ => .nil
  | _, _, _ + 1, .nil => .nil
  | _, _, n + 1, .cons h t => .cons h (RpA.take n t)
theorem RpA.drop : ∀ {vs : List V} {ds : List D} (n : Nat), RpA c P O H vs ds → RpA c P O H (vs.drop n) (ds.drop n)
  | _, _, 0, r => r
  | _, _, _ + 1, .nil => .nil
  | _, _, n + 1, .cons _ t => RpA.drop n t
theorem RpA.ints : ∀ {vs : List V} {ns : List Int}, RpA c P O H vs (ns.map PyData.int) → vs = ns.map V.int
  | _, [], .nil => rfl
  | _, n :: ns, .cons h t => by
    cases h
    rw [List.map_cons, RpA.ints t]
theorem RpA.ofInts : ∀ ns : List Int, RpA c P O H (ns.map V.int) (ns.map PyData.int)
  | [] => .nil
  | n :: ns => .cons (.int n) (RpA.ofInts ns)
/-! data without dicts reads as HandS.Dp -/
mutual
theorem Rp.dp : ∀ {v : V} {d : D}, Rp c P O H v d → d.canLay0 = true → Dp c.K H v d
  | _, _, .non, _ => .non
  | _, _, .bl b, _ => .bl b
  | _, _, .int i, _ => .int i
  | _, _, .str x, _ => .str x
  | _, .list ds, .lst _ _ h3 h4, h => .lst (.inl h3) (RpA.dp h4 (by simpa only [PyData.canLay0] using h))
  | _, .tuple ds, .tup h1 h2, h => .tup h1 (RpA.dp h2 (by simpa only [PyData.canLay0] using h))
  | _, _, .pool _, h => by simp [PyData.canLay0] at h
  | _, _, .fn _, h => by simp [PyData.canLay0] at h
  | _, _, .emp _ _ _, h => by simp [PyData.canLay0] at h
theorem RpA.dp : ∀ {vs : List V} {ds : List D}, RpA c P O H vs ds → PyData.canLayAll0 ds = true → DpAll c.K H vs ds
  | _, _, .nil, _ => .nil
  | _, d :: ds, .cons h t, hl => by
    have e : d.canLay0 = true ∧ PyData.canLayAll0 ds = true := by simpa only [PyData.canLayAll0, Bool.and_eq_true] using hl
    exact .cons (Rp.dp h e.1) (RpA.dp t e.2)
end
end
/-- no tuple -/
structure OwnO (o : HO) : Prop where
  t : ∀ xs, o ≠ .tup xs
  f : ∀ b xs, o ≠ .frz b (.tup xs)
/-- pools are pools, what one owns stands -/
structure WOk (c : Cn) (P O : Addr → Prop) (H : Hp) : Prop where
  pk : POk c P H
  ow : ∀ a, O a → ∃ o, H a = some o ∧ OwnO o
theorem WOk.le {c : Cn} {P P' O : Addr → Prop} {H H' : Hp} (w : WOk c P O H) (l : Le c P H P' H') : WOk c P' O H' := ⟨l.pool, fun a h => by
  obtain ⟨o, e, t⟩ := w.ow a h
  by_cases hP : P a
  · obtain ⟨x, y, z, e2, _⟩ := l.pool a (l.mono a hP)
    exact ⟨_, e2, ⟨fun _ q => (nomatch q), fun _ _ q => (nomatch q)⟩⟩
  · exact ⟨o, l.keep a o hP e, t⟩⟩
theorem WOk.np {c : Cn} {P O : Addr → Prop} {H : Hp} (w : WOk c P O H) {p : Addr} (hp : H p = none) : ¬ P p := fun z => by
  obtain ⟨_, _, _, e, _⟩ := w.pk p z
  rw [hp] at e
  cases e
theorem WOk.no {c : Cn} {P O : Addr → Prop} {H : Hp} (w : WOk c P O H) {p : Addr} (hp : H p = none) : ¬ O p := fun z => by
  obtain ⟨o, e, _⟩ := w.ow p z
  rw [hp] at e
  cases e
/-- the slots that ρ tells of hold what ρ tells -/
structure EnvOk (c : Cn) (P O : Addr → Prop) (H : Hp) (σ : L2.St) (ρ : En) : Prop where
  ok : WOk c P O H
  len : σ.length = ρ.length
  at_ : ∀ (i : Nat) (d : D), ρ[i]? = some (some d) → ∃ v, σ[i]? = some (some v) ∧ Rp c P O H v d
/-- an exception at its raise: the class's address, its dict -/
def RpX (c : Cn) (P O : Addr → Prop) (H : Hp) (cls : Value) (dd : Option Addr) (e : Xc) : Prop :=
  ∃ C, c.mg e.cls = some (.ref C) ∧ cls = .ref C ∧ ((e.fld = Str.empty ∧ dd = none) ∨ ∃ d v, dd = some d ∧ ¬ P d ∧ ¬ O d ∧ H d = some (.xd [(e.fld, v)]) ∧ Rp c P O H v e.arg)
structure Fin (c : Cn) (E : XK) (P O : Addr → Prop) (H : Hp) (q : D → Prop) (x : Xc → Prop) (Q : VK) : Prop where
  val : ∀ P' H' v d, Le c P H P' H' → Rp c P' O H' v d → q d → Q v H'
  exc : ∀ P' H' cls dd e, Le c P H P' H' → RpX c P' O H' cls dd e → x e → E cls dd H'
/-- what an expression with the denotation g asks -/
def tD (c : Cn) (E : XK) (g : En → W D) : TE := fun σ H Q => ∃ P O ρ q x, EnvOk c P O H σ ρ ∧ g ρ q x ∧ Fin c E P O H q x Q
def tDT (c : Cn) (E : XK) (g : En → W Bool) : TT := fun σ H Q => ∃ P O ρ q x, EnvOk c P O H σ ρ ∧ g ρ q x ∧
  (∀ P' H' b, Le c P H P' H' → q b → Q b H') ∧ ∀ P' H' cls dd e, Le c P H P' H' → RpX c P' O H' cls dd e → x e → E cls dd H'
def tDA (c : Cn) (E : XK) (g : En → W (List D)) : TA := fun σ H Q => ∃ P O ρ q x, EnvOk c P O H σ ρ ∧ g ρ q x ∧
  (∀ P' H' vs ds, Le c P H P' H' → RpA c P' O H' vs ds → q ds → Q vs H') ∧ ∀ P' H' cls dd e, Le c P H P' H' → RpX c P' O H' cls dd e → x e → E cls dd H'
section
variable {c : Cn} {P P' P'' O O' : Addr → Prop} {H H' H'' : Hp} {E : XK} {σ : L2.St} {ρ : En} {q : D → Prop} {x : Xc → Prop} {Q : VK}
theorem EnvOk.le (e : EnvOk c P O H σ ρ) (l : Le c P H P' H') : EnvOk c P' O H' σ ρ := ⟨e.ok.le l, e.len, fun i d h => by
  obtain ⟨v, h1, h2⟩ := e.at_ i d h
  exact ⟨v, h1, h2.le l e.ok.pk⟩⟩
theorem Fin.le (f : Fin c E P O H q x Q) (l : Le c P H P' H') : Fin c E P' O H' q x Q :=
  ⟨fun P2 H2 v d m => f.val P2 H2 v d (l.trans m), fun P2 H2 cls dd e m => f.exc P2 H2 cls dd e (l.trans m)⟩
theorem Fin.here (f : Fin c E P O H q x Q) (ok : WOk c P O H) {v : V} {d : D} (r : Rp c P O H v d) (h : q d) : Q v H := f.val P H v d (.refl ok.pk) r h
end
/-- the world has grown, and what one owns may have turned -/
structure LeO (c : Cn) (P O : Addr → Prop) (H : Hp) (P' : Addr → Prop) (H' : Hp) : Prop where
  mono : ∀ a, P a → P' a
  new : ∀ a, P' a → ¬ P a → H a = none
  keep : ∀ a o, ¬ P a → ¬ O a → H a = some o → H' a = some o
  pool : POk c P' H'
  own : ∀ a, O a → ∃ o, H' a = some o ∧ OwnO o
section
variable {c : Cn} {P P' P'' O O' : Addr → Prop} {H H' H'' : Hp}
theorem Le.o (l : Le c P H P' H') (w : WOk c P O H) : LeO c P O H P' H' := ⟨l.mono, l.new, fun a o n _ h => l.keep a o n h, l.pool, (w.le l).ow⟩
theorem LeO.ok (l : LeO c P O H P' H') : WOk c P' O H' := ⟨l.pool, l.own⟩
theorem LeO.refl (w : WOk c P O H) : LeO c P O H P H := (Le.refl w.pk).o w
theorem LeO.trans (l : LeO c P O H P' H') (m : LeO c P' O H' P'' H'') : LeO c P O H P'' H'' where
  mono a h := m.mono a (l.mono a h)
  new a h n := by
    by_cases z : P' a
    · exact l.new a z n
    · have h' := m.new a h z
      cases q : H a with
      | none => rfl
      | some o =>
        by_cases ho : O a
        · obtain ⟨o', e, _⟩ := l.own a ho
          rw [h'] at e
          cases e
        · rw [l.keep a o n ho q] at h'
          cases h'
  keep a o n no h := by
    have z : ¬ P' a := fun z => by
      have := l.new a z n
      rw [h] at this
      cases this
    exact m.keep a o z no (l.keep a o n no h)
  pool := m.pool
  own := m.own
/-- what one owns turns -/
theorem LeO.upd (w : WOk c P O H) {a : Addr} {o : HO} (hO : O a) (hP : ¬ P a) (ho : OwnO o) : LeO c P O H P (upd H a o) where
  mono _ h := h
  new a h n := absurd h n
  keep b u _ no h := by rw [upd_ne (fun z : b = a => no (by rw [z]; exact hO))]; exact h
  pool b q := by
    obtain ⟨x, y, z, e, g⟩ := w.pk b q
    exact ⟨x, y, z, by rw [upd_ne (fun z : b = a => hP (by rw [← z]; exact q))]; exact e, g⟩
  own b hb := by
    by_cases e : b = a
    · subst e
      exact ⟨o, upd_same, ho⟩
    · obtain ⟨u, h1, h2⟩ := w.ow b hb
      exact ⟨u, by rw [upd_ne e]; exact h1, h2⟩
theorem LeO.np (l : LeO c P O H P' H') {a : Addr} {o : HO} (n : ¬ P a) (h : H a = some o) : ¬ P' a := fun z => by
  have := l.new a z n
  rw [h] at this
  cases this
theorem LeO.rd (l : LeO c P O H P' H') {a : Addr} {o : HO} (n : ¬ P a) (no : ¬ O a) (h : Rd H a o) : Rd H' a o := by
  rcases h with h | ⟨ob, h⟩
  · exact .inl (l.keep a _ n no h)
  · exact .inr ⟨ob, l.keep a _ n no h⟩
theorem LeO.npr (l : LeO c P O H P' H') {a : Addr} {o : HO} (n : ¬ P a) (h : Rd H a o) : ¬ P' a := by
  rcases h with h | ⟨ob, h⟩
  · exact l.np n h
  · exact l.np n h
theorem WOk.notOwn (w : WOk c P O H) {a : Addr} {xs : List V} (h : Rd H a (.tup xs)) : ¬ O a := fun z => by
  obtain ⟨o, e, t⟩ := w.ow a z
  rcases h with h | ⟨ob, h⟩
  · rw [e] at h; cases h; exact t.t _ rfl
  · rw [e] at h; cases h; exact t.f _ _ rfl
theorem LeO.sqT (l : LeO c P O H P' H') (w : WOk c P O H) {a : Addr} {xs : List V} (h : SqT c.K H a xs) : SqT c.K H' a xs := by
  rcases h with h | h
  · exact .inl (l.rd (fun z => notPool_tup (w.pk a z) h) (w.notOwn h) h)
  · exact .inr h
mutual
theorem Rp.leO (l : LeO c P O H P' H') (w : WOk c P O H) : ∀ {v : V} {d : D}, Rp c P O H v d → Rp c P' O H' v d
  | _, _, .non => .non
  | _, _, .bl b => .bl b
  | _, _, .int i => .int i
  | _, _, .str x => .str x
  | _, _, .lst h1 h2 h3 h4 => .lst (l.npr h1 h3) h2 (l.rd h1 h2 h3) (RpA.leO l w h4)
  | _, _, .tup h1 h2 => .tup (l.sqT w h1) (RpA.leO l w h2)
  | _, _, .pool h => .pool (l.mono _ h)
  | _, _, .fn h => .fn h
  | _, _, .emp h1 h2 h3 => .emp (l.np h1 h3) h2 (l.keep _ _ h1 h2 h3)
theorem RpA.leO (l : LeO c P O H P' H') (w : WOk c P O H) : ∀ {vs : List V} {ds : List D}, RpA c P O H vs ds → RpA c P' O H' vs ds
  | _, _, .nil => .nil
  | _, _, .cons h t => .cons (Rp.leO l w h) (RpA.leO l w t)
end
/-! the same where what is owned need not be there -/
structure WOkw (c : Cn) (P O : Addr → Prop) (H : Hp) : Prop where
  pk : POk c P H
  ow : ∀ a, O a → ∀ o, H a = some o → OwnO o
theorem WOk.weak (w : WOk c P O H) : WOkw c P O H := ⟨w.pk, fun a h o e => by
  obtain ⟨o', e', t⟩ := w.ow a h
  rw [e] at e'
  cases e'
  exact t⟩
structure LeOw (c : Cn) (P O : Addr → Prop) (H : Hp) (P' : Addr → Prop) (H' : Hp) : Prop where
  mono : ∀ a, P a → P' a
  new : ∀ a, P' a → ¬ P a → H a = none
  keep : ∀ a o, ¬ P a → ¬ O a → H a = some o → H' a = some o
  pool : POk c P' H'
theorem LeO.weak (l : LeO c P O H P' H') : LeOw c P O H P' H' := ⟨l.mono, l.new, l.keep, l.pool⟩
theorem LeOw.np (l : LeOw c P O H P' H') {a : Addr} {o : HO} (n : ¬ P a) (h : H a = some o) : ¬ P' a := fun z => by
  have := l.new a z n
  rw [h] at this
  cases this
theorem LeOw.rd (l : LeOw c P O H P' H') {a : Addr} {o : HO} (n : ¬ P a) (no : ¬ O a) (h : Rd H a o) : Rd H' a o := by
  rcases h with h | ⟨ob, h⟩
  · exact .inl (l.keep a _ n no h)
  · exact .inr ⟨ob, l.keep a _ n no h⟩
theorem LeOw.npr (l : LeOw c P O H P' H') {a : Addr} {o : HO} (n : ¬ P a) (h : Rd H a o) : ¬ P' a := by
  rcases h with h | ⟨ob, h⟩
  · exact l.np n h
  · exact l.np n h
theorem WOkw.notOwn (w : WOkw c P O H) {a : Addr} {xs : List V} (h : Rd H a (.tup xs)) : ¬ O a := fun z => by
  rcases h with h | ⟨ob, h⟩
  · exact (w.ow a z _ h).t _ rfl
  · exact (w.ow a z _ h).f _ _ rfl
theorem LeOw.sqT (l : LeOw c P O H P' H') (w : WOkw c P O H) {a : Addr} {xs : List V} (h : SqT c.K H a xs) : SqT c.K H' a xs := by
  rcases h with h | h
  · exact .inl (l.rd (fun z => notPool_tup (w.pk a z) h) (w.notOwn h) h)
  · exact .inr h
mutual
theorem Rp.leOw (l : LeOw c P O H P' H') (w : WOkw c P O H) : ∀ {v : V} {d : D}, Rp c P O H v d → Rp c P' O H' v d
  | _, _, .non => .non
  | _, _, .bl b => .bl b
  | _, _, .int i => .int i
  | _, _, .str x => .str x
  | _, _, .lst h1 h2 h3 h4 => .lst (l.npr h1 h3) h2 (l.rd h1 h2 h3) (RpA.leOw l w h4)
  | _, _, .tup h1 h2 => .tup (l.sqT w h1) (RpA.leOw l w h2)
  | _, _, .pool h => .pool (l.mono _ h)
  | _, _, .fn h => .fn h
  | _, _, .emp h1 h2 h3 => .emp (l.np h1 h3) h2 (l.keep _ _ h1 h2 h3)
theorem RpA.leOw (l : LeOw c P O H P' H') (w : WOkw c P O H) : ∀ {vs : List V} {ds : List D}, RpA c P O H vs ds → RpA c P' O H' vs ds
  | _, _, .nil => .nil
  | _, _, .cons h t => .cons (Rp.leOw l w h) (RpA.leOw l w t)
end
/-- a number, a text, nothing: whoever owns what -/
def isAtom : D → Bool
  | .none => true
  | .bool _ => true
  | .int _ => true
  | .str _ => true
  | _ => false
theorem Rp.atom {v : V} {d : D} (h : Rp c P O H v d) (ha : isAtom d = true) : Rp c P O' H v d := by
  cases h with
  | non => exact .non
  | bl b => exact .bl b
  | int i => exact .int i
  | str x => exact .str x
  | _ => cases ha
/-! what is new at H may be owned from then on -/
mutual
theorem Rp.avoid (n : ∀ a, O' a → O a ∨ H a = none) : ∀ {v : V} {d : D}, Rp c P O H v d → Rp c P O' H v d
  | _, _, .non => .non
  | _, _, .bl b => .bl b
  | _, _, .int i => .int i
  | _, _, .str x => .str x
  | _, _, .lst h1 h2 h3 h4 => .lst h1 (fun z => (n _ z).elim h2 fun e => by rcases h3 with h | ⟨_, h⟩ <;> (rw [e] at h; cases h)) h3 (RpA.avoid n h4)
  | _, _, .tup h1 h2 => .tup h1 (RpA.avoid n h2)
  | _, _, .pool h => .pool h
  | _, _, .fn h => .fn h
  | _, _, .emp h1 h2 h3 => .emp h1 (fun z => (n _ z).elim h2 fun e => by rw [e] at h3; cases h3) h3
theorem RpA.avoid (n : ∀ a, O' a → O a ∨ H a = none) : ∀ {vs : List V} {ds : List D}, RpA c P O H vs ds → RpA c P O' H vs ds
  | _, _, .nil => .nil
  | _, _, .cons h t => .cons (Rp.avoid n h) (RpA.avoid n t)
end
theorem Rp.less (ho : ∀ a, O' a → O a) (ok : POk c P H) {v : V} {d : D} (h : Rp c P O H v d) : Rp c P O' H v d := h.mono (.refl ok) ok ho
theorem RpA.less (ho : ∀ a, O' a → O a) (ok : POk c P H) {vs : List V} {ds : List D} (h : RpA c P O H vs ds) : RpA c P O' H vs ds := h.mono (.refl ok) ok ho
theorem EnvOk.leO {σ : L2.St} {ρ : En} (e : EnvOk c P O H σ ρ) (l : LeO c P O H P' H') : EnvOk c P' O H' σ ρ := ⟨l.ok, e.len, fun i d h => by
  obtain ⟨v, h1, h2⟩ := e.at_ i d h
  exact ⟨v, h1, h2.leO l e.ok⟩⟩
/-- a pool turns -/
theorem Le.poolSet (ok : POk c P H) {a : Addr} {o : HO} (hP : P a) (hn : IsPool c (upd H a o) a) : Le c P H P (upd H a o) where
  mono _ h := h
  new a h n := absurd h n
  keep b u n h := by rw [upd_ne (fun z : b = a => n (by rw [z]; exact hP))]; exact h
  pool b q := by
    by_cases e : b = a
    · rw [e]; exact hn
    · obtain ⟨x, y, z, e2, g⟩ := ok b q
      exact ⟨x, y, z, by rw [upd_ne e]; exact e2, g⟩
/-- a new list of three ints becomes a pool -/
theorem Le.poolNew (ok : POk c P H) {a : Addr} {x y z : Int} (hn : H a = none) (g : G0 x y z) : Le c P H (fun b => P b ∨ b = a) (upd H a (.lst [.int x, .int y, .int z])) where
  mono _ h := .inl h
  new b h n := by rw [h.resolve_left n]; exact hn
  keep b u n h := by rw [upd_ne (ne_of_none h hn)]; exact h
  pool b q := by
    by_cases e : b = a
    · rw [e]; exact ⟨x, y, z, upd_same, g⟩
    · obtain ⟨x, y, z, e2, g⟩ := ok b (q.resolve_right e)
      exact ⟨x, y, z, by rw [upd_ne e]; exact e2, g⟩
end
end PD

set_option maxHeartbeats 2000000
/-! PDm: a tuple once, and no times. -/
namespace PD
open PySem PySem.Spec PyProof.Rows L2
theorem tuple_mul1 (l : Addr) (items : Array Value) (n : Nat) (dd : Option Addr) (sl : Array (Option Value)) (x : Int) (u : Tok) (c0 : (decide (x < -(2 ^ 63)) || decide (x ≥ 2 ^ 63)) = false) (c1 : (items.isEmpty || x == 1) = true) :
    Meets (Builtin.«tuple.__mul__» ⟨[.ref l, .int x u], []⟩) (fun _ R s => s.heap.get? l = some { cls := .type "tuple", dict := dd, data := .seq items n, slots := sl } ∧ R (.ok (.ret (Value.ref l))) s) :=
  .of_wp fun prog w A R s h => by
    obtain ⟨hp, g, d, tk, os⟩ := s
    obtain ⟨hl, h⟩ := h
    have f1 := AutoSeq1.idx_int
    wp_walk using wpAny_loadPart' hl
    repeat (first
      | (refine wpAny_ite_false (decide_eq_false (by rw [c0]; exact Bool.false_ne_true)) ?_; wp_walk using wpAny_loadPart' hl)
      | (refine wpAny_ite_true (decide_eq_true c1) ?_; wp_walk using wpAny_loadPart' hl))
    exact ⟨_, rfl, h⟩
def rRepT1 (K : PySem.W.Frag) : R2 := fun x y H Q => ∃ l xs, x = .ref l ∧ y = .int 1 ∧ SqT K H l xs ∧ Q (.ref l) H
theorem op_repT1 {X : Cx} : OpR X (binaryOp .Mult) (rRepT1 X.K) := by
  intro pins s σ H x y v u Q I rx ry h
  obtain ⟨l, xs, rfl, rfl, hT, q⟩ := h
  cases rx
  obtain ⟨t, rfl⟩ := ry
  obtain ⟨its, r, ⟨⟨cls, dd, data, sl⟩, ho, hc, n, hd⟩, hs⟩ := I.tuple hT
  simp only at hc hd
  subst hc hd
  refine wpAny_binaryOp_repeat_ref (T := "tuple") (U := "int") (by decide) ⟨_, ho, rfl⟩ (fun s' => typeIs_int s' 1 t) noFill_tuple_mul F.fills_int_mul F.slot_int_rmul repeat_tuple F.slot_int_index.lookup
    (call_meets F.slot_int_rmul (typeIs_int s 1 t) F.entry_int_rmul (F.args_int_rmul_2 _ _) (int_rmul_tuple 1 t l its.toArray n dd sl)
      ⟨ho, rfl, ⟨_, ho, rfl⟩, call_meets F.slot_tuple_mul ⟨_, ho, rfl⟩ F.entry_tuple_mul (F.args_tuple_mul_2 _ _) (tuple_mul1 l its.toArray n dd sl 1 t (by decide) (by rw [Bool.or_eq_true]; exact .inr rfl)) ⟨ho, ?_⟩⟩)
  exact ⟨.ref l, H, I, rfl, q⟩
end PD

set_option maxHeartbeats 2000000
/-! PD2: operators over data. -/
namespace PD
open PySem PySem.Spec PyProof.Rows L2

/-! ### what operators give -/
def asB : D → W Bool
  | .bool b => W.ret b
  | _ => W.bad
def dAdd : D → D → W D
  | .int i, .int j => W.ret (.int (i + j))
  | .str a, .str b => W.need (a.length + b.length ≤ sizeLine) (W.ret (.str (a ++ b)))
  | .tuple xs, .tuple ys => W.need (xs.length + ys.length ≤ sizeLine) (W.ret (.tuple (xs ++ ys)))
  | .list xs, .list ys => W.need (xs.length + ys.length ≤ sizeLine) (W.ret (.list (xs ++ ys)))
  | _, _ => W.bad
def dMul : D → D → W D
  | .int i, .int j => W.need (CMul i j ∨ CMulX i j) (W.ret (.int (i * j)))
  | .tuple xs, .int k => W.need (xs ≠ [] ∧ 1 ≤ k ∧ k ≤ 1000 ∧ xs.length ≤ 1000) (W.ret (.tuple (List.replicate k.toNat xs).flatten))
  | _, _ => W.bad
def dBin : Operator → D → D → W D
  | .Add, a, b => dAdd a b
  | .Sub, .int i, .int j => W.ret (.int (i - j))
  | .Mult, a, b => dMul a b
  | .FloorDiv, .int i, .int j => W.need (CDiv i j) (W.ret (.int (i / j)))
  | .Mod, .int i, .int j => W.need (0 < j) (W.ret (.int (i % j)))
  | .Pow, .int i, .int j => W.need (CPow i j) (W.ret (.int (i ^ j.toNat)))
  | .LShift, .int i, .int j => W.need (CPow i j) (W.ret (.int (i * 2 ^ j.toNat)))
  | .RShift, .int i, .int j => W.need (0 ≤ j) (W.ret (.int (i / 2 ^ j.toNat)))
  | .BitAnd, .int i, .int j => W.ret (.int (Builtin.bitAnd i j))
  | .BitOr, .int i, .int j => W.ret (.int (Builtin.bitOr i j))
  | .BitXor, .int i, .int j => W.ret (.int (Builtin.bitXor i j))
  | _, _, _ => W.bad
def intsOf : List D → Option (List Int)
  | [] => some []
  | .int i :: r => (intsOf r).map (i :: ·)
  | _ :: _ => none
theorem intsOf_eq : ∀ {ds : List D} {ns : List Int}, intsOf ds = some ns → ds = ns.map PyData.int
  | [], ns, h => by
    cases h
    rfl
  | .int i :: r, ns, h => by
    have h1 : (intsOf r).map (i :: ·) = some ns := h
    cases e : intsOf r with
    | none => rw [e] at h1; cases h1
    | some ms =>
      rw [e] at h1
      cases h1
      rw [intsOf_eq e]
      rfl
  | .none :: _, _, h => by cases h
  | .bool _ :: _, _, h => by cases h
  | .str _ :: _, _, h => by cases h
  | .list _ :: _, _, h => by cases h
  | .tuple _ :: _, _, h => by cases h
  | .dict _ :: _, _, h => by cases h
def leInts (ns ms : List Int) : Bool := Ob.lexAt (fun j => decide (ns.getD j 0 = ms.getD j 0)) (fun j => decide (ns.getD j 0 ≤ ms.getD j 0)) (decide (ns.length ≤ ms.length)) 0 (min ns.length ms.length)
def dLt : D → D → W D
  | .int i, .int j => W.ret (.bool (decide (i < j)))
  | .tuple xs, .tuple ys => W.need (SeqAt.shaped (.tuple xs) = true ∧ SeqAt.shaped (.tuple ys) = true ∧ PySem.W.alike (.tuple xs) (.tuple ys) = true) (W.ret (.bool (PySem.W.dataLt (.tuple xs) (.tuple ys))))
  | _, _ => W.bad
def dLe : D → D → W D
  | .int i, .int j => W.ret (.bool (decide (i ≤ j)))
  | .tuple xs, .tuple ys => match intsOf xs, intsOf ys with
    | some ns, some ms => W.ret (.bool (leInts ns ms))
    | _, _ => W.bad
  | _, _ => W.bad
def isNone : D → Bool
  | .none => true
  | _ => false
def dIs : D → D → W D
  | a, .none => W.ret (.bool (isNone a))
  | .bool a, .bool b => W.ret (.bool (decide (a = b)))
  | _, _ => W.bad
def dIsNot : D → D → W D
  | a, .none => W.ret (.bool (!isNone a))
  | .bool a, .bool b => W.ret (.bool (!decide (a = b)))
  | _, _ => W.bad
def dIn : D → D → W D
  | d, .list ds => W.need (SeqAt.shaped d = true ∧ SeqAt.shaped (.list ds) = true) (W.ret (.bool (ds.any fun z => PyData.eqv z d)))
  | d, .tuple ds => W.need (SeqAt.shaped d = true ∧ SeqAt.shaped (.tuple ds) = true) (W.ret (.bool (ds.any fun z => PyData.eqv z d)))
  | .str a, .str b => W.ret (.bool (!(Builtin.Str.occurrences b a 0 b.length 1).isEmpty))
  | _, _ => W.bad
def dNot : D → W D
  | .bool b => W.ret (.bool (!b))
  | _ => W.bad
def dCmp : CmpOp → D → D → W D
  | .Eq, a, b => W.need (SeqAt.shaped a = true ∧ SeqAt.shaped b = true) (W.ret (.bool (PyData.eqv a b)))
  | .NotEq, a, b => W.need (SeqAt.shaped a = true ∧ SeqAt.shaped b = true) (W.ret (.bool (!PyData.eqv a b)))
  | .Lt, a, b => dLt a b
  | .LtE, a, b => dLe a b
  | .Gt, .int i, .int j => W.ret (.bool (decide (j < i)))
  | .GtE, .int i, .int j => W.ret (.bool (decide (j ≤ i)))
  | .Is, a, b => dIs a b
  | .IsNot, a, b => dIsNot a b
  | .In, a, b => dIn a b
  | .NotIn, a, b => W.bind (dIn a b) dNot
  | _, _, _ => W.bad

/-! ### as operations on values -/
def rD (c : Cn) (f : D → D → W D) : R2 := fun v w H Q => ∃ P O a b q x, WOk c P O H ∧ Rp c P O H v a ∧ Rp c P O H w b ∧ f a b q x ∧
  ∀ P' H' u d, Le c P H P' H' → Rp c P' O H' u d → q d → Q u H'
section
variable {c : Cn} {X : Cx} {P O : Addr → Prop} {H : Hp} {v w : V}
theorem rp_int {i : Int} (r : Rp c P O H v (.int i)) : v = .int i := by cases r; rfl
theorem rp_str {i : Str} (r : Rp c P O H v (.str i)) : v = .str i := by cases r; rfl
theorem rp_bl {i : Bool} (r : Rp c P O H v (.bool i)) : v = .bl i := by cases r; rfl
theorem rp_non (r : Rp c P O H v .none) : v = .non := by cases r; rfl
theorem rp_tup {ds : List D} (r : Rp c P O H v (.tuple ds)) : ∃ a xs, v = .ref a ∧ SqT c.K H a xs ∧ RpA c P O H xs ds := by
  cases r with
  | tup h1 h2 => exact ⟨_, _, rfl, h1, h2⟩
theorem rp_lst {ds : List D} (r : Rp c P O H v (.list ds)) : ∃ a xs, v = .ref a ∧ ¬ P a ∧ ¬ O a ∧ Rd H a (.lst xs) ∧ RpA c P O H xs ds := by
  cases r with
  | lst h1 h2 h3 h4 => exact ⟨_, _, rfl, h1, h2, h3, h4⟩
theorem isNone_eq {d : D} (r : Rp c P O H v d) : decide (v = .non) = isNone d := by
  cases r <;> rfl
theorem OpR.imp {f : Value → Value → Sem Value} {r r' : R2} (h : OpR X f r) (i : ∀ x y H Q, r' x y H Q → r x y H Q) : OpR X f r' := fun pins s σ H x y v u Q I rx ry q => h pins s σ H x y v u Q I rx ry (i _ _ _ _ q)
/-- a new tuple, a new list -/
theorem new_tup (ok : WOk c P O H) {xs : List V} {ds : List D} (r : RpA c P O H xs ds) {p : Addr} (hp : H p = none) : Le c P H P (upd H p (.tup xs)) ∧ Rp c P O (upd H p (.tup xs)) (.ref p) (.tuple ds) := by
  have l : Le c P H P (upd H p (.tup xs)) := Le.laid ok.pk hp
  exact ⟨l, .tup (.inl (.inl upd_same)) (r.le l ok.pk)⟩
theorem new_lst (ok : WOk c P O H) {xs : List V} {ds : List D} (r : RpA c P O H xs ds) {p : Addr} (hp : H p = none) : Le c P H P (upd H p (.lst xs)) ∧ Rp c P O (upd H p (.lst xs)) (.ref p) (.list ds) := by
  have l : Le c P H P (upd H p (.lst xs)) := Le.laid ok.pk hp
  exact ⟨l, .lst (ok.np hp) (ok.no hp) (.inl upd_same) (r.le l ok.pk)⟩
/-- list + list, one of them locked perhaps -/
def rCatR : R2 := fun x y H Q => ∃ l b xs zs, x = .ref l ∧ y = .ref b ∧ Rd H l (.lst xs) ∧ Rd H b (.lst zs) ∧ xs.length + zs.length ≤ sizeLine ∧ ∀ p, H p = none → Q (.ref p) (upd H p (.lst (xs ++ zs)))
theorem op_catR : OpR X (binaryOp .Add) rCatR := by
  intro pins s σ H x y v u Q I rx ry h
  obtain ⟨l, b, xs, zs, rfl, rfl, hH, hB, hz, q⟩ := h
  cases rx
  cases ry
  obtain ⟨z, its, n, r, e⟩ := hH.ok I.hok
  obtain ⟨z2, its2, n2, r2, e2⟩ := hB.ok I.hok
  have hl := r.length
  have hl2 := r2.length
  refine PySem.P.add_list e e2 ?_ (by rw [List.size_toArray, List.size_toArray]; omega)
  have ea : its.toArray ++ its2.toArray = (its ++ its2).toArray := by simp
  rw [ea]
  exact ⟨.ref _, _, I.lnew (t' := s.toks) (r.append r2) (by rw [List.length_append]; omega), rfl, q _ I.fresh⟩
theorem op_addD (hK : X.K = c.K) : OpR X (binaryOp .Add) (rD c dAdd) := by
  refine OpR.imp (OpR.or op_add (OpR.or op_add_str (OpR.or op_catA op_catR))) fun v w H Q h => ?_
  obtain ⟨P, O, a, b, q, x, ok, ra, rb, hf, k⟩ := h
  unfold dAdd at hf
  split at hf
  · obtain rfl := rp_int ra
    obtain rfl := rp_int rb
    exact .inl ⟨_, _, rfl, rfl, k P H _ _ (.refl ok.pk) (.int _) hf⟩
  · obtain rfl := rp_str ra
    obtain rfl := rp_str rb
    exact .inr (.inl ⟨_, _, rfl, rfl, hf.1, k P H _ _ (.refl ok.pk) (.str _) hf.2⟩)
  · rename_i xs ys
    obtain ⟨la, us, rfl, ha, rua⟩ := rp_tup ra
    obtain ⟨lb, ws, rfl, hb, rub⟩ := rp_tup rb
    refine .inr (.inr (.inl ⟨la, lb, us, ws, rfl, rfl, by rw [hK]; exact ha, by rw [hK]; exact hb, by rw [rua.length, rub.length]; exact hf.1, fun e => ?_, fun e1 e2 => ?_, fun e1 e2 p hp => ?_⟩))
    · subst e
      cases rua
      exact k P H _ _ (.refl ok.pk) (.tup hb rub) hf.2
    · subst e2
      cases rub
      exact k P H _ _ (.refl ok.pk) (.tup ha rua) (by have h2 := hf.2; rw [List.append_nil] at h2; exact h2)
    · obtain ⟨l, r⟩ := new_tup ok (rua.append rub) hp
      exact k P _ _ _ l r hf.2
  · obtain ⟨la, us, rfl, _, _, ha, rua⟩ := rp_lst ra
    obtain ⟨lb, ws, rfl, _, _, hb, rub⟩ := rp_lst rb
    refine .inr (.inr (.inr ⟨la, lb, us, ws, rfl, rfl, ha, hb, by rw [rua.length, rub.length]; exact hf.1, fun p hp => ?_⟩))
    obtain ⟨l, r⟩ := new_lst ok (rua.append rub) hp
    exact k P _ _ _ l r hf.2
  · exact hf.elim
theorem rpA_flat {xs : List V} {ds : List D} (r : RpA c P O H xs ds) : ∀ n : Nat, RpA c P O H (List.replicate n xs).flatten (List.replicate n ds).flatten
  | 0 => .nil
  | n + 1 => by
    rw [List.replicate_succ, List.replicate_succ, List.flatten_cons, List.flatten_cons]
    exact r.append (rpA_flat r n)
theorem op_mulD (hK : X.K = c.K) : OpR X (binaryOp .Mult) (rD c dMul) := by
  refine OpR.imp (OpR.or op_mul (OpR.or op_mulX (OpR.or op_repT op_repT1))) fun v w H Q h => ?_
  obtain ⟨P, O, a, b, q, x, ok, ra, rb, hf, k⟩ := h
  unfold dMul at hf
  split at hf
  · obtain rfl := rp_int ra
    obtain rfl := rp_int rb
    rcases hf.1 with h1 | h1
    · exact .inl ⟨_, _, rfl, rfl, h1, k P H _ _ (.refl ok.pk) (.int _) hf.2⟩
    · exact .inr (.inl ⟨_, _, rfl, rfl, h1, k P H _ _ (.refl ok.pk) (.int _) hf.2⟩)
  · rename_i xs n
    obtain ⟨la, us, rfl, ha, rua⟩ := rp_tup ra
    obtain rfl := rp_int rb
    obtain ⟨⟨h1, h2, h3, h4⟩, h5⟩ := hf
    by_cases hn : n = 1
    · subst hn
      refine .inr (.inr (.inr ⟨la, us, rfl, rfl, by rw [hK]; exact ha, ?_⟩))
      have e : (List.replicate (1 : Int).toNat xs).flatten = xs := by simp
      rw [e] at h5
      exact k P H _ _ (.refl ok.pk) (.tup ha rua) h5
    refine .inr (.inr (.inl ⟨la, n, us, rfl, rfl, by rw [hK]; exact ha, ?_, by omega, h3, by rw [rua.length]; exact h4, fun p hp => ?_⟩))
    · intro e
      subst e
      cases rua
      exact h1 rfl
    · obtain ⟨l, r⟩ := new_tup ok (rpA_flat rua n.toNat) hp
      exact k P _ _ _ l r h5
  · exact hf.elim
/-- ints in, an int out -/
theorem op_intD {op : Operator} {C : Int → Int → Prop} {g : Int → Int → Int} {f : D → D → W D} (ho : OpR X (binaryOp op) (rI C fun i j => .int (g i j)))
    (hf : ∀ a b q x, f a b q x → ∃ i j, a = .int i ∧ b = .int j ∧ C i j ∧ q (.int (g i j))) : OpR X (binaryOp op) (rD c f) := by
  refine OpR.imp ho fun v w H Q h => ?_
  obtain ⟨P, O, a, b, q, x, ok, ra, rb, h1, k⟩ := h
  obtain ⟨i, j, rfl, rfl, hc, hq⟩ := hf a b q x h1
  obtain rfl := rp_int ra
  obtain rfl := rp_int rb
  exact ⟨i, j, rfl, rfl, hc, k P H _ _ (.refl ok.pk) (.int _) hq⟩
theorem op_intD0 {op : Operator} {g : Int → Int → Int} {f : D → D → W D} (ho : OpR X (binaryOp op) (rI0 fun i j => .int (g i j)))
    (hf : ∀ a b q x, f a b q x → ∃ i j, a = .int i ∧ b = .int j ∧ q (.int (g i j))) : OpR X (binaryOp op) (rD c f) := by
  refine OpR.imp ho fun v w H Q h => ?_
  obtain ⟨P, O, a, b, q, x, ok, ra, rb, h1, k⟩ := h
  obtain ⟨i, j, rfl, rfl, hq⟩ := hf a b q x h1
  obtain rfl := rp_int ra
  obtain rfl := rp_int rb
  exact ⟨i, j, rfl, rfl, k P H _ _ (.refl ok.pk) (.int _) hq⟩
theorem op_badD {op : Operator} {f : D → D → W D} (hf : ∀ a b q x, ¬ f a b q x) : OpR X (binaryOp op) (rD c f) := fun pins s σ H x y v u Q I rx ry h => by
  obtain ⟨P, O, a, b, q, x, ok, ra, rb, h1, k⟩ := h
  exact (hf _ _ _ _ h1).elim
theorem op_binD (hK : X.K = c.K) (op : Operator) : OpR X (binaryOp op) (rD c (dBin op)) := by
  cases op with
  | Add => exact op_addD hK
  | Mult => exact op_mulD hK
  | Sub => exact op_intD0 op_sub (fun a b q x h => by cases a <;> cases b <;> first | exact ⟨_, _, rfl, rfl, h⟩ | exact h.elim)
  | FloorDiv => exact op_intD op_fdiv (fun a b q x h => by cases a <;> cases b <;> first | exact ⟨_, _, rfl, rfl, h.1, h.2⟩ | exact h.elim)
  | Mod => exact op_intD op_mod (fun a b q x h => by cases a <;> cases b <;> first | exact ⟨_, _, rfl, rfl, h.1, h.2⟩ | exact h.elim)
  | Pow => exact op_intD op_pow (fun a b q x h => by cases a <;> cases b <;> first | exact ⟨_, _, rfl, rfl, h.1, h.2⟩ | exact h.elim)
  | LShift => exact op_intD op_shl (fun a b q x h => by cases a <;> cases b <;> first | exact ⟨_, _, rfl, rfl, h.1, h.2⟩ | exact h.elim)
  | RShift => exact op_intD op_shr (fun a b q x h => by cases a <;> cases b <;> first | exact ⟨_, _, rfl, rfl, h.1, h.2⟩ | exact h.elim)
  | BitAnd => exact op_intD0 op_and (fun a b q x h => by cases a <;> cases b <;> first | exact ⟨_, _, rfl, rfl, h⟩ | exact h.elim)
  | BitOr => exact op_intD0 op_or (fun a b q x h => by cases a <;> cases b <;> first | exact ⟨_, _, rfl, rfl, h⟩ | exact h.elim)
  | BitXor => exact op_intD0 op_xor (fun a b q x h => by cases a <;> cases b <;> first | exact ⟨_, _, rfl, rfl, h⟩ | exact h.elim)
  | MatMult => exact op_badD fun a b q x h => h
  | Div => exact op_badD fun a b q x h => h
end
end PD

set_option maxHeartbeats 2000000
/-! PD3: comparisons over data. -/
namespace PD
open PySem PySem.Spec PyProof.Rows L2
section
variable {c : Cn} {X : Cx} {P O : Addr → Prop} {H : Hp} {v w : V}
theorem Rp.dpS {d : D} (r : Rp c P O H v d) (h : SeqAt.shaped d = true) (hK : X.K = c.K) : Dp X.K H v d := by
  rw [hK]
  exact r.dp (SeqAt.canLay_of_shaped h)
theorem op_eqD' (hK : X.K = c.K) (hu : X.A.units + 200 < cLine) : OpR X (compareOp .Eq) (rD c (dCmp .Eq)) := by
  refine OpR.imp (op_eqD (by omega)) fun v w H Q h => ?_
  obtain ⟨P, O, a, b, q, x, ok, ra, rb, ⟨⟨h1, h2⟩, h3⟩, k⟩ := h
  exact ⟨a, b, ra.dpS h1 hK, rb.dpS h2 hK, h1, h2, k P H _ _ (.refl ok.pk) (.bl _) h3⟩
theorem op_neD' (hK : X.K = c.K) (hu : X.A.units + 200 < cLine) : OpR X (compareOp .NotEq) (rD c (dCmp .NotEq)) := by
  refine OpR.imp (op_neD (by omega)) fun v w H Q h => ?_
  obtain ⟨P, O, a, b, q, x, ok, ra, rb, ⟨⟨h1, h2⟩, h3⟩, k⟩ := h
  exact ⟨a, b, ra.dpS h1 hK, rb.dpS h2 hK, h1, h2, k P H _ _ (.refl ok.pk) (.bl _) h3⟩
/-- t < u, alike tuples -/
def rLtD (K : PySem.W.Frag) : R2 := fun x y H Q => ∃ d e, Dp K H x d ∧ Dp K H y e ∧ PySem.W.alike d e = true ∧ d ≠ .none ∧ d.depth ≤ 64 ∧ Q (.bl (PySem.W.dataLt d e)) H
theorem op_ltD (hu : X.A.units + 200 < cLine) : OpR X (compareOp .Lt) (rLtD X.K) := by
  intro pins s σ H x y v u Q I rx ry h
  obtain ⟨d, e, hd, he, ha, hn, hdp, q⟩ := h
  obtain ⟨as, r1⟩ := Dp.reads I d x v hd rx
  obtain ⟨bs, r2⟩ := Dp.reads I e y u he ry
  have hm : min d.depth e.depth ≤ d.depth := Nat.min_le_left _ _
  exact PySem.W.rcLt_alike d e X.A s v u as bs r1 r2 ha hn (by omega) X.prog X.w X.xe _ ⟨.bl _, H, I, rfl, q⟩
theorem op_lt' (hK : X.K = c.K) (hu : X.A.units + 200 < cLine) : OpR X (compareOp .Lt) (rD c dLt) := by
  refine OpR.imp (OpR.or op_lt (op_ltD hu)) fun v w H Q h => ?_
  obtain ⟨P, O, a, b, q, x, ok, ra, rb, hf, k⟩ := h
  unfold dLt at hf
  split at hf
  · obtain rfl := rp_int ra
    obtain rfl := rp_int rb
    exact .inl ⟨_, _, rfl, rfl, k P H _ _ (.refl ok.pk) (.bl _) hf⟩
  · obtain ⟨⟨h1, h2, h3⟩, h4⟩ := hf
    refine .inr ⟨_, _, ra.dpS h1 hK, rb.dpS h2 hK, h3, (fun z => nomatch z), SeqAt.depth_of_shaped h1, k P H _ _ (.refl ok.pk) (.bl _) h4⟩
  · exact hf.elim
theorem op_le' (hK : X.K = c.K) (hu : X.A.units + 200 < cLine) : OpR X (compareOp .LtE) (rD c dLe) := by
  refine OpR.imp (OpR.or op_le (op_leT (by omega))) fun v w H Q h => ?_
  obtain ⟨P, O, a, b, q, x, ok, ra, rb, hf, k⟩ := h
  unfold dLe at hf
  split at hf
  · obtain rfl := rp_int ra
    obtain rfl := rp_int rb
    exact .inl ⟨_, _, rfl, rfl, k P H _ _ (.refl ok.pk) (.bl _) hf⟩
  · rename_i xs ys
    cases e1 : intsOf xs with
    | none => rw [e1] at hf; exact hf.elim
    | some ns =>
    cases e2 : intsOf ys with
    | none => rw [e1, e2] at hf; exact hf.elim
    | some ms =>
      rw [e1, e2] at hf
      obtain rfl := intsOf_eq e1
      obtain rfl := intsOf_eq e2
      obtain ⟨la, us, rfl, ha, rua⟩ := rp_tup ra
      obtain ⟨lb, ws, rfl, hb, rub⟩ := rp_tup rb
      obtain rfl := rua.ints
      obtain rfl := rub.ints
      exact .inr ⟨la, lb, ns, ms, rfl, rfl, by rw [hK]; exact ha, by rw [hK]; exact hb, k P H _ _ (.refl ok.pk) (.bl _) hf⟩
  · exact hf.elim
theorem op_cI {op : CmpOp} {g : Int → Int → Bool} {f : D → D → W D} (ho : OpR X (compareOp op) (rI0 fun i j => .bl (g i j)))
    (hf : ∀ a b q x, f a b q x → ∃ i j, a = .int i ∧ b = .int j ∧ q (.bool (g i j))) : OpR X (compareOp op) (rD c f) := by
  refine OpR.imp ho fun v w H Q h => ?_
  obtain ⟨P, O, a, b, q, x, ok, ra, rb, h1, k⟩ := h
  obtain ⟨i, j, rfl, rfl, hq⟩ := hf a b q x h1
  obtain rfl := rp_int ra
  obtain rfl := rp_int rb
  exact ⟨i, j, rfl, rfl, k P H _ _ (.refl ok.pk) (.bl _) hq⟩
theorem op_is' : OpR X (compareOp .Is) (rD c dIs) := by
  refine OpR.imp (OpR.or op_isN op_is_bl) fun v w H Q h => ?_
  obtain ⟨P, O, a, b, q, x, ok, ra, rb, hf, k⟩ := h
  unfold dIs at hf
  split at hf
  · obtain rfl := rp_non rb
    refine .inl ⟨rfl, ?_⟩
    rw [isNone_eq ra]
    exact k P H _ _ (.refl ok.pk) (.bl _) hf
  · obtain rfl := rp_bl ra
    obtain rfl := rp_bl rb
    exact .inr ⟨_, _, rfl, rfl, k P H _ _ (.refl ok.pk) (.bl _) hf⟩
  · exact hf.elim
theorem op_isnot' : OpR X (compareOp .IsNot) (rD c dIsNot) := by
  refine OpR.imp (OpR.or op_notN op_isnot_bl) fun v w H Q h => ?_
  obtain ⟨P, O, a, b, q, x, ok, ra, rb, hf, k⟩ := h
  unfold dIsNot at hf
  split at hf
  · obtain rfl := rp_non rb
    refine .inl ⟨rfl, ?_⟩
    rw [isNone_eq ra]
    exact k P H _ _ (.refl ok.pk) (.bl _) hf
  · obtain rfl := rp_bl ra
    obtain rfl := rp_bl rb
    exact .inr ⟨_, _, rfl, rfl, k P H _ _ (.refl ok.pk) (.bl _) hf⟩
  · exact hf.elim
def rInT (K : PySem.W.Frag) (neg : Bool) : R2 := fun x y H Q => ∃ d ds, Dp K H x d ∧ Dp K H y (.tuple ds) ∧ SeqAt.shaped d = true ∧ SeqAt.shaped (.tuple ds) = true ∧ Q (.bl (if neg then !(ds.any fun z => PyData.eqv z d) else ds.any fun z => PyData.eqv z d)) H
theorem op_inT (hu : X.A.units + 200 < cLine) : OpR X (compareOp .In) (rInT X.K false) := by
  intro pins s σ H x y v u Q I rx ry h
  obtain ⟨d, ds, hd, he, sd, se, q⟩ := h
  obtain ⟨as, r1⟩ := Dp.reads I d x v hd rx
  obtain ⟨bs, r2⟩ := Dp.reads I (.tuple ds) y u he ry
  exact SeqAt.in_tuple_reads r2 r1 (SeqAt.canLay_of_shaped se) (SeqAt.canLay_of_shaped sd) (room_in_shaped sd (by omega)) ⟨.bl _, H, I, rfl, q⟩
theorem op_notInT (hu : X.A.units + 200 < cLine) : OpR X (compareOp .NotIn) (rInT X.K true) := by
  intro pins s σ H x y v u Q I rx ry h
  obtain ⟨d, ds, hd, he, sd, se, q⟩ := h
  obtain ⟨as, r1⟩ := Dp.reads I d x v hd rx
  obtain ⟨bs, r2⟩ := Dp.reads I (.tuple ds) y u he ry
  exact SeqAt.notIn_tuple_reads r2 r1 (SeqAt.canLay_of_shaped se) (SeqAt.canLay_of_shaped sd) (room_in_shaped sd (by omega)) ⟨.bl _, H, I, rfl, q⟩
theorem op_in' (hK : X.K = c.K) (hu : X.A.units + 200 < cLine) : OpR X (compareOp .In) (rD c dIn) := by
  refine OpR.imp (OpR.or op_in_str (OpR.or (op_inD (by omega)) (op_inT hu))) fun v w H Q h => ?_
  obtain ⟨P, O, a, b, q, x, ok, ra, rb, hf, k⟩ := h
  unfold dIn at hf
  split at hf
  · obtain ⟨⟨h1, h2⟩, h3⟩ := hf
    exact .inr (.inl ⟨_, _, ra.dpS h1 hK, rb.dpS h2 hK, h1, h2, k P H _ _ (.refl ok.pk) (.bl _) h3⟩)
  · obtain ⟨⟨h1, h2⟩, h3⟩ := hf
    exact .inr (.inr ⟨_, _, ra.dpS h1 hK, rb.dpS h2 hK, h1, h2, k P H _ _ (.refl ok.pk) (.bl _) h3⟩)
  · obtain rfl := rp_str ra
    obtain rfl := rp_str rb
    exact .inl ⟨_, _, rfl, rfl, k P H _ _ (.refl ok.pk) (.bl _) hf⟩
  · exact hf.elim
theorem op_notin' (hK : X.K = c.K) (hu : X.A.units + 200 < cLine) : OpR X (compareOp .NotIn) (rD c (dCmp .NotIn)) := by
  refine OpR.imp (OpR.or op_notin_str (OpR.or (op_notInD (by omega)) (op_notInT hu))) fun v w H Q h => ?_
  obtain ⟨P, O, a, b, q, x, ok, ra, rb, hf, k⟩ := h
  have hf : dIn a b (fun d => dNot d q x) x := hf
  unfold dIn at hf
  split at hf
  · obtain ⟨⟨h1, h2⟩, h3⟩ := hf
    exact .inr (.inl ⟨_, _, ra.dpS h1 hK, rb.dpS h2 hK, h1, h2, k P H _ _ (.refl ok.pk) (.bl _) h3⟩)
  · obtain ⟨⟨h1, h2⟩, h3⟩ := hf
    exact .inr (.inr ⟨_, _, ra.dpS h1 hK, rb.dpS h2 hK, h1, h2, k P H _ _ (.refl ok.pk) (.bl _) h3⟩)
  · obtain rfl := rp_str ra
    obtain rfl := rp_str rb
    exact .inl ⟨_, _, rfl, rfl, k P H _ _ (.refl ok.pk) (.bl _) hf⟩
  · exact hf.elim
theorem op_cmpD (hK : X.K = c.K) (hu : X.A.units + 200 < cLine) (op : CmpOp) : OpR X (compareOp op) (rD c (dCmp op)) := by
  cases op with
  | Eq => exact op_eqD' hK hu
  | NotEq => exact op_neD' hK hu
  | Lt => exact op_lt' hK hu
  | LtE => exact op_le' hK hu
  | Gt => exact op_cI op_gt (fun a b q x h => by cases a <;> cases b <;> first | exact ⟨_, _, rfl, rfl, h⟩ | exact h.elim)
  | GtE => exact op_cI op_ge (fun a b q x h => by cases a <;> cases b <;> first | exact ⟨_, _, rfl, rfl, h⟩ | exact h.elim)
  | Is => exact op_is'
  | IsNot => exact op_isnot'
  | In => exact op_in' hK hu
  | NotIn => exact op_notin' hK hu
end
end PD

set_option maxHeartbeats 2000000
/-! PDv: max of a tuple of ints. -/
namespace PD
open PySem PySem.Spec PyProof.Rows L2
theorem reads_ints {h : Heap} : ∀ {vs : List Value} {ns : List Int}, IntsAre vs ns → ReadsAll h vs (ns.map PyData.int) []
  | _, _, .nil => .nil
  | _, _, .cons n t r => .cons (.int n t) (reads_ints r)
theorem foldl_max : ∀ (ns : List Int) (n : Int), ns.foldl max n ∈ n :: ns ∧ ∀ y ∈ n :: ns, y ≤ ns.foldl max n
  | [], n => ⟨List.mem_singleton.mpr rfl, fun y hy => by rw [List.mem_singleton.mp hy]; exact Int.le_refl _⟩
  | k :: ns, n => by
    obtain ⟨h1, h2⟩ := foldl_max ns (max n k)
    rw [List.foldl_cons]
    refine ⟨?_, fun y hy => ?_⟩
    · rcases List.mem_cons.mp h1 with h | h
      · rw [h]
        rcases Int.le_total n k with z | z
        · rw [Int.max_eq_right z]; simp
        · rw [Int.max_eq_left z]; simp
      · exact List.mem_cons_of_mem _ (List.mem_cons_of_mem _ h)
    · have h3 := h2 (max n k) (List.mem_cons_self ..)
      rcases List.mem_cons.mp hy with rfl | hy
      · omega
      · rcases List.mem_cons.mp hy with rfl | hy
        · omega
        · exact h2 y (List.mem_cons_of_mem _ hy)
theorem cr_maxT {X : Cx} (hc : X.calm = true) (hu : X.A.units + 200 < cLine) : CallR X (.builtin "max") (fun vs H Q => ∃ (a : Addr) (ns : List Int), vs = [.ref a] ∧ SqT X.K H a (ns.map V.int) ∧ 0 < ns.length ∧ ∀ m, m ∈ ns → (∀ y, y ∈ ns → y ≤ m) → Q (.int m) H) := by
  intro pins s σ H vs us Q I r h
  obtain ⟨a, ns, rfl, hs, hne, q⟩ := h
  obtain ⟨its, rv, ht, _⟩ := I.tuple hs
  rw [Vals.ref1 r]
  cases ns with
  | nil => cases hne
  | cons n ns =>
    have hr := reads_ints (h := s.heap) rv.ints
    have hd : PyData.depthAll ((n :: ns).map PyData.int) = 0 := by
      have : ∀ l : List Int, PyData.depthAll (l.map PyData.int) = 0 := fun l => by
        induction l with
        | nil => rfl
        | cons a l ih => rw [List.map_cons, PyData.depthAll, ih]; rfl
      exact this _
    refine PySem.W.max_tuple_data (I.ok.hd hc) (show s.heap.IsTuple a its.toArray from ht) hr ⟨fun x hx y hy => ?_, fun x hx => ?_⟩ (by rw [show PyData.int n :: ns.map PyData.int = (n :: ns).map PyData.int from rfl, hd]; omega) fun i v h' tk bs hi rd hk => ?_
    · obtain ⟨x, _, rfl⟩ := List.mem_map.mp (show x ∈ (n :: ns).map PyData.int from hx)
      obtain ⟨y, _, rfl⟩ := List.mem_map.mp (show y ∈ (n :: ns).map PyData.int from hy)
      simp [PySem.W.alike]
    · obtain ⟨x, _, rfl⟩ := List.mem_map.mp (show x ∈ (n :: ns).map PyData.int from hx)
      exact fun z => nomatch z
    · rw [PySem.W.maxD_ints] at rd
      have e : ∃ t, v = .int (ns.foldl max n) t := by
        cases rd
        exact ⟨_, rfl⟩
      obtain ⟨t, rfl⟩ := e
      obtain ⟨h1, h2⟩ := foldl_max ns n
      exact ⟨.int _, H, I.kept hk, ⟨_, rfl⟩, q _ h1 h2⟩
end PD

set_option maxHeartbeats 2000000
/-! PD4: built-in calls over data. -/
namespace PD
open PySem PySem.Spec PyProof.Rows L2
def boolsOf : List D → Option (List Bool)
  | [] => some []
  | .bool b :: r => (boolsOf r).map (b :: ·)
  | _ :: _ => none
theorem boolsOf_eq : ∀ {ds : List D} {ns : List Bool}, boolsOf ds = some ns → ds = ns.map PyData.bool
  | [], ns, h => by
    cases h
    rfl
  | .bool i :: r, ns, h => by
    have h1 : (boolsOf r).map (i :: ·) = some ns := h
    cases e : boolsOf r with
    | none => rw [e] at h1; cases h1
    | some ms =>
      rw [e] at h1
      cases h1
      rw [boolsOf_eq e]
      rfl
  | .none :: _, _, h => by cases h
  | .int _ :: _, _, h => by cases h
  | .str _ :: _, _, h => by cases h
  | .list _ :: _, _, h => by cases h
  | .tuple _ :: _, _, h => by cases h
  | .dict _ :: _, _, h => by cases h
@[reducible] def W.opt {α β : Type} (o : Option α) (f : α → W β) : W β := match o with
  | some a => f a
  | none => W.bad
/-! ### what calls give -/
def dLen : List D → W D
  | [.list ds] => W.ret (.int (ds.length : Int))
  | [.tuple ds] => W.ret (.int (ds.length : Int))
  | [.str x] => W.need (x.length ≤ sizeLine) (W.ret (.int (x.length : Int)))
  | _ => W.bad
def dAbs : List D → W D
  | [.int i] => W.ret (.int (if i < 0 then -i else i))
  | _ => W.bad
def dInt : List D → W D
  | [.int i] => W.ret (.int i)
  | [.bool b] => W.ret (.int (if b then 1 else 0))
  | _ => W.bad
def dSum : List D → W D
  | [.list ds] => W.opt (intsOf ds) fun ns => W.ret (.int ns.sum)
  | [.tuple ds] => W.opt (intsOf ds) fun ns => W.ret (.int ns.sum)
  | _ => W.bad
def dAll : List D → W D
  | [.list ds] => W.opt (boolsOf ds) fun bs => W.ret (.bool (bs.all id))
  | _ => W.bad
def dAny : List D → W D
  | [.list ds] => W.opt (boolsOf ds) fun bs => W.ret (.bool (bs.any id))
  | _ => W.bad
def dTuple : List D → W D
  | [.list ds] => W.ret (.tuple ds)
  | [.tuple ds] => W.ret (.tuple ds)
  | _ => W.bad
def dList : List D → W D
  | [.list ds] => W.ret (.list ds)
  | [.tuple ds] => W.ret (.list ds)
  | _ => W.bad
/-- an int of the list that none exceeds -/
def dMax : List D → W D
  | [.int i, .int j] => W.ret (.int (if j > i then j else i))
  | [.list ds] => W.opt (intsOf ds) fun ns => W.need (0 < ns.length) (fun q _ => ∀ m, m ∈ ns → (∀ y, y ∈ ns → y ≤ m) → q (.int m))
  | [.tuple ds] => W.opt (intsOf ds) fun ns => W.need (0 < ns.length) (fun q _ => ∀ m, m ∈ ns → (∀ y, y ∈ ns → y ≤ m) → q (.int m))
  | _ => W.bad
def dMin : List D → W D
  | [.int i, .int j] => W.ret (.int (if j < i then j else i))
  | [.list ds] => W.opt (intsOf ds) fun ns => W.need (0 < ns.length) (fun q _ => ∀ m, m ∈ ns → (∀ y, y ∈ ns → m ≤ y) → q (.int m))
  | _ => W.bad
/-- a value's class -/
def tyD : D → Option String
  | .none => some "NoneType"
  | .bool _ => some "bool"
  | .int _ => some "int"
  | .str _ => some "str"
  | .list _ => some "list"
  | .tuple _ => some "tuple"
  | .dict [] => some "dict"
  | _ => none
def tyN (n : Str) : Option String := if n = "int" then some "int" else if n = "bool" then some "bool" else if n = "tuple" then some "tuple" else if n = "list" then some "list" else if n = "str" then some "str" else none
def subT (t T : String) : Bool := decide (t = T) || (decide (t = "bool") && decide (T = "int"))
/-- isinstance of a type's name -/
def isT (n : Str) (d : D) : Option Bool := match tyD d, tyN n with
  | some t, some T => some (subT t T)
  | _, _ => none
def rC (c : Cn) (f : List D → W D) : List V → Hp → VK → Prop := fun vs H Q => ∃ P O ds q x, WOk c P O H ∧ RpA c P O H vs ds ∧ f ds q x ∧
  ∀ P' H' u d, Le c P H P' H' → Rp c P' O H' u d → q d → Q u H'
section
variable {c : Cn} {X : Cx} {P O : Addr → Prop} {H : Hp} {v w : V}
theorem CallR.imp {f : Value} {r r' : List V → Hp → VK → Prop} (h : CallR X f r) (i : ∀ xs H Q, r' xs H Q → r xs H Q) : CallR X f r' := fun pins s σ H xs us Q I rx q => h pins s σ H xs us Q I rx (i _ _ _ q)
theorem rpA1 {vs : List V} {d : D} (r : RpA c P O H vs [d]) : ∃ v, vs = [v] ∧ Rp c P O H v d := by
  cases r with
  | cons h t =>
    cases t
    exact ⟨_, rfl, h⟩
theorem rpA2 {vs : List V} {d e : D} (r : RpA c P O H vs [d, e]) : ∃ v w, vs = [v, w] ∧ Rp c P O H v d ∧ Rp c P O H w e := by
  cases r with
  | cons h t =>
    obtain ⟨w, rfl, h2⟩ := rpA1 t
    exact ⟨_, _, rfl, h, h2⟩
theorem RpA.bools : ∀ {vs : List V} {ns : List Bool}, RpA c P O H vs (ns.map PyData.bool) → vs = ns.map V.bl
  | _, [], .nil => rfl
  | _, n :: ns, .cons h t => by
    cases h
    rw [List.map_cons, RpA.bools t]
theorem cr_len : CallR X (.builtin "len") (rC ⟨X.K, c.mg, c.G⟩ dLen) := by
  refine CallR.imp (CallR.or call_len_seq call_len_str) fun vs H Q h => ?_
  obtain ⟨P, O, ds, q, x, ok, r, hf, k⟩ := h
  unfold dLen at hf
  split at hf
  · obtain ⟨v, rfl, r1⟩ := rpA1 r
    obtain ⟨a, us, rfl, _, _, ha, ru⟩ := rp_lst r1
    exact .inl ⟨a, us, rfl, .inl (.inl ha), by rw [ru.length]; exact k P H _ _ (.refl ok.pk) (.int _) hf⟩
  · obtain ⟨v, rfl, r1⟩ := rpA1 r
    obtain ⟨a, us, rfl, ha, ru⟩ := rp_tup r1
    exact .inl ⟨a, us, rfl, .inr ha, by rw [ru.length]; exact k P H _ _ (.refl ok.pk) (.int _) hf⟩
  · obtain ⟨v, rfl, r1⟩ := rpA1 r
    obtain rfl := rp_str r1
    exact .inr ⟨_, rfl, hf.1, k P H _ _ (.refl ok.pk) (.int _) hf.2⟩
  · exact hf.elim
theorem cr_abs : CallR X (.builtin "abs") (rC c dAbs) := by
  refine CallR.imp call_abs fun vs H Q h => ?_
  obtain ⟨P, O, ds, q, x, ok, r, hf, k⟩ := h
  unfold dAbs at hf
  split at hf
  · obtain ⟨v, rfl, r1⟩ := rpA1 r
    obtain rfl := rp_int r1
    exact ⟨_, rfl, k P H _ _ (.refl ok.pk) (.int _) hf⟩
  · exact hf.elim
theorem cr_int : CallR X (.type "int") (rC c dInt) := by
  refine CallR.imp call_int1 fun vs H Q h => ?_
  obtain ⟨P, O, ds, q, x, ok, r, hf, k⟩ := h
  unfold dInt at hf
  split at hf
  · obtain ⟨v, rfl, r1⟩ := rpA1 r
    obtain rfl := rp_int r1
    exact .inl ⟨_, rfl, k P H _ _ (.refl ok.pk) (.int _) hf⟩
  · obtain ⟨v, rfl, r1⟩ := rpA1 r
    obtain rfl := rp_bl r1
    exact .inr ⟨_, rfl, k P H _ _ (.refl ok.pk) (.int _) hf⟩
  · exact hf.elim
theorem sum_rawT {prog : Program} {w : World} {A : Around} {E : Value → Shared → Prop} {s : Shared} {l : Addr} {its : List Value} {ns : List Int} {Q : Value → Shared → Prop} (hh : A.handled = none) (hl : s.heap.IsTuple l its.toArray) (hi : IntsAre its ns)
    (h : ∀ h' tk t', (∀ b o, s.heap.get? b = some o → h'.get? b = some o) → Q (.int ns.sum t') { s with heap := h', toks := tk }) : wpAny (model prog w) A (call (.builtin "sum") [.ref l]) Q E s := by
  obtain ⟨xs, e⟩ := hi.allInts.items
  have hn : numsOf (intItems xs).toList = ns := by rw [← e]; exact hi.numsOf
  rw [nums_intItems] at hn
  rw [e] at hl
  have hlt : l < s.heap.objs.size := by obtain ⟨_, e, _⟩ := hl; exact Heap.lt_size e
  refine call_sum_walkG (wpAny_pyIter_tuple hl ?_)
  refine ⟨_, _, _, _, _, _, numAt xs, rfl, Walks.tuple (A := A.in1) hh _ l (Nat.ne_of_lt hlt) (intItems xs), ⟨⟨_, Heap.get?_push_size _ rfl, rfl, rfl⟩, hl.push _⟩, fun b hb => ?_, (fun _ _ => intItems_at), fun h' tk t' hk => ?_⟩
  · show b < (s.heap.push _).objs.size
    rw [Heap.size_push]
    rcases List.mem_cons.mp hb with rfl | hb
    · exact Nat.lt_succ_self _
    · rcases List.mem_cons.mp hb with rfl | hb
      · exact Nat.lt_succ_of_lt hlt
      · cases hb
  · have := h h' tk t' fun b o eb => hk b o (fun hb => absurd (Heap.lt_size eb) ((List.mem_singleton.mp hb) ▸ Nat.lt_irrefl _)) (Heap.get?_push_of_some _ eb)
    have e2 : (intItems xs).size = xs.size := by simp [intItems]
    rw [e2, preSum_eq, List.take_of_length_le (by simp), hn]
    exact this
theorem cr_sumT (hc : X.calm = true) : CallR X (.builtin "sum") (fun vs H Q => ∃ (a : Addr) (ns : List Int), vs = [V.ref a] ∧ SqT X.K H a (ns.map V.int) ∧ Q (.int ns.sum) H) := by
  intro pins s σ H vs us Q I r h
  obtain ⟨a, ns, rfl, hs, q⟩ := h
  obtain ⟨its, rv, hl, _⟩ := I.tuple hs
  rw [Vals.ref1 r]
  exact sum_rawT (I.ok.hd hc) (show s.heap.IsTuple a its.toArray from hl) rv.ints fun h' tk t' hk => ⟨.int _, H, I.kept hk, ⟨_, rfl⟩, q⟩
theorem cr_sumB (hc : X.calm = true) : CallR X (.builtin "sum") (fun vs H Q => rSum X.K vs H Q ∨ ∃ (a : Addr) (ns : List Int), vs = [V.ref a] ∧ SqT X.K H a (ns.map V.int) ∧ Q (.int ns.sum) H) := by
  intro pins s σ H vs us Q I r h
  rcases h with h | h
  · exact cr_sum hc pins s σ H vs us Q I r h
  · exact cr_sumT hc pins s σ H vs us Q I r h
theorem cr_sumD (hK : X.K = c.K) (hc : X.calm = true) : CallR X (.builtin "sum") (rC c dSum) := by
  refine CallR.imp (cr_sumB hc) fun vs H Q h => ?_
  obtain ⟨P, O, ds, q, x, ok, r, hf, k⟩ := h
  unfold dSum at hf
  split at hf
  · rename_i ds
    obtain ⟨v, rfl, r1⟩ := rpA1 r
    obtain ⟨a, us, rfl, _, _, ha, ru⟩ := rp_lst r1
    cases e : intsOf ds with
    | none => rw [e] at hf; exact hf.elim
    | some ns =>
      rw [e] at hf
      obtain rfl := intsOf_eq e
      obtain rfl := ru.ints
      exact .inl ⟨a, ns, rfl, .inl ha, k P H _ _ (.refl ok.pk) (.int _) hf⟩
  · rename_i ds
    obtain ⟨v, rfl, r1⟩ := rpA1 r
    obtain ⟨a, us, rfl, ha, ru⟩ := rp_tup r1
    cases e : intsOf ds with
    | none => rw [e] at hf; exact hf.elim
    | some ns =>
      rw [e] at hf
      obtain rfl := intsOf_eq e
      obtain rfl := ru.ints
      exact .inr ⟨a, ns, rfl, by rw [hK]; exact ha, k P H _ _ (.refl ok.pk) (.int _) hf⟩
  · exact hf.elim
theorem cr_allD (hc : X.calm = true) : CallR X (.builtin "all") (rC c dAll) := by
  refine CallR.imp (cr_all hc) fun vs H Q h => ?_
  obtain ⟨P, O, ds, q, x, ok, r, hf, k⟩ := h
  unfold dAll at hf
  split at hf
  · rename_i ds
    obtain ⟨v, rfl, r1⟩ := rpA1 r
    obtain ⟨a, us, rfl, _, _, ha, ru⟩ := rp_lst r1
    cases e : boolsOf ds with
    | none => rw [e] at hf; exact hf.elim
    | some ns =>
      rw [e] at hf
      obtain rfl := boolsOf_eq e
      obtain rfl := ru.bools
      exact ⟨a, ns, rfl, .inl ha, k P H _ _ (.refl ok.pk) (.bl _) hf⟩
  · exact hf.elim
theorem cr_anyD (hc : X.calm = true) : CallR X (.builtin "any") (rC c dAny) := by
  refine CallR.imp (cr_any hc) fun vs H Q h => ?_
  obtain ⟨P, O, ds, q, x, ok, r, hf, k⟩ := h
  unfold dAny at hf
  split at hf
  · rename_i ds
    obtain ⟨v, rfl, r1⟩ := rpA1 r
    obtain ⟨a, us, rfl, _, _, ha, ru⟩ := rp_lst r1
    cases e : boolsOf ds with
    | none => rw [e] at hf; exact hf.elim
    | some ns =>
      rw [e] at hf
      obtain rfl := boolsOf_eq e
      obtain rfl := ru.bools
      exact ⟨a, ns, rfl, .inl ha, k P H _ _ (.refl ok.pk) (.bl _) hf⟩
  · exact hf.elim
theorem cr_tupleD (hK : X.K = c.K) : CallR X (.type "tuple") (rC c dTuple) := by
  refine CallR.imp call_tuple_of fun vs H Q h => ?_
  obtain ⟨P, O, ds, q, x, ok, r, hf, k⟩ := h
  unfold dTuple at hf
  split at hf
  · obtain ⟨v, rfl, r1⟩ := rpA1 r
    obtain ⟨a, us, rfl, _, _, ha, ru⟩ := rp_lst r1
    refine ⟨a, us, rfl, .inl ⟨.inl ha, fun l hl => ?_⟩⟩
    obtain ⟨e, r2⟩ := new_tup ok ru hl
    exact k P _ _ _ e r2 hf
  · obtain ⟨v, rfl, r1⟩ := rpA1 r
    obtain ⟨a, us, rfl, ha, ru⟩ := rp_tup r1
    exact ⟨a, us, rfl, .inr ⟨by rw [hK]; exact ha, k P H _ _ (.refl ok.pk) (.tup ha ru) hf⟩⟩
  · exact hf.elim
theorem cr_listD (hK : X.K = c.K) : CallR X (.type "list") (rC c dList) := by
  refine CallR.imp call_list_of fun vs H Q h => ?_
  obtain ⟨P, O, ds, q, x, ok, r, hf, k⟩ := h
  unfold dList at hf
  split at hf
  · obtain ⟨v, rfl, r1⟩ := rpA1 r
    obtain ⟨a, us, rfl, _, _, ha, ru⟩ := rp_lst r1
    refine ⟨a, us, rfl, .inl (.inl ha), fun l hl => ?_⟩
    obtain ⟨e, r2⟩ := new_lst ok ru hl
    exact k P _ _ _ e r2 hf
  · obtain ⟨v, rfl, r1⟩ := rpA1 r
    obtain ⟨a, us, rfl, ha, ru⟩ := rp_tup r1
    refine ⟨a, us, rfl, .inr (by rw [hK]; exact ha), fun l hl => ?_⟩
    obtain ⟨e, r2⟩ := new_lst ok ru hl
    exact k P _ _ _ e r2 hf
  · exact hf.elim
theorem cr_maxD (hK : X.K = c.K) (hu : X.A.units + 200 < cLine) (hc : X.calm = true) : CallR X (.builtin "max") (rC c dMax) := by
  refine CallR.imp (CallR.or (CallR.or (call_max2 hc) (cr_max hc)) (cr_maxT hc hu)) fun vs H Q h => ?_
  obtain ⟨P, O, ds, q, x, ok, r, hf, k⟩ := h
  unfold dMax at hf
  split at hf
  · obtain ⟨v, w, rfl, r1, r2⟩ := rpA2 r
    obtain rfl := rp_int r1
    obtain rfl := rp_int r2
    exact .inl (.inl ⟨_, _, rfl, k P H _ _ (.refl ok.pk) (.int _) hf⟩)
  · rename_i ds
    obtain ⟨v, rfl, r1⟩ := rpA1 r
    obtain ⟨a, us, rfl, _, _, ha, ru⟩ := rp_lst r1
    cases e : intsOf ds with
    | none => rw [e] at hf; exact hf.elim
    | some ns =>
      rw [e] at hf
      obtain rfl := intsOf_eq e
      obtain rfl := ru.ints
      exact .inl (.inr ⟨a, ns, rfl, .inl ha, hf.1, fun m h1 h2 => k P H _ _ (.refl ok.pk) (.int _) (hf.2 m h1 h2)⟩)
  · rename_i ds
    obtain ⟨v, rfl, r1⟩ := rpA1 r
    obtain ⟨a, us, rfl, ha, ru⟩ := rp_tup r1
    cases e : intsOf ds with
    | none => rw [e] at hf; exact hf.elim
    | some ns =>
      rw [e] at hf
      obtain rfl := intsOf_eq e
      obtain rfl := ru.ints
      exact .inr ⟨a, ns, rfl, by rw [hK]; exact ha, hf.1, fun m h1 h2 => k P H _ _ (.refl ok.pk) (.int _) (hf.2 m h1 h2)⟩
  · exact hf.elim
theorem cr_minD (hc : X.calm = true) : CallR X (.builtin "min") (rC c dMin) := by
  refine CallR.imp (CallR.or (call_min2 hc) (cr_min hc)) fun vs H Q h => ?_
  obtain ⟨P, O, ds, q, x, ok, r, hf, k⟩ := h
  unfold dMin at hf
  split at hf
  · obtain ⟨v, w, rfl, r1, r2⟩ := rpA2 r
    obtain rfl := rp_int r1
    obtain rfl := rp_int r2
    exact .inl ⟨_, _, rfl, k P H _ _ (.refl ok.pk) (.int _) hf⟩
  · rename_i ds
    obtain ⟨v, rfl, r1⟩ := rpA1 r
    obtain ⟨a, us, rfl, _, _, ha, ru⟩ := rp_lst r1
    cases e : intsOf ds with
    | none => rw [e] at hf; exact hf.elim
    | some ns =>
      rw [e] at hf
      obtain rfl := intsOf_eq e
      obtain rfl := ru.ints
      exact .inr ⟨a, ns, rfl, .inl ha, hf.1, fun m h1 h2 => k P H _ _ (.refl ok.pk) (.int _) (hf.2 m h1 h2)⟩
  · exact hf.elim
end
end PD

set_option maxHeartbeats 4000000
/-! PDe: sorted of tuples with () ahead. -/
namespace PySem.SeqAt
open PySem PySem.Calls PyProof.Rows
section
variable {A : Around} {s : Shared}
theorem call_tuple_ltE {prog : Program} {w : World} {E : Value → Shared → Prop} {Q : Value → Shared → Prop} {l b : Addr} {items items2 : Array Value} {e r : Nat → Bool} (hl : s.heap.IsTuple l items) (hb : s.heap.IsTuple b items2)
    (he : ∀ j (h1 : j < items.size) (h2 : j < items2.size), EqAt A.in1 s items[j] items2[j] (e j)) (hr : ∀ j (h1 : j < items.size) (h2 : j < items2.size), e j = false → RcLt A.in1 s items[j] items2[j] (r j))
    (h : Q (.bool (firstLt e r (decide (items.size < items2.size)) (List.range (min items.size items2.size)))) s) : wpAny (model prog w) A (call (.builtin "tuple.__lt__") [.ref l, .ref b]) Q E s := by
  obtain ⟨⟨cls, dd, data, sl⟩, ho, hc, n, hd⟩ := id hl
  obtain ⟨⟨cls2, dd2, data2, sl2⟩, ho2, hc2, n2, hd2⟩ := id hb
  simp only at hc hd hc2 hd2
  subst hc hd hc2 hd2
  exact call_meets F.slot_tuple_lt ⟨_, ho, rfl⟩ F.entry_tuple_lt (F.args_tuple_lt_2 _ _) (tuple_ltAt l b items items2 n n2 dd dd2 sl sl2 e r) ⟨ho, ho2, he, hr, h⟩
end
end PySem.SeqAt
namespace PySem.W
open PySem PySem.Calls PyProof.Rows PySem.SeqAt
def SortableE (ds : List PyData) : Prop := ∃ rest, ds = .tuple [] :: rest ∧ ∀ d, d ∈ ds → ∃ xs, d = .tuple xs
section
variable {prog : Program} {w : World} {A : Around} {s : Shared} {E : Value → Shared → Prop}
theorem oneLt_tup {xs ys : List PyData} {a b : Value} {as bs : List Addr} {Q : Bool → Shared → Prop} (ra : Reads s.heap a (.tuple xs) as) (rb : Reads s.heap b (.tuple ys) bs) (h : alike (.tuple xs) (.tuple ys) = true)
    (hu : A.units + min (PyData.depth (.tuple xs)) (PyData.depth (.tuple ys)) < cLine) (hq : Q (dataLt (.tuple xs) (.tuple ys)) s) : wpAny (model prog w) A (oneLt' true a b) Q E s := by
  have hal : alikeAll xs ys = true := by simpa [alike] using h
  cases ra with
  | @tuple l o vs n _ as₁ h1 h2 h3 h4 =>
    cases rb with
    | @tuple l' o' vs' n' _ bs₁ k1 k2 k3 k4 =>
      have n1 : vs.size = xs.length := by simpa using ReadsAll.length _ _ _ h4
      have n2 : vs'.size = ys.length := by simpa using ReadsAll.length _ _ _ k4
      rw [dataLt_tuple, ← firstLt_toks xs ys hal, ← n1, ← n2] at hq
      rw [oneLt'_eq]
      simp only [if_true]
      refine wpAny_bind (wpAny_cRoomFor (room_here hu) ?_)
      refine wpAny_bind (wpAny_callSpecialIfBound?_slot (T := "tuple") ⟨_, h1, h2⟩ F.slot_tuple_lt (call_tuple_ltE (e := pairEq xs ys) (r := fun j => dataLt (xs.getD j .none) (ys.getD j .none)) ⟨_, h1, h2, _, h3⟩ ⟨_, k1, k2, _, k3⟩ (fun j j1 j2 => ?_) (fun j j1 j2 hj => ?_) ?_))
      · have := eqAt_alikeAll xs ys A.in1 s vs.toList vs'.toList _ _ h4 k4 hal (room_in hu) j (by simpa using j1) (by simpa using j2)
        simpa using this
      · have := rcLt_alikeAll xs ys A.in1 s vs.toList vs'.toList _ _ h4 k4 hal (room_in hu) j (by simpa using j1) (by simpa using j2) hj
        simpa using this
      · exact wpAny_truthy_bool hq
theorem firstsE {M : Model} : ∀ {vs : List Value} {ds : List PyData}, EachIs (fun v d => ∃ as, Reads s.heap v d as) vs ds → (∀ d, d ∈ ds → ∃ xs, d = .tuple xs) →
    ∃ os : List (Option Value), (∀ (A : Around) (E : Value → Shared → Prop) (Q : List (Option Value) → Shared → Prop), Q os s → wpAny M A (vs.mapM firstOfTuple') Q E s) ∧ ∀ rest, ds = .tuple [] :: rest → ∃ r, os = none :: r
  | _, _, .nil, _ => ⟨[], fun A E Q h => by rw [List.mapM_nil]; exact wpAny_pure h, fun _ e => by cases e⟩
  | v :: vs, _, .cons (b := d) ⟨as, r⟩ t, ht => by
    obtain ⟨os, h1, _⟩ := firstsE t fun d hd => ht d (List.mem_cons_of_mem _ hd)
    obtain ⟨xs, rfl⟩ := ht d (List.mem_cons_self ..)
    cases r with
    | @tuple a o vs' n _ _ ho hc hd hr =>
      refine ⟨vs'[0]? :: os, fun A E Q h => ?_, fun rest e => ?_⟩
      · rw [List.mapM_cons, kas_first_eq]
        refine wpAny_bind (wpAny_bind (wpAny_typeOf ⟨_, ho, hc⟩ ?_))
        rw [if_neg (by decide)]
        refine wpAny_bind (listItems_at ho hd (wpAny_pure ?_))
        exact wpAny_bind (h1 A E _ (wpAny_pure h))
      · cases e
        have : vs'.toList = [] := by
          cases q : vs'.toList with
          | nil => rfl
          | cons x y => rw [q] at hr; cases hr
        have e0 : vs'[0]? = none := by rw [← Array.getElem?_toList, this]; rfl
        exact ⟨os, by rw [e0]⟩
theorem SortsAt.dataE {vs : List Value} {ds : List PyData} (e : EachIs (fun v d => ∃ as, Reads s.heap v d as) vs ds) (hal : AllAlike ds) (hk : SortableE ds) (hu : ∀ d, d ∈ ds → A.units + d.depth < cLine) : SortsAt prog w A s (dataKind s.heap ds) vs := by
  have room : ∀ {d d' : PyData}, d ∈ ds → A.units + min d.depth d'.depth < cLine := fun {d d'} hd => Nat.lt_of_le_of_lt (Nat.add_le_add_left (Nat.min_le_left _ _) _) (hu d hd)
  obtain ⟨rest, e0, ht⟩ := hk
  refine ⟨fun v hv => ?_, oneType', ?_, fun h2 E Q hq => ?_⟩
  · obtain ⟨d, hd, as, r⟩ := e.left v hv
    exact ⟨_, dataKind_some hal hd r⟩
  · intro E x y a b Q ha hb hq
    obtain ⟨d, as, hd, ra, rfl⟩ := dataKind_inv ha
    obtain ⟨d', as', hd', rb, rfl⟩ := dataKind_inv hb
    obtain ⟨xs, rfl⟩ := ht d hd
    obtain ⟨ys, rfl⟩ := ht d' hd'
    rw [keyLt'_oneType]
    exact oneLt_tup ra rb (hal _ hd _ hd') (room hd) hq
  · obtain ⟨os, h3, h4⟩ := firstsE (M := model prog w) e ht
    obtain ⟨r, rfl⟩ := h4 rest e0
    rw [keyKind'_eq, List.mapM_toArray, map_eq_pure_bind]
    refine wpAny_bind (wpAny_bind (h3 A E _ (wpAny_pure ?_)))
    rw [if_neg (by simp), if_neg (by simp)]
    rw [oneTypeOnly'_eq, List.mapM_toArray, map_eq_pure_bind]
    refine wpAny_bind (wpAny_bind (wpAny_bind (kas_mapM (r := .type "tuple") _ (fun v hv Q' hq => ?_) (wpAny_pure ?_))))
    · obtain ⟨d, hd, as, r⟩ := e.left v hv
      obtain ⟨xs, rfl⟩ := ht d hd
      exact (looks_reads r).here hq
    · have hall : ((List.map (fun _ => Value.type "tuple") vs).toArray.all fun x => x == Value.type "tuple") = true := by
        simp only [List.all_toArray, List.all_map, List.all_eq_true]
        intro _ _
        exact beq_self_eq_true _
      have h0 : (List.map (fun _ => Value.type "tuple") vs).toArray[0]? = some (.type "tuple") := by
        cases vs with
        | nil => simp at h2
        | cons v vs => simp
      rw [h0]
      simp only [hall, if_true]
      exact wpAny_pure (wpAny_pure hq)
section
variable {vs : List Value} {β : Type} {enc : β → PyData} {bs : List β} {R : Value → β → Prop}
theorem sorted_dataE {l : Addr} {Q : Value → Shared → Prop} (hl : s.heap.IsList l vs.toArray) (e : EachIs R vs bs) (er : EachIs (fun v b => ∃ as, Reads s.heap v (enc b) as) vs bs) (hal : AllAlike (bs.map enc)) (hk : SortableE (bs.map enc)) (hL : bs.length ≤ sizeLine)
    (hu : ∀ b, b ∈ bs → A.units + 2 + (enc b).depth < cLine) (h : ∀ out, out.length = bs.length → EachIs R out (bs.mergeSort (dataLe false enc)) → Q (.ref (s.heap.objs.size + 1)) { s with heap := sortedAll s.heap vs (List.toArray out) }) :
    wpAny (model prog w) A (call (.builtin "sorted") [.ref l]) Q E s := by
  have er' : EachIs (fun v b => ∃ as, Reads (sortingHeap (copyHeap s.heap vs) (s.heap.objs.size + 1) vs) v (enc b) as) vs bs := er.mono fun _ _ ⟨as, r⟩ => ⟨as, PyProof.Rows.Reads.keeps (fun _ _ => sorting_copy_old) r⟩
  exact sorted_vals hl (SortsAt.dataE (s := { s with heap := sortingHeap (copyHeap s.heap vs) (s.heap.objs.size + 1) vs }) (each_map (R := fun v d => ∃ as, Reads (sortingHeap (copyHeap s.heap vs) (s.heap.objs.size + 1) vs) v d as) enc er') hal hk (bound_map hu)) (by rw [e.length]; exact hL)
    (h _ (by rw [sortVals_length false rfl]; exact e.length) (sortVals_data false e er' hal))
end
end
end PySem.W

set_option maxHeartbeats 4000000
/-! PDb: sorted, repr. -/
namespace PD
open PySem PySem.Spec PyProof.Rows L2
def sortD (ds : List D) : List D := ds.mergeSort (PySem.W.dataLe false id)
def dSorted : List D → W D
  | [.list ds] => W.need ((PySem.W.Sortable ds ∨ PySem.W.SortableE ds) ∧ PySem.W.AllAlike ds ∧ (∀ d, d ∈ ds → SeqAt.shaped d = true) ∧ ds.length ≤ sizeLine) (W.ret (.list (sortD ds)))
  | _ => W.bad
def dRepr : List D → W D
  | [.dict []] => W.ret (.str "{}")
  | [d] => W.need (d.showable = true ∧ SeqAt.shaped d = true ∧ d.hasDict = false ∧ d.shown.length ≤ sizeLine) (W.ret (.str d.shown))
  | _ => W.bad
def dDivmod : List D → W D
  | [.int i, .int j] => W.need (0 < j ∧ j < 1073741824) (W.ret (.tuple [.int (i / j), .int (i % j)]))
  | _ => W.bad
section
variable {c : Cn} {X : Cx} {P O : Addr → Prop} {H : Hp} {v w : V}
theorem each_of {pins : List (Addr × Obj)} {σ : L2.St} {s : Shared} (I : Inv X pins σ H s) (hK : X.K = c.K) : ∀ {vs : List V} {us : List Value} {ds : List D}, Vals vs us → RpA c P O H vs ds → (∀ d, d ∈ ds → SeqAt.shaped d = true) →
    PySem.W.EachIs (fun u d => ∃ v, RelV v u ∧ Rp c P O H v d) us ds ∧ PySem.W.EachIs (fun u d => ∃ as, Reads s.heap u d as) us ds
  | _, _, _, .nil, .nil, _ => ⟨.nil, .nil⟩
  | _, _, _, .cons r t, .cons q l, h => by
    obtain ⟨h1, h2⟩ := each_of I hK t l fun d hd => h d (List.mem_cons_of_mem _ hd)
    exact ⟨.cons ⟨_, r, q⟩ h1, .cons (Dp.reads I _ _ _ (by rw [hK]; exact q.dp (SeqAt.canLay_of_shaped (h _ (List.mem_cons_self ..)))) r) h2⟩
theorem of_each : ∀ {us : List Value} {ds : List D}, PySem.W.EachIs (fun u d => ∃ v, RelV v u ∧ Rp c P O H v d) us ds → ∃ vs, Vals vs us ∧ RpA c P O H vs ds
  | _, _, .nil => ⟨[], .nil, .nil⟩
  | _, _, .cons ⟨v, r, q⟩ t => by
    obtain ⟨vs, h1, h2⟩ := of_each t
    exact ⟨v :: vs, .cons r h1, .cons q h2⟩
theorem cr_sortedD (hK : X.K = c.K) (hu : X.A.units + 200 < cLine) : CallR X (.builtin "sorted") (rC c dSorted) := by
  intro pins s σ H xs us Q I r h
  obtain ⟨P, O, ds, q, x, ok, ra, hf, k⟩ := h
  unfold dSorted at hf
  split at hf
  · rename_i ds
    obtain ⟨⟨hs, hal, hsh, hz⟩, hq⟩ := hf
    obtain ⟨v, rfl, r1⟩ := rpA1 ra
    obtain ⟨a, ys, rfl, n1, n2, ha, ru⟩ := rp_lst r1
    obtain ⟨its, rv, hl, _⟩ := I.list (.inl ha)
    rw [Vals.ref1 r]
    obtain ⟨e1, e2⟩ := each_of I hK rv ru hsh
    have em : ds.map id = ds := List.map_id _
    have hd : ∀ b, b ∈ ds → X.A.units + 2 + b.depth < cLine := fun b hb => by
      have := SeqAt.depth_of_shaped (hsh b hb)
      omega
    have fin : ∀ out : List Value, out.length = ds.length → PySem.W.EachIs (fun u d => ∃ v, RelV v u ∧ Rp c P O H v d) out (ds.mergeSort (PySem.W.dataLe false id)) → EP X pins σ Q (.ref (s.heap.objs.size + 1)) { s with heap := PyProof.Rows.sortedAll s.heap its (List.toArray out) } := fun out ho eo => by
      obtain ⟨zs, rz, rq⟩ := of_each eo
      obtain ⟨ep, he'⟩ := PyProof.Rows.sortedAll_at s.heap its (List.toArray out)
      have fr := I.hok.fresh (Nat.le_succ s.heap.objs.size)
      obtain ⟨l, rr⟩ := new_lst ok rq fr
      exact ⟨.ref _, upd H (s.heap.objs.size + 1) (.lst zs), I.laid (t' := s.toks) (fun _ _ => PyProof.Rows.sortedAll_old) (Nat.le_succ _) ⟨by rw [rz.length, ho]; exact hz, out, ep, rz, he'⟩, rfl, k P _ _ _ l rr hq⟩
    rcases hs with hs | hs
    · exact PySem.W.sorted_data (β := PyData) (enc := id) hl.isList e1 e2 (by rw [em]; exact hal) (by rw [em]; exact hs) hz hd fin
    · exact PySem.W.sorted_dataE (β := PyData) (enc := id) hl.isList e1 e2 (by rw [em]; exact hal) (by rw [em]; exact hs) hz hd fin
  · exact hf.elim
theorem cr_reprD (hK : X.K = c.K) (hu : X.A.units + 200 < cLine) (hg : X.A.guards = some []) : CallR X (.builtin "repr") (rC c dRepr) := by
  intro pins s σ H xs us Q I r h
  obtain ⟨P, O, ds, q, x, ok, ra, hf, k⟩ := h
  have kept : ∀ {h' : Heap} {u tk : Nat} {z : Str}, (∀ b o, s.heap.get? b = some o → h'.get? b = some o) → q (.str z) → EP X pins σ Q (.str z u) { s with heap := h', toks := tk } := fun {h' u tk z} hk hq =>
    ⟨.str z, H, I.kept hk, ⟨_, rfl⟩, k P H _ _ (.refl ok.pk) (.str z) hq⟩
  have main : ∀ (v : V) (u : Value) (d : D), Rp c P O H v d → RelV v u → us = [u] → d.showable = true → SeqAt.shaped d = true → d.hasDict = false → d.shown.length ≤ sizeLine → q (.str d.shown) → wpAny (model X.prog X.w) X.A (call (.builtin "repr") us) (EP X pins σ Q) X.xe s := fun v u d r1 rv e h1 h2 h4 h3 hq => by
    subst e
    have hd := SeqAt.depth_of_shaped h2
    have rd := Dp.reads I d v u (by rw [hK]; exact r1.dp (SeqAt.canLay_of_shaped h2)) rv
    cases r1 with
    | non => cases rv; exact PySem.P.repr_of_none (kept (fun _ _ z => z) hq)
    | bl b => cases rv; exact PySem.P.repr_of_bool (kept (fun _ _ z => z) (by cases b <;> exact hq))
    | int i =>
      obtain ⟨t, rfl⟩ := rv
      exact PySem.P.repr_of_int (by simpa [PyData.showable] using h1) (kept (fun _ _ z => z) hq)
    | str y =>
      obtain ⟨t, rfl⟩ := rv
      exact PySem.P.repr_of_str (kept (fun _ _ z => z) hq) h3
    | lst _ _ _ _ =>
      cases rv
      obtain ⟨as, rd⟩ := rd
      exact repr_of_reads' rd h1 (fun z => by rw [h4] at z; cases z) hg (by omega) (fun _ _ e => e) (fun h' u tk hk => kept hk hq) h3
    | tup _ _ =>
      cases rv
      obtain ⟨as, rd⟩ := rd
      exact repr_of_reads' rd h1 (fun z => by rw [h4] at z; cases z) hg (by omega) (fun _ _ e => e) (fun h' u tk hk => kept hk hq) h3
    | pool _ => simp [SeqAt.shaped, PyData.canLay0] at h2
    | fn _ => simp [SeqAt.shaped, PyData.canLay0] at h2
    | emp _ _ _ => simp [SeqAt.shaped, PyData.canLay0] at h2
  unfold dRepr at hf
  split at hf
  · obtain ⟨v, rfl, r1⟩ := rpA1 ra
    obtain ⟨u, rfl, rv⟩ := vals1 r
    cases r1 with
    | emp _ _ h3 =>
      cases rv
      obtain ⟨_, hs, es, kv, o, ar, ep, h1, h2, h4, h5, h6, h7⟩ := I.hok _ _ h3
      cases kv
      have e0 : ar.toList = [] := by
        cases h6'' : ar.toList with
        | nil => rfl
        | cons y ys => rw [h6''] at h6; cases h6
      have rd : Reads s.heap (.ref _) (.dict []) [_] := .dict (as := []) (bs := []) h1 h2.1 h4 (by rw [e0]; exact .nil) (by rw [e0]; exact .nil)
      have e : (PyData.dict []).shown = ("{}" : Str) := by decide +kernel
      refine repr_of_reads' rd (by simp [PyData.showable, PyData.showableKv]) (fun _ z => ?_) hg (by simp [PyData.depth, PyData.depthKv]; omega) (fun _ _ e => e) (fun h' u tk hk => kept hk (by rw [e]; exact hf)) (by rw [e]; decide +kernel)
      have z' := List.mem_singleton.mp z
      rw [← z'] at hs
      simp at hs
  · obtain ⟨v, rfl, r1⟩ := rpA1 ra
    obtain ⟨u, rfl, rv⟩ := vals1 r
    exact main v u _ r1 rv rfl hf.1.1 hf.1.2.1 hf.1.2.2.1 hf.1.2.2.2 hf.2
  · exact hf.elim
theorem cr_divmodD : CallR X (.builtin "divmod") (rC c dDivmod) := by
  refine CallR.imp call_divmodW fun vs H Q h => ?_
  obtain ⟨P, O, ds, q, x, ok, r, hf, k⟩ := h
  unfold dDivmod at hf
  split at hf
  · rename_i i j
    obtain ⟨v, w, rfl, r1, r2⟩ := rpA2 r
    obtain rfl := rp_int r1
    obtain rfl := rp_int r2
    refine ⟨i, j, rfl, ⟨hf.1.1, PyProof.noPylong_small (by have := hf.1; omega)⟩, fun p hp => ?_⟩
    obtain ⟨l, rr⟩ := new_tup ok (.cons (.int (i / j)) (.cons (.int (i % j)) .nil)) hp
    exact k P _ _ _ l rr hf.2
  · exact hf.elim
end
end PD

/-! PDs: sorted(set(list of ints)). -/
namespace PD
open PySem PySem.Spec PyProof.Rows L2
section
variable {P : Program} {w : World} {A : Around} {E : Value → Shared → Prop} {s : Shared}
set_option maxHeartbeats 3200000 in
theorem call_set_lstI {l : Addr} {items : Array Value} (ns : List Int) {Q : Value → Shared → Prop} (hh : A.handled = none) (hl : s.heap.IsList l items) (hit : IntsAre items.toList ns) (hb : ns.length + 1 < scanBound)
    (h : ∀ (h' : Heap) (tk c : Nat), SetR w h' s.heap.objs.size (fun j => decide (j ∈ ns)) c → c ≤ ns.length → (∀ b o, s.heap.get? b = some o → h'.get? b = some o) → Q (.ref s.heap.objs.size) { s with heap := h', toks := tk }) :
    wpAny (model P w) A (call (.type "set") [.ref l]) Q E s := by
  have hisz : items.size = ns.length := by
    have q := IntsAre.length hit
    rw [Array.length_toList] at q
    exact q
  obtain ⟨c, tl, hmro⟩ := F.called_set.mro
  have hmade := F.called_set.made
  have hsub := F.called_set.sub
  refine wpAny_call (codeAny_of_tree ?_)
  show wpAny _ _ (callAny (.type "set") _) _ _ _
  refine wpAny_pure ⟨Code.quiet_builtin _ (by decide +kernel), codeAny_builtin F.entry_type_call ?_⟩
  rw [Around.under_plain (weight_type_call_type "set" [.ref l] []) rfl]
  have h1 := F.called_set.notType
  have h2 := F.called_set.canCreate
  have hct := F.typeCall_set_1 (.ref l)
  repeat (any_goals (first | assumption | wp_step))

  refine codeAny_mono (code_set_led1 (.ref l) (E := E) (Q₁ := fun obj s₁ => obj = .ref s.heap.objs.size ∧ s₁ = { s with heap := s.heap.push { cls := .type "set", dict := none, data := .set #[] 0 (.fresh 0 0 (!w.params.followText "set-order")) } }) ⟨rfl, rfl⟩) fun r s₁ hr => ?_
  cases r with
  | error e => exact hr
  | ok fl =>
    cases fl with
    | ret obj =>
      obtain ⟨rfl, rfl⟩ := hr
      have hS : (s.heap.push { cls := .type "set", dict := none, data := .set #[] 0 (.fresh 0 0 (!w.params.followText "set-order")) }).get? s.heap.objs.size = some { cls := .type "set", dict := none, data := .set #[] 0 (.fresh 0 0 (!w.params.followText "set-order")) } := Heap.get?_push_size _ rfl
      have hT : Shared.TypeIs { s with heap := s.heap.push { cls := .type "set", dict := none, data := .set #[] 0 (.fresh 0 0 (!w.params.followText "set-order")) } } (.ref s.heap.objs.size) "set" := ⟨_, hS, rfl⟩
      have hli := F.called_set.init.lookup
      have hbi := F.called_set.init.bind (.ref s.heap.objs.size)
      repeat (any_goals (first | assumption | wp_step))

      refine codeAny_mono (codeAny_call_builtin (R := wants (fun r s₂ => r = .none ∧ ∃ h' tk c, s₂ = { s with heap := h', toks := tk } ∧ SetR w h' s.heap.objs.size (fun j => decide (j ∈ ns)) c ∧ c ≤ ns.length ∧
          (∀ b o, s.heap.get? b = some o → h'.get? b = some o)) E) F.called_set.init.plain F.entry_set_init (check_set_init_1 hT ?_)) fun r₂ s₂ hr₂ => ?_
      · obtain ⟨ol, hol, hcl, nl, hdl⟩ := hl
        obtain ⟨ocls, odict, odata, oslots⟩ := ol
        simp only at hcl hdl
        subst hcl; subst hdl
        have hol' : (s.heap.push { cls := .type "set", dict := none, data := .set #[] 0 (.fresh 0 0 (!w.params.followText "set-order")) }).get? l = some { cls := .type "list", dict := odict, data := .seq items nl, slots := oslots } := Heap.get?_push_of_some _ hol
        have hsls := F.sub_list_set
        have hslf := F.sub_list_frozenset
        have hne : (Value.type "list" == Value.type "dict") = false := by decide
        have hl1 : (s.heap.push { cls := .type "set", dict := none, data := .set #[] 0 (.fresh 0 0 (!w.params.followText "set-order")) }).IsList l items := ⟨_, hol', rfl, nl, rfl⟩
        unfold Builtin.«set.__init__» noKeywords Builtin.Frozenset.updateFrom
        generalize hPI : pyIter = PI
        wp_walk
        subst hPI

        refine wpAny_pyIter_list hl1 ?_
        refine wpAny_bind (wpAny_runValue ?_)
        have hlS : l < s.heap.objs.size := Heap.lt_size hol
        have hh3 : A.in1.in1.in1.handled = none := by simp [hh]
        have hz1 : (s.heap.push { cls := .type "set", dict := none, data := .set #[] 0 (.fresh 0 0 (!w.params.followText "set-order")) }).objs.size = s.heap.objs.size + 1 := Heap.size_push ..
        have hneI : l ≠ (s.heap.push { cls := .type "set", dict := none, data := .set #[] 0 (.fresh 0 0 (!w.params.followText "set-order")) }).objs.size := by
          rw [Heap.size_push]; exact Nat.ne_of_lt (Nat.lt_succ_of_lt hlS)
        have hSf : s.heap.objs.size ∉ [(s.heap.push { cls := .type "set", dict := none, data := .set #[] 0 (.fresh 0 0 (!w.params.followText "set-order")) }).objs.size, l] := by
          rw [Heap.size_push]; simp only [List.mem_cons, List.mem_singleton, List.not_mem_nil, or_false, not_or]
          exact ⟨Nat.ne_of_lt (Nat.lt_succ_self _), Nat.ne_of_gt hlS⟩
        have hval : ∀ (i : Nat) (v : Value), items[i]? = some v → ∃ k t, ns[i]? = some k ∧ v = .int k t := fun i v hv => by
          have hi : i < ns.length := by rw [← hisz]; exact (Array.getElem?_eq_some_iff.mp hv).1
          obtain ⟨t, e⟩ := PyProof.Rows.IntsAre.int_at hit i v (by rw [Array.getElem?_toList]; exact hv)
          refine ⟨ns[i], t, List.getElem?_eq_getElem hi, ?_⟩
          rw [e, List.getD_eq_getElem?_getD, List.getElem?_eq_getElem hi] <;> rfl
        refine set_update_ints ((Walks.list hh3 _ l hneI items).toS) s.heap.objs.size
          hSf ns hisz hb hval (items.size - 0) 0 _ (by omega) (Nat.zero_le _)
          ⟨⟨_, Heap.get?_push_size _ rfl, rfl, rfl⟩, (hl1.push _)⟩ ?hS0 ?hR
        case hS0 =>
          have hget : ((s.heap.push { cls := .type "set", dict := none, data := .set #[] 0 (.fresh 0 0 (!w.params.followText "set-order")) }).push { cls := .type "list_iterator", data := .fields #[.ref l, .int 0 0] }).get? s.heap.objs.size
              = some { cls := .type "set", dict := none, data := .set #[] 0 (.fresh 0 0 (!w.params.followText "set-order")) } := Heap.get?_push_of_some _ hS
          exact ⟨0, Nat.le_refl 0, setR_new_at hget⟩
        case hR =>
          intro s' c' hm hc' hS'
          obtain ⟨h', g2, d', tk', os'⟩ := s'
          have eg : g2 = s.gens := hm.gens
          have ed : d' = s.drawn := hm.drawn
          have eo : os' = s.os := hm.os
          subst eg; subst ed; subst eo
          show wpAny _ _ _ _ _ _
          refine wpAny_pure ?_
          show wpAny _ _ (ret Value.none) _ _ _
          rw [hisz] at hc'
          refine wpAny_pure ⟨rfl, h', tk', c', rfl, hS', hc', fun b o e => ?_⟩
          have hb0 : b < s.heap.objs.size := Heap.lt_size e
          have hb1 : b ≠ s.heap.objs.size := Nat.ne_of_lt hb0
          have hb2 : b ≠ (s.heap.push { cls := .type "set", dict := none, data := .set #[] 0 (.fresh 0 0 (!w.params.followText "set-order")) }).objs.size := by
            rw [Heap.size_push]; exact Nat.ne_of_lt (Nat.lt_succ_of_lt hb0)
          exact hm.heap b o (by simp only [List.mem_cons, List.mem_singleton, List.not_mem_nil, or_false, not_or]; exact ⟨hb1, hb2⟩) (Heap.get?_push_of_some _ (Heap.get?_push_of_some _ e))

      · cases r₂ with
        | error e => exact hr₂
        | ok fl₂ =>
          cases fl₂ with
          | ret r =>
            obtain ⟨rfl, h', tk, c', rfl, hS', hc', hk'⟩ := hr₂
            repeat (any_goals (first | assumption | wp_step))
            exact h _ _ _ hS' hc' hk'
          | _ => exact hr₂.elim
    | _ => exact hr.elim

end
end PD

set_option maxHeartbeats 4000000
/-! PDt: sorted(set(list of ints)), the rule. -/
namespace PD
open PySem PySem.Spec PyProof.Rows L2
def dSortSet : D → W D
  | .list ds => W.opt (intsOf ds) fun ns => W.need (ns.length < 64) (fun q _ => ∀ ms : List Int, ms.Pairwise (· < ·) → (∀ k, k ∈ ms ↔ k ∈ ns) → q (.list (ms.map PyData.int)))
  | _ => W.bad
def tSortSet (K : PySem.W.Frag) (ta : TE) : TE := fun σ H Q => ta σ H fun x H1 => ∃ (l : Addr) (ns : List Int), x = .ref l ∧ SqL K H1 l (ns.map V.int) ∧ ns.length < 64 ∧
  ∀ (ms : List Int) (p : Addr), ms.Pairwise (· < ·) → (∀ k, k ∈ ms ↔ k ∈ ns) → H1 p = none → Q (.ref p) (upd H1 p (.lst (ms.map V.int)))
theorem pe_sortSet {X : Cx} {a : Expr} {ta : TE} {p p2 q pos : Pos} (hg : Gl X "sorted") (hm : X.mg "sorted" = none) (hg2 : Gl X "set") (hm2 : X.mg "set" = none) (ha : PE X a ta) (hc : X.calm = true)
    (na : starEach [a] X.env = (false, eval a X.env) :: starEach [] X.env) : PE X (.Call (.Name "sorted" p) [.Call (.Name "set" p2) [a] [] q] [] pos) (tSortSet X.K ta) := by
  refine ⟨fun pins s σ H Q I h => ?_⟩
  refine Call_ (ld_blt (u := .builtin "sorted") I hg hm (by decide +kernel) ?_)
  refine PyProof.Rows.callWith_builtin1 (PyProof.Rows.args_cons ?_ rfl) rfl rfl
  refine Call_ (ld_blt I hg2 hm2 PyProof.Rows.boot_set ?_)
  refine PyProof.Rows.callWith_type1 (PyProof.Rows.args_cons (thn (ha.run pins s σ H _ I h) fun v s1 ⟨x, H1, I1, r1, q1⟩ => PyProof.Rows.args_nil ?_) na) na rfl
  obtain ⟨l, ns, rfl, hq, hl, q1⟩ := q1
  cases r1
  obtain ⟨its, r, pl, hz⟩ := I1.list hq
  have hi : IntsAre its.toArray.toList ns := by simpa using ints_of_vals r
  refine call_set_lstI ns (I1.ok.hd hc) pl.isList hi (by unfold scanBound; omega) fun h' tk c R1 hcn hk => ?_
  refine PyProof.Rows.args_nil ?_
  have I2 : Inv X pins σ H1 { s1 with heap := h', toks := tk } := I1.kept hk
  refine sorted_set (s := { s1 with heap := h', toks := tk }) R1 (I1.ok.hd hc) (by omega) fun s' p out n ms k g o hp hgp hia hs hmm hlen => ?_
  have hl2 : (ms.map V.int).length ≤ sizeLine := by rw [List.length_map, hlen, sizeLine_eq]; omega
  have hn : H1 p = none := I2.hok.fresh hp
  have J : Inv X pins σ (upd H1 p (.lst (ms.map V.int))) { ({ s1 with heap := h', toks := tk } : Shared) with heap := s'.heap, gens := s'.gens, drawn := s'.drawn, toks := s'.toks } :=
    I2.call (ch := []) (Un.laid k hp hn) (I2.hok.laid k hp ⟨hl2, out.toList, n, vals_of_ints hia, hgp⟩) (by rw [g]; exact I2.bare) (fun _ z => nomatch z)
  have e : s' = { ({ s1 with heap := h', toks := tk } : Shared) with heap := s'.heap, gens := s'.gens, drawn := s'.drawn, toks := s'.toks } := by
    cases s'
    cases s1
    cases o
    rfl
  rw [e]
  exact ⟨.ref p, _, J, rfl, q1 ms p hs (fun k => by rw [hmm k, decide_eq_true_eq]) hn⟩
end PD

set_option maxHeartbeats 2000000
/-! PD5: the interpreter of expressions over data. -/
namespace PD
open PySem PySem.Spec PyProof.Rows L2
/-- what is known of the names: slots, the scope at hand, names that may be stored, defs (level, arity, mirror), constants, built-in names that are free -/
structure Gm where
  N : List Str
  sc : Scope
  st : Str → Bool
  fns : List (Str × Nat × Nat × (List D → W D))
  cst : List (Str × D)
  free : List Str
  tabs : List (Str × List (Str × D))
  kws : List (Str × Nat × List Str × List Nat)
  mkP : Bool
  own : List Nat := []
def slotOf (N : List Str) (x : Str) : Option Nat := N.findIdx? (fun y => decide (y = x))
def badName (x : Str) : Bool := decide (x = "__debug__") || (decide (x = "__classdict__") || decide (x = "__name__"))
def Gm.blk (Γ : Gm) (scope : Scope) : Gm := { Γ with sc := relS scope Γ.sc, st := fun x => match scope.names.lookup x with
  | some .local => true
  | some .cell => true
  | _ => false }
def getS (ρ : En) (i : Nat) : W D := match ρ[i]? with
  | some (some d) => W.ret d
  | _ => W.bad
def evName (Γ : Gm) (x : Str) (ρ : En) : W D := match badName x with
  | true => W.bad
  | false => match Γ.sc.names.lookup x with
    | some .local => W.opt (slotOf Γ.N x) (getS ρ)
    | some .cell => W.opt (slotOf Γ.N x) (getS ρ)
    | some .free => W.opt (slotOf Γ.N x) (getS ρ)
    | some .globalImplicit => match Γ.cst.lookup x with
      | some d => W.ret d
      | none => match Γ.fns.lookup x with
        | some _ => W.ret (fnD x)
        | none => W.bad
    | _ => W.bad
/-- the items of what is walked or starred -/
def itemsOf : D → W (List D)
  | .list ds => W.ret ds
  | .tuple ds => W.ret ds
  | _ => W.bad
def isStar : Expr → Bool
  | .Starred _ _ => true
  | _ => false
def isSlice : Expr → Bool
  | .Slice _ _ _ _ => true
  | _ => false
/-- arguments and items of displays, from the left -/
def evArgs (ev : Expr → En → W D) : List Expr → En → W (List D)
  | [], _ => W.ret []
  | e :: es, ρ => match isStar e with
    | true => W.bad
    | false => W.bind (ev e ρ) fun d => W.bind (evArgs ev es ρ) fun ds => W.ret (d :: ds)
def evItems (ev : Expr → En → W D) : List Expr → En → W (List D)
  | [], _ => W.ret []
  | .Starred e _ :: es, ρ => W.bind (ev e ρ) fun d => W.bind (itemsOf d) fun xs => W.bind (evItems ev es ρ) fun ds => W.ret (xs ++ ds)
  | e :: es, ρ => W.bind (ev e ρ) fun d => W.bind (evItems ev es ρ) fun ds => W.ret (d :: ds)
def evAnd (ev : Expr → En → W D) : List Expr → En → W D
  | [], _ => W.bad
  | [a], ρ => ev a ρ
  | a :: b :: r, ρ => W.bind (W.bind (ev a ρ) asB) fun k => match k with
    | true => evAnd ev (b :: r) ρ
    | false => W.ret (.bool false)
def evOr (ev : Expr → En → W D) : List Expr → En → W D
  | [], _ => W.bad
  | [a], ρ => ev a ρ
  | a :: b :: r, ρ => W.bind (W.bind (ev a ρ) asB) fun k => match k with
    | true => W.ret (.bool true)
    | false => evOr ev (b :: r) ρ
def dNeg : D → W D
  | .int i => W.ret (.int (-i))
  | _ => W.bad
/-- reading a pool: any ints that its invariant lets be -/
def poolIx (i : Int) : W D := match i with
  | 0 => fun q _ => ∀ x : Int, 0 ≤ x → x < 4294967296 → q (.int x)
  | 1 => fun q _ => ∀ x : Int, 0 ≤ x → q (.int x)
  | 2 => fun q _ => ∀ x : Int, q (.int x)
  | _ => W.bad
def dIx : D → D → W D
  | .dict [(.none, .none)], .int i => poolIx i
  | .list ds, .int i => W.opt (atI ds i) W.ret
  | .tuple ds, .int i => W.opt (atI ds i) W.ret
  | .str z, .int i => W.need (z.length ≤ sizeLine) (W.opt (atI z.cps.toList i) fun k => W.ret (.str ⟨#[k]⟩))
  | _, _ => W.bad
def cutD (ds : List D) (lo hi : Option Int) : List D := (ds.drop (HT.sIx ds.length 0 lo)).take (HT.sIx ds.length ds.length hi - HT.sIx ds.length 0 lo)
def dSl : D → Option Int → Option Int → W D
  | .list ds, lo, hi => W.ret (.list (cutD ds lo hi))
  | .tuple ds, lo, hi => W.ret (.tuple (cutD ds lo hi))
  | .str z, lo, hi => W.need (z.length ≤ sizeLine) (W.ret (.str (cutS z lo hi)))
  | _, _, _ => W.bad
def asI : D → W Int
  | .int i => W.ret i
  | _ => W.bad
def evPart (ev : Expr → En → W D) : Option Expr → En → W (Option Int)
  | none, _ => W.ret none
  | some e, ρ => W.bind (W.bind (ev e ρ) asI) fun i => W.ret (some i)
/-- a built-in by its name -/
def dBlt2 (x : Str) : Option (List D → W D) := if x = "sorted" then some dSorted else if x = "repr" then some dRepr else if x = "divmod" then some dDivmod else none
def dBlt (x : Str) : Option (List D → W D) :=
  if x = "len" then some dLen else if x = "abs" then some dAbs else if x = "int" then some dInt else if x = "sum" then some dSum else if x = "all" then some dAll
  else if x = "any" then some dAny else if x = "tuple" then some dTuple else if x = "list" then some dList else if x = "max" then some dMax else if x = "min" then some dMin else dBlt2 x
/-- the classes of isinstance's second argument -/
def typeNames : Expr → Option (List Str)
  | .Name x _ => some [x]
  | _ => none
def isTs (d : D) : List Str → Option Bool
  | [n] => isT n d
  | _ => none
def evIsi (Γ : Gm) (ev : Expr → En → W D) (args : List Expr) (ρ : En) : W D := match args with
  | [a, .Name t _] => match Γ.free.contains t && (decide (Γ.sc.names.lookup t = some .globalImplicit) && ((tyN t).isSome && !badName t)) with
    | true => W.bind (ev a ρ) fun d => W.opt (isT t d) fun b => W.ret (.bool b)
    | false => W.bad
  | _ => W.bad
/-- sorted(set(e)) -/
def setArg (Γ : Gm) : List Expr → Option Expr
  | [.Call (.Name f _) [e] [] _] => match decide (f = "set") && (decide (Γ.sc.names.lookup f = some .globalImplicit) && (Γ.free.contains f && !isStar e)) with
    | true => some e
    | false => none
  | _ => none
def evBlt (ev : Expr → En → W D) (x : Str) (args : List Expr) (ρ : En) : W D := W.opt (dBlt x) fun f => match args with
  | [] => W.bad
  | e :: es => W.bind (evArgs ev (e :: es) ρ) f
def isGlobFree (Γ : Gm) (x : Str) : Bool := decide (Γ.sc.names.lookup x = some .globalImplicit) && Γ.free.contains x
def rangeD (lo hi : Int) : List D := (List.range (hi - lo).toNat).map fun k => .int (lo + (k : Nat))
/-- tuple(range(..)), list(range(..)) -/
def rgArg (Γ : Gm) (x : Str) : List Expr → Option (List Expr)
  | [.Call (.Name f _) as [] _] => match (decide (x = "tuple") || decide (x = "list")) && (decide (f = "range") && (isGlobFree Γ f && !as.any isStar)), as with
    | true, [a] => some [a]
    | _, _ => none
  | _ => none
def mkRg (x : Str) (ds : List D) : D := if x = "tuple" then .tuple ds else .list ds
def dRg (x : Str) : List D → W D
  | [.int j] => W.need (RgOk 0 j) (W.ret (mkRg x (rangeD 0 j)))
  | _ => W.bad
/-- x[::-1] -/
def dRev : D → W D
  | .list ds => W.ret (.list ds.reverse)
  | .tuple ds => W.ret (.tuple ds.reverse)
  | _ => W.bad
def evCall (Γ : Gm) (ev : Expr → En → W D) (x : Str) (args : List Expr) (ρ : En) : W D := match badName x || args.any isStar with
  | true => W.bad
  | false => match Γ.sc.names.lookup x with
    | some .globalImplicit => match Γ.fns.lookup x with
      | some (_, n, m) => W.bind (evArgs ev args ρ) fun ds => W.need (ds.length = n) (m ds)
      | none => match Γ.free.contains x with
        | false => W.bad
        | true => match decide (x = "isinstance") with
          | true => evIsi Γ ev args ρ
          | false => match rgArg Γ x args with
            | some as => W.bind (evArgs ev as ρ) (dRg x)
            | none => match decide (x = "sorted"), setArg Γ args with
              | true, some e => W.bind (ev e ρ) dSortSet
              | _, _ => evBlt ev x args ρ
    | _ => W.bad
/-- what is a def by its value -/
def defOf (fns : List (Str × Nat × Nat × (List D → W D))) : D → Option (Nat × (List D → W D))
  | .dict [(.none, .str x)] => (fns.lookup x).map fun t => (t.2.1, t.2.2)
  | _ => none
def evCallV (Γ : Gm) (ev : Expr → En → W D) (gf : En → W D) (args : List Expr) : En → W D := match args.any isStar with
  | true => fun _ => W.bad
  | false => fun ρ => W.bind (gf ρ) fun f => W.opt (defOf Γ.fns f) fun t => W.bind (evArgs ev args ρ) fun ds => W.need (ds.length = t.1) (t.2 ds)
/-- calls with keywords -/
def permL {α : Type} (ord : List Nat) (us ws : List α) : List α := ord.filterMap fun i => (us ++ ws)[i]?
def ordOf (Γ : Gm) (x : Str) (n : Nat) (ks : List Str) : Option (List Nat) := (Γ.kws.find? fun t => decide (t.1 = x) && (decide (t.2.1 = n) && decide (t.2.2.1 = ks))).map (·.2.2.2)
def evKws (ev : Expr → En → W D) : List Keyword → En → W (List D)
  | [], _ => W.ret []
  | ⟨_, e, _⟩ :: r, ρ => W.bind (ev e ρ) fun d => W.bind (evKws ev r ρ) fun ds => W.ret (d :: ds)
def evCallK (Γ : Gm) (ev : Expr → En → W D) (x : Str) (args : List Expr) (kws : List Keyword) : En → W D := match badName x || (args.any isStar || kws.any fun k => k.arg.isNone) with
  | true => fun _ => W.bad
  | false => match Γ.sc.names.lookup x, Γ.fns.lookup x, ordOf Γ x args.length (kws.filterMap (·.arg)) with
    | some .globalImplicit, some (_, n, m), some ord => fun ρ => W.bind (evArgs ev args ρ) fun ds => W.need (ds.length = args.length) (W.bind (evKws ev kws ρ) fun es => W.need (es.length = kws.length ∧ (permL ord ds es).length = n) (m (permL ord ds es)))
    | _, _, _ => fun _ => W.bad
/-- written tables -/
def tabOf (Γ : Gm) : Expr → Option (List (Str × D))
  | .Name T _ => match badName T || !decide (Γ.sc.names.lookup T = some .globalImplicit) with
    | true => none
    | false => Γ.tabs.lookup T
  | _ => none
def dTabIn (op : CmpOp) (kvs : List (Str × D)) : D → W D
  | .str z => match op with
    | .In => W.ret (.bool (kvs.lookup z).isSome)
    | .NotIn => W.ret (.bool (!(kvs.lookup z).isSome))
    | _ => W.bad
  | _ => W.bad
def dTabIx (kvs : List (Str × D)) : D → W D
  | .str z => W.opt (kvs.lookup z) W.ret
  | _ => W.bad
def sizeOk (ds : List D) : Prop := ds.length ≤ sizeLine
/-- a target -/
def bindTg (Γ : Gm) : Nat → Expr → D → En → Option En
  | n + 1, .Name x _, d, ρ => match Γ.st x with
    | true => (slotOf Γ.N x).map fun i => ρ.set i (some d)
    | false => none
  | n + 1, .Tuple es _ _, .tuple ds, ρ => if es.length = ds.length then go n es ds ρ else none
  | _, _, _, _ => none
where go : Nat → List Expr → List D → En → Option En
  | _, [], [], ρ => some ρ
  | n + 1, e :: es, d :: ds, ρ => (bindTg Γ n e d ρ).bind fun ρ' => go n es ds ρ'
  | _, _, _, _ => none
/-- a tuple of n items -/
def tupOf (n : Nat) : D → Option (List D)
  | .tuple ds => if ds.length = n then some ds else none
  | _ => none
mutual
/-- a target, and what comes of it -/
def bindK {α : Type} (Γ : Gm) (b : α) : Nat → Expr → D → En → (En → α) → α
  | 0, _, _, _, _ => b
  | n + 1, tg, d, ρ, k => match tg with
    | .Name x _ => match Γ.st x, slotOf Γ.N x with
      | true, some i => k (ρ.set i (some d))
      | _, _ => b
    | .Tuple es _ _ => match tupOf es.length d with
      | some ds => goK Γ b n es 0 ds ρ k
      | none => b
    | _ => b
def goK {α : Type} (Γ : Gm) (b : α) : Nat → List Expr → Nat → List D → En → (En → α) → α
  | _, [], _, _, ρ, k => k ρ
  | 0, _ :: _, _, _, _, _ => b
  | n + 1, e :: es, i, ds, ρ, k => bindK Γ b n e (ds.getD i .none) ρ fun ρ' => goK Γ b n es (i + 1) ds ρ' k
end
/-- a target's names -/
def tgNames : Nat → Expr → List Str
  | n + 1, .Name x _ => [x]
  | n + 1, .Tuple es _ _ => es.flatMap (tgNames n)
  | _, _ => []
def wipeE (ρ : En) : List Nat → En
  | [] => ρ
  | v :: vs => (wipeE ρ vs).set v none
end PD
namespace PD
open PySem PySem.Spec PyProof.Rows L2
def ownOf (N : List Str) (scope : Scope) : List (Str × Nat) := scope.names.filterMap fun p => match p.2 with
  | .local => (slotOf N p.1).map fun i => (p.1, i)
  | .cell => (slotOf N p.1).map fun i => (p.1, i)
  | _ => none
def enumD (ds : List D) : List D := ds.mapIdx fun i d => .tuple [.int (i : Nat), d]
def zipD (ds es : List D) : List D := (ds.zip es).map fun p => .tuple [p.1, p.2]
def zipOf : D → D → W (List D)
  | .list xs, .list ys => W.ret (zipD xs ys)
  | .tuple xs, .tuple ys => W.ret (zipD xs ys)
  | _, _ => W.bad
/-- what a walk meets -/
def walkOf : D → W (List D)
  | .list ds => W.ret ds
  | .tuple ds => W.ret ds
  | .str z => W.ret (z.cps.toList.map fun k => .str ⟨#[k]⟩)
  | _ => W.bad
def ok62 (i : Int) : Prop := -(2 ^ 62) ≤ i ∧ i < 2 ^ 62
def isTupT : Expr → Bool
  | .Tuple _ _ _ => true
  | _ => false
def evIter (Γ : Gm) (ev : Expr → En → W D) (tg : Expr) (it : Expr) (ρ : En) : W (List D) := match it with
  | .Call (.Name f _) args [] _ => match decide (f = "range") && (isGlobFree Γ f && !args.any isStar) with
    | true => match args with
      | [a] => W.bind (evArgs ev [a] ρ) fun ds => match ds with
        | [.int j] => W.need (ok62 j) (W.ret (rangeD 0 j))
        | _ => W.bad
      | [a, b] => W.bind (evArgs ev [a, b] ρ) fun ds => match ds with
        | [.int i, .int j] => W.need (ok62 i ∧ ok62 j) (W.ret (rangeD i j))
        | _ => W.bad
      | _ => W.bad
    | false => match decide (f = "enumerate") && (isGlobFree Γ f && (isTupT tg && !args.any isStar)) with
      | true => match args with
        | [a] => W.bind (evArgs ev [a] ρ) fun ds => match ds with
          | [d] => W.bind (itemsOf d) fun xs => W.ret (enumD xs)
          | _ => W.bad
        | _ => W.bad
      | false => match decide (f = "zip") && (isGlobFree Γ f && (isTupT tg && !args.any isStar)) with
        | true => match args with
          | [a, b] => W.bind (evArgs ev [a, b] ρ) fun ds => match ds with
            | [d, e] => zipOf d e
            | _ => W.bad
          | _ => W.bad
        | false => W.bind (ev it ρ) walkOf
  | _ => W.bind (ev it ρ) walkOf
def evTests (ev : Expr → En → W D) : List Expr → En → W Bool
  | [], _ => W.ret true
  | [c], ρ => W.bind (ev c ρ) asB
  | _, _ => W.bad
/-- the turns of a comprehension: the items so far, those to come -/
def lcGo (step : D → W (Option D)) : List D → List D → W (List D)
  | [], acc => W.ret acc
  | d :: ds, acc => W.bind (step d) fun o => match o with
    | some y => W.need (acc.length < sizeLine) (lcGo step ds (acc ++ [y]))
    | none => lcGo step ds acc
def lcStep (Γ : Gm) (evT ev : Expr → En → W D) (tg : Expr) (ifs : List Expr) (elt : Expr) (ρ : En) (d : D) : W (Option D) := bindK Γ W.bad 20 tg d ρ fun ρ' => W.bind (evTests evT ifs ρ') fun b => match b with
    | true => W.bind (ev elt ρ') fun y => W.ret (some y)
    | false => W.ret none
/-- nothing is let out -/
@[reducible] def W.calm {α : Type} (m : W α) : W α := fun q _ => m q fun _ => False
def isSet : Expr → Bool
  | .Set _ _ _ => true
  | _ => false
def isIfE : Expr → Bool
  | .IfExp _ _ _ _ => true
  | _ => false
/-- as a test -/
def evT (ev : Expr → En → W D) (e : Expr) (ρ : En) : W D := match isIfE e with
  | true => W.bad
  | false => ev e ρ
def evLc (Γ : Gm) (ev evB : Expr → En → W D) (elt tg iter : Expr) (ifs : List Expr) (scope : Scope) (ρ : En) : W D :=
  match blkC Γ.N Γ.sc scope (ownOf Γ.N scope) && !isSet iter with
  | true => W.bind (evIter Γ ev tg iter ρ) fun xs => W.bind (lcGo (fun d => W.calm (lcStep (Γ.blk scope) (evT evB) evB tg ifs elt (wipeE ρ ((ownOf Γ.N scope).map (·.2))) d)) xs []) fun ys => W.ret (.list ys)
  | false => W.bad
/-- a comprehension of two clauses -/
def lc2Step (Γ : Gm) (evT ev : Expr → En → W D) (tg tg1 it1 : Expr) (ifs ifs1 : List Expr) (elt : Expr) (vs1 : List Nat) (ρ : En) (d : D) (acc : List D) : W (List D) := bindK Γ W.bad 20 tg d ρ fun ρ' => W.bind (evTests evT ifs ρ') fun b => match b with
    | true => W.bind (evIter Γ ev tg1 it1 ρ') fun xs => lcGo (lcStep Γ evT ev tg1 ifs1 elt (wipeE ρ' vs1)) xs acc
    | false => W.ret acc
def lc2Go (step : D → List D → W (List D)) : List D → List D → W (List D)
  | [], acc => W.ret acc
  | d :: ds, acc => W.bind (step d acc) fun acc' => lc2Go step ds acc'
def evLc2 (Γ : Gm) (ev evB : Expr → En → W D) (elt tg iter : Expr) (ifs : List Expr) (tg1 iter1 : Expr) (ifs1 : List Expr) (scope : Scope) (ρ : En) : W D :=
  match blkC Γ.N Γ.sc scope (ownOf Γ.N scope) && (!isSet iter && (!isSet iter1 && ((tgNames 20 tg1).filterMap (slotOf Γ.N)).all fun i => decide (i ∈ (ownOf Γ.N scope).map (·.2)))) with
  | true => W.bind (evIter Γ ev tg iter ρ) fun xs => W.bind (lc2Go (fun d acc => W.calm (lc2Step (Γ.blk scope) (evT evB) evB tg tg1 iter1 ifs ifs1 elt ((tgNames 20 tg1).filterMap (slotOf Γ.N)) (wipeE ρ ((ownOf Γ.N scope).map (·.2))) d acc)) xs []) fun ys => W.ret (.list ys)
  | false => W.bad
def evE : Nat → Gm → Expr → (En → W D)
  | 0, _, _ => fun _ => W.bad
  | n + 1, Γ, e => match e with
    | .Constant (.int i) _ _ => fun _ => W.ret (.int i)
    | .Constant (.bool b) _ _ => fun _ => W.ret (.bool b)
    | .Constant .none _ _ => fun _ => W.ret .none
    | .Constant (.str x) _ _ => fun _ => W.ret (.str x)
    | .Name x _ => evName Γ x
    | .BinOp a op b _ => fun ρ => W.bind (evE n Γ a ρ) fun x => W.bind (evE n Γ b ρ) fun y => dBin op x y
    | .UnaryOp .USub a _ => fun ρ => W.bind (evE n Γ a ρ) dNeg
    | .UnaryOp .Not a _ => fun ρ => W.bind (W.bind (evT (evE n Γ) a ρ) asB) fun b => W.ret (.bool (!b))
    | .BoolOp .And vs _ => evAnd (evT (evE n Γ)) vs
    | .BoolOp .Or vs _ => evOr (evT (evE n Γ)) vs
    | .IfExp c a b _ => fun ρ => W.bind (W.bind (evT (evE n Γ) c ρ) asB) fun k => match k with
      | true => evE n Γ a ρ
      | false => evE n Γ b ρ
    | .Compare a [op] [b] _ => match behindInMarks op b, tabOf Γ b with
      | true, _ => fun _ => W.bad
      | false, some kvs => fun ρ => W.bind (evE n Γ a ρ) (dTabIn op kvs)
      | false, none => fun ρ => W.bind (evE n Γ a ρ) fun x => W.bind (evE n Γ b ρ) fun y => dCmp op x y
    | .Compare a [op, op'] [b, d] _ => match lastMarks [op, op'] [b, d] with
      | true => fun _ => W.bad
      | false => fun ρ => W.bind (evE n Γ a ρ) fun x => W.bind (evE n Γ b ρ) fun y => W.bind (W.bind (dCmp op x y) asB) fun k => match k with
        | true => W.bind (evE n Γ d ρ) fun z => dCmp op' y z
        | false => W.ret (.bool false)
    | .Tuple es _ _ => fun ρ => W.bind (evItems (evE n Γ) es ρ) fun ds => W.need (sizeOk ds) (W.ret (.tuple ds))
    | .List es _ => fun ρ => W.bind (evItems (evE n Γ) es ρ) fun ds => W.need (sizeOk ds) (W.ret (.list ds))
    | .Subscript a (.Slice none none (some (.UnaryOp .USub (.Constant (.int 1) _ _) _)) _) _ => fun ρ => W.bind (evE n Γ a ρ) dRev
    | .Subscript a (.Slice lo hi none _) _ => fun ρ => W.bind (evE n Γ a ρ) fun d => W.bind (evPart (evE n Γ) lo ρ) fun l => W.bind (evPart (evE n Γ) hi ρ) fun u => dSl d l u
    | .Subscript a b _ => match isSlice b, tabOf Γ a with
      | true, _ => fun _ => W.bad
      | false, some kvs => fun ρ => W.bind (evE n Γ b ρ) (dTabIx kvs)
      | false, none => fun ρ => W.bind (evE n Γ a ρ) fun x => W.bind (evE n Γ b ρ) fun y => dIx x y
    | .Call (.Name x p) args [] _ => match decide (Γ.sc.names.lookup x = some .globalImplicit) with
      | true => evCall Γ (evE n Γ) x args
      | false => evCallV Γ (evE n Γ) (evE n Γ (.Name x p)) args
    | .Call (.Name x _) args (kw :: kws) _ => evCallK Γ (evE n Γ) x args (kw :: kws)
    | .Call (.Subscript a b p) args [] _ => evCallV Γ (evE n Γ) (evE n Γ (.Subscript a b p)) args
    | .Dict [] [] _ => fun _ => W.ret (.dict [])
    | .ListComp elt [⟨tg, iter, ifs, 0⟩] scope _ => evLc Γ (evE n Γ) (evE n (Γ.blk scope)) elt tg iter ifs scope
    | .ListComp elt [⟨tg, iter, ifs, 0⟩, ⟨tg1, iter1, ifs1, 0⟩] scope _ => evLc2 Γ (evE n Γ) (evE n (Γ.blk scope)) elt tg iter ifs tg1 iter1 ifs1 scope
    | _ => fun _ => W.bad
end PD

set_option maxHeartbeats 4000000
/-! PD6: soundness of the parts of expressions. -/
namespace PD
open PySem PySem.Spec PyProof.Rows L2
section
variable {c : Cn} {X : Cx} {P O : Addr → Prop} {H : Hp} {v w : V} {Γ : Gm} {E : XK} {σ : L2.St} {ρ : En} {Q : VK}
theorem PE.imp {e : Expr} {t t' : TE} (h : PE X e t) (i : ∀ σ H Q, t' σ H Q → t σ H Q) : PE X e t' := ⟨fun pins s σ H Q I q => h.run pins s σ H Q I (i _ _ _ q)⟩
theorem PT.imp {e : Expr} {t t' : TT} (h : PT X e t) (i : ∀ σ H Q, t' σ H Q → t σ H Q) : PT X e t' := ⟨fun pins s σ H Q I q => h.run pins s σ H Q I (i _ _ _ q)⟩
theorem PW.imp {e : Expr} {t t' : TT} (h : PW X e t) (i : ∀ σ H Q, t' σ H Q → t σ H Q) : PW X e t' := ⟨fun wh pins s σ H Q I q => h.run wh pins s σ H Q I (i _ _ _ q)⟩
theorem PA.imp {es : List Expr} {t t' : TA} (h : PA X es t) (i : ∀ σ H Q, t' σ H Q → t σ H Q) : PA X es t' := ⟨fun pos pins s σ H Q I q => h.run pos pins s σ H Q I (i _ _ _ q)⟩
theorem PE.bad {e : Expr} : PE X e (tD c E fun _ => W.bad) := ⟨fun pins s σ H Q I q => by
  obtain ⟨_, _, _, _, _, _, h, _⟩ := q
  exact h.elim⟩
theorem PE.badW {e : Expr} {g : En → W D} (h : ∀ ρ q x, ¬ g ρ q x) : PE X e (tD c E g) := ⟨fun pins s σ H Q I q => by
  obtain ⟨_, _, _, _, _, _, k, _⟩ := q
  exact (h _ _ _ k).elim⟩
abbrev ExcOk (c : Cn) (E : XK) (P O : Addr → Prop) (H : Hp) (x : Xc → Prop) : Prop := ∀ P' H' cls dd e, Le c P H P' H' → RpX c P' O H' cls dd e → x e → E cls dd H'
theorem ExcOk.le {x : Xc → Prop} {P' : Addr → Prop} {H' : Hp} (k : ExcOk c E P O H x) (l : Le c P H P' H') : ExcOk c E P' O H' x := fun P2 H2 cls dd e m => k P2 H2 cls dd e (l.trans m)
/-- two expressions, then what is made of both -/
theorem bind2 {ga gb : En → W D} {f : D → D → W D} {R : V → V → Hp → Prop} (h : tD c E (fun ρ => W.bind (ga ρ) fun a => W.bind (gb ρ) fun b => f a b) σ H Q)
    (hR : ∀ P O a b q x v w H2, WOk c P O H2 → Rp c P O H2 v a → Rp c P O H2 w b → f a b q x → Fin c E P O H2 q x Q → R v w H2) :
    tD c E ga σ H fun u H1 => tD c E gb σ H1 fun w H2 => R u w H2 := by
  obtain ⟨P, O, ρ, q, x, env, hg, fin⟩ := h
  refine ⟨P, O, ρ, fun a => W.bind (gb ρ) (fun b => f a b) q x, x, env, hg, fun P1 H1 u a l1 r1 h1 => ?_, fin.exc⟩
  refine ⟨P1, O, ρ, fun b => f a b q x, x, env.le l1, h1, fun P2 H2 w b l2 r2 h2 => ?_, (fin.le l1).exc⟩
  exact hR P2 O a b q x u w H2 ((env.le l1).le l2).ok (r1.le l2 (env.le l1).ok.pk) r2 h2 ((fin.le l1).le l2)
theorem bind1 {ga : En → W D} {f : D → W D} {R : V → Hp → Prop} (h : tD c E (fun ρ => W.bind (ga ρ) f) σ H Q)
    (hR : ∀ P O a q x v H2, WOk c P O H2 → Rp c P O H2 v a → f a q x → Fin c E P O H2 q x Q → R v H2) : tD c E ga σ H R := by
  obtain ⟨P, O, ρ, q, x, env, hg, fin⟩ := h
  exact ⟨P, O, ρ, fun a => f a q x, x, env, hg, fun P1 H1 u a l1 r1 h1 => hR P1 O a q x u H1 (env.le l1).ok r1 h1 (fin.le l1), fin.exc⟩
theorem bindT {ga : En → W D} {f : Bool → En → W D} {R : Bool → Hp → Prop} (h : tD c E (fun ρ => W.bind (W.bind (ga ρ) asB) fun b => f b ρ) σ H Q)
    (hR : ∀ P O ρ b q x H2, EnvOk c P O H2 σ ρ → f b ρ q x → Fin c E P O H2 q x Q → R b H2) : tDT c E (fun ρ => W.bind (ga ρ) asB) σ H R := by
  obtain ⟨P, O, ρ, q, x, env, hg, fin⟩ := h
  exact ⟨P, O, ρ, fun b => f b ρ q x, x, env, hg, fun P1 H1 b l1 h1 => hR P1 O ρ b q x H1 (env.le l1) h1 (fin.le l1), fin.exc⟩
theorem asB_ok {a : D} {q : Bool → Prop} {x : Xc → Prop} (h : asB a q x) : ∃ b, a = .bool b ∧ q b := by
  cases a <;> first | exact ⟨_, rfl, h⟩ | exact h.elim
/-- a value that is a bool, as a test -/
theorem tD_B {g : En → W D} {Q : Bool → Hp → Prop} (h : tDT c E (fun ρ => W.bind (g ρ) asB) σ H Q) : tB (tD c E g) σ H Q := by
  obtain ⟨P, O, ρ, q, x, env, hg, k, ex⟩ := h
  refine ⟨P, O, ρ, fun a => asB a q x, x, env, hg, fun P1 H1 u a l1 r1 h1 => ?_, ex⟩
  obtain ⟨b, rfl, hb⟩ := asB_ok h1
  exact ⟨b, rp_bl r1, k P1 H1 b l1 hb⟩
theorem tDT_val {g : En → W D} {Q : VK} {f : Bool → V} (h : tD c E (fun ρ => W.bind (W.bind (g ρ) asB) fun b => W.ret (.bool (!b))) σ H Q) : tNotV (tD c E g) σ H Q := by
  obtain ⟨P, O, ρ, q, x, env, hg, fin⟩ := h
  refine ⟨P, O, ρ, fun a => asB a (fun b => q (.bool (!b))) x, x, env, hg, fun P1 H1 u a l1 r1 h1 => ?_, fin.exc⟩
  obtain ⟨b, rfl, hb⟩ := asB_ok h1
  exact ⟨b, rp_bl r1, fin.val P1 H1 _ _ l1 (.bl _) hb⟩

/-! ### operators -/
theorem pe_binD (hK : X.K = c.K) {a b : Expr} {ga gb : En → W D} {op : Operator} {pos : Pos} (ha : PE X a (tD c E ga)) (hb : PE X b (tD c E gb)) :
    PE X (.BinOp a op b pos) (tD c E fun ρ => W.bind (ga ρ) fun x => W.bind (gb ρ) fun y => dBin op x y) :=
  PE.imp (pe_op (op_binD hK op) ha hb) fun σ H Q h => bind2 h fun P O a b q x v w H2 ok r1 r2 hf fin => ⟨P, O, a, b, q, x, ok, r1, r2, hf, fin.val⟩
theorem cmp_imp {f : D → D → W D} {ga gb : En → W D} (h : tD c E (fun ρ => W.bind (ga ρ) fun x => W.bind (gb ρ) fun y => f x y) σ H Q) : tOp (rD c f) (tD c E ga) (tD c E gb) σ H Q :=
  bind2 h fun P O a b q x v w H2 ok r1 r2 hf fin => ⟨P, O, a, b, q, x, ok, r1, r2, hf, fin.val⟩
theorem pe_cmpD (hK : X.K = c.K) (hu : X.A.units + 200 < cLine) {a b : Expr} {ga gb : En → W D} {op : CmpOp} {pos : Pos} (ha : PE X a (tD c E ga)) (hb : PE X b (tD c E gb)) (hm : behindInMarks op b = false) :
    PE X (.Compare a [op] [b] pos) (tD c E fun ρ => W.bind (ga ρ) fun x => W.bind (gb ρ) fun y => dCmp op x y) :=
  PE.imp (pe_cmpR (op_cmpD hK hu op) ha hb hm) fun σ H Q h => cmp_imp h
theorem tD_asB {g : En → W D} {f : VK → Prop} {Q : Bool → Hp → Prop} (h : tDT c E (fun ρ => W.bind (g ρ) asB) σ H Q) : tD c E g σ H fun u H1 => ∃ k, u = .bl k ∧ Q k H1 := tD_B h
theorem pt_cmpD (hK : X.K = c.K) (hu : X.A.units + 200 < cLine) {a b : Expr} {ga gb : En → W D} {op : CmpOp} {pos : Pos} (ha : PE X a (tD c E ga)) (hb : PE X b (tD c E gb)) (hm : behindInMarks op b = false) :
    PT X (.Compare a [op] [b] pos) (tDT c E fun ρ => W.bind (W.bind (ga ρ) fun x => W.bind (gb ρ) fun y => dCmp op x y) asB) :=
  PT.imp (pt_cmpR (op_cmpD hK hu op) ha hb hm) fun σ H Q h => cmp_imp (tD_B h)
theorem chain_imp {f f' : D → D → W D} {ga gb gd : En → W D} (h : tD c E (fun ρ => W.bind (ga ρ) fun x => W.bind (gb ρ) fun y => W.bind (W.bind (f x y) asB) fun k => match k with
    | true => W.bind (gd ρ) fun z => f' y z
    | false => W.ret (.bool false)) σ H Q) : tChain (rD c f) (rD c f') (tD c E ga) (tD c E gb) (tD c E gd) σ H Q := by
  obtain ⟨P, O, ρ, q, x, env, hg, fin⟩ := h
  refine ⟨P, O, ρ, _, x, env, hg, fun P1 H1 u a l1 r1 h1 => ?_, fin.exc⟩
  refine ⟨P1, O, ρ, _, x, env.le l1, h1, fun P2 H2 w b l2 r2 h2 => ?_, (fin.le l1).exc⟩
  have e2 := (env.le l1).le l2
  refine ⟨P2, O, a, b, _, x, e2.ok, r1.le l2 (env.le l1).ok.pk, r2, h2, fun P3 H3 z k l3 r3 h3 => ?_⟩
  obtain ⟨kb, rfl, h3⟩ := asB_ok h3
  have fin3 := ((fin.le l1).le l2).le l3
  refine ⟨kb, rp_bl r3, ?_⟩
  cases kb with
  | true =>
    rw [if_pos rfl]
    refine ⟨P3, O, ρ, _, x, e2.le l3, h3, fun P4 H4 z d l4 r4 h4 => ?_, fin3.exc⟩
    exact ⟨P4, O, b, d, q, x, ((e2.le l3).le l4).ok, (r2.le l3 e2.ok.pk).le l4 (e2.le l3).ok.pk, r4, h4, (fin3.le l4).val⟩
  | false =>
    rw [if_neg Bool.false_ne_true]
    exact fin3.here (e2.le l3).ok (.bl false) h3
theorem pe_chainD (hK : X.K = c.K) (hu : X.A.units + 200 < cLine) {a b d : Expr} {ga gb gd : En → W D} {op op' : CmpOp} {pos : Pos} (ha : PE X a (tD c E ga)) (hb : PE X b (tD c E gb)) (hd : PE X d (tD c E gd)) (hm : lastMarks [op, op'] [b, d] = false) :
    PE X (.Compare a [op, op'] [b, d] pos) (tD c E fun ρ => W.bind (ga ρ) fun x => W.bind (gb ρ) fun y => W.bind (W.bind (dCmp op x y) asB) fun k => match k with
      | true => W.bind (gd ρ) fun z => dCmp op' y z
      | false => W.ret (.bool false)) :=
  PE.imp (pe_chain (op_cmpD hK hu op) (op_cmpD hK hu op') ha hb hd hm) fun σ H Q h => chain_imp h
theorem pt_chainD (hK : X.K = c.K) (hu : X.A.units + 200 < cLine) {a b d : Expr} {ga gb gd : En → W D} {op op' : CmpOp} {pos : Pos} (ha : PE X a (tD c E ga)) (hb : PE X b (tD c E gb)) (hd : PE X d (tD c E gd)) (hm : lastMarks [op, op'] [b, d] = false) :
    PT X (.Compare a [op, op'] [b, d] pos) (tDT c E fun ρ => W.bind (W.bind (ga ρ) fun x => W.bind (gb ρ) fun y => W.bind (W.bind (dCmp op x y) asB) fun k => match k with
      | true => W.bind (gd ρ) fun z => dCmp op' y z
      | false => W.ret (.bool false)) asB) :=
  PT.imp (pt_chain (op_cmpD hK hu op) (op_cmpD hK hu op') ha hb hd hm) fun σ H Q h => chain_imp (tD_B (g := fun ρ => W.bind (ga ρ) fun x => W.bind (gb ρ) fun y => W.bind (W.bind (dCmp op x y) asB) fun k => match k with
      | true => W.bind (gd ρ) fun z => dCmp op' y z
      | false => W.ret (.bool false)) h)
theorem pe_notD {a : Expr} {ga : En → W D} {pos : Pos} (ha : PE X a (tD c E ga)) : PE X (.UnaryOp .Not a pos) (tD c E fun ρ => W.bind (W.bind (ga ρ) asB) fun b => W.ret (.bool (!b))) :=
  PE.imp (pe_not ha) fun σ H Q h => tDT_val (f := fun b => .bl b) h
theorem pt_notD {a : Expr} {ga : En → W D} {pos : Pos} (ha : PT X a (tDT c E fun ρ => W.bind (ga ρ) asB)) : PT X (.UnaryOp .Not a pos) (tDT c E fun ρ => W.bind (W.bind (W.bind (ga ρ) asB) fun b => W.ret (.bool (!b))) asB) :=
  PT.imp (pt_not ha) fun σ H Q h => by
    obtain ⟨P, O, ρ, q, x, env, hg, k, ex⟩ := h
    exact ⟨P, O, ρ, fun b => q (!b), x, env, hg, fun P1 H1 b l1 hb => k P1 H1 (!b) l1 hb, ex⟩
theorem un_negD : UnR X (unaryOp .USub) (fun v H Q => ∃ P O a q x, WOk c P O H ∧ Rp c P O H v a ∧ dNeg a q x ∧ ∀ P' H' u d, Le c P H P' H' → Rp c P' O H' u d → q d → Q u H') := by
  intro pins s σ H x v Q I rx h
  obtain ⟨P, O, a, q, y, ok, r, hf, k⟩ := h
  unfold dNeg at hf
  split at hf
  · obtain rfl := rp_int r
    exact un_neg pins s σ H _ v Q I rx ⟨_, rfl, k P H _ _ (.refl ok.pk) (.int _) hf⟩
  · exact hf.elim
theorem pe_negD {a : Expr} {ga : En → W D} {pos : Pos} (ha : PE X a (tD c E ga)) : PE X (.UnaryOp .USub a pos) (tD c E fun ρ => W.bind (ga ρ) dNeg) :=
  PE.imp (pe_un (un_negD (c := c)) ha) fun σ H Q h => bind1 h fun P O a q x v H2 ok r hf fin => ⟨P, O, a, q, x, ok, r, hf, fin.val⟩
/-! ### and, or, if -/
theorem pe_andD {a b : Expr} {rest : List Expr} {ga gb : En → W D} {pos : Pos} (ha : PE X a (tD c E ga)) (hb : PE X (.BoolOp .And (b :: rest) pos) (tD c E gb)) :
    PE X (.BoolOp .And (a :: b :: rest) pos) (tD c E fun ρ => W.bind (W.bind (ga ρ) asB) fun k => match k with
      | true => gb ρ
      | false => W.ret (.bool false)) := PE.imp (pe_and ha hb) fun σ H Q h => by
  obtain ⟨P, O, ρ, q, x, env, hg, fin⟩ := h
  refine ⟨P, O, ρ, _, x, env, hg, fun P1 H1 u a l1 r1 h1 => ?_, fin.exc⟩
  obtain ⟨kb, rfl, h1⟩ := asB_ok h1
  refine ⟨kb, rp_bl r1, ?_⟩
  cases kb with
  | true => rw [if_pos rfl]; exact ⟨P1, O, ρ, q, x, env.le l1, h1, fin.le l1⟩
  | false => rw [if_neg Bool.false_ne_true]; exact (fin.le l1).here (env.le l1).ok (.bl false) h1
theorem pe_orD {a b : Expr} {rest : List Expr} {ga gb : En → W D} {pos : Pos} (ha : PE X a (tD c E ga)) (hb : PE X (.BoolOp .Or (b :: rest) pos) (tD c E gb)) :
    PE X (.BoolOp .Or (a :: b :: rest) pos) (tD c E fun ρ => W.bind (W.bind (ga ρ) asB) fun k => match k with
      | true => W.ret (.bool true)
      | false => gb ρ) := PE.imp (pe_or ha hb) fun σ H Q h => by
  obtain ⟨P, O, ρ, q, x, env, hg, fin⟩ := h
  refine ⟨P, O, ρ, _, x, env, hg, fun P1 H1 u a l1 r1 h1 => ?_, fin.exc⟩
  obtain ⟨kb, rfl, h1⟩ := asB_ok h1
  refine ⟨kb, rp_bl r1, ?_⟩
  cases kb with
  | true => rw [if_pos rfl]; exact (fin.le l1).here (env.le l1).ok (.bl true) h1
  | false => rw [if_neg Bool.false_ne_true]; exact ⟨P1, O, ρ, q, x, env.le l1, h1, fin.le l1⟩
theorem pw_andD {a b : Expr} {rest : List Expr} {ga gb : En → W D} {pos : Pos} (ha : PT X a (tDT c E fun ρ => W.bind (ga ρ) asB)) (hb : PW X (.BoolOp .And (b :: rest) pos) (tDT c E fun ρ => W.bind (gb ρ) asB)) :
    PW X (.BoolOp .And (a :: b :: rest) pos) (tDT c E fun ρ => W.bind (W.bind (W.bind (ga ρ) asB) fun k => match k with
      | true => gb ρ
      | false => W.ret (.bool false)) asB) := PW.imp (pw_and ha hb) fun σ H Q h => by
  obtain ⟨P, O, ρ, q, x, env, hg, k, ex⟩ := h
  refine ⟨P, O, ρ, _, x, env, hg, fun P1 H1 kb l1 h1 => ?_, ex⟩
  cases kb with
  | true => rw [if_pos rfl]; exact ⟨P1, O, ρ, q, x, env.le l1, h1, fun P2 H2 b l2 => k P2 H2 b (l1.trans l2), ExcOk.le ex l1⟩
  | false => rw [if_neg Bool.false_ne_true]; exact k P1 H1 false l1 h1
theorem pw_orD {a b : Expr} {rest : List Expr} {ga gb : En → W D} {pos : Pos} (ha : PT X a (tDT c E fun ρ => W.bind (ga ρ) asB)) (hb : PW X (.BoolOp .Or (b :: rest) pos) (tDT c E fun ρ => W.bind (gb ρ) asB)) :
    PW X (.BoolOp .Or (a :: b :: rest) pos) (tDT c E fun ρ => W.bind (W.bind (W.bind (ga ρ) asB) fun k => match k with
      | true => W.ret (.bool true)
      | false => gb ρ) asB) := PW.imp (pw_or ha hb) fun σ H Q h => by
  obtain ⟨P, O, ρ, q, x, env, hg, k, ex⟩ := h
  refine ⟨P, O, ρ, _, x, env, hg, fun P1 H1 kb l1 h1 => ?_, ex⟩
  cases kb with
  | true => rw [if_pos rfl]; exact k P1 H1 true l1 h1
  | false => rw [if_neg Bool.false_ne_true]; exact ⟨P1, O, ρ, q, x, env.le l1, h1, fun P2 H2 b l2 => k P2 H2 b (l1.trans l2), ExcOk.le ex l1⟩
theorem evAnd_ok {ev : Expr → En → W D} (hE : ∀ e, PE X e (tD c E (ev e))) {pos : Pos} : ∀ vs : List Expr, PE X (.BoolOp .And vs pos) (tD c E (evAnd ev vs))
  | [] => PE.badW fun _ _ _ h => h
  | [a] => pe_one (hE a)
  | a :: b :: r => pe_andD (hE a) (evAnd_ok hE (b :: r))
theorem evOr_ok {ev : Expr → En → W D} (hE : ∀ e, PE X e (tD c E (ev e))) {pos : Pos} : ∀ vs : List Expr, PE X (.BoolOp .Or vs pos) (tD c E (evOr ev vs))
  | [] => PE.badW fun _ _ _ h => h
  | [a] => pe_one (hE a)
  | a :: b :: r => pe_orD (hE a) (evOr_ok hE (b :: r))
theorem evAnd_okT {ev : Expr → En → W D} (hE : ∀ e, PT X e (tDT c E fun ρ => W.bind (ev e ρ) asB)) {pos : Pos} : ∀ vs : List Expr, vs ≠ [] → PW X (.BoolOp .And vs pos) (tDT c E fun ρ => W.bind (evAnd ev vs ρ) asB)
  | [], h => absurd rfl h
  | [a], _ => pw_and1 (hE a)
  | a :: b :: r, _ => pw_andD (hE a) (evAnd_okT hE (b :: r) (List.cons_ne_nil _ _))
theorem evOr_okT {ev : Expr → En → W D} (hE : ∀ e, PT X e (tDT c E fun ρ => W.bind (ev e ρ) asB)) {pos : Pos} : ∀ vs : List Expr, vs ≠ [] → PW X (.BoolOp .Or vs pos) (tDT c E fun ρ => W.bind (evOr ev vs ρ) asB)
  | [], h => absurd rfl h
  | [a], _ => pw_or1 (hE a)
  | a :: b :: r, _ => pw_orD (hE a) (evOr_okT hE (b :: r) (List.cons_ne_nil _ _))
theorem pe_ifD {t a b : Expr} {gt ga gb : En → W D} {pos : Pos} (ht : PT X t (tDT c E fun ρ => W.bind (gt ρ) asB)) (ha : PE X a (tD c E ga)) (hb : PE X b (tD c E gb)) :
    PE X (.IfExp t a b pos) (tD c E fun ρ => W.bind (W.bind (gt ρ) asB) fun k => match k with
      | true => ga ρ
      | false => gb ρ) := PE.imp (pe_ifExp ht ha hb) fun σ H Q h => by
  obtain ⟨P, O, ρ, q, x, env, hg, fin⟩ := h
  refine ⟨P, O, ρ, _, x, env, hg, fun P1 H1 kb l1 h1 => ?_, fin.exc⟩
  cases kb with
  | true => rw [if_pos rfl]; exact ⟨P1, O, ρ, q, x, env.le l1, h1, fin.le l1⟩
  | false => rw [if_neg Bool.false_ne_true]; exact ⟨P1, O, ρ, q, x, env.le l1, h1, fin.le l1⟩
end
end PD

set_option maxHeartbeats 4000000
/-! PDg: promises of defs where no repr is under way. -/
namespace PD
open PySem PySem.W PySem.Spec PyProof.Rows L2
structure FnG (P : Program) (w : World) (K : PySem.W.Frag) (mg : Str → Option Value) (base : Heap) (CX : CXT) (k : Nat) (f : Addr) (fd : FuncData) (ps : List Str) (sp : Sp) : Prop where
  len : ∀ vs H Q E, sp vs H Q E → vs.length = ps.length
  run : ∀ (A : Around) (outer : List Env) (s : Shared) (H : Hp) (args : Args) (us : List Value) (vs : List V) (Q : VK) (E : XK), Room k A → A.guards = some [] → Env0 P w K mg base A outer s H → BindsTo s fd args (ps.zip us) → Vals vs us → sp vs H Q E →
    codeAny (model P w) A (.call (.ref f) args) (CR CX outer P w H s Q E) s
section
variable {P : Program} {w : World} {K : PySem.W.Frag} {mg : Str → Option Value} {base : Heap} {CX : CXT} {k : Nat} {f : Addr} {fd : FuncData} {ps : List Str} {sp sp' : Sp}
theorem FnG.imp (F : FnG P w K mg base CX k f fd ps sp) (h : ∀ vs H Q E, sp' vs H Q E → sp vs H Q E) : FnG P w K mg base CX k f fd ps sp' :=
  ⟨fun vs H Q E q => F.len vs H Q E (h _ _ _ _ q), fun A outer s H args us vs Q E hr hg he hb hv hs => F.run A outer s H args us vs Q E hr hg he hb hv (h _ _ _ _ hs)⟩
theorem FnG.of (F : FnOk P w K mg base CX k f fd ps sp) : FnG P w K mg base CX k f fd ps sp := ⟨F.len, fun A outer s H args us vs Q E hr _ => F.run A outer s H args us vs Q E hr⟩
theorem funD_okG {x qual : Str} {params : Arguments} {body : List Stmt} {scope : Scope} {dvs : List V} {kws : List (Str × V)} {N : List Str} (F : FunD K x qual params body scope dvs kws f fd) (S : FnScope N ps scope) (len : ∀ vs H Q E, sp vs H Q E → vs.length = ps.length)
    (hbody : ∀ (cdv : Value) (A : Around) (outer : List Env) (s : Shared) (H : Hp) (vs : List V) (Q : VK) (E : XK), Room k (A.deeper (envOfC qual scope s.heap.objs.size f cdv)) → (A.deeper (envOfC qual scope s.heap.objs.size f cdv)).guards = some [] → sp vs H Q E →
      ∃ t, PSs (cxOf CX P w K mg base N qual scope f cdv A outer s H E) body t ∧ t { nx := fun _ H' => Q .non H', rt := Q } (L2.start N vs) H) : FnG P w K mg base CX (k + 1) f fd ps sp := by
  obtain ⟨oc, od, dV, kV, doc, pm, an, cdv, ct, osl, rfl, lk, hcd, _, _⟩ := F.ex
  refine ⟨len, fun A outer s H args us vs Q E hr hgd e0 hb r hsp => ?_⟩
  have hl := len _ _ _ _ hsp
  have KX : K.In s.heap := e0.mod.kin.keeps fun b o e => (e0.bs b o e).1
  have lim : s.heap.NoLimit := e0.mod.nolimit.keeps fun b o e => (e0.bs b o e).1
  have hkind : ∀ y ∈ ps.zip us, scope.names.lookup y.1 = some .local ∨ (scope.names.lookup y.1 = some .cell ∧ ((cellsFrom (s.heap.objs.size + 1) scope.names []).lookup y.1).isSome = true) := fun ⟨n, v⟩ hy => by
    rcases S.par n (List.of_mem_zip hy).1 with q | q
    · exact .inl q
    · exact .inr ⟨q, PySem.W.cellsFrom_some _ _ _ (.inl q)⟩
  refine codeAny_call_function hr.depth (KX _ _ lk) rfl S.co S.gen rfl (PySem.W.codeRec_of KX hcd) (hb _ _ _ _ ?_)
  refine wpAny_newFunctionEnv_cells S.kind hkind fun env he s1 x => ?_
  subst he
  refine ⟨lim.keeps x.toInCall.keep, codeAny_func ?_⟩
  obtain ⟨t, ht, hq⟩ := hbody cdv A outer s H vs Q E (hr.deeper _) hgd hsp
  have I := inv_start (CX := CX) (E := E) S hr.hd e0 hl r x
  refine wpAny_mono (ht.run [] s1 (L2.start N vs) H _ I hq) (fun fl s' hs => ?_) fun e s' hs => hs
  have fin : ∀ {σ' : L2.St} {H' : Hp} {v : V} {u : Value}, Inv (cxOf CX P w K mg base N qual scope f cdv A outer s H E) [] σ' H' s' → RelV v u → Q v H' → CE outer P w H s Q u s' :=
    fun {σ' H' v u} J rv q => ⟨v, H', J.os, J.bare, J.base, J.hok, rv, q⟩
  cases fl with
  | ret u =>
    obtain ⟨v, σ', H', J, rv, q⟩ := hs
    exact fin J rv q
  | next =>
    obtain ⟨σ', H', J, q⟩ := hs
    exact fin (v := V.non) (u := Value.none) J rfl q
  | brk =>
    obtain ⟨_, _, _, q⟩ := hs
    exact False.elim q
  | cont =>
    obtain ⟨_, _, _, q⟩ := hs
    exact False.elim q
end
section
variable {X : Cx} {CX : CXT} {k n : Nat} {f : Addr} {fd : FuncData} {ps ks : List Str} {sp : Sp} {E : XK} {x : Str} {p pos : Pos} {e : Expr} {es : List Expr} {t tk : TA} {g : List Value → List Value → List Value} {gV : List V → List V → List V}
theorem run_fnG {pins : List (Addr × Obj)} {σ : L2.St} {H : Hp} {s : Shared} {Q : VK} {us : List Value} {vs : List V} (F : FnG X.prog X.w X.K X.mg X.base CX k f fd ps sp) (hr : Room k X.A) (hgd : X.A.guards = some []) (hb : Binds X.K fd ps []) (hx : Passes CX X E)
    (I : Inv X pins σ H s) (r : Vals vs us) (h : sp vs H Q E) : wpAny (model X.prog X.w) X.A (call (.ref f) us) (EP X pins σ Q) X.xe s := by
  have hl : us.length = ps.length := by rw [← r.length]; exact F.len _ _ _ _ h
  have hb' := hb s us I.kIn (by rw [List.append_nil]; exact hl)
  rw [List.append_nil] at hb'
  refine wpAny_call (codeAny_mono (F.run X.A X.stack s H ⟨us, []⟩ us vs Q E hr hgd I.env0 hb' r h) fun r s' hq => ?_)
  cases r with
  | error e => exact hx pins σ H s e s' I hq
  | ok fl =>
    cases fl with
    | ret u => exact I.after hq
    | next => exact False.elim hq
    | brk => exact False.elim hq
    | cont => exact False.elim hq
theorem run_fnNG {pins : List (Addr × Obj)} {σ : L2.St} {H : Hp} {s : Shared} {Q : VK} {us ws : List Value} {vs zs : List V} (F : FnG X.prog X.w X.K X.mg X.base CX k f fd ps sp) (hr : Room k X.A) (hgd : X.A.guards = some []) (hb : KBn X.K fd ps n ks g gV) (hx : Passes CX X E)
    (I : Inv X pins σ H s) (r : Vals vs us) (rz : Vals zs ws) (l1 : vs.length = n) (l2 : zs.length = ks.length) (h : sp (gV vs zs) H Q E) : wpAny (model X.prog X.w) X.A (call (.ref f) us (ks.zip ws)) (EP X pins σ Q) X.xe s := by
  have r2 := hb.rel r rz
  refine wpAny_call (codeAny_mono (F.run X.A X.stack s H ⟨us, ks.zip ws⟩ (g us ws) (gV vs zs) Q E hr hgd I.env0 (hb.to s us ws I.kIn (r.length.symm.trans l1) (rz.length.symm.trans l2)) r2 h) fun r s' hq => ?_)
  cases r with
  | error e => exact hx pins σ H s e s' I hq
  | ok fl =>
    cases fl with
    | ret u => exact I.after hq
    | next => exact False.elim hq
    | brk => exact False.elim hq
    | cont => exact False.elim hq
def tCallG (sp : Sp) (E : XK) (t : TA) : TE := fun σ H Q => t σ H fun vs H1 => sp vs H1 Q E
theorem pe_callG (F : FnG X.prog X.w X.K X.mg X.base CX k f fd ps sp) (hr : Room k X.A) (hgd : X.A.guards = some []) (hg : Gl X x) (hm : X.mg x = some (.ref f)) (hk : PySem.W.keepIn X.K (.ref f) = true) (hb : Binds X.K fd ps []) (hx : Passes CX X E)
    (ha : PA X (e :: es) t) (hdb : (x == ("__debug__" : Str)) = false) (he : starEach (e :: es) X.env = (false, eval e X.env) :: starEach es X.env) (hpl : (backTo pos (starEach es X.env)).any (·.1) = false) :
    PE X (.Call (.Name x p) (e :: es) [] pos) (tCallG sp E t) := by
  refine ⟨fun pins s σ H Q I h => ?_⟩
  refine wpAny_Call_Name_kw (ld_glob I hg hm ?_ hdb)
  refine PySem.W.callWith_K (h₀ := X.base) I.ok.mod.kin hk (thn (ha.run pos pins s σ H _ I h) fun us s1 ⟨vs, H1, I1, r, q⟩ => ⟨I1.kIn, ?_⟩) he hpl
  exact run_fnG F hr hgd hb hx I1 r q
theorem pe_callG0 (F : FnG X.prog X.w X.K X.mg X.base CX k f fd ps sp) (hr : Room k X.A) (hgd : X.A.guards = some []) (hg : Gl X x) (hm : X.mg x = some (.ref f)) (hk : PySem.W.keepIn X.K (.ref f) = true) (hb : Binds X.K fd ps []) (hx : Passes CX X E)
    (hdb : (x == ("__debug__" : Str)) = false) : PE X (.Call (.Name x p) [] [] pos) (tCallG sp E tNil) := by
  refine ⟨fun pins s σ H Q I h => ?_⟩
  refine wpAny_Call_Name_kw (ld_glob I hg hm ?_ hdb)
  exact PySem.W.callWith_K0 I.kIn hk (run_fnG (us := []) F hr hgd hb hx I .nil h)
end
/-- the law's def, called as the row calls it: from a heap in which the script alone may be tracked -/
theorem law_callG {P : Program} {w : World} {K : PySem.W.Frag} {mg mb : Str → Option Value} {CX : CXT} {k : Nat} {fa a : Addr} {fd : FuncData} {x : Str} {sp : Sp} {s₁ : Shared} {vs : List Value} {ns : List Int}
    (KX : K.In s₁.heap) (hns : s₁.heap.Ns mainGlobals mg) (hb : s₁.heap.Ns builtinsNs mb) (hbb : ∀ x : Str, x ≠ "__name__" → mb x = bootBuiltins x) (hlim : s₁.heap.NoLimit) (hg : s₁.gens = #[])
    (ha : s₁.heap.get? a = some { cls := .type "list", data := .seq vs.toArray }) (hi : IntsAre vs ns) (hl : ns.length ≤ sizeLine) (hr : Room k callerA)
    (F : ∀ base : Heap, K.In base → base.Ns mainGlobals mg → FnG P w K mg base CX k fa fd [x] sp) (hbind : ∀ (s : Shared) (u : Value), BindsTo s fd ⟨[u], []⟩ [(x, u)])
    (hsp : ∀ H : Hp, Only H → SqL K H a (ns.map V.int) → sp [.ref a] H (fun v _ => v = .bl true) fun _ _ _ => False)
    (hCX : ∀ H e s', CX [] H s₁ (fun _ _ _ => False) e s' → False) :
    codeAny (model P w) callerA (.call (.ref fa) ⟨[.ref a], []⟩) (fun r s' => r = .ok (.ret (.bool true)) ∧ OldK s₁.heap s'.heap ∧ s'.os = s₁.os ∧ AllBare s'.gens) s₁ := by
  have rv := vals_ints hi
  have lenV := hi.length
  have core : ∀ H : Hp, Only H → SqL K H a (ns.map V.int) → HOk P w H s₁.heap → (∀ b, H b ≠ none → b = a) → (H a ≠ none → K.lookup a = none) →
      codeAny (model P w) callerA (.call (.ref fa) ⟨[.ref a], []⟩) (fun r s' => r = .ok (.ret (.bool true)) ∧ OldK s₁.heap s'.heap ∧ s'.os = s₁.os ∧ AllBare s'.gens) s₁ := by
    intro H hO hS hok hA hK
    have old : ∀ {b : Addr} {o : Obj}, s₁.heap.get? b = some o → H b = none → (hidT s₁.heap H).get? b = some o := fun e n => hidT_get e n
    have notA : ∀ {b : Addr} {o : Obj} {es : Array DictEntry} {ep : Nat}, s₁.heap.get? b = some o → o.data = .dict es ep → H b = none := fun {b o es ep} e d => Classical.byContradiction fun q => by
      have e' : b = a := hA b q
      subst e'
      rw [ha] at e; cases e
      have d' : Data.seq vs.toArray _ = Data.dict es ep := d
      cases d'
    have nsK : ∀ {b : Addr} {m : Str → Option Value}, s₁.heap.Ns b m → (hidT s₁.heap H).Ns b m := fun {b m} ⟨o, es, ep, e, d, r⟩ => ⟨o, es, ep, old e (notA e d), d, r⟩
    have hKb : K.In (hidT s₁.heap H) := fun b o e => old (KX b o e) (Classical.byContradiction fun q => by
      have e' : b = a := hA b q
      subst e'
      rw [hK q] at e; cases e)
    have hM : Mod K mg (hidT s₁.heap H) := ⟨hKb, nsK hns, ⟨mb, nsK hb, hbb⟩, let ⟨mc, h1, h2⟩ := hlim; ⟨mc, nsK h1, h2⟩⟩
    have e0 : Env0 P w K mg (hidT s₁.heap H) callerA [] s₁ H := ⟨rfl, hM, fun b o e => of_hidT e, Nat.le_of_eq (hidT_size _ _), trivial, fun b hb => absurd (show b ∈ ([] : List Addr) from hb) (by simp), hok, .of_eq hg⟩
    refine codeAny_mono ((F _ hKb (nsK hns)).run callerA [] s₁ H ⟨[.ref a], []⟩ [.ref a] [.ref a] _ _ hr rfl e0 (hbind s₁ (.ref a)) (.cons rfl .nil) (hsp H hO hS)) fun r s' h => ?_
    cases r with
    | error e => exact (hCX H e s' h).elim
    | ok fl =>
      cases fl with
      | next => exact False.elim h
      | brk => exact False.elim h
      | cont => exact False.elim h
      | ret u =>
        obtain ⟨v, H', os, bare, un, hok', r', q⟩ := h
        have q' : v = .bl true := q
        subst q'
        obtain rfl : u = Value.bool true := r'
        refine ⟨rfl, OldK.of_keep fun b o e => ?_, os, bare⟩
        cases q : H b with
        | none => exact un.keep b o e q (by intro z; exact absurd (show b ∈ ([] : List Addr) from z) (by simp)) (by simp)
        | some u =>
          rcases hO b with z | ⟨ob, xs, z⟩
          · rw [q] at z; cases z
          · have z2 := un.frzs b ob _ z
            obtain ⟨e1, _⟩ := hok b _ z
            obtain ⟨e2, _⟩ := hok' b _ z2
            rw [e] at e1; cases e1
            exact e2
  cases hk : K.lookup a with
  | some o =>
    have e := KX a o hk
    rw [ha] at e
    cases e
    exact core (fun _ => none) (fun _ => .inl rfl) (.inr ⟨_, vs.toArray, _, hk, rfl, rfl, rfl, by rw [List.size_toArray, lenV]; exact hl, by simpa using rv⟩) (fun b u z => by have z' : (none : Option HO) = some u := z; cases z') (fun b z => absurd rfl z) fun z => absurd rfl z
  | none =>
    refine core (fun b => if b = a then some (.frz { cls := .type "list", data := .seq vs.toArray } (.lst (ns.map V.int))) else none) (fun b => ?_) (.inl (.inr ⟨{ cls := .type "list", data := .seq vs.toArray }, if_pos rfl⟩)) (fun b u z => ?_) (fun b z => ?_) fun _ => hk
    · by_cases hb : b = a
      · exact .inr ⟨_, _, if_pos hb⟩
      · exact .inl (if_neg hb)
    · by_cases hb : b = a
      · have z' := (if_pos hb).symm.trans z
        cases z'
        subst hb
        exact ⟨ha, by rw [List.length_map]; exact hl, vs, _, rv, ha⟩
      · have z' := (if_neg hb).symm.trans z
        cases z'
    · by_cases hb : b = a
      · exact hb
      · exact absurd (if_neg hb) z
theorem walk_ofG {l : PySem.W.OpenLaw} {n k : Nat} {q : Program} {loose : List Str} {XP : (Str → Option Value) → Heap → Prop} {YP : World → Heap → Prop} {d : DefRec} {CX : CXT} {x : Str}
    (hn : l.most = some n) (hn2 : n ≤ sizeLine) (hdf : d.params.defaults = []) (hr : Room k callerA)
    (F : ∀ (w : World) (mg : Str → Option Value) (fa : Addr) (h : Heap), YP w h → h.Ns mainGlobals mg → mg d.name = some (.ref fa) →
      ∃ (K : PySem.W.Frag) (fd : FuncData) (sp : Sp), K.In h ∧ (∀ (s : Shared) (u : Value), BindsTo s fd ⟨[u], []⟩ [(x, u)]) ∧
        (∀ (H : Hp) (a : Addr) (ns : List Int), ns.length ≤ n → Only H → SqL K H a (ns.map V.int) → sp [.ref a] H (fun v _ => v = .bl true) fun _ _ _ => False) ∧
        ∀ base : Heap, K.In base → base.Ns mainGlobals mg → FnG l.prog w K mg base CX k fa fd [x] sp)
    (hCX : ∀ (H : Hp) (s : Shared) (e : Value) (s' : Shared), CX [] H s (fun _ _ _ => False) e s' → False) :
    PySem.W.WalkO q loose XP YP l.row.toRowW d [] (fun f vs => PySem.call f vs) := by
  refine Att.attach_call hn hdf fun w s₀ s₁ mg mb fa o pm cd doc a vs ns G Y ho hd hcd hmg hobj hints hlen hg => ?_
  obtain ⟨K, fd, sp, KX, hb, hsp, hF⟩ := F w mg fa _ Y G.T.g hmg
  exact law_callG KX G.T.g G.T.b G.T.builtins G.T.nolimit hg hobj hints (Nat.le_trans hlen hn2) hr hF hb (fun H hO hS => hsp H a ns hlen hO hS) fun H e s' => hCX H s₁ e s'
end PD

set_option maxHeartbeats 4000000
/-! PD7: names, displays, subscripts, calls of built-ins and of defs. -/
namespace PD
open PySem PySem.Spec PyProof.Rows L2
/-- what a def with n parameters and the mirror m promises -/
def spD (c : Cn) (n : Nat) (m : List D → W D) : Sp := fun vs H Q E => ∃ P O ds q x, WOk c P O H ∧ RpA c P O H vs ds ∧ ds.length = n ∧ m ds q x ∧ Fin c E P O H q x Q
/-- the context fits what is known of the names -/
structure Cmp (c : Cn) (Γ : Gm) (E : XK) (X : Cx) : Prop where
  K : X.K = c.K
  mg : X.mg = c.mg
  N : X.N = Γ.N
  nd : X.N.Nodup
  sc : X.env.scope = Γ.sc
  calm : X.calm = true
  room : Room 0 X.A
  gd : X.A.guards = some []
  st : ∀ x, Γ.st x = true → Loc X.env.scope x ∧ (X.fn x = true ∨ X.env.scope.names.lookup x = some .local)
  free : ∀ x, Γ.free.contains x = true → X.mg x = none
  cst : ∀ x d, Γ.cst.lookup x = some d → ∃ v u, X.mg x = some u ∧ RelV v u ∧ ∀ P O H, Rp c P O H v d
  fns : ∀ x k n m, Γ.fns.lookup x = some (k, n, m) → ∃ f fd ps, X.mg x = some (.ref f) ∧ PySem.W.keepIn X.K (.ref f) = true ∧ Room k X.A ∧ Binds X.K fd ps [] ∧ ps.length = n ∧
    FnG X.prog X.w X.K X.mg X.base (L2.CX X.prog X.w) k f fd ps (spD c n m)
  tabs : ∀ T kvs, Γ.tabs.lookup T = some kvs → ∃ a es n, X.mg T = some (.ref a) ∧ KDict X.K X.w a es n ∧ (∀ z, ∃ r, PySem.W.nsIn X.K a z = some r ∧ r.isSome = (kvs.lookup z).isSome) ∧
    ∀ z d, kvs.lookup z = some d → ∃ u v, PySem.W.nsIn X.K a z = some (some u) ∧ RelV v u ∧ ∀ P O H, Rp c P O H v d
  kws : ∀ x n ks ord, ordOf Γ x n ks = some ord → ∀ k np m, Γ.fns.lookup x = some (k, np, m) → ∃ f fd ps, X.mg x = some (.ref f) ∧ PySem.W.keepIn X.K (.ref f) = true ∧ Room k X.A ∧ KBn X.K fd ps n ks (permL ord) (permL ord) ∧
    FnG X.prog X.w X.K X.mg X.base (L2.CX X.prog X.w) k f fd ps (spD c np m)
  pass : Passes (L2.CX X.prog X.w) X E
section
variable {c : Cn} {X : Cx} {P O : Addr → Prop} {H : Hp} {v w : V} {Γ : Gm} {E : XK} {σ : L2.St} {ρ : En} {Q : VK}
theorem slotOf_get {N : List Str} {x : Str} {i : Nat} (h : slotOf N x = some i) : N[i]? = some x := by
  obtain ⟨h1, h2, _⟩ := List.findIdx?_eq_some_iff_getElem.mp h
  rw [List.getElem?_eq_getElem h1]
  exact congrArg some (of_decide_eq_true h2)
theorem badName_no {x : Str} (h : badName x = false) : (x == ("__debug__" : Str)) = false ∧ (x == ("__classdict__" : Str)) = false ∧ x ≠ "__name__" := by
  unfold badName at h
  obtain ⟨h1, h2⟩ := Bool.or_eq_false_iff.mp h
  obtain ⟨h2, h3⟩ := Bool.or_eq_false_iff.mp h2
  exact ⟨beq_eq_false_iff_ne.mpr (of_decide_eq_false h1), beq_eq_false_iff_ne.mpr (of_decide_eq_false h2), of_decide_eq_false h3⟩
theorem pe_slotD {x : Str} {pos : Pos} (C : Cmp c Γ E X) (hb : badName x = false) (hv : Vis X.env.scope x) : PE X (.Name x pos) (tD c E fun ρ => W.opt (slotOf Γ.N x) (getS ρ)) := by
  obtain ⟨b1, b2, b3⟩ := badName_no hb
  cases e : slotOf Γ.N x with
  | none => exact PE.badW fun _ _ _ h => h
  | some i =>
    refine PE.imp (pe_var (i := i) (by rw [C.N]; exact slotOf_get e) hv b1 b2) fun σ H Q h => ?_
    obtain ⟨P, O, ρ, q, y, env, hg, fin⟩ := h
    have hg : getS ρ i q y := hg
    unfold getS at hg
    cases e2 : ρ[i]? with
    | none => rw [e2] at hg; exact hg.elim
    | some o =>
      rw [e2] at hg
      cases o with
      | none => exact hg.elim
      | some d =>
        obtain ⟨v, h1, h2⟩ := env.at_ i d e2
        exact ⟨v, h1, fin.here env.ok h2 hg⟩
theorem pe_nameD {x : Str} {pos : Pos} (C : Cmp c Γ E X) : PE X (.Name x pos) (tD c E (evName Γ x)) := by
  unfold evName
  cases hb : badName x with
  | true => exact PE.bad
  | false =>
    obtain ⟨b1, b2, b3⟩ := badName_no hb
    cases e : Γ.sc.names.lookup x with
    | none => exact PE.bad
    | some k =>
      have e' : X.env.scope.names.lookup x = some k := by rw [C.sc]; exact e
      cases k with
      | «local» => exact pe_slotD C hb (.inl e')
      | cell => exact pe_slotD C hb (.inr (.inl e'))
      | free => exact pe_slotD C hb (.inr (.inr e'))
      | globalExplicit => exact PE.bad
      | globalImplicit =>
        have hg : Gl X x := e'
        cases e1 : Γ.cst.lookup x with
        | some d =>
          obtain ⟨v, u, h1, h2, h3⟩ := C.cst x d e1
          refine PE.imp (pe_glob hg h1 h2 b1) fun σ H Q h => ?_
          obtain ⟨P, O, ρ, q, y, env, hq, fin⟩ := h
          exact fin.here env.ok (h3 P O H) hq
        | none =>
          cases e2 : Γ.fns.lookup x with
          | none => exact PE.bad
          | some t =>
            obtain ⟨k, n, m⟩ := t
            obtain ⟨f, fd, ps, h1, _⟩ := C.fns x k n m e2
            refine PE.imp (pe_glob (v := .ref f) hg h1 rfl b1) fun σ H Q h => ?_
            obtain ⟨P, O, ρ, q, y, env, hq, fin⟩ := h
            exact fin.here env.ok (.fn (by rw [← C.mg]; exact h1)) hq
theorem pe_ret {e : Expr} {v : V} {d : D} (h : PE X e (tC v)) (r : ∀ P O H, Rp c P O H v d) : PE X e (tD c E fun _ => W.ret d) := PE.imp h fun σ H Q q => by
  obtain ⟨P, O, ρ, q, y, env, hq, fin⟩ := q
  exact fin.here env.ok (r P O H) hq
/-! ### arguments, displays -/
theorem star_of {e : Expr} {es : List Expr} {env : Env} (h : isStar e = false) : starEach (e :: es) env = (false, eval e env) :: starEach es env := by
  cases e <;> first | rfl | exact nomatch h
theorem pa_consD {e : Expr} {es : List Expr} {g : En → W D} {gs : En → W (List D)} (hs : isStar e = false) (he : PE X e (tD c E g)) (hr : PA X es (tDA c E gs)) :
    PA X (e :: es) (tDA c E fun ρ => W.bind (g ρ) fun d => W.bind (gs ρ) fun ds => W.ret (d :: ds)) := PA.imp (pa_cons he hr (star_of hs)) fun σ H Q h => by
  obtain ⟨P, O, ρ, q, y, env, hg, k, ex⟩ := h
  refine ⟨P, O, ρ, _, y, env, hg, fun P1 H1 u d l1 r1 h1 => ?_, ex⟩
  refine ⟨P1, O, ρ, _, y, env.le l1, h1, fun P2 H2 us ds l2 r2 h2 => ?_, ExcOk.le ex l1⟩
  exact k P2 H2 _ _ (l1.trans l2) (.cons (r1.le l2 (env.le l1).ok.pk) r2) h2
theorem pa_nilD : PA X [] (tDA c E fun _ => W.ret []) := PA.imp pa_nil fun σ H Q h => by
  obtain ⟨P, O, ρ, q, y, env, hg, k, ex⟩ := h
  exact k P H [] [] (.refl env.ok.pk) .nil hg
theorem PA.badW {es : List Expr} {g : En → W (List D)} (h : ∀ ρ q x, ¬ g ρ q x) : PA X es (tDA c E g) := ⟨fun pos pins s σ H Q I q => by
  obtain ⟨_, _, _, _, _, _, k, _⟩ := q
  exact (h _ _ _ k).elim⟩
theorem pa_argsD {ev : Expr → En → W D} (hE : ∀ e, PE X e (tD c E (ev e))) : ∀ es : List Expr, PA X es (tDA c E (evArgs ev es))
  | [] => pa_nilD
  | e :: es => by
    cases hs : isStar e with
    | true =>
      have e1 : evArgs ev (e :: es) = fun _ => W.bad := funext fun ρ => by
        unfold evArgs
        rw [hs]
      rw [e1]
      exact PA.badW fun _ _ _ h => h
    | false =>
      have e1 : evArgs ev (e :: es) = fun ρ => W.bind (ev e ρ) fun d => W.bind (evArgs ev es ρ) fun ds => W.ret (d :: ds) := funext fun ρ => by
        conv => lhs; unfold evArgs
        rw [hs]
      rw [e1]
      exact pa_consD hs (hE e) (pa_argsD hE es)
theorem nostar_of {env : Env} {pos : Pos} : ∀ {es : List Expr}, es.any isStar = false → (backTo pos (starEach es env)).any (·.1) = false
  | [], _ => rfl
  | e :: es, h => by
    obtain ⟨h2, h3⟩ := Bool.or_eq_false_iff.mp (show (isStar e || es.any isStar) = false from h)
    rw [star_of h2]
    show (false || (backTo pos (starEach es env)).any (·.1)) = false
    rw [nostar_of h3]
    rfl
theorem pa_starD (hK : X.K = c.K) {e : Expr} {es : List Expr} {p : Pos} {g : En → W D} {gs : En → W (List D)} (he : PE X e (tD c E g)) (hr : PA X es (tDA c E gs)) :
    PA X (.Starred e p :: es) (tDA c E fun ρ => W.bind (g ρ) fun d => W.bind (itemsOf d) fun xs => W.bind (gs ρ) fun ds => W.ret (xs ++ ds)) := PA.imp (StX.pa_star he hr) fun σ H Q h => by
  obtain ⟨P, O, ρ, q, y, env, hg, k, ex⟩ := h
  refine ⟨P, O, ρ, _, y, env, hg, fun P1 H1 u d l1 r1 h1 => ?_, ex⟩
  have go : ∀ xs us, RpA c P1 O H1 us xs → gs ρ (fun ds => q (xs ++ ds)) y → tDA c E gs σ H1 fun vs H2 => Q (us ++ vs) H2 := fun xs us ru hh =>
    ⟨P1, O, ρ, _, y, env.le l1, hh, fun P2 H2 ws ds l2 r2 h2 => k P2 H2 _ _ (l1.trans l2) ((ru.le l2 (env.le l1).ok.pk).append r2) h2, ExcOk.le ex l1⟩
  have h1 : W.bind (itemsOf d) (fun xs => W.bind (gs ρ) fun ds => W.ret (xs ++ ds)) q y := h1
  cases d with
  | list ds =>
    obtain ⟨a, us, rfl, _, _, ha, ru⟩ := rp_lst r1
    exact ⟨a, us, rfl, .inr (.inl ha), go ds us ru h1⟩
  | tuple ds =>
    obtain ⟨a, us, rfl, ha, ru⟩ := rp_tup r1
    exact ⟨a, us, rfl, .inl (by rw [hK]; exact ha), go ds us ru h1⟩
  | _ => exact h1.elim
theorem evItems_cons {ev : Expr → En → W D} {e : Expr} {es : List Expr} {ρ : En} (h : isStar e = false) : evItems ev (e :: es) ρ = W.bind (ev e ρ) fun d => W.bind (evItems ev es ρ) fun ds => W.ret (d :: ds) := by
  cases e <;> first | rfl | exact nomatch h
theorem pa_itemsD (hK : X.K = c.K) {ev : Expr → En → W D} (hE : ∀ e, PE X e (tD c E (ev e))) : ∀ es : List Expr, PA X es (tDA c E (evItems ev es))
  | [] => pa_nilD
  | e :: es => by
    cases hs : isStar e with
    | true =>
      cases e with
      | Starred a p => exact pa_starD hK (hE a) (pa_itemsD hK hE es)
      | _ => cases hs
    | false =>
      have e1 : evItems ev (e :: es) = fun ρ => W.bind (ev e ρ) fun d => W.bind (evItems ev es ρ) fun ds => W.ret (d :: ds) := funext fun ρ => evItems_cons hs
      rw [e1]
      exact pa_consD hs (hE e) (pa_itemsD hK hE es)
theorem pe_tupD {es : List Expr} {k : Nat} {pos : Pos} {gs : En → W (List D)} (h : PA X es (tDA c E gs)) : PE X (.Tuple es k pos) (tD c E fun ρ => W.bind (gs ρ) fun ds => W.need (sizeOk ds) (W.ret (.tuple ds))) := PE.imp (pe_tup h) fun σ H Q h => by
  obtain ⟨P, O, ρ, q, y, env, hg, fin⟩ := h
  refine ⟨P, O, ρ, _, y, env, hg, fun P1 H1 us ds l1 r1 h1 => ⟨by rw [r1.length]; exact h1.1, fun p hp => ?_⟩, fin.exc⟩
  obtain ⟨l, r⟩ := new_tup (env.le l1).ok r1 hp
  exact fin.val _ _ _ _ (l1.trans l) r h1.2
theorem pe_lstD {es : List Expr} {pos : Pos} {gs : En → W (List D)} (h : PA X es (tDA c E gs)) : PE X (.List es pos) (tD c E fun ρ => W.bind (gs ρ) fun ds => W.need (sizeOk ds) (W.ret (.list ds))) := PE.imp (pe_lst h) fun σ H Q h => by
  obtain ⟨P, O, ρ, q, y, env, hg, fin⟩ := h
  refine ⟨P, O, ρ, _, y, env, hg, fun P1 H1 us ds l1 r1 h1 => ⟨by rw [r1.length]; exact h1.1, fun p hp => ?_⟩, fin.exc⟩
  obtain ⟨l, r⟩ := new_lst (env.le l1).ok r1 hp
  exact fin.val _ _ _ _ (l1.trans l) r h1.2
/-! ### subscripts -/
theorem plainIx_of {b : Expr} (h : isSlice b = false) : PlainIx b := fun o i => by
  cases b <;> first | rfl | exact nomatch h
theorem atI_rp {vs : List V} {ds : List D} {i : Int} {d : D} (r : RpA c P O H vs ds) (h : atI ds i = some d) : ∃ v, atI vs i = some v ∧ Rp c P O H v d := by
  unfold atI at h ⊢
  rw [r.length]
  cases e : ixN ds.length i with
  | none => rw [e] at h; cases h
  | some j =>
    rw [e] at h
    exact r.get h
def rIxD (c : Cn) : R2 := rD c dIx
theorem ix_D (hK : X.K = c.K) : IxR X (rIxD c) := by
  intro value slice pins s σ H x y v u Q I rx ry h hs
  refine ix_seq value slice pins s σ H x y v u Q I rx ry ?_ hs
  obtain ⟨P, O, a, b, q, z, ok, ra, rb, hf, k⟩ := h
  unfold dIx at hf
  split at hf
  · rename_i i
    obtain rfl := rp_int rb
    have hp : ∃ a, x = .ref a ∧ P a := by
      cases ra with
      | pool h => exact ⟨_, rfl, h⟩
    obtain ⟨a, rfl, hp⟩ := hp
    obtain ⟨x0, x1, x2, e, ⟨g1, g2⟩, g3⟩ := ok.pk a hp
    unfold poolIx at hf
    split at hf
    · exact .inl ⟨a, _, 0, _, rfl, rfl, .inl (.inl e), rfl, k P H _ _ (.refl ok.pk) (.int x0) (hf x0 g1 g2)⟩
    · exact .inl ⟨a, _, 1, _, rfl, rfl, .inl (.inl e), rfl, k P H _ _ (.refl ok.pk) (.int x1) (hf x1 g3)⟩
    · exact .inl ⟨a, _, 2, _, rfl, rfl, .inl (.inl e), rfl, k P H _ _ (.refl ok.pk) (.int x2) (hf x2)⟩
    · exact hf.elim
  · rename_i ds i
    obtain ⟨a, us, rfl, _, _, ha, ru⟩ := rp_lst ra
    obtain rfl := rp_int rb
    cases e : atI ds i with
    | none => rw [e] at hf; exact hf.elim
    | some d =>
      rw [e] at hf
      obtain ⟨v', h1, h2⟩ := atI_rp ru e
      exact .inl ⟨a, us, i, v', rfl, rfl, .inl ha, h1, k P H _ _ (.refl ok.pk) h2 hf⟩
  · rename_i ds i
    obtain ⟨a, us, rfl, ha, ru⟩ := rp_tup ra
    obtain rfl := rp_int rb
    cases e : atI ds i with
    | none => rw [e] at hf; exact hf.elim
    | some d =>
      rw [e] at hf
      obtain ⟨v', h1, h2⟩ := atI_rp ru e
      exact .inr (.inl ⟨a, us, i, v', rfl, rfl, by rw [hK]; exact ha, h1, k P H _ _ (.refl ok.pk) h2 hf⟩)
  · rename_i t i
    obtain rfl := rp_str ra
    obtain rfl := rp_int rb
    obtain ⟨h0, hf⟩ := hf
    cases e : atI t.cps.toList i with
    | none => rw [e] at hf; exact hf.elim
    | some d =>
      rw [e] at hf
      exact .inr (.inr ⟨t, i, d, rfl, rfl, h0, e, k P H _ _ (.refl ok.pk) (.str _) hf⟩)
  · exact hf.elim
theorem pe_ixD (hK : X.K = c.K) {a b : Expr} {ga gb : En → W D} {pos : Pos} (ha : PE X a (tD c E ga)) (hb : PE X b (tD c E gb)) (hs : isSlice b = false) :
    PE X (.Subscript a b pos) (tD c E fun ρ => W.bind (ga ρ) fun x => W.bind (gb ρ) fun y => dIx x y) :=
  PE.imp (pe_ix (ix_D hK) ha hb (plainIx_of hs)) fun σ H Q h => cmp_imp (f := dIx) h
theorem cut_rp {vs : List V} {ds : List D} (r : RpA c P O H vs ds) (lo hi : Option Int) : RpA c P O H (cutV vs lo hi) (cutD ds lo hi) := by
  unfold cutV cutD
  rw [r.length]
  exact (r.drop _).take _
theorem cut_whole {ds : List D} {lo hi : Option Int} (h : HT.sIx ds.length 0 lo = 0 ∧ HT.sIx ds.length ds.length hi = ds.length) : cutD ds lo hi = ds := by
  unfold cutD
  rw [h.1, h.2, List.drop_zero, Nat.sub_zero, List.take_length]
def rSlD (c : Cn) : V → Option Int → Option Int → Hp → VK → Prop := fun v lo hi H Q => ∃ P O a q x, WOk c P O H ∧ Rp c P O H v a ∧ dSl a lo hi q x ∧ ∀ P' H' u d, Le c P H P' H' → Rp c P' O H' u d → q d → Q u H'
theorem sl_D (hK : X.K = c.K) : SlR X (rSlD c) := by
  intro pins s σ H x v vl vu lo hi sl Q I rx hs pl pu h
  refine (SlR.or sl_list (SlR.or sl_tupA sl_str)) pins s σ H x v vl vu lo hi sl Q I rx hs pl pu ?_
  obtain ⟨P, O, a, q, z, ok, ra, hf, k⟩ := h
  unfold dSl at hf
  split at hf
  · rename_i ds _ _
    obtain ⟨a, us, rfl, _, _, ha, ru⟩ := rp_lst ra
    refine .inl ⟨a, us, rfl, .inl ha, fun p hp => ?_⟩
    obtain ⟨l, r⟩ := new_lst ok (cut_rp ru lo hi) hp
    exact k _ _ _ _ l r hf
  · rename_i ds _ _
    obtain ⟨a, us, rfl, ha, ru⟩ := rp_tup ra
    refine .inr (.inl ⟨a, us, rfl, by rw [hK]; exact ha, fun e => ?_, fun _ p hp => ?_⟩)
    · rw [ru.length] at e
      rw [cut_whole e] at hf
      exact k P H _ _ (.refl ok.pk) (.tup ha ru) hf
    · obtain ⟨l, r⟩ := new_tup ok (cut_rp ru lo hi) hp
      exact k _ _ _ _ l r hf
  · obtain rfl := rp_str ra
    exact .inr (.inr ⟨_, rfl, hf.1, k P H _ _ (.refl ok.pk) (.str _) hf.2⟩)
  · exact hf.elim
def tDO (c : Cn) (E : XK) (g : En → W (Option Int)) : TO := fun σ H Q => ∃ P O ρ q x, EnvOk c P O H σ ρ ∧ g ρ q x ∧ (∀ P' H' o, Le c P H P' H' → q o → Q o H') ∧ ExcOk c E P O H x
theorem po_D {ev : Expr → En → W D} (hE : ∀ e, PE X e (tD c E (ev e))) : ∀ e : Option Expr, PO X e (tDO c E (evPart ev e))
  | none => ⟨fun pins s σ H Q I h => po_none.run pins s σ H Q I (by
      obtain ⟨P, O, ρ, q, x, env, hg, k, ex⟩ := h
      exact k P H none (.refl env.ok.pk) hg)⟩
  | some e => ⟨fun pins s σ H Q I h => (po_some (hE e)).run pins s σ H Q I (by
      obtain ⟨P, O, ρ, q, x, env, hg, k, ex⟩ := h
      refine ⟨P, O, ρ, _, x, env, hg, fun P1 H1 u d l1 r1 h1 => ?_, ex⟩
      have h1 : asI d (fun i => q (some i)) x := h1
      cases d with
      | int i => exact ⟨i, rp_int r1, k P1 H1 (some i) l1 h1⟩
      | _ => exact h1.elim)⟩
theorem pe_slD (hK : X.K = c.K) {a : Expr} {lo hi : Option Expr} {ga : En → W D} {gl gu : En → W (Option Int)} {p2 pos : Pos} (ha : PE X a (tD c E ga)) (hl : PO X lo (tDO c E gl)) (hu : PO X hi (tDO c E gu)) :
    PE X (.Subscript a (.Slice lo hi none p2) pos) (tD c E fun ρ => W.bind (ga ρ) fun d => W.bind (gl ρ) fun l => W.bind (gu ρ) fun u => dSl d l u) := PE.imp (pe_slice (sl_D hK) ha hl hu) fun σ H Q h => by
  obtain ⟨P, O, ρ, q, x, env, hg, fin⟩ := h
  refine ⟨P, O, ρ, _, x, env, hg, fun P1 H1 u d l1 r1 h1 => ?_, fin.exc⟩
  refine ⟨P1, O, ρ, _, x, env.le l1, h1, fun P2 H2 lo l2 h2 => ?_, (fin.le l1).exc⟩
  refine ⟨P2, O, ρ, _, x, (env.le l1).le l2, h2, fun P3 H3 hi l3 h3 => ?_, ((fin.le l1).le l2).exc⟩
  have e3 := ((env.le l1).le l2).le l3
  exact ⟨P3, O, d, q, x, e3.ok, (r1.le l2 (env.le l1).ok.pk).le l3 ((env.le l1).le l2).ok.pk, h3, (((fin.le l1).le l2).le l3).val⟩
end
end PD

set_option maxHeartbeats 4000000
/-! PD8: calls. -/
namespace PD
open PySem PySem.Spec PyProof.Rows L2
section
variable {c : Cn} {X : Cx} {P O : Addr → Prop} {H : Hp} {v w : V} {Γ : Gm} {E : XK} {σ : L2.St} {ρ : En} {Q : VK}
theorem call_imp {n : Nat} {m : List D → W D} {gs : En → W (List D)} (h : tD c E (fun ρ => W.bind (gs ρ) fun ds => W.need (ds.length = n) (m ds)) σ H Q) : tDA c E gs σ H fun vs H1 => spD c n m vs H1 Q E := by
  obtain ⟨P, O, ρ, q, x, env, hg, fin⟩ := h
  refine ⟨P, O, ρ, _, x, env, hg, fun P1 H1 us ds l1 r1 h1 => ?_, fin.exc⟩
  exact ⟨P1, O, ds, q, x, (env.le l1).ok, r1, h1.1, h1.2, fin.le l1⟩
theorem pe_defD (C : Cmp c Γ E X) {ev : Expr → En → W D} (hE : ∀ e, PE X e (tD c E (ev e))) {x : Str} {p pos : Pos} {args : List Expr} {k n : Nat} {m : List D → W D} (hg : Gl X x) (hf : Γ.fns.lookup x = some (k, n, m)) (hb : (x == ("__debug__" : Str)) = false) (hs : args.any isStar = false) :
    PE X (.Call (.Name x p) args [] pos) (tD c E fun ρ => W.bind (evArgs ev args ρ) fun ds => W.need (ds.length = n) (m ds)) := by
  obtain ⟨f, fd, ps, h1, h2, h3, h4, h5, F⟩ := C.fns x k n m hf
  cases args with
  | nil =>
    refine PE.imp (pe_callG0 (pos := pos) (p := p) F h3 C.gd hg h1 h2 h4 C.pass hb) fun σ H Q h => ?_
    obtain ⟨P, O, ρ, q, x, env, hg, fin⟩ := h
    exact ⟨P, O, [], q, x, env.ok, .nil, hg.1, hg.2, fin⟩
  | cons e es =>
    obtain ⟨s1, s2⟩ := Bool.or_eq_false_iff.mp (show (isStar e || es.any isStar) = false from hs)
    exact PE.imp (pe_callG (pos := pos) (p := p) F h3 C.gd hg h1 h2 h4 C.pass (pa_argsD hE (e :: es)) hb (star_of s1) (nostar_of s2)) fun σ H Q h => call_imp h
theorem blt_imp {f : List D → W D} {gs : En → W (List D)} (h : tD c E (fun ρ => W.bind (gs ρ) f) σ H Q) : tCB (rC c f) (tDA c E gs) σ H Q := by
  obtain ⟨P, O, ρ, q, x, env, hg, fin⟩ := h
  refine ⟨P, O, ρ, _, x, env, hg, fun P1 H1 us ds l1 r1 h1 => ?_, fin.exc⟩
  exact ⟨P1, O, ds, q, x, (env.le l1).ok, r1, h1, (fin.le l1).val⟩
section
variable {ev : Expr → En → W D} {e : Expr} {es : List Expr} {p pos : Pos} {f : List D → W D} {x : Str}
theorem pe_bfD (C : Cmp c Γ E X) (hE : ∀ e, PE X e (tD c E (ev e))) {id : String} (hc : CallR X (.builtin id) (rC c f)) (hg : Gl X x) (hm : X.mg x = none) (hv : bootBuiltins x = some (.builtin id)) (hb : badName x = false) (hs : (e :: es).any isStar = false) :
    PE X (.Call (.Name x p) (e :: es) [] pos) (tD c E fun ρ => W.bind (evArgs ev (e :: es) ρ) f) := by
  obtain ⟨s1, s2⟩ := Bool.or_eq_false_iff.mp (show (isStar e || es.any isStar) = false from hs)
  obtain ⟨b1, b2, b3⟩ := badName_no hb
  exact PE.imp (pe_callB (pos := pos) (p := p) hc hg hm hv (pa_argsD hE (e :: es)) b3 b1 (star_of s1) (nostar_of s2)) fun σ H Q h => blt_imp h
theorem pe_btD (C : Cmp c Γ E X) (hE : ∀ e, PE X e (tD c E (ev e))) {T : String} (hc : CallR X (.type T) (rC c f)) (hg : Gl X x) (hm : X.mg x = none) (hv : bootBuiltins x = some (.type T)) (hb : badName x = false) (hs : (e :: es).any isStar = false) :
    PE X (.Call (.Name x p) (e :: es) [] pos) (tD c E fun ρ => W.bind (evArgs ev (e :: es) ρ) f) := by
  obtain ⟨s1, s2⟩ := Bool.or_eq_false_iff.mp (show (isStar e || es.any isStar) = false from hs)
  obtain ⟨b1, b2, b3⟩ := badName_no hb
  exact PE.imp (pe_callTy (pos := pos) (p := p) hc hg hm hv (pa_argsD hE (e :: es)) b3 b1 (star_of s1) (nostar_of s2)) fun σ H Q h => blt_imp h
theorem cr_len' (hK : X.K = c.K) : CallR X (.builtin "len") (rC c dLen) := by
  have h := cr_len (c := c) (X := X)
  obtain ⟨K, mg, G⟩ := c
  have e : X.K = K := hK
  rw [e] at h
  exact h
theorem pe_bltD (C : Cmp c Γ E X) (hE : ∀ e, PE X e (tD c E (ev e))) (hd : dBlt x = some f) (hg : Gl X x) (hm : X.mg x = none) (hb : badName x = false) (hs : (e :: es).any isStar = false) :
    PE X (.Call (.Name x p) (e :: es) [] pos) (tD c E fun ρ => W.bind (evArgs ev (e :: es) ρ) f) := by
  unfold dBlt at hd
  split at hd
  · cases hd; rename_i h; subst h; exact pe_bfD C hE (cr_len' C.K) hg hm PySem.boot_len hb hs
  split at hd
  · cases hd; rename_i h; subst h; exact pe_bfD C hE (id := "abs") cr_abs hg hm (by decide +kernel) hb hs
  split at hd
  · cases hd; rename_i h; subst h; exact pe_btD C hE (T := "int") cr_int hg hm (by decide +kernel) hb hs
  split at hd
  · cases hd; rename_i h; subst h; exact pe_bfD C hE (id := "sum") (cr_sumD C.K C.calm) hg hm (by decide +kernel) hb hs
  split at hd
  · cases hd; rename_i h; subst h; exact pe_bfD C hE (id := "all") (cr_allD C.calm) hg hm (by decide +kernel) hb hs
  split at hd
  · cases hd; rename_i h; subst h; exact pe_bfD C hE (id := "any") (cr_anyD C.calm) hg hm (by decide +kernel) hb hs
  split at hd
  · cases hd; rename_i h; subst h; exact pe_btD C hE (T := "tuple") (cr_tupleD C.K) hg hm (by decide +kernel) hb hs
  split at hd
  · cases hd; rename_i h; subst h; exact pe_btD C hE (T := "list") (cr_listD C.K) hg hm (by decide +kernel) hb hs
  split at hd
  · cases hd; rename_i h; subst h; exact pe_bfD C hE (id := "max") (cr_maxD C.K (by have := C.room.un; omega) C.calm) hg hm (by decide +kernel) hb hs
  split at hd
  · cases hd; rename_i h; subst h; exact pe_bfD C hE (id := "min") (cr_minD C.calm) hg hm (by decide +kernel) hb hs
  have hu : X.A.units + 200 < cLine := by have := C.room.un; omega
  unfold dBlt2 at hd
  split at hd
  · cases hd; rename_i h; subst h; exact pe_bfD C hE (id := "sorted") (cr_sortedD C.K hu) hg hm (by decide +kernel) hb hs
  split at hd
  · cases hd; rename_i h; subst h; exact pe_bfD C hE (id := "repr") (cr_reprD C.K hu C.gd) hg hm (by decide +kernel) hb hs
  split at hd
  · cases hd; rename_i h; subst h; exact pe_bfD C hE (id := "divmod") cr_divmodD hg hm (by decide +kernel) hb hs
  · cases hd
/-! ### isinstance -/
theorem tyD_ok {v : V} {d : D} {t : String} (r : Rp c P O H v d) (h : tyD d = some t) (hK : X.K = c.K) : TyX X.K H v (.type t) := by
  cases r with
  | non => cases h; exact .base .non
  | bl b => cases h; exact .base (.bl b)
  | int i => cases h; exact .base (.int i)
  | str x => cases h; exact .base (.str x)
  | lst h1 h2 h3 h4 =>
    cases h
    rcases h3 with h3 | ⟨o, h3⟩
    · exact .base (.lst h3)
    · exact .base (.frz h3)
  | tup h1 h2 =>
    cases h
    rcases h1 with (h1 | ⟨o, h1⟩) | h1
    · exact .base (.tup h1)
    · exact .fTuple h1
    · obtain ⟨o, its, n, hk, hcl, _⟩ := h1
      rw [hK]
      exact .kTuple hk hcl
  | pool _ => cases h
  | fn _ => cases h
  | emp h1 h2 h3 => cases h; exact .base (.dK h3)
theorem tyN_ok {n : Str} {T : String} (h : tyN n = some T) : bootBuiltins n = some (.type T) ∧ (T = "int" ∨ T = "bool" ∨ T = "tuple" ∨ T = "list" ∨ T = "str") := by
  unfold tyN at h
  split at h
  · cases h; rename_i e; subst e; exact ⟨by decide +kernel, by decide⟩
  split at h
  · cases h; rename_i e; subst e; exact ⟨by decide +kernel, by decide⟩
  split at h
  · cases h; rename_i e; subst e; exact ⟨by decide +kernel, by decide⟩
  split at h
  · cases h; rename_i e; subst e; exact ⟨by decide +kernel, by decide⟩
  split at h
  · cases h; rename_i e; subst e; exact ⟨by decide +kernel, by decide⟩
  · cases h
theorem tyD_in {d : D} {t : String} (h : tyD d = some t) : t = "NoneType" ∨ t = "bool" ∨ t = "int" ∨ t = "str" ∨ t = "list" ∨ t = "tuple" ∨ t = "dict" := by
  unfold tyD at h
  split at h <;> first | (cases h; done) | (cases h; decide)
theorem subT_ok {t T : String} (h : t = "NoneType" ∨ t = "bool" ∨ t = "int" ∨ t = "str" ∨ t = "list" ∨ t = "tuple" ∨ t = "dict") (h2 : T = "int" ∨ T = "bool" ∨ T = "tuple" ∨ T = "list" ∨ T = "str") : kitB t T = some (subT t T) := by
  rcases h with rfl | rfl | rfl | rfl | rfl | rfl | rfl <;> rcases h2 with rfl | rfl | rfl | rfl | rfl <;> decide +kernel
theorem isT_ok {n : Str} {d : D} {b : Bool} (h : isT n d = some b) : ∃ t T, tyD d = some t ∧ bootBuiltins n = some (.type T) ∧ kitB t T = some b := by
  unfold isT at h
  cases e : tyD d with
  | none => rw [e] at h; cases h
  | some t =>
    cases e2 : tyN n with
    | none => rw [e, e2] at h; cases h
    | some T =>
      rw [e, e2] at h
      cases h
      obtain ⟨h1, h2⟩ := tyN_ok e2
      exact ⟨t, T, rfl, h1, subT_ok (tyD_in e) h2⟩
theorem pe_isiD (C : Cmp c Γ E X) {a : Expr} {g : En → W D} {t : Str} {q p pos : Pos} (ha : PE X a (tD c E g)) (hg : Gl X "isinstance") (hm : X.mg "isinstance" = none) (ht : Gl X t) (hmt : X.mg t = none) (hs : isStar a = false) (hT : (tyN t).isSome = true) (hb : badName t = false) :
    PE X (.Call (.Name "isinstance" p) [a, .Name t q] [] pos) (tD c E fun ρ => W.bind (g ρ) fun d => W.opt (isT t d) fun b => W.ret (.bool b)) := by
  obtain ⟨T, e⟩ := Option.isSome_iff_exists.mp hT
  obtain ⟨b1, b2, b3⟩ := badName_no hb
  have hv := (tyN_ok e).1
  have ht2 : PE X (.Name t q) (tC (.ty T)) := pe_bltn ht hmt hv rfl b3 b1
  refine PE.imp (pe_callB (pos := pos) (p := p) call_isi hg hm (by decide +kernel) (pa_cons ha (pa_cons ht2 pa_nil) (star_of hs)) (by decide) (by decide) (star_of hs) rfl) fun σ H Q h => ?_
  obtain ⟨P, O, ρ, q, x, env, hg', fin⟩ := h
  refine ⟨P, O, ρ, _, x, env, hg', fun P1 H1 u d l1 r1 h1 => ?_, fin.exc⟩
  have h1 : W.opt (isT t d) (fun b => W.ret (.bool b)) q x := h1
  cases e3 : isT t d with
  | none => rw [e3] at h1; exact h1.elim
  | some b =>
    rw [e3] at h1
    obtain ⟨t', T', f1, f2, f3⟩ := isT_ok e3
    rw [hv] at f2
    cases f2
    exact ⟨u, .ty T, .type t', .type T, b, rfl, .ty T, tyD_ok r1 f1 C.K, kit_ty f3, fin.val _ _ _ _ l1 (.bl b) h1⟩
theorem evIsi_ok (C : Cmp c Γ E X) {ev : Expr → En → W D} (hE : ∀ e, PE X e (tD c E (ev e))) {p pos : Pos} {args : List Expr} (hg : Gl X "isinstance") (hm : X.mg "isinstance" = none) (hs : args.any isStar = false) : PE X (.Call (.Name "isinstance" p) args [] pos) (tD c E (evIsi Γ ev args)) := by
  unfold evIsi
  split
  · rename_i a t q
    cases e4 : Γ.free.contains t && (decide (Γ.sc.names.lookup t = some .globalImplicit) && ((tyN t).isSome && !badName t)) with
    | false => exact PE.bad
    | true =>
      obtain ⟨f1, f2⟩ := Bool.and_eq_true_iff.mp e4
      obtain ⟨f2, f3⟩ := Bool.and_eq_true_iff.mp f2
      obtain ⟨f3, f4⟩ := Bool.and_eq_true_iff.mp f3
      have f2 := of_decide_eq_true f2
      obtain ⟨s1, s2⟩ := Bool.or_eq_false_iff.mp (show (isStar a || [Expr.Name t q].any isStar) = false from hs)
      exact pe_isiD C (hE a) hg hm (by show X.env.scope.names.lookup t = _; rw [C.sc]; exact f2) (C.free t f1) s1 f3 (by simpa using f4)
  · exact PE.bad
theorem setArg_ok (C : Cmp c Γ E X) {args : List Expr} {e : Expr} {g : En → W D} {p pos : Pos} (h : setArg Γ args = some e) (he : PE X e (tD c E g)) (hg : Gl X "sorted") (hm : X.mg "sorted" = none) :
    PE X (.Call (.Name "sorted" p) args [] pos) (tD c E fun ρ => W.bind (g ρ) dSortSet) := by
  unfold setArg at h
  split at h
  · rename_i f fp e' kp
    cases e4 : decide (f = "set") && (decide (Γ.sc.names.lookup f = some .globalImplicit) && (Γ.free.contains f && !isStar e')) with
    | false => rw [e4] at h; cases h
    | true =>
      rw [e4] at h
      cases h
      obtain ⟨f1, f2⟩ := Bool.and_eq_true_iff.mp e4
      obtain ⟨f2, f3⟩ := Bool.and_eq_true_iff.mp f2
      obtain ⟨f3, f4⟩ := Bool.and_eq_true_iff.mp f3
      have f1 := of_decide_eq_true f1
      subst f1
      refine PE.imp (pe_sortSet hg hm (by show X.env.scope.names.lookup _ = _; rw [C.sc]; exact of_decide_eq_true f2) (C.free _ f3) he C.calm (star_of (by simpa using f4))) fun σ H Q h => bind1 h fun P O a q x v H2 ok r hf fin => ?_
      unfold dSortSet at hf
      split at hf
      · rename_i ds
        obtain ⟨a, us, rfl, _, _, ha, ru⟩ := rp_lst r
        cases e5 : intsOf ds with
        | none => rw [e5] at hf; exact hf.elim
        | some ns =>
          rw [e5] at hf
          obtain rfl := intsOf_eq e5
          obtain rfl := ru.ints
          refine ⟨a, ns, rfl, .inl ha, hf.1, fun ms p h1 h2 hp => ?_⟩
          obtain ⟨l, r'⟩ := new_lst ok (RpA.ofInts ms) hp
          exact fin.val P _ _ _ l r' (hf.2 ms h1 h2)
      · exact hf.elim
  · cases h
end
end
end PD

set_option maxHeartbeats 4000000
/-! PDr: x[::-1] of lists and tuples; tuple(range()), list(range()). -/
namespace HT
open PySem PyProof.Rows
section
variable {prog : Program} {w : World} {A : Around} {E : Value → Shared → Prop} {s : Shared}
theorem places_rev (n : Nat) : Builtin.Slice.slicePlaces ((n : Int) - 1) (-1) (-1) = n := by
  unfold Builtin.Slice.slicePlaces
  have h1 : ¬ ((-1 : Int) > 0) := by omega
  rw [if_neg h1]
  by_cases h : (n : Int) - 1 > -1
  · rw [if_pos h, show (-(-1) : Int) = 1 by decide, Int.ediv_one]
    omega
  · rw [if_neg h]
    omega
theorem sliceApplied_rev {sl : Addr} {vs : Value} {n : Nat} {Q : Int × Int × Nat → Shared → Prop} (hs : s.heap.IsSliceOf sl .none .none vs) (ps : IsPart vs (some (-1)))
    (h : Q ((n : Int) - 1, -1, n) s) : wpAny (model prog w) A (Builtin.Slice.sliceApplied (.ref sl) (pure (n : Int))) Q E s := by
  obtain ⟨os, hos, hcs, hds⟩ := id hs
  unfold Builtin.Slice.sliceApplied Builtin.Slice.sliceFields
  refine wpAny_bind (wpAny_bind (wpAny_field hos hds (x := .none) rfl (wpAny_bind (wpAny_field hos hds (x := .none) rfl (wpAny_bind (wpAny_field hos hds (x := vs) rfl (wpAny_pure ?_)))))))
  refine wpAny_bind (slicePart_ ps ?_)
  show wpAny _ _ (if ((-1 : Int) == 0) = true then _ else _) _ _ s
  rw [if_neg (by decide)]
  refine wpAny_bind (slicePart_none (wpAny_bind (slicePart_none (wpAny_bind (wpAny_pure ?_)))))
  show wpAny _ _ (pure ((n : Int) - 1, (-1 : Int), Builtin.Slice.slicePlaces ((n : Int) - 1) (-1) (-1))) _ _ s
  rw [places_rev]
  exact wpAny_pure h
theorem fm_congr {α β : Type} {f g : α → Option β} : ∀ l : List α, (∀ m ∈ l, f m = g m) → l.filterMap f = l.filterMap g
  | [], _ => rfl
  | a :: l, h => by rw [List.filterMap_cons, List.filterMap_cons, h a (List.mem_cons_self ..), fm_congr l fun m hm => h m (List.mem_cons_of_mem _ hm)]
theorem pick_rev (xs : Array Value) : ((List.range xs.size).filterMap fun (m : Nat) => xs[(((xs.size : Int) - 1) + (m : Int) * (-1)).toNat]?).toArray = xs.toList.reverse.toArray := by
  have e : ((List.range xs.size).filterMap fun (m : Nat) => xs[(((xs.size : Int) - 1) + (m : Int) * (-1)).toNat]?) = ((List.range xs.size).map fun k => xs.size - 1 - k).filterMap (xs[·]?) := by
    rw [List.filterMap_map]
    refine fm_congr _ fun m hm => ?_
    have := List.mem_range.mp hm
    have e : (((xs.size : Int) - 1) + (m : Int) * (-1)).toNat = xs.size - 1 - m := by omega
    rw [e]
    rfl
  rw [e, PySem.W.krv_range, List.filterMap_reverse, PySem.W.krv_all]
theorem getItem_tuple_rev {t sl : Addr} {items : Array Value} {vs : Value} {Q : Value → Shared → Prop} (ht : IsTup s.heap t items) (hs : s.heap.IsSliceOf sl .none .none vs) (ps : IsPart vs (some (-1)))
    (h : Q (.ref s.heap.objs.size) { s with heap := s.heap.push { cls := .type "tuple", data := .seq items.toList.reverse.toArray } })
    (hsz : items.size ≤ sizeLine) : wpAny (model prog w) A (getItem (.ref t) (.ref sl)) Q E s := by
  have htake : sizeOk (.seq items.toList.reverse.toArray) := by
    show items.toList.reverse.toArray.size ≤ sizeLine
    rw [List.size_toArray, List.length_reverse, Array.length_toList]
    exact hsz
  obtain ⟨os, hos, hcs, hds⟩ := id hs
  have hTs : s.TypeIs (.ref sl) "slice" := ⟨os, hos, hcs⟩
  unfold getItem
  try with_reducible refine wpAny_holding ?_
  first | refine wpAny_bind (wpAny_pure ?_) | skip
  refine wpAny_bind (wpAny_sequenceKey ht.typeIs (by decide) ?_)
  refine wpAny_bind (wpAny_callSpecial?_slot (name := Str.ofString "__getitem__") ht.typeIs PyProof.Rows.slot_tuple_getitem
    (wpAny_call_entry PyProof.Rows.slot_tuple_getitem ht.typeIs entry_tuple_getitem ?_ (args_tuple_getitem _ _)))
  show wpAny _ _ (Builtin.Tuple.tupleItemsOf (.ref t) >>= _) _ _ s
  refine wpAny_bind (tupleItemsOf_ ht ?_)
  refine wpAny_bind (wpAny_typeOf hTs ?_)
  rw [if_pos (by decide)]
  refine wpAny_bind (sliceApplied_rev hs ps ?_)
  have hno : ¬ (((((items.size : Int) - 1)) == 0 && (-1 : Int) == 1 && items.size == items.size) = true) := by
    intro q
    rw [Bool.and_eq_true, Bool.and_eq_true] at q
    exact absurd q.1.2 (by decide)
  show wpAny _ _ (if ((((items.size : Int) - 1)) == 0 && (-1 : Int) == 1 && items.size == items.size) = true then _ else _) _ _ s
  rw [if_neg hno, pick_rev]
  first
    | exact wpAny_bind (m := Builtin.Tuple.tupleExact _) (wpAny_newObj_type (wpAny_pure ⟨_, rfl, wpAny_pure h⟩) htake)
    | exact wpAny_bind (m := Builtin.Tuple.tupleExact _) (wpAny_newObj_type (wpAny_bind (wpAny_pure (wpAny_pure ⟨_, rfl, wpAny_pure h⟩))) htake)
    | exact wpAny_bind (wpAny_bind (m := Builtin.Tuple.tupleExact _) (wpAny_newObj_type (wpAny_pure (wpAny_pure ⟨_, rfl, wpAny_pure h⟩)) htake))
    | exact wpAny_bind (wpAny_bind (m := Builtin.Tuple.tupleExact _) (wpAny_newObj_type (wpAny_pure ⟨_, rfl, wpAny_pure h⟩) htake))
end
end HT
namespace PD
open PySem PySem.Spec PyProof.Rows L2
def tRev (K : PySem.W.Frag) (te : TE) : TE := fun σ H Q => te σ H fun x H1 => (∃ a xs, x = .ref a ∧ SqL K H1 a xs ∧ ∀ p, H1 p = none → Q (.ref p) (upd H1 p (.lst xs.reverse))) ∨
  ∃ a xs, x = .ref a ∧ SqT K H1 a xs ∧ ∀ p, H1 p = none → Q (.ref p) (upd H1 p (.tup xs.reverse))
theorem pe_rev {X : Cx} {e : Expr} {te : TE} {k : Nat} {p1 p2 p3 pos : Pos} (he : PE X e te) : PE X (.Subscript e (.Slice none none (some (.UnaryOp .USub (.Constant (.int 1) k p1) p2)) p3) pos) (tRev X.K te) := by
  refine ⟨fun pins s σ H Q I h => ?_⟩
  refine Subscript_ (thn (he.run pins s σ H _ I h) fun v s1 ⟨x, H1, I1, r1, q1⟩ => ?_)
  have hst : PO X (some (.UnaryOp .USub (.Constant (.int 1) k p1) p2)) (tPart (tUn (rU fun i => .int (-i)) (tC (.int 1)))) := po_some (pe_un un_neg pe_int)
  refine wpAny_Slice ?_
  rw [evalPart_none]
  refine wpAny_pure ?_
  refine wpAny_pure ?_
  refine thn (hst.run pins s1 σ H1 (fun o H4 => o = some (-1) ∧ H4 = H1) I1 ⟨1, rfl, -1, rfl, rfl, rfl⟩) fun vs s4 ⟨o, H4, I4, ps, eo, e4⟩ => ?_
  subst eo e4
  have I5 : Inv X pins σ H4 { s4 with heap := s4.heap.push { cls := .type "slice", data := .fields #[.none, .none, vs] } } := I4.kept (t' := s4.toks) fun b ob q => Heap.get?_push_of_some _ q
  rcases q1 with ⟨a, xs, ex, hx, q⟩ | ⟨a, xs, ex, hx, q⟩
  · subst ex
    cases r1
    obtain ⟨its, r, ht, hz⟩ := I5.list hx
    have hlen := r.length
    show wpAny (model X.prog X.w) X.A (subscriptTail e (.Slice none none (some (.UnaryOp .USub (.Constant (.int 1) k p1) p2)) p3) (.ref a) (.ref s4.heap.objs.size)) (EP X pins σ Q) X.xe { s4 with heap := s4.heap.push { cls := .type "slice", data := .fields #[.none, .none, vs] } }
    refine tail_any (ops := [.ref a, .ref s4.heap.objs.size]) ht.isList.typeIs (PySem.slot_list_getitem.lookup) ?_ (by with_unfolding_all rfl)
    refine wpAny_getItem_list_slice ht.isList (Heap.IsSliceOf.new _ .none .none vs) .none .none ps (by decide) ?_ (by rw [List.size_toArray]; omega)
    rw [PySem.W.krv_pick]
    refine ⟨.ref _, _, I5.laid (t' := s4.toks) (o := .lst xs.reverse) (fun b ob q => Heap.get?_push_of_some _ q) (Nat.le_refl _) ?_, rfl, q _ (I5.hok.fresh (Nat.le_refl _))⟩
    exact ⟨by rw [List.length_reverse]; exact hz, _, 0, r.reverse, Heap.get?_push_size _ rfl⟩
  · subst ex
    cases r1
    obtain ⟨its, r, ht, hz⟩ := I5.tuple hx
    have hlen := r.length
    show wpAny (model X.prog X.w) X.A (subscriptTail e (.Slice none none (some (.UnaryOp .USub (.Constant (.int 1) k p1) p2)) p3) (.ref a) (.ref s4.heap.objs.size)) (EP X pins σ Q) X.xe { s4 with heap := s4.heap.push { cls := .type "slice", data := .fields #[.none, .none, vs] } }
    refine tail_any (ops := [.ref a, .ref s4.heap.objs.size]) ht.typeIs (PyProof.Rows.slot_tuple_getitem.lookup) ?_ (by with_unfolding_all rfl)
    refine HT.getItem_tuple_rev ht (Heap.IsSliceOf.new _ .none .none vs) ps ?_ (by rw [List.size_toArray]; omega)
    refine ⟨.ref _, _, I5.laid (t' := s4.toks) (o := .tup xs.reverse) (fun b ob q => Heap.get?_push_of_some _ q) (Nat.le_refl _) ?_, rfl, q _ (I5.hok.fresh (Nat.le_refl _))⟩
    exact ⟨by rw [List.length_reverse]; exact hz, _, r.reverse, IsTup.new _ _⟩
section
variable {c : Cn} {X : Cx} {P O : Addr → Prop} {H : Hp} {Γ : Gm} {E : XK}
theorem RpA.reverse : ∀ {vs : List V} {ds : List D}, RpA c P O H vs ds → RpA c P O H vs.reverse ds.reverse
  | _, _, .nil => .nil
  | _, _, .cons h t => by
    rw [List.reverse_cons, List.reverse_cons]
    exact (RpA.reverse t).append (.cons h .nil)
theorem pe_revD (hK : X.K = c.K) {e : Expr} {g : En → W D} {k : Nat} {p1 p2 p3 pos : Pos} (he : PE X e (tD c E g)) : PE X (.Subscript e (.Slice none none (some (.UnaryOp .USub (.Constant (.int 1) k p1) p2)) p3) pos) (tD c E fun ρ => W.bind (g ρ) dRev) :=
  PE.imp (pe_rev he) fun σ H Q h => bind1 h fun P O a q x v H2 ok r hf fin => by
    unfold dRev at hf
    split at hf
    · obtain ⟨a, us, rfl, _, _, ha, ru⟩ := rp_lst r
      refine .inl ⟨a, us, rfl, .inl ha, fun p hp => ?_⟩
      obtain ⟨l, r'⟩ := new_lst ok ru.reverse hp
      exact fin.val P _ _ _ l r' hf
    · obtain ⟨a, us, rfl, ha, ru⟩ := rp_tup r
      refine .inr ⟨a, us, rfl, by rw [hK]; exact ha, fun p hp => ?_⟩
      obtain ⟨l, r'⟩ := new_tup ok ru.reverse hp
      exact fin.val P _ _ _ l r' hf
    · exact hf.elim
theorem rpA_range {i j : Int} : RpA c P O H (rgV i j) (rangeD i j) := by
  have : ∀ l : List Nat, RpA c P O H (l.map fun k => V.int (i + (k : Nat))) (l.map fun k => PyData.int (i + (k : Nat))) := fun l => by
    induction l with
    | nil => exact .nil
    | cons n l ih => exact .cons (.int _) ih
  exact this _
theorem dRg_ok {x : Str} {Pp O : Addr → Prop} {H : Hp} {i j : Int} {q : D → Prop} {Q : VK} (ok : WOk c Pp O H) (k : ∀ P' H' v d, Le c Pp H P' H' → Rp c P' O H' v d → q d → Q v H') (h : q (mkRg x (rangeD i j))) {p : Addr} (hp : H p = none) :
    (x = "tuple" → Q (.ref p) (upd H p (.tup (rgV i j)))) ∧ (x = "list" → Q (.ref p) (upd H p (.lst (rgV i j)))) := by
  refine ⟨fun e => ?_, fun e => ?_⟩
  · subst e
    obtain ⟨l, r⟩ := new_tup ok (rpA_range (i := i) (j := j)) hp
    exact k Pp _ _ _ l r h
  · subst e
    obtain ⟨l, r⟩ := new_lst ok (rpA_range (i := i) (j := j)) hp
    exact k Pp _ _ _ l r h
theorem pe_rgD (C : Cmp c Γ E X) {ev : Expr → En → W D} (hE : ∀ e, PE X e (tD c E (ev e))) {x : Str} {p pos : Pos} {args as : List Expr} (h : rgArg Γ x args = some as) (hg : Gl X x) (hm : X.mg x = none) :
    PE X (.Call (.Name x p) args [] pos) (tD c E fun ρ => W.bind (evArgs ev as ρ) (dRg x)) := by
  unfold rgArg at h
  split at h
  · rename_i f fp as' kp
    split at h
    · rename_i h1
      cases h
      rename_i a
      simp only [Bool.and_eq_true, Bool.or_eq_true, decide_eq_true_eq, Bool.not_eq_true'] at h1
      obtain ⟨hx, rfl, h3, h4⟩ := h1
      have hgf : Gl X "range" ∧ X.mg "range" = none := by
        obtain ⟨h5, h6⟩ := Bool.and_eq_true_iff.mp h3
        exact ⟨by show X.env.scope.names.lookup _ = _; rw [C.sc]; exact of_decide_eq_true h5, C.free _ h6⟩
      have hs : isStar a = false := (Bool.or_eq_false_iff.mp (show (isStar a || ([] : List Expr).any isStar) = false from h4)).1
      have imp : ∀ {σ H Q}, tD c E (fun ρ => W.bind (evArgs ev [a] ρ) (dRg x)) σ H Q → tRg1 (tD c E (ev a)) σ H fun i j H1 => RgOk i j ∧ ∀ p, H1 p = none → (x = "tuple" → Q (.ref p) (upd H1 p (.tup (rgV i j)))) ∧ (x = "list" → Q (.ref p) (upd H1 p (.lst (rgV i j)))) := fun {σ H Q} h => by
        obtain ⟨P, O, ρ, q, y, env, hg, fin⟩ := h
        refine ⟨P, O, ρ, fun d => dRg x [d] q y, y, env, ?_, fun P1 H1 u d l1 r1 h1 => ?_, fin.exc⟩
        · unfold evArgs at hg
          rw [hs] at hg
          exact hg
        · cases d with
          | int j =>
            obtain rfl := rp_int r1
            exact ⟨j, rfl, h1.1, fun p hp => dRg_ok (env.le l1).ok (fin.le l1).val h1.2 hp⟩
          | _ => exact h1.elim
      rcases hx with rfl | rfl
      · exact PE.imp (pe_tupRg C.calm hg hm (prg_1 hgf.1 hgf.2 (hE a) (star_of hs)) rfl) fun σ H Q h => by
          obtain ⟨P, O, ρ, q, y, env, hg, k, ex⟩ := imp h
          exact ⟨P, O, ρ, q, y, env, hg, fun P1 H1 u d l r h => by
            obtain ⟨i, e1, e2, e3⟩ := k P1 H1 u d l r h
            exact ⟨i, e1, e2, fun p hp => (e3 p hp).1 rfl⟩, ex⟩
      · exact PE.imp (pe_listRg C.calm hg hm (prg_1 hgf.1 hgf.2 (hE a) (star_of hs)) rfl) fun σ H Q h => by
          obtain ⟨P, O, ρ, q, y, env, hg, k, ex⟩ := imp h
          exact ⟨P, O, ρ, q, y, env, hg, fun P1 H1 u d l r h => by
            obtain ⟨i, e1, e2, e3⟩ := k P1 H1 u d l r h
            exact ⟨i, e1, e2, fun p hp => (e3 p hp).2 rfl⟩, ex⟩
    · cases h
  · cases h
end
end PD

set_option maxHeartbeats 4000000
/-! PD8b: calls of what is at hand. -/
namespace PD
open PySem PySem.Spec PyProof.Rows L2
section
variable {c : Cn} {X : Cx} {P O : Addr → Prop} {H : Hp} {v w : V} {Γ : Gm} {E : XK} {σ : L2.St} {ρ : En} {Q : VK}
theorem pe_callD (C : Cmp c Γ E X) {ev : Expr → En → W D} (hE : ∀ e, PE X e (tD c E (ev e))) {x : Str} {p pos : Pos} {args : List Expr} : PE X (.Call (.Name x p) args [] pos) (tD c E (evCall Γ ev x args)) := by
  unfold evCall
  cases hb : badName x || args.any isStar with
  | true => exact PE.bad
  | false =>
    obtain ⟨hb1, hs⟩ := Bool.or_eq_false_iff.mp hb
    obtain ⟨b1, b2, b3⟩ := badName_no hb1
    cases e : Γ.sc.names.lookup x with
    | none => exact PE.bad
    | some k =>
      cases k with
      | globalImplicit =>
        have hg : Gl X x := by
          show X.env.scope.names.lookup x = some .globalImplicit
          rw [C.sc]
          exact e
        cases e1 : Γ.fns.lookup x with
        | some t =>
          obtain ⟨k, n, m⟩ := t
          exact pe_defD C hE hg e1 b1 hs
        | none =>
          cases e2 : Γ.free.contains x with
          | false => exact PE.bad
          | true =>
            have hm := C.free x e2
            cases e3 : decide (x = "isinstance") with
            | true =>
              have ex : x = "isinstance" := of_decide_eq_true e3
              subst ex
              exact evIsi_ok C hE hg hm hs
            | false =>
              have plain : PE X (.Call (.Name x p) args [] pos) (tD c E (evBlt ev x args)) := by
                unfold evBlt
                cases e4 : dBlt x with
                | none => exact PE.badW fun _ _ _ h => h
                | some f =>
                  cases args with
                  | nil => exact PE.badW fun _ _ _ h => h
                  | cons a as => exact pe_bltD C hE e4 hg hm hb1 hs
              cases e7 : rgArg Γ x args with
              | some as => exact pe_rgD C hE e7 hg hm
              | none =>
              cases e5 : decide (x = "sorted") with
              | false =>
                cases e6 : setArg Γ args with
                | none => exact plain
                | some e => exact plain
              | true =>
                have ex : x = "sorted" := of_decide_eq_true e5
                subst ex
                cases e6 : setArg Γ args with
                | none => exact plain
                | some e => exact setArg_ok C e6 (hE e) hg hm
      | _ => exact PE.bad
end
end PD

set_option maxHeartbeats 4000000
/-! PD9: targets, what is walked. -/
namespace PD
open PySem PySem.Spec PyProof.Rows L2
theorem wipe_setIn : ∀ {vs : List Nat} {σ : L2.St} {i : Nat} {x : Option V}, wipe (σ.set i x) vs = if i ∈ vs then wipe σ vs else (wipe σ vs).set i x
  | [], σ, i, x => by simp [wipe]
  | v :: vs, σ, i, x => by
    unfold wipe
    rw [wipe_setIn (vs := vs)]
    by_cases h : i = v
    · subst h
      simp only [List.mem_cons, true_or, if_true]
      split
      · rfl
      · rw [List.set_set]
    · by_cases h2 : i ∈ vs
      · simp [h2]
      · rw [if_neg h2, if_neg (by simp [h, h2]), List.set_comm _ _ h]
def Tch (Γ : Gm) (σ σ' : L2.St) : Prop := ∀ vs : List Nat, (∀ x i, Γ.st x = true → slotOf Γ.N x = some i → i ∈ vs) → wipe σ' vs = wipe σ vs
def TchN (Γ : Gm) (L : List Str) (σ σ' : L2.St) : Prop := ∀ vs : List Nat, (∀ x ∈ L, ∀ i, slotOf Γ.N x = some i → i ∈ vs) → wipe σ' vs = wipe σ vs
def tDG (c : Cn) (Γ : Gm) (n m : Nat) (tg : Expr) : TG := fun v σ H Q => ∃ P O ρ d ρ', EnvOk c P O H σ ρ ∧ Rp c P O H v d ∧ bindTg Γ n tg d ρ = some ρ' ∧ ∀ σ', EnvOk c P O H σ' ρ' → Tch Γ σ σ' → TchN Γ (tgNames m tg) σ σ' → Q σ' H
def tDGs (c : Cn) (Γ : Gm) (n m : Nat) (ts : List Expr) : TGs := fun vs σ H Q => ∃ P O ρ ds ρ', EnvOk c P O H σ ρ ∧ RpA c P O H vs ds ∧ bindTg.go Γ n ts ds ρ = some ρ' ∧ ∀ σ', EnvOk c P O H σ' ρ' → Tch Γ σ σ' → TchN Γ (ts.flatMap (tgNames m)) σ σ' → Q σ' H
section
variable {c : Cn} {X : Cx} {P O : Addr → Prop} {H : Hp} {v w : V} {Γ : Gm} {E : XK} {σ : L2.St} {ρ : En} {Q : VK}
theorem EnvOk.set (e : EnvOk c P O H σ ρ) {i : Nat} {v : V} {d : D} (r : Rp c P O H v d) : EnvOk c P O H (σ.set i (some v)) (ρ.set i (some d)) := ⟨e.ok, by rw [List.length_set, List.length_set]; exact e.len, fun j d' h => by
  by_cases hij : i = j
  · subst hij
    by_cases hl : i < ρ.length
    · rw [List.getElem?_set_self hl] at h
      cases h
      exact ⟨v, List.getElem?_set_self (by rw [e.len]; exact hl), r⟩
    · rw [List.getElem?_eq_none (by rw [List.length_set]; omega)] at h
      cases h
  · rw [List.getElem?_set_ne hij] at h ⊢
    exact e.at_ j d' h⟩
theorem Tch.refl : Tch Γ σ σ := fun _ _ => rfl
theorem Tch.trans {σ1 σ2 σ3 : L2.St} (a : Tch Γ σ1 σ2) (b : Tch Γ σ2 σ3) : Tch Γ σ1 σ3 := fun vs h => (b vs h).trans (a vs h)
theorem PG.imp {tg : Expr} {t t' : TG} (h : PG X tg t) (i : ∀ v σ H Q, t' v σ H Q → t v σ H Q) : PG X tg t' := ⟨fun pins s σ H v u Q I r q => h.run pins s σ H v u Q I r (i _ _ _ _ q)⟩
theorem PGs.imp {ts : List Expr} {t t' : TGs} (h : PGs X ts t) (i : ∀ v σ H Q, t' v σ H Q → t v σ H Q) : PGs X ts t' := ⟨fun pins s σ H v u Q I r q => h.run pins s σ H v u Q I r (i _ _ _ _ q)⟩
theorem PG.badW {tg : Expr} {t : TG} (h : ∀ v σ H Q, ¬ t v σ H Q) : PG X tg t := ⟨fun pins s σ H v u Q I r q => (h _ _ _ _ q).elim⟩
theorem PGs.badW {ts : List Expr} {t : TGs} (h : ∀ v σ H Q, ¬ t v σ H Q) : PGs X ts t := ⟨fun pins s σ H v u Q I r q => (h _ _ _ _ q).elim⟩
theorem tg_len {es : List Expr} {env : Env} : (assignEach es env).length = es.length := by
  induction es with
  | nil => rfl
  | cons e es ih => cases e <;> (show _ + 1 = _ + 1; rw [ih])
theorem bindTg_star {n : Nat} {e : Expr} {d : D} (h : isStar e = true) : bindTg Γ n e d ρ = none := by
  cases e <;> first | (cases h; done) | (cases n <;> cases d <;> simp [bindTg])
theorem tg_nostar {es : List Expr} {env : Env} (h : es.any isStar = false) : (assignEach es env).findIdx? (·.1) = none := by
  induction es with
  | nil => rfl
  | cons e es ih =>
    obtain ⟨h1, h2⟩ := Bool.or_eq_false_iff.mp (show (isStar e || es.any isStar) = false from h)
    have hd : ∃ t, assignEach (e :: es) env = (false, t) :: assignEach es env := by
      cases e <;> first | exact ⟨_, rfl⟩ | cases h1
    obtain ⟨t, ht⟩ := hd
    rw [ht, List.findIdx?_cons]
    simp only [Bool.false_eq_true, if_false]
    rw [ih h2]
    rfl
theorem tg_cons {e : Expr} {es : List Expr} {env : Env} (h : isStar e = false) : (assignEach (e :: es) env).map (·.2) = assign e env :: (assignEach es env).map (·.2) := by
  cases e <;> first | rfl | cases h
theorem go_nostar : ∀ {n : Nat} {es : List Expr} {ds : List D} {ρ ρ' : En}, bindTg.go Γ n es ds ρ = some ρ' → es.any isStar = false
  | _, [], [], _, _, _ => rfl
  | 0, [], _ :: _, _, _, h => by simp [bindTg.go] at h
  | _ + 1, [], _ :: _, _, _, h => by simp [bindTg.go] at h
  | 0, _ :: _, _, _, _, h => by simp [bindTg.go] at h
  | n + 1, _ :: _, [], _, _, h => by simp [bindTg.go] at h
  | n + 1, e :: es, d :: ds, ρ, ρ', h => by
    unfold bindTg.go at h
    obtain ⟨ρ1, h1, h2⟩ := Option.bind_eq_some_iff.mp h
    show (isStar e || es.any isStar) = false
    rw [go_nostar h2, Bool.or_false]
    cases hs : isStar e with
    | false => rfl
    | true => rw [bindTg_star hs] at h1; cases h1
mutual
theorem pg_D (C : Cmp c Γ E X) : ∀ (n m : Nat) (tg : Expr), n ≤ m → PG X tg (tDG c Γ n m tg)
  | 0, m, tg, _ => PG.badW fun v σ H Q h => by
    obtain ⟨P, O, ρ, d, ρ', env, r, hb, k⟩ := h
    simp [bindTg] at hb
  | n + 1, m, tg, hm => by
    obtain ⟨m, rfl⟩ : ∃ j, m = j + 1 := ⟨m - 1, by omega⟩
    have hm : n ≤ m := by omega
    by_cases hN : ∃ x p, tg = .Name x p
    · obtain ⟨x, p, rfl⟩ := hN
      cases hst : Γ.st x with
      | false =>
        refine PG.badW fun v σ H Q h => ?_
        obtain ⟨P, O, ρ, d, ρ', env, r, hb, k⟩ := h
        simp [bindTg, hst] at hb
      | true =>
        cases hi : slotOf Γ.N x with
        | none =>
          refine PG.badW fun v σ H Q h => ?_
          obtain ⟨P, O, ρ, d, ρ', env, r, hb, k⟩ := h
          simp [bindTg, hst, hi] at hb
        | some i =>
          obtain ⟨hl, hf⟩ := C.st x hst
          refine PG.imp (pg_name (i := i) C.nd (by rw [C.N]; exact slotOf_get hi) hl hf) fun v σ H Q h => ?_
          obtain ⟨P, O, ρ, d, ρ', env, r, hb, k⟩ := h
          have e : ρ' = ρ.set i (some d) := by
            simp [bindTg, hst, hi] at hb
            exact hb.symm
          subst e
          exact k _ (env.set r) (fun vs hv => by
            rw [wipe_setIn, if_pos (hv x i hst hi)]) (fun vs hv => by
            rw [wipe_setIn, if_pos (hv x (List.mem_singleton.mpr rfl) i hi)])
    · by_cases hT : ∃ es k p, tg = .Tuple es k p
      · obtain ⟨es, k, p, rfl⟩ := hT
        cases hs : es.any isStar with
        | true =>
          refine PG.badW fun v σ H Q h => ?_
          obtain ⟨P, O, ρ, d, ρ', env, r, hb, k⟩ := h
          cases d with
          | tuple ds =>
            unfold bindTg at hb
            split at hb
            · rw [go_nostar hb] at hs; cases hs
            · cases hb
          | _ => simp [bindTg] at hb
        | false =>
          refine PG.imp (pg_tup (n := es.length) C.calm (pgs_D C n m es hm) tg_len (tg_nostar hs)) fun v σ H Q h => ?_
          obtain ⟨P, O, ρ, d, ρ', env, r, hb, k⟩ := h
          cases d with
          | tuple ds =>
            unfold bindTg at hb
            split at hb
            · rename_i hl
              obtain ⟨a, us, rfl, ha, ru⟩ := rp_tup r
              exact ⟨a, us, rfl, by rw [C.K]; exact ha, by rw [ru.length, hl], P, O, ρ, ds, ρ', env, ru, hb, k⟩
            · cases hb
          | _ => simp [bindTg] at hb
      · refine PG.badW fun v σ H Q h => ?_
        obtain ⟨P, O, ρ, d, ρ', env, r, hb, k⟩ := h
        cases tg <;> first | exact hN ⟨_, _, rfl⟩ | exact hT ⟨_, _, _, rfl⟩ | simp [bindTg] at hb
theorem pgs_D (C : Cmp c Γ E X) : ∀ (n m : Nat) (ts : List Expr), n ≤ m → PGs X ts (tDGs c Γ n m ts)
  | n, m, [], _ => PGs.imp pgs_nil fun vs σ H Q h => by
    obtain ⟨P, O, ρ, ds, ρ', env, r, hb, k⟩ := h
    cases ds with
    | nil =>
      cases r
      have e : ρ' = ρ := by
        cases n <;> (simp [bindTg.go] at hb; exact hb.symm)
      subst e
      exact ⟨rfl, k _ env .refl fun _ _ => rfl⟩
    | cons d ds => cases n <;> simp [bindTg.go] at hb
  | 0, m, t :: ts, _ => PGs.badW fun v σ H Q h => by
    obtain ⟨P, O, ρ, d, ρ', env, r, hb, k⟩ := h
    simp [bindTg.go] at hb
  | n + 1, m, t :: ts, hm => by
    cases hs : isStar t with
    | true =>
      refine PGs.badW fun v σ H Q h => ?_
      obtain ⟨P, O, ρ, ds, ρ', env, r, hb, k⟩ := h
      have h2 := go_nostar hb
      rw [show (t :: ts).any isStar = (isStar t || ts.any isStar) from rfl, hs] at h2
      cases h2
    | false =>
      refine PGs.imp (pgs_cons (pg_D C n m t (by omega)) (pgs_D C n m ts (by omega)) (tg_cons hs)) fun vs σ H Q h => ?_
      obtain ⟨P, O, ρ, ds, ρ', env, r, hb, k⟩ := h
      cases r with
      | nil => simp [bindTg.go] at hb
      | cons r1 r2 =>
        unfold bindTg.go at hb
        obtain ⟨ρ1, h1, h2⟩ := Option.bind_eq_some_iff.mp hb
        exact ⟨_, _, rfl, P, O, ρ, _, ρ1, env, r1, h1, fun σ1 env1 t1 u1 => ⟨P, O, ρ1, _, ρ', env1, r2, h2, fun σ2 env2 t2 u2 => k σ2 env2 (t1.trans t2) fun vs hv =>
          (u2 vs fun x hx => hv x (List.mem_flatMap.mpr (by obtain ⟨e, he, hx⟩ := List.mem_flatMap.mp hx; exact ⟨e, List.mem_cons_of_mem _ he, hx⟩))).trans (u1 vs fun x hx => hv x (List.mem_flatMap.mpr ⟨t, List.mem_cons_self .., hx⟩))⟩⟩
end
end
mutual
theorem bindK_eq {α : Type} {Γ : Gm} {b : α} : ∀ (n : Nat) (tg : Expr) (d : D) (ρ : En) (k : En → α), bindK Γ b n tg d ρ k = match bindTg Γ n tg d ρ with
    | some ρ' => k ρ'
    | none => b
  | 0, tg, d, ρ, k => by
    unfold bindK
    cases tg <;> cases d <;> simp [bindTg]
  | n + 1, tg, d, ρ, k => by
    unfold bindK
    cases tg with
    | Name x p =>
      cases hs : Γ.st x with
      | false => simp [bindTg, hs]
      | true =>
        cases hi : slotOf Γ.N x with
        | none => simp [bindTg, hs, hi]
        | some i => simp [bindTg, hs, hi]
    | Tuple es kk p =>
      cases d with
      | tuple ds =>
        by_cases hl : ds.length = es.length
        · have e := goK_eq (Γ := Γ) (b := b) n es 0 ds ρ k (by omega)
          simp only [tupOf, hl, if_true, bindTg]
          rw [e, List.drop_zero]
        · simp only [tupOf, hl, if_false, bindTg]
          rw [if_neg (fun z => hl z.symm)]
      | _ => simp [tupOf, bindTg]
    | _ => cases d <;> simp [bindTg]
theorem goK_eq {α : Type} {Γ : Gm} {b : α} : ∀ (n : Nat) (es : List Expr) (i : Nat) (ds : List D) (ρ : En) (k : En → α), ds.length = i + es.length → goK Γ b n es i ds ρ k = match bindTg.go Γ n es (ds.drop i) ρ with
    | some ρ' => k ρ'
    | none => b
  | n, [], i, ds, ρ, k, h => by
    have e : ds.drop i = [] := List.drop_eq_nil_of_le (by simpa using Nat.le_of_eq h)
    rw [e]
    cases n <;> simp [goK, bindTg.go]
  | 0, t :: es, i, ds, ρ, k, h => by
    cases e : ds.drop i <;> simp [goK, bindTg.go]
  | n + 1, t :: es, i, ds, ρ, k, h => by
    have hlt : i < ds.length := by rw [h, List.length_cons]; omega
    have e : ds.drop i = ds.getD i .none :: ds.drop (i + 1) := by
      rw [List.drop_eq_getElem_cons hlt, List.getD_eq_getElem?_getD, List.getElem?_eq_getElem hlt]
      rfl
    rw [e]
    unfold goK bindTg.go
    rw [bindK_eq n t _ ρ]
    cases hb : bindTg Γ n t (ds.getD i .none) ρ with
    | none => rfl
    | some ρ1 =>
      show goK Γ b n es (i + 1) ds ρ1 k = _
      rw [goK_eq n es (i + 1) ds ρ1 k (by rw [h, List.length_cons]; omega)]
      rfl
end
end PD

set_option maxHeartbeats 4000000
/-! PD10: enumerate of a tuple; what is walked, as data. -/
namespace PySem
open PySem PySem.Calls
set_option maxHeartbeats 1000000 in
theorem meets_enumerate_newB1 {v : Value} {o : Obj} {H : Heap → Prop} (B : Begins v o H) :
    Meets (Builtin.«enumerate.__new__» ⟨[.type "enumerate", v], []⟩) (fun _ R s => H s.heap ∧
      R (.ok (.ret (.ref (s.heap.push o).objs.size))) { s with heap := (s.heap.push o).push { cls := .type "enumerate", data := .fields #[.none, .bool false, .ref s.heap.objs.size, rawInt 0, .none, .none] } }) :=
  .of_wp fun prog w A R s h => by
    obtain ⟨hp, g, d, tk, os⟩ := s; obtain ⟨h1, h⟩ := h
    have hsub := sub_enumerate
    have q1 : ∀ {A' : Around} {E : Value → Shared → Prop} {Q : Value → Shared → Prop}, Q (.ref hp.objs.size) ⟨hp.push o, g, d, tk, os⟩ → wpAny (model prog w) A' (pyIter v) Q E ⟨hp, g, d, tk, os⟩ :=
      fun q => B.iter prog w _ _ ⟨hp, g, d, tk, os⟩ _ h1 q
    wp_walk using q1
    refine wpAny_stack_any fun st => wpAny_pure ?_
    split
    · rename_i c _ _ _ _ _
      cases (c == Value.type "enumerate")
      · wp_walk using q1
        exact ⟨_, rfl, h⟩
      · wp_walk using q1
        exact ⟨_, rfl, h⟩
    · wp_walk using q1
      exact ⟨_, rfl, h⟩
section
variable {prog : Program} {w : World} {A : Around} {E : Value → Shared → Prop} {s : Shared}
theorem enum_begins1 {v : Value} {o : Obj} {H : Heap → Prop} {Q : Value → Shared → Prop} (B : Begins v o H) (h1 : H s.heap)
    (h : ∀ h', IsEnum h' (s.heap.objs.size + 1) s.heap.objs.size 0 .none → h'.get? s.heap.objs.size = some o → h'.objs.size = s.heap.objs.size + 2 →
      (∀ b o, s.heap.get? b = some o → h'.get? b = some o) → Q (.ref (s.heap.objs.size + 1)) { s with heap := h' }) :
    wpAny (model prog w) A (call (.type "enumerate") [v]) Q E s := by
  refine callType_new F.called_enumerate (by decide) (F.typeCall_enumerate_1 _) (F.newCall_enumerate_1 _) (fun obj => F.args_object_init_2 obj _) F.entry_enumerate_new
    (meets_enumerate_newB1 B) ⟨h1, ?_⟩
  have hz : (s.heap.push o).objs.size = s.heap.objs.size + 1 := Heap.size_push ..
  show _ ∧ _
  rw [hz]
  have he : IsEnum ((s.heap.push o).push { cls := .type "enumerate", data := .fields #[.none, .bool false, .ref s.heap.objs.size, rawInt 0, .none, .none] }) (s.heap.objs.size + 1) s.heap.objs.size 0 .none := by
    have := Heap.get?_push_size (s.heap.push o) (o := { cls := .type "enumerate", data := .fields #[.none, .bool false, .ref s.heap.objs.size, rawInt 0, .none, .none] }) rfl
    rw [hz] at this; exact this
  refine ⟨⟨_, he, rfl⟩, h _ he (Heap.get?_push_of_some _ (Heap.get?_push_size _ B.free)) (by rw [Heap.size_push, hz]) fun b o x => Heap.get?_push_of_some _ (Heap.get?_push_of_some _ x)⟩
end
end PySem
namespace PD
open PySem PySem.Spec PyProof.Rows L2
/-- enumerate(tuple) -/
def IteT (K : PySem.W.Frag) (a : Addr) : It :=
  ⟨fun i H => ∃ (xs : List V) (x : V), SqT K H a xs ∧ xs[i]? = some x, fun i H v H' => ∃ T x, v = .ref T ∧ H T = none ∧ H' = upd H T (.tup [.int (i : Nat), x]) ∧ ∀ xs, SqT K H a xs → xs[i]? = some x, fun i H => ∃ xs : List V, SqT K H a xs ∧ xs.length = i⟩
theorem turn_enumT {P : Program} {w : World} {K : PySem.W.Frag} {elts : List Expr} {kk : Nat} {tpos : Pos} (a e it : Addr) :
    Turn P w K (.Tuple elts kk tpos) (IteT K a) [e, it] e (fun i h => (∃ old, IsEnum h e it ((i : Nat) : Int) old) ∧ h.IsTupleIter it a i ∧ e ≠ it ∧ a ≠ it ∧ a ≠ e) where
  mem := by simp
  obj := fun i h st b hb => by
    obtain ⟨⟨old, he⟩, ⟨o, ho, hc, hd⟩, _⟩ := st
    have e' : b = e ∨ b = it := by simpa using hb
    rcases e' with z | z
    · rw [z]; exact ⟨_, he, fun v q => nomatch q⟩
    · rw [z]; exact ⟨o, ho, fun v q => by rw [hd] at q; cases q⟩
  keep := fun i h h' st k => let ⟨⟨old, he⟩, hi, hne, h1, h2⟩ := st; ⟨⟨old, k e (by simp) _ he⟩, hi.at fun o q => k it (by simp) o q, hne, h1, h2⟩
  item := by
    intro X hP hw hK hc i pins s σ H E I hf st hg
    subst hP hw hK
    obtain ⟨⟨old, he⟩, hit, hne, hai, hae⟩ := st
    obtain ⟨xs, x, hq, hx⟩ := hg
    obtain ⟨its, rv, p, hz⟩ := I.tuple hq
    obtain ⟨u, hu, ru⟩ := rv.get hx
    have hel : e < s.heap.objs.size := Heap.lt_size he
    have hil : it < s.heap.objs.size := by obtain ⟨_, q, _⟩ := hit; exact Heap.lt_size q
    have D := Draws.tuple (prog := X.prog) (w := X.w) (A := X.A.in1) (I.ok.hd hc) it a hai its.toArray
    have hlen := rv.length
    have hil2 : i < its.toArray.size := by
      rw [List.size_toArray]
      exact (List.getElem?_eq_some_iff.mp hu).1
    refine wpAny_pyNext_enum_itemD D he ⟨hit, p⟩ hil2 hne (by simp [hne, Ne.symm hae]) fun x0 h' tk hP ho hst hT hsz hk => ?_
    have ex : x0 = u := by
      have q1 : its.toArray[i]? = some x0 := hP
      have q2 : its.toArray[i]? = some u := by simpa using hu
      rw [q1] at q2
      exact Option.some.inj q2
    subst ex
    have hit' := hst.1
    refine ⟨_, rfl, wpAny_letOwnedTupleGo_enum (s := { s with heap := h', toks := tk + 1 }) ho fun h'' he' sb => ?_⟩
    have hT2 : h''.get? s.heap.objs.size = some { cls := .type "tuple", data := .seq #[.int i tk, x0] } := (sb.2 _ (Nat.ne_of_gt hel)).trans hT
    have new : ObjOk X.prog X.w (upd H s.heap.objs.size (.tup [.int (i : Nat), x])) h'' s.heap.objs.size (.tup [.int (i : Nat), x]) :=
      ⟨by show 2 ≤ sizeLine; decide, [.int i tk, x0], .cons ⟨_, rfl⟩ (.cons ru .nil), ⟨_, hT2, rfl, _, rfl⟩⟩
    have I1 : Inv X pins σ (upd H s.heap.objs.size (.tup [.int (i : Nat), x])) { s with heap := h'', toks := tk + 1 } :=
      I.turnedNew (ch := [e, it]) (fun b ob hb q => (sb.2 b (fun z => hb (by simp [z]))).trans (hk b ob (fun z => hb (by simp [z])) (fun z => hb (by simp [z])) q)) hf (Nat.le_refl _) new
    refine ⟨.ref s.heap.objs.size, _, I1, rfl, ⟨_, x, rfl, I.hok.fresh (Nat.le_refl _), rfl, fun ys hy => by rw [I.tuple_inj hy hq]; exact hx⟩, ⟨⟨x0, ?_⟩, hit'.at fun o q => (sb.2 it (Ne.symm hne)).trans q, hne, hai, hae⟩, fun b hb => ?_⟩
    · have e1 : ((i + 1 : Nat) : Int) = (i : Int) + 1 := by omega
      rw [e1]; exact he'
    · have hb' : b < s.heap.objs.size := by
        have e' : b = e ∨ b = it := by simpa using hb
        rcases e' with z | z
        · rw [z]; exact hel
        · rw [z]; exact hil
      rw [upd_ne (Nat.ne_of_lt hb')]
      exact (hf b hb).1
  done := by
    intro X hP hw hK hc i pins s σ H E I hf st hg
    subst hP hw hK
    obtain ⟨⟨old, he⟩, hit, hne, hai, hae⟩ := st
    obtain ⟨xs, hq, hx⟩ := hg
    obtain ⟨its, rv, p, hz⟩ := I.tuple hq
    obtain ⟨f0, f1, f2, f3, f4, f5⟩ := hf it (by simp)
    have hl := rv.length
    have D := Draws.tuple (prog := X.prog) (w := X.w) (A := X.A.in1) (I.ok.hd hc) it a hai its.toArray
    have hi : i = its.toArray.size := by rw [List.size_toArray]; omega
    subst hi
    exact wpAny_pyNext_enum_endD D he ⟨hit, p⟩ fun h' eb => ⟨rfl, I.turned (t' := s.toks) (fun b o hb q => eb b o hb q) f0 f1 f3 f4 f5⟩
  self := fun A i s Q E st h => let ⟨⟨_, he⟩, _⟩ := st; wpAny_pyIter_enum he h
theorem walk_enumT {K : PySem.W.Frag} {a : Addr} {xs : List V} : Walk (IteT K a) xs.length (fun H => SqT K H a xs) (YPair (fun i => some (.int (i : Nat))) (fun i => xs[i]?)) := by
  refine ⟨fun i _ hi q => ⟨xs, xs[i], q, by simp [hi]⟩, fun _ q => ⟨xs, q, rfl⟩, fun i H v H' _ q y => ?_⟩
  obtain ⟨T, x, h1, h2, h3, h4⟩ := y
  exact ⟨T, .int (i : Nat), x, h1, h2, h3, rfl, h4 xs q⟩
theorem walk_zipT {K : PySem.W.Frag} {a b : Addr} {xs ys : List V} {n : Nat} (hn : n = min xs.length ys.length) : Walk (RZ.ItzT K a b) n (fun H => SqT K H a xs ∧ SqT K H b ys) (YPair (fun i => xs[i]?) (fun i => ys[i]?)) := by
  subst hn
  refine ⟨fun i _ hi q => ?_, fun _ q => ⟨xs, ys, q.1, q.2, by omega⟩, fun i H v H' _ q y => ?_⟩
  · have h1 : i < xs.length := by omega
    have h2 : i < ys.length := by omega
    exact ⟨xs, ys, xs[i], ys[i], q.1, q.2, by simp [h1], by simp [h2]⟩
  · obtain ⟨T, x, z, h1, h2, h3, h4, h5⟩ := y
    exact ⟨T, x, z, h1, h2, h3, h4 xs q.1, h5 ys q.2⟩
def iEnumA (K : PySem.W.Frag) (ta : TA) : TI := fun σ H R => ta σ H fun vs H1 => ∃ a, vs = [.ref a] ∧ ((∃ xs, SqL K H1 a xs ∧ R (Ite K a) H1) ∨ ∃ xs, SqT K H1 a xs ∧ R (IteT K a) H1)
theorem pi_enumA {X : Cx} {e : Expr} {ta : TA} {p pos tpos : Pos} {elts : List Expr} {kk : Nat} (hg : Gl X "enumerate") (hm : X.mg "enumerate" = none) (ha : PA X [e] ta) (hs : starEach [e] X.env = [(false, eval e X.env)] := by rfl) :
    PI X (.Tuple elts kk tpos) (.Call (.Name "enumerate" p) [e] [] pos) (iEnumA X.K ta) := by
  refine ⟨fun pins s σ H R I h => ?_⟩
  refine Call_ (ld_blt I hg hm boot_enumerate (PyProof.Rows.callWith_type1 (thn (ha.run pos pins s σ H _ I h) fun us s1 ⟨vs, H1, I1, r1, q1⟩ => ?_) hs rfl))
  obtain ⟨a, ex, q1⟩ := q1
  subst ex
  cases r1 with
  | cons r rr =>
    cases rr
    cases r
    have fp2 : ∀ b, b ∈ [s1.heap.objs.size + 1, s1.heap.objs.size] → FpOk X pins H1 b := fun b hb => by
      have e' : b = s1.heap.objs.size + 1 ∨ b = s1.heap.objs.size := by simpa using hb
      have hle : s1.heap.objs.size ≤ b := by
        rcases e' with z | z
        · rw [z]; exact Nat.le_add_right _ _
        · rw [z]; exact Nat.le_refl _
      exact I1.fpOk hle (I1.hok.fresh hle)
    rcases q1 with ⟨xs, hq, q⟩ | ⟨xs, hq, q⟩
    · obtain ⟨its, rv, p', hz⟩ := I1.list hq
      refine call_enumerate_list p'.isList fun h' he hit hsz hk => wpAny_pyIter_enum he ?_
      have I2 : Inv X pins σ H1 { s1 with heap := h' } := I1.kept (t' := s1.toks) hk
      exact ⟨s1.heap.objs.size + 1, [s1.heap.objs.size + 1, s1.heap.objs.size], _, _, H1, rfl, I2, turn_enum a (s1.heap.objs.size + 1) s1.heap.objs.size, ⟨⟨.none, he⟩, hit, Nat.succ_ne_self _⟩, fp2, q⟩
    · obtain ⟨its, rv, p', hz⟩ := I1.tuple hq
      obtain ⟨o1, ho1, _⟩ := id p'
      have hal : a < s1.heap.objs.size := Heap.lt_size ho1
      refine enum_begins1 (begins_tuple a its.toArray) p' fun h' he hit hsz hk => wpAny_pyIter_enum he ?_
      have I2 : Inv X pins σ H1 { s1 with heap := h' } := I1.kept (t' := s1.toks) hk
      exact ⟨s1.heap.objs.size + 1, [s1.heap.objs.size + 1, s1.heap.objs.size], _, _, H1, rfl, I2, turn_enumT a (s1.heap.objs.size + 1) s1.heap.objs.size, ⟨⟨.none, he⟩, ⟨_, hit, rfl, rfl⟩, Nat.succ_ne_self _, Nat.ne_of_lt hal, Nat.ne_of_lt (Nat.lt_succ_of_lt hal)⟩, fp2, q⟩
end PD

set_option maxHeartbeats 4000000
/-! PD11: what is walked, as data. -/
namespace PD
open PySem PySem.Spec PyProof.Rows L2
/-- J walks ds, as long as what stands at P, H stands -/
def ItD (c : Cn) (J : It) (P O : Addr → Prop) (H : Hp) (ds : List D) : Prop := ∃ G : (Addr → Prop) → Hp → Prop, G P H ∧
  (∀ P1 H1 P2 H2, G P1 H1 → WOkw c P1 O H1 → LeOw c P1 O H1 P2 H2 → G P2 H2) ∧
  (∀ i P1 H1, i < ds.length → G P1 H1 → J.go i H1) ∧ (∀ P1 H1, G P1 H1 → J.stop ds.length H1) ∧
  (∀ i P1 H1 x H2, i < ds.length → POk c P1 H1 → G P1 H1 → J.yld i H1 x H2 → ∃ d, ds[i]? = some d ∧ Le c P1 H1 P1 H2 ∧ Rp c P1 O H2 x d)
def ItR (c : Cn) (J : It) (P O : Addr → Prop) (H : Hp) (ds : List D) : Prop := ∀ P' H' O', Le c P H P' H' → (∀ a, O a → O' a) → (∀ a, O' a → O a ∨ H a = none) → ItD c J P' O' H' ds
section
variable {c : Cn} {P O : Addr → Prop} {H : Hp} {a b : Addr} {xs ys : List V} {ds es : List D}
theorem itD_list (h1 : ¬ P a) (h2 : ¬ O a) (h3 : Rd H a (.lst xs)) (h4 : RpA c P O H xs ds) : ItD c (Itl c.K a) P O H ds := by
  refine ⟨fun P H => ¬ P a ∧ Rd H a (.lst xs) ∧ RpA c P O H xs ds, ⟨h1, h3, h4⟩, fun P1 H1 P2 H2 g w l => ⟨l.npr g.1 g.2.1, l.rd g.1 h2 g.2.1, g.2.2.leOw l w⟩, fun i P1 H1 hi g => ?_, fun P1 H1 g => ?_, fun i P1 H1 x H2 hi w g y => ?_⟩
  · exact walk_list.goes i H1 (by rw [g.2.2.length]; exact hi) (.inl g.2.1)
  · have := (walk_list (K := c.K) (a := a) (xs := xs)).stops H1 (.inl g.2.1)
    rw [g.2.2.length] at this
    exact this
  · obtain ⟨rfl, hx⟩ := walk_list.yields i H1 x H2 (by rw [g.2.2.length]; exact hi) (.inl g.2.1) y
    obtain ⟨d, e, r⟩ := g.2.2.getV hx
    exact ⟨d, e, .refl w, r⟩
theorem itD_tup (h3 : SqT c.K H a xs) (h4 : RpA c P O H xs ds) : ItD c (Itt c.K a) P O H ds := by
  refine ⟨fun P H => SqT c.K H a xs ∧ RpA c P O H xs ds, ⟨h3, h4⟩, fun P1 H1 P2 H2 g w l => ⟨l.sqT w g.1, g.2.leOw l w⟩, fun i P1 H1 hi g => ?_, fun P1 H1 g => ?_, fun i P1 H1 x H2 hi w g y => ?_⟩
  · exact walk_tup.goes i H1 (by rw [g.2.length]; exact hi) g.1
  · have := (walk_tup (K := c.K) (a := a) (xs := xs)).stops H1 g.1
    rw [g.2.length] at this
    exact this
  · obtain ⟨rfl, hx⟩ := walk_tup.yields i H1 x H2 (by rw [g.2.length]; exact hi) g.1 y
    obtain ⟨d, e, r⟩ := g.2.getV hx
    exact ⟨d, e, .refl w, r⟩
theorem rangeD_len {lo hi : Int} : (rangeD lo hi).length = (hi - lo).toNat := by simp [rangeD]
theorem itD_range {lo hi : Int} : ItD c (Itr lo (hi - lo).toNat) P O H (rangeD lo hi) := by
  refine ⟨fun _ _ => True, trivial, fun _ _ _ _ _ _ _ => trivial, fun i P1 H1 h _ => ?_, fun P1 H1 _ => ?_, fun i P1 H1 x H2 h w _ y => ?_⟩
  · rw [rangeD_len] at h; exact h
  · rw [rangeD_len]; exact Nat.le_refl _
  · rw [rangeD_len] at h
    obtain ⟨rfl, rfl⟩ := y
    refine ⟨.int (lo + (i : Nat)), ?_, .refl w, .int _⟩
    unfold rangeD
    rw [List.getElem?_map, List.getElem?_range h]
    rfl
theorem itD_str {z : Str} : ItD c (Its z) P O H (z.cps.toList.map fun k => PyData.str ⟨#[k]⟩) := by
  have hl : (z.cps.toList.map fun k => PyData.str ⟨#[k]⟩).length = z.cps.size := by simp
  refine ⟨fun _ _ => True, trivial, fun _ _ _ _ _ _ _ => trivial, fun i P1 H1 h _ => ?_, fun P1 H1 _ => ?_, fun i P1 H1 x H2 h w _ y => ?_⟩
  · rw [hl] at h; exact h
  · rw [hl]; exact Nat.le_refl _
  · obtain ⟨rfl, k, hk, rfl⟩ := y
    refine ⟨.str ⟨#[k]⟩, ?_, .refl w, .str _⟩
    rw [List.getElem?_map, Array.getElem?_toList, hk]
    rfl
theorem enumD_len : (enumD ds).length = ds.length := by simp [enumD]
theorem enumD_get {i : Nat} {d : D} (h : ds[i]? = some d) : (enumD ds)[i]? = some (.tuple [.int (i : Nat), d]) := by
  unfold enumD
  rw [List.getElem?_mapIdx, h]
  rfl
theorem pair_new {T : Addr} {x y : V} {d e : D} (w : POk c P H) (hT : H T = none) (rx : Rp c P O H x d) (ry : Rp c P O H y e) : Le c P H P (upd H T (.tup [x, y])) ∧ Rp c P O (upd H T (.tup [x, y])) (.ref T) (.tuple [d, e]) :=
  let l : Le c P H P (upd H T (.tup [x, y])) := Le.laid w hT
  ⟨l, .tup (.inl (.inl upd_same)) (.cons (rx.le l w) (.cons (ry.le l w) .nil))⟩
theorem itD_enum (h1 : ¬ P a) (h2 : ¬ O a) (h3 : Rd H a (.lst xs)) (h4 : RpA c P O H xs ds) : ItD c (Ite c.K a) P O H (enumD ds) := by
  refine ⟨fun P H => ¬ P a ∧ Rd H a (.lst xs) ∧ RpA c P O H xs ds, ⟨h1, h3, h4⟩, fun P1 H1 P2 H2 g w l => ⟨l.npr g.1 g.2.1, l.rd g.1 h2 g.2.1, g.2.2.leOw l w⟩, fun i P1 H1 hi g => ?_, fun P1 H1 g => ?_, fun i P1 H1 x H2 hi w g y => ?_⟩
  · rw [enumD_len] at hi
    exact walk_enum.goes i H1 (by rw [g.2.2.length]; exact hi) (.inl g.2.1)
  · have := (walk_enum (K := c.K) (a := a) (xs := xs)).stops H1 (.inl g.2.1)
    rw [g.2.2.length] at this
    rw [enumD_len]
    exact this
  · rw [enumD_len] at hi
    obtain ⟨T, u, v, rfl, hT, rfl, e1, e2⟩ := walk_enum.yields i H1 x H2 (by rw [g.2.2.length]; exact hi) (.inl g.2.1) y
    cases e1
    obtain ⟨d, e, r⟩ := g.2.2.getV e2
    obtain ⟨l, r'⟩ := pair_new w hT (.int (i : Nat)) r
    exact ⟨_, enumD_get e, l, r'⟩
theorem itD_enumT (h3 : SqT c.K H a xs) (h4 : RpA c P O H xs ds) : ItD c (IteT c.K a) P O H (enumD ds) := by
  refine ⟨fun P H => SqT c.K H a xs ∧ RpA c P O H xs ds, ⟨h3, h4⟩, fun P1 H1 P2 H2 g w l => ⟨l.sqT w g.1, g.2.leOw l w⟩, fun i P1 H1 hi g => ?_, fun P1 H1 g => ?_, fun i P1 H1 x H2 hi w g y => ?_⟩
  · rw [enumD_len] at hi
    exact walk_enumT.goes i H1 (by rw [g.2.length]; exact hi) g.1
  · have := (walk_enumT (K := c.K) (a := a) (xs := xs)).stops H1 g.1
    rw [g.2.length] at this
    rw [enumD_len]
    exact this
  · rw [enumD_len] at hi
    obtain ⟨T, u, v, rfl, hT, rfl, e1, e2⟩ := walk_enumT.yields i H1 x H2 (by rw [g.2.length]; exact hi) g.1 y
    cases e1
    obtain ⟨d, e, r⟩ := g.2.getV e2
    obtain ⟨l, r'⟩ := pair_new w hT (.int (i : Nat)) r
    exact ⟨_, enumD_get e, l, r'⟩
theorem zipD_len : (zipD ds es).length = min ds.length es.length := by simp [zipD]
theorem zipD_get {i : Nat} {d e : D} (h : ds[i]? = some d) (h2 : es[i]? = some e) : (zipD ds es)[i]? = some (.tuple [d, e]) := by
  unfold zipD
  rw [List.getElem?_map, (List.getElem?_zip_eq_some (z := (d, e))).mpr ⟨h, h2⟩]
  rfl
theorem itD_zip (h1 : ¬ P a) (h2 : ¬ O a) (h3 : Rd H a (.lst xs)) (h4 : RpA c P O H xs ds) (k1 : ¬ P b) (k2 : ¬ O b) (k3 : Rd H b (.lst ys)) (k4 : RpA c P O H ys es) : ItD c (Itz c.K a b) P O H (zipD ds es) := by
  refine ⟨fun P H => (¬ P a ∧ Rd H a (.lst xs) ∧ RpA c P O H xs ds) ∧ ¬ P b ∧ Rd H b (.lst ys) ∧ RpA c P O H ys es, ⟨⟨h1, h3, h4⟩, k1, k3, k4⟩,
    fun P1 H1 P2 H2 g w l => ⟨⟨l.npr g.1.1 g.1.2.1, l.rd g.1.1 h2 g.1.2.1, g.1.2.2.leOw l w⟩, l.npr g.2.1 g.2.2.1, l.rd g.2.1 k2 g.2.2.1, g.2.2.2.leOw l w⟩, fun i P1 H1 hi g => ?_, fun P1 H1 g => ?_, fun i P1 H1 x H2 hi w g y => ?_⟩
  · rw [zipD_len] at hi
    exact (walk_zip rfl).goes i H1 (by rw [g.1.2.2.length, g.2.2.2.length]; exact hi) ⟨.inl g.1.2.1, .inl g.2.2.1⟩
  · have := (walk_zip (K := c.K) (a := a) (b := b) (xs := xs) (ys := ys) rfl).stops H1 ⟨.inl g.1.2.1, .inl g.2.2.1⟩
    rw [g.1.2.2.length, g.2.2.2.length] at this
    rw [zipD_len]
    exact this
  · rw [zipD_len] at hi
    obtain ⟨T, u, v, rfl, hT, rfl, e1, e2⟩ := (walk_zip rfl).yields i H1 x H2 (by rw [g.1.2.2.length, g.2.2.2.length]; exact hi) ⟨.inl g.1.2.1, .inl g.2.2.1⟩ y
    obtain ⟨d, e, r⟩ := g.1.2.2.getV e1
    obtain ⟨d2, f, s⟩ := g.2.2.2.getV e2
    obtain ⟨l, r'⟩ := pair_new w hT r s
    exact ⟨_, zipD_get e f, l, r'⟩
theorem itD_zipT (h3 : SqT c.K H a xs) (h4 : RpA c P O H xs ds) (k3 : SqT c.K H b ys) (k4 : RpA c P O H ys es) : ItD c (RZ.ItzT c.K a b) P O H (zipD ds es) := by
  refine ⟨fun P H => (SqT c.K H a xs ∧ RpA c P O H xs ds) ∧ SqT c.K H b ys ∧ RpA c P O H ys es, ⟨⟨h3, h4⟩, k3, k4⟩,
    fun P1 H1 P2 H2 g w l => ⟨⟨l.sqT w g.1.1, g.1.2.leOw l w⟩, l.sqT w g.2.1, g.2.2.leOw l w⟩, fun i P1 H1 hi g => ?_, fun P1 H1 g => ?_, fun i P1 H1 x H2 hi w g y => ?_⟩
  · rw [zipD_len] at hi
    exact (walk_zipT rfl).goes i H1 (by rw [g.1.2.length, g.2.2.length]; exact hi) ⟨g.1.1, g.2.1⟩
  · have := (walk_zipT (K := c.K) (a := a) (b := b) (xs := xs) (ys := ys) rfl).stops H1 ⟨g.1.1, g.2.1⟩
    rw [g.1.2.length, g.2.2.length] at this
    rw [zipD_len]
    exact this
  · rw [zipD_len] at hi
    obtain ⟨T, u, v, rfl, hT, rfl, e1, e2⟩ := (walk_zipT rfl).yields i H1 x H2 (by rw [g.1.2.length, g.2.2.length]; exact hi) ⟨g.1.1, g.2.1⟩ y
    obtain ⟨d, e, r⟩ := g.1.2.getV e1
    obtain ⟨d2, f, s⟩ := g.2.2.getV e2
    obtain ⟨l, r'⟩ := pair_new w hT r s
    exact ⟨_, zipD_get e f, l, r'⟩
/-! from then on, with more owned -/
theorem rp_lst_avoid (ok : POk c P H) {v : V} (r : Rp c P O H v (.list ds)) : ∃ a xs, v = .ref a ∧ Rd H a (.lst xs) ∧ ∀ P' H' O', Le c P H P' H' → (∀ a, O' a → O a ∨ H a = none) → ¬ P' a ∧ ¬ O' a ∧ Rd H' a (.lst xs) ∧ RpA c P' O' H' xs ds := by
  obtain ⟨a, xs, rfl, h1, h2, h3, h4⟩ := rp_lst r
  refine ⟨a, xs, rfl, h3, fun P' H' O' l n => ?_⟩
  have r' := (r.avoid n).le l ok
  exact ⟨l.npr h1 h3, fun z => (n a z).elim h2 fun e => by rcases h3 with h | ⟨_, h⟩ <;> (rw [e] at h; cases h), l.rd h1 h3, (h4.avoid n).le l ok⟩
theorem rp_tup_avoid (ok : POk c P H) {v : V} (r : Rp c P O H v (.tuple ds)) : ∃ a xs, v = .ref a ∧ SqT c.K H a xs ∧ ∀ P' H' O', Le c P H P' H' → (∀ a, O' a → O a ∨ H a = none) → SqT c.K H' a xs ∧ RpA c P' O' H' xs ds := by
  obtain ⟨a, xs, rfl, h3, h4⟩ := rp_tup r
  exact ⟨a, xs, rfl, h3, fun P' H' O' l n => ⟨l.sqT ok h3, (h4.avoid n).le l ok⟩⟩
end
/-! ### the iterators of a walk -/
section
variable {c : Cn} {X : Cx} {P O : Addr → Prop} {H : Hp} {v w : V} {Γ : Gm} {E : XK} {σ : L2.St} {ρ : En}
def tDI (c : Cn) (E : XK) (g : En → W (List D)) : TI := fun σ H R => ∃ P O ρ q x, EnvOk c P O H σ ρ ∧ g ρ q x ∧ (∀ P' H' J ds, Le c P H P' H' → ItR c J P' O H' ds → q ds → R J H') ∧ ExcOk c E P O H x
theorem PI.imp {tg e : Expr} {t t' : TI} (h : PI X tg e t) (i : ∀ σ H R, t' σ H R → t σ H R) : PI X tg e t' := ⟨fun pins s σ H R I q => h.run pins s σ H R I (i _ _ _ q)⟩
theorem PI.badW {tg e : Expr} {g : En → W (List D)} (h : ∀ ρ q x, ¬ g ρ q x) : PI X tg e (tDI c E g) := ⟨fun pins s σ H Q I q => by
  obtain ⟨_, _, _, _, _, _, k, _⟩ := q
  exact (h _ _ _ k).elim⟩
def iSeq (K : PySem.W.Frag) (tl : TE) : TI := fun σ H R => tl σ H fun x H1 => (∃ a xs, x = .ref a ∧ SqL K H1 a xs ∧ R (Itl K a) H1) ∨ (∃ a xs, x = .ref a ∧ SqT K H1 a xs ∧ R (Itt K a) H1) ∨ ∃ z, x = .str z ∧ R (Its z) H1
theorem pi_seq {tg l : Expr} {tl : TE} (hl : PE X l tl) : PI X tg l (iSeq X.K tl) := by
  refine ⟨fun pins s σ H R I h => ?_⟩
  refine thn (hl.run pins s σ H _ I h) fun v s1 ⟨x, H1, I1, r1, q1⟩ => ?_
  rcases q1 with ⟨a, xs, e, hq, q⟩ | ⟨a, xs, e, hq, q⟩ | ⟨z, e, q⟩
  · subst e
    cases r1
    obtain ⟨its, rv, p, hz⟩ := I1.list hq
    refine wpAny_pyIter_list p.isList ?_
    refine ⟨s1.heap.objs.size, [s1.heap.objs.size], _, _, H1, rfl, I1.kept (t' := s1.toks) fun b o e => Heap.get?_push_of_some _ e, turn_list a _, ⟨_, Heap.get?_push_size _ rfl, rfl, rfl⟩, fun b hb => ?_, q⟩
    have e : b = s1.heap.objs.size := by simpa using hb
    subst e
    exact I1.fpOk (Nat.le_refl _) (I1.hok.fresh (Nat.le_refl _))
  · subst e
    cases r1
    obtain ⟨its, rv, p, hz⟩ := I1.tuple hq
    refine wpAny_pyIter_tuple (show s1.heap.IsTuple a its.toArray from p) ?_
    refine ⟨s1.heap.objs.size, [s1.heap.objs.size], _, _, H1, rfl, I1.kept (t' := s1.toks) fun b o e => Heap.get?_push_of_some _ e, turn_tuple a _, ⟨_, Heap.get?_push_size _ rfl, rfl, rfl⟩, fun b hb => ?_, q⟩
    have e : b = s1.heap.objs.size := by simpa using hb
    subst e
    exact I1.fpOk (Nat.le_refl _) (I1.hok.fresh (Nat.le_refl _))
  · subst e
    obtain ⟨t, rfl⟩ := r1
    cases ha : z.cps.all (· < 128)
    · exact wpAny_pyIter_wide ha (pi_one (tk := s1.toks) I1 _ (turn_str _ z t "str_iterator" (.inr rfl)) ⟨_, Heap.get?_push_size _ rfl, rfl, rfl⟩ q)
    · exact wpAny_pyIter_ascii ha (pi_one (tk := s1.toks) I1 _ (turn_str _ z t "str_ascii_iterator" (.inl rfl)) ⟨_, Heap.get?_push_size _ rfl, rfl, rfl⟩ q)
theorem pi_seqD (hK : X.K = c.K) {tg l : Expr} {g : En → W D} (hl : PE X l (tD c E g)) : PI X tg l (tDI c E fun ρ => W.bind (g ρ) walkOf) := PI.imp (pi_seq hl) fun σ H R h => by
  obtain ⟨P, O, ρ, q, x, env, hg, k, ex⟩ := h
  refine ⟨P, O, ρ, _, x, env, hg, fun P1 H1 u d l1 r1 h1 => ?_, ex⟩
  have ok1 := (env.le l1).ok
  have h1 : walkOf d q x := h1
  cases d with
  | list ds =>
    obtain ⟨a, xs, rfl, h3, f⟩ := rp_lst_avoid ok1.pk r1
    rw [hK]
    exact .inl ⟨a, xs, rfl, .inl h3, k P1 H1 _ ds l1 (fun P' H' O' l _ n => have z := f P' H' O' l n; itD_list z.1 z.2.1 z.2.2.1 z.2.2.2) h1⟩
  | tuple ds =>
    obtain ⟨a, xs, rfl, h3, f⟩ := rp_tup_avoid ok1.pk r1
    rw [hK]
    exact .inr (.inl ⟨a, xs, rfl, h3, k P1 H1 _ ds l1 (fun P' H' O' l _ n => have z := f P' H' O' l n; itD_tup z.1 z.2) h1⟩)
  | str z =>
    obtain rfl := rp_str r1
    exact .inr (.inr ⟨z, rfl, k P1 H1 _ _ l1 (fun P' H' O' l _ n => itD_str) h1⟩)
  | _ => exact h1.elim
theorem pi_range1D {tg a : Expr} {gs : En → W (List D)} {p pos : Pos} (hg : Gl X "range") (hm : X.mg "range" = none) (ha : PA X [a] (tDA c E gs)) (hs : isStar a = false) :
    PI X tg (.Call (.Name "range" p) [a] [] pos) (tDI c E fun ρ => W.bind (gs ρ) fun ds => match ds with
        | [.int j] => W.need (ok62 j) (W.ret (rangeD 0 j))
        | _ => W.bad) := PI.imp (pi_range1 hg hm ha (star_of hs)) fun σ H R h => by
  obtain ⟨P, O, ρ, q, x, env, hg, k, ex⟩ := h
  refine ⟨P, O, ρ, _, x, env, hg, fun P1 H1 us ds l1 r1 h1 => ?_, ex⟩
  dsimp only at h1
  split at h1
  · rename_i j
    cases r1 with
    | cons r rr =>
      cases rr
      obtain rfl := rp_int r
      refine ⟨j, rfl, h1.1.1, h1.1.2, k P1 H1 _ _ l1 (fun P' H' O' l _ n => ?_) h1.2⟩
      have := itD_range (c := c) (P := P') (O := O') (H := H') (lo := 0) (hi := j)
      rw [Int.sub_zero] at this
      exact this
  · exact h1.elim
theorem pi_range2D {tg a b : Expr} {gs : En → W (List D)} {p pos : Pos} (hg : Gl X "range") (hm : X.mg "range" = none) (ha : PA X [a, b] (tDA c E gs)) (hs : isStar a = false) (hs2 : isStar b = false) :
    PI X tg (.Call (.Name "range" p) [a, b] [] pos) (tDI c E fun ρ => W.bind (gs ρ) fun ds => match ds with
        | [.int i, .int j] => W.need (ok62 i ∧ ok62 j) (W.ret (rangeD i j))
        | _ => W.bad) := PI.imp (pi_range2 hg hm ha (by rw [star_of hs, star_of hs2]; rfl) (star_of hs2)) fun σ H R h => by
  obtain ⟨P, O, ρ, q, x, env, hg, k, ex⟩ := h
  refine ⟨P, O, ρ, _, x, env, hg, fun P1 H1 us ds l1 r1 h1 => ?_, ex⟩
  dsimp only at h1
  split at h1
  · rename_i i j
    cases r1 with
    | cons r rr =>
      cases rr with
      | cons r' rr =>
        cases rr
        obtain rfl := rp_int r
        obtain rfl := rp_int r'
        exact ⟨i, j, rfl, ⟨h1.1.1.1, h1.1.1.2, h1.1.2.1, h1.1.2.2⟩, k P1 H1 _ _ l1 (fun P' H' O' l _ n => itD_range) h1.2⟩
  · exact h1.elim
theorem pi_enumD (hK : X.K = c.K) {a : Expr} {gs : En → W (List D)} {p pos tpos : Pos} {elts : List Expr} {kk : Nat} (hg : Gl X "enumerate") (hm : X.mg "enumerate" = none) (ha : PA X [a] (tDA c E gs)) (hs : isStar a = false) :
    PI X (.Tuple elts kk tpos) (.Call (.Name "enumerate" p) [a] [] pos) (tDI c E fun ρ => W.bind (gs ρ) fun ds => match ds with
        | [d] => W.bind (itemsOf d) fun xs => W.ret (enumD xs)
        | _ => W.bad) := PI.imp (pi_enumA hg hm ha (star_of hs)) fun σ H R h => by
  obtain ⟨P, O, ρ, q, x, env, hg, k, ex⟩ := h
  refine ⟨P, O, ρ, _, x, env, hg, fun P1 H1 us ds l1 r1 h1 => ?_, ex⟩
  have ok1 := (env.le l1).ok
  dsimp only at h1
  split at h1
  · rename_i d
    cases r1 with
    | cons r rr =>
      cases rr
      have h1 : W.bind (itemsOf d) (fun xs => W.ret (enumD xs)) q x := h1
      cases d with
      | list ds =>
        obtain ⟨a, xs, rfl, h3, f⟩ := rp_lst_avoid ok1.pk r
        rw [hK]
        exact ⟨a, rfl, .inl ⟨xs, .inl h3, k P1 H1 _ _ l1 (fun P' H' O' l _ n => have z := f P' H' O' l n; itD_enum z.1 z.2.1 z.2.2.1 z.2.2.2) h1⟩⟩
      | tuple ds =>
        obtain ⟨a, xs, rfl, h3, f⟩ := rp_tup_avoid ok1.pk r
        rw [hK]
        exact ⟨a, rfl, .inr ⟨xs, h3, k P1 H1 _ _ l1 (fun P' H' O' l _ n => have z := f P' H' O' l n; itD_enumT z.1 z.2) h1⟩⟩
      | _ => exact h1.elim
  · exact h1.elim
theorem pi_zipD (hK : X.K = c.K) {a b : Expr} {gs : En → W (List D)} {p pos tpos : Pos} {elts : List Expr} {kk : Nat} (hg : Gl X "zip") (hm : X.mg "zip" = none) (ha : PA X [a, b] (tDA c E gs)) (hs : isStar a = false) (hs2 : isStar b = false) :
    PI X (.Tuple elts kk tpos) (.Call (.Name "zip" p) [a, b] [] pos) (tDI c E fun ρ => W.bind (gs ρ) fun ds => match ds with
        | [d, e] => zipOf d e
        | _ => W.bad) := PI.imp (RZ.pi_zipA hg hm ha (star_of hs) (by rw [star_of hs2]; rfl)) fun σ H R h => by
  obtain ⟨P, O, ρ, q, x, env, hg, k, ex⟩ := h
  refine ⟨P, O, ρ, _, x, env, hg, fun P1 H1 us ds l1 r1 h1 => ?_, ex⟩
  have ok1 := (env.le l1).ok
  dsimp only at h1
  split at h1
  · rename_i d e
    cases r1 with
    | cons r rr =>
      cases rr with
      | cons r' rr =>
        cases rr
        unfold zipOf at h1
        split at h1
        · obtain ⟨a, xs, rfl, h3, f⟩ := rp_lst_avoid ok1.pk r
          obtain ⟨b, ys, rfl, h4, f2⟩ := rp_lst_avoid ok1.pk r'
          rw [hK]
          exact ⟨a, b, xs, ys, rfl, .inl ⟨.inl h3, .inl h4, k P1 H1 _ _ l1 (fun P' H' O' l _ n => have z := f P' H' O' l n; have y := f2 P' H' O' l n; itD_zip z.1 z.2.1 z.2.2.1 z.2.2.2 y.1 y.2.1 y.2.2.1 y.2.2.2) h1⟩⟩
        · obtain ⟨a, xs, rfl, h3, f⟩ := rp_tup_avoid ok1.pk r
          obtain ⟨b, ys, rfl, h4, f2⟩ := rp_tup_avoid ok1.pk r'
          rw [hK]
          exact ⟨a, b, xs, ys, rfl, .inr ⟨h3, h4, k P1 H1 _ _ l1 (fun P' H' O' l _ n => have z := f P' H' O' l n; have y := f2 P' H' O' l n; itD_zipT z.1 z.2 y.1 y.2) h1⟩⟩
        · exact h1.elim
  · exact h1.elim
theorem isGlob_ok (C : Cmp c Γ E X) {x : Str} (h : isGlobFree Γ x = true) : Gl X x ∧ X.mg x = none := by
  obtain ⟨h1, h2⟩ := Bool.and_eq_true_iff.mp h
  exact ⟨by show X.env.scope.names.lookup x = _; rw [C.sc]; exact of_decide_eq_true h1, C.free x h2⟩
theorem star1 {a : Expr} (h : (!([a].any isStar)) = true) : isStar a = false := by
  have h2 : [a].any isStar = false := by simpa using h
  exact (Bool.or_eq_false_iff.mp (show (isStar a || ([] : List Expr).any isStar) = false from h2)).1
theorem star2 {a b : Expr} (h : (!([a, b].any isStar)) = true) : isStar a = false ∧ isStar b = false := by
  have h2 : [a, b].any isStar = false := by simpa using h
  obtain ⟨h3, h4⟩ := Bool.or_eq_false_iff.mp (show (isStar a || [b].any isStar) = false from h2)
  exact ⟨h3, (Bool.or_eq_false_iff.mp (show (isStar b || ([] : List Expr).any isStar) = false from h4)).1⟩
theorem tup_of {tg : Expr} (h : isTupT tg = true) : ∃ es k p, tg = .Tuple es k p := by
  cases tg <;> first | exact ⟨_, _, _, rfl⟩ | cases h
theorem evIter_ok (C : Cmp c Γ E X) {ev : Expr → En → W D} (hE : ∀ e, PE X e (tD c E (ev e))) (tg it : Expr) : PI X tg it (tDI c E (evIter Γ ev tg it)) := by
  unfold evIter
  split
  · rename_i f fp args pos
    cases e1 : decide (f = "range") && (isGlobFree Γ f && !args.any isStar) with
    | true =>
      obtain ⟨h1, h2⟩ := Bool.and_eq_true_iff.mp e1
      obtain ⟨h2, h3⟩ := Bool.and_eq_true_iff.mp h2
      have h1 := of_decide_eq_true h1
      subst h1
      obtain ⟨hg, hm⟩ := isGlob_ok C h2
      dsimp only
      split
      · exact pi_range1D hg hm (pa_argsD hE _) (star1 h3)
      · exact pi_range2D hg hm (pa_argsD hE _) (star2 h3).1 (star2 h3).2
      · exact PI.badW fun _ _ _ h => h
    | false =>
      cases e2 : decide (f = "enumerate") && (isGlobFree Γ f && (isTupT tg && !args.any isStar)) with
      | true =>
        obtain ⟨h1, h2⟩ := Bool.and_eq_true_iff.mp e2
        obtain ⟨h2, h3⟩ := Bool.and_eq_true_iff.mp h2
        obtain ⟨h3, h4⟩ := Bool.and_eq_true_iff.mp h3
        have h1 := of_decide_eq_true h1
        subst h1
        obtain ⟨hg, hm⟩ := isGlob_ok C h2
        obtain ⟨es, k, p, rfl⟩ := tup_of h3
        dsimp only
        split
        · exact pi_enumD C.K hg hm (pa_argsD hE _) (star1 h4)
        · exact PI.badW fun _ _ _ h => h
      | false =>
        cases e3 : decide (f = "zip") && (isGlobFree Γ f && (isTupT tg && !args.any isStar)) with
        | true =>
          obtain ⟨h1, h2⟩ := Bool.and_eq_true_iff.mp e3
          obtain ⟨h2, h3⟩ := Bool.and_eq_true_iff.mp h2
          obtain ⟨h3, h4⟩ := Bool.and_eq_true_iff.mp h3
          have h1 := of_decide_eq_true h1
          subst h1
          obtain ⟨hg, hm⟩ := isGlob_ok C h2
          obtain ⟨es, k, p, rfl⟩ := tup_of h3
          dsimp only
          split
          · exact pi_zipD C.K hg hm (pa_argsD hE _) (star2 h4).1 (star2 h4).2
          · exact PI.badW fun _ _ _ h => h
        | false => exact pi_seqD C.K (hE _)
  · exact pi_seqD C.K (hE _)
end
end PD

set_option maxHeartbeats 4000000
/-! PDa: calls by value, calls with keywords, written tables. -/
namespace PD
open PySem PySem.Spec PyProof.Rows L2
section
variable {c : Cn} {X : Cx} {P P' O O' : Addr → Prop} {H H' : Hp} {v w : V} {Γ : Gm} {E : XK} {σ : L2.St} {ρ : En} {Q : VK}
theorem defOf_ok (C : Cmp c Γ E X) {d : D} {n : Nat} {m : List D → W D} (h : defOf Γ.fns d = some (n, m)) (r : Rp c P O H v d) : ∃ k f fd ps, v = .ref f ∧ PySem.W.keepIn X.K (.ref f) = true ∧ Room k X.A ∧ Binds X.K fd ps [] ∧ ps.length = n ∧
    FnG X.prog X.w X.K X.mg X.base (L2.CX X.prog X.w) k f fd ps (spD c n m) := by
  unfold defOf at h
  split at h
  · rename_i y
    obtain ⟨⟨k, n', m'⟩, e, e2⟩ := Option.map_eq_some_iff.mp h
    cases e2
    obtain ⟨f, fd, ps, h1, h2, h3, h4, h5, F⟩ := C.fns y k _ _ e
    refine ⟨k, f, fd, ps, ?_, h2, h3, h4, h5, F⟩
    cases r with
    | fn z => rw [← C.mg, h1] at z; cases z; rfl
  · cases h
theorem callV_core (C : Cmp c Γ E X) {ev : Expr → En → W D} (hE : ∀ e, PE X e (tD c E (ev e))) {gf : En → W D} {fe : Expr} {args : List Expr} {pos : Pos} (hf : PE X fe (tD c E gf)) (hs : args.any isStar = false) {pins : List (Addr × Obj)} {s : Shared} (I : Inv X pins σ H s)
    (h : tD c E (fun ρ => W.bind (gf ρ) fun f => W.opt (defOf Γ.fns f) fun t => W.bind (evArgs ev args ρ) fun ds => W.need (ds.length = t.1) (t.2 ds)) σ H Q) :
    wpAny (model X.prog X.w) X.A (eval fe X.env) (fun f s₁ => wpAny (model X.prog X.w) X.A (callWith pos f [] (backTo pos (starEach args X.env)) []) (EP X pins σ Q) X.xe s₁) X.xe s := by
  obtain ⟨P, O, ρ, q, x, env, hg, fin⟩ := h
  refine thn (hf.run pins s σ H (fun v H1 => ∃ P1 d, Le c P H P1 H1 ∧ Rp c P1 O H1 v d ∧ W.opt (defOf Γ.fns d) (fun t => W.bind (evArgs ev args ρ) fun ds => W.need (ds.length = t.1) (t.2 ds)) q x) I ⟨P, O, ρ, _, x, env, hg, fun P1 H1 v d l r h => ⟨P1, d, l, r, h⟩, fin.exc⟩) fun u s1 ⟨v, H1, I1, r1, P1, d, l1, rd, h1⟩ => ?_
  cases hd : defOf Γ.fns d with
  | none => rw [hd] at h1; exact h1.elim
  | some t =>
    obtain ⟨n, m⟩ := t
    rw [hd] at h1
    obtain ⟨k, f, fd, ps, rfl, f2, f3, f4, f5, F⟩ := defOf_ok C hd rd
    cases r1
    have en1 := env.le l1
    cases args with
    | nil =>
      refine PySem.W.callWith_K0 I1.kIn f2 (run_fnG (us := []) F f3 C.gd f4 C.pass I1 .nil ?_)
      exact ⟨P1, O, [], q, x, en1.ok, .nil, h1.1, h1.2, fin.le l1⟩
    | cons e es =>
      obtain ⟨s1', s2'⟩ := Bool.or_eq_false_iff.mp (show (isStar e || es.any isStar) = false from hs)
      refine PySem.W.callWith_K (h₀ := X.base) I1.ok.mod.kin f2 (thn ((pa_argsD hE (e :: es)).run pos pins s1 σ H1 (fun vs H2 => ∃ P2 ds, Le c P1 H1 P2 H2 ∧ RpA c P2 O H2 vs ds ∧ ds.length = n ∧ m ds q x) I1 ⟨P1, O, ρ, _, x, en1, h1, fun P2 H2 vs ds l r h => ⟨P2, ds, l, r, h⟩, ExcOk.le fin.exc l1⟩) fun us s2 ⟨vs, H2, I2, r2, P2, ds, l2, ra, hl, h2⟩ => ⟨I2.kIn, ?_⟩) (star_of s1') (nostar_of s2')
      refine run_fnG F f3 C.gd f4 C.pass I2 r2 ?_
      exact ⟨P2, O, ds, q, x, (en1.le l2).ok, ra, hl, h2, (fin.le l1).le l2⟩
theorem pe_callV (C : Cmp c Γ E X) {ev : Expr → En → W D} (hE : ∀ e, PE X e (tD c E (ev e))) {gf : En → W D} {x : Str} {p pos : Pos} {args : List Expr} (hf : PE X (.Name x p) (tD c E gf)) : PE X (.Call (.Name x p) args [] pos) (tD c E (evCallV Γ ev gf args)) := by
  unfold evCallV
  cases hs : args.any isStar with
  | true => exact PE.bad
  | false => exact ⟨fun pins s σ H Q I h => wpAny_Call_Name_kw (callV_core C hE hf hs I h)⟩
theorem pe_callVS (C : Cmp c Γ E X) {ev : Expr → En → W D} (hE : ∀ e, PE X e (tD c E (ev e))) {gf : En → W D} {a b : Expr} {p pos : Pos} {args : List Expr} (hf : PE X (.Subscript a b p) (tD c E gf)) : PE X (.Call (.Subscript a b p) args [] pos) (tD c E (evCallV Γ ev gf args)) := by
  unfold evCallV
  cases hs : args.any isStar with
  | true => exact PE.bad
  | false => exact ⟨fun pins s σ H Q I h => Call_ (callV_core C hE hf hs I h)⟩
/-! ### keywords -/
theorem RpA.perm {vs ws : List V} {ds es : List D} (r : RpA c P O H vs ds) (r2 : RpA c P O H ws es) : ∀ ord : List Nat, RpA c P O H (permL ord vs ws) (permL ord ds es)
  | [] => .nil
  | i :: ord => by
    have ih := RpA.perm r r2 ord
    unfold permL at ih ⊢
    rw [List.filterMap_cons, List.filterMap_cons]
    cases e : (ds ++ es)[i]? with
    | none =>
      have e2 : (vs ++ ws)[i]? = none := by
        rw [List.getElem?_eq_none_iff] at e ⊢
        rw [List.length_append] at e ⊢
        rw [r.length, r2.length]
        exact e
      rw [e2]
      exact ih
    | some d =>
      obtain ⟨v, h1, h2⟩ := (r.append r2).get e
      rw [h1]
      exact .cons h2 ih
theorem Vals.perm {vs zs : List V} {us ws : List Value} (r : Vals vs us) (r2 : Vals zs ws) : ∀ ord : List Nat, Vals (permL ord vs zs) (permL ord us ws)
  | [] => .nil
  | i :: ord => by
    have ih := Vals.perm r r2 ord
    unfold permL at ih ⊢
    rw [List.filterMap_cons, List.filterMap_cons]
    cases e : (vs ++ zs)[i]? with
    | none =>
      have e2 : (us ++ ws)[i]? = none := by
        rw [List.getElem?_eq_none_iff] at e ⊢
        rw [List.length_append] at e ⊢
        rw [← r.length, ← r2.length]
        exact e
      rw [e2]
      exact ih
    | some d =>
      obtain ⟨v, h1, h2⟩ := (r.append r2).get e
      rw [h1]
      exact .cons h2 ih
theorem pk_D {ev : Expr → En → W D} (hE : ∀ e, PE X e (tD c E (ev e))) : ∀ kws : List Keyword, PK X kws (tDA c E (evKws ev kws))
  | [] => ⟨fun pos pins s σ H Q I h => pk_nil.run pos pins s σ H Q I (by
      obtain ⟨P, O, ρ, q, y, env, hg, k, ex⟩ := h
      exact k P H [] [] (.refl env.ok.pk) .nil hg)⟩
  | ⟨nm, e, kp⟩ :: r => ⟨fun pos pins s σ H Q I h => (pk_cons (hE e) (pk_D hE r)).run pos pins s σ H Q I (by
      obtain ⟨P, O, ρ, q, y, env, hg, k, ex⟩ := h
      refine ⟨P, O, ρ, _, y, env, hg, fun P1 H1 u d l1 r1 h1 => ?_, ex⟩
      refine ⟨P1, O, ρ, _, y, env.le l1, h1, fun P2 H2 us ds l2 r2 h2 => ?_, ExcOk.le ex l1⟩
      exact k P2 H2 _ _ (l1.trans l2) (.cons (r1.le l2 (env.le l1).ok.pk) r2) h2)⟩
theorem kw_all {pos : Pos} {env : Env} : ∀ {kws : List Keyword}, (kws.any fun k => k.arg.isNone) = false → (backToKw pos (keywordEach kws env)).all (·.1.isSome) = true ∧ (backToKw pos (keywordEach kws env)).any (·.1.isNone) = false ∧ (backToKw pos (keywordEach kws env)).filterMap (·.1) = kws.filterMap (·.arg)
  | [], _ => ⟨rfl, rfl, rfl⟩
  | ⟨nm, e, kp⟩ :: r, h => by
    obtain ⟨h1, h2⟩ := Bool.or_eq_false_iff.mp (show (nm.isNone || r.any fun k => k.arg.isNone) = false from h)
    obtain ⟨i1, i2, i3⟩ := kw_all (pos := pos) (env := env) h2
    cases nm with
    | none => cases h1
    | some z => exact ⟨i1, i2, congrArg (z :: ·) i3⟩
theorem kw_len : ∀ {kws : List Keyword}, (kws.any fun k => k.arg.isNone) = false → (kws.filterMap (·.arg)).length = kws.length
  | [], _ => rfl
  | ⟨nm, e, kp⟩ :: r, h => by
    obtain ⟨h1, h2⟩ := Bool.or_eq_false_iff.mp (show (nm.isNone || r.any fun k => k.arg.isNone) = false from h)
    cases nm with
    | none => cases h1
    | some z => exact congrArg Nat.succ (kw_len h2)
theorem pe_callKD (C : Cmp c Γ E X) {ev : Expr → En → W D} (hE : ∀ e, PE X e (tD c E (ev e))) {x : Str} {p pos : Pos} {args : List Expr} {kws : List Keyword} : PE X (.Call (.Name x p) args kws pos) (tD c E (evCallK Γ ev x args kws)) := by
  unfold evCallK
  cases hb : badName x || (args.any isStar || kws.any fun k => k.arg.isNone) with
  | true => exact PE.bad
  | false =>
    obtain ⟨hb1, hs⟩ := Bool.or_eq_false_iff.mp hb
    obtain ⟨hs, hk⟩ := Bool.or_eq_false_iff.mp hs
    obtain ⟨b1, b2, b3⟩ := badName_no hb1
    dsimp only
    split
    · rename_i kl n m ord hl hf ho
      have hg : Gl X x := by
        show X.env.scope.names.lookup x = some .globalImplicit
        rw [C.sc]
        exact hl
      obtain ⟨f, fd, ps, f1, f2, f3, f4, F⟩ := C.kws x _ _ ord ho _ _ _ hf
      obtain ⟨k1, k2, k3⟩ := kw_all (pos := pos) (env := X.env) hk
      refine ⟨fun pins s σ H Q I h => ?_⟩
      obtain ⟨P, O, ρ, q, y, env, hg', fin⟩ := h
      have fin2 : ∀ (s1 : Shared) (H1 : Hp) (P1 : Addr → Prop) (us : List Value) (vs : List V) (ds : List D), Inv X pins σ H1 s1 → Vals vs us → us.length = args.length → Le c P H P1 H1 → RpA c P1 O H1 vs ds → W.bind (evKws ev kws ρ) (fun es => W.need (es.length = kws.length ∧ (permL ord ds es).length = n) (m (permL ord ds es))) q y →
          wpAny (model X.prog X.w) X.A (evalAll ((backToKw pos (keywordEach kws X.env)).map (·.2))) (fun ks s₂ => X.K.In s₂.heap ∧ wpAny (model X.prog X.w) X.A (call (.ref f) ([] ++ us) (((backToKw pos (keywordEach kws X.env)).filterMap (·.1)).zip ks)) (EP X pins σ Q) X.xe s₂) X.xe s1 := fun s1 H1 P1 us vs ds I1 r hlu l1 ra h1 => by
        refine thn ((pk_D hE kws).run pos pins s1 σ H1 (fun zs H2 => ∃ P2 es, Le c P1 H1 P2 H2 ∧ RpA c P2 O H2 zs es ∧ zs.length = kws.length ∧ (permL ord ds es).length = n ∧ m (permL ord ds es) q y) I1 ⟨P1, O, ρ, _, y, env.le l1, h1, fun P2 H2 zs es l2 rz h2 => ⟨P2, es, l2, rz, by rw [rz.length, h2.1.1], h2.1.2, h2.2⟩, ExcOk.le fin.exc l1⟩) fun ws s2 ⟨zs, H2, I2, rz, P2, es, l2, rz2, hlz, hn, h2⟩ => ⟨I2.kIn, ?_⟩
        rw [k3]
        have hkl := kw_len hk
        exact run_fnNG F f3 C.gd f4 C.pass I2 r rz (by rw [r.length, hlu]) (by rw [hlz, hkl]) ⟨P2, O, _, q, y, ((env.le l1).le l2).ok, (ra.le l2 (env.le l1).ok.pk).perm rz2 ord, hn, h2, (fin.le l1).le l2⟩
      refine wpAny_Call_Name_kw (ld_glob I hg f1 ?_ b1)
      cases args with
      | nil => exact PySem.W.callWith_KW0 (h₀ := X.base) I.ok.mod.kin f2 k1 (fin2 s H P [] [] [] I .nil rfl (.refl env.ok.pk) .nil hg'.2) (by rw [k2]; rfl)
      | cons e es =>
        obtain ⟨s1', s2'⟩ := Bool.or_eq_false_iff.mp (show (isStar e || es.any isStar) = false from hs)
        refine PySem.W.callWith_KW (h₀ := X.base) I.ok.mod.kin f2 k1 (thn ((pa_argsD hE (e :: es)).run pos pins s σ H (fun vs H2 => ∃ P2 ds, Le c P H P2 H2 ∧ RpA c P2 O H2 vs ds ∧ vs.length = (e :: es).length ∧ W.bind (evKws ev kws ρ) (fun es => W.need (es.length = kws.length ∧ (permL ord ds es).length = n) (m (permL ord ds es))) q y) I ⟨P, O, ρ, _, y, env, hg', fun P2 H2 vs ds l r h => ⟨P2, ds, l, r, by rw [r.length, h.1], h.2⟩, fin.exc⟩)
          fun us s2 ⟨vs, H2, I2, r2, P2, ds, l2, ra, hlv, h2⟩ => fin2 s2 H2 P2 us vs ds I2 r2 (by rw [← r2.length]; exact hlv) l2 ra h2) (by rw [k2, nostar_of (es := e :: es) hs]; rfl) (star_of s1')
    · exact PE.bad
/-! ### written tables -/
theorem tabOf_ok (C : Cmp c Γ E X) {e : Expr} {kvs : List (Str × D)} (h : tabOf Γ e = some kvs) : ∃ T p a es n, e = .Name T p ∧ Gl X T ∧ (T == ("__debug__" : Str)) = false ∧ X.mg T = some (.ref a) ∧ KDict X.K X.w a es n ∧ (∀ z, ∃ r, PySem.W.nsIn X.K a z = some r ∧ r.isSome = (kvs.lookup z).isSome) ∧
    ∀ z d, kvs.lookup z = some d → ∃ u v, PySem.W.nsIn X.K a z = some (some u) ∧ RelV v u ∧ ∀ P O H, Rp c P O H v d := by
  unfold tabOf at h
  split at h
  · rename_i T p
    cases hb : badName T || !decide (Γ.sc.names.lookup T = some .globalImplicit) with
    | true => rw [hb] at h; cases h
    | false =>
      rw [hb] at h
      obtain ⟨h1, h2⟩ := Bool.or_eq_false_iff.mp hb
      have h2 : Γ.sc.names.lookup T = some .globalImplicit := by simpa using h2
      obtain ⟨a, es, n, f1, f2, f3, f4⟩ := C.tabs T kvs h
      exact ⟨T, p, a, es, n, rfl, by show X.env.scope.names.lookup T = _; rw [C.sc]; exact h2, (badName_no h1).1, f1, f2, f3, f4⟩
  · cases h
theorem op_tabIn (D : KDict X.K X.w d es n) {kvs : List (Str × PyData)} (hk : ∀ z, ∃ r, PySem.W.nsIn X.K d z = some r ∧ r.isSome = (kvs.lookup z).isSome) (op : CmpOp) :
    OpR X (compareOp op) (fun x y H Q => y = .ref d ∧ ∃ P O a q e, WOk c P O H ∧ Rp c P O H x a ∧ dTabIn op kvs a q e ∧ ∀ b, q (.bool b) → Q (.bl b) H) := by
  intro pins s σ H x y v u Q I rx ry h
  obtain ⟨rfl, P, O, a, q, e, ok, ra, hf, k⟩ := h
  unfold dTabIn at hf
  split at hf
  · rename_i z
    obtain rfl := rp_str ra
    obtain ⟨r, h1, h2⟩ := hk z
    split at hf
    · exact op_in_kd D pins s σ H _ _ v u Q I rx ry ⟨z, r, rfl, rfl, h1, by rw [h2]; exact k _ hf⟩
    · exact op_notIn_kd D pins s σ H _ _ v u Q I rx ry ⟨z, r, rfl, rfl, h1, by rw [h2]; exact k _ hf⟩
    · exact hf.elim
  · exact hf.elim
theorem pe_tabIn (C : Cmp c Γ E X) {a b : Expr} {ga : En → W PyData} {op : CmpOp} {pos : Pos} {kvs : List (Str × PyData)} (ht : tabOf Γ b = some kvs) (ha : PE X a (tD c E ga)) (hm : behindInMarks op b = false) :
    PE X (.Compare a [op] [b] pos) (tD c E fun ρ => W.bind (ga ρ) (dTabIn op kvs)) := by
  obtain ⟨T, p, t, es, n, rfl, hg, hd, f1, f2, f3, f4⟩ := tabOf_ok C ht
  refine PE.imp (pe_cmpR (op_tabIn (c := c) f2 f3 op) ha (pe_glob (v := .ref t) hg f1 rfl hd) hm) fun σ H Q h => bind1 h fun P O a q x v H2 ok r hf fin => ?_
  exact ⟨rfl, P, O, a, q, x, ok, r, hf, fun b hb => fin.here ok (.bl b) hb⟩
theorem pt_tabIn (C : Cmp c Γ E X) {a b : Expr} {ga : En → W PyData} {op : CmpOp} {pos : Pos} {kvs : List (Str × PyData)} (ht : tabOf Γ b = some kvs) (ha : PE X a (tD c E ga)) (hm : behindInMarks op b = false) :
    PT X (.Compare a [op] [b] pos) (tDT c E fun ρ => W.bind (W.bind (ga ρ) (dTabIn op kvs)) asB) := by
  obtain ⟨T, p, t, es, n, rfl, hg, hd, f1, f2, f3, f4⟩ := tabOf_ok C ht
  refine PT.imp (pt_cmpR (op_tabIn (c := c) f2 f3 op) ha (pe_glob (v := .ref t) hg f1 rfl hd) hm) fun σ H Q h => bind1 (tD_B (g := fun ρ => W.bind (ga ρ) (dTabIn op kvs)) h) fun P O a q x v H2 ok r hf fin => ?_
  refine ⟨rfl, P, O, a, q, x, ok, r, hf, fun b hb => ?_⟩
  exact fin.here ok (.bl b) hb
theorem pe_tabIx (C : Cmp c Γ E X) {a b : Expr} {gb : En → W PyData} {pos : Pos} {kvs : List (Str × PyData)} (ht : tabOf Γ a = some kvs) (hb : PE X b (tD c E gb)) (hs : isSlice b = false) :
    PE X (.Subscript a b pos) (tD c E fun ρ => W.bind (gb ρ) (dTabIx kvs)) := by
  obtain ⟨T, p, t, es, n, rfl, hg, hd, f1, f2, f3, f4⟩ := tabOf_ok C ht
  refine PE.imp (pe_ix (r := L2.rIxD X.K X.w) ix_kdict (pe_glob (v := .ref t) hg f1 rfl hd) hb (plainIx_of hs)) fun σ H Q h => ?_
  show tD c E gb σ H fun y H2 => L2.rIxD X.K X.w (.ref t) y H2 Q
  refine bind1 h fun P O a q x v H2 ok r hf fin => ?_
  unfold dTabIx at hf
  split at hf
  · rename_i z
    obtain rfl := rp_str r
    cases hz : kvs.lookup z with
    | none => rw [hz] at hf; exact hf.elim
    | some d =>
      rw [hz] at hf
      obtain ⟨u, v, h1, h2, h3⟩ := f4 z d hz
      exact ⟨t, z, v, rfl, rfl, ⟨es, n, u, f2.at_, f2.lit, h1, h2⟩, fin.here ok (h3 P O H2) hf⟩
  · exact hf.elim
theorem pe_emp {pos : Pos} : PE X (.Dict [] [] pos) (tD c E fun _ => W.ret (.dict [])) := PE.imp pe_dnewK fun σ H Q h => by
  obtain ⟨P, O, ρ, q, x, env, hg, fin⟩ := h
  refine fun p hp => ?_
  have l : Le c P H P (upd H p (.dK [])) := Le.laid env.ok.pk hp
  exact fin.val P _ _ _ l (.emp (env.ok.np hp) (env.ok.no hp) upd_same) hg
end
end PD

set_option maxHeartbeats 4000000
/-! PD12: comprehensions; all expressions. -/
namespace PD
open PySem PySem.Spec PyProof.Rows L2
section
variable {c : Cn} {X : Cx} {P P' O O' : Addr → Prop} {H H' : Hp} {v w : V} {Γ : Gm} {E : XK} {σ : L2.St} {ρ : En} {Q : VK}
theorem EnvOk.unset (e : EnvOk c P O H σ ρ) (j : Nat) : EnvOk c P O H (σ.set j none) (ρ.set j none) := ⟨e.ok, by rw [List.length_set, List.length_set]; exact e.len, fun i d h => by
  by_cases hij : j = i
  · subst hij
    by_cases hl : j < ρ.length
    · rw [List.getElem?_set_self hl] at h; cases h
    · rw [List.getElem?_eq_none (by rw [List.length_set]; omega)] at h; cases h
  · rw [List.getElem?_set_ne hij] at h ⊢
    exact e.at_ i d h⟩
theorem EnvOk.wipe (e : EnvOk c P O H σ ρ) : ∀ vs : List Nat, EnvOk c P O H (L2.wipe σ vs) (wipeE ρ vs)
  | [] => e
  | v :: vs => (EnvOk.wipe e vs).unset v
theorem wipe_at {σ : L2.St} {i : Nat} : ∀ {vs : List Nat}, i ∈ vs → i < σ.length → (L2.wipe σ vs)[i]? = some none
  | [], h, _ => nomatch h
  | v :: vs, h, hl => by
    unfold L2.wipe
    by_cases e : v = i
    · subst e
      exact List.getElem?_set_self (by rw [wipe_length]; exact hl)
    · rw [List.getElem?_set_ne e]
      exact wipe_at ((List.mem_cons.mp h).resolve_left fun z => e z.symm) hl
theorem wipe_wipe {σ : L2.St} {vs : List Nat} : L2.wipe (L2.wipe σ vs) vs = L2.wipe σ vs := by
  apply List.ext_getElem?
  intro i
  by_cases h : i ∈ vs
  · by_cases hl : i < σ.length
    · rw [wipe_at h (by rw [wipe_length]; exact hl), wipe_at h hl]
    · rw [List.getElem?_eq_none (by rw [wipe_length, wipe_length]; omega), List.getElem?_eq_none (by rw [wipe_length]; omega)]
  · rw [wipe_out h]
theorem own_mem {N : List Str} {scope : Scope} {x : Str} {i : Nat} (h : scope.names.lookup x = some .local ∨ scope.names.lookup x = some .cell) (hi : slotOf N x = some i) : i ∈ (ownOf N scope).map (·.2) := by
  have go : ∀ l : List (Str × NameKind), (l.lookup x = some .local ∨ l.lookup x = some .cell) → (x, i) ∈ l.filterMap fun p => match p.2 with
      | .local => (slotOf N p.1).map fun i => (p.1, i)
      | .cell => (slotOf N p.1).map fun i => (p.1, i)
      | _ => none := by
    intro l
    induction l with
    | nil => intro h; rcases h with h | h <;> cases h
    | cons p l ih =>
      intro h
      obtain ⟨n, k⟩ := p
      rw [List.mem_filterMap]
      cases hx : x == n with
      | true =>
        have e := eq_of_beq hx
        subst e
        simp only [List.lookup_cons, hx] at h
        refine ⟨(x, k), List.mem_cons_self .., ?_⟩
        rcases h with h | h <;> (cases h; simp [hi])
      | false =>
        simp only [List.lookup_cons, hx] at h
        obtain ⟨q, h1, h2⟩ := List.mem_filterMap.mp (ih h)
        exact ⟨q, List.mem_cons_of_mem _ h1, h2⟩
  exact List.mem_map.mpr ⟨(x, i), go _ h, rfl⟩
theorem blk_st {scope : Scope} {x : Str} (h : (Γ.blk scope).st x = true) : scope.names.lookup x = some .local ∨ scope.names.lookup x = some .cell := by
  have h : (match scope.names.lookup x with
    | some .local => true
    | some .cell => true
    | _ => false) = true := h
  split at h
  · exact .inl (by assumption)
  · exact .inr (by assumption)
  · cases h
/-- the context of a comprehension's block fits -/
theorem Cmp.blk (C : Cmp c Γ E X) (s : Shared) (H : Hp) (scope : Scope) (cl : List (Str × Addr)) (A : Addr) (fp : List Addr) : Cmp c (Γ.blk scope) E0 (X.blk s H scope (compEnvC scope cl A X.env) fp) where
  K := C.K
  mg := C.mg
  N := C.N
  nd := C.nd
  sc := by show relabel scope X.env = relS scope Γ.sc; rw [← C.sc]; rfl
  calm := C.calm
  room := C.room
  gd := C.gd
  st := fun x h => by
    have hk : ∀ k : NameKind, k ≠ .free → scope.names.lookup x = some k → (relabel scope X.env).names.lookup x = some k := fun k hk e => lookup_relS_keep (sc := X.env.scope) hk e
    rcases blk_st h with e | e
    · exact ⟨.inl (hk _ (by decide) e), .inr (hk _ (by decide) e)⟩
    · refine ⟨.inr (hk _ (by decide) e), .inl ?_⟩
      show (scope.names.lookup x == some .cell) = true
      rw [e]
      rfl
  free := C.free
  cst := C.cst
  fns := C.fns
  tabs := C.tabs
  kws := C.kws
  pass := passL
theorem Le.updNew (l : Le c P H P' H') {D : Addr} {o : HO} (hD : H D = none) (hP : ¬ P' D) : Le c P H P' (upd H' D o) where
  mono := l.mono
  new := l.new
  keep a u n h := by rw [upd_ne (fun z : a = D => by rw [z, hD] at h; cases h)]; exact l.keep a u n h
  pool b q := by
    obtain ⟨x, y, z, e, g⟩ := l.pool b q
    exact ⟨x, y, z, by rw [upd_ne (fun z : b = D => hP (by rw [← z]; exact q))]; exact e, g⟩
theorem pts_ok {ifs : List Expr} {ev : Expr → En → W D} (hT : ∀ e, PT X e (tDT c E fun ρ => W.bind (ev e ρ) asB)) : PTs X ifs (tDT c E (evTests ev ifs)) := by
  rcases ifs with _ | ⟨e, _ | ⟨e2, es⟩⟩
  · refine ⟨fun pins s σ H Q I h => pts_nil.run pins s σ H Q I ?_⟩
    obtain ⟨P, O, ρ, q, x, env, hg, k, ex⟩ := h
    exact k P H true (.refl env.ok.pk) hg
  · exact pts_one (hT _)
  · refine ⟨fun pins s σ H Q I h => ?_⟩
    obtain ⟨P, O, ρ, q, x, env, hg, k, ex⟩ := h
    exact hg.elim
theorem lc_imp {N : List Str} {tg : Expr} {gI : En → W (List D)} {gT : En → W Bool} {gB : En → W D} {vs : List Nat} {Γb : Gm} (hvs : ∀ x i, Γb.st x = true → slotOf Γb.N x = some i → i ∈ vs)
    (h : tD c E (fun ρ => W.bind (gI ρ) fun xs => W.bind (lcGo (fun d => W.calm (bindK Γb W.bad 20 tg d (wipeE ρ vs) fun ρ' => W.bind (gT ρ') fun b => match b with
        | true => W.bind (gB ρ') fun y => W.ret (some y)
        | false => W.ret none)) xs []) fun ys => W.ret (.list ys)) σ H Q) : tLc (tDI c E gI) (tDG c Γb 20 20 tg) (tDT c E0 gT) (tD c E0 gB) vs σ H Q := by
  obtain ⟨P, O, ρ, q, x, env, hg, fin⟩ := h
  refine ⟨P, O, ρ, _, x, env, hg, fun P1 H1 J ds l1 it h1 D hD => ?_, fin.exc⟩
  have env1 := env.le l1
  have nP : ¬ P1 D := env1.ok.np hD
  have nO : ¬ O D := env1.ok.no hD
  generalize hO : (fun a => O a ∨ a = D) = O' at *
  have oD : O' D := by rw [← hO]; exact .inr rfl
  have oS : ∀ a, O a → O' a := fun a h => by rw [← hO]; exact .inl h
  have oN : ∀ a, O' a → O a ∨ H1 a = none := fun a h => by
    rw [← hO] at h
    rcases h with h | h
    · exact .inl h
    · exact .inr (by rw [h]; exact hD)
  have ll : Le c P1 H1 P1 (upd H1 D (.lst [])) := Le.laid env1.ok.pk hD
  obtain ⟨G, g0, gS, gGo, gSt, gY⟩ := it P1 (upd H1 D (.lst [])) O' ll oS oN
  have own : ∀ xs : List V, OwnO (.lst xs) := fun xs => ⟨fun _ z => (nomatch z), fun _ _ z => (nomatch z)⟩
  have w0 : WOk c P1 O' (upd H1 D (.lst [])) := ⟨ll.pool, fun a h => by
    by_cases e : a = D
    · subst e; exact ⟨_, upd_same, own _⟩
    · rw [← hO] at h
      exact (env1.ok.le ll).ow a (h.resolve_right e)⟩
  have e0 : EnvOk c P1 O' (upd H1 D (.lst [])) σ ρ := ⟨w0, env1.len, fun i d h => by
    obtain ⟨v, h1, h2⟩ := env1.at_ i d h
    exact ⟨v, h1, (h2.avoid oN).le ll env1.ok.pk⟩⟩
  generalize hst : (fun (d : PyData) => W.calm (bindK Γb W.bad 20 tg d (wipeE ρ vs) fun ρ' => W.bind (gT ρ') fun b => match b with
        | true => W.bind (gB ρ') fun y => W.ret (some y)
        | false => W.ret none) : PyData → W (Option PyData)) = step at *
  have h1 : lcGo step ds [] (fun ys => q (.list ys)) x := h1
  refine ⟨fun i m H => m = ds.length - i ∧ i ≤ ds.length ∧ ∃ P2 acc ys, Le c P1 H1 P2 H ∧ ¬ P2 D ∧ H D = some (.lst acc) ∧ RpA c P2 O' H acc ys ∧ EnvOk c P2 O' H (L2.wipe σ vs) (wipeE ρ vs) ∧ G P2 H ∧ lcGo step (ds.drop i) ys (fun ys => q (.list ys)) x,
    ⟨ds.length, rfl, Nat.zero_le _, P1, [], [], ll, nP, upd_same, .nil, e0.wipe vs, g0, h1⟩, ?_⟩
  rintro i m H2 ⟨rfl, hi, P2, acc, ys, l2, n2, hD2, ra, en2, g2, hw⟩
  by_cases hlt : i < ds.length
  · refine .inr ⟨gGo i P2 H2 hlt g2, fun H' => ∃ P2 acc ys, Le c P1 H1 P2 H' ∧ ¬ P2 D ∧ H' D = some (.lst acc) ∧ RpA c P2 O' H' acc ys ∧ EnvOk c P2 O' H' (L2.wipe σ vs) (wipeE ρ vs) ∧ G P2 H' ∧ lcGo step (ds.drop (i + 1)) ys (fun ys => q (.list ys)) x,
      fun H' p => ⟨ds.length - (i + 1), by omega, rfl, hlt, p⟩, fun u H3 y => ?_⟩
    obtain ⟨d, hd, l3, ru⟩ := gY i P2 H2 u H3 hlt en2.ok.pk g2 y
    have ed : ds.drop i = d :: ds.drop (i + 1) := by
      rw [List.drop_eq_getElem_cons hlt]
      have := List.getElem?_eq_getElem hlt
      rw [this] at hd
      cases hd
      rfl
    rw [ed] at hw
    have en3 := en2.le l3
    unfold lcGo at hw
    have hw : step d (fun o => (match o with
      | some y => W.need (ys.length < sizeLine) (lcGo step (ds.drop (i + 1)) (ys ++ [y]))
      | none => lcGo step (ds.drop (i + 1)) ys) (fun ys => q (.list ys)) x) x := hw
    rw [← hst] at hw
    have hw := hw
    unfold W.calm at hw
    rw [bindK_eq] at hw
    cases hb : bindTg Γb 20 tg d (wipeE ρ vs) with
    | none => rw [hb] at hw; exact hw.elim
    | some ρ' =>
      rw [hb] at hw
      refine ⟨P2, O', wipeE ρ vs, d, ρ', en3, ru, hb, fun σ' en4 tch _ => ⟨(tch vs hvs).trans wipe_wipe, ?_⟩⟩
      refine ⟨P2, O', ρ', _, fun _ => False, en4, hw, fun P5 H5 b l5 hb5 => ?_, fun _ _ _ _ _ _ _ z => z⟩
      have hD5 : H5 D = some (.lst acc) := l5.keep D _ n2 (l3.keep D _ n2 hD2)
      have n5 : ¬ P5 D := l5.np n2 (l3.keep D _ n2 hD2)
      have lt := (l2.trans l3).trans l5
      have l35 := l3.trans l5
      cases b with
      | false =>
        dsimp only
        rw [if_neg Bool.false_ne_true]
        have hb5 : lcGo step (ds.drop (i + 1)) ys (fun ys => q (.list ys)) x := by rw [← hst]; exact hb5
        exact ⟨P5, acc, ys, lt, n5, hD5, ra.le l35 en2.ok.pk, en2.le l35, gS _ _ _ _ g2 en2.ok.weak (l35.o en2.ok).weak, hb5⟩
      | true =>
        dsimp only
        rw [if_pos rfl]
        refine ⟨P5, O', ρ', _, fun _ => False, en4.le l5, hb5, fun P6 H6 yv yd l6 ry hy => ?_, fun _ _ _ _ _ _ _ z => z⟩
        have l36 := l35.trans l6
        have hy : ys.length < sizeLine ∧ lcGo step (ds.drop (i + 1)) (ys ++ [yd]) (fun ys => q (.list ys)) x := by rw [← hst]; exact hy
        have n6 : ¬ P6 D := l6.np n5 hD5
        have ok6 := (en2.le l36).ok
        have lo : LeO c P6 O' H6 P6 (upd H6 D (.lst (acc ++ [yv]))) := LeO.upd ok6 oD n6 (own _)
        refine ⟨acc, l6.keep D _ n5 hD5, by rw [ra.length]; exact hy.1, P6, acc ++ [yv], ys ++ [yd], (lt.trans l6).updNew hD n6, n6, upd_same, ((ra.le l36 en2.ok.pk).append (.cons ry .nil)).leO lo ok6, (en2.le l36).leO lo, gS _ _ _ _ (gS _ _ _ _ g2 en2.ok.weak (l36.o en2.ok).weak) ok6.weak lo.weak, hy.2⟩
  · have e : i = ds.length := by omega
    subst e
    refine .inl ⟨gSt P2 H2 g2, ?_⟩
    rw [List.drop_length] at hw
    exact fin.val P2 H2 (.ref D) (.list ys) (l1.trans l2) (.lst n2 nO (.inl hD2) (ra.less oS en2.ok.pk)) hw
theorem notSet {iter : Expr} {env : Env} (h : isSet iter = false) (x : Value) : foldedSetIterable iter env x = pure x := by
  cases iter <;> first | rfl | cases h
theorem pe_lcD (C : Cmp c Γ E X) {ev evB : Expr → En → W D} (hE : ∀ e, PE X e (tD c E (ev e))) {elt tg iter : Expr} {ifs : List Expr} {scope : Scope} {pos : Pos}
    (hB : ∀ X', Cmp c (Γ.blk scope) E0 X' → ∀ e, PE X' e (tD c E0 (evB e))) (hT : ∀ X', Cmp c (Γ.blk scope) E0 X' → ∀ e, PT X' e (tDT c E0 fun ρ => W.bind (evT evB e ρ) asB)) :
    PE X (.ListComp elt [⟨tg, iter, ifs, 0⟩] scope pos) (tD c E (evLc Γ ev evB elt tg iter ifs scope)) := by
  unfold evLc
  cases hk : blkC Γ.N Γ.sc scope (ownOf Γ.N scope) && !isSet iter with
  | false => exact PE.bad
  | true =>
    obtain ⟨h1, h2⟩ := Bool.and_eq_true_iff.mp hk
    have ok : BlkOk X.N X.env.scope scope (ownOf Γ.N scope) := by
      rw [C.N, C.sc]
      exact blkOk_by h1
    refine PE.imp (pe_lc C.calm C.nd (evIter_ok C hE tg iter) ok (fun s H A cl fp => pg_D (C.blk s H scope cl A fp) 20 20 tg (Nat.le_refl _)) (fun s H A cl fp => pts_ok (hT _ (C.blk s H scope cl A fp))) (fun s H A cl fp => hB _ (C.blk s H scope cl A fp) elt)
      (notSet (by simpa using h2))) fun σ H Q h => lc_imp (N := Γ.N) (fun x i hx hi => own_mem (blk_st hx) hi) h
theorem lc2_imp {tg tg1 : Expr} {gI : En → W (List D)} {gI1 : En → W (List D)} {gT gT1 : En → W Bool} {gB : En → W D} {vs vs1 : List Nat} {Γb : Gm} (hvs : ∀ x i, Γb.st x = true → slotOf Γb.N x = some i → i ∈ vs) (hn1 : ∀ x ∈ tgNames 20 tg1, ∀ i, slotOf Γb.N x = some i → i ∈ vs1)
    (h : tD c E (fun ρ => W.bind (gI ρ) fun xs => W.bind (lc2Go (fun d acc => W.calm (bindK Γb W.bad 20 tg d (wipeE ρ vs) fun ρ' => W.bind (gT ρ') fun b => match b with
        | true => W.bind (gI1 ρ') fun ys => lcGo (fun d => bindK Γb W.bad 20 tg1 d (wipeE ρ' vs1) fun ρ2 => W.bind (gT1 ρ2) fun b => match b with
            | true => W.bind (gB ρ2) fun y => W.ret (some y)
            | false => W.ret none) ys acc
        | false => W.ret acc)) xs []) fun ys => W.ret (.list ys)) σ H Q) : tLc2 (tDI c E gI) (tDG c Γb 20 20 tg) (tDT c E0 gT) (tDI c E0 gI1) (tDG c Γb 20 20 tg1) (tDT c E0 gT1) (tD c E0 gB) vs vs1 σ H Q := by
  obtain ⟨P, O, ρ, q, x, env, hg, fin⟩ := h
  refine ⟨P, O, ρ, _, x, env, hg, fun P1 H1 J ds l1 it h1 D hD => ?_, fin.exc⟩
  have env1 := env.le l1
  have nP : ¬ P1 D := env1.ok.np hD
  have nO : ¬ O D := env1.ok.no hD
  generalize hO : (fun a => O a ∨ a = D) = O' at *
  have oD : O' D := by rw [← hO]; exact .inr rfl
  have oS : ∀ a, O a → O' a := fun a h => by rw [← hO]; exact .inl h
  have oN : ∀ a, O' a → O a ∨ H1 a = none := fun a h => by
    rw [← hO] at h
    rcases h with h | h
    · exact .inl h
    · exact .inr (by rw [h]; exact hD)
  have ll : Le c P1 H1 P1 (upd H1 D (.lst [])) := Le.laid env1.ok.pk hD
  obtain ⟨G, g0, gS, gGo, gSt, gY⟩ := it P1 (upd H1 D (.lst [])) O' ll oS oN
  have own : ∀ xs : List V, OwnO (.lst xs) := fun xs => ⟨fun _ z => (nomatch z), fun _ _ z => (nomatch z)⟩
  have w0 : WOk c P1 O' (upd H1 D (.lst [])) := ⟨ll.pool, fun a h => by
    by_cases e : a = D
    · subst e; exact ⟨_, upd_same, own _⟩
    · rw [← hO] at h
      exact (env1.ok.le ll).ow a (h.resolve_right e)⟩
  have e0 : EnvOk c P1 O' (upd H1 D (.lst [])) σ ρ := ⟨w0, env1.len, fun i d h => by
    obtain ⟨v, h1, h2⟩ := env1.at_ i d h
    exact ⟨v, h1, (h2.avoid oN).le ll env1.ok.pk⟩⟩
  generalize hst : (fun (d : PyData) (acc : List PyData) => W.calm (bindK Γb W.bad 20 tg d (wipeE ρ vs) fun ρ' => W.bind (gT ρ') fun b => match b with
        | true => W.bind (gI1 ρ') fun ys => lcGo (fun d => bindK Γb W.bad 20 tg1 d (wipeE ρ' vs1) fun ρ2 => W.bind (gT1 ρ2) fun b => match b with
            | true => W.bind (gB ρ2) fun y => W.ret (some y)
            | false => W.ret none) ys acc
        | false => W.ret acc) : PyData → List PyData → W (List PyData)) = step at *
  have h1 : lc2Go step ds [] (fun ys => q (.list ys)) x := h1
  refine ⟨fun i m H => m = ds.length - i ∧ i ≤ ds.length ∧ ∃ P2 acc ys, Le c P1 H1 P2 H ∧ ¬ P2 D ∧ H D = some (.lst acc) ∧ RpA c P2 O' H acc ys ∧ EnvOk c P2 O' H (L2.wipe σ vs) (wipeE ρ vs) ∧ G P2 H ∧ lc2Go step (ds.drop i) ys (fun ys => q (.list ys)) x,
    ⟨ds.length, rfl, Nat.zero_le _, P1, [], [], ll, nP, upd_same, .nil, e0.wipe vs, g0, h1⟩, ?_⟩
  rintro i m H2 ⟨rfl, hi, P2, acc, ys, l2, n2, hD2, ra, en2, g2, hw⟩
  by_cases hlt : i < ds.length
  · refine .inr ⟨gGo i P2 H2 hlt g2, fun H' => ∃ P2 acc ys, Le c P1 H1 P2 H' ∧ ¬ P2 D ∧ H' D = some (.lst acc) ∧ RpA c P2 O' H' acc ys ∧ EnvOk c P2 O' H' (L2.wipe σ vs) (wipeE ρ vs) ∧ G P2 H' ∧ lc2Go step (ds.drop (i + 1)) ys (fun ys => q (.list ys)) x,
      fun H' p => ⟨ds.length - (i + 1), by omega, rfl, hlt, p⟩, fun u H3 y => ?_⟩
    obtain ⟨d, hd, l3, ru⟩ := gY i P2 H2 u H3 hlt en2.ok.pk g2 y
    have ed : ds.drop i = d :: ds.drop (i + 1) := by
      rw [List.drop_eq_getElem_cons hlt]
      have := List.getElem?_eq_getElem hlt
      rw [this] at hd
      cases hd
      rfl
    rw [ed] at hw
    have en3 := en2.le l3
    unfold lc2Go at hw
    have hw : step d ys (fun acc' => lc2Go step (ds.drop (i + 1)) acc' (fun ys => q (.list ys)) x) x := hw
    generalize hfin : (fun acc' => lc2Go step (ds.drop (i + 1)) acc' (fun ys => q (.list ys)) x) = fq at hw
    rw [← hst] at hw
    unfold W.calm at hw
    rw [bindK_eq] at hw
    cases hb : bindTg Γb 20 tg d (wipeE ρ vs) with
    | none => rw [hb] at hw; exact hw.elim
    | some ρ' =>
      rw [hb] at hw
      refine ⟨P2, O', wipeE ρ vs, d, ρ', en3, ru, hb, fun σ' en4 tch _ => ⟨(tch vs hvs).trans wipe_wipe, ?_⟩⟩
      refine ⟨P2, O', ρ', _, fun _ => False, en4, hw, fun P5 H5 b l5 hb5 => ?_, fun _ _ _ _ _ _ _ z => z⟩
      have hD5 : H5 D = some (.lst acc) := l5.keep D _ n2 (l3.keep D _ n2 hD2)
      have n5 : ¬ P5 D := l5.np n2 (l3.keep D _ n2 hD2)
      have lt := (l2.trans l3).trans l5
      have l35 := l3.trans l5
      have nxt : ∀ P6 H6 acc ys, LeO c P2 O' H2 P6 H6 → Le c P1 H1 P6 H6 → ¬ P6 D → H6 D = some (.lst acc) → RpA c P6 O' H6 acc ys → fq ys → ∃ P2 acc ys, Le c P1 H1 P2 H6 ∧ ¬ P2 D ∧ H6 D = some (.lst acc) ∧ RpA c P2 O' H6 acc ys ∧ EnvOk c P2 O' H6 (L2.wipe σ vs) (wipeE ρ vs) ∧ G P2 H6 ∧ lc2Go step (ds.drop (i + 1)) ys (fun ys => q (.list ys)) x :=
        fun P6 H6 acc ys lo l n hd r hf => ⟨P6, acc, ys, l, n, hd, r, en2.leO lo, gS _ _ _ _ g2 en2.ok.weak lo.weak, by rw [← hfin] at hf; exact hf⟩
      cases b with
      | false =>
        dsimp only
        rw [if_neg Bool.false_ne_true]
        exact nxt P5 H5 acc ys (l35.o en2.ok) lt n5 hD5 (ra.le l35 en2.ok.pk) hb5
      | true =>
        dsimp only
        rw [if_pos rfl]
        have en5 := en4.le l5
        refine ⟨P5, O', ρ', _, fun _ => False, en5, hb5, fun P7 H7 J1 ys1 l7 it1 h7 => ?_, fun _ _ _ _ _ _ _ z => z⟩
        obtain ⟨G1, k0, kS, kGo, kSt, kY⟩ := it1 P7 H7 O' (.refl (en5.le l7).ok.pk) (fun _ z => z) (fun _ z => .inl z)
        have l37 := l35.trans l7
        have n7 : ¬ P7 D := l7.np n5 hD5
        have hD7 : H7 D = some (.lst acc) := l7.keep D _ n5 hD5
        generalize hs1 : (fun (d : PyData) => bindK Γb W.bad 20 tg1 d (wipeE ρ' vs1) fun ρ2 => W.bind (gT1 ρ2) fun b => match b with
            | true => W.bind (gB ρ2) fun y => W.ret (some y)
            | false => W.ret none) = step1 at h7
        refine ⟨fun j k H => k = ys1.length - j ∧ j ≤ ys1.length ∧ ∃ P8 acc zs, LeO c P2 O' H2 P8 H ∧ Le c P1 H1 P8 H ∧ ¬ P8 D ∧ H D = some (.lst acc) ∧ RpA c P8 O' H acc zs ∧ EnvOk c P8 O' H σ' ρ' ∧ G1 P8 H ∧ lcGo step1 (ys1.drop j) zs fq fun _ => False,
          ⟨ys1.length, rfl, Nat.zero_le _, P7, acc, ys, l37.o en2.ok, lt.trans l7, n7, hD7, ra.le l37 en2.ok.pk, en5.le l7, k0, h7⟩, ?_⟩
        rintro j k H8 ⟨rfl, hj, P8, acc8, zs, lo8, l8, n8, hD8, ra8, en8, g8, hw8⟩
        by_cases hlj : j < ys1.length
        · refine .inr ⟨kGo j P8 H8 hlj g8, fun H => ∃ P8 acc zs, LeO c P2 O' H2 P8 H ∧ Le c P1 H1 P8 H ∧ ¬ P8 D ∧ H D = some (.lst acc) ∧ RpA c P8 O' H acc zs ∧ EnvOk c P8 O' H σ' ρ' ∧ G1 P8 H ∧ lcGo step1 (ys1.drop (j + 1)) zs fq fun _ => False,
            fun H' p => ⟨ys1.length - (j + 1), by omega, rfl, hlj, p⟩, fun u9 H9 y9 => ?_⟩
          obtain ⟨d9, hd9, l9, ru9⟩ := kY j P8 H8 u9 H9 hlj en8.ok.pk g8 y9
          have ed9 : ys1.drop j = d9 :: ys1.drop (j + 1) := by
            rw [List.drop_eq_getElem_cons hlj]
            have := List.getElem?_eq_getElem hlj
            rw [this] at hd9
            cases hd9
            rfl
          rw [ed9] at hw8
          have en9 := (en8.le l9).wipe vs1
          unfold lcGo at hw8
          have hw8 : step1 d9 (fun o => (match o with
            | some y => W.need (zs.length < sizeLine) (lcGo step1 (ys1.drop (j + 1)) (zs ++ [y]))
            | none => lcGo step1 (ys1.drop (j + 1)) zs) fq (fun _ => False)) (fun _ => False) := hw8
          generalize hf9 : (fun o : Option PyData => (match o with
            | some y => W.need (zs.length < sizeLine) (lcGo step1 (ys1.drop (j + 1)) (zs ++ [y]))
            | none => lcGo step1 (ys1.drop (j + 1)) zs) fq (fun _ => False)) = f9 at hw8
          rw [← hs1] at hw8
          rw [bindK_eq] at hw8

          cases hb9 : bindTg Γb 20 tg1 d9 (wipeE ρ' vs1) with
          | none => rw [hb9] at hw8; exact hw8.elim
          | some ρ2 =>
            rw [hb9] at hw8
            refine ⟨P8, O', wipeE ρ' vs1, d9, ρ2, en9, ru9, hb9, fun σ2 en10 _ tchN => ⟨(tchN vs1 hn1).trans wipe_wipe, ?_⟩⟩
            refine ⟨P8, O', ρ2, _, fun _ => False, en10, hw8, fun P11 H11 b l11 hb11 => ?_, fun _ _ _ _ _ _ _ z => z⟩
            have hD9 : H9 D = some (.lst acc8) := l9.keep D _ n8 hD8
            have hD11 : H11 D = some (.lst acc8) := l11.keep D _ n8 hD9
            have n11 : ¬ P11 D := l11.np n8 hD9
            have l911 := l9.trans l11
            have lo11 : LeO c P8 O' H8 P11 H11 := l911.o en8.ok
            cases b with
            | false =>
              dsimp only
              rw [if_neg Bool.false_ne_true]
              have hb11 : f9 none := hb11
              rw [← hf9] at hb11
              exact ⟨P11, acc8, zs, lo8.trans lo11, l8.trans l911, n11, hD11, ra8.le l911 en8.ok.pk, en8.le l911, kS _ _ _ _ g8 en8.ok.weak lo11.weak, hb11⟩
            | true =>
              dsimp only
              rw [if_pos rfl]
              refine ⟨P11, O', ρ2, _, fun _ => False, en10.le l11, hb11, fun P12 H12 yv yd l12 ry hy => ?_, fun _ _ _ _ _ _ _ z => z⟩
              have l812 := l911.trans l12
              have hy : f9 (some yd) := hy
              rw [← hf9] at hy
              have hy : zs.length < sizeLine ∧ lcGo step1 (ys1.drop (j + 1)) (zs ++ [yd]) fq (fun _ => False) := hy
              have n12 : ¬ P12 D := l12.np n11 hD11
              have en12 := en8.le l812
              have lo : LeO c P12 O' H12 P12 (upd H12 D (.lst (acc8 ++ [yv]))) := LeO.upd en12.ok oD n12 (own _)
              refine ⟨acc8, l12.keep D _ n11 hD11, by rw [ra8.length]; exact hy.1, P12, acc8 ++ [yv], zs ++ [yd], (lo8.trans (l812.o en8.ok)).trans lo, (l8.trans l812).updNew hD n12, n12, upd_same, ((ra8.le l812 en8.ok.pk).append (.cons ry .nil)).leO lo en12.ok, en12.leO lo, kS _ _ _ _ (kS _ _ _ _ g8 en8.ok.weak (l812.o en8.ok).weak) en12.ok.weak lo.weak, hy.2⟩
        · have e : j = ys1.length := by omega
          subst e
          rw [List.drop_length] at hw8
          exact .inl ⟨kSt P8 H8 g8, nxt P8 H8 acc8 zs lo8 l8 n8 hD8 ra8 hw8⟩
  · have e : i = ds.length := by omega
    subst e
    refine .inl ⟨gSt P2 H2 g2, ?_⟩
    rw [List.drop_length] at hw
    exact fin.val P2 H2 (.ref D) (.list ys) (l1.trans l2) (.lst n2 nO (.inl hD2) (ra.less oS en2.ok.pk)) hw
theorem pe_lc2D (C : Cmp c Γ E X) {ev evB : Expr → En → W D} (hE : ∀ e, PE X e (tD c E (ev e))) {elt tg iter tg1 iter1 : Expr} {ifs ifs1 : List Expr} {scope : Scope} {pos : Pos}
    (hB : ∀ X', Cmp c (Γ.blk scope) E0 X' → ∀ e, PE X' e (tD c E0 (evB e))) (hT : ∀ X', Cmp c (Γ.blk scope) E0 X' → ∀ e, PT X' e (tDT c E0 fun ρ => W.bind (evT evB e ρ) asB)) :
    PE X (.ListComp elt [⟨tg, iter, ifs, 0⟩, ⟨tg1, iter1, ifs1, 0⟩] scope pos) (tD c E (evLc2 Γ ev evB elt tg iter ifs tg1 iter1 ifs1 scope)) := by
  unfold evLc2
  cases hk : blkC Γ.N Γ.sc scope (ownOf Γ.N scope) && (!isSet iter && (!isSet iter1 && ((tgNames 20 tg1).filterMap (slotOf Γ.N)).all fun i => decide (i ∈ (ownOf Γ.N scope).map (·.2)))) with
  | false => exact PE.bad
  | true =>
    obtain ⟨h1, h2⟩ := Bool.and_eq_true_iff.mp hk
    obtain ⟨h2, h3⟩ := Bool.and_eq_true_iff.mp h2
    obtain ⟨h3, h4⟩ := Bool.and_eq_true_iff.mp h3
    have ok : BlkOk X.N X.env.scope scope (ownOf Γ.N scope) := by
      rw [C.N, C.sc]
      exact blkOk_by h1
    have hv1 : ∀ i ∈ (tgNames 20 tg1).filterMap (slotOf Γ.N), i ∈ (ownOf Γ.N scope).map (·.2) := fun i hi => of_decide_eq_true (List.all_eq_true.mp h4 i hi)
    refine PE.imp (pe_lc2 (vs1 := (tgNames 20 tg1).filterMap (slotOf Γ.N)) C.calm C.nd (evIter_ok C hE tg iter) ok hv1 (fun s H A cl fp => pg_D (C.blk s H scope cl A fp) 20 20 tg (Nat.le_refl _)) (fun s H A cl fp => pts_ok (hT _ (C.blk s H scope cl A fp)))
      (fun s H A cl fp => evIter_ok (C.blk s H scope cl A fp) (hB _ (C.blk s H scope cl A fp)) tg1 iter1) (fun s H A cl fp => pg_D (C.blk s H scope cl A fp) 20 20 tg1 (Nat.le_refl _)) (fun s H A cl fp => pts_ok (hT _ (C.blk s H scope cl A fp)))
      (fun s H A cl fp => hB _ (C.blk s H scope cl A fp) elt) (notSet (by simpa using h2)) (fun env => notSet (by simpa using h3))) fun σ H Q h => lc2_imp (fun x i hx hi => own_mem (blk_st hx) hi) (fun x hx i hi => List.mem_filterMap.mpr ⟨x, hx, hi⟩) h
theorem pe_evT {ev : Expr → En → W D} {e : Expr} (h : PE X e (tD c E (ev e))) : PE X e (tD c E (evT ev e)) := by
  unfold evT
  cases isIfE e with
  | true => exact PE.bad
  | false => exact h
theorem PT.badW {e : Expr} {g : En → W Bool} (h : ∀ ρ q x, ¬ g ρ q x) : PT X e (tDT c E g) := ⟨fun pins s σ H Q I q => by
  obtain ⟨_, _, _, _, _, _, k, _⟩ := q
  exact (h _ _ _ k).elim⟩
theorem pt_evD {ev : Expr → En → W D} {e : Expr} (h : PE X e (tD c E (ev e))) (he : ∀ whole, isTrue e X.env whole = (do let v ← whole; standAt e.pos; holding [v] (truthy v))) : PT X e (tDT c E fun ρ => W.bind (ev e ρ) asB) :=
  PT.imp (pt_val h he) fun σ H Q q => tD_B q
theorem pt_evT {ev : Expr → En → W D} {e : Expr} (h : PT X e (tDT c E fun ρ => W.bind (ev e ρ) asB)) : PT X e (tDT c E fun ρ => W.bind (evT ev e ρ) asB) := by
  unfold evT
  cases isIfE e with
  | true => exact PT.badW fun _ _ _ h => h
  | false => exact h
theorem evE_ok : ∀ (n : Nat) (Γ : Gm) (E : XK) (X : Cx), Cmp c Γ E X → (∀ e, PE X e (tD c E (evE n Γ e))) ∧ ∀ e, PT X e (tDT c E fun ρ => W.bind (evT (evE n Γ) e ρ) asB)
  | 0, Γ, E, X, C => ⟨fun e => PE.badW fun _ _ _ h => h, fun e => PT.badW fun ρ q x h => by
      unfold evT at h
      cases he : isIfE e with
      | true => rw [he] at h; exact h
      | false => rw [he] at h; exact h⟩
  | n + 1, Γ, E, X, C => by
    obtain ⟨ihE, ihT⟩ := evE_ok n Γ E X C
    have hu : X.A.units + 200 < cLine := by have := C.room.un; omega
    have hE : ∀ e, PE X e (tD c E (evE (n + 1) Γ e)) := fun e => by
      unfold evE
      split
      · exact pe_ret pe_int fun _ _ _ => .int _
      · exact pe_ret pe_bl fun _ _ _ => .bl _
      · exact pe_ret pe_non fun _ _ _ => .non
      · exact pe_ret pe_str fun _ _ _ => .str _
      · exact pe_nameD C
      · exact pe_binD C.K (ihE _) (ihE _)
      · exact pe_negD (ihE _)
      · exact pe_notD (pe_evT (ihE _))
      · exact evAnd_ok (fun e => pe_evT (ihE e)) _
      · exact evOr_ok (fun e => pe_evT (ihE e)) _
      · exact pe_ifD (ihT _) (ihE _) (ihE _)
      · rename_i a op b pos
        cases hm : behindInMarks op b with
        | true => exact PE.bad
        | false =>
          cases ht : tabOf Γ b with
          | none => exact pe_cmpD C.K hu (ihE a) (ihE b) hm
          | some kvs => exact pe_tabIn C ht (ihE a) hm
      · rename_i a op op' b d pos
        cases hm : lastMarks [op, op'] [b, d] with
        | true => exact PE.bad
        | false => exact pe_chainD C.K hu (ihE a) (ihE b) (ihE d) hm
      · exact pe_tupD (pa_itemsD C.K ihE _)
      · exact pe_lstD (pa_itemsD C.K ihE _)
      · exact pe_revD C.K (ihE _)
      · exact pe_slD C.K (ihE _) (po_D ihE _) (po_D ihE _)
      · rename_i a b pos _ _
        cases hs : isSlice b with
        | true => exact PE.bad
        | false =>
          cases ht : tabOf Γ a with
          | none => exact pe_ixD C.K (ihE a) (ihE b) hs
          | some kvs => exact pe_tabIx C ht (ihE b) hs
      · rename_i x p args pos
        cases hx : decide (Γ.sc.names.lookup x = some .globalImplicit) with
        | true => exact pe_callD C ihE
        | false => exact pe_callV C ihE (ihE _)
      · exact pe_callKD C ihE
      · exact pe_callVS C ihE (ihE _)
      · exact pe_emp
      · exact pe_lcD C ihE (fun X' C' => (evE_ok n _ _ X' C').1) (fun X' C' => (evE_ok n _ _ X' C').2)
      · exact pe_lc2D C ihE (fun X' C' => (evE_ok n _ _ X' C').1) (fun X' C' => (evE_ok n _ _ X' C').2)
      · exact PE.bad
    refine ⟨hE, fun e => ?_⟩
    cases e with
    | IfExp t a b p => exact PT.badW fun ρ q x h => h
    | BoolOp op vs p =>
      refine pt_evT ?_
      cases op with
      | And =>
        cases vs with
        | nil => exact PT.badW fun ρ q x h => h
        | cons v vs => exact (evAnd_okT ihT (v :: vs) (List.cons_ne_nil _ _)).pt
      | Or =>
        cases vs with
        | nil => exact PT.badW fun ρ q x h => h
        | cons v vs => exact (evOr_okT ihT (v :: vs) (List.cons_ne_nil _ _)).pt
    | UnaryOp op a p =>
      refine pt_evT ?_
      cases op with
      | Not => exact pt_notD (ihT a)
      | _ => exact pt_evD (hE _) fun _ => rfl
    | Compare a ops bs p =>
      refine pt_evT ?_
      rcases ops with _ | ⟨op, _ | ⟨op', _ | ⟨op2, ops⟩⟩⟩ <;> rcases bs with _ | ⟨b, _ | ⟨d, _ | ⟨b2, bs⟩⟩⟩ <;> first
        | exact PT.badW fun ρ q x h => h
        | skip
      · show PT X _ (tDT c E fun ρ => W.bind ((match behindInMarks op b, tabOf Γ b with
          | true, _ => fun _ => W.bad
          | false, some kvs => fun ρ => W.bind (evE n Γ a ρ) (dTabIn op kvs)
          | false, none => fun ρ => W.bind (evE n Γ a ρ) fun x => W.bind (evE n Γ b ρ) fun y => dCmp op x y : En → W PyData) ρ) asB)
        cases hm : behindInMarks op b with
        | true => exact PT.badW fun ρ q x h => h
        | false =>
          cases ht : tabOf Γ b with
          | none => exact pt_cmpD C.K hu (ihE a) (ihE b) hm
          | some kvs => exact pt_tabIn C ht (ihE a) hm
      · show PT X _ (tDT c E fun ρ => W.bind ((match lastMarks [op, op'] [b, d] with
          | true => fun _ => W.bad
          | false => fun ρ => W.bind (evE n Γ a ρ) fun x => W.bind (evE n Γ b ρ) fun y => W.bind (W.bind (dCmp op x y) asB) fun k => match k with
            | true => W.bind (evE n Γ d ρ) fun z => dCmp op' y z
            | false => W.ret (.bool false) : En → W PyData) ρ) asB)
        cases hm : lastMarks [op, op'] [b, d] with
        | true => exact PT.badW fun ρ q x h => h
        | false => exact pt_chainD C.K hu (ihE a) (ihE b) (ihE d) hm
    | _ => exact pt_evT (pt_evD (hE _) fun _ => rfl)
end
end PD

set_option maxHeartbeats 4000000
/-! PDo: owned lists: slots of their own that hold lists nobody else knows. -/
namespace PD
open PySem PySem.Spec PyProof.Rows L2
section
variable {ρ : En} {i j : Nat} {x : Option D}
theorem wipeE_len : ∀ {vs : List Nat} {ρ : En}, (wipeE ρ vs).length = ρ.length
  | [], _ => rfl
  | v :: vs, ρ => by unfold wipeE; rw [List.length_set, wipeE_len (vs := vs)]
theorem wipeE_out : ∀ {vs : List Nat} {ρ : En}, i ∉ vs → (wipeE ρ vs)[i]? = ρ[i]?
  | [], _, _ => rfl
  | v :: vs, ρ, h => by
    have h1 : v ≠ i := fun e => h (by rw [e]; exact List.mem_cons_self)
    unfold wipeE
    rw [List.getElem?_set_ne h1]
    exact wipeE_out fun z => h (List.mem_cons_of_mem _ z)
theorem wipeE_in : ∀ {vs : List Nat} {ρ : En} {d : D}, i ∈ vs → (wipeE ρ vs)[i]? ≠ some (some d)
  | [], _, _, h => nomatch h
  | v :: vs, ρ, d, h => fun z => by
    unfold wipeE at z
    by_cases e : v = i
    · subst e
      by_cases hl : v < (wipeE ρ vs).length
      · rw [List.getElem?_set_self hl] at z; cases z
      · rw [List.getElem?_eq_none (by rw [List.length_set]; omega)] at z; cases z
    · rw [List.getElem?_set_ne e] at z
      exact wipeE_in ((List.mem_cons.mp h).resolve_left fun z => e z.symm) z
theorem wipeE_setIn : ∀ {vs : List Nat} {ρ : En}, wipeE (ρ.set i x) vs = if i ∈ vs then wipeE ρ vs else (wipeE ρ vs).set i x
  | [], ρ => by simp [wipeE]
  | v :: vs, ρ => by
    unfold wipeE
    rw [wipeE_setIn (vs := vs)]
    by_cases h : i = v
    · subst h
      simp only [List.mem_cons, true_or, if_true]
      split
      · rfl
      · rw [List.set_set]
    · by_cases h2 : i ∈ vs
      · simp [h2]
      · rw [if_neg h2, if_neg (by simp [h, h2]), List.set_comm _ _ h]
theorem set_some {i j : Nat} {d d' : D} {ρ : En} (h0 : ∃ e, ρ[i]? = some (some e)) (h : (ρ.set i (some d'))[j]? = some (some d)) : ∃ e, ρ[j]? = some (some e) := by
  by_cases e : i = j
  · subst e; exact h0
  · rw [List.getElem?_set_ne e] at h
    exact ⟨_, h⟩
end
abbrev OM (O M : Addr → Prop) : Addr → Prop := fun a => O a ∨ M a
theorem ownLst {xs : List V} : OwnO (.lst xs) := ⟨fun _ z => (nomatch z), fun _ _ z => (nomatch z)⟩
/-- the state: what is not of its own, and the lists that are -/
structure EnvS (c : Cn) (L : List Nat) (P O M : Addr → Prop) (H : Hp) (σ : L2.St) (ρ : En) : Prop where
  env : EnvOk c P (OM O M) H σ (wipeE ρ L)
  own : ∀ i, i ∈ L → ∀ d, ρ[i]? = some (some d) → ∃ a xs ds, d = .list ds ∧ σ[i]? = some (some (.ref a)) ∧ M a ∧ H a = some (.lst xs) ∧ RpA c P (OM O M) H xs ds
  dis : ∀ a, M a → ¬ O a ∧ ¬ P a
  uni : ∀ i, i ∈ L → ∀ j, j ∈ L → i ≠ j → ∀ d e a, ρ[i]? = some (some d) → ρ[j]? = some (some e) → σ[i]? = some (some (.ref a)) → σ[j]? = some (some (.ref a)) → False
/-- the world has grown, what is of its own may have turned -/
structure LeS (c : Cn) (P M : Addr → Prop) (H : Hp) (P' M' : Addr → Prop) (H' : Hp) : Prop where
  mono : ∀ a, P a → P' a
  new : ∀ a, P' a → ¬ P a → H a = none
  mm : ∀ a, M a → M' a
  keep : ∀ a o, ¬ P a → ¬ M a → H a = some o → H' a = some o
  pool : POk c P' H'
  grow : ∀ a, M' a → M a ∨ H a = none
  liv : ∀ a, M a → H' a ≠ none
section
variable {c : Cn} {L : List Nat} {P P' P'' O O' M M' M'' : Addr → Prop} {H H' H'' : Hp} {σ σ' : L2.St} {ρ ρ' : En}
theorem LeS.refl (ok : POk c P H) (h : ∀ a, M a → H a ≠ none) : LeS c P M H P M H := ⟨fun _ h => h, fun _ h n => absurd h n, fun _ h => h, fun _ _ _ _ h => h, ok, fun _ h => .inl h, h⟩
theorem LeS.back (l : LeS c P M H P' M' H') {a : Addr} (hP : ¬ P' a) (h : H' a = none) : H a = none := by
  cases q : H a with
  | none => rfl
  | some o =>
    by_cases hm : M a
    · exact absurd h (l.liv a hm)
    · rw [l.keep a o (fun z => hP (l.mono a z)) hm q] at h; cases h
theorem LeS.trans (l : LeS c P M H P' M' H') (m : LeS c P' M' H' P'' M'' H'') : LeS c P M H P'' M'' H'' where
  mono a h := m.mono a (l.mono a h)
  new a h n := by
    by_cases z : P' a
    · exact l.new a z n
    · exact l.back z (m.new a h z)
  mm a h := m.mm a (l.mm a h)
  keep a o n hm h := by
    have z : ¬ P' a := fun z => by
      have := l.new a z n
      rw [h] at this
      cases this
    have zm : ¬ M' a := fun z => (l.grow a z).elim hm fun e => by rw [h] at e; cases e
    exact m.keep a o z zm (l.keep a o n hm h)
  pool := m.pool
  grow a h := by
    rcases m.grow a h with z | z
    · exact l.grow a z
    · by_cases hp : P' a
      · obtain ⟨_, _, _, e, _⟩ := l.pool a hp
        rw [z] at e; cases e
      · exact .inr (l.back hp z)
  liv a h := m.liv a (l.mm a h)
theorem EnvS.liv (e : EnvS c L P O M H σ ρ) {a : Addr} (h : M a) : H a ≠ none := fun z => by
  obtain ⟨o, h1, _⟩ := e.env.ok.ow a (.inr h)
  rw [z] at h1; cases h1
theorem EnvS.refl (e : EnvS c L P O M H σ ρ) : LeS c P M H P M H := .refl e.env.ok.pk fun _ h => e.liv h
theorem LeS.of (e : EnvS c L P O M H σ ρ) (l : Le c P H P' H') : LeS c P M H P' M H' := ⟨l.mono, l.new, fun _ h => h, fun a o n _ h => l.keep a o n h, l.pool, fun _ h => .inl h, fun a h => by
  obtain ⟨o, h1, _⟩ := e.env.ok.ow a (.inr h)
  rw [l.keep a o (e.dis a h).2 h1]
  exact fun z => nomatch z⟩
theorem LeS.le0 (l : LeS c P (fun _ => False) H P' M' H') : Le c P H P' H' := ⟨l.mono, l.new, fun a o n h => l.keep a o n (fun z => z) h, l.pool⟩
theorem EnvS.okO (e : EnvS c L P O M H σ ρ) : WOk c P O H := ⟨e.env.ok.pk, fun a h => e.env.ok.ow a (.inl h)⟩
/-- all slots, for those who own less -/
theorem EnvS.full (e : EnvS c L P O M H σ ρ) : EnvOk c P O H σ ρ := ⟨e.okO, by rw [e.env.len, wipeE_len], fun i d h => by
  by_cases hi : i ∈ L
  · obtain ⟨a, xs, ds, rfl, h1, h2, h3, h4⟩ := e.own i hi d h
    exact ⟨_, h1, .lst (e.dis a h2).2 (e.dis a h2).1 (.inl h3) (h4.less (fun _ z => .inl z) e.env.ok.pk)⟩
  · obtain ⟨v, h1, h2⟩ := e.env.at_ i d (by rw [wipeE_out hi]; exact h)
    exact ⟨v, h1, h2.less (fun _ z => .inl z) e.env.ok.pk⟩⟩
theorem EnvS.le (e : EnvS c L P O M H σ ρ) (l : Le c P H P' H') : EnvS c L P' O M H' σ ρ := ⟨e.env.le l, fun i hi d h => by
  obtain ⟨a, xs, ds, h0, h1, h2, h3, h4⟩ := e.own i hi d h
  exact ⟨a, xs, ds, h0, h1, h2, l.keep a _ (e.dis a h2).2 h3, h4.le l e.env.ok.pk⟩, fun a h => ⟨(e.dis a h).1, by
  obtain ⟨o, h1, _⟩ := e.env.ok.ow a (.inr h)
  exact l.np (e.dis a h).2 h1⟩, e.uni⟩
theorem EnvS.set (e : EnvS c L P O M H σ ρ) {i : Nat} (hi : i ∉ L) {v : V} {d : D} (r : Rp c P (OM O M) H v d) : EnvS c L P O M H (σ.set i (some v)) (ρ.set i (some d)) := ⟨by
  rw [wipeE_setIn, if_neg hi]
  exact e.env.set r, fun j hj d' h => by
  have ne : i ≠ j := fun z => hi (by rw [z]; exact hj)
  rw [List.getElem?_set_ne ne] at h ⊢
  exact e.own j hj d' h, e.dis, fun j hj k hk n d1 d2 a h1 h2 h3 h4 => by
  have nj : i ≠ j := fun z => hi (by rw [z]; exact hj)
  have nk : i ≠ k := fun z => hi (by rw [z]; exact hk)
  rw [List.getElem?_set_ne nj] at h1 h3
  rw [List.getElem?_set_ne nk] at h2 h4
  exact e.uni j hj k hk n d1 d2 a h1 h2 h3 h4⟩
theorem EnvS.bind (e : EnvS c L P O M H σ ρ) (b : EnvOk c P (OM O M) H σ' (wipeE ρ' L)) (hs : ∀ i, i ∈ L → σ'[i]? = σ[i]?) (hr : ∀ i, i ∈ L → ρ'[i]? = ρ[i]?) : EnvS c L P O M H σ' ρ' := ⟨b, fun j hj d' h => by
  rw [hr j hj] at h
  rw [hs j hj]
  exact e.own j hj d' h, e.dis, fun j hj k hk n d1 d2 a h1 h2 h3 h4 => by
  rw [hr j hj] at h1
  rw [hr k hk] at h2
  rw [hs j hj] at h3
  rw [hs k hk] at h4
  exact e.uni j hj k hk n d1 d2 a h1 h2 h3 h4⟩
/-- a list of one's own turns -/
theorem LeS.turn (e : EnvS c L P O M H σ ρ) {a : Addr} {xs : List V} (h : M a) : LeS c P M H P M (upd H a (.lst xs)) := ⟨fun _ h => h, fun _ h n => absurd h n, fun _ h => h, fun b o _ n q => by
  rw [upd_ne (fun z : b = a => n (by rw [z]; exact h))]; exact q, (LeO.upd e.env.ok (o := .lst xs) (.inr h : OM O M a) (e.dis a h).2 ownLst).pool, fun _ h => .inl h, fun b hb => by
  by_cases z : b = a
  · subst z; rw [upd_same]; exact fun z => nomatch z
  · rw [upd_ne z]; exact e.liv hb⟩
theorem EnvS.turn (e : EnvS c L P O M H σ ρ) {i : Nat} (hi : i ∈ L) {a : Addr} {d0 : D} {ys : List V} {es : List D} (h0 : ρ[i]? = some (some d0)) (hs : σ[i]? = some (some (.ref a))) (hm : M a) (r : RpA c P (OM O M) H ys es) :
    EnvS c L P O M (upd H a (.lst ys)) σ (ρ.set i (some (.list es))) := by
  have lo := LeO.upd e.env.ok (o := .lst ys) (.inr hm : OM O M a) (e.dis a hm).2 ownLst
  refine ⟨?_, fun j hj d h => ?_, e.dis, fun j hj k hk n d1 d2 b h1 h2 h3 h4 => ?_⟩
  · rw [wipeE_setIn, if_pos hi]
    exact e.env.leO lo
  · by_cases z : i = j
    · subst z
      have hl : i < ρ.length := (List.getElem?_eq_some_iff.mp h0).1
      rw [List.getElem?_set_self hl] at h
      cases h
      exact ⟨a, ys, es, rfl, hs, hm, upd_same, r.leO lo e.env.ok⟩
    · rw [List.getElem?_set_ne z] at h
      obtain ⟨b, xs, ds, h1, h2, h3, h4, h5⟩ := e.own j hj d h
      refine ⟨b, xs, ds, h1, h2, h3, ?_, h5.leO lo e.env.ok⟩
      rw [upd_ne (fun q : b = a => e.uni i hi j hj z d0 d a h0 h hs (by rw [← q]; exact h2))]
      exact h4
  · obtain ⟨u1, h1⟩ := set_some ⟨_, h0⟩ h1
    obtain ⟨u2, h2⟩ := set_some ⟨_, h0⟩ h2
    exact e.uni j hj k hk n u1 u2 b h1 h2 h3 h4
/-- a new list of one's own -/
theorem EnvS.new (e : EnvS c L P O M H σ ρ) {i : Nat} (hi : i ∈ L) {a : Addr} {ys : List V} {es : List D} (hn : H a = none) (r : RpA c P (OM O M) H ys es) :
    LeS c P M H P (fun b => M b ∨ b = a) (upd H a (.lst ys)) ∧ EnvS c L P O (fun b => M b ∨ b = a) (upd H a (.lst ys)) (σ.set i (some (.ref a))) (ρ.set i (some (.list es))) := by
  have ok := e.env.ok
  have nP := ok.np hn
  have nM : ¬ M a := fun z => e.liv z hn
  have nO : ¬ O a := fun z => ok.no hn (.inl z)
  have la : Le c P H P (upd H a (.lst ys)) := .laid ok.pk hn
  have av : ∀ b, OM O (fun b => M b ∨ b = a) b → OM O M b ∨ H b = none := fun b z => by
    rcases z with z | z | z
    · exact .inl (.inl z)
    · exact .inl (.inr z)
    · exact .inr (by rw [z]; exact hn)
  have okN : WOk c P (OM O (fun b => M b ∨ b = a)) (upd H a (.lst ys)) := ⟨la.pool, fun b z => by
    by_cases q : b = a
    · subst q; exact ⟨_, upd_same, ownLst⟩
    · have z' : OM O M b := by
        rcases z with z | z | z
        · exact .inl z
        · exact .inr z
        · exact absurd z q
      obtain ⟨o, h1, h2⟩ := ok.ow b z'
      exact ⟨o, by rw [upd_ne q]; exact h1, h2⟩⟩
  refine ⟨⟨fun _ h => h, fun _ h n => absurd h n, fun _ h => .inl h, fun b o n _ h => la.keep b o n h, la.pool, fun b z => z.elim .inl fun z => .inr (by rw [z]; exact hn), fun b h => ?_⟩, ?_, ?_, ?_, ?_⟩
  · by_cases q : b = a
    · subst q; rw [upd_same]; exact fun z => nomatch z
    · rw [upd_ne q]; exact e.liv h
  · rw [wipeE_setIn, if_pos hi]
    refine ⟨okN, by rw [List.length_set]; exact e.env.len, fun j d h => ?_⟩
    have ne : i ≠ j := fun z => by subst z; exact wipeE_in hi h
    obtain ⟨v, h1, h2⟩ := e.env.at_ j d h
    exact ⟨v, by rw [List.getElem?_set_ne ne]; exact h1, (h2.avoid av).le la ok.pk⟩
  · intro j hj d h
    by_cases z : i = j
    · subst z
      have hl : i < ρ.length := by
        have := (List.getElem?_eq_some_iff.mp h).1
        rwa [List.length_set] at this
      rw [List.getElem?_set_self hl] at h
      cases h
      exact ⟨a, ys, es, rfl, List.getElem?_set_self (by rw [e.env.len, wipeE_len]; exact hl), .inr rfl, upd_same, (r.avoid av).le la ok.pk⟩
    · rw [List.getElem?_set_ne z] at h
      obtain ⟨b, xs, ds, h1, h2, h3, h4, h5⟩ := e.own j hj d h
      exact ⟨b, xs, ds, h1, by rw [List.getElem?_set_ne z]; exact h2, .inl h3, la.keep b _ (e.dis b h3).2 h4, (h5.avoid av).le la ok.pk⟩
  · intro b z
    rcases z with z | z
    · exact e.dis b z
    · rw [z]; exact ⟨nO, nP⟩
  · have fresh : ∀ j, j ∈ L → ∀ d, ρ[j]? = some (some d) → σ[j]? = some (some (.ref a)) → False := fun j hj d h1 h2 => by
      obtain ⟨b, xs, ds, _, q1, q2, q3, _⟩ := e.own j hj d h1
      rw [q1] at h2
      cases h2
      rw [hn] at q3
      cases q3
    intro j hj k hk n d1 d2 b h1 h2 h3 h4
    by_cases zj : i = j
    · subst zj
      rw [List.getElem?_set_ne n] at h2 h4
      have hl : i < σ.length := by
        have := (List.getElem?_eq_some_iff.mp h3).1
        rwa [List.length_set] at this
      rw [List.getElem?_set_self hl] at h3
      cases h3
      exact fresh k hk d2 h2 h4
    · rw [List.getElem?_set_ne zj] at h1 h3
      by_cases zk : i = k
      · subst zk
        have hl : i < σ.length := by
          have := (List.getElem?_eq_some_iff.mp h4).1
          rwa [List.length_set] at this
        rw [List.getElem?_set_self hl] at h4
        cases h4
        exact fresh j hj d1 h1 h3
      · rw [List.getElem?_set_ne zk] at h2 h4
        exact e.uni j hj k hk n d1 d2 b h1 h2 h3 h4
end
section
variable {Γ : Gm} {L : List Nat}
mutual
theorem bindTg_wipe : ∀ (n m : Nat) (tg : Expr) (d : D) (ρ : En), n ≤ m → (∀ x, x ∈ tgNames m tg → ∀ i, slotOf Γ.N x = some i → i ∉ L) → bindTg Γ n tg d (wipeE ρ L) = (bindTg Γ n tg d ρ).map (wipeE · L)
  | 0, _, tg, d, ρ, _, _ => by cases tg <;> cases d <;> simp [bindTg]
  | n + 1, 0, _, _, _, h, _ => absurd h (by omega)
  | n + 1, m + 1, tg, d, ρ, hm, hL => by
    cases tg with
    | Name x p =>
      cases hs : Γ.st x with
      | false => simp [bindTg, hs]
      | true =>
        cases hi : slotOf Γ.N x with
        | none => simp [bindTg, hs, hi]
        | some i =>
          have : i ∉ L := hL x (by simp [tgNames]) i hi
          simp [bindTg, hs, hi, wipeE_setIn, this]
    | Tuple es kk p =>
      cases d with
      | tuple ds =>
        simp only [bindTg]
        split
        · exact bindGo_wipe n m es ds ρ (by omega) fun x hx => hL x (by simpa [tgNames] using hx)
        · rfl
      | _ => simp [bindTg]
    | _ => cases d <;> simp [bindTg]
theorem bindGo_wipe : ∀ (n m : Nat) (es : List Expr) (ds : List D) (ρ : En), n ≤ m → (∀ x, x ∈ es.flatMap (tgNames m) → ∀ i, slotOf Γ.N x = some i → i ∉ L) → bindTg.go Γ n es ds (wipeE ρ L) = (bindTg.go Γ n es ds ρ).map (wipeE · L)
  | n, _, [], [], ρ, _, _ => by cases n <;> simp [bindTg.go]
  | n, _, [], _ :: _, ρ, _, _ => by cases n <;> simp [bindTg.go]
  | n, _, _ :: _, [], ρ, _, _ => by cases n <;> simp [bindTg.go]
  | 0, _, _ :: _, _ :: _, ρ, _, _ => by simp [bindTg.go]
  | n + 1, m, e :: es, d :: ds, ρ, hm, hL => by
    unfold bindTg.go
    rw [bindTg_wipe n m e d ρ (by omega) fun x hx => hL x (List.mem_flatMap.mpr ⟨e, List.mem_cons_self .., hx⟩)]
    cases hb : bindTg Γ n e d ρ with
    | none => rfl
    | some ρ1 => exact bindGo_wipe n m es ds ρ1 (by omega) fun x hx => hL x (by
        obtain ⟨e', h1, h2⟩ := List.mem_flatMap.mp hx
        exact List.mem_flatMap.mpr ⟨e', List.mem_cons_of_mem _ h1, h2⟩)
end
mutual
theorem bindTg_keep : ∀ (n m : Nat) (tg : Expr) (d : D) (ρ ρ' : En), n ≤ m → (∀ x, x ∈ tgNames m tg → ∀ i, slotOf Γ.N x = some i → i ∉ L) → bindTg Γ n tg d ρ = some ρ' → ∀ i, i ∈ L → ρ'[i]? = ρ[i]?
  | 0, _, tg, d, ρ, ρ', _, _, h => by cases tg <;> cases d <;> simp [bindTg] at h
  | n + 1, 0, _, _, _, _, h, _, _ => absurd h (by omega)
  | n + 1, m + 1, tg, d, ρ, ρ', hm, hL, h => by
    cases tg with
    | Name x p =>
      cases hs : Γ.st x with
      | false => simp [bindTg, hs] at h
      | true =>
        cases hi : slotOf Γ.N x with
        | none => simp [bindTg, hs, hi] at h
        | some i =>
          have : i ∉ L := hL x (by simp [tgNames]) i hi
          simp [bindTg, hs, hi] at h
          intro j hj
          rw [← h, List.getElem?_set_ne fun z => this (by rw [z]; exact hj)]
    | Tuple es kk p =>
      cases d with
      | tuple ds =>
        simp only [bindTg] at h
        split at h
        · exact bindGo_keep n m es ds ρ ρ' (by omega) (fun x hx => hL x (by simpa [tgNames] using hx)) h
        · cases h
      | _ => simp [bindTg] at h
    | _ => cases d <;> simp [bindTg] at h
theorem bindGo_keep : ∀ (n m : Nat) (es : List Expr) (ds : List D) (ρ ρ' : En), n ≤ m → (∀ x, x ∈ es.flatMap (tgNames m) → ∀ i, slotOf Γ.N x = some i → i ∉ L) → bindTg.go Γ n es ds ρ = some ρ' → ∀ i, i ∈ L → ρ'[i]? = ρ[i]?
  | n, _, [], [], ρ, ρ', _, _, h => by
    cases n <;> simp [bindTg.go] at h <;> (intro i _; rw [h])
  | n, _, [], _ :: _, ρ, ρ', _, _, h => by cases n <;> simp [bindTg.go] at h
  | n, _, _ :: _, [], ρ, ρ', _, _, h => by cases n <;> simp [bindTg.go] at h
  | 0, _, _ :: _, _ :: _, ρ, ρ', _, _, h => by simp [bindTg.go] at h
  | n + 1, m, e :: es, d :: ds, ρ, ρ', hm, hL, h => by
    unfold bindTg.go at h
    obtain ⟨ρ1, h1, h2⟩ := Option.bind_eq_some_iff.mp h
    intro i hi
    rw [bindGo_keep n m es ds ρ1 ρ' (by omega) (fun x hx => hL x (by
        obtain ⟨e', h1, h2⟩ := List.mem_flatMap.mp hx
        exact List.mem_flatMap.mpr ⟨e', List.mem_cons_of_mem _ h1, h2⟩)) h2 i hi]
    exact bindTg_keep n m e d ρ ρ1 (by omega) (fun x hx => hL x (List.mem_flatMap.mpr ⟨e, List.mem_cons_self .., hx⟩)) h1 i hi
end
theorem tchN_at {σ σ' : L2.St} {Ls : List Str} (t : TchN Γ Ls σ σ') {i : Nat} (h : ∀ x, x ∈ Ls → ∀ j, slotOf Γ.N x = some j → j ≠ i) : σ'[i]? = σ[i]? := by
  have e := t (Ls.filterMap (slotOf Γ.N)) fun x hx j hj => List.mem_filterMap.mpr ⟨x, hx, hj⟩
  have n : i ∉ Ls.filterMap (slotOf Γ.N) := fun z => by
    obtain ⟨x, hx, hj⟩ := List.mem_filterMap.mp z
    exact h x hx i hj rfl
  rw [← wipe_out (σ := σ') n, ← wipe_out (σ := σ) n, e]
end
end PD

set_option maxHeartbeats 4000000
/-! PD13: statements. -/
namespace PD
open PySem PySem.Spec PyProof.Rows L2
/-- what is wanted behind a statement -/
structure SK where
  nx : En → Prop
  rt : D → Prop
  bk : En → Prop
  ct : En → Prop
  xc : Xc → Prop
abbrev WS := En → SK → Prop
def isCompE : Expr → Bool
  | .ListComp _ _ _ _ => true
  | .SetComp _ _ _ _ => true
  | .DictComp _ _ _ _ _ => true
  | _ => false
def par2 (sc : Scope) (x y : Str) (px py : Pos) (a b : Expr) : Bool :=
  (match sc.kind with | .function => true | _ => false) && (decide (sc.names.lookup x = some .local) && (decide (sc.names.lookup y = some .local) && ((px.line == py.line) && (!(y == x) && ((!isStar a && !isStar b) && (!([a, b].all (foldedForSure 8)) && !([a, b].all (constantsAlone 8))))))))
/-- not both are plain locals: the stores are not swapped -/
def swn2 (sc : Scope) (x y : Str) : Bool := !decide (sc.names.lookup x = some .local) || !decide (sc.names.lookup y = some .local)
def exSs (ex : Stmt → WS) : List Stmt → WS
  | [], ρ, k => k.nx ρ
  | s :: r, ρ, k => ex s ρ { k with nx := fun ρ' => exSs ex r ρ' k }
def forGo (Γ : Gm) (tg : Expr) (body : WS) : List D → WS
  | [], ρ, k => k.nx ρ
  | d :: ds, ρ, k => bindK Γ False 20 tg d ρ fun ρ' => body ρ' { k with nx := fun r => forGo Γ tg body ds r k, ct := fun r => forGo Γ tg body ds r k, bk := k.nx }
def exW (t : En → W Bool) (body : WS) : WS := fun ρ k => ∃ V : Nat → En → Prop, (∃ m, V m ρ) ∧ ∀ m ρ, V m ρ → t ρ (fun b => match b with
  | true => body ρ { k with nx := fun r => ∃ m', m' < m ∧ V m' r, ct := fun r => ∃ m', m' < m ∧ V m' r, bk := k.nx }
  | false => k.nx ρ) k.xc
/-- a pool's cell is written -/
def okPool (i v : Int) : Prop := match i with
  | 0 => 0 ≤ v ∧ v < 4294967296
  | 1 => 0 ≤ v
  | 2 => True
  | _ => False
def poolSet (f : D) (i : Int) (v : D) (p : Prop) : Prop := match f, v with
  | .dict [(.none, .none)], .int v => okPool i v ∧ p
  | _, _ => False
/-- return [a, b, c] where a pool is made -/
def retPool (ds : List D) (q : D → Prop) : Prop := match ds with
  | [.int x, .int y, .int z] => G0 x y z ∧ q poolD
  | _ => False
def listOf : Expr → Option (List Expr)
  | .List es _ => some es
  | _ => none
/-- what is not of one's own -/
def hid (Γ : Gm) (ρ : En) : En := wipeE ρ Γ.own
def isOwn (Γ : Gm) (x : Str) : Bool := match slotOf Γ.N x with
  | some i => Γ.own.contains i
  | none => false
def tgOwn (Γ : Gm) (tg : Expr) : Bool := (tgNames 20 tg).any (isOwn Γ)
def asL (d : D) (p : List D → Prop) : Prop := match d with
  | .list ds => p ds
  | _ => False
def ownL (ρ : En) (i : Nat) (p : List D → Prop) : Prop := match ρ[i]? with
  | some (some d) => asL d p
  | _ => False
def ownSet (j : D) (d : D) (ds : List D) (p : List D → Prop) : Prop := match j with
  | .int i => match ixN ds.length i with
    | some j => p (ds.set j d)
    | none => False
  | _ => False
def ownSt (ev : Expr → En → W D) (Γ : Gm) (i : Nat) (idx : Expr) (d : D) (ρ : En) (k : En → Prop) (xc : Xc → Prop) : Prop :=
  ownL ρ i fun ds => ev idx (hid Γ ρ) (fun j => ownSet j d ds fun es => k (ρ.set i (some (.list es)))) xc
/-- a new list -/
def evNew (Γ : Gm) (ev : Expr → En → W D) (e : Expr) : En → W (List D) := match e with
  | .List es _ => fun ρ => W.bind (evItems ev es ρ) fun ds => W.need (sizeOk ds) (W.ret ds)
  | .Call (.Name f _) [a] [] _ => match decide (f = "list") && (isGlobFree Γ f && !isStar a) with
    | true => fun ρ => W.bind (ev a ρ) itemsOf
    | false => fun _ => W.bad
  | _ => fun _ => W.bad
def isNil : Expr → Bool
  | .List [] _ => true
  | _ => false
/-- no plain locals all of them: the stores are not swapped -/
def swnG (sc : Scope) (ts : List Expr) : Bool := ts.any fun
  | .Name x _ => !decide (sc.names.lookup x = some .local)
  | _ => true
def cintOf : Expr → Option Int
  | .Constant (.int i) _ _ => some i
  | _ => none
def exS : Nat → Gm → Stmt → WS
  | 0, _, _ => fun _ _ => False
  | n + 1, Γ, st => match st with
    | .Return (some e) _ => match Γ.mkP, listOf e with
      | true, some es => fun ρ k => evItems (evE n Γ) es ρ (fun ds => retPool ds k.rt) k.xc
      | _, _ => fun ρ k => evE n Γ e ρ k.rt k.xc
    | .Return none _ => fun _ k => k.rt .none
    | .Pass _ => fun ρ k => k.nx ρ
    | .Break _ => fun ρ k => k.bk ρ
    | .Continue _ => fun ρ k => k.ct ρ
    | .Expr (.Call (.Attribute (.Name x p) m apos) [e] [] cpos) _ => match isOwn Γ x && (decide (m = "append") && (decide (apos.endLine = cpos.line) && (!isStar e && (Γ.st x && !badName x)))), slotOf Γ.N x with
      | true, some i => fun ρ k => ownL ρ i fun ds => evE n Γ e (hid Γ ρ) (fun d => ds.length < sizeLine ∧ k.nx (ρ.set i (some (.list (ds ++ [d]))))) k.xc
      | _, _ => fun _ _ => False
    | .Expr e _ => match isCompE e with
      | true => fun _ _ => False
      | false => fun ρ k => evE n Γ e (hid Γ ρ) (fun _ => k.nx ρ) k.xc
    | .If t a b _ => fun ρ k => W.bind (evT (evE n Γ) t ρ) asB (fun h => match h with
      | true => exSs (exS n Γ) a ρ k
      | false => exSs (exS n Γ) b ρ k) k.xc
    | .Assign [.Name x _] e _ => match isOwn Γ x, Γ.st x, slotOf Γ.N x with
      | false, true, some i => fun ρ k => evE n Γ e (hid Γ ρ) (fun d => k.nx (ρ.set i (some d))) k.xc
      | true, true, some i => fun ρ k => evNew Γ (evE n Γ) e (hid Γ ρ) (fun ds => k.nx (ρ.set i (some (.list ds)))) k.xc
      | _, _, _ => fun _ _ => False
    | .Assign [.Tuple [.Subscript (.Name o1 _) j1 _, .Subscript (.Name o2 _) j2 _] _ _] (.Tuple [a, b] _ _) _ => match isOwn Γ o1 && (isOwn Γ o2 && ((!isSlice j1 && !isSlice j2) && ((!isStar a && !isStar b) && ((Γ.st o1 && !badName o1) && (Γ.st o2 && !badName o2))))), slotOf Γ.N o1, slotOf Γ.N o2 with
      | true, some i1, some i2 => fun ρ k => evE n Γ a ρ (fun d => evE n Γ b ρ (fun e => isAtom d = true ∧ isAtom e = true ∧ ownSt (evE n Γ) Γ i1 j1 d ρ (fun ρ' => ownSt (evE n Γ) Γ i2 j2 e ρ' k.nx k.xc) k.xc) k.xc) k.xc
      | _, _, _ => fun _ _ => False
    | .Assign [.Tuple [.Name x px, .Name y py] kt pt] (.Tuple [a, b] k2 pt2) _ => match isOwn Γ x || isOwn Γ y with
      | true => fun _ _ => False
      | false => match par2 Γ.sc x y px py a b, slotOf Γ.N x, slotOf Γ.N y with
        | false, _, _ => match swn2 Γ.sc x y with
          | true => fun ρ k => evE n Γ (.Tuple [a, b] k2 pt2) (hid Γ ρ) (fun d => bindK Γ False 20 (.Tuple [.Name x px, .Name y py] kt pt) d ρ k.nx) k.xc
          | false => fun _ _ => False
        | true, some i, some j => fun ρ k => evArgs (evE n Γ) [a, b] (hid Γ ρ) (fun ds => match ds with
          | [d, e] => k.nx ((ρ.set i (some d)).set j (some e))
          | _ => False) k.xc
        | _, _, _ => fun _ _ => False
    | .Assign [.Tuple [.Name x _, .Name y _, .Name z _] _ _] (.Tuple [a, b, l] _ _) _ => match !isOwn Γ x && (!isOwn Γ y && (isOwn Γ z && (isNil l && ((!isStar a && !isStar b) && (swnG Γ.sc [.Name x ⟨0, 0, 0, 0⟩, .Name y ⟨0, 0, 0, 0⟩, .Name z ⟨0, 0, 0, 0⟩] && (Γ.st x && (Γ.st y && Γ.st z))))))), slotOf Γ.N x, slotOf Γ.N y, slotOf Γ.N z with
      | true, some i, some j, some h => fun ρ k => evE n Γ a (hid Γ ρ) (fun d => evE n Γ b (hid Γ ρ) (fun e => k.nx (((ρ.set i (some d)).set j (some e)).set h (some (.list [])))) k.xc) k.xc
      | _, _, _, _ => fun _ _ => False
    | .Assign [.Subscript (.Name o po) j _] e _ => match isOwn Γ o, isTupT e || isCompE e with
      | true, false => match !isSlice j && (Γ.st o && !badName o), slotOf Γ.N o with
        | true, some i => fun ρ k => evE n Γ e ρ (fun d => isAtom d = true ∧ ownSt (evE n Γ) Γ i j d ρ k.nx k.xc) k.xc
        | _, _ => fun _ _ => False
      | false, false => match cintOf j with
        | some i => fun ρ k => evE n Γ e (hid Γ ρ) (fun d => evName Γ o (hid Γ ρ) (fun f => poolSet f i d (k.nx ρ)) k.xc) k.xc
        | none => fun _ _ => False
      | _, _ => fun _ _ => False
    | .Assign [.Tuple [.Subscript (.Name o po) (.Constant (.int i) _ _) _, .Name x _] _ _] e _ => match (isTupT e || isCompE e) || isOwn Γ x, Γ.st x, slotOf Γ.N x with
      | false, true, some j => fun ρ k => evE n Γ e (hid Γ ρ) (fun d => match d with
        | .tuple [u, v] => evName Γ o (hid Γ ρ) (fun f => poolSet f i u (k.nx (ρ.set j (some v)))) k.xc
        | _ => False) k.xc
      | _, _, _ => fun _ _ => False
    | .Assign [.Tuple ts kt pt] e _ => match (isTupT e || isCompE e) || tgOwn Γ (.Tuple ts kt pt) with
      | true => fun _ _ => False
      | false => fun ρ k => evE n Γ e (hid Γ ρ) (fun d => bindK Γ False 20 (.Tuple ts kt pt) d ρ k.nx) k.xc
    | .For tg it body [] _ => match isSet it || tgOwn Γ tg with
      | true => fun _ _ => False
      | false => fun ρ k => evIter Γ (evE n Γ) tg it (hid Γ ρ) (fun ds => forGo Γ tg (exSs (exS n Γ) body) ds ρ k) k.xc
    | .While t body [] _ => exW (fun ρ => W.bind (evT (evE n Γ) t ρ) asB) (exSs (exS n Γ) body)
    | _ => fun _ _ => False
structure FinS (c : Cn) (E : XK) (L : List Nat) (P O M : Addr → Prop) (H : Hp) (k : SK) (D : Ends) : Prop where
  nx : ∀ P' M' H' σ ρ, LeS c P M H P' M' H' → EnvS c L P' O M' H' σ ρ → k.nx ρ → D.nx σ H'
  rt : ∀ P' M' H' v d, LeS c P M H P' M' H' → Rp c P' O H' v d → k.rt d → D.rt v H'
  bk : ∀ P' M' H' σ ρ, LeS c P M H P' M' H' → EnvS c L P' O M' H' σ ρ → k.bk ρ → D.bk σ H'
  ct : ∀ P' M' H' σ ρ, LeS c P M H P' M' H' → EnvS c L P' O M' H' σ ρ → k.ct ρ → D.ct σ H'
  exc : ∀ P' M' H' cls dd e, LeS c P M H P' M' H' → RpX c P' O H' cls dd e → k.xc e → E cls dd H'
def tDS (c : Cn) (E : XK) (L : List Nat) (g : WS) : TS := fun D σ H => ∃ P O M ρ k, EnvS c L P O M H σ ρ ∧ g ρ k ∧ FinS c E L P O M H k D
/-- the context of a def's body fits -/
structure CmpS (c : Cn) (Γ : Gm) (E : XK) (X : Cx) : Prop extends Cmp c Γ E X where
  own : PassesOwn (model X.prog X.w) X.A X.env X.xe
section
variable {c : Cn} {X : Cx} {L : List Nat} {P P' O O' M M' : Addr → Prop} {H H' : Hp} {v w : V} {Γ : Gm} {E : XK} {σ : L2.St} {ρ : En} {Q : VK} {k : SK} {D : Ends}
theorem FinS.le (f : FinS c E L P O M H k D) (l : LeS c P M H P' M' H') : FinS c E L P' O M' H' k D :=
  ⟨fun P2 M2 H2 s r m => f.nx P2 M2 H2 s r (l.trans m), fun P2 M2 H2 v d m => f.rt P2 M2 H2 v d (l.trans m), fun P2 M2 H2 s r m => f.bk P2 M2 H2 s r (l.trans m), fun P2 M2 H2 s r m => f.ct P2 M2 H2 s r (l.trans m),
    fun P2 M2 H2 cls dd e m => f.exc P2 M2 H2 cls dd e (l.trans m)⟩
theorem RpX.less {cls : Value} {dd : Option Addr} {e : Xc} (ho : ∀ a, O' a → O a) (ok : POk c P H) (h : RpX c P O H cls dd e) : RpX c P O' H cls dd e := by
  obtain ⟨C, h1, h2, h3⟩ := h
  refine ⟨C, h1, h2, ?_⟩
  rcases h3 with h3 | ⟨d, v, q1, q2, q3, q4, q5⟩
  · exact .inl h3
  · exact .inr ⟨d, v, q1, q2, fun z => q3 (ho _ z), q4, q5.less ho ok⟩
theorem FinS.ex (f : FinS c E L P O M H k D) (e : EnvS c L P O M H σ ρ) : ExcOk c E P O H k.xc := fun P' H' cls dd x l r h => f.exc P' M H' cls dd x (.of e l) r h
theorem FinS.exH (f : FinS c E L P O M H k D) (e : EnvS c L P O M H σ ρ) : ExcOk c E P (OM O M) H k.xc := fun P' H' cls dd x l r h => f.exc P' M H' cls dd x (.of e l) (r.less (fun _ z => .inl z) l.pool) h
theorem notOwn {x : Str} {i : Nat} (h : isOwn Γ x = false) (hi : slotOf Γ.N x = some i) : i ∉ Γ.own := by
  unfold isOwn at h
  rw [hi] at h
  simpa using h
theorem isOwn_ok {x : Str} {i : Nat} (h : isOwn Γ x = true) (hi : slotOf Γ.N x = some i) : i ∈ Γ.own := by
  unfold isOwn at h
  rw [hi] at h
  simpa using h
theorem tgOwn_ok {tg : Expr} (h : tgOwn Γ tg = false) : ∀ x, x ∈ tgNames 20 tg → ∀ i, slotOf Γ.N x = some i → i ∉ Γ.own := fun x hx i hi => by
  refine notOwn ?_ hi
  have := List.any_eq_false.mp h x hx
  simpa using this
/-- a target is bound -/
theorem bind_ok {tg : Expr} {d : PyData} {u : V} {ρ' : En} (ht : tgOwn Γ tg = false) (e : EnvS c Γ.own P O M H σ ρ) (r : Rp c P (OM O M) H u d) (hb : bindTg Γ 20 tg d ρ = some ρ') {Q : L2.St → Hp → Prop}
    (k : ∀ σ', EnvS c Γ.own P O M H σ' ρ' → Q σ' H) : tDG c Γ 20 20 tg u σ H Q := by
  have hn := tgOwn_ok ht
  refine ⟨P, OM O M, _, d, wipeE ρ' Γ.own, e.env, r, ?_, fun σ' e' _ tch => k σ' (e.bind e' (fun i hi => tchN_at tch fun x hx j hj z => hn x hx j hj (by rw [z]; exact hi)) (bindTg_keep 20 20 tg d ρ ρ' (Nat.le_refl _) hn hb))⟩
  rw [bindTg_wipe 20 20 tg d ρ (Nat.le_refl _) hn, hb]
  rfl
theorem PS.imp {st : Stmt} {t t' : TS} (h : PS X st t) (i : ∀ D σ H, t' D σ H → t D σ H) : PS X st t' := ⟨fun pins s σ H D I q => h.run pins s σ H D I (i _ _ _ q)⟩
theorem PSs.imp {st : List Stmt} {t t' : TS} (h : PSs X st t) (i : ∀ D σ H, t' D σ H → t D σ H) : PSs X st t' := ⟨fun pins s σ H D I q => h.run pins s σ H D I (i _ _ _ q)⟩
theorem PS.badW {st : Stmt} {g : WS} (h : ∀ ρ k, ¬ g ρ k) : PS X st (tDS c E L g) := ⟨fun pins s σ H D I q => by
  obtain ⟨_, _, _, _, _, _, z, _⟩ := q
  exact (h _ _ z).elim⟩
theorem pss_D {ex : Stmt → WS} (hE : ∀ st, PS X st (tDS c E L (ex st))) : ∀ sts : List Stmt, PSs X sts (tDS c E L (exSs ex sts))
  | [] => PSs.imp pss_nil fun D σ H h => by
    obtain ⟨P, O, M, ρ, k, env, hg, fin⟩ := h
    exact fin.nx P M H σ ρ env.refl env hg
  | s :: r => PSs.imp (pss_cons (hE s) (pss_D hE r)) fun D σ H h => by
    obtain ⟨P, O, M, ρ, k, env, hg, fin⟩ := h
    exact ⟨P, O, M, ρ, _, env, hg, fun P1 M1 H1 σ1 ρ1 l1 e1 h1 => ⟨P1, O, M1, ρ1, k, e1, h1, fin.le l1⟩, fin.rt, fin.bk, fin.ct, fin.exc⟩
theorem noSwap {e : Expr} {t : Option Expr} {n : Nat} {env : Env} (h : isCompE e = false) : swapsWith e t n env = pure false := by
  cases e <;> first | rfl | cases h
theorem asg_one {es : List Expr} {kk : Nat} {p : Pos} {env : Env} : (assignEach [.Tuple es kk p] env).map (·.2) = [assign (.Tuple es kk p) env] := rfl
theorem notTup {ts : List Expr} {e : Expr} {env : Env} (h : isTupT e = false) : swappedStores ts e env = pure none := by
  cases e <;> first | (cases h; done) | (unfold swappedStores; split <;> first | rfl | (rename_i h2; split at h2 <;> simp_all))
theorem set_imp {g : En → W PyData} {i : Nat} (hi : i ∉ Γ.own) (h : tDS c E Γ.own (fun ρ k => g (hid Γ ρ) (fun d => k.nx (ρ.set i (some d))) k.xc) D σ H) : tAsg (tD c E g) (gName i) D σ H := by
  obtain ⟨P, O, M, ρ, k, env, hg, fin⟩ := h
  exact ⟨P, OM O M, _, _, k.xc, env.env, hg, fun P1 H1 u d l1 r1 h1 => fin.nx P1 M H1 _ _ (.of env l1) ((env.le l1).set hi r1) h1, fin.exH env⟩
theorem evE_asy {n : Nat} {as : Int} (h : as ≠ 0) {elt tg iter : Expr} {ifs : List Expr} {scope : Scope} {p : Pos} : evE (n + 1) Γ (.ListComp elt [⟨tg, iter, ifs, as⟩] scope p) = fun _ => W.bad := by
  match as, h with
  | .ofNat 0, h => exact absurd rfl h
  | .ofNat (m + 1), _ => rfl
  | .negSucc m, _ => rfl
theorem evE_many {n : Nat} {as as1 : Int} {gs : List Comprehension} {elt tg iter tg1 iter1 : Expr} {ifs ifs1 : List Expr} {scope : Scope} {p : Pos} (h : ¬ (as = 0 ∧ as1 = 0 ∧ gs = [])) :
    evE (n + 1) Γ (.ListComp elt (⟨tg, iter, ifs, as⟩ :: ⟨tg1, iter1, ifs1, as1⟩ :: gs) scope p) = fun _ => W.bad := by
  match as, as1, gs, h with
  | .ofNat 0, .ofNat 0, [], h => exact absurd ⟨rfl, rfl, rfl⟩ h
  | .ofNat 0, .ofNat 0, _ :: _, _ => rfl
  | .ofNat 0, .ofNat (m + 1), [], _ => rfl
  | .ofNat 0, .ofNat (m + 1), _ :: _, _ => rfl
  | .ofNat 0, .negSucc m, [], _ => rfl
  | .ofNat 0, .negSucc m, _ :: _, _ => rfl
  | .ofNat (m + 1), _, [], _ => rfl
  | .ofNat (m + 1), _, _ :: _, _ => rfl
  | .negSucc m, _, [], _ => rfl
  | .negSucc m, _, _ :: _, _ => rfl
theorem ps_setD (C : CmpS c Γ E X) {n i : Nat} {x : Str} {p pos : Pos} {e : Expr} (ho : isOwn Γ x = false) (hx : Γ.st x = true) (hi : slotOf Γ.N x = some i) :
    PS X (.Assign [.Name x p] e pos) (tDS c E Γ.own fun ρ k => evE n Γ e (hid Γ ρ) (fun d => k.nx (ρ.set i (some d))) k.xc) := by
  have hno := notOwn ho hi
  have hE := (evE_ok n Γ E X C.toCmp).1
  obtain ⟨hl, hf⟩ := C.st x hx
  have hN : X.N[i]? = some x := by rw [C.N]; exact slotOf_get hi
  cases hc : isCompE e with
  | false => exact PS.imp (ps_set C.nd hN hl (hE e) (noSwap hc) hf) fun D σ H h => set_imp hno h
  | true =>
    have other : ∀ e : Expr, (∀ m Γ, evE m Γ e = fun _ => W.bad) → PS X (.Assign [.Name x p] e pos) (tDS c E Γ.own fun ρ k => evE n Γ e (hid Γ ρ) (fun d => k.nx (ρ.set i (some d))) k.xc) := fun e h => by
      refine PS.badW fun ρ k z => ?_
      rw [h] at z
      exact z
    cases e with
    | ListComp elt gens scope pos' =>
      have sw : swapsWith (.ListComp elt gens scope pos') (some (.Name x p)) pos.line X.env = pure (X.env.blockKind == .function && X.env.kindOf x == some .local && p.line == pos'.line && !(scope.names.any fun (n, k) => n == x && (k == .local || k == .cell))) := rfl
      cases hb : (X.env.blockKind == .function && X.env.kindOf x == some .local && p.line == pos'.line && !(scope.names.any fun (n, k) => n == x && (k == .local || k == .cell))) with
      | false => exact PS.imp (ps_set C.nd hN hl (hE _) (by rw [sw, hb]) hf) fun D σ H h => set_imp hno h
      | true =>
        rw [hb] at sw
        simp only [Bool.and_eq_true] at hb
        have hyl : X.env.scope.names.lookup x = some .local := eq_of_beq hb.1.1.2
        cases n with
        | zero => exact PS.badW fun ρ k z => z
        | succ n =>
          rcases gens with _ | ⟨⟨tg, iter, ifs, as⟩, _ | ⟨g2, gs⟩⟩
          · exact PS.badW fun ρ k z => z
          · by_cases has : as = 0
            case neg =>
              refine PS.badW fun ρ k z => ?_
              rw [evE_asy has] at z
              exact z
            case pos =>
              subst has
              have hE' := evE_ok n Γ E X C.toCmp
              show PS X _ (tDS c E Γ.own fun ρ k => evLc Γ (evE n Γ) (evE n (Γ.blk scope)) elt tg iter ifs scope (hid Γ ρ) (fun d => k.nx (ρ.set i (some d))) k.xc)
              unfold evLc
              cases hk : blkC Γ.N Γ.sc scope (ownOf Γ.N scope) && !isSet iter with
              | false => exact PS.badW fun ρ k z => z
              | true =>
                obtain ⟨h1, h2⟩ := Bool.and_eq_true_iff.mp hk
                have ok : BlkOk X.N X.env.scope scope (ownOf Γ.N scope) := by
                  rw [C.N, C.sc]
                  exact blkOk_by h1
                refine PS.imp (ps_setLc C.calm C.nd hN hyl sw (evIter_ok C.toCmp hE'.1 tg iter) ok (fun s H A cl fp => pg_D (C.blk s H scope cl A fp) 20 20 tg (Nat.le_refl _)) (fun s H A cl fp => pts_ok (evE_ok n _ _ _ (C.blk s H scope cl A fp)).2) (fun s H A cl fp => (evE_ok n _ _ _ (C.blk s H scope cl A fp)).1 elt)
                  (notSet (by simpa using h2))) fun D σ H h => lc_imp (N := Γ.N) (Q := fun x H1 => gName i x σ H1 D.nx) (fun x i hx hi => own_mem (blk_st hx) hi) ?_
                obtain ⟨P, O, M, ρ, k, env, hg, fin⟩ := h
                exact ⟨P, OM O M, _, _, k.xc, env.env, hg, fun P1 H1 u d l1 r1 h1 => fin.nx P1 M H1 _ _ (.of env l1) ((env.le l1).set hno r1) h1, fin.exH env⟩
          · obtain ⟨tg1, iter1, ifs1, as1⟩ := g2
            by_cases has : as = 0 ∧ as1 = 0 ∧ gs = []
            case neg =>
              refine PS.badW fun ρ k z => ?_
              rw [evE_many has] at z
              exact z
            case pos =>
              obtain ⟨rfl, rfl, rfl⟩ := has
              have hE' := evE_ok n Γ E X C.toCmp
              show PS X _ (tDS c E Γ.own fun ρ k => evLc2 Γ (evE n Γ) (evE n (Γ.blk scope)) elt tg iter ifs tg1 iter1 ifs1 scope (hid Γ ρ) (fun d => k.nx (ρ.set i (some d))) k.xc)
              unfold evLc2
              cases hk : blkC Γ.N Γ.sc scope (ownOf Γ.N scope) && (!isSet iter && (!isSet iter1 && ((tgNames 20 tg1).filterMap (slotOf Γ.N)).all fun i => decide (i ∈ (ownOf Γ.N scope).map (·.2)))) with
              | false => exact PS.badW fun ρ k z => z
              | true =>
                obtain ⟨h1, h2⟩ := Bool.and_eq_true_iff.mp hk
                obtain ⟨h2, h3⟩ := Bool.and_eq_true_iff.mp h2
                obtain ⟨h3, h4⟩ := Bool.and_eq_true_iff.mp h3
                have ok : BlkOk X.N X.env.scope scope (ownOf Γ.N scope) := by
                  rw [C.N, C.sc]
                  exact blkOk_by h1
                have hv1 : ∀ i ∈ (tgNames 20 tg1).filterMap (slotOf Γ.N), i ∈ (ownOf Γ.N scope).map (·.2) := fun i hi => of_decide_eq_true (List.all_eq_true.mp h4 i hi)
                have hB := fun X' (C' : Cmp c (Γ.blk scope) E0 X') => evE_ok n _ _ X' C'
                refine PS.imp (ps_setLc2 (vs1 := (tgNames 20 tg1).filterMap (slotOf Γ.N)) C.calm C.nd hN hyl sw (evIter_ok C.toCmp hE'.1 tg iter) ok hv1 (fun s H A cl fp => pg_D (C.blk s H scope cl A fp) 20 20 tg (Nat.le_refl _)) (fun s H A cl fp => pts_ok (hB _ (C.blk s H scope cl A fp)).2)
                  (fun s H A cl fp => evIter_ok (C.blk s H scope cl A fp) (hB _ (C.blk s H scope cl A fp)).1 tg1 iter1) (fun s H A cl fp => pg_D (C.blk s H scope cl A fp) 20 20 tg1 (Nat.le_refl _)) (fun s H A cl fp => pts_ok (hB _ (C.blk s H scope cl A fp)).2)
                  (fun s H A cl fp => (hB _ (C.blk s H scope cl A fp)).1 elt) (notSet (by simpa using h2)) (fun env => notSet (by simpa using h3))) fun D σ H h => lc2_imp (Q := fun x H1 => gName i x σ H1 D.nx) (fun x i hx hi => own_mem (blk_st hx) hi) (fun x hx i hi => List.mem_filterMap.mpr ⟨x, hx, hi⟩) ?_
                obtain ⟨P, O, M, ρ, k, env, hg, fin⟩ := h
                exact ⟨P, OM O M, _, _, k.xc, env.env, hg, fun P1 H1 u d l1 r1 h1 => fin.nx P1 M H1 _ _ (.of env l1) ((env.le l1).set hno r1) h1, fin.exH env⟩
    | _ => first
      | (cases hc; done)
      | exact other _ (fun m Γ => by cases m <;> rfl)
theorem par2_ok {x y : Str} {px py pt pt2 : Pos} {kt k2 : Nat} {a b : Expr} {env : Env} (h : par2 env.scope x y px py a b = true) :
    swappedStores [.Tuple [.Name x px, .Name y py] kt pt] (.Tuple [a, b] k2 pt2) env = pure (some [x, y]) ∧ env.scope.names.lookup x = some .local ∧ env.scope.names.lookup y = some .local ∧ x ≠ y ∧ isStar a = false ∧ isStar b = false := by
  unfold par2 at h
  simp only [Bool.and_eq_true, decide_eq_true_eq, Bool.not_eq_true'] at h
  obtain ⟨h1, h2, h3, h4, h5, ⟨h6, h6'⟩, h7, h8⟩ := h
  have hk : env.scope.kind = .function := by
    split at h1
    · assumption
    · cases h1
  have hb : env.blockKind = .function := by
    unfold Env.blockKind
    rw [hk]
    rfl
  have kx : env.kindOf x = some .local := h2
  have ky : env.kindOf y = some .local := h3
  have hl := eq_of_beq h4
  have hne : x ≠ y := fun z => by rw [z] at h5; simp at h5
  refine ⟨?_, h2, h3, hne, h6, h6'⟩
  unfold swappedStores
  simp [hb, kx, ky, hl, h7, h8, List.eraseDups_cons, hne, Ne.symm hne, h5]
  rw [if_neg (by
    rintro (z | z)
    · cases a <;> first | (cases h6; done) | cases z
    · cases b <;> first | (cases h6'; done) | cases z)]
  have e1 : (Expr.Name x px).pos = px := rfl
  simp [List.filterMap_cons, e1, kx, ky, hl, List.eraseDups_cons, h5]
theorem ps_parD (C : CmpS c Γ E X) {n i j : Nat} {x y : Str} {px py pt pt2 pos : Pos} {kt k2 : Nat} {a b : Expr} (ho : (isOwn Γ x || isOwn Γ y) = false) (h : par2 Γ.sc x y px py a b = true) (hi : slotOf Γ.N x = some i) (hj : slotOf Γ.N y = some j) :
    PS X (.Assign [.Tuple [.Name x px, .Name y py] kt pt] (.Tuple [a, b] k2 pt2) pos) (tDS c E Γ.own fun ρ k => evArgs (evE n Γ) [a, b] (hid Γ ρ) (fun ds => match ds with
        | [d, e] => k.nx ((ρ.set i (some d)).set j (some e))
        | _ => False) k.xc) := by
  obtain ⟨ho1, ho2⟩ := Bool.or_eq_false_iff.mp ho
  rw [← C.sc] at h
  obtain ⟨hw, hx, hy, hne, h6, h6'⟩ := par2_ok (pt := pt) (pt2 := pt2) (kt := kt) (k2 := k2) h
  have hA := pa_argsD (evE_ok n Γ E X C.toCmp).1 [a, b]
  have hij : i ≠ j := fun z => by
    subst z
    have e1 := slotOf_get hi
    rw [slotOf_get hj] at e1
    exact hne (Option.some.inj e1).symm
  refine PS.imp (ps_par C.calm C.nd (by rw [C.N]; exact slotOf_get hi) (by rw [C.N]; exact slotOf_get hj) hij hx hy hA hw) fun D σ H h => ?_
  obtain ⟨P, O, M, ρ, k, env, hg, fin⟩ := h
  refine ⟨P, OM O M, _, _, k.xc, env.env, hg, fun P1 H1 us ds l1 r1 h1 => ?_, fin.exH env⟩
  split at h1
  · cases r1 with
    | cons r rr =>
      cases rr with
      | cons r' rr =>
        cases rr
        exact ⟨_, _, rfl, fin.nx P1 M H1 _ _ (.of env l1) (((env.le l1).set (notOwn ho1 hi) r).set (notOwn ho2 hj) r') h1⟩
  · exact h1.elim
theorem ps_tupD (C : CmpS c Γ E X) {n : Nat} {ts : List Expr} {kt : Nat} {pt pos : Pos} {e : Expr} (h1 : isTupT e = false) (h2 : isCompE e = false) (ht : tgOwn Γ (.Tuple ts kt pt) = false) :
    PS X (.Assign [.Tuple ts kt pt] e pos) (tDS c E Γ.own fun ρ k => evE n Γ e (hid Γ ρ) (fun d => bindK Γ False 20 (.Tuple ts kt pt) d ρ k.nx) k.xc) :=
  PS.imp (ps_asg ((evE_ok n Γ E X C.toCmp).1 e) (pg_D C.toCmp 20 20 (.Tuple ts kt pt) (Nat.le_refl _)) (show swapsWith e (some (.Tuple ts kt pt)) pos.line X.env = pure false from noSwap h2) (notTup h1)) fun D σ H h => by
    obtain ⟨P, O, M, ρ, k, env, hg, fin⟩ := h
    refine ⟨P, OM O M, _, _, k.xc, env.env, hg, fun P1 H1 u d l1 r1 h1 => ?_, fin.exH env⟩
    rw [bindK_eq] at h1
    cases hb : bindTg Γ 20 (.Tuple ts kt pt) d ρ with
    | none => rw [hb] at h1; exact h1.elim
    | some ρ' =>
      rw [hb] at h1
      exact bind_ok ht (env.le l1) r1 hb fun σ' e' => fin.nx P1 M H1 σ' ρ' (.of env l1) e' h1
theorem swn2_ok {x y : Str} {px py pt pt2 : Pos} {kt k2 : Nat} {a b : Expr} {env : Env} (h : swn2 env.scope x y = true) :
    swappedStores [.Tuple [.Name x px, .Name y py] kt pt] (.Tuple [a, b] k2 pt2) env = pure none := by
  have h : env.kindOf x ≠ some .local ∨ env.kindOf y ≠ some .local := by
    unfold swn2 at h
    rcases Bool.or_eq_true_iff.mp h with z | z
    · exact .inl (show ¬ (env.scope.names.lookup x = some .local) by simpa using z)
    · exact .inr (show ¬ (env.scope.names.lookup y = some .local) by simpa using z)
  have e1 : (Expr.Name x px).pos = px := rfl
  have e2 : (Expr.Name y py).pos = py := rfl
  have hl : ([Expr.Name x px, Expr.Name y py].filterMap fun
    | .Name id pos => if env.kindOf id == some .local && pos.line == (([Expr.Name x px, Expr.Name y py].head?.map (·.pos.line)).getD 0) then some id else none
    | _ => none).length ≠ 2 := by
    rcases h with z | z
    · have z' : (env.kindOf x == some .local) = false := by simpa using z
      simp only [List.filterMap_cons, z', Bool.false_and, Bool.false_eq_true, if_false, List.filterMap_nil]
      split <;> simp
    · have z' : (env.kindOf y == some .local) = false := by simpa using z
      simp only [List.filterMap_cons, z', Bool.false_and, Bool.false_eq_true, if_false, List.filterMap_nil]
      split <;> simp
  unfold swappedStores
  dsimp only
  split
  · rfl
  · split
    · rfl
    · rw [if_pos]
      simp only [Bool.or_eq_true]
      left
      exact bne_iff_ne.mpr hl
theorem ps_tupS (C : CmpS c Γ E X) {n : Nat} {x y : Str} {px py pt pt2 pos : Pos} {kt k2 : Nat} {a b : Expr} (ho : (isOwn Γ x || isOwn Γ y) = false) (h : swn2 Γ.sc x y = true) :
    PS X (.Assign [.Tuple [.Name x px, .Name y py] kt pt] (.Tuple [a, b] k2 pt2) pos) (tDS c E Γ.own fun ρ k => evE n Γ (.Tuple [a, b] k2 pt2) (hid Γ ρ) (fun d => bindK Γ False 20 (.Tuple [.Name x px, .Name y py] kt pt) d ρ k.nx) k.xc) :=
  PS.imp (ps_asg ((evE_ok n Γ E X C.toCmp).1 _) (pg_D C.toCmp 20 20 (.Tuple [.Name x px, .Name y py] kt pt) (Nat.le_refl _)) rfl (swn2_ok (by rw [C.sc]; exact h))) fun D σ H h => by
    obtain ⟨P, O, M, ρ, k, env, hg, fin⟩ := h
    refine ⟨P, OM O M, _, _, k.xc, env.env, hg, fun P1 H1 u d l1 r1 h1 => ?_, fin.exH env⟩
    rw [bindK_eq] at h1
    cases hb : bindTg Γ 20 (.Tuple [.Name x px, .Name y py] kt pt) d ρ with
    | none => rw [hb] at h1; exact h1.elim
    | some ρ' =>
      rw [hb] at h1
      exact bind_ok (by
        unfold tgOwn
        show ([x] ++ ([y] ++ [])).any (isOwn Γ) = false
        simpa using Bool.or_eq_false_iff.mp ho) (env.le l1) r1 hb fun σ' e' => fin.nx P1 M H1 σ' ρ' (.of env l1) e' h1
theorem ps_ifD {t : Expr} {a b : List Stmt} {gt : En → W PyData} {ga gb : WS} {pos : Pos} (ht : PT X t (tDT c E fun ρ => W.bind (gt ρ) asB)) (ha : PSs X a (tDS c E L ga)) (hb : PSs X b (tDS c E L gb)) :
    PS X (.If t a b pos) (tDS c E L fun ρ k => W.bind (gt ρ) asB (fun h => match h with
      | true => ga ρ k
      | false => gb ρ k) k.xc) := PS.imp (ps_if ht ha hb) fun D σ H h => by
  obtain ⟨P, O, M, ρ, k, env, hg, fin⟩ := h
  refine ⟨P, O, ρ, _, k.xc, env.full, hg, fun P1 H1 b l1 h1 => ?_, fin.ex env⟩
  cases b with
  | true => rw [if_pos rfl]; exact ⟨P1, O, M, ρ, k, env.le l1, h1, fin.le (.of env l1)⟩
  | false => rw [if_neg Bool.false_ne_true]; exact ⟨P1, O, M, ρ, k, env.le l1, h1, fin.le (.of env l1)⟩
theorem for_imp {tg : Expr} {gI : En → W (List PyData)} {body : WS} {D : Ends} (ht : tgOwn Γ tg = false) (h : tDS c E Γ.own (fun ρ k => gI (hid Γ ρ) (fun ds => forGo Γ tg body ds ρ k) k.xc) D σ H) : tFor (tDI c E gI) (tDG c Γ 20 20 tg) (tDS c E Γ.own body) D σ H := by
  obtain ⟨P, O, M, ρ, k, env, hg, fin⟩ := h
  refine ⟨P, OM O M, _, _, k.xc, env.env, hg, fun P1 H1 J ds l1 it h1 => ?_, fin.exH env⟩
  have env1 := env.le l1
  obtain ⟨G, g0, gS, gGo, gSt, gY⟩ := it P1 H1 (fun a => OM O M a ∨ H1 a = none) (.refl env1.env.ok.pk) (fun _ z => .inl z) (fun _ z => z)
  have w1 : WOkw c P1 (fun a => OM O M a ∨ H1 a = none) H1 := ⟨env1.env.ok.pk, fun a z o q => by
    rcases z with z | z
    · exact env1.env.ok.weak.ow a z o q
    · rw [z] at q; cases q⟩
  have gAt : ∀ P2 M2 H2, LeS c P1 M H1 P2 M2 H2 → G P2 H2 := fun P2 M2 H2 l => gS P1 H1 P2 H2 g0 w1 ⟨l.mono, l.new, fun a o n1 n2 q => l.keep a o n1 (fun z => n2 (.inl (.inr z))) q, l.pool⟩
  have fin1 := fin.le (.of env l1)
  refine ⟨fun i m σ H => m = ds.length - i ∧ i ≤ ds.length ∧ ∃ P2 M2 ρ2, LeS c P1 M H1 P2 M2 H ∧ EnvS c Γ.own P2 O M2 H σ ρ2 ∧ forGo Γ tg body (ds.drop i) ρ2 k, ⟨ds.length, rfl, Nat.zero_le _, P1, M, ρ, env1.refl, env1, h1⟩, ?_⟩
  rintro i m σ2 H2 ⟨rfl, hi, P2, M2, ρ2, l2, en2, hw⟩
  have g2 := gAt P2 M2 H2 l2
  have fin2 := fin1.le l2
  by_cases hlt : i < ds.length
  · refine .inr ⟨gGo i P2 H2 hlt g2, fun σ' H' => ∃ P2 M2 ρ2, LeS c P1 M H1 P2 M2 H' ∧ EnvS c Γ.own P2 O M2 H' σ' ρ2 ∧ forGo Γ tg body (ds.drop (i + 1)) ρ2 k, fun σ' H' p => ⟨ds.length - (i + 1), by omega, rfl, hlt, p⟩, fun u H3 y => ?_⟩
    obtain ⟨d, hd, l3, ru⟩ := gY i P2 H2 u H3 hlt en2.env.ok.pk g2 y
    have ed : ds.drop i = d :: ds.drop (i + 1) := by
      rw [List.drop_eq_getElem_cons hlt]
      have := List.getElem?_eq_getElem hlt
      rw [this] at hd
      cases hd
      rfl
    rw [ed] at hw
    unfold forGo at hw
    rw [bindK_eq] at hw
    cases hb : bindTg Γ 20 tg d ρ2 with
    | none => rw [hb] at hw; exact hw.elim
    | some ρ' =>
      rw [hb] at hw
      have ru' : Rp c P2 (OM O M2) H3 u d := ru.less (fun a z => by
        rcases z with z | z
        · exact .inl (.inl z)
        · exact (l2.grow a z).elim (fun z => .inl (.inr z)) .inr) l3.pool
      refine bind_ok ht (en2.le l3) ru' hb fun σ' en4 => ?_
      have l23 := l2.trans (.of en2 l3)
      have fin3 := fin1.le l23
      have again : ∀ P' M' H' σ ρ, LeS c P2 M2 H3 P' M' H' → EnvS c Γ.own P' O M' H' σ ρ → forGo Γ tg body (ds.drop (i + 1)) ρ k → ∃ P2 M2 ρ2, LeS c P1 M H1 P2 M2 H' ∧ EnvS c Γ.own P2 O M2 H' σ ρ2 ∧ forGo Γ tg body (ds.drop (i + 1)) ρ2 k := fun P' M' H' s r l e hh =>
        ⟨P', M', r, l23.trans l, e, hh⟩
      exact ⟨P2, O, M2, ρ', _, en4, hw, again, fin3.rt, fin3.nx, again, fin3.exc⟩
  · have e : i = ds.length := by omega
    subst e
    rw [List.drop_length] at hw
    exact .inl ⟨gSt P2 H2 g2, fin2.nx P2 M2 H2 σ2 ρ2 en2.refl en2 hw⟩
theorem while_imp {t : En → W Bool} {body : WS} {D : Ends} (h : tDS c E L (exW t body) D σ H) : tWhile (tDT c E t) (tDS c E L body) D σ H := by
  obtain ⟨P, O, M, ρ, k, env, ⟨V, ⟨m0, v0⟩, turn⟩, fin⟩ := h
  refine ⟨fun m σ' H' => ∃ P2 M2 ρ2, LeS c P M H P2 M2 H' ∧ EnvS c L P2 O M2 H' σ' ρ2 ∧ V m ρ2, ⟨m0, P, M, ρ, env.refl, env, v0⟩, ?_⟩
  rintro m σ2 H2 ⟨P2, M2, ρ2, l2, en2, v2⟩
  have fin2 := fin.le l2
  refine ⟨P2, O, ρ2, _, k.xc, en2.full, turn m ρ2 v2, fun P3 H3 b l3 hb => ?_, fin2.ex en2⟩
  have fin3 := fin2.le (.of en2 l3)
  have en3 := en2.le l3
  have l23 := l2.trans (.of en2 l3)
  cases b with
  | true =>
    dsimp only
    rw [if_pos rfl]
    refine ⟨fun σ' H' => ∃ m', m' < m ∧ ∃ P2 M2 ρ2, LeS c P M H P2 M2 H' ∧ EnvS c L P2 O M2 H' σ' ρ2 ∧ V m' ρ2, fun σ' H' z => z, ?_⟩
    have again : ∀ P' M' H' σ ρ, LeS c P3 M2 H3 P' M' H' → EnvS c L P' O M' H' σ ρ → (∃ m', m' < m ∧ V m' ρ) → ∃ m', m' < m ∧ ∃ P2 M2 ρ2, LeS c P M H P2 M2 H' ∧ EnvS c L P2 O M2 H' σ ρ2 ∧ V m' ρ2 := fun P' M' H' s r l e ⟨m', h1, h2⟩ => ⟨m', h1, P', M', r, l23.trans l, e, h2⟩
    exact ⟨P3, O, M2, ρ2, _, en3, hb, again, fin3.rt, fin3.nx, again, fin3.exc⟩
  | false =>
    dsimp only
    rw [if_neg Bool.false_ne_true]
    exact fin3.nx P3 M2 H3 σ2 ρ2 en3.refl en3 hb
theorem pool_of {f : PyData} {i : Int} {v : PyData} {p : Prop} {x u : V} (ok : WOk c P O H) (rf : Rp c P O H x f) (rv : Rp c P O H u v) (h : poolSet f i v p) : ∃ a xs j, x = .ref a ∧ H a = some (.lst xs) ∧ ixN xs.length i = some j ∧ Le c P H P (upd H a (.lst (xs.set j u))) ∧ p := by
  unfold poolSet at h
  split at h
  · rename_i v
    obtain rfl := rp_int rv
    have hp : ∃ a, x = .ref a ∧ P a := by
      cases rf with
      | pool h => exact ⟨_, rfl, h⟩
    obtain ⟨a, rfl, hp⟩ := hp
    obtain ⟨x0, x1, x2, e, ⟨g1, g2⟩, g3⟩ := ok.pk a hp
    obtain ⟨hv, hq⟩ := h
    unfold okPool at hv
    split at hv
    · exact ⟨a, _, 0, rfl, e, rfl, .poolSet ok.pk hp ⟨_, _, _, upd_same, ⟨hv.1, hv.2⟩, g3⟩, hq⟩
    · exact ⟨a, _, 1, rfl, e, rfl, .poolSet ok.pk hp ⟨_, _, _, upd_same, ⟨g1, g2⟩, hv⟩, hq⟩
    · exact ⟨a, _, 2, rfl, e, rfl, .poolSet ok.pk hp ⟨_, _, _, upd_same, ⟨g1, g2⟩, g3⟩, hq⟩
    · exact hv.elim
  · exact h.elim
theorem ps_poolD (C : CmpS c Γ E X) {n : Nat} {o : Str} {po pi p1 pos : Pos} {i : Int} {ki : Nat} {e : Expr} (h1 : isTupT e = false) (h2 : isCompE e = false) :
    PS X (.Assign [.Subscript (.Name o po) (.Constant (.int i) ki pi) p1] e pos) (tDS c E Γ.own fun ρ k => evE n Γ e (hid Γ ρ) (fun d => evName Γ o (hid Γ ρ) (fun f => poolSet f i d (k.nx ρ)) k.xc) k.xc) :=
  PS.imp (ps_asg ((evE_ok n Γ E X C.toCmp).1 e) (pg_sub (pe_nameD C.toCmp) pe_int set_list) (show swapsWith e (some (.Subscript (.Name o po) (.Constant (.int i) ki pi) p1)) pos.line X.env = pure false from noSwap h2) (notTup h1)) fun D σ H h => by
    obtain ⟨P, O, M, ρ, k, env, hg, fin⟩ := h
    refine ⟨P, OM O M, _, _, k.xc, env.env, hg, fun P1 H1 u d l1 r1 h1 => ?_, fin.exH env⟩
    have en1 := env.le l1
    refine ⟨P1, OM O M, _, _, k.xc, en1.env, h1, fun P2 H2 w f l2 r2 h2 => ?_, (fin.le (.of env l1)).exH en1⟩
    have en2 := en1.le l2
    obtain ⟨a, xs, j, rfl, e1, e2, l3, hq⟩ := pool_of en2.env.ok r2 (r1.le l2 en1.env.ok.pk) h2
    exact ⟨a, xs, i, j, rfl, rfl, e1, e2, fin.nx P2 M _ σ ρ (.of env ((l1.trans l2).trans l3)) (en2.le l3) hq⟩
theorem ps_poolT (C : CmpS c Γ E X) {n j : Nat} {o x : Str} {po pi p1 px pt pos : Pos} {i : Int} {ki : Nat} {kt : Nat} {e : Expr} (h1 : isTupT e = false) (h2 : isCompE e = false) (ho : isOwn Γ x = false) (hx : Γ.st x = true) (hj : slotOf Γ.N x = some j) :
    PS X (.Assign [.Tuple [.Subscript (.Name o po) (.Constant (.int i) ki pi) p1, .Name x px] kt pt] e pos) (tDS c E Γ.own fun ρ k => evE n Γ e (hid Γ ρ) (fun d => match d with
        | .tuple [u, v] => evName Γ o (hid Γ ρ) (fun f => poolSet f i u (k.nx (ρ.set j (some v)))) k.xc
        | _ => False) k.xc) := by
  obtain ⟨hl, hf⟩ := C.st x hx
  have pgs := pgs_cons (es := [.Name x px]) (e := .Subscript (.Name o po) (.Constant (.int i) ki pi) p1) (pg_sub (pe_nameD (E := E) C.toCmp) pe_int set_list) (pgs_cons (es := []) (pg_name (i := j) (pos := px) C.nd (by rw [C.N]; exact slotOf_get hj) hl hf) pgs_nil rfl) rfl
  refine PS.imp (ps_asg ((evE_ok n Γ E X C.toCmp).1 e) (pg_tup (n := 2) C.calm pgs rfl rfl) (show swapsWith e (some (.Tuple [.Subscript (.Name o po) (.Constant (.int i) ki pi) p1, .Name x px] kt pt)) pos.line X.env = pure false from noSwap h2) (notTup h1)) fun D σ H h => ?_
  obtain ⟨P, O, M, ρ, k, env, hg, fin⟩ := h
  refine ⟨P, OM O M, _, _, k.xc, env.env, hg, fun P1 H1 u d l1 r1 h1 => ?_, fin.exH env⟩
  have en1 := env.le l1
  split at h1
  · rename_i du dv
    obtain ⟨a, us, rfl, ha, ru⟩ := rp_tup r1
    cases ru with
    | cons ru1 rr =>
      cases rr with
      | cons ru2 rr =>
        cases rr
        refine ⟨a, _, rfl, by rw [C.K]; exact ha, rfl, _, _, rfl, ?_⟩
        refine ⟨P1, OM O M, _, _, k.xc, en1.env, h1, fun P2 H2 w f l2 r2 h2 => ?_, (fin.le (.of env l1)).exH en1⟩
        have en2 := en1.le l2
        obtain ⟨b, xs, jj, rfl, e1, e2, l3, hq⟩ := pool_of en2.env.ok r2 (ru1.le l2 en1.env.ok.pk) h2
        refine ⟨b, xs, i, jj, rfl, rfl, e1, e2, _, _, rfl, rfl, ?_⟩
        exact fin.nx P2 M _ _ _ (.of env ((l1.trans l2).trans l3)) ((en2.le l3).set (notOwn ho hj) ((ru2.le l2 en1.env.ok.pk).le l3 en2.env.ok.pk)) hq
  · exact h1.elim
theorem ps_retPool (C : CmpS c Γ E X) {n : Nat} (es : List Expr) {p pos : Pos} : PS X (.Return (some (.List es p)) pos) (tDS c E Γ.own fun ρ k => evItems (evE n Γ) es ρ (fun ds => retPool ds k.rt) k.xc) :=
  PS.imp (ps_ret (pe_lst (pa_itemsD C.K (evE_ok n Γ E X C.toCmp).1 es))) fun D σ H h => by
    obtain ⟨P, O, M, ρ, k, env, hg, fin⟩ := h
    refine ⟨P, O, ρ, _, k.xc, env.full, hg, fun P1 H1 us ds l1 r1 h1 => ?_, fin.ex env⟩
    unfold retPool at h1
    split at h1
    · rename_i x y z
      have e : us = [.int x, .int y, .int z] := RpA.ints (ns := [x, y, z]) r1
      subst e
      refine ⟨by simp [sizeLine_eq], fun p hp => ?_⟩
      exact fin.rt _ M _ _ _ (.of env (l1.trans (Le.poolNew (env.le l1).env.ok.pk hp h1.1))) (.pool (.inr rfl)) h1.2
    · exact h1.elim
/-! ### lists of one's own -/
def tDN (c : Cn) (E : XK) (g : En → W (List PyData)) : TE := fun σ H Q => ∃ P O ρ q x, EnvOk c P O H σ ρ ∧ g ρ q x ∧
  (∀ P' H' xs ds a, Le c P H P' H' → H' a = none → RpA c P' O H' xs ds → q ds → Q (.ref a) (upd H' a (.lst xs))) ∧ ExcOk c E P O H x
theorem pe_newD (C : Cmp c Γ E X) {ev : Expr → En → W PyData} (hE : ∀ e, PE X e (tD c E (ev e))) (e : Expr) : PE X e (tDN c E (evNew Γ ev e)) := by
  have bad : ∀ {e : Expr}, PE X e (tDN c E fun _ => W.bad) := ⟨fun pins s σ H Q I q => by
    obtain ⟨_, _, _, _, _, _, h, _⟩ := q
    exact h.elim⟩
  unfold evNew
  split
  · rename_i es p
    refine PE.imp (pe_lst (pa_itemsD C.K hE es)) fun σ H Q h => ?_
    obtain ⟨P, O, ρ, q, x, env, hg, k, ex⟩ := h
    refine ⟨P, O, ρ, _, x, env, hg, fun P1 H1 us ds l1 r1 h1 => ⟨?_, fun p hp => k P1 H1 us ds p l1 hp r1 h1.2⟩, ex⟩
    rw [r1.length]
    exact h1.1
  · rename_i f fp a pos
    cases e1 : decide (f = "list") && (isGlobFree Γ f && !isStar a) with
    | false => exact bad
    | true =>
      obtain ⟨h1, h2⟩ := Bool.and_eq_true_iff.mp e1
      obtain ⟨h2, h3⟩ := Bool.and_eq_true_iff.mp h2
      have h1 := of_decide_eq_true h1
      subst h1
      obtain ⟨hg, hm⟩ := isGlob_ok C h2
      have hs : isStar a = false := by simpa using h3
      obtain ⟨b1, b2, b3⟩ := badName_no (x := "list") (by decide +kernel)
      refine PE.imp (pe_callTy (pos := pos) (p := fp) call_list_of hg hm (by decide +kernel) (pa_argsD hE [a]) b3 b1 (star_of hs) (nostar_of (show ([] : List Expr).any isStar = false from rfl))) fun σ H Q h => ?_
      obtain ⟨P, O, ρ, q, x, env, hg, k, ex⟩ := h
      refine ⟨P, O, ρ, fun ds => match ds with
        | [d] => itemsOf d q x
        | _ => False, x, env, ?_, fun P1 H1 us ds l1 r1 h1 => ?_, ex⟩
      · unfold evArgs
        rw [hs]
        exact hg
      · dsimp only at h1
        split at h1
        · rename_i d
          cases r1 with
          | cons r rr =>
            cases rr
            cases d with
            | list ds =>
              obtain ⟨b, xs, rfl, _, _, h3, h4⟩ := rp_lst r
              exact ⟨b, xs, rfl, .inl (.inl h3), fun p hp => k P1 H1 xs ds p l1 hp h4 h1⟩
            | tuple ds =>
              obtain ⟨b, xs, rfl, h3, h4⟩ := rp_tup r
              exact ⟨b, xs, rfl, .inr (by rw [C.K]; exact h3), fun p hp => k P1 H1 xs ds p l1 hp h4 h1⟩
            | _ => exact h1.elim
        · exact h1.elim
  · exact bad
theorem evNew_comp {ev : Expr → En → W PyData} {e : Expr} (h : isCompE e = true) {q : List PyData → Prop} {x : Xc → Prop} : ¬ evNew Γ ev e ρ q x := by
  cases e <;> first | (cases h; done) | exact fun z => z
theorem ps_newS (C : CmpS c Γ E X) {n i : Nat} {x : Str} {p pos : Pos} {e : Expr} (ho : isOwn Γ x = true) (hx : Γ.st x = true) (hi : slotOf Γ.N x = some i) :
    PS X (.Assign [.Name x p] e pos) (tDS c E Γ.own fun ρ k => evNew Γ (evE n Γ) e (hid Γ ρ) (fun ds => k.nx (ρ.set i (some (.list ds)))) k.xc) := by
  obtain ⟨hl, hf⟩ := C.st x hx
  have hN : X.N[i]? = some x := by rw [C.N]; exact slotOf_get hi
  cases hc : isCompE e with
  | true => exact PS.badW fun ρ k z => evNew_comp hc z
  | false =>
    refine PS.imp (ps_set C.nd hN hl (pe_newD C.toCmp (evE_ok n Γ E X C.toCmp).1 e) (noSwap hc) hf) fun D σ H h => ?_
    obtain ⟨P, O, M, ρ, k, env, hg, fin⟩ := h
    refine ⟨P, OM O M, _, _, k.xc, env.env, hg, fun P1 H1 xs ds a l1 hn r1 h1 => ?_, fin.exH env⟩
    obtain ⟨l2, e2⟩ := (env.le l1).new (isOwn_ok ho hi) hn r1
    exact fin.nx P1 _ _ _ _ ((LeS.of env l1).trans l2) e2 h1
theorem own_at {i : Nat} (env : EnvS c L P O M H σ ρ) (hi : i ∈ L) {p : List PyData → Prop} (h : ownL ρ i p) : ∃ a xs ds, ρ[i]? = some (some (.list ds)) ∧ σ[i]? = some (some (.ref a)) ∧ M a ∧ H a = some (.lst xs) ∧ RpA c P (OM O M) H xs ds ∧ p ds := by
  unfold ownL at h
  split at h
  · rename_i d hd
    obtain ⟨a, xs, ds, rfl, h1, h2, h3, h4⟩ := env.own i hi d hd
    exact ⟨a, xs, ds, hd, h1, h2, h3, h4, h⟩
  · exact h.elim
theorem vis_of (C : CmpS c Γ E X) {x : Str} (hx : Γ.st x = true) : Vis X.env.scope x := (C.st x hx).1.elim .inl fun z => .inr (.inl z)
theorem ps_appS (C : CmpS c Γ E X) {n i : Nat} {x m : Str} {p apos cpos pos : Pos} {e : Expr} (h : (isOwn Γ x && (decide (m = "append") && (decide (apos.endLine = cpos.line) && (!isStar e && (Γ.st x && !badName x))))) = true) (hi : slotOf Γ.N x = some i) :
    PS X (.Expr (.Call (.Attribute (.Name x p) m apos) [e] [] cpos) pos) (tDS c E Γ.own fun ρ k => ownL ρ i fun ds => evE n Γ e (hid Γ ρ) (fun d => ds.length < sizeLine ∧ k.nx (ρ.set i (some (.list (ds ++ [d]))))) k.xc) := by
  simp only [Bool.and_eq_true, decide_eq_true_eq, Bool.not_eq_true'] at h
  obtain ⟨ho, rfl, hp, hs, hx, hb⟩ := h
  obtain ⟨b1, b2, b3⟩ := badName_no hb
  have hN : X.N[i]? = some x := by rw [C.N]; exact slotOf_get hi
  refine PS.imp (ps_expr (pe_bm PySem.F.plainAttrs_list PySem.F.slot_list_append PySem.F.type_list_append mt_append (pe_var hN (vis_of C hx) b1 b2) (pa_cons ((evE_ok n Γ E X C.toCmp).1 e) pa_nil (star_of hs)) rfl (by rw [star_of hs]; rfl) (by rw [hp]; exact beq_self_eq_true _) (star_of hs) rfl) rfl) fun D σ H h => ?_
  obtain ⟨P, O, M, ρ, k, env, hg, fin⟩ := h
  have hi' := isOwn_ok ho hi
  obtain ⟨a, xs, ds, h0, h1, h2, h3, h4, h5⟩ := own_at env hi' hg
  refine ⟨_, h1, .inl ⟨rfl, xs, .inl (.inl h3)⟩, P, OM O M, _, _, k.xc, env.env, h5, fun P1 H1 u d l1 r1 q1 => ?_, fin.exH env⟩
  have e1 := env.le l1
  have h4' := h4.le l1 env.env.ok.pk
  refine ⟨a, xs, u, rfl, rfl, l1.keep a _ (env.dis a h2).2 h3, by rw [h4.length]; exact q1.1, ?_⟩
  have e2 := e1.turn hi' h0 h1 h2 (h4'.append (.cons r1 .nil))
  exact fin.nx P1 M _ _ _ ((LeS.of env l1).trans (LeS.turn e1 h2)) e2 q1.2
theorem RpA.set : ∀ {vs : List V} {ds : List PyData} {j : Nat} {u : V} {d : PyData}, RpA c P O H vs ds → Rp c P O H u d → RpA c P O H (vs.set j u) (ds.set j d)
  | _, _, _, _, _, .nil, _ => .nil
  | _, _, 0, _, _, .cons _ t, r => .cons r t
  | _, _, _ + 1, _, _, .cons h t, r => .cons h (RpA.set t r)
def tOS (c : Cn) (E : XK) (Γ : Gm) (ev : Expr → En → W PyData) (i : Nat) (idx : Expr) : TG := fun v σ H Q => ∃ P O M ρ d k xc, EnvS c Γ.own P O M H σ ρ ∧ Rp c P (OM O M) H v d ∧ ownSt ev Γ i idx d ρ k xc ∧
  (∀ P' M' H' cls dd e, LeS c P M H P' M' H' → RpX c P' O H' cls dd e → xc e → E cls dd H') ∧ ∀ P' H' ρ', LeS c P M H P' M H' → EnvS c Γ.own P' O M H' σ ρ' → k ρ' → Q σ H'
theorem pg_own (C : CmpS c Γ E X) {ev : Expr → En → W PyData} (hE : ∀ e, PE X e (tD c E (ev e))) {x : Str} {i : Nat} {p pos : Pos} {idx : Expr} (ho : isOwn Γ x = true) (hsl : isSlice idx = false) (hx : Γ.st x = true) (hb : badName x = false) (hi : slotOf Γ.N x = some i) :
    PG X (.Subscript (.Name x p) idx pos) (tOS c E Γ ev i idx) := by
  obtain ⟨b1, b2, b3⟩ := badName_no hb
  have hN : X.N[i]? = some x := by rw [C.N]; exact slotOf_get hi
  refine PG.imp (pg_sub (pe_var hN (vis_of C hx) b1 b2) (hE idx) set_list (by intro v; cases idx <;> first | (cases hsl; done) | rfl)) fun v σ H Q h => ?_
  obtain ⟨P, O, M, ρ, d, k, xc, env, r, hg, ex, fin⟩ := h
  have hi' := isOwn_ok ho hi
  obtain ⟨a, xs, ds, h0, h1, h2, h3, h4, h5⟩ := own_at env hi' hg
  refine ⟨_, h1, P, OM O M, _, _, xc, env.env, h5, fun P1 H1 w j l1 r1 q1 => ?_, fun P' H' cls dd y l r h => ex P' M H' cls dd y (.of env l) (r.less (fun _ z => .inl z) l.pool) h⟩
  unfold ownSet at q1
  split at q1
  · rename_i jj
    split at q1
    · rename_i j hj
      obtain rfl := rp_int r1
      have e1 := env.le l1
      have h4' := h4.le l1 env.env.ok.pk
      have r' := r.le l1 env.env.ok.pk
      refine ⟨a, xs, jj, j, rfl, rfl, l1.keep a _ (env.dis a h2).2 h3, by rw [h4.length]; exact hj, ?_⟩
      exact fin P1 _ _ ((LeS.of env l1).trans (LeS.turn e1 h2)) (e1.turn hi' h0 h1 h2 (h4'.set r')) q1
    · exact q1.elim
  · exact q1.elim
theorem ps_setS (C : CmpS c Γ E X) {n i : Nat} {o : Str} {po p1 pos : Pos} {j e : Expr} (ho : isOwn Γ o = true) (h : (isTupT e || isCompE e) = false) (h2 : (!isSlice j && (Γ.st o && !badName o)) = true) (hi : slotOf Γ.N o = some i) :
    PS X (.Assign [.Subscript (.Name o po) j p1] e pos) (tDS c E Γ.own fun ρ k => evE n Γ e ρ (fun d => isAtom d = true ∧ ownSt (evE n Γ) Γ i j d ρ k.nx k.xc) k.xc) := by
  simp only [Bool.and_eq_true, Bool.not_eq_true'] at h2
  obtain ⟨hsl, hx, hb⟩ := h2
  obtain ⟨t1, t2⟩ := Bool.or_eq_false_iff.mp h
  have hE := (evE_ok n Γ E X C.toCmp).1
  refine PS.imp (ps_asg (hE e) (pg_own C hE ho hsl hx hb hi) (show swapsWith e (some (.Subscript (.Name o po) j p1)) pos.line X.env = pure false from noSwap t2) (notTup t1)) fun D σ H h => ?_
  obtain ⟨P, O, M, ρ, k, env, hg, fin⟩ := h
  refine ⟨P, O, ρ, _, k.xc, env.full, hg, fun P1 H1 u d l1 r1 h1 => ?_, fin.ex env⟩
  have fin1 := fin.le (LeS.of env l1)
  exact ⟨P1, O, M, ρ, d, k.nx, k.xc, env.le l1, r1.atom h1.1, h1.2, fin1.exc, fun P' H' ρ' l e h => fin1.nx P' M H' σ ρ' l e h⟩
def swnF (env : Env) (line : Nat) : Expr → Option Str
  | .Name id pos => if env.kindOf id == some .local && pos.line == line then some id else none
  | _ => none
theorem swnF_lt {env : Env} {line : Nat} : ∀ {ts : List Expr}, swnG env.scope ts = true → (ts.filterMap (swnF env line)).length < ts.length
  | [], h => by cases h
  | t :: ts, h => by
    unfold swnG at h
    rw [List.any_cons] at h
    rcases Bool.or_eq_true_iff.mp h with z | z
    · have : swnF env line t = none := by
        cases t with
        | Name x p =>
          have z : ¬ (env.scope.names.lookup x = some .local) := by simpa using z
          have z' : (env.kindOf x == some .local) = false := beq_eq_false_iff_ne.mpr z
          simp [swnF, z']
        | _ => rfl
      rw [List.filterMap_cons, this]
      exact Nat.lt_succ_of_le (List.length_filterMap_le _ ts)
    · rw [List.filterMap_cons]
      have := swnF_lt (line := line) z
      cases swnF env line t with
      | none => exact Nat.lt_succ_of_lt this
      | some _ => exact Nat.succ_lt_succ this
theorem swnG_ok {ts es : List Expr} {pt pt2 : Pos} {kt k2 : Nat} {env : Env} (h : swnG env.scope ts = true) :
    swappedStores [.Tuple ts kt pt] (.Tuple es k2 pt2) env = pure none := by
  unfold swappedStores
  dsimp only
  split
  · rfl
  · split
    · rfl
    · rw [if_pos]
      simp only [Bool.or_eq_true]
      left
      exact bne_iff_ne.mpr (Nat.ne_of_lt (swnF_lt h))
theorem ps_set2S (C : CmpS c Γ E X) {n i1 i2 : Nat} {o1 o2 : Str} {po1 po2 p1 p2 pt pt2 pos : Pos} {kt k2 : Nat} {j1 j2 a b : Expr}
    (h : (isOwn Γ o1 && (isOwn Γ o2 && ((!isSlice j1 && !isSlice j2) && ((!isStar a && !isStar b) && ((Γ.st o1 && !badName o1) && (Γ.st o2 && !badName o2)))))) = true) (h1 : slotOf Γ.N o1 = some i1) (h2 : slotOf Γ.N o2 = some i2) :
    PS X (.Assign [.Tuple [.Subscript (.Name o1 po1) j1 p1, .Subscript (.Name o2 po2) j2 p2] kt pt] (.Tuple [a, b] k2 pt2) pos) (tDS c E Γ.own fun ρ k => evE n Γ a ρ (fun d => evE n Γ b ρ (fun e => isAtom d = true ∧ isAtom e = true ∧
      ownSt (evE n Γ) Γ i1 j1 d ρ (fun ρ' => ownSt (evE n Γ) Γ i2 j2 e ρ' k.nx k.xc) k.xc) k.xc) k.xc) := by
  simp only [Bool.and_eq_true, Bool.not_eq_true'] at h
  obtain ⟨ho1, ho2, ⟨s1, s2⟩, ⟨sa, sb⟩, ⟨x1, b1⟩, x2, b2⟩ := h
  have hE := (evE_ok n Γ E X C.toCmp).1
  refine PS.imp (ps_asg (pe_tup (pa_cons (hE a) (pa_cons (hE b) pa_nil (star_of sb)) (star_of sa))) (pg_tup (n := 2) C.calm (pgs_cons (es := [.Subscript (.Name o2 po2) j2 p2]) (pg_own C hE ho1 s1 x1 b1 h1) (pgs_cons (es := []) (pg_own C hE ho2 s2 x2 b2 h2) pgs_nil rfl) rfl) rfl rfl) rfl (swnG_ok rfl)) fun D σ H h => ?_
  obtain ⟨P, O, M, ρ, k, env, hg, fin⟩ := h
  refine ⟨P, O, ρ, _, k.xc, env.full, hg, fun P1 H1 u d l1 r1 q1 => ?_, fin.ex env⟩
  have en1 := env.le l1
  have fin1 := fin.le (LeS.of env l1)
  refine ⟨P1, O, ρ, _, k.xc, en1.full, q1, fun P3 H3 w e l3 r3 q3 => ?_, fin1.ex en1⟩
  have en3 := en1.le l3
  have fin3 := fin1.le (LeS.of en1 l3)
  obtain ⟨ad, ae, q3⟩ := q3
  refine ⟨by simp [sizeLine_eq], fun p hp => ⟨p, [u, w], rfl, .inl (.inl upd_same), rfl, _, _, rfl, ?_⟩⟩
  have la : Le c P3 H3 P3 (upd H3 p (.tup [u, w])) := .laid en3.env.ok.pk hp
  have en4 := en3.le la
  have fin4 := fin3.le (LeS.of en3 la)
  have ru : ∀ {P O H P' O' H'}, Rp c P O H u d → Rp c P' O' H' u d := fun h => by
    cases h <;> first | (cases ad; done) | constructor
  have rw_ : ∀ {P O H P' O' H'}, Rp c P O H w e → Rp c P' O' H' w e := fun h => by
    cases h <;> first | (cases ae; done) | constructor
  refine ⟨P3, O, M, ρ, d, _, k.xc, en4, ru r1, q3, fin4.exc, fun P5 H5 ρ5 l5 e5 q5 => ⟨w, [], rfl, ?_⟩⟩
  have fin5 := fin4.le l5
  exact ⟨P5, O, M, ρ5, e, k.nx, k.xc, e5, rw_ r3, q5, fin5.exc, fun P' H' ρ' l e h => ⟨rfl, fin5.nx P' M H' σ ρ' l e h⟩⟩
theorem ps_new3S (C : CmpS c Γ E X) {n i j h : Nat} {x y z : Str} {px py pz pt pt2 pos : Pos} {kt k2 : Nat} {a b l : Expr}
    (hh : (!isOwn Γ x && (!isOwn Γ y && (isOwn Γ z && (isNil l && ((!isStar a && !isStar b) && (swnG Γ.sc [.Name x ⟨0, 0, 0, 0⟩, .Name y ⟨0, 0, 0, 0⟩, .Name z ⟨0, 0, 0, 0⟩] && (Γ.st x && (Γ.st y && Γ.st z)))))))) = true)
    (h1 : slotOf Γ.N x = some i) (h2 : slotOf Γ.N y = some j) (h3 : slotOf Γ.N z = some h) :
    PS X (.Assign [.Tuple [.Name x px, .Name y py, .Name z pz] kt pt] (.Tuple [a, b, l] k2 pt2) pos) (tDS c E Γ.own fun ρ k => evE n Γ a (hid Γ ρ) (fun d => evE n Γ b (hid Γ ρ) (fun e => k.nx (((ρ.set i (some d)).set j (some e)).set h (some (.list [])))) k.xc) k.xc) := by
  simp only [Bool.and_eq_true, Bool.not_eq_true'] at hh
  obtain ⟨ox, oy, oz, hn, ⟨sa, sb⟩, sw, sx, sy, sz⟩ := hh
  have hE := (evE_ok n Γ E X C.toCmp).1
  have hl : ∃ p, l = .List [] p := by
    cases l <;> first | (cases hn; done) | skip
    rename_i es p
    cases es with
    | nil => exact ⟨p, rfl⟩
    | cons _ _ => cases hn
  obtain ⟨pl, rfl⟩ := hl
  obtain ⟨lx, fx⟩ := C.st x sx
  obtain ⟨ly, fy⟩ := C.st y sy
  obtain ⟨lz, fz⟩ := C.st z sz
  have gN : ∀ {x : Str} {i : Nat}, slotOf Γ.N x = some i → X.N[i]? = some x := fun h => by rw [C.N]; exact slotOf_get h
  refine PS.imp (ps_asg (pe_tup (pa_cons (hE a) (pa_cons (hE b) (pa_cons (pe_lst pa_nil) pa_nil rfl) (star_of sb)) (star_of sa)))
    (pg_tup (n := 3) C.calm (pgs_cons (es := [.Name y py, .Name z pz]) (pg_name C.nd (gN h1) lx fx) (pgs_cons (es := [.Name z pz]) (pg_name C.nd (gN h2) ly fy) (pgs_cons (es := []) (pg_name C.nd (gN h3) lz fz) pgs_nil rfl) rfl) rfl) rfl rfl) rfl (swnG_ok (by rw [C.sc]; exact sw))) fun D σ H hh => ?_
  obtain ⟨P, O, M, ρ, k, env, hg, fin⟩ := hh
  refine ⟨P, OM O M, _, _, k.xc, env.env, hg, fun P1 H1 u d l1 r1 q1 => ?_, fin.exH env⟩
  have en1 := env.le l1
  have fin1 := fin.le (LeS.of env l1)
  refine ⟨P1, OM O M, _, _, k.xc, en1.env, q1, fun P3 H3 w e l3 r3 q3 => ?_, fin1.exH en1⟩
  have en3 := en1.le l3
  have fin3 := fin1.le (LeS.of en1 l3)
  refine ⟨Nat.zero_le _, fun p0 hp0 => ⟨by simp [sizeLine_eq], fun p hp => ⟨p, [u, w, .ref p0], rfl, .inl (.inl upd_same), rfl, _, _, rfl, _, _, rfl, _, _, rfl, rfl, ?_⟩⟩⟩
  have en4 := (en3.set (notOwn ox h1) (r1.le l3 en1.env.ok.pk)).set (notOwn oy h2) r3
  obtain ⟨l5, en5⟩ := en4.new (isOwn_ok oz h3) hp0 .nil
  have la : Le c P3 (upd H3 p0 (.lst [])) P3 (upd (upd H3 p0 (.lst [])) p (.tup [u, w, .ref p0])) := .laid en5.env.ok.pk hp
  exact fin3.nx P3 _ _ _ _ (l5.trans (LeS.of en5 la)) (en5.le la) q3
theorem exS_ok (C : CmpS c Γ E X) : ∀ (n : Nat) (st : Stmt), PS X st (tDS c E Γ.own (exS n Γ st))
  | 0, st => PS.badW fun ρ k z => z
  | n + 1, st => by
    have ih := exS_ok C n
    have hE := evE_ok n Γ E X C.toCmp
    unfold exS
    split
    · rename_i e pos
      have plain : PS X (.Return (some e) pos) (tDS c E Γ.own fun ρ k => evE n Γ e ρ k.rt k.xc) := PS.imp (ps_ret (hE.1 e)) fun D σ H h => by
        obtain ⟨P, O, M, ρ, k, env, hg, fin⟩ := h
        exact ⟨P, O, ρ, _, k.xc, env.full, hg, fun P1 H1 v d l r h => fin.rt P1 M H1 v d (.of env l) r h, fin.ex env⟩
      cases hm : Γ.mkP with
      | false => exact plain
      | true =>
        cases hl : listOf e with
        | none => exact plain
        | some es =>
          have he : ∃ p, e = .List es p := by
            cases e <;> first | (cases hl; exact ⟨_, rfl⟩) | cases hl
          obtain ⟨p, rfl⟩ := he
          exact ps_retPool C es
    · exact PS.imp ps_retN fun D σ H h => by
        obtain ⟨P, O, M, ρ, k, env, hg, fin⟩ := h
        exact fin.rt P M H _ _ env.refl .non hg
    · exact PS.imp ps_pass fun D σ H h => by
        obtain ⟨P, O, M, ρ, k, env, hg, fin⟩ := h
        exact fin.nx P M H _ _ env.refl env hg
    · exact PS.imp ps_break fun D σ H h => by
        obtain ⟨P, O, M, ρ, k, env, hg, fin⟩ := h
        exact fin.bk P M H _ _ env.refl env hg
    · exact PS.imp ps_continue fun D σ H h => by
        obtain ⟨P, O, M, ρ, k, env, hg, fin⟩ := h
        exact fin.ct P M H _ _ env.refl env hg
    · split
      · exact ps_appS C (by assumption) (by assumption)
      · exact PS.badW fun ρ k z => z
    · rename_i e pos _
      cases hc : isCompE e with
      | true => exact PS.badW fun ρ k z => z
      | false =>
        exact PS.imp (ps_expr (hE.1 e) (noSwap hc)) fun D σ H h => by
          obtain ⟨P, O, M, ρ, k, env, hg, fin⟩ := h
          exact ⟨P, OM O M, _, _, k.xc, env.env, hg, fun P1 H1 u d l1 r1 h1 => fin.nx P1 M H1 σ ρ (.of env l1) (env.le l1) h1, fin.exH env⟩
    · exact ps_ifD (hE.2 _) (pss_D ih _) (pss_D ih _)
    · split
      · exact ps_setD C (by assumption) (by assumption) (by assumption)
      · exact ps_newS C (by assumption) (by assumption) (by assumption)
      · exact PS.badW fun ρ k z => z
    · split
      · exact ps_set2S C (by assumption) (by assumption) (by assumption)
      · exact PS.badW fun ρ k z => z
    · rename_i x px y py kt pt a b k2 pt2 pos
      cases hxy : isOwn Γ x || isOwn Γ y with
      | true => exact PS.badW fun ρ k z => z
      | false =>
        dsimp only
        split
        · cases hs : swn2 Γ.sc x y with
          | false => exact PS.badW fun ρ k z => z
          | true => exact ps_tupS C hxy hs
        · exact ps_parD C hxy (by assumption) (by assumption) (by assumption)
        · exact PS.badW fun ρ k z => z
    · split
      · exact ps_new3S C (by assumption) (by assumption) (by assumption) (by assumption)
      · exact PS.badW fun ρ k z => z
    · rename_i o po j p1 e pos
      split
      · split
        · exact ps_setS C (by assumption) (by assumption) (by assumption) (by assumption)
        · exact PS.badW fun ρ k z => z
      · rename_i ho h
        obtain ⟨h1, h2⟩ := Bool.or_eq_false_iff.mp h
        cases hj : cintOf j with
        | none => exact PS.badW fun ρ k z => z
        | some i =>
          have : ∃ ki pi, j = .Constant (.int i) ki pi := by
            unfold cintOf at hj
            split at hj
            · cases hj; exact ⟨_, _, rfl⟩
            · cases hj
          obtain ⟨ki, pi, rfl⟩ := this
          exact ps_poolD C h1 h2
      · exact PS.badW fun ρ k z => z
    · split
      · rename_i h1 h2 h3
        obtain ⟨h1, h0⟩ := Bool.or_eq_false_iff.mp h1
        obtain ⟨h4, h5⟩ := Bool.or_eq_false_iff.mp h1
        exact ps_poolT C h4 h5 h0 h2 h3
      · exact PS.badW fun ρ k z => z
    · rename_i ts kt pt e pos _ _ _ _
      cases h : (isTupT e || isCompE e) || tgOwn Γ (.Tuple ts kt pt) with
      | true => exact PS.badW fun ρ k z => z
      | false =>
        obtain ⟨h, h0⟩ := Bool.or_eq_false_iff.mp h
        obtain ⟨h1, h2⟩ := Bool.or_eq_false_iff.mp h
        exact ps_tupD C h1 h2 h0
    · rename_i tg it body pos
      cases h : isSet it || tgOwn Γ tg with
      | true => exact PS.badW fun ρ k z => z
      | false =>
        obtain ⟨h1, h2⟩ := Bool.or_eq_false_iff.mp h
        exact PS.imp (ps_for C.own C.calm (evIter_ok C.toCmp hE.1 tg it) (pg_D C.toCmp 20 20 tg (Nat.le_refl _)) (pss_D ih body) (notSet h1)) fun D σ H h => for_imp h2 h
    · exact PS.imp (ps_while C.own (hE.2 _) (pss_D ih _)) fun D σ H h => while_imp h
    · exact PS.badW fun ρ k z => z
end
end PD

set_option maxHeartbeats 4000000
/-! PD14: defs. -/
namespace PD
open PySem PySem.Spec PyProof.Rows L2
/-- what a def's body does to data -/
def mir (n : Nat) (Γ : Gm) (body : List Stmt) : List D → W D := fun ds q x => match Γ.own.all fun i => decide (ds.length ≤ i) with
  | false => False
  | true => exSs (exS n Γ) body (ds.map some ++ List.replicate (Γ.N.length - ds.length) none) ⟨fun _ => q .none, q, fun _ => False, fun _ => False, x⟩
/-- a def of the text -/
structure Df where
  nm : Str
  ps : List Str
  N : List Str
  body : List Stmt
  scope : Scope
  fuel : Nat
  mkP : Bool := false
  own : List Nat := []
def stOf (scope : Scope) (x : Str) : Bool := match scope.names.lookup x with
  | some .local => true
  | some .cell => true
  | _ => false
theorem stOf_ok {scope : Scope} {x : Str} (h : stOf scope x = true) : scope.names.lookup x = some .local ∨ scope.names.lookup x = some .cell := by
  unfold stOf at h
  split at h
  · exact .inl (by assumption)
  · exact .inr (by assumption)
  · cases h
/-- what is known of the module -/
structure Md where
  cst : List (Str × D)
  free : List Str
  tabs : List (Str × List (Str × D))
  kws : List (Str × Nat × List Str × List Nat)
abbrev Fns := List (Str × Nat × Nat × (List D → W D))
def gmOf (M : Md) (fns : Fns) (d : Df) : Gm := ⟨d.N, d.scope, stOf d.scope, fns, M.cst, M.free, M.tabs, M.kws, d.mkP, d.own⟩
def ordM (M : Md) (x : Str) (n : Nat) (ks : List Str) : Option (List Nat) := (M.kws.find? fun t => decide (t.1 = x) && (decide (t.2.1 = n) && decide (t.2.2.1 = ks))).map (·.2.2.2)
/-- what is known where a def stands -/
structure Kn (c : Cn) (P : Program) (w : World) (base : Heap) (M : Md) (fns : Fns) (k : Nat) : Prop where
  free : ∀ x, M.free.contains x = true → c.mg x = none
  cst : ∀ x d, M.cst.lookup x = some d → ∃ v u, c.mg x = some u ∧ RelV v u ∧ ∀ P O H, Rp c P O H v d
  fns : ∀ x k' n m, fns.lookup x = some (k', n, m) → k' ≤ k ∧ ∃ f fd ps, c.mg x = some (.ref f) ∧ PySem.W.keepIn c.K (.ref f) = true ∧ Binds c.K fd ps [] ∧ ps.length = n ∧ FnG P w c.K c.mg base (L2.CX P w) k' f fd ps (spD c n m) ∧ ∀ j ks ord, ordM M x j ks = some ord → KBn c.K fd ps j ks (permL ord) (permL ord)
  tabs : ∀ T kvs, M.tabs.lookup T = some kvs → ∃ a es n, c.mg T = some (.ref a) ∧ KDict c.K w a es n ∧ (∀ z, ∃ r, PySem.W.nsIn c.K a z = some r ∧ r.isSome = (kvs.lookup z).isSome) ∧
    ∀ z d, kvs.lookup z = some d → ∃ u v, PySem.W.nsIn c.K a z = some (some u) ∧ RelV v u ∧ ∀ P O H, Rp c P O H v d
section
variable {c : Cn} {P : Program} {w : World} {base : Heap} {M : Md} {fns : Fns} {k : Nat} {Q : VK} {E : XK}
theorem start_ok {Pp O : Addr → Prop} {H : Hp} {N : List Str} {vs : List V} {ds : List D} (ok : WOk c Pp O H) (r : RpA c Pp O H vs ds) : EnvOk c Pp O H (L2.start N vs) (ds.map some ++ List.replicate (N.length - ds.length) none) := by
  refine ⟨ok, by unfold L2.start; simp [r.length], fun i d h => ?_⟩
  by_cases hi : i < ds.length
  · rw [List.getElem?_append_left (by simpa using hi), List.getElem?_map] at h
    cases e : ds[i]? with
    | none => rw [e] at h; cases h
    | some d' =>
      rw [e] at h
      cases h
      obtain ⟨v, h1, h2⟩ := r.get e
      refine ⟨v, ?_, h2⟩
      unfold L2.start
      rw [List.getElem?_append_left (by simp [r.length]; exact hi), List.getElem?_map, h1]
      rfl
  · rw [List.getElem?_append_right (by simpa using hi)] at h
    obtain ⟨_, e⟩ := List.getElem?_eq_some_iff.mp h
    simp at e
theorem start_S {Pp O : Addr → Prop} {H : Hp} {N : List Str} {L : List Nat} {vs : List V} {ds : List D} (ok : WOk c Pp O H) (r : RpA c Pp O H vs ds) (hL : ∀ i, i ∈ L → ds.length ≤ i) :
    EnvS c L Pp O (fun _ => False) H (L2.start N vs) (ds.map some ++ List.replicate (N.length - ds.length) none) := by
  have e := start_ok (N := N) ok r
  refine ⟨⟨⟨ok.pk, fun a z => ok.ow a (z.elim id False.elim)⟩, by rw [wipeE_len]; exact e.len, fun i d h => ?_⟩, fun i hi d h => ?_, fun a z => z.elim, fun i hi j hj n d d2 a h => ?_⟩
  · by_cases hi : i ∈ L
    · exact absurd h (wipeE_in hi)
    · rw [wipeE_out hi] at h
      obtain ⟨v, h1, h2⟩ := e.at_ i d h
      exact ⟨v, h1, h2.less (fun a z => z.elim id False.elim) ok.pk⟩
  all_goals
    rw [List.getElem?_append_right (by rw [List.length_map]; exact hL i hi)] at h
    obtain ⟨_, e⟩ := List.getElem?_eq_some_iff.mp h
    simp at e
theorem cmp_of (kn : Kn c P w base M fns k) {d : Df} {qual : Str} {f : Addr} {cd : Value} {A : Around} {outer : List Env} {s : Shared} {H : Hp} (S : FnScope d.N d.ps d.scope) (hr : Room k (A.deeper (envOfC qual d.scope s.heap.objs.size f cd))) (hgd : (A.deeper (envOfC qual d.scope s.heap.objs.size f cd)).guards = some []) :
    CmpS c (gmOf M fns d) E (cxOf (L2.CX P w) P w c.K c.mg base d.N qual d.scope f cd A outer s H E) where
  K := rfl
  mg := rfl
  N := rfl
  nd := S.nd
  sc := rfl
  calm := rfl
  room := hr.mono (Nat.zero_le _)
  gd := hgd
  st := fun x h => ⟨stOf_ok h, .inl rfl⟩
  free := kn.free
  cst := kn.cst
  fns := fun x k' n m h => by
    obtain ⟨hk, f, fd, ps, h1, h2, h3, h4, h5, _⟩ := kn.fns x k' n m h
    exact ⟨f, fd, ps, h1, h2, hr.mono hk, h3, h4, h5⟩
  tabs := kn.tabs
  kws := fun x j ks ord ho k' n m h => by
    obtain ⟨hk, f, fd, ps, h1, h2, h3, h4, h5, h6⟩ := kn.fns x k' n m h
    exact ⟨f, fd, ps, h1, h2, hr.mono hk, h6 j ks ord ho, h5⟩
  pass := passes_call (takes_of rfl rfl rfl rfl) fun _ _ _ _ h => h
  own := passes_of rfl
theorem def_ok (kn : Kn c P w base M fns k) {d : Df} {qual : Str} {params : Arguments} {dvs : List V} {kws : List (Str × V)} {f : Addr} {fd : FuncData} (F : FunD c.K d.nm qual params d.body d.scope dvs kws f fd) (S : FnScope d.N d.ps d.scope) :
    FnG P w c.K c.mg base (L2.CX P w) (k + 1) f fd d.ps (spD c d.ps.length (mir d.fuel (gmOf M fns d) d.body)) := by
  refine funD_okG F S (fun vs H Q E h => ?_) fun cdv A outer s H vs Q E hr hgd h => ?_
  · obtain ⟨P, O, ds, q, x, ok, r, hl, _⟩ := h
    rw [r.length, hl]
  · obtain ⟨P', O, ds, q, x, ok, r, hl, hm, fin⟩ := h
    have C := cmp_of (E := E) (H := H) (outer := outer) (f := f) (cd := cdv) (qual := qual) kn S hr hgd
    unfold mir at hm
    split at hm
    · exact hm.elim
    · rename_i hL
      have hL : ∀ i, i ∈ d.own → ds.length ≤ i := fun i hi => of_decide_eq_true (List.all_eq_true.mp hL i hi)
      refine ⟨_, pss_D (exS_ok C d.fuel) d.body, P', O, _, _, _, start_S ok r hL, hm, ?_⟩
      exact ⟨fun P1 M1 H1 σ ρ l e h => fin.val P1 H1 .non .none l.le0 .non h, fun P1 M1 H1 v d l => fin.val P1 H1 v d l.le0, fun _ _ _ _ _ _ _ h => h.elim, fun _ _ _ _ _ _ _ h => h.elim, fun P1 M1 H1 cls dd e l => fin.exc P1 H1 cls dd e l.le0⟩
end
/-- the program's own def, as the head tells it -/
structure DfOk (c : Cn) (M : Md) (d : Df) : Prop where
  S : FnScope d.N d.ps d.scope
  ex : ∃ f fd qual params dvs kws, c.mg d.nm = some (.ref f) ∧ FunD c.K d.nm qual params d.body d.scope dvs kws f fd ∧ Binds c.K fd d.ps [] ∧ ∀ j ks ord, ordM M d.nm j ks = some ord → KBn c.K fd d.ps j ks (permL ord) (permL ord)
section
variable {c : Cn} {P : Program} {w : World} {base : Heap} {M : Md}
theorem kn_cons {fns : Fns} {k k' n : Nat} {x : Str} {m : List D → W D} (kn : Kn c P w base M fns k) (hk : k ≤ k')
    (h : ∃ f fd ps, c.mg x = some (.ref f) ∧ PySem.W.keepIn c.K (.ref f) = true ∧ Binds c.K fd ps [] ∧ ps.length = n ∧ FnG P w c.K c.mg base (L2.CX P w) k' f fd ps (spD c n m) ∧ ∀ j ks ord, ordM M x j ks = some ord → KBn c.K fd ps j ks (permL ord) (permL ord)) : Kn c P w base M ((x, k', n, m) :: fns) k' where
  free := kn.free
  cst := kn.cst
  tabs := kn.tabs
  fns := fun y j i g e => by
    rw [List.lookup_cons] at e
    cases hy : y == x with
    | true =>
      rw [hy] at e
      cases e
      rw [eq_of_beq hy]
      exact ⟨Nat.le_refl _, h⟩
    | false =>
      rw [hy] at e
      obtain ⟨h1, h2⟩ := kn.fns y j i g e
      exact ⟨Nat.le_trans h1 hk, h2⟩
theorem kn_def {fns : Fns} {k : Nat} (kn : Kn c P w base M fns k) {d : Df} (h : DfOk c M d) : Kn c P w base M ((d.nm, k + 1, d.ps.length, mir d.fuel (gmOf M fns d) d.body) :: fns) (k + 1) := by
  obtain ⟨S, f, fd, qual, params, dvs, kws, hm, F, B, KB⟩ := h
  exact kn_cons kn (Nat.le_succ _) ⟨f, fd, d.ps, hm, F.kp, B, rfl, def_ok kn F S, KB⟩
/-- a weaker promise for the last def -/
theorem kn_imp {fns : Fns} {k k' n : Nat} {x : Str} {m m' : List D → W D} (kn : Kn c P w base M ((x, k', n, m) :: fns) k) (h : ∀ ds q y, ds.length = n → m' ds q y → m ds q y) : Kn c P w base M ((x, k', n, m') :: fns) k where
  free := kn.free
  cst := kn.cst
  tabs := kn.tabs
  fns := fun y j i g e => by
    rw [List.lookup_cons] at e
    cases hy : y == x with
    | true =>
      rw [hy] at e
      cases e
      obtain ⟨h1, f, fd, ps, h2, h3, h4, h5, h6, h8⟩ := kn.fns y _ _ m (by rw [List.lookup_cons, hy])
      refine ⟨h1, f, fd, ps, h2, h3, h4, h5, h6.imp fun vs H Q E h7 => ?_, by rw [eq_of_beq hy]; rw [eq_of_beq hy] at h8; exact h8⟩
      obtain ⟨P', O, ds, q, x, ok, r, hl, hm, fin⟩ := h7
      exact ⟨P', O, ds, q, x, ok, r, hl, h ds q x hl hm, fin⟩
    | false =>
      rw [hy] at e
      exact kn.fns y j i g (by rw [List.lookup_cons, hy]; exact e)
end
end PD

set_option maxHeartbeats 4000000
/-! PDz: plain lemmas on the interpreter's combinators. -/
namespace PD
open PySem PySem.Spec PyProof.Rows L2
/-- a comprehension whose turns give f -/
theorem lcGo_of {step : PyData → W (Option PyData)} {f : PyData → Option PyData} : ∀ {ds acc : List PyData} {q : List PyData → Prop} {x : Xc → Prop}, (∀ d ∈ ds, ∀ q x, q (f d) → step d q x) → acc.length + ds.length ≤ sizeLine → q (acc ++ ds.filterMap f) → lcGo step ds acc q x
  | [], acc, q, x, _, _, h => by
    show q acc
    simpa using h
  | d :: ds, acc, q, x, hs, hl, h => by
    rw [List.length_cons] at hl
    unfold lcGo
    refine hs d (List.mem_cons_self ..) _ _ ?_
    cases e : f d with
    | none =>
      refine lcGo_of (fun d' hd => hs d' (List.mem_cons_of_mem _ hd)) (by omega) ?_
      rw [List.filterMap_cons, e] at h
      exact h
    | some v =>
      refine ⟨by omega, lcGo_of (fun d' hd => hs d' (List.mem_cons_of_mem _ hd)) (by rw [List.length_append, List.length_singleton]; omega) ?_⟩
      rw [List.filterMap_cons, e] at h
      rw [List.append_assoc]
      exact h
theorem boolsOf_map (l : List Bool) : boolsOf (l.map PyData.bool) = some l := by
  induction l with
  | nil => rfl
  | cons b l ih =>
    show (boolsOf (l.map PyData.bool)).map (b :: ·) = _
    rw [ih]
    rfl
theorem intsOf_map (l : List Int) : intsOf (l.map PyData.int) = some l := by
  induction l with
  | nil => rfl
  | cons b l ih =>
    show (intsOf (l.map PyData.int)).map (b :: ·) = _
    rw [ih]
    rfl
theorem filterMap_some {α β : Type} (f : α → β) (l : List α) : l.filterMap (fun a => some (f a)) = l.map f := by
  induction l with
  | nil => rfl
  | cons a l ih => rw [List.filterMap_cons, ih] <;> rfl
/-- all([p(d) for d in ds]) -/
theorem all_of {step : PyData → W (Option PyData)} {p : PyData → Bool} {ds : List PyData} {q : PyData → Prop} {x : Xc → Prop} (hs : ∀ d ∈ ds, ∀ q x, q (some (.bool (p d))) → step d q x) (hl : ds.length ≤ sizeLine) (h : q (.bool (ds.all p))) :
    lcGo step ds [] (fun ys => dAll [.list ys] q x) x := by
  refine lcGo_of (f := fun d => some (.bool (p d))) hs (by simpa using hl) ?_
  rw [List.nil_append, filterMap_some]
  have e : ds.map (fun d => PyData.bool (p d)) = (ds.map p).map PyData.bool := by rw [List.map_map]; rfl
  show W.opt (boolsOf (ds.map fun d => PyData.bool (p d))) (fun bs => W.ret (.bool (bs.all id))) q x
  rw [e, boolsOf_map]
  show q (.bool ((ds.map p).all id))
  rw [List.all_map]
  exact h
theorem cutD_take (ds : List PyData) (k : Nat) : cutD ds none (some (k : Int)) = ds.take k := by
  unfold cutD
  rw [HT.sIx_none, HT.sIx_nat, List.drop_zero, Nat.sub_zero]
  rcases Nat.le_total k ds.length with h | h
  · rw [Nat.min_eq_left h]
  · rw [Nat.min_eq_right h, List.take_length, List.take_of_length_le h]
theorem cutD_drop (ds : List PyData) (k : Nat) : cutD ds (some (k : Int)) none = ds.drop k := by
  unfold cutD
  rw [HT.sIx_none, HT.sIx_nat]
  rcases Nat.le_total k ds.length with h | h
  · rw [Nat.min_eq_left h, List.take_of_length_le (by rw [List.length_drop]; omega)]
  · rw [Nat.min_eq_right h, List.drop_length, List.drop_eq_nil_of_le h, List.take_nil]
end PD

set_option maxHeartbeats 4000000
/-! PDy: words of the residuals, and how they reduce. -/
namespace PD
open PySem PySem.Spec PyProof.Rows L2
def W.ite {α : Type} (b : Bool) (m m' : W α) : W α := match b with
  | true => m
  | false => m'
def rg1 (ds : List D) : W (List D) := match ds with
  | [.int j] => W.need (ok62 j) (W.ret (rangeD 0 j))
  | _ => W.bad
def rg2 (ds : List D) : W (List D) := match ds with
  | [.int i, .int j] => W.need (ok62 i ∧ ok62 j) (W.ret (rangeD i j))
  | _ => W.bad
section
variable {α : Type} {q : D → Prop} {y : Xc → Prop}
theorem asB_b (b : Bool) (k : Bool → Prop) (y : Xc → Prop) : asB (.bool b) k y = k b := rfl
theorem asI_i (i : Int) (k : Int → Prop) (y : Xc → Prop) : asI (.int i) k y = k i := rfl
theorem ite_t (m m' : W α) (k : α → Prop) (y : Xc → Prop) : W.ite true m m' k y = m k y := rfl
theorem ite_f (m m' : W α) (k : α → Prop) (y : Xc → Prop) : W.ite false m m' k y = m' k y := rfl
theorem ret_ap (a : α) (k : α → Prop) (y : Xc → Prop) : W.ret a k y = k a := rfl
theorem need_ap (p : Prop) (m : W α) (k : α → Prop) (y : Xc → Prop) : W.need p m k y = (p ∧ m k y) := rfl
theorem opt_s {β : Type} (a : β) (f : β → W α) (k : α → Prop) (y : Xc → Prop) : W.opt (some a) f k y = f a k y := rfl
theorem isInt_i (i : Int) : isT "int" (.int i) = some true := rfl
theorem isInt_b (b : Bool) : isT "int" (.bool b) = some true := rfl
theorem isInt_n : isT "int" .none = some false := rfl
theorem isInt_s (s : Str) : isT "int" (.str s) = some false := rfl
theorem isInt_l (s : List D) : isT "int" (.list s) = some false := rfl
theorem isInt_t (s : List D) : isT "int" (.tuple s) = some false := rfl
theorem isInt_d : isT "int" (.dict []) = some false := rfl
theorem isBool_i (i : Int) : isT "bool" (.int i) = some false := rfl
theorem isBool_b (b : Bool) : isT "bool" (.bool b) = some true := rfl
theorem isBool_n : isT "bool" .none = some false := rfl
theorem isBool_s (s : Str) : isT "bool" (.str s) = some false := rfl
theorem isBool_l (s : List D) : isT "bool" (.list s) = some false := rfl
theorem isBool_t (s : List D) : isT "bool" (.tuple s) = some false := rfl
theorem isBool_d : isT "bool" (.dict []) = some false := rfl
theorem isTup_i (i : Int) : isT "tuple" (.int i) = some false := rfl
theorem isTup_b (b : Bool) : isT "tuple" (.bool b) = some false := rfl
theorem isTup_n : isT "tuple" .none = some false := rfl
theorem isTup_s (s : Str) : isT "tuple" (.str s) = some false := rfl
theorem isTup_l (s : List D) : isT "tuple" (.list s) = some false := rfl
theorem isTup_t (s : List D) : isT "tuple" (.tuple s) = some true := rfl
theorem isTup_d : isT "tuple" (.dict []) = some false := rfl
theorem isStr_i (i : Int) : isT "str" (.int i) = some false := rfl
theorem isStr_s (s : Str) : isT "str" (.str s) = some true := rfl
theorem isStr_t (s : List D) : isT "str" (.tuple s) = some false := rfl
theorem len_t (ds : List D) (y : Xc → Prop) : dLen [.tuple ds] q y = q (.int (ds.length : Int)) := rfl
theorem len_l (ds : List D) (y : Xc → Prop) : dLen [.list ds] q y = q (.int (ds.length : Int)) := rfl
theorem shaped_i (i : Int) : SeqAt.shaped (.int i) = true := by simp [SeqAt.shaped, PyData.canLay0, PyData.depth]
theorem shaped_b (i : Bool) : SeqAt.shaped (.bool i) = true := by simp [SeqAt.shaped, PyData.canLay0, PyData.depth]
theorem shaped_s (i : Str) (h : PyData.strOk i = true) : SeqAt.shaped (.str i) = true := by simp [SeqAt.shaped, PyData.canLay0, PyData.depth, h]
theorem shaped_n : SeqAt.shaped .none = true := by simp [SeqAt.shaped, PyData.canLay0, PyData.depth]
theorem eq_ii (i j : Int) (y : Xc → Prop) : dCmp .Eq (.int i) (.int j) q y = q (.bool (decide (i = j))) := by
  have e : PyData.eqv (.int i) (.int j) = decide (i = j) := by
    simp only [PyData.eqv]
    exact Bool.beq_eq_decide_eq _ _
  show ((SeqAt.shaped (.int i) = true ∧ SeqAt.shaped (.int j) = true) ∧ q (.bool (PyData.eqv (.int i) (.int j)))) = _
  rw [e, shaped_i, shaped_i]
  simp
theorem ne_ii (i j : Int) (y : Xc → Prop) : dCmp .NotEq (.int i) (.int j) q y = q (.bool (!decide (i = j))) := by
  have e : PyData.eqv (.int i) (.int j) = decide (i = j) := by
    simp only [PyData.eqv]
    exact Bool.beq_eq_decide_eq _ _
  show ((SeqAt.shaped (.int i) = true ∧ SeqAt.shaped (.int j) = true) ∧ q (.bool (!PyData.eqv (.int i) (.int j)))) = _
  rw [e, shaped_i, shaped_i]
  simp
theorem lt_ii (i j : Int) (y : Xc → Prop) : dCmp .Lt (.int i) (.int j) q y = q (.bool (decide (i < j))) := rfl
theorem le_ii (i j : Int) (y : Xc → Prop) : dCmp .LtE (.int i) (.int j) q y = q (.bool (decide (i ≤ j))) := rfl
theorem gt_ii (i j : Int) (y : Xc → Prop) : dCmp .Gt (.int i) (.int j) q y = q (.bool (decide (j < i))) := rfl
theorem ge_ii (i j : Int) (y : Xc → Prop) : dCmp .GtE (.int i) (.int j) q y = q (.bool (decide (j ≤ i))) := rfl
theorem add_ii (i j : Int) (y : Xc → Prop) : dBin .Add (.int i) (.int j) q y = q (.int (i + j)) := rfl
theorem sub_ii (i j : Int) (y : Xc → Prop) : dBin .Sub (.int i) (.int j) q y = q (.int (i - j)) := rfl
theorem neg_i (i : Int) (y : Xc → Prop) : dNeg (.int i) q y = q (.int (-i)) := rfl
theorem add_tt (a b : List D) (y : Xc → Prop) : dBin .Add (.tuple a) (.tuple b) q y = (a.length + b.length ≤ sizeLine ∧ q (.tuple (a ++ b))) := rfl
theorem add_ll (a b : List D) (y : Xc → Prop) : dBin .Add (.list a) (.list b) q y = (a.length + b.length ≤ sizeLine ∧ q (.list (a ++ b))) := rfl
theorem items_t (ds : List D) (k : List D → Prop) (y : Xc → Prop) : itemsOf (.tuple ds) k y = k ds := rfl
theorem items_l (ds : List D) (k : List D → Prop) (y : Xc → Prop) : itemsOf (.list ds) k y = k ds := rfl
theorem walk_t (ds : List D) (k : List D → Prop) (y : Xc → Prop) : walkOf (.tuple ds) k y = k ds := rfl
theorem walk_l (ds : List D) (k : List D → Prop) (y : Xc → Prop) : walkOf (.list ds) k y = k ds := rfl
theorem sl_t (ds : List D) (lo hi : Option Int) (y : Xc → Prop) : dSl (.tuple ds) lo hi q y = q (.tuple (cutD ds lo hi)) := rfl
theorem sl_l (ds : List D) (lo hi : Option Int) (y : Xc → Prop) : dSl (.list ds) lo hi q y = q (.list (cutD ds lo hi)) := rfl
theorem ix_t (ds : List D) (i : Int) (y : Xc → Prop) : dIx (.tuple ds) (.int i) q y = W.opt (atI ds i) W.ret q y := rfl
theorem ix_l (ds : List D) (i : Int) (y : Xc → Prop) : dIx (.list ds) (.int i) q y = W.opt (atI ds i) W.ret q y := rfl
theorem mul_ii (i j : Int) (y : Xc → Prop) : dBin .Mult (.int i) (.int j) q y = ((CMul i j ∨ CMulX i j) ∧ q (.int (i * j))) := rfl
theorem fdiv_ii (i j : Int) (y : Xc → Prop) : dBin .FloorDiv (.int i) (.int j) q y = (CDiv i j ∧ q (.int (i / j))) := rfl
theorem mod_ii (i j : Int) (y : Xc → Prop) : dBin .Mod (.int i) (.int j) q y = (0 < j ∧ q (.int (i % j))) := rfl
theorem int_i (i : Int) (y : Xc → Prop) : dInt [.int i] q y = q (.int i) := rfl
theorem abs_i (i : Int) (y : Xc → Prop) : dAbs [.int i] q y = q (.int (if i < 0 then -i else i)) := rfl
theorem list_l (ds : List D) (y : Xc → Prop) : dList [.list ds] q y = q (.list ds) := rfl
theorem list_t (ds : List D) (y : Xc → Prop) : dList [.tuple ds] q y = q (.list ds) := rfl
theorem tuple_l (ds : List D) (y : Xc → Prop) : dTuple [.list ds] q y = q (.tuple ds) := rfl
theorem tuple_t (ds : List D) (y : Xc → Prop) : dTuple [.tuple ds] q y = q (.tuple ds) := rfl
theorem rg1_i (j : Int) (k : List D → Prop) (y : Xc → Prop) : rg1 [.int j] k y = (ok62 j ∧ k (rangeD 0 j)) := rfl
theorem rg2_i (i j : Int) (k : List D → Prop) (y : Xc → Prop) : rg2 [.int i, .int j] k y = ((ok62 i ∧ ok62 j) ∧ k (rangeD i j)) := rfl
theorem zip_l (a b : List D) (k : List D → Prop) (y : Xc → Prop) : zipOf (.list a) (.list b) k y = k (zipD a b) := rfl
theorem zip_t (a b : List D) (k : List D → Prop) (y : Xc → Prop) : zipOf (.tuple a) (.tuple b) k y = k (zipD a b) := rfl
theorem is_n (a : D) (y : Xc → Prop) : dCmp .Is a .none q y = q (.bool (isNone a)) := by cases a <;> rfl
theorem isnot_n (a : D) (y : Xc → Prop) : dCmp .IsNot a .none q y = q (.bool (!isNone a)) := by cases a <;> rfl
theorem is_b (a b : Bool) (y : Xc → Prop) : dCmp .Is (.bool a) (.bool b) q y = q (.bool (decide (a = b))) := rfl
theorem isnot_b (a b : Bool) (y : Xc → Prop) : dCmp .IsNot (.bool a) (.bool b) q y = q (.bool (!decide (a = b))) := rfl
theorem eq_ab (a b : D) (y : Xc → Prop) : dCmp .Eq a b q y = ((SeqAt.shaped a = true ∧ SeqAt.shaped b = true) ∧ q (.bool (PyData.eqv a b))) := rfl
theorem ne_ab (a b : D) (y : Xc → Prop) : dCmp .NotEq a b q y = ((SeqAt.shaped a = true ∧ SeqAt.shaped b = true) ∧ q (.bool (!PyData.eqv a b))) := rfl
theorem sizeOk_of {ds : List D} (h : ds.length ≤ 1000000) : sizeOk ds := by
  show ds.length ≤ sizeLine
  rw [sizeLine_eq]
  omega
theorem atI_lt {α : Type} {xs : List α} {k : Int} (h0 : 0 ≤ k) (h1 : k < xs.length) : ∃ h, atI xs k = some (xs[k.toNat]'h) := by
  obtain ⟨n, rfl⟩ := Int.eq_ofNat_of_zero_le h0
  have hn : n < xs.length := by omega
  exact ⟨by simpa using hn, atI_nat (by simp [hn])⟩
theorem tupOf_t (n : Nat) (ds : List D) (h : ds.length = n) : tupOf n (.tuple ds) = some ds := by
  unfold tupOf
  exact if_pos h
theorem sum_ints (l : List Int) (y : Xc → Prop) : dSum [.list (l.map PyData.int)] q y = q (.int l.sum) := by
  show W.opt (intsOf (l.map PyData.int)) (fun ns => W.ret (.int ns.sum)) q y = _
  rw [intsOf_map] <;> rfl
theorem sum_tints (l : List Int) (y : Xc → Prop) : dSum [.tuple (l.map PyData.int)] q y = q (.int l.sum) := by
  show W.opt (intsOf (l.map PyData.int)) (fun ns => W.ret (.int ns.sum)) q y = _
  rw [intsOf_map] <;> rfl
theorem all_bools (l : List Bool) (y : Xc → Prop) : dAll [.list (l.map PyData.bool)] q y = q (.bool (l.all id)) := by
  show W.opt (boolsOf (l.map PyData.bool)) (fun ns => W.ret (.bool (ns.all id))) q y = _
  rw [boolsOf_map] <;> rfl
theorem any_bools (l : List Bool) (y : Xc → Prop) : dAny [.list (l.map PyData.bool)] q y = q (.bool (l.any id)) := by
  show W.opt (boolsOf (l.map PyData.bool)) (fun ns => W.ret (.bool (ns.any id))) q y = _
  rw [boolsOf_map] <;> rfl
end
theorem sizeOk_0 : sizeOk [] = True := eq_true (sizeOk_of (by decide))
theorem sizeOk_1 (a : D) : sizeOk [a] = True := eq_true (sizeOk_of (by simp))
theorem sizeOk_2 (a b : D) : sizeOk [a, b] = True := eq_true (sizeOk_of (by simp))
theorem sizeOk_3 (a b c : D) : sizeOk [a, b, c] = True := eq_true (sizeOk_of (by simp))
theorem sizeOk_4 (a b c d : D) : sizeOk [a, b, c, d] = True := eq_true (sizeOk_of (by simp))
theorem sizeOk_5 (a b c d e : D) : sizeOk [a, b, c, d, e] = True := eq_true (sizeOk_of (by simp))
theorem sizeOk_6 (a b c d e f : D) : sizeOk [a, b, c, d, e, f] = True := eq_true (sizeOk_of (by simp))
theorem tupOf_1 (a : D) : tupOf 1 (.tuple [a]) = some [a] := rfl
theorem tupOf_2 (a b : D) : tupOf 2 (.tuple [a, b]) = some [a, b] := rfl
theorem tupOf_3 (a b c : D) : tupOf 3 (.tuple [a, b, c]) = some [a, b, c] := rfl
theorem tupOf_4 (a b c d : D) : tupOf 4 (.tuple [a, b, c, d]) = some [a, b, c, d] := rfl
theorem atI_0 {α : Type} (a : α) (l : List α) : atI (a :: l) 0 = some a := atI_nat (j := 0) rfl
theorem atI_1 {α : Type} (a b : α) (l : List α) : atI (a :: b :: l) 1 = some b := atI_nat (j := 1) rfl
theorem atI_2 {α : Type} (a b c : α) (l : List α) : atI (a :: b :: c :: l) 2 = some c := atI_nat (j := 2) rfl
theorem atI_3 {α : Type} (a b c d : α) (l : List α) : atI (a :: b :: c :: d :: l) 3 = some d := atI_nat (j := 3) rfl
theorem ite_and (b c : Bool) (k : D → Prop) (y : Xc → Prop) : W.ite b (fun q _ => q (.bool c)) (W.ret (.bool false)) k y = k (.bool (b && c)) := by cases b <;> rfl
theorem ite_or (b c : Bool) (k : D → Prop) (y : Xc → Prop) : W.ite b (W.ret (.bool true)) (fun q _ => q (.bool c)) k y = k (.bool (b || c)) := by cases b <;> rfl
theorem ite_some {β : Type} (b : Bool) (a : β) (k : Option β → Prop) (y : Xc → Prop) : W.ite b (fun q _ => q (some a)) (W.ret none) k y = k (if b then some a else none) := by cases b <;> rfl
theorem ite_two (b : Bool) (a c : D) (k : D → Prop) (y : Xc → Prop) : W.ite b (fun q _ => q a) (fun q _ => q c) k y = k (if b then a else c) := by cases b <;> rfl
theorem lcGo_map {ι : Type} {step : D → W (Option D)} (enc : ι → D) (f : ι → Option D) : ∀ {l : List ι} {acc : List D} {q : List D → Prop} {x : Xc → Prop}, (∀ a ∈ l, ∀ q x, q (f a) → step (enc a) q x) → acc.length + l.length ≤ sizeLine → q (acc ++ l.filterMap f) → lcGo step (l.map enc) acc q x
  | [], acc, q, x, _, _, h => by
    show q acc
    simpa using h
  | d :: ds, acc, q, x, hs, hl, h => by
    rw [List.length_cons] at hl
    rw [List.map_cons]
    unfold lcGo
    refine hs d (List.mem_cons_self ..) _ _ ?_
    cases e : f d with
    | none =>
      refine lcGo_map enc f (fun d' hd => hs d' (List.mem_cons_of_mem _ hd)) (by omega) ?_
      rw [List.filterMap_cons, e] at h
      exact h
    | some v =>
      refine ⟨by omega, lcGo_map enc f (fun d' hd => hs d' (List.mem_cons_of_mem _ hd)) (by rw [List.length_append, List.length_singleton]; omega) ?_⟩
      rw [List.filterMap_cons, e] at h
      rw [List.append_assoc]
      exact h
/-- [g(a) for a in l] -/
theorem lcGo_maps {ι : Type} {step : D → W (Option D)} (enc : ι → D) (g : ι → D) {l : List ι} {q : List D → Prop} {x : Xc → Prop} (hs : ∀ a ∈ l, ∀ q x, q (some (g a)) → step (enc a) q x) (hl : l.length ≤ sizeLine) (h : q (l.map g)) : lcGo step (l.map enc) [] q x := by
  refine lcGo_map enc (fun a => some (g a)) hs (by simpa using hl) ?_
  rw [List.nil_append, filterMap_some]
  exact h
/-- [g(a) for a in l if c(a)] -/
theorem lcGo_filt {ι : Type} {step : D → W (Option D)} (enc : ι → D) (c : ι → Bool) (g : ι → D) {l : List ι} {q : List D → Prop} {x : Xc → Prop} (hs : ∀ a ∈ l, ∀ q x, q (if c a then some (g a) else none) → step (enc a) q x) (hl : l.length ≤ sizeLine) (h : q ((l.filter c).map g)) : lcGo step (l.map enc) [] q x := by
  refine lcGo_map enc (fun a => if c a then some (g a) else none) hs (by simpa using hl) ?_
  rw [List.nil_append]
  have e : l.filterMap (fun a => if c a then some (g a) else none) = (l.filter c).map g := by
    clear hs hl h
    induction l with
    | nil => rfl
    | cons a l ih =>
      rw [List.filterMap_cons, List.filter_cons]
      cases c a
      · simpa using ih
      · simp [ih]
  rw [e]
  exact h
theorem all_map {ι : Type} {step : D → W (Option D)} (enc : ι → D) (p : ι → Bool) {l : List ι} {q : D → Prop} {x x' : Xc → Prop} (hs : ∀ a ∈ l, ∀ q x, q (some (.bool (p a))) → step (enc a) q x) (hl : l.length ≤ sizeLine) (h : q (.bool (l.all p))) :
    lcGo step (l.map enc) [] (fun ys => dAll [.list ys] q x') x := by
  refine lcGo_maps enc (fun a => .bool (p a)) hs hl ?_
  have e : l.map (fun a => PyData.bool (p a)) = (l.map p).map PyData.bool := by rw [List.map_map]; rfl
  rw [e, all_bools, List.all_map]
  exact h
theorem any_map {ι : Type} {step : D → W (Option D)} (enc : ι → D) (p : ι → Bool) {l : List ι} {q : D → Prop} {x x' : Xc → Prop} (hs : ∀ a ∈ l, ∀ q x, q (some (.bool (p a))) → step (enc a) q x) (hl : l.length ≤ sizeLine) (h : q (.bool (l.any p))) :
    lcGo step (l.map enc) [] (fun ys => dAny [.list ys] q x') x := by
  refine lcGo_maps enc (fun a => .bool (p a)) hs hl ?_
  have e : l.map (fun a => PyData.bool (p a)) = (l.map p).map PyData.bool := by rw [List.map_map]; rfl
  rw [e, any_bools, List.any_map]
  exact h
/-- sum([g(a) for a in l if c(a)]) -/
theorem sum_filt {ι : Type} {step : D → W (Option D)} (enc : ι → D) (c : ι → Bool) (g : ι → Int) {l : List ι} {q : D → Prop} {x x' : Xc → Prop} (hs : ∀ a ∈ l, ∀ q x, q (if c a then some (.int (g a)) else none) → step (enc a) q x) (hl : l.length ≤ sizeLine) (h : q (.int ((l.filter c).map g).sum)) :
    lcGo step (l.map enc) [] (fun ys => dSum [.list ys] q x') x := by
  refine lcGo_filt enc c (fun a => .int (g a)) hs hl ?_
  have e : (l.filter c).map (fun a => PyData.int (g a)) = ((l.filter c).map g).map PyData.int := by rw [List.map_map]; rfl
  rw [e, sum_ints]
  exact h
theorem sum_map {ι : Type} {step : D → W (Option D)} (enc : ι → D) (g : ι → Int) {l : List ι} {q : D → Prop} {x x' : Xc → Prop} (hs : ∀ a ∈ l, ∀ q x, q (some (.int (g a))) → step (enc a) q x) (hl : l.length ≤ sizeLine) (h : q (.int (l.map g).sum)) :
    lcGo step (l.map enc) [] (fun ys => dSum [.list ys] q x') x := by
  refine lcGo_maps enc (fun a => .int (g a)) hs hl ?_
  have e : l.map (fun a => PyData.int (g a)) = (l.map g).map PyData.int := by rw [List.map_map]; rfl
  rw [e, sum_ints]
  exact h
theorem zipD_map {α β : Type} (e1 : α → D) (e2 : β → D) (a : List α) (b : List β) : zipD (a.map e1) (b.map e2) = (a.zip b).map fun p => .tuple [e1 p.1, e2 p.2] := by
  unfold zipD
  rw [List.zip_map, List.map_map]
  rfl
theorem enumD_map {α : Type} (e : α → D) (a : List α) : enumD (a.map e) = a.zipIdx.map fun p => .tuple [.int (p.2 : Nat), e p.1] := by
  unfold enumD
  rw [List.mapIdx_eq_zipIdx_map, List.zipIdx_map, List.map_map]
  rfl
theorem rangeD_nat (n : Nat) : rangeD 0 (n : Int) = (List.range n).map fun k => .int ((k : Nat) : Int) := by
  unfold rangeD
  rw [show ((n : Int) - 0).toNat = n by omega]
  exact List.map_congr_left fun k _ => by rw [Int.zero_add]
theorem rangeD_two (m n : Nat) : rangeD (m : Int) (n : Int) = (List.range' m (n - m)).map fun k => .int ((k : Nat) : Int) := by
  unfold rangeD
  rw [show ((n : Int) - m).toNat = n - m by omega, List.range'_eq_map_range, List.map_map]
  exact List.map_congr_left fun k _ => by show PyData.int _ = PyData.int _; rw [Int.natCast_add]
theorem cut2 (a b c : D) : cutD [a, b, c] none (some (2 : Int)) = [a, b] := by
  rw [show (2 : Int) = ((2 : Nat) : Int) from rfl, cutD_take]
  rfl
theorem leInts2 (a b a' b' : Int) : leInts [a, b] [a', b'] = decide (a < a' ∨ (a = a' ∧ b ≤ b')) := by
  unfold leInts
  simp only [List.length_cons, List.length_nil, Ob.lexAt, List.getD_cons_zero, List.getD_cons_succ, Nat.min_self]
  by_cases h1 : a = a'
  · subst h1
    by_cases h2 : b = b'
    · subst h2
      simp
    · simp [h2]
      try omega
  · simp [h1]
    try omega
end PD

set_option maxHeartbeats 4000000
/-! PDx: shapes of data; what sorted puts first. -/
namespace PD
open PySem PySem.Spec PyProof.Rows L2
theorem canLayAll_of : ∀ {ds : List D}, (∀ d ∈ ds, d.canLay0 = true) → PyData.canLayAll0 ds = true
  | [], _ => rfl
  | d :: ds, h => by
    rw [PyData.canLayAll0, h d (List.mem_cons_self ..), canLayAll_of fun e he => h e (List.mem_cons_of_mem _ he)]
    rfl
theorem depthAll_of {k : Nat} : ∀ {ds : List D}, (∀ d ∈ ds, d.depth ≤ k) → PyData.depthAll ds ≤ k
  | [], _ => Nat.zero_le _
  | d :: ds, h => by
    rw [PyData.depthAll]
    exact Nat.max_le.mpr ⟨h d (List.mem_cons_self ..), depthAll_of fun e he => h e (List.mem_cons_of_mem _ he)⟩
def shp (k : Nat) (d : D) : Prop := d.canLay0 = true ∧ d.depth ≤ k
theorem shp_int (k : Nat) (i : Int) : shp k (.int i) := ⟨rfl, Nat.zero_le _⟩
theorem shp_bool (k : Nat) (i : Bool) : shp k (.bool i) := ⟨rfl, Nat.zero_le _⟩
theorem shp_none (k : Nat) : shp k .none := ⟨rfl, Nat.zero_le _⟩
theorem shp_str (k : Nat) (x : Str) (h : PyData.strOk x = true) : shp k (.str x) := ⟨by rw [PyData.canLay0]; exact h, Nat.zero_le _⟩
theorem shp_tup {k : Nat} {ds : List D} (h : ∀ d ∈ ds, shp k d) : shp (k + 1) (.tuple ds) := ⟨by rw [PyData.canLay0]; exact canLayAll_of fun d hd => (h d hd).1, by rw [PyData.depth]; exact Nat.succ_le_succ (depthAll_of fun d hd => (h d hd).2)⟩
theorem shp_list {k : Nat} {ds : List D} (h : ∀ d ∈ ds, shp k d) : shp (k + 1) (.list ds) := ⟨by rw [PyData.canLay0]; exact canLayAll_of fun d hd => (h d hd).1, by rw [PyData.depth]; exact Nat.succ_le_succ (depthAll_of fun d hd => (h d hd).2)⟩
theorem shp.mono {k k' : Nat} {d : D} (h : shp k d) (hk : k ≤ k') : shp k' d := ⟨h.1, Nat.le_trans h.2 hk⟩
theorem shaped_of {k : Nat} {d : D} (h : shp k d) (hk : k ≤ 64) : SeqAt.shaped d = true := by
  rw [SeqAt.shaped, h.1, decide_eq_true (Nat.le_trans h.2 hk)]
  rfl
theorem shp_ints (l : List Int) : shp 1 (.tuple (l.map PyData.int)) := shp_tup fun d hd => by
  obtain ⟨i, _, rfl⟩ := List.mem_map.mp hd
  exact shp_int 0 i
theorem alike_ints : ∀ l m : List Int, PySem.W.alikeAll (l.map PyData.int) (m.map PyData.int) = true
  | [], _ => by rw [List.map_nil, PySem.W.alikeAll]
  | _ :: _, [] => by rw [List.map_nil, List.map_cons, PySem.W.alikeAll]
  | _ :: l, _ :: m => by
    rw [List.map_cons, List.map_cons, PySem.W.alikeAll, PySem.W.alike, alike_ints l m]
    rfl
mutual
theorem eqv_refl : ∀ d : D, d.canLay0 = true → PyData.eqv d d = true
  | .none, _ => rfl
  | .bool b, _ => by simp [PyData.eqv]
  | .int i, _ => by simp [PyData.eqv]
  | .str x, _ => by simp [PyData.eqv]
  | .list xs, h => by
    rw [PyData.eqv]
    exact eqvAll_refl xs (by simpa only [PyData.canLay0] using h)
  | .tuple xs, h => by
    rw [PyData.eqv]
    exact eqvAll_refl xs (by simpa only [PyData.canLay0] using h)
  | .dict _, h => by simp [PyData.canLay0] at h
theorem eqvAll_refl : ∀ ds : List D, PyData.canLayAll0 ds = true → PyData.eqvAll ds ds = true
  | [], _ => rfl
  | d :: ds, h => by
    have e : d.canLay0 = true ∧ PyData.canLayAll0 ds = true := by simpa only [PyData.canLayAll0, Bool.and_eq_true] using h
    rw [PyData.eqvAll, eqv_refl d e.1, eqvAll_refl ds e.2]
    rfl
end
theorem eq_self_d {k : Nat} {d : D} {q : D → Prop} {y : Xc → Prop} (h : shp k d) (hk : k ≤ 64) (hq : q (.bool true)) : dCmp .Eq d d q y := by
  rw [eq_ab, eqv_refl d h.1]
  exact ⟨⟨shaped_of h hk, shaped_of h hk⟩, hq⟩
theorem ne_self_d {k : Nat} {d : D} {q : D → Prop} {y : Xc → Prop} (h : shp k d) (hk : k ≤ 64) (hq : q (.bool false)) : dCmp .NotEq d d q y := by
  rw [ne_ab, eqv_refl d h.1]
  exact ⟨⟨shaped_of h hk, shaped_of h hk⟩, hq⟩
/-- sorted(ds): a permutation, each ahead of what is no less -/
theorem sortD_perm (ds : List D) : (sortD ds).Perm ds := List.mergeSort_perm _ _
theorem sortD_pair (ds : List D) : (sortD ds).Pairwise fun a b => PySem.W.dataLe false id a b = true := PySem.W.sort_pairwise (PySem.W.sortLe_total (listOrd itemOrd) false fun b => PySem.W.keyToks (id b)) ds
theorem dataLe_int {a b : Int} {xs ys : List D} (h : PySem.W.dataLe false id (.tuple (.int a :: xs)) (.tuple (.int b :: ys)) = true) : a ≤ b := by
  have h1 : (!PyProof.Rows.lexLt itemOrd (PySem.W.keyToks (.tuple (.int b :: ys))) (PySem.W.keyToks (.tuple (.int a :: xs)))) = true := h
  rw [Bool.not_eq_true'] at h1
  rcases Int.lt_or_le b a with hlt | hle
  · exfalso
    rw [PySem.W.keyToks, PySem.W.keyToks, PySem.W.keyToksAll, PySem.W.keyToksAll, lex_self, PySem.W.keyToks, PySem.W.keyToks] at h1
    have h2 : PyProof.Rows.lexLt itemOrd (.inl b :: PySem.W.keyToksAll ys) (.inl a :: PySem.W.keyToksAll xs) = false := h1
    rw [lex_diff (O := itemOrd) (by intro e; cases e; omega)] at h2
    have h3 : decide (b < a) = false := h2
    rw [decide_eq_false_iff_not] at h3
    omega
  · exact hle
/-- a comprehension of two clauses -/
theorem lc2Go_map {ι : Type} {step : D → List D → W (List D)} (enc : ι → D) (f : ι → List D) (N : Nat) : ∀ {l : List ι} {acc : List D} {q : List D → Prop} {x : Xc → Prop}, (∀ a ∈ l, ∀ acc q x, acc.length + (f a).length ≤ N → q (acc ++ f a) → step (enc a) acc q x) → acc.length + (l.flatMap f).length ≤ N → q (acc ++ l.flatMap f) → lc2Go step (l.map enc) acc q x
  | [], acc, q, x, _, _, h => by
    show q acc
    simpa using h
  | d :: ds, acc, q, x, hs, hl, h => by
    rw [List.flatMap_cons, List.length_append] at hl
    rw [List.map_cons]
    unfold lc2Go
    refine hs d (List.mem_cons_self ..) _ _ _ (by omega) ?_
    refine lc2Go_map enc f N (fun d' hd => hs d' (List.mem_cons_of_mem _ hd)) (by rw [List.length_append]; omega) ?_
    rw [List.append_assoc]
    rw [List.flatMap_cons] at h
    exact h
/-- items that are drawn -/
theorem lcGo_any {step : D → W (Option D)} (R : D → Prop) : ∀ {ds acc : List D} {q : List D → Prop} {x : Xc → Prop}, (∀ d ∈ ds, ∀ q x, (∀ v, R v → q (some v)) → step d q x) → acc.length + ds.length ≤ sizeLine → (∀ ys : List D, ys.length = ds.length → (∀ v ∈ ys, R v) → q (acc ++ ys)) → lcGo step ds acc q x
  | [], acc, q, x, _, _, h => by
    show q acc
    have := h [] rfl (fun v hv => by cases hv)
    rwa [List.append_nil] at this
  | d :: ds, acc, q, x, hs, hl, h => by
    rw [List.length_cons] at hl
    unfold lcGo
    refine hs d (List.mem_cons_self ..) _ _ fun v hv => ?_
    refine ⟨by omega, lcGo_any R (fun d' hd => hs d' (List.mem_cons_of_mem _ hd)) (by rw [List.length_append, List.length_singleton]; omega) fun ys h1 h2 => ?_⟩
    rw [List.append_assoc]
    refine h (v :: ys) (by rw [List.length_cons, List.length_cons, h1]) fun w hw => ?_
    rcases List.mem_cons.mp hw with rfl | hw
    · exact hv
    · exact h2 w hw
theorem map_of {ι : Type} (enc : ι → D) (P : ι → Prop) : ∀ {ys : List D}, (∀ v ∈ ys, ∃ a, v = enc a ∧ P a) → ∃ l : List ι, ys = l.map enc ∧ ∀ a ∈ l, P a
  | [], _ => ⟨[], rfl, fun a h => by cases h⟩
  | v :: ys, h => by
    obtain ⟨a, e, pa⟩ := h v (List.mem_cons_self ..)
    obtain ⟨l, e2, pl⟩ := map_of enc P fun w hw => h w (List.mem_cons_of_mem _ hw)
    refine ⟨a :: l, by rw [e, e2]; rfl, fun b hb => ?_⟩
    rcases List.mem_cons.mp hb with rfl | hb
    · exact pa
    · exact pl b hb
/-- a turn of a loop whose target is a name -/
def isNm (x : Str) : Expr → Bool
  | .Name y _ => decide (y = x)
  | _ => false
theorem forGo_nm {Γ : Gm} {tg : Expr} {body : WS} {d : D} {ds : List D} {ρ : En} {K : SK} (x : Str) (i : Nat) (h1 : isNm x tg = true) (h2 : Γ.st x = true) (h3 : slotOf Γ.N x = some i)
    (h : body (ρ.set i (some d)) { K with nx := fun r => forGo Γ tg body ds r K, ct := fun r => forGo Γ tg body ds r K, bk := K.nx }) : forGo Γ tg body (d :: ds) ρ K := by
  cases tg with
  | Name y p =>
    have e : y = x := of_decide_eq_true h1
    subst e
    show (match Γ.st y, slotOf Γ.N y with
      | true, some i => (fun ρ' => body ρ' { K with nx := fun r => forGo Γ (.Name y p) body ds r K, ct := fun r => forGo Γ (.Name y p) body ds r K, bk := K.nx }) (ρ.set i (some d))
      | _, _ => False)
    rw [h2, h3]
    exact h
  | _ => cases h1
end PD

set_option maxHeartbeats 4000000
/-! PDw: what repr shows of data. -/
namespace PD
open PySem PySem.Spec PyProof.Rows L2
theorem strOk_append {a b : Str} (ha : PyData.strOk a = true) (hb : PyData.strOk b = true) : PyData.strOk (a ++ b) = true := by
  unfold PyData.strOk at *
  show (a.cps ++ b.cps).all _ = true
  rw [Array.all_append, ha, hb]
  rfl
theorem strOk_ofString (s : String) : PyData.strOk (Str.ofString s) = true := by
  rw [Str.ofString_eq_toList]
  unfold PyData.strOk
  rw [Array.all_eq_true']
  intro c hc
  have h : c ∈ (s.toList.map Char.toNat).toArray := hc
  rw [List.mem_toArray, List.mem_map] at h
  obtain ⟨ch, _, rfl⟩ := h
  rw [decide_eq_true_iff]
  have := ch.valid
  show ch.val.toNat < 0x110000
  rcases this with h | ⟨_, h⟩
  · have h2 : ch.val.toNat < 0xd800 := h
    omega
  · exact h
theorem strOk_join : ∀ ts : List Str, (∀ t ∈ ts, PyData.strOk t = true) → PyData.strOk (Str.join ", " ts) = true
  | [], _ => by decide +kernel
  | [x], h => h x (List.mem_cons_self ..)
  | x :: z :: r, h => by
    show PyData.strOk (x ++ ", " ++ Str.join ", " (z :: r)) = true
    exact strOk_append (strOk_append (h x (List.mem_cons_self ..)) (by decide +kernel)) (strOk_join (z :: r) fun t ht => h t (List.mem_cons_of_mem _ ht))
theorem strOk_tup (ts : List Str) (h : ∀ t ∈ ts, PyData.strOk t = true) : PyData.strOk (tupleText ts) = true := by
  unfold tupleText
  refine strOk_append (strOk_append (by decide +kernel) (strOk_join ts h)) ?_
  split <;> decide +kernel
theorem strOk_lst (ts : List Str) (h : ∀ t ∈ ts, PyData.strOk t = true) : PyData.strOk (listText ts) = true := by
  rw [listText_eq_join]
  exact strOk_append (strOk_append (by decide +kernel) (strOk_join ts h)) (by decide +kernel)
theorem join_le (B : Nat) (ts : List Str) (h : ∀ t ∈ ts, t.length ≤ B) : (Str.join ", " ts).length ≤ (B + 2) * ts.length := by
  by_cases hn : ts = []
  · subst hn
    exact Nat.zero_le _
  · have e := join_length_add ts hn
    have p : piled ts ≤ (B + 2) * ts.length := by
      clear e hn
      induction ts with
      | nil => exact Nat.zero_le _
      | cons t ts ih =>
        rw [piled_cons, List.length_cons, Nat.mul_succ]
        have := ih fun t ht => h t (List.mem_cons_of_mem _ ht)
        have := h t (List.mem_cons_self ..)
        omega
    omega
theorem shownAll_map (ds : List D) : PyData.shownAll ds = ds.map PyData.shown := by
  induction ds with
  | nil => rfl
  | cons d ds ih => rw [PyData.shownAll, List.map_cons, ih]
theorem showableAll_of {ds : List D} (h : ∀ d ∈ ds, d.showable = true) : PyData.showableAll ds = true := by
  induction ds with
  | nil => rfl
  | cons d ds ih =>
    rw [PyData.showableAll, h d (List.mem_cons_self ..), ih fun e he => h e (List.mem_cons_of_mem _ he)]
    rfl
theorem hasDictAll_of {ds : List D} (h : ∀ d ∈ ds, d.hasDict = false) : PyData.hasDictAll ds = false := by
  induction ds with
  | nil => rfl
  | cons d ds ih =>
    rw [PyData.hasDictAll, h d (List.mem_cons_self ..), ih fun e he => h e (List.mem_cons_of_mem _ he)]
    rfl
/-- repr shows d by at most B signs -/
structure rep (B : Nat) (d : D) : Prop where
  sh : d.showable = true
  nd : d.hasDict = false
  le : d.shown.length ≤ B
  ok : PyData.strOk d.shown = true
theorem rep.mono {B B' : Nat} {d : D} (r : rep B d) (h : B ≤ B') : rep B' d := ⟨r.sh, r.nd, Nat.le_trans r.le h, r.ok⟩
theorem rep_none : rep 4 .none := ⟨rfl, rfl, by decide +kernel, by decide +kernel⟩
theorem rep_bool (b : Bool) : rep 5 (.bool b) := by cases b <;> exact ⟨rfl, rfl, by decide +kernel, by decide +kernel⟩
theorem rep_int {i : Int} (k : Nat) (hk : 0 < k) (hk2 : k ≤ 100) (h : i.natAbs < 10 ^ k) : rep (k + 1) (.int i) := by
  refine ⟨?_, rfl, ?_, ?_⟩
  · rw [PyData.showable, decide_eq_true_iff]
    by_cases h0 : i.natAbs = 0
    · rw [h0]; decide
    · rw [Nat.log2_lt h0]
      refine Nat.lt_of_lt_of_le h ?_
      calc 10 ^ k ≤ 10 ^ 100 := Nat.pow_le_pow_right (by decide) hk2
        _ ≤ 2 ^ 1920 := by decide +kernel
  · rw [PyData.shown]
    show (Str.ofString (toString i)).length ≤ _
    rw [PySem.ofString_length]
    exact int_text_length_le10 hk h
  · rw [PyData.shown]
    exact strOk_ofString _
theorem rep_tup {B : Nat} {ds : List D} (h : ∀ d ∈ ds, rep B d) : rep ((B + 2) * ds.length + 3) (.tuple ds) := by
  refine ⟨?_, ?_, ?_, ?_⟩
  · rw [PyData.showable]
    exact showableAll_of fun d hd => (h d hd).sh
  · rw [PyData.hasDict]
    exact hasDictAll_of fun d hd => (h d hd).nd
  · rw [PyData.shown, shownAll_map]
    unfold tupleText
    rw [strLen_append, strLen_append]
    have := join_le B (ds.map PyData.shown) fun t ht => by
      obtain ⟨d, hd, rfl⟩ := List.mem_map.mp ht
      exact (h d hd).le
    rw [List.length_map] at this
    have e1 : (("(" : String) : Str).length = 1 := rfl
    have e2 : ((if (ds.map PyData.shown).length == 1 then ",)" else ")" : String) : Str).length ≤ 2 := by split <;> decide +kernel
    omega
  · rw [PyData.shown, shownAll_map]
    refine strOk_tup _ fun t ht => ?_
    obtain ⟨d, hd, rfl⟩ := List.mem_map.mp ht
    exact (h d hd).ok
theorem rep_list {B : Nat} {ds : List D} (h : ∀ d ∈ ds, rep B d) : rep ((B + 2) * ds.length + 3) (.list ds) := by
  refine ⟨?_, ?_, ?_, ?_⟩
  · rw [PyData.showable]
    exact showableAll_of fun d hd => (h d hd).sh
  · rw [PyData.hasDict]
    exact hasDictAll_of fun d hd => (h d hd).nd
  · rw [PyData.shown, shownAll_map, listText_eq_join, strLen_append, strLen_append]
    have := join_le B (ds.map PyData.shown) fun t ht => by
      obtain ⟨d, hd, rfl⟩ := List.mem_map.mp ht
      exact (h d hd).le
    rw [List.length_map] at this
    have e1 : (("[" : String) : Str).length = 1 := rfl
    have e2 : (("]" : String) : Str).length = 1 := rfl
    omega
  · rw [PyData.shown, shownAll_map]
    refine strOk_lst _ fun t ht => ?_
    obtain ⟨d, hd, rfl⟩ := List.mem_map.mp ht
    exact (h d hd).ok
theorem repr_d {B k : Nat} {d : D} {q : D → Prop} {y : Xc → Prop} (r : rep B d) (hB : B ≤ 16777216) (s : shp k d) (hk : k ≤ 64) (hq : q (.str d.shown)) : dRepr [d] q y := by
  have key : (d.showable = true ∧ SeqAt.shaped d = true ∧ d.hasDict = false ∧ d.shown.length ≤ sizeLine) ∧ q (.str d.shown) := ⟨⟨r.sh, shaped_of s hk, r.nd, by rw [sizeLine_eq]; exact Nat.le_trans r.le hB⟩, hq⟩
  cases d with
  | dict kvs => have := r.nd; rw [PyData.hasDict] at this; cases this
  | _ => exact key
theorem repr_nd {q : D → Prop} {y : Xc → Prop} (hq : q (.str "{}")) : dRepr [.dict []] q y := hq
theorem eq_ss {a b : Str} {q : D → Prop} {y : Xc → Prop} (ha : PyData.strOk a = true) (hb : PyData.strOk b = true) (hq : q (.bool (a == b))) : dCmp .Eq (.str a) (.str b) q y := by
  rw [eq_ab]
  refine ⟨⟨shaped_s _ ha, shaped_s _ hb⟩, ?_⟩
  rw [PyData.eqv]
  exact hq
theorem ne_ss {a b : Str} {q : D → Prop} {y : Xc → Prop} (ha : PyData.strOk a = true) (hb : PyData.strOk b = true) (hq : q (.bool (!(a == b)))) : dCmp .NotEq (.str a) (.str b) q y := by
  rw [ne_ab]
  refine ⟨⟨shaped_s _ ha, shaped_s _ hb⟩, ?_⟩
  rw [PyData.eqv]
  exact hq
/-- what is no empty tuple is not shown as one -/
theorem shown_tup_ne {d : D} {ds : List D} : ((PyData.tuple (d :: ds)).shown == ("()" : Str)) = false := by
  rw [beq_eq_false_iff_ne]
  intro e
  have h : (PyData.tuple (d :: ds)).shown.length = 2 := by rw [e]; rfl
  rw [PyData.shown, shownAll_map] at h
  unfold tupleText at h
  rw [strLen_append, strLen_append] at h
  have e1 : (("(" : String) : Str).length = 1 := rfl
  cases ds with
  | nil =>
    have e2 : ((if ([d].map PyData.shown).length == 1 then ",)" else ")" : String) : Str).length = 2 := rfl
    rw [e2] at h
    omega
  | cons g ds =>
    have e2 := join_length_add ((d :: g :: ds).map PyData.shown) (by simp)
    rw [List.map_cons, List.map_cons, piled_cons, piled_cons] at e2
    have e3 : ((if ((d :: g :: ds).map PyData.shown).length == 1 then ",)" else ")" : String) : Str).length = 1 := by
      rw [List.map_cons, List.map_cons, if_neg (by simp)]
      rfl
    rw [e3, List.map_cons, List.map_cons] at h
    omega
end PD

set_option maxHeartbeats 4000000
/-! PDh: what the head looks at. -/
namespace PD
open PySem PySem.Spec PyProof.Rows L2
section
variable {c : Cn} {w : World}
theorem cdB_ok (hmg : ∀ x a, PySem.W.nsIn c.K mainGlobals x = some (some (.ref a)) → c.mg x = some (.ref a)) : ∀ {n : Nat} {u : Value} {d : D}, cdB n c.K u d = true → ∃ v, RelV v u ∧ ∀ P O H, Rp c P O H v d
  | 0, _, _, h => by cases h
  | n + 1, u, d, h => by
    unfold cdB at h
    split at h
    · exact ⟨.non, rfl, fun _ _ _ => .non⟩
    · rename_i b b'
      have e : b = b' := eq_of_beq h
      rw [e]
      exact ⟨.bl b', rfl, fun _ _ _ => .bl b'⟩
    · rename_i i j t
      have e : i = j := of_decide_eq_true h
      rw [e]
      exact ⟨.int j, ⟨t, rfl⟩, fun _ _ _ => .int j⟩
    · rename_i i j t
      have e : i = j := of_decide_eq_true h
      rw [e]
      exact ⟨.str j, ⟨t, rfl⟩, fun _ _ _ => .str j⟩
    · rename_i ds a
      split at h
      · rename_i cl dd its m sl q
        obtain ⟨h1, h⟩ := He.ba h
        obtain ⟨h2, h⟩ := He.ba h
        obtain ⟨h3, h4⟩ := He.ba h
        have h3 : its.toList.length = ds.length := of_decide_eq_true h3
        have key : ∀ (us : List Value) (ds : List D), us.length = ds.length → ((us.zip ds).all fun p => cdB n c.K p.1 p.2) = true → ∃ vs, Vals vs us ∧ ∀ P O H, RpA c P O H vs ds := by
          intro us
          induction us with
          | nil =>
            intro ds hl _
            cases ds with
            | nil => exact ⟨[], .nil, fun _ _ _ => .nil⟩
            | cons _ _ => cases hl
          | cons u us ih =>
            intro ds hl ha
            cases ds with
            | nil => cases hl
            | cons d ds =>
              have ha : (cdB n c.K u d && (us.zip ds).all fun p => cdB n c.K p.1 p.2) = true := ha
              obtain ⟨a1, a2⟩ := He.ba ha
              obtain ⟨v, r1, r2⟩ := cdB_ok hmg a1
              obtain ⟨vs, r3, r4⟩ := ih ds (by simpa using hl) a2
              exact ⟨v :: vs, .cons r1 r3, fun P O H => .cons (r2 P O H) (r4 P O H)⟩
        obtain ⟨vs, r1, r2⟩ := key _ _ h3 h4
        exact ⟨.ref a, rfl, fun P O H => .tup (.inr ⟨_, its, m, q, congrArg Value.type (of_decide_eq_true h1), rfl, of_decide_eq_true h2, r1⟩) (r2 P O H)⟩
      · cases h
    · rename_i x a
      exact ⟨.ref a, rfl, fun _ _ _ => .fn (hmg x a (He.eqO_ok h))⟩
    · cases h
/-- a table's keys: what is not among them is not there -/
theorem nsIn_tab {K : PySem.W.Frag} {a : Addr} {kvs : List (Str × D)} (h : He.dicW K a = some (He.keysIn w.params (kvs.map (·.1)))) : ∃ es n, KDict K w a es n ∧ ∀ z, ∃ r, PySem.W.nsIn K a z = some r ∧ r.isSome = (kvs.lookup z).isSome := by
  obtain ⟨es, n, D⟩ := He.dicW_ok h
  refine ⟨es, n, D, fun z => ?_⟩
  have hk : es.toList.map He.keyOf = He.keysIn w.params (kvs.map (·.1)) := by
    unfold He.dicW at h
    rw [D.at_] at h
    have h1 : (match decide (("dict" : String) = "dict") && ((#[] : Array (Option Value)).isEmpty && !(a == sysModules)) with
      | true => some (es.toList.map He.keyOf)
      | false => none) = some (He.keysIn w.params (kvs.map (·.1))) := h
    rw [D.low] at h1
    exact Option.some.inj h1
  have nr : es.toList.any (·.refKey) = false := by
    rw [List.any_eq_false]
    intro e he
    obtain ⟨x, t, e1, _⟩ := D.lit.all e he
    unfold DictEntry.refKey
    rw [e1]
    simp
  have fnd : ∀ (l : List DictEntry) (ks : List (Str × PyData)), l.map He.keyOf = He.keysIn w.params (ks.map (·.1)) → (l.find? (·.key.isStr z)).isSome = (ks.lookup z).isSome := by
    intro l
    induction l with
    | nil =>
      intro ks e
      cases ks with
      | nil => rfl
      | cons _ _ => cases e
    | cons en l ih =>
      intro ks e
      cases ks with
      | nil => cases e
      | cons k ks =>
        have e1 : He.keyOf en :: l.map He.keyOf = some (k.1, PyData.keyHash w.params k.1) :: He.keysIn w.params (ks.map (·.1)) := e
        injection e1 with e2 e3
        have e4 : ∃ t, en.key = .str k.1 t := by
          unfold He.keyOf at e2
          split at e2
          · rename_i x t q
            have := Prod.mk.inj (Option.some.inj e2)
            rw [this.1] at q
            exact ⟨t, q⟩
          · cases e2
        obtain ⟨t, e4⟩ := e4
        rw [List.find?_cons, List.lookup_cons, e4]
        have e5 : (Value.str k.1 t).isStr z = (z == k.1) := by
          show (k.1 == z) = _
          rw [Bool.eq_iff_iff, beq_iff_eq, beq_iff_eq]
          exact eq_comm
        rw [e5]
        cases z == k.1
        · exact ih ks e3
        · rfl
  unfold PySem.W.nsIn
  rw [D.at_]
  show ∃ r, (match es.toList.find? (·.key.isStr z) with
    | some e => some (some e.val)
    | none => if es.toList.any (·.refKey) then none else some none) = some r ∧ r.isSome = (kvs.lookup z).isSome
  have f := fnd es.toList kvs hk
  cases q : es.toList.find? (·.key.isStr z) with
  | some e =>
    rw [q] at f
    exact ⟨some e.val, rfl, f⟩
  | none =>
    rw [q] at f
    refine ⟨none, ?_, f⟩
    show (if es.toList.any (·.refKey) then none else some none) = some none
    rw [nr]
    rfl
end
/-! ### the Hook -/
theorem noList_ok {K : PySem.W.Frag} (h : noList K = true) {a : Addr} {o : Obj} (e : K.lookup a = some o) : o.cls ≠ .type "list" := by
  have key : ∀ l : List (Addr × Obj), l.lookup a = some o → (l.all fun q => match q.2.cls with
      | .type c => !decide (c = "list")
      | _ => true) = true → o.cls ≠ .type "list" := by
    intro l
    induction l with
    | nil => intro e; cases e
    | cons p l ih =>
      intro e h
      rw [List.all_cons] at h
      obtain ⟨h1, h2⟩ := He.ba h
      rw [List.lookup_cons] at e
      cases q : a == p.1 with
      | true =>
        rw [q] at e
        have e : p.2 = o := Option.some.inj e
        intro z
        rw [e, z] at h1
        cases h1
      | false =>
        rw [q] at e
        exact ih e h2
  exact key K e h
structure SaysP (M : Md) (fn : List He.DefD) (w : World) (K : PySem.W.Frag) : Prop where
  a : c1 M.free M.cst M.tabs fn K = true
  b : c2 fn K = fn.map He.DefD.val
  t : c3 M.tabs K = v3 M.tabs w
def hookP (xs : List Str) (M : Md) (fn : List He.DefD) : PySem.W.Hook where
  α := AlP
  obs := fun s => obsP xs M.free M.cst M.tabs fn s.heap.get?
  val := fun w => valP M.tabs fn w
  says := fun w h => ∃ K : PySem.W.Frag, K.In h ∧ SaysP M fn w K
  of := fun _ _ e => ⟨_, He.frG_in, ⟨congrArg (fun z : AlP => z.1) e, congrArg (fun z : AlP => z.2.1) e, congrArg (fun z : AlP => z.2.2) e⟩⟩
  keeps := fun _ _ _ ⟨K, hK, c⟩ k => ⟨K, PySem.W.Frag.In.keeps hK k, c⟩
theorem obP_eq (xs : List Str) (M : Md) (fn : List He.DefD) (s : PySem.W.SharedT) : obP xs M.free M.cst M.tabs fn s = (hookP xs M fn).obs s.abs := by
  have e : HandSHeadRun.getT s = s.abs.heap.get? := funext (HandSHeadRun.getT_eq s)
  show obsP xs M.free M.cst M.tabs fn (HandSHeadRun.getT s) = obsP xs M.free M.cst M.tabs fn s.abs.heap.get?
  rw [e]
/-- looks one by one -/
theorem map2 {α β γ : Type} {o : Option α} {f : α → β} {g : α → γ} {a : β} {b : γ} (h1 : o.map f = some a) (h2 : o.map g = some b) : o.map (fun s => (f s, g s)) = some (a, b) := by
  cases o with
  | none => cases h1
  | some s =>
    have e1 : f s = a := Option.some.inj h1
    have e2 : g s = b := Option.some.inj h2
    show some (f s, g s) = _
    rw [e1, e2]
/-! ### the looks behind the top, off the tree -/
theorem isNsO_eq (h : Heap) (a : Addr) : isNsO (h.get? a) = h.isNs a := rfl
theorem nsMapO_eq (h : Heap) (a : Addr) (x : Str) : nsMapO (h.get? a) x = h.nsMap a x := rfl
theorem keysO_eq (h : Heap) (a : Addr) : keysO (h.get? a) = h.nsKeys a := rfl
theorem looks_of {p : Program} {h0 : Heap} {o : Option PySem.W.SharedT} (hb : (h0.nsKeys mainGlobals).all (startupNames.contains ·) = true) (a : o.map (fun s => looksT p h0 s) = some (true, true, h0.nsKeys mainGlobals ++ bnd p)) :
    o.map (fun s => HandSHeadRun.looksF p h0 s.abs) = some true := by
  cases o with
  | none => cases a
  | some s =>
    have b : looksT p h0 s = (true, true, h0.nsKeys mainGlobals ++ bnd p) := Option.some.inj a
    have b1 : looksO (PySem.importedModules p.main.body) (h0.get? cStatics) (h0.get? mainGlobals) (HandSHeadRun.getT s cStatics) (HandSHeadRun.getT s mainGlobals) = true := congrArg (fun z => z.1) b
    have b2 : PySem.W.gensDone s.abs = true := congrArg (fun z => z.2.1) b
    have b3 : keysO (HandSHeadRun.getT s mainGlobals) = h0.nsKeys mainGlobals ++ bnd p := congrArg (fun z => z.2.2) b
    rw [HandSHeadRun.getT_eq, HandSHeadRun.getT_eq] at b1
    rw [HandSHeadRun.getT_eq] at b3
    have c1 : PySem.W.staticsOk (PySem.importedModules p.main.body) h0 s.abs.heap = true := (He.ba b1).1
    have c2 : PySem.W.laidKept h0 s.abs.heap = true := (He.ba b1).2
    have c3 : PySem.W.namesBound p s.abs.heap = true := by
      have n1 : s.abs.heap.isNs mainGlobals = true := (He.ba (He.ba c2).1).2
      have n2 : s.abs.heap.nsKeys mainGlobals = h0.nsKeys mainGlobals ++ bnd p := b3
      unfold PySem.W.namesBound
      rw [n1, n2, Bool.true_and, List.all_append, Bool.and_eq_true]
      refine ⟨List.all_eq_true.mpr fun k hk => ?_, List.all_eq_true.mpr fun k hk => ?_⟩
      · rw [List.all_eq_true.mp hb k hk]
        rfl
      · have : k ∈ p.boundNames := (List.mem_filter.mp hk).1
        rw [Bool.or_eq_true]
        exact .inr (by simpa using this)
    show some (PySem.W.staticsOk (PySem.importedModules p.main.body) h0 s.abs.heap && PySem.W.namesBound p s.abs.heap && PySem.W.gensDone s.abs && PySem.W.laidKept h0 s.abs.heap) = _
    rw [c1, c2, c3, b2]
    rfl
/-! ### the end -/
section
variable {M : Md} {fn : List He.DefD} {w : World} {K : PySem.W.Frag}
theorem SaysP.parts (c : SaysP M fn w K) : noList K = true ∧ (∀ x, M.free.contains x = true → PySem.W.nsIn K mainGlobals x = some none) ∧ (∀ p ∈ M.cst, ∃ u, PySem.W.nsIn K mainGlobals p.1 = some (some u) ∧ cdB 6 K u p.2 = true) ∧
    (∀ t ∈ M.tabs, ∃ a, PySem.W.nsIn K mainGlobals t.1 = some (some (.ref a)) ∧ ∀ q ∈ t.2, ∃ u, PySem.W.nsIn K a q.1 = some (some u) ∧ cdB 6 K u q.2 = true) ∧ ∀ d ∈ fn, PySem.W.nsIn K mainGlobals d.name = some (some (.ref (He.ga K d.name))) ∧ d.ok K = true := by
  obtain ⟨h0, h⟩ := He.ba c.a
  obtain ⟨h1, h⟩ := He.ba h
  obtain ⟨h2, h⟩ := He.ba h
  obtain ⟨h3, h4⟩ := He.ba h
  refine ⟨h0, fun x hx => ?_, fun p hp => ?_, fun t ht => ?_, fun d hd => ?_⟩
  · exact He.eqO_ok (List.all_eq_true.mp h1 x (by simpa using hx))
  · have q := List.all_eq_true.mp h2 p hp
    cases e : PySem.W.nsIn K mainGlobals p.1 with
    | none => rw [e] at q; cases q
    | some r =>
      rw [e] at q
      cases r with
      | none => cases q
      | some u => exact ⟨u, rfl, q⟩
  · have q := List.all_eq_true.mp h3 t ht
    cases e : PySem.W.nsIn K mainGlobals t.1 with
    | none => rw [e] at q; cases q
    | some r =>
      rw [e] at q
      cases r with
      | none => cases q
      | some u =>
        cases u with
        | ref a =>
          refine ⟨a, rfl, fun z hz => ?_⟩
          have q2 := List.all_eq_true.mp q z hz
          cases e2 : PySem.W.nsIn K a z.1 with
          | none => rw [e2] at q2; cases q2
          | some r =>
            rw [e2] at q2
            cases r with
            | none => cases q2
            | some u => exact ⟨u, rfl, q2⟩
        | _ => cases q
  · obtain ⟨q1, q2⟩ := He.ba (List.all_eq_true.mp h4 d hd)
    exact ⟨He.eqO_ok q1, q2⟩
theorem lookup_mem {α : Type} {x : Str} {v : α} : ∀ {l : List (Str × α)}, l.lookup x = some v → ∃ y, (y, v) ∈ l ∧ x = y
  | [], h => by cases h
  | (y, u) :: r, h => by
    rw [List.lookup_cons] at h
    cases q : x == y with
    | true =>
      rw [q] at h
      have e : u = v := Option.some.inj h
      rw [e]
      exact ⟨y, List.mem_cons_self .., eq_of_beq q⟩
    | false =>
      rw [q] at h
      obtain ⟨z, h1, h2⟩ := lookup_mem h
      exact ⟨z, List.mem_cons_of_mem _ h1, h2⟩
theorem kn_zero {P : Program} {base : Heap} {mg : Str → Option Value} (G : Int → Int → Int → Prop) {h : Heap} (X : K.In h) (hg : h.Ns mainGlobals mg) (c : SaysP M fn w K) : Kn ⟨K, mg, G⟩ P w base M [] 0 := by
  obtain ⟨h0, h1, h2, h3, h4⟩ := c.parts
  have hmg : ∀ x a, PySem.W.nsIn K mainGlobals x = some (some (.ref a)) → mg x = some (.ref a) := fun x a e => PySem.W.mg_of X hg e
  refine ⟨fun x hx => PySem.W.mg_none_of X hg (h1 x hx), fun x d hd => ?_, fun x k' n m e => (by cases e), fun T kvs hT => ?_⟩
  · obtain ⟨y, hy, e⟩ := lookup_mem hd
    obtain ⟨u, e1, e2⟩ := h2 _ hy
    obtain ⟨v, r1, r2⟩ := cdB_ok (c := ⟨K, mg, G⟩) hmg e2
    subst e
    exact ⟨v, u, PySem.W.mg_of X hg e1, r1, r2⟩
  · obtain ⟨y, hy, e⟩ := lookup_mem hT
    subst e
    obtain ⟨a, e1, e2⟩ := h3 _ hy
    have ga : He.ga K T = a := by
      unfold He.ga
      rw [e1]
    have ht : He.dicW K (He.ga K T) = some (He.keysIn w.params (kvs.map (·.1))) := List.map_inj_left.mp c.t _ hy
    rw [ga] at ht
    obtain ⟨es, n, D, hz⟩ := nsIn_tab (w := w) ht
    refine ⟨a, es, n, hmg _ _ e1, D, hz, fun z d hd => ?_⟩
    obtain ⟨z', hz', e⟩ := lookup_mem hd
    subst e
    obtain ⟨u, e3, e4⟩ := e2 _ hz'
    obtain ⟨v, r1, r2⟩ := cdB_ok (c := ⟨K, mg, G⟩) hmg e4
    exact ⟨u, v, e3, r1, r2⟩
/-- a def as the head tells it -/
theorem df_of {mg : Str → Option Value} (G : Int → Int → Int → Prop) {h : Heap} (X : K.In h) (hg : h.Ns mainGlobals mg) (c : SaysP M fn w K) {d : Df} {hd : He.DefD} {params : Arguments} (i : Nat) (hi : fn[i]? = some hd) (e : hd = ⟨(d.nm, none), d.nm, d.nm, params, d.body, d.scope, [], []⟩) (S : FnScope d.N d.ps d.scope)
    (hb : ∀ (kV doc pm : Value) (an : Option Addr) (cdv ct : Value) (us : List Value), us.length = d.ps.length → bindArgs (PySem.W.fnOf d.nm d.nm params d.body d.scope .none kV doc pm an cdv ct) ⟨us, []⟩ = pure (d.ps.zip us))
    (hk : ∀ j ks ord, ordM M d.nm j ks = some ord → ∀ (kV doc pm : Value) (an : Option Addr) (cdv ct : Value) (us ws : List Value), us.length = j → ws.length = ks.length → bindArgs (PySem.W.fnOf d.nm d.nm params d.body d.scope .none kV doc pm an cdv ct) ⟨us, ks.zip ws⟩ = pure (d.ps.zip (permL ord us ws))) :
    DfOk ⟨K, mg, G⟩ M d ∧ ∃ fd, mg d.nm = some (.ref (He.ga K d.nm)) ∧ FunD K d.nm d.nm params d.body d.scope [] [] (He.ga K d.nm) fd := by
  subst e
  obtain ⟨_, _, _, _, h4⟩ := c.parts
  obtain ⟨q1, q2⟩ := h4 _ (List.mem_of_getElem? hi)
  have e2 : He.fnW K (d.nm, none) = He.DefD.val ⟨(d.nm, none), d.nm, d.nm, params, d.body, d.scope, [], []⟩ := List.map_inj_left.mp c.b _ (List.mem_of_getElem? hi)
  obtain ⟨fd, F⟩ := He.DefD.funD e2 q2
  have F : FunD K d.nm d.nm params d.body d.scope [] [] (He.ga K d.nm) fd := F
  have hm : mg d.nm = some (.ref (He.ga K d.nm)) := PySem.W.mg_of X hg q1
  refine ⟨⟨S, _, fd, d.nm, params, [], [], hm, F, F.bindsN hb, fun j ks ord ho => ?_⟩, fd, hm, F⟩
  obtain ⟨oc, od, dV, kV, doc, pm, an, cdv, ct, osl, rfl, lk, hcd, hD, hK⟩ := F.ex
  rcases hD with ⟨_, rfl⟩ | ⟨e, _⟩
  · refine ⟨fun s us ws _ h1 h2 => .of_eq (hk j ks ord ho kV doc pm an cdv ct us ws h1 h2), fun r1 r2 => ?_⟩
    rename_i vs us zs ws
    have key : ∀ ord : List Nat, Vals (permL ord vs zs) (permL ord us ws) := by
      intro ord
      induction ord with
      | nil => exact .nil
      | cons i ord ih =>
        unfold permL at ih ⊢
        have r := r1.append r2
        rw [List.filterMap_cons, List.filterMap_cons]
        cases e : (vs ++ zs)[i]? with
        | none =>
          have : (us ++ ws)[i]? = none := by
            rw [List.getElem?_eq_none_iff] at e ⊢
            rw [← r.length]
            exact e
          rw [this]
          exact ih
        | some v =>
          obtain ⟨u, hu, ru⟩ := Vals.get r e
          rw [hu]
          exact .cons ru ih
    exact key ord
  · exact absurd rfl e
end
theorem walk_ofGW {l : PySem.W.OpenLaw} {n k : Nat} {q : Program} {loose : List Str} {XP : (Str → Option Value) → Heap → Prop} {YP : World → Heap → Prop} {d : DefRec} {x : Str}
    (hn : l.most = some n) (hn2 : n ≤ sizeLine) (hdf : d.params.defaults = []) (hr : Room k callerA)
    (F : ∀ (w : World) (mg : Str → Option Value) (fa : Addr) (h : Heap), YP w h → h.Ns mainGlobals mg → mg d.name = some (.ref fa) →
      ∃ (K : PySem.W.Frag) (fd : FuncData) (sp : Sp), K.In h ∧ (∀ (s : Shared) (u : Value), BindsTo s fd ⟨[u], []⟩ [(x, u)]) ∧
        (∀ (H : Hp) (a : Addr) (ns : List Int), ns.length ≤ n → Only H → SqL K H a (ns.map V.int) → sp [.ref a] H (fun v _ => v = .bl true) fun _ _ _ => False) ∧
        ∀ base : Heap, K.In base → base.Ns mainGlobals mg → FnG l.prog w K mg base (L2.CX l.prog w) k fa fd [x] sp) :
    PySem.W.WalkO q loose XP YP l.row.toRowW d [] (fun f vs => PySem.call f vs) := by
  refine Att.attach_call hn hdf fun w s₀ s₁ mg mb fa o pm cd doc a vs ns G Y ho hd hcd hmg hobj hints hlen hg => ?_
  obtain ⟨K, fd, sp, KX, hb, hsp, hF⟩ := F w mg fa _ Y G.T.g hmg
  exact law_callG KX G.T.g G.T.b G.T.builtins G.T.nolimit hg hobj hints (Nat.le_trans hlen hn2) hr hF hb (fun H hO hS => hsp H a ns hlen hO hS) fun H e s' h => by
    obtain ⟨_, _, _, _, _, _, _, _, _, _, _, _, z⟩ := h
    exact z
end PD

set_option maxHeartbeats 4000000
/-! PDi: keyword calls of a def. -/
namespace PD
open PySem PySem.Spec PyProof.Rows L2
theorem ord_mem {M : Md} {x : Str} {j : Nat} {ks : List Str} {ord : List Nat} (ho : ordM M x j ks = some ord) : (x, j, ks, ord) ∈ M.kws := by
  unfold ordM at ho
  obtain ⟨t, h1, h2⟩ := Option.map_eq_some_iff.mp ho
  have h3 := List.find?_some h1
  have h4 := List.mem_of_find?_eq_some h1
  obtain ⟨a, b, c, d⟩ := t
  obtain ⟨e1, e⟩ := He.ba h3
  obtain ⟨e2, e3⟩ := He.ba e
  have e1 : a = x := of_decide_eq_true e1
  have e2 : b = j := of_decide_eq_true e2
  have e3 : c = ks := of_decide_eq_true e3
  have h2 : d = ord := h2
  subst e1 e2 e3 h2
  exact h4
theorem no_kw {M : Md} {x : Str} (h : (M.kws.all fun t => !decide (t.1 = x)) = true) {j : Nat} {ks : List Str} {ord : List Nat} (ho : ordM M x j ks = some ord) : False := by
  have := List.all_eq_true.mp h _ (ord_mem ho)
  simp at this
theorem one_kw {M : Md} {x : Str} {j0 : Nat} {ks0 : List Str} {o0 : List Nat} (h : (M.kws.all fun t => !decide (t.1 = x) || (decide (t.2.1 = j0) && (decide (t.2.2.1 = ks0) && decide (t.2.2.2 = o0)))) = true) {j : Nat} {ks : List Str} {ord : List Nat} (ho : ordM M x j ks = some ord) : j = j0 ∧ ks = ks0 ∧ ord = o0 := by
  have := List.all_eq_true.mp h _ (ord_mem ho)
  simp at this
  exact this
end PD

set_option maxHeartbeats 4000000
namespace Tk77
open PySem PySem.Spec PyProof.Rows L2 PD
def d_is_whole : Df := ⟨"is_whole", ["value"], ["value"], defBody (top 1), defScope (top 1), 40, false, []⟩
def d_is_between : Df := ⟨"is_between", ["value", "low", "high"], ["value", "low", "high"], defBody (top 2), defScope (top 2), 40, false, []⟩
def d_is_tuple_of : Df := ⟨"is_tuple_of", ["value", "many"], ["value", "many"], defBody (top 3), defScope (top 3), 40, false, []⟩
def d_is_wins : Df := ⟨"is_wins", ["value"], ["value"], defBody (top 97), defScope (top 97), 40, false, []⟩
def d_first_wrong : Df := ⟨"first_wrong", ["value", "fewest", "most", "is_right"], ["value", "fewest", "most", "is_right", "index", "each"], defBody (top 4), defScope (top 4), 40, false, []⟩
def d_are_indexes : Df := ⟨"are_indexes", ["many", "value"], ["many", "value", "each"], defBody (top 5), defScope (top 5), 40, false, []⟩
def d_are_rising : Df := ⟨"are_rising", ["value"], ["value", "index"], defBody (top 8), defScope (top 8), 40, false, []⟩
def d_wrong_in_wins : Df := ⟨"wrong_in_wins", ["value"], ["value"], defBody (top 98), defScope (top 98), 40, false, []⟩
def d_is_triple : Df := ⟨"is_triple", ["many", "most", "value"], ["many", "most", "value"], defBody (top 99), defScope (top 99), 40, false, []⟩
def d_wrong_in_triples : Df := ⟨"wrong_in_triples", ["many", "most", "value"], ["many", "most", "value", "index", "each"], defBody (top 100), defScope (top 100), 40, false, []⟩
def d_wrong_in_left : Df := ⟨"wrong_in_left", ["many", "value"], ["many", "value"], defBody (top 101), defScope (top 101), 40, false, []⟩
def d_games_left_by : Df := ⟨"games_left_by", ["left", "team"], ["left", "team", "one", "two", "games"], defBody (top 102), defScope (top 102), 40, false, []⟩
def d_most_wins_by : Df := ⟨"most_wins_by", ["wins", "left", "team"], ["wins", "left", "team"], defBody (top 103), defScope (top 103), 40, false, []⟩
def d_games_among : Df := ⟨"games_among", ["left", "lot"], ["left", "lot", "one", "two", "games"], defBody (top 104), defScope (top 104), 40, false, []⟩
def d_is_over : Df := ⟨"is_over", ["wins", "left", "most", "lot"], ["wins", "left", "most", "lot", "team"], defBody (top 105), defScope (top 105), 40, false, []⟩
def d_lots_of_others : Df := ⟨"lots_of_others", ["many", "team"], ["many", "team", "found", "other", "lot"], defBody (top 106), defScope (top 106), 40, false, []⟩
def d_lot_over_most : Df := ⟨"lot_over_most", ["wins", "left", "team", "most"], ["wins", "left", "team", "most", "lot"], defBody (top 107), defScope (top 107), 40, false, []⟩
def d_lot_over_by : Df := ⟨"lot_over_by", ["wins", "left", "team"], ["wins", "left", "team"], defBody (top 108), defScope (top 108), 40, false, []⟩
def d_can_be_first_by : Df := ⟨"can_be_first_by", ["wins", "left", "team"], ["wins", "left", "team"], defBody (top 109), defScope (top 109), 40, false, []⟩
def d_is_lot_over : Df := ⟨"is_lot_over", ["wins", "left", "team", "value"], ["wins", "left", "team", "value"], defBody (top 110), defScope (top 110), 40, false, []⟩
def d_wins_with : Df := ⟨"wins_with", ["wins", "triple", "result"], ["wins", "triple", "result", "found"], defBody (top 111), defScope (top 111), 40, false, [3]⟩
def d_results_of : Df := ⟨"results_of", ["triple", "team"], ["triple", "team", "one", "two", "games", "number"], defBody (top 112), defScope (top 112), 40, false, []⟩
def d_results_by : Df := ⟨"results_by", ["wins", "left", "team"], ["wins", "left", "team", "most", "now", "found", "index", "triple", "some", "good", "result", "pair"], defBody (top 113), defScope (top 113), 40, false, [5]⟩
def d_is_result : Df := ⟨"is_result", ["games", "value"], ["games", "value", "each"], defBody (top 114), defScope (top 114), 40, false, []⟩
def d_are_results : Df := ⟨"are_results", ["wins", "left", "team", "value"], ["wins", "left", "team", "value", "now", "triple", "result", "each", "_", "games"], defBody (top 115), defScope (top 115), 40, false, []⟩
def d_is_season_claim : Df := ⟨"is_season_claim", ["claim"], ["claim"], defBody (top 143), defScope (top 143), 40, false, []⟩
def d_is_other_claim : Df := ⟨"is_other_claim", ["claim"], ["claim"], defBody (top 146), defScope (top 146), 40, false, []⟩
def d_other_judge : Df := ⟨"other_judge", ["claim", "paper"], ["claim", "paper", "shows", "judge"], defBody (top 153), defScope (top 153), 40, false, []⟩
def d_settled_first : Df := ⟨"settled_first", ["wins", "left", "team"], ["wins", "left", "team"], defBody (top 154), defScope (top 154), 40, false, []⟩
def d_other_settled : Df := ⟨"other_settled", ["claim"], ["claim", "settle"], defBody (top 158), defScope (top 158), 40, false, []⟩
def d_has_claim_word : Df := ⟨"has_claim_word", ["value"], ["value"], defBody (top 195), defScope (top 195), 40, false, []⟩
def d_is_claim_by : Df := ⟨"is_claim_by", ["value"], ["value"], defBody (top 196), defScope (top 196), 40, false, []⟩
def d_opposite_by : Df := ⟨"opposite_by", ["claim"], ["claim"], defBody (top 197), defScope (top 197), 40, false, []⟩
def d_is_shown : Df := ⟨"is_shown", ["claim", "paper"], ["claim", "paper"], defBody (top 198), defScope (top 198), 40, false, []⟩
def d_settled_by : Df := ⟨"settled_by", ["claim"], ["claim"], defBody (top 199), defScope (top 199), 40, false, []⟩
def d_is_claim : Df := ⟨"is_claim", ["value"], ["value"], defBody (top 204), defScope (top 204), 40, false, []⟩
def d_check_claim : Df := ⟨"check_claim", ["value"], ["value"], defBody (top 205), defScope (top 205), 40, false, []⟩
def d_opposite : Df := ⟨"opposite", ["claim"], ["claim"], defBody (top 206), defScope (top 206), 40, false, []⟩
def d_settled : Df := ⟨"settled", ["claim"], ["claim"], defBody (top 208), defScope (top 208), 40, false, []⟩
def d_accepts : Df := ⟨"accepts", ["claim", "paper"], ["claim", "paper"], defBody (top 210), defScope (top 210), 40, false, []⟩
def d__law_pool : Df := ⟨"_law_pool", ["script", "turn"], ["script", "turn", "cell", "own", "stirred"], defBody (top 212), defScope (top 212), 40, true, []⟩
def d__law_draw : Df := ⟨"_law_draw", ["pool", "many"], ["pool", "many", "held", "figure"], defBody (top 213), defScope (top 213), 40, false, []⟩
def d__law_pick : Df := ⟨"_law_pick", ["pool", "some"], ["pool", "some"], defBody (top 214), defScope (top 214), 40, false, []⟩
def d__law_is_num : Df := ⟨"_law_is_num", ["value"], ["value"], defBody (top 215), defScope (top 215), 40, false, []⟩
def d__law_is_in : Df := ⟨"_law_is_in", ["value", "low", "high"], ["value", "low", "high"], defBody (top 216), defScope (top 216), 40, false, []⟩
def d__law_season : Df := ⟨"_law_season", ["pool", "most", "games"], ["pool", "most", "games", "wins", "left", "one", "teams", "high", "two", "team"], defBody (top 217), defScope (top 217), 40, false, []⟩
def d__law_games : Df := ⟨"_law_games", ["left", "team"], ["left", "team", "one", "two", "many"], defBody (top 218), defScope (top 218), 40, false, []⟩
def d__law_groups : Df := ⟨"_law_groups", ["teams"], ["teams", "found", "team", "lot"], defBody (top 219), defScope (top 219), 40, false, []⟩
def d__law_over : Df := ⟨"_law_over", ["wins", "left", "team"], ["wins", "left", "team", "most", "lot", "among", "one", "two", "many", "other"], defBody (top 220), defScope (top 220), 40, false, []⟩
def d__law_are_results : Df := ⟨"_law_are_results", ["wins", "left", "team", "value"], ["wins", "left", "team", "value", "whole", "k", "each", "one", "two", "many", "some"], defBody (top 221), defScope (top 221), 40, false, [4]⟩
def d__law_is_over : Df := ⟨"_law_is_over", ["wins", "left", "team", "value"], ["wins", "left", "team", "value", "among", "k", "each", "one", "two", "many", "other"], defBody (top 222), defScope (top 222), 40, false, []⟩
def d__law_near : Df := ⟨"_law_near", ["pool", "wins", "left", "paper"], ["pool", "wins", "left", "paper", "found", "k", "step", "a", "b", "one", "two", "many", "each"], defBody (top 223), defScope (top 223), 40, false, []⟩
def d__law_team_right : Df := ⟨"_law_team_right", ["pool", "wins", "left", "team"], ["pool", "wins", "left", "team", "claims", "at", "asked", "paper", "bad", "told", "dues", "claim"], defBody (top 224), defScope (top 224), 40, false, []⟩
def d__law_right : Df := ⟨"_law_right", ["pool"], ["pool", "turn", "wins", "left"], defBody (top 225), defScope (top 225), 40, false, []⟩
def d_law : Df := ⟨"law", ["script"], ["script", "turn"], defBody (top 226), defScope (top 226), 40, false, []⟩
def headS : List Stmt → Stmt
  | s :: _ => s
  | [] => .Pass ⟨0, 0, 0, 0⟩
def forTg : Stmt → Expr
  | .For t _ _ _ _ => t
  | _ => .Name "" ⟨0, 0, 0, 0⟩
def forBd : Stmt → List Stmt
  | .For _ _ b _ _ => b
  | _ => []
def ifA : Stmt → List Stmt
  | .If _ a _ _ => a
  | _ => []
def ifB : Stmt → List Stmt
  | .If _ _ b _ => b
  | _ => []
theorem exSs_ht {ex : Stmt → WS} : ∀ (l : List Stmt), l.isEmpty = false → ∀ ρ k, exSs ex l ρ k = ex (headS l) ρ ⟨fun r => exSs ex (List.tail l) r k, k.rt, k.bk, k.ct, k.xc⟩
  | [], h, _, _ => by cases h
  | _ :: _, _, _, _ => rfl
def MD : Md := ⟨CS, FR, TB,
  [("settled", 0, ["claim"], [0]), ("is_claim", 0, ["value"], [0]), ("opposite", 0, ["claim"], [0]), ("accepts", 0, ["paper", "claim"], [1, 0])]⟩
def F_0 : Fns := []
theorem e_is_whole : ∃ m : List PyData → W PyData, m = mir 40 (gmOf MD F_0 d_is_whole) d_is_whole.body := ⟨_, rfl⟩
noncomputable def s_is_whole : List PyData → W PyData := Classical.choose e_is_whole
theorem sq_is_whole : s_is_whole = mir 40 (gmOf MD F_0 d_is_whole) d_is_whole.body := Classical.choose_spec e_is_whole
noncomputable def F_1 : Fns := ("is_whole", 1, 1, s_is_whole) :: F_0
theorem e_is_between : ∃ m : List PyData → W PyData, m = mir 40 (gmOf MD F_1 d_is_between) d_is_between.body := ⟨_, rfl⟩
noncomputable def s_is_between : List PyData → W PyData := Classical.choose e_is_between
theorem sq_is_between : s_is_between = mir 40 (gmOf MD F_1 d_is_between) d_is_between.body := Classical.choose_spec e_is_between
noncomputable def F_2 : Fns := ("is_between", 2, 3, s_is_between) :: F_1
theorem e_is_tuple_of : ∃ m : List PyData → W PyData, m = mir 40 (gmOf MD F_2 d_is_tuple_of) d_is_tuple_of.body := ⟨_, rfl⟩
noncomputable def s_is_tuple_of : List PyData → W PyData := Classical.choose e_is_tuple_of
theorem sq_is_tuple_of : s_is_tuple_of = mir 40 (gmOf MD F_2 d_is_tuple_of) d_is_tuple_of.body := Classical.choose_spec e_is_tuple_of
noncomputable def F_3 : Fns := ("is_tuple_of", 3, 2, s_is_tuple_of) :: F_2
theorem e_is_wins : ∃ m : List PyData → W PyData, m = mir 40 (gmOf MD F_3 d_is_wins) d_is_wins.body := ⟨_, rfl⟩
noncomputable def s_is_wins : List PyData → W PyData := Classical.choose e_is_wins
theorem sq_is_wins : s_is_wins = mir 40 (gmOf MD F_3 d_is_wins) d_is_wins.body := Classical.choose_spec e_is_wins
noncomputable def F_4 : Fns := ("is_wins", 4, 1, s_is_wins) :: F_3
theorem e_first_wrong : ∃ m : List PyData → W PyData, m = mir 40 (gmOf MD F_4 d_first_wrong) d_first_wrong.body := ⟨_, rfl⟩
noncomputable def s_first_wrong : List PyData → W PyData := Classical.choose e_first_wrong
theorem sq_first_wrong : s_first_wrong = mir 40 (gmOf MD F_4 d_first_wrong) d_first_wrong.body := Classical.choose_spec e_first_wrong
noncomputable def F_5 : Fns := ("first_wrong", 5, 4, s_first_wrong) :: F_4
theorem e_are_indexes : ∃ m : List PyData → W PyData, m = mir 40 (gmOf MD F_5 d_are_indexes) d_are_indexes.body := ⟨_, rfl⟩
noncomputable def s_are_indexes : List PyData → W PyData := Classical.choose e_are_indexes
theorem sq_are_indexes : s_are_indexes = mir 40 (gmOf MD F_5 d_are_indexes) d_are_indexes.body := Classical.choose_spec e_are_indexes
noncomputable def F_6 : Fns := ("are_indexes", 6, 2, s_are_indexes) :: F_5
theorem e_are_rising : ∃ m : List PyData → W PyData, m = mir 40 (gmOf MD F_6 d_are_rising) d_are_rising.body := ⟨_, rfl⟩
noncomputable def s_are_rising : List PyData → W PyData := Classical.choose e_are_rising
theorem sq_are_rising : s_are_rising = mir 40 (gmOf MD F_6 d_are_rising) d_are_rising.body := Classical.choose_spec e_are_rising
noncomputable def F_7 : Fns := ("are_rising", 7, 1, s_are_rising) :: F_6
theorem e_wrong_in_wins : ∃ m : List PyData → W PyData, m = mir 40 (gmOf MD F_7 d_wrong_in_wins) d_wrong_in_wins.body := ⟨_, rfl⟩
noncomputable def s_wrong_in_wins : List PyData → W PyData := Classical.choose e_wrong_in_wins
theorem sq_wrong_in_wins : s_wrong_in_wins = mir 40 (gmOf MD F_7 d_wrong_in_wins) d_wrong_in_wins.body := Classical.choose_spec e_wrong_in_wins
noncomputable def F_8 : Fns := ("wrong_in_wins", 8, 1, s_wrong_in_wins) :: F_7
theorem e_is_triple : ∃ m : List PyData → W PyData, m = mir 40 (gmOf MD F_8 d_is_triple) d_is_triple.body := ⟨_, rfl⟩
noncomputable def s_is_triple : List PyData → W PyData := Classical.choose e_is_triple
theorem sq_is_triple : s_is_triple = mir 40 (gmOf MD F_8 d_is_triple) d_is_triple.body := Classical.choose_spec e_is_triple
noncomputable def F_9 : Fns := ("is_triple", 9, 3, s_is_triple) :: F_8
theorem e_wrong_in_triples : ∃ m : List PyData → W PyData, m = mir 40 (gmOf MD F_9 d_wrong_in_triples) d_wrong_in_triples.body := ⟨_, rfl⟩
noncomputable def s_wrong_in_triples : List PyData → W PyData := Classical.choose e_wrong_in_triples
theorem sq_wrong_in_triples : s_wrong_in_triples = mir 40 (gmOf MD F_9 d_wrong_in_triples) d_wrong_in_triples.body := Classical.choose_spec e_wrong_in_triples
noncomputable def F_10 : Fns := ("wrong_in_triples", 10, 3, s_wrong_in_triples) :: F_9
theorem e_wrong_in_left : ∃ m : List PyData → W PyData, m = mir 40 (gmOf MD F_10 d_wrong_in_left) d_wrong_in_left.body := ⟨_, rfl⟩
noncomputable def s_wrong_in_left : List PyData → W PyData := Classical.choose e_wrong_in_left
theorem sq_wrong_in_left : s_wrong_in_left = mir 40 (gmOf MD F_10 d_wrong_in_left) d_wrong_in_left.body := Classical.choose_spec e_wrong_in_left
noncomputable def F_11 : Fns := ("wrong_in_left", 11, 2, s_wrong_in_left) :: F_10
theorem e_games_left_by : ∃ m : List PyData → W PyData, m = mir 40 (gmOf MD F_11 d_games_left_by) d_games_left_by.body := ⟨_, rfl⟩
noncomputable def s_games_left_by : List PyData → W PyData := Classical.choose e_games_left_by
theorem sq_games_left_by : s_games_left_by = mir 40 (gmOf MD F_11 d_games_left_by) d_games_left_by.body := Classical.choose_spec e_games_left_by
noncomputable def F_12 : Fns := ("games_left_by", 12, 2, s_games_left_by) :: F_11
theorem e_most_wins_by : ∃ m : List PyData → W PyData, m = mir 40 (gmOf MD F_12 d_most_wins_by) d_most_wins_by.body := ⟨_, rfl⟩
noncomputable def s_most_wins_by : List PyData → W PyData := Classical.choose e_most_wins_by
theorem sq_most_wins_by : s_most_wins_by = mir 40 (gmOf MD F_12 d_most_wins_by) d_most_wins_by.body := Classical.choose_spec e_most_wins_by
noncomputable def F_13 : Fns := ("most_wins_by", 13, 3, s_most_wins_by) :: F_12
theorem e_games_among : ∃ m : List PyData → W PyData, m = mir 40 (gmOf MD F_13 d_games_among) d_games_among.body := ⟨_, rfl⟩
noncomputable def s_games_among : List PyData → W PyData := Classical.choose e_games_among
theorem sq_games_among : s_games_among = mir 40 (gmOf MD F_13 d_games_among) d_games_among.body := Classical.choose_spec e_games_among
noncomputable def F_14 : Fns := ("games_among", 14, 2, s_games_among) :: F_13
theorem e_is_over : ∃ m : List PyData → W PyData, m = mir 40 (gmOf MD F_14 d_is_over) d_is_over.body := ⟨_, rfl⟩
noncomputable def s_is_over : List PyData → W PyData := Classical.choose e_is_over
theorem sq_is_over : s_is_over = mir 40 (gmOf MD F_14 d_is_over) d_is_over.body := Classical.choose_spec e_is_over
noncomputable def F_15 : Fns := ("is_over", 15, 4, s_is_over) :: F_14
theorem e_lots_of_others : ∃ m : List PyData → W PyData, m = mir 40 (gmOf MD F_15 d_lots_of_others) d_lots_of_others.body := ⟨_, rfl⟩
noncomputable def s_lots_of_others : List PyData → W PyData := Classical.choose e_lots_of_others
theorem sq_lots_of_others : s_lots_of_others = mir 40 (gmOf MD F_15 d_lots_of_others) d_lots_of_others.body := Classical.choose_spec e_lots_of_others
noncomputable def F_16 : Fns := ("lots_of_others", 16, 2, s_lots_of_others) :: F_15
theorem e_lot_over_most : ∃ m : List PyData → W PyData, m = mir 40 (gmOf MD F_16 d_lot_over_most) d_lot_over_most.body := ⟨_, rfl⟩
noncomputable def s_lot_over_most : List PyData → W PyData := Classical.choose e_lot_over_most
theorem sq_lot_over_most : s_lot_over_most = mir 40 (gmOf MD F_16 d_lot_over_most) d_lot_over_most.body := Classical.choose_spec e_lot_over_most
noncomputable def F_17 : Fns := ("lot_over_most", 17, 4, s_lot_over_most) :: F_16
theorem e_lot_over_by : ∃ m : List PyData → W PyData, m = mir 40 (gmOf MD F_17 d_lot_over_by) d_lot_over_by.body := ⟨_, rfl⟩
noncomputable def s_lot_over_by : List PyData → W PyData := Classical.choose e_lot_over_by
theorem sq_lot_over_by : s_lot_over_by = mir 40 (gmOf MD F_17 d_lot_over_by) d_lot_over_by.body := Classical.choose_spec e_lot_over_by
noncomputable def F_18 : Fns := ("lot_over_by", 18, 3, s_lot_over_by) :: F_17
theorem e_can_be_first_by : ∃ m : List PyData → W PyData, m = mir 40 (gmOf MD F_18 d_can_be_first_by) d_can_be_first_by.body := ⟨_, rfl⟩
noncomputable def s_can_be_first_by : List PyData → W PyData := Classical.choose e_can_be_first_by
theorem sq_can_be_first_by : s_can_be_first_by = mir 40 (gmOf MD F_18 d_can_be_first_by) d_can_be_first_by.body := Classical.choose_spec e_can_be_first_by
noncomputable def F_19 : Fns := ("can_be_first_by", 19, 3, s_can_be_first_by) :: F_18
theorem e_is_lot_over : ∃ m : List PyData → W PyData, m = mir 40 (gmOf MD F_19 d_is_lot_over) d_is_lot_over.body := ⟨_, rfl⟩
noncomputable def s_is_lot_over : List PyData → W PyData := Classical.choose e_is_lot_over
theorem sq_is_lot_over : s_is_lot_over = mir 40 (gmOf MD F_19 d_is_lot_over) d_is_lot_over.body := Classical.choose_spec e_is_lot_over
noncomputable def F_20 : Fns := ("is_lot_over", 20, 4, s_is_lot_over) :: F_19
theorem e_wins_with : ∃ m : List PyData → W PyData, m = mir 40 (gmOf MD F_20 d_wins_with) d_wins_with.body := ⟨_, rfl⟩
noncomputable def s_wins_with : List PyData → W PyData := Classical.choose e_wins_with
theorem sq_wins_with : s_wins_with = mir 40 (gmOf MD F_20 d_wins_with) d_wins_with.body := Classical.choose_spec e_wins_with
noncomputable def F_21 : Fns := ("wins_with", 21, 3, s_wins_with) :: F_20
theorem e_results_of : ∃ m : List PyData → W PyData, m = mir 40 (gmOf MD F_21 d_results_of) d_results_of.body := ⟨_, rfl⟩
noncomputable def s_results_of : List PyData → W PyData := Classical.choose e_results_of
theorem sq_results_of : s_results_of = mir 40 (gmOf MD F_21 d_results_of) d_results_of.body := Classical.choose_spec e_results_of
noncomputable def F_22 : Fns := ("results_of", 22, 2, s_results_of) :: F_21
theorem e_results_by : ∃ m : List PyData → W PyData, m = mir 40 (gmOf MD F_22 d_results_by) d_results_by.body := ⟨_, rfl⟩
noncomputable def s_results_by : List PyData → W PyData := Classical.choose e_results_by
theorem sq_results_by : s_results_by = mir 40 (gmOf MD F_22 d_results_by) d_results_by.body := Classical.choose_spec e_results_by
noncomputable def F_23 : Fns := ("results_by", 23, 3, s_results_by) :: F_22
theorem e_is_result : ∃ m : List PyData → W PyData, m = mir 40 (gmOf MD F_23 d_is_result) d_is_result.body := ⟨_, rfl⟩
noncomputable def s_is_result : List PyData → W PyData := Classical.choose e_is_result
theorem sq_is_result : s_is_result = mir 40 (gmOf MD F_23 d_is_result) d_is_result.body := Classical.choose_spec e_is_result
noncomputable def F_24 : Fns := ("is_result", 24, 2, s_is_result) :: F_23
theorem e_are_results : ∃ m : List PyData → W PyData, m = mir 40 (gmOf MD F_24 d_are_results) d_are_results.body := ⟨_, rfl⟩
noncomputable def s_are_results : List PyData → W PyData := Classical.choose e_are_results
theorem sq_are_results : s_are_results = mir 40 (gmOf MD F_24 d_are_results) d_are_results.body := Classical.choose_spec e_are_results
noncomputable def F_25 : Fns := ("are_results", 25, 4, s_are_results) :: F_24
theorem e_is_season_claim : ∃ m : List PyData → W PyData, m = mir 40 (gmOf MD F_25 d_is_season_claim) d_is_season_claim.body := ⟨_, rfl⟩
noncomputable def s_is_season_claim : List PyData → W PyData := Classical.choose e_is_season_claim
theorem sq_is_season_claim : s_is_season_claim = mir 40 (gmOf MD F_25 d_is_season_claim) d_is_season_claim.body := Classical.choose_spec e_is_season_claim
noncomputable def F_26 : Fns := ("is_season_claim", 26, 1, s_is_season_claim) :: F_25
theorem e_is_other_claim : ∃ m : List PyData → W PyData, m = mir 40 (gmOf MD F_26 d_is_other_claim) d_is_other_claim.body := ⟨_, rfl⟩
noncomputable def s_is_other_claim : List PyData → W PyData := Classical.choose e_is_other_claim
theorem sq_is_other_claim : s_is_other_claim = mir 40 (gmOf MD F_26 d_is_other_claim) d_is_other_claim.body := Classical.choose_spec e_is_other_claim
noncomputable def F_27 : Fns := ("is_other_claim", 27, 1, s_is_other_claim) :: F_26
theorem e_other_judge : ∃ m : List PyData → W PyData, m = mir 40 (gmOf MD F_27 d_other_judge) d_other_judge.body := ⟨_, rfl⟩
noncomputable def s_other_judge : List PyData → W PyData := Classical.choose e_other_judge
theorem sq_other_judge : s_other_judge = mir 40 (gmOf MD F_27 d_other_judge) d_other_judge.body := Classical.choose_spec e_other_judge
noncomputable def F_28 : Fns := ("other_judge", 28, 2, s_other_judge) :: F_27
theorem e_settled_first : ∃ m : List PyData → W PyData, m = mir 40 (gmOf MD F_28 d_settled_first) d_settled_first.body := ⟨_, rfl⟩
noncomputable def s_settled_first : List PyData → W PyData := Classical.choose e_settled_first
theorem sq_settled_first : s_settled_first = mir 40 (gmOf MD F_28 d_settled_first) d_settled_first.body := Classical.choose_spec e_settled_first
noncomputable def F_29 : Fns := ("settled_first", 29, 3, s_settled_first) :: F_28
theorem e_other_settled : ∃ m : List PyData → W PyData, m = mir 40 (gmOf MD F_29 d_other_settled) d_other_settled.body := ⟨_, rfl⟩
noncomputable def s_other_settled : List PyData → W PyData := Classical.choose e_other_settled
theorem sq_other_settled : s_other_settled = mir 40 (gmOf MD F_29 d_other_settled) d_other_settled.body := Classical.choose_spec e_other_settled
noncomputable def F_30 : Fns := ("other_settled", 30, 1, s_other_settled) :: F_29
theorem e_has_claim_word : ∃ m : List PyData → W PyData, m = mir 40 (gmOf MD F_30 d_has_claim_word) d_has_claim_word.body := ⟨_, rfl⟩
noncomputable def s_has_claim_word : List PyData → W PyData := Classical.choose e_has_claim_word
theorem sq_has_claim_word : s_has_claim_word = mir 40 (gmOf MD F_30 d_has_claim_word) d_has_claim_word.body := Classical.choose_spec e_has_claim_word
noncomputable def F_31 : Fns := ("has_claim_word", 31, 1, s_has_claim_word) :: F_30
theorem e_is_claim_by : ∃ m : List PyData → W PyData, m = mir 40 (gmOf MD F_31 d_is_claim_by) d_is_claim_by.body := ⟨_, rfl⟩
noncomputable def s_is_claim_by : List PyData → W PyData := Classical.choose e_is_claim_by
theorem sq_is_claim_by : s_is_claim_by = mir 40 (gmOf MD F_31 d_is_claim_by) d_is_claim_by.body := Classical.choose_spec e_is_claim_by
noncomputable def F_32 : Fns := ("is_claim_by", 32, 1, s_is_claim_by) :: F_31
theorem e_opposite_by : ∃ m : List PyData → W PyData, m = mir 40 (gmOf MD F_32 d_opposite_by) d_opposite_by.body := ⟨_, rfl⟩
noncomputable def s_opposite_by : List PyData → W PyData := Classical.choose e_opposite_by
theorem sq_opposite_by : s_opposite_by = mir 40 (gmOf MD F_32 d_opposite_by) d_opposite_by.body := Classical.choose_spec e_opposite_by
noncomputable def F_33 : Fns := ("opposite_by", 33, 1, s_opposite_by) :: F_32
theorem e_is_shown : ∃ m : List PyData → W PyData, m = mir 40 (gmOf MD F_33 d_is_shown) d_is_shown.body := ⟨_, rfl⟩
noncomputable def s_is_shown : List PyData → W PyData := Classical.choose e_is_shown
theorem sq_is_shown : s_is_shown = mir 40 (gmOf MD F_33 d_is_shown) d_is_shown.body := Classical.choose_spec e_is_shown
noncomputable def F_34 : Fns := ("is_shown", 34, 2, s_is_shown) :: F_33
theorem e_settled_by : ∃ m : List PyData → W PyData, m = mir 40 (gmOf MD F_34 d_settled_by) d_settled_by.body := ⟨_, rfl⟩
noncomputable def s_settled_by : List PyData → W PyData := Classical.choose e_settled_by
theorem sq_settled_by : s_settled_by = mir 40 (gmOf MD F_34 d_settled_by) d_settled_by.body := Classical.choose_spec e_settled_by
noncomputable def F_35 : Fns := ("settled_by", 35, 1, s_settled_by) :: F_34
theorem e_is_claim : ∃ m : List PyData → W PyData, m = mir 40 (gmOf MD F_35 d_is_claim) d_is_claim.body := ⟨_, rfl⟩
noncomputable def s_is_claim : List PyData → W PyData := Classical.choose e_is_claim
theorem sq_is_claim : s_is_claim = mir 40 (gmOf MD F_35 d_is_claim) d_is_claim.body := Classical.choose_spec e_is_claim
noncomputable def F_36 : Fns := ("is_claim", 36, 1, s_is_claim) :: F_35
theorem e_check_claim : ∃ m : List PyData → W PyData, m = mir 40 (gmOf MD F_36 d_check_claim) d_check_claim.body := ⟨_, rfl⟩
noncomputable def s_check_claim : List PyData → W PyData := Classical.choose e_check_claim
theorem sq_check_claim : s_check_claim = mir 40 (gmOf MD F_36 d_check_claim) d_check_claim.body := Classical.choose_spec e_check_claim
noncomputable def F_37 : Fns := ("check_claim", 37, 1, s_check_claim) :: F_36
theorem e_opposite : ∃ m : List PyData → W PyData, m = mir 40 (gmOf MD F_37 d_opposite) d_opposite.body := ⟨_, rfl⟩
noncomputable def s_opposite : List PyData → W PyData := Classical.choose e_opposite
theorem sq_opposite : s_opposite = mir 40 (gmOf MD F_37 d_opposite) d_opposite.body := Classical.choose_spec e_opposite
noncomputable def F_38 : Fns := ("opposite", 38, 1, s_opposite) :: F_37
theorem e_settled : ∃ m : List PyData → W PyData, m = mir 40 (gmOf MD F_38 d_settled) d_settled.body := ⟨_, rfl⟩
noncomputable def s_settled : List PyData → W PyData := Classical.choose e_settled
theorem sq_settled : s_settled = mir 40 (gmOf MD F_38 d_settled) d_settled.body := Classical.choose_spec e_settled
noncomputable def F_39 : Fns := ("settled", 39, 1, s_settled) :: F_38
theorem e_accepts : ∃ m : List PyData → W PyData, m = mir 40 (gmOf MD F_39 d_accepts) d_accepts.body := ⟨_, rfl⟩
noncomputable def s_accepts : List PyData → W PyData := Classical.choose e_accepts
theorem sq_accepts : s_accepts = mir 40 (gmOf MD F_39 d_accepts) d_accepts.body := Classical.choose_spec e_accepts
noncomputable def F_40 : Fns := ("accepts", 40, 2, s_accepts) :: F_39
theorem e__law_pool : ∃ m : List PyData → W PyData, m = mir 40 (gmOf MD F_40 d__law_pool) d__law_pool.body := ⟨_, rfl⟩
noncomputable def s__law_pool : List PyData → W PyData := Classical.choose e__law_pool
theorem sq__law_pool : s__law_pool = mir 40 (gmOf MD F_40 d__law_pool) d__law_pool.body := Classical.choose_spec e__law_pool
noncomputable def F_41 : Fns := ("_law_pool", 41, 2, s__law_pool) :: F_40
theorem e__law_draw : ∃ m : List PyData → W PyData, m = mir 40 (gmOf MD F_41 d__law_draw) d__law_draw.body := ⟨_, rfl⟩
noncomputable def s__law_draw : List PyData → W PyData := Classical.choose e__law_draw
theorem sq__law_draw : s__law_draw = mir 40 (gmOf MD F_41 d__law_draw) d__law_draw.body := Classical.choose_spec e__law_draw
noncomputable def F_42 : Fns := ("_law_draw", 42, 2, s__law_draw) :: F_41
theorem e__law_pick : ∃ m : List PyData → W PyData, m = mir 40 (gmOf MD F_42 d__law_pick) d__law_pick.body := ⟨_, rfl⟩
noncomputable def s__law_pick : List PyData → W PyData := Classical.choose e__law_pick
theorem sq__law_pick : s__law_pick = mir 40 (gmOf MD F_42 d__law_pick) d__law_pick.body := Classical.choose_spec e__law_pick
noncomputable def F_43 : Fns := ("_law_pick", 43, 2, s__law_pick) :: F_42
theorem e__law_is_num : ∃ m : List PyData → W PyData, m = mir 40 (gmOf MD F_43 d__law_is_num) d__law_is_num.body := ⟨_, rfl⟩
noncomputable def s__law_is_num : List PyData → W PyData := Classical.choose e__law_is_num
theorem sq__law_is_num : s__law_is_num = mir 40 (gmOf MD F_43 d__law_is_num) d__law_is_num.body := Classical.choose_spec e__law_is_num
noncomputable def F_44 : Fns := ("_law_is_num", 44, 1, s__law_is_num) :: F_43
theorem e__law_is_in : ∃ m : List PyData → W PyData, m = mir 40 (gmOf MD F_44 d__law_is_in) d__law_is_in.body := ⟨_, rfl⟩
noncomputable def s__law_is_in : List PyData → W PyData := Classical.choose e__law_is_in
theorem sq__law_is_in : s__law_is_in = mir 40 (gmOf MD F_44 d__law_is_in) d__law_is_in.body := Classical.choose_spec e__law_is_in
noncomputable def F_45 : Fns := ("_law_is_in", 45, 3, s__law_is_in) :: F_44
theorem e__law_season : ∃ m : List PyData → W PyData, m = mir 40 (gmOf MD F_45 d__law_season) d__law_season.body := ⟨_, rfl⟩
noncomputable def s__law_season : List PyData → W PyData := Classical.choose e__law_season
theorem sq__law_season : s__law_season = mir 40 (gmOf MD F_45 d__law_season) d__law_season.body := Classical.choose_spec e__law_season
noncomputable def F_46 : Fns := ("_law_season", 46, 3, s__law_season) :: F_45
theorem e__law_games : ∃ m : List PyData → W PyData, m = mir 40 (gmOf MD F_46 d__law_games) d__law_games.body := ⟨_, rfl⟩
noncomputable def s__law_games : List PyData → W PyData := Classical.choose e__law_games
theorem sq__law_games : s__law_games = mir 40 (gmOf MD F_46 d__law_games) d__law_games.body := Classical.choose_spec e__law_games
noncomputable def F_47 : Fns := ("_law_games", 47, 2, s__law_games) :: F_46
theorem e__law_groups : ∃ m : List PyData → W PyData, m = mir 40 (gmOf MD F_47 d__law_groups) d__law_groups.body := ⟨_, rfl⟩
noncomputable def s__law_groups : List PyData → W PyData := Classical.choose e__law_groups
theorem sq__law_groups : s__law_groups = mir 40 (gmOf MD F_47 d__law_groups) d__law_groups.body := Classical.choose_spec e__law_groups
noncomputable def F_48 : Fns := ("_law_groups", 48, 1, s__law_groups) :: F_47
theorem e__law_over : ∃ m : List PyData → W PyData, m = mir 40 (gmOf MD F_48 d__law_over) d__law_over.body := ⟨_, rfl⟩
noncomputable def s__law_over : List PyData → W PyData := Classical.choose e__law_over
theorem sq__law_over : s__law_over = mir 40 (gmOf MD F_48 d__law_over) d__law_over.body := Classical.choose_spec e__law_over
noncomputable def F_49 : Fns := ("_law_over", 49, 3, s__law_over) :: F_48
theorem e__law_are_results : ∃ m : List PyData → W PyData, m = mir 40 (gmOf MD F_49 d__law_are_results) d__law_are_results.body := ⟨_, rfl⟩
noncomputable def s__law_are_results : List PyData → W PyData := Classical.choose e__law_are_results
theorem sq__law_are_results : s__law_are_results = mir 40 (gmOf MD F_49 d__law_are_results) d__law_are_results.body := Classical.choose_spec e__law_are_results
noncomputable def F_50 : Fns := ("_law_are_results", 50, 4, s__law_are_results) :: F_49
theorem e__law_is_over : ∃ m : List PyData → W PyData, m = mir 40 (gmOf MD F_50 d__law_is_over) d__law_is_over.body := ⟨_, rfl⟩
noncomputable def s__law_is_over : List PyData → W PyData := Classical.choose e__law_is_over
theorem sq__law_is_over : s__law_is_over = mir 40 (gmOf MD F_50 d__law_is_over) d__law_is_over.body := Classical.choose_spec e__law_is_over
noncomputable def F_51 : Fns := ("_law_is_over", 51, 4, s__law_is_over) :: F_50
theorem e__law_near : ∃ m : List PyData → W PyData, m = mir 40 (gmOf MD F_51 d__law_near) d__law_near.body := ⟨_, rfl⟩
noncomputable def s__law_near : List PyData → W PyData := Classical.choose e__law_near
theorem sq__law_near : s__law_near = mir 40 (gmOf MD F_51 d__law_near) d__law_near.body := Classical.choose_spec e__law_near
noncomputable def F_52 : Fns := ("_law_near", 52, 4, s__law_near) :: F_51
theorem e__law_team_right : ∃ m : List PyData → W PyData, m = mir 40 (gmOf MD F_52 d__law_team_right) d__law_team_right.body := ⟨_, rfl⟩
noncomputable def s__law_team_right : List PyData → W PyData := Classical.choose e__law_team_right
theorem sq__law_team_right : s__law_team_right = mir 40 (gmOf MD F_52 d__law_team_right) d__law_team_right.body := Classical.choose_spec e__law_team_right
noncomputable def F_53 : Fns := ("_law_team_right", 53, 4, s__law_team_right) :: F_52
theorem e__law_right : ∃ m : List PyData → W PyData, m = mir 40 (gmOf MD F_53 d__law_right) d__law_right.body := ⟨_, rfl⟩
noncomputable def s__law_right : List PyData → W PyData := Classical.choose e__law_right
theorem sq__law_right : s__law_right = mir 40 (gmOf MD F_53 d__law_right) d__law_right.body := Classical.choose_spec e__law_right
noncomputable def F_54 : Fns := ("_law_right", 54, 1, s__law_right) :: F_53
theorem e_law : ∃ m : List PyData → W PyData, m = mir 40 (gmOf MD F_54 d_law) d_law.body := ⟨_, rfl⟩
noncomputable def s_law : List PyData → W PyData := Classical.choose e_law
theorem sq_law : s_law = mir 40 (gmOf MD F_54 d_law) d_law.body := Classical.choose_spec e_law
noncomputable def F_55 : Fns := ("law", 55, 1, s_law) :: F_54
end Tk77

set_option maxHeartbeats 4000000
namespace Tk77
open PySem PySem.Spec PyProof.Rows L2 PD
theorem r_is_whole (v_value : PyData) (q : PyData → Prop) (y : Xc → Prop) : s_is_whole [v_value] q y = (W.opt (isT "int" v_value) (fun b => W.ret (PyData.bool b)) (fun v1 => (asB v1 (fun b2 => (W.ite b2 (fun q3 z4 => (W.opt (isT "bool" v_value) (fun b => W.ret (PyData.bool b)) (fun v5 => (asB v5 (fun b6 => (q3 (PyData.bool (!b6)))) z4)) z4)) (W.ret (PyData.bool false)) (fun v7 => (q v7)) y)) y)) y) := by
  refine (congrFun (congrFun (congrFun sq_is_whole _) _) _).trans ?_
  kernel_rfl
theorem r_is_between (v_value v_low v_high : PyData) (q : PyData → Prop) (y : Xc → Prop) : s_is_between [v_value, v_low, v_high] q y = ((1 : Nat) = 1 ∧ s_is_whole [v_value] (fun v1 => (asB v1 (fun b2 => (W.ite b2 (fun q3 z4 => (dCmp .LtE v_low v_value (fun v5 => (asB v5 (fun b6 => (W.ite b6 (fun q7 z8 => (dCmp .LtE v_value v_high (fun v9 => (q7 v9)) z8)) (W.ret (PyData.bool false)) (fun v10 => (q3 v10)) z4)) z4)) z4)) (W.ret (PyData.bool false)) (fun v11 => (q v11)) y)) y)) y) := by
  refine (congrFun (congrFun (congrFun sq_is_between _) _) _).trans ?_
  kernel_rfl
theorem r_is_tuple_of (v_value v_many : PyData) (q : PyData → Prop) (y : Xc → Prop) : s_is_tuple_of [v_value, v_many] q y = (W.opt (isT "tuple" v_value) (fun b => W.ret (PyData.bool b)) (fun v1 => (asB v1 (fun b2 => (W.ite b2 (fun q3 z4 => (dLen [v_value] (fun v5 => (dCmp .Eq v5 v_many (fun v6 => (q3 v6)) z4)) z4)) (W.ret (PyData.bool false)) (fun v7 => (q v7)) y)) y)) y) := by
  refine (congrFun (congrFun (congrFun sq_is_tuple_of _) _) _).trans ?_
  kernel_rfl
theorem r_is_wins (v_value : PyData) (q : PyData → Prop) (y : Xc → Prop) : s_is_wins [v_value] q y = ((3 : Nat) = 3 ∧ s_is_between [v_value, (PyData.int 0), (PyData.int 99)] (fun v1 => (q v1)) y) := by
  refine (congrFun (congrFun (congrFun sq_is_wins _) _) _).trans ?_
  kernel_rfl
theorem r_first_wrong (v_value v_fewest v_most v_is_right : PyData) (q : PyData → Prop) (y : Xc → Prop) : s_first_wrong [v_value, v_fewest, v_most, v_is_right] q y = (W.opt (isT "tuple" v_value) (fun b => W.ret (PyData.bool b)) (fun v1 => (asB v1 (fun b2 => (asB (PyData.bool (!b2)) (fun b3 => (W.ite b3 (W.ret (PyData.bool true)) (fun q4 z5 => (dLen [v_value] (fun v6 => (dCmp .LtE v_fewest v6 (fun v7 => (asB v7 (fun b8 => (W.ite b8 (fun q9 z10 => (dCmp .LtE v6 v_most (fun v11 => (q9 v11)) z10)) (W.ret (PyData.bool false)) (fun v12 => (asB v12 (fun b13 => (q4 (PyData.bool (!b13)))) z5)) z5)) z5)) z5)) z5)) (fun v14 => (asB v14 (fun b15 => (match b15 with | true => (sizeOk [PyData.none] ∧ (q (PyData.list [PyData.none]))) | false => (itemsOf v_value (fun xs16 => (lcGo (fun d17 q18 _ => ((match tupOf 2 d17 with | some ds21 => (fun (q19 : Option PyData → Prop) (z20 : Xc → Prop) => (W.opt (defOf F_4 v_is_right) (fun t24 => (fun q25 z26 => ((1 : Nat) = t24.1 ∧ t24.2 [(ds21.getD 1 PyData.none)] (fun v27 => (q25 v27)) z26))) (fun v28 => (asB v28 (fun b29 => (asB (PyData.bool (!b29)) (fun b30 => (W.ite b30 (fun q22 z23 => (q22 (some (ds21.getD 0 PyData.none)))) (W.ret none) q19 z20)) z20)) z20)) z20)) | none => W.bad) q18 (fun _ => False))) (enumD xs16) [] (fun ys31 => (dSl (PyData.list ys31) none (some (1 : Int)) (fun v32 => (q v32)) y)) y)) y))) y)) y)) y)) y)) y) := by
  refine (congrFun (congrFun (congrFun sq_first_wrong _) _) _).trans ?_
  kernel_rfl
theorem r_are_indexes (v_many v_value : PyData) (q : PyData → Prop) (y : Xc → Prop) : s_are_indexes [v_many, v_value] q y = (W.opt (isT "tuple" v_value) (fun b => W.ret (PyData.bool b)) (fun v1 => (asB v1 (fun b2 => (W.ite b2 (fun q3 z4 => (walkOf v_value (fun xs5 => (lcGo (fun d6 q7 _ => (dBin .Sub v_many (PyData.int 1) (fun v8 => ((3 : Nat) = 3 ∧ s_is_between [d6, (PyData.int 0), v8] (fun v9 => (q7 (some v9))) (fun _ => False))) (fun _ => False))) xs5 [] (fun ys10 => (dAll [(PyData.list ys10)] (fun v11 => (q3 v11)) z4)) z4)) z4)) (W.ret (PyData.bool false)) (fun v12 => (q v12)) y)) y)) y) := by
  refine (congrFun (congrFun (congrFun sq_are_indexes _) _) _).trans ?_
  kernel_rfl
theorem r_are_rising (v_value : PyData) (q : PyData → Prop) (y : Xc → Prop) : s_are_rising [v_value] q y = (dLen [v_value] (fun v1 => (rg2 [(PyData.int 1), v1] (fun xs2 => (lcGo (fun d3 q4 _ => (dBin .Sub d3 (PyData.int 1) (fun v5 => (dIx v_value v5 (fun v6 => (dIx v_value d3 (fun v7 => (dCmp .Lt v6 v7 (fun v8 => (q4 (some v8))) (fun _ => False))) (fun _ => False))) (fun _ => False))) (fun _ => False))) xs2 [] (fun ys9 => (dAll [(PyData.list ys9)] (fun v10 => (q v10)) y)) y)) y)) y) := by
  refine (congrFun (congrFun (congrFun sq_are_rising _) _) _).trans ?_
  kernel_rfl
theorem r_wrong_in_wins (v_value : PyData) (q : PyData → Prop) (y : Xc → Prop) : s_wrong_in_wins [v_value] q y = ((4 : Nat) = 4 ∧ s_first_wrong [v_value, (PyData.int 2), (PyData.int 5), (fnD "is_wins")] (fun v1 => (q v1)) y) := by
  refine (congrFun (congrFun (congrFun sq_wrong_in_wins _) _) _).trans ?_
  kernel_rfl
theorem r_is_triple (v_many v_most v_value : PyData) (q : PyData → Prop) (y : Xc → Prop) : s_is_triple [v_many, v_most, v_value] q y = ((2 : Nat) = 2 ∧ s_is_tuple_of [v_value, (PyData.int 3)] (fun v1 => (asB v1 (fun b2 => (asB (PyData.bool (!b2)) (fun b3 => (W.ite b3 (W.ret (PyData.bool true)) (fun q4 z5 => (dSl v_value none (some (2 : Int)) (fun v6 => ((2 : Nat) = 2 ∧ s_are_indexes [v_many, v6] (fun v7 => (asB v7 (fun b8 => (q4 (PyData.bool (!b8)))) z5)) z5)) z5)) (fun v9 => (asB v9 (fun b10 => (match b10 with | true => (q (PyData.bool false)) | false => (dIx v_value (PyData.int 0) (fun v11 => (dIx v_value (PyData.int 1) (fun v12 => (dCmp .Lt v11 v12 (fun v13 => (asB v13 (fun b14 => (W.ite b14 (fun q15 z16 => (dIx v_value (PyData.int 2) (fun v17 => ((3 : Nat) = 3 ∧ s_is_between [v17, (PyData.int 1), v_most] (fun v18 => (q15 v18)) z16)) z16)) (W.ret (PyData.bool false)) (fun v19 => (q v19)) y)) y)) y)) y)) y))) y)) y)) y)) y)) y) := by
  refine (congrFun (congrFun (congrFun sq_is_triple _) _) _).trans ?_
  kernel_rfl
theorem r_wrong_in_triples (v_many v_most v_value : PyData) (q : PyData → Prop) (y : Xc → Prop) : s_wrong_in_triples [v_many, v_most, v_value] q y = (W.opt (isT "tuple" v_value) (fun b => W.ret (PyData.bool b)) (fun v1 => (asB v1 (fun b2 => (asB (PyData.bool (!b2)) (fun b3 => (match b3 with | true => (sizeOk [PyData.none] ∧ (q (PyData.list [PyData.none]))) | false => (itemsOf v_value (fun xs4 => (forGo (gmOf MD F_9 d_wrong_in_triples) (forTg (headS (List.tail d_wrong_in_triples.body))) (exSs (exS 39 (gmOf MD F_9 d_wrong_in_triples)) (forBd (headS (List.tail d_wrong_in_triples.body)))) (enumD xs4) [some v_many, some v_most, some v_value, none, none] (SK.mk (fun r => exSs (exS 40 (gmOf MD F_9 d_wrong_in_triples)) (List.tail (List.tail d_wrong_in_triples.body)) r (SK.mk (fun _ => q PyData.none) q (fun _ => False) (fun _ => False) y)) q (fun _ => False) (fun _ => False) y))) y))) y)) y)) y) := by
  refine (congrFun (congrFun (congrFun sq_wrong_in_triples _) _) _).trans ?_
  kernel_rfl
theorem rb_wrong_in_triples_1 (v_many v_most v_value v_index v_each : PyData)  (K : SK) : exSs (exS 39 (gmOf MD F_9 d_wrong_in_triples)) (forBd (headS (List.tail d_wrong_in_triples.body))) [some v_many, some v_most, some v_value, some v_index, some v_each] K = ((3 : Nat) = 3 ∧ s_is_triple [v_many, v_most, v_each] (fun v5 => (asB v5 (fun b6 => (asB (PyData.bool (!b6)) (fun b7 => (W.ite b7 (W.ret (PyData.bool true)) (fun q8 z9 => (dCmp .Gt v_index (PyData.int 0) (fun v10 => (asB v10 (fun b11 => (W.ite b11 (fun q12 z13 => (dSl v_each none (some (2 : Int)) (fun v14 => (dBin .Sub v_index (PyData.int 1) (fun v15 => (dIx v_value v15 (fun v16 => (dSl v16 none (some (2 : Int)) (fun v17 => (dCmp .LtE v14 v17 (fun v18 => (q12 v18)) z13)) z13)) z13)) z13)) z13)) (W.ret (PyData.bool false)) (fun v19 => (q8 v19)) z9)) z9)) z9)) (fun v20 => (asB v20 (fun b21 => (match b21 with | true => (sizeOk [v_index] ∧ (K.rt (PyData.list [v_index]))) | false => (K.nx [some v_many, some v_most, some v_value, some v_index, some v_each]))) K.xc)) K.xc)) K.xc)) K.xc)) K.xc) := by
  kernel_rfl
theorem rr_wrong_in_triples_1 (v_many v_most v_value : PyData) (o_index o_each : Option PyData) (K : SK) : exSs (exS 40 (gmOf MD F_9 d_wrong_in_triples)) (List.tail (List.tail d_wrong_in_triples.body)) [some v_many, some v_most, some v_value, o_index, o_each] K = (sizeOk [] ∧ (K.rt (PyData.list []))) := by
  kernel_rfl
theorem r_wrong_in_left (v_many v_value : PyData) (q : PyData → Prop) (y : Xc → Prop) : s_wrong_in_left [v_many, v_value] q y = ((3 : Nat) = 3 ∧ s_wrong_in_triples [v_many, (PyData.int 20), v_value] (fun v1 => (q v1)) y) := by
  refine (congrFun (congrFun (congrFun sq_wrong_in_left _) _) _).trans ?_
  kernel_rfl
theorem r_games_left_by (v_left v_team : PyData) (q : PyData → Prop) (y : Xc → Prop) : s_games_left_by [v_left, v_team] q y = (walkOf v_left (fun xs1 => (lcGo (fun d2 q3 _ => ((match tupOf 3 d2 with | some ds6 => (fun (q4 : Option PyData → Prop) (z5 : Xc → Prop) => (sizeOk [(ds6.getD 0 PyData.none), (ds6.getD 1 PyData.none)] ∧ (dCmp .In v_team (PyData.tuple [(ds6.getD 0 PyData.none), (ds6.getD 1 PyData.none)]) (fun v9 => (asB v9 (fun b10 => (W.ite b10 (fun q7 z8 => (q7 (some (ds6.getD 2 PyData.none)))) (W.ret none) q4 z5)) z5)) z5))) | none => W.bad) q3 (fun _ => False))) xs1 [] (fun ys11 => (dSum [(PyData.list ys11)] (fun v12 => (q v12)) y)) y)) y) := by
  refine (congrFun (congrFun (congrFun sq_games_left_by _) _) _).trans ?_
  kernel_rfl
theorem r_most_wins_by (v_wins v_left v_team : PyData) (q : PyData → Prop) (y : Xc → Prop) : s_most_wins_by [v_wins, v_left, v_team] q y = (dIx v_wins v_team (fun v1 => ((2 : Nat) = 2 ∧ s_games_left_by [v_left, v_team] (fun v2 => (dBin .Add v1 v2 (fun v3 => (q v3)) y)) y)) y) := by
  refine (congrFun (congrFun (congrFun sq_most_wins_by _) _) _).trans ?_
  kernel_rfl
theorem r_games_among (v_left v_lot : PyData) (q : PyData → Prop) (y : Xc → Prop) : s_games_among [v_left, v_lot] q y = (walkOf v_left (fun xs1 => (lcGo (fun d2 q3 _ => ((match tupOf 3 d2 with | some ds6 => (fun (q4 : Option PyData → Prop) (z5 : Xc → Prop) => (dCmp .In (ds6.getD 0 PyData.none) v_lot (fun v9 => (asB v9 (fun b10 => (W.ite b10 (fun q11 z12 => (dCmp .In (ds6.getD 1 PyData.none) v_lot (fun v13 => (q11 v13)) z12)) (W.ret (PyData.bool false)) (fun v14 => (asB v14 (fun b15 => (W.ite b15 (fun q7 z8 => (q7 (some (ds6.getD 2 PyData.none)))) (W.ret none) q4 z5)) z5)) z5)) z5)) z5)) | none => W.bad) q3 (fun _ => False))) xs1 [] (fun ys16 => (dSum [(PyData.list ys16)] (fun v17 => (q v17)) y)) y)) y) := by
  refine (congrFun (congrFun (congrFun sq_games_among _) _) _).trans ?_
  kernel_rfl
theorem r_is_over (v_wins v_left v_most v_lot : PyData) (q : PyData → Prop) (y : Xc → Prop) : s_is_over [v_wins, v_left, v_most, v_lot] q y = (walkOf v_lot (fun xs1 => (lcGo (fun d2 q3 _ => (dIx v_wins d2 (fun v4 => (q3 (some v4))) (fun _ => False))) xs1 [] (fun ys5 => (dSum [(PyData.list ys5)] (fun v6 => ((2 : Nat) = 2 ∧ s_games_among [v_left, v_lot] (fun v7 => (dBin .Add v6 v7 (fun v8 => (dLen [v_lot] (fun v9 => (dBin .Mult v_most v9 (fun v10 => (dCmp .Gt v8 v10 (fun v11 => (q v11)) y)) y)) y)) y)) y)) y)) y)) y) := by
  refine (congrFun (congrFun (congrFun sq_is_over _) _) _).trans ?_
  kernel_rfl
theorem r_lots_of_others (v_many v_team : PyData) (q : PyData → Prop) (y : Xc → Prop) : s_lots_of_others [v_many, v_team] q y = (sizeOk [] ∧ (sizeOk [(PyData.tuple [])] ∧ (rg1 [v_many] (fun xs1 => (forGo (gmOf MD F_15 d_lots_of_others) (forTg (headS (List.tail d_lots_of_others.body))) (exSs (exS 39 (gmOf MD F_15 d_lots_of_others)) (forBd (headS (List.tail d_lots_of_others.body)))) xs1 [some v_many, some v_team, some (PyData.list [(PyData.tuple [])]), none, none] (SK.mk (fun r => exSs (exS 40 (gmOf MD F_15 d_lots_of_others)) (List.tail (List.tail d_lots_of_others.body)) r (SK.mk (fun _ => q PyData.none) q (fun _ => False) (fun _ => False) y)) q (fun _ => False) (fun _ => False) y))) y))) := by
  refine (congrFun (congrFun (congrFun sq_lots_of_others _) _) _).trans ?_
  kernel_rfl
theorem rb_lots_of_others_1 (v_many v_team v_found v_other : PyData) (o_lot : Option PyData) (K : SK) : exSs (exS 39 (gmOf MD F_15 d_lots_of_others)) (forBd (headS (List.tail d_lots_of_others.body))) [some v_many, some v_team, some v_found, some v_other, o_lot] K = (dCmp .NotEq v_other v_team (fun v2 => (asB v2 (fun b3 => (match b3 with | true => (walkOf v_found (fun xs4 => (lcGo (fun d5 q6 _ => (itemsOf d5 (fun xs7 => (sizeOk (xs7 ++ [v_other]) ∧ (q6 (some (PyData.tuple (xs7 ++ [v_other])))))) (fun _ => False))) xs4 [] (fun ys8 => (dBin .Add v_found (PyData.list ys8) (fun v9 => (K.nx [some v_many, some v_team, some v9, some v_other, o_lot])) K.xc)) K.xc)) K.xc) | false => (K.nx [some v_many, some v_team, some v_found, some v_other, o_lot]))) K.xc)) K.xc) := by
  kernel_rfl
theorem rr_lots_of_others_1 (v_many v_team v_found : PyData) (o_other o_lot : Option PyData) (K : SK) : exSs (exS 40 (gmOf MD F_15 d_lots_of_others)) (List.tail (List.tail d_lots_of_others.body)) [some v_many, some v_team, some v_found, o_other, o_lot] K = (dSorted [v_found] (fun v10 => (dSl v10 (some (1 : Int)) none (fun v11 => (K.rt v11)) K.xc)) K.xc) := by
  kernel_rfl
theorem r_lot_over_most (v_wins v_left v_team v_most : PyData) (q : PyData → Prop) (y : Xc → Prop) : s_lot_over_most [v_wins, v_left, v_team, v_most] q y = (dLen [v_wins] (fun v1 => ((2 : Nat) = 2 ∧ s_lots_of_others [v1, v_team] (fun v2 => (walkOf v2 (fun xs3 => (forGo (gmOf MD F_16 d_lot_over_most) (forTg (headS d_lot_over_most.body)) (exSs (exS 39 (gmOf MD F_16 d_lot_over_most)) (forBd (headS d_lot_over_most.body))) xs3 [some v_wins, some v_left, some v_team, some v_most, none] (SK.mk (fun r => exSs (exS 40 (gmOf MD F_16 d_lot_over_most)) (List.tail d_lot_over_most.body) r (SK.mk (fun _ => q PyData.none) q (fun _ => False) (fun _ => False) y)) q (fun _ => False) (fun _ => False) y))) y)) y)) y) := by
  refine (congrFun (congrFun (congrFun sq_lot_over_most _) _) _).trans ?_
  kernel_rfl
theorem rb_lot_over_most_1 (v_wins v_left v_team v_most v_lot : PyData)  (K : SK) : exSs (exS 39 (gmOf MD F_16 d_lot_over_most)) (forBd (headS d_lot_over_most.body)) [some v_wins, some v_left, some v_team, some v_most, some v_lot] K = ((4 : Nat) = 4 ∧ s_is_over [v_wins, v_left, v_most, v_lot] (fun v4 => (asB v4 (fun b5 => (match b5 with | true => (K.rt v_lot) | false => (K.nx [some v_wins, some v_left, some v_team, some v_most, some v_lot]))) K.xc)) K.xc) := by
  kernel_rfl
theorem rr_lot_over_most_1 (v_wins v_left v_team v_most : PyData) (o_lot : Option PyData) (K : SK) : exSs (exS 40 (gmOf MD F_16 d_lot_over_most)) (List.tail d_lot_over_most.body) [some v_wins, some v_left, some v_team, some v_most, o_lot] K = (K.rt PyData.none) := by
  kernel_rfl
theorem r_lot_over_by (v_wins v_left v_team : PyData) (q : PyData → Prop) (y : Xc → Prop) : s_lot_over_by [v_wins, v_left, v_team] q y = ((3 : Nat) = 3 ∧ s_most_wins_by [v_wins, v_left, v_team] (fun v1 => ((4 : Nat) = 4 ∧ s_lot_over_most [v_wins, v_left, v_team, v1] (fun v2 => (q v2)) y)) y) := by
  refine (congrFun (congrFun (congrFun sq_lot_over_by _) _) _).trans ?_
  kernel_rfl
theorem r_can_be_first_by (v_wins v_left v_team : PyData) (q : PyData → Prop) (y : Xc → Prop) : s_can_be_first_by [v_wins, v_left, v_team] q y = ((3 : Nat) = 3 ∧ s_lot_over_by [v_wins, v_left, v_team] (fun v1 => (dCmp .Is v1 PyData.none (fun v2 => (q v2)) y)) y) := by
  refine (congrFun (congrFun (congrFun sq_can_be_first_by _) _) _).trans ?_
  kernel_rfl
theorem r_is_lot_over (v_wins v_left v_team v_value : PyData) (q : PyData → Prop) (y : Xc → Prop) : s_is_lot_over [v_wins, v_left, v_team, v_value] q y = (dLen [v_wins] (fun v1 => ((2 : Nat) = 2 ∧ s_are_indexes [v1, v_value] (fun v2 => (asB v2 (fun b3 => (asB (PyData.bool (!b3)) (fun b4 => (W.ite b4 (W.ret (PyData.bool true)) (fun q5 z6 => (sizeOk [] ∧ (dCmp .Eq v_value (PyData.tuple []) (fun v7 => (asB v7 (fun b8 => (W.ite b8 (W.ret (PyData.bool true)) (fun q9 z10 => ((1 : Nat) = 1 ∧ s_are_rising [v_value] (fun v11 => (asB v11 (fun b12 => (asB (PyData.bool (!b12)) (fun b13 => (W.ite b13 (W.ret (PyData.bool true)) (fun q14 z15 => (dCmp .In v_team v_value (fun v16 => (q14 v16)) z15)) (fun v17 => (q9 v17)) z10)) z10)) z10)) z10)) (fun v18 => (q5 v18)) z6)) z6)) z6))) (fun v19 => (asB v19 (fun b20 => (match b20 with | true => (q (PyData.bool false)) | false => ((3 : Nat) = 3 ∧ s_most_wins_by [v_wins, v_left, v_team] (fun v21 => ((4 : Nat) = 4 ∧ s_is_over [v_wins, v_left, v21, v_value] (fun v22 => (q v22)) y)) y))) y)) y)) y)) y)) y)) y) := by
  refine (congrFun (congrFun (congrFun sq_is_lot_over _) _) _).trans ?_
  kernel_rfl
theorem r_wins_with (v_wins v_triple v_result : PyData) (q : PyData → Prop) (y : Xc → Prop) : s_wins_with [v_wins, v_triple, v_result] q y = (itemsOf v_wins (fun xs1 => (dIx v_triple (PyData.int 0) (fun v2 => (dIx (PyData.list xs1) v2 (fun v3 => (dIx v_result (PyData.int 0) (fun v4 => (dBin .Add v3 v4 (fun v5 => (dIx v_triple (PyData.int 1) (fun v6 => (dIx (PyData.list xs1) v6 (fun v7 => (dIx v_result (PyData.int 1) (fun v8 => (dBin .Add v7 v8 (fun v9 => (isAtom v5 = true ∧ isAtom v9 = true ∧ (asL (PyData.list xs1) (fun ds10 => (dIx v_triple (PyData.int 0) (fun v12 => (ownSet v12 v5 ds10 (fun es11 => (asL (PyData.list es11) (fun ds13 => (dIx v_triple (PyData.int 1) (fun v15 => (ownSet v15 v9 ds13 (fun es14 => (dTuple [(PyData.list es14)] (fun v16 => (q v16)) y)))) y)))))) y))))) y)) y)) y)) y)) y)) y)) y)) y)) y) := by
  refine (congrFun (congrFun (congrFun sq_wins_with _) _) _).trans ?_
  kernel_rfl
theorem r_results_of (v_triple v_team : PyData) (q : PyData → Prop) (y : Xc → Prop) : s_results_of [v_triple, v_team] q y = (match tupOf 3 v_triple with | some ds1 => (sizeOk [(ds1.getD 0 PyData.none), (ds1.getD 1 PyData.none)] ∧ (dCmp .In v_team (PyData.tuple [(ds1.getD 0 PyData.none), (ds1.getD 1 PyData.none)]) (fun v2 => (asB v2 (fun b3 => (match b3 with | true => (dCmp .Eq v_team (ds1.getD 0 PyData.none) (fun v4 => (asB v4 (fun b5 => (W.ite b5 (fun q6 z7 => (sizeOk [(ds1.getD 2 PyData.none), (PyData.int 0)] ∧ (q6 (PyData.tuple [(ds1.getD 2 PyData.none), (PyData.int 0)])))) (fun q8 z9 => (sizeOk [(PyData.int 0), (ds1.getD 2 PyData.none)] ∧ (q8 (PyData.tuple [(PyData.int 0), (ds1.getD 2 PyData.none)])))) (fun v10 => (sizeOk [v10] ∧ (q (PyData.list [v10])))) y)) y)) y) | false => (dBin .Add (ds1.getD 2 PyData.none) (PyData.int 1) (fun v11 => (rg1 [v11] (fun xs12 => (lcGo (fun d13 q14 _ => (dBin .Sub (ds1.getD 2 PyData.none) d13 (fun v15 => (sizeOk [d13, v15] ∧ (q14 (some (PyData.tuple [d13, v15]))))) (fun _ => False))) xs12 [] (fun ys16 => (q (PyData.list ys16))) y)) y)) y))) y)) y)) | none => False) := by
  refine (congrFun (congrFun (congrFun sq_results_of _) _) _).trans ?_
  kernel_rfl
theorem r_results_by (v_wins v_left v_team : PyData) (q : PyData → Prop) (y : Xc → Prop) : s_results_by [v_wins, v_left, v_team] q y = ((3 : Nat) = 3 ∧ s_can_be_first_by [v_wins, v_left, v_team] (fun v1 => (asB v1 (fun b2 => (asB (PyData.bool (!b2)) (fun b3 => (match b3 with | true => (q PyData.none) | false => ((3 : Nat) = 3 ∧ s_most_wins_by [v_wins, v_left, v_team] (fun v4 => (itemsOf v_left (fun xs5 => (forGo (gmOf MD F_22 d_results_by) (forTg (headS (List.tail (List.tail d_results_by.body)))) (exSs (exS 39 (gmOf MD F_22 d_results_by)) (forBd (headS (List.tail (List.tail d_results_by.body))))) (enumD xs5) [some v_wins, some v_left, some v_team, some v4, some v_wins, some (PyData.list []), none, none, none, none, none, none] (SK.mk (fun r => exSs (exS 40 (gmOf MD F_22 d_results_by)) (List.tail (List.tail (List.tail d_results_by.body))) r (SK.mk (fun _ => q PyData.none) q (fun _ => False) (fun _ => False) y)) q (fun _ => False) (fun _ => False) y))) y)) y))) y)) y)) y) := by
  refine (congrFun (congrFun (congrFun sq_results_by _) _) _).trans ?_
  kernel_rfl
theorem rb_results_by_1 (v_wins v_left v_team v_most v_now v_found v_index v_triple : PyData) (o_some o_good o_result o_pair : Option PyData) (K : SK) : exSs (exS 39 (gmOf MD F_22 d_results_by)) (forBd (headS (List.tail (List.tail d_results_by.body)))) [some v_wins, some v_left, some v_team, some v_most, some v_now, some v_found, some v_index, some v_triple, o_some, o_good, o_result, o_pair] K = ((2 : Nat) = 2 ∧ s_results_of [v_triple, v_team] (fun v6 => (walkOf v6 (fun xs7 => (lcGo (fun d8 q9 _ => ((3 : Nat) = 3 ∧ s_wins_with [v_now, v_triple, d8] (fun v10 => (sizeOk [v10, d8] ∧ (q9 (some (PyData.tuple [v10, d8]))))) (fun _ => False))) xs7 [] (fun ys11 => (walkOf (PyData.list ys11) (fun xs12 => (lcGo (fun d13 q14 _ => (dIx d13 (PyData.int 0) (fun v17 => (dBin .Add v_index (PyData.int 1) (fun v18 => (asI v18 (fun i19 => (dSl v_left (some i19) none (fun v20 => ((4 : Nat) = 4 ∧ s_lot_over_most [v17, v20, v_team, v_most] (fun v21 => (dCmp .Is v21 PyData.none (fun v22 => (asB v22 (fun b23 => (W.ite b23 (fun q15 z16 => (q15 (some d13))) (W.ret none) q14 (fun _ => False))) (fun _ => False))) (fun _ => False))) (fun _ => False))) (fun _ => False))) (fun _ => False))) (fun _ => False))) (fun _ => False))) xs12 [] (fun ys24 => (dIx (PyData.list ys24) (PyData.int 0) (fun v25 => (match tupOf 2 v25 with | some ds26 => (asL v_found (fun ds27 => (List.length ds27 < sizeLine ∧ (K.nx [some v_wins, some v_left, some v_team, some v_most, some (ds26.getD 0 PyData.none), some (PyData.list (ds27 ++ [(ds26.getD 1 PyData.none)])), some v_index, some v_triple, some (PyData.list ys11), some (PyData.list ys24), some (ds26.getD 1 PyData.none), o_pair])))) | none => False)) K.xc)) K.xc)) K.xc)) K.xc)) K.xc)) K.xc) := by
  kernel_rfl
theorem rr_results_by_1 (v_wins v_left v_team v_most v_now v_found : PyData) (o_index o_triple o_some o_good o_result o_pair : Option PyData) (K : SK) : exSs (exS 40 (gmOf MD F_22 d_results_by)) (List.tail (List.tail (List.tail d_results_by.body))) [some v_wins, some v_left, some v_team, some v_most, some v_now, some v_found, o_index, o_triple, o_some, o_good, o_result, o_pair] K = (dTuple [v_found] (fun v28 => (K.rt v28)) K.xc) := by
  kernel_rfl
theorem r_is_result (v_games v_value : PyData) (q : PyData → Prop) (y : Xc → Prop) : s_is_result [v_games, v_value] q y = ((2 : Nat) = 2 ∧ s_is_tuple_of [v_value, (PyData.int 2)] (fun v1 => (asB v1 (fun b2 => (W.ite b2 (fun q3 z4 => (walkOf v_value (fun xs5 => (lcGo (fun d6 q7 _ => ((3 : Nat) = 3 ∧ s_is_between [d6, (PyData.int 0), v_games] (fun v8 => (q7 (some v8))) (fun _ => False))) xs5 [] (fun ys9 => (dAll [(PyData.list ys9)] (fun v10 => (asB v10 (fun b11 => (W.ite b11 (fun q12 z13 => (dSum [v_value] (fun v14 => (dCmp .Eq v14 v_games (fun v15 => (q12 v15)) z13)) z13)) (W.ret (PyData.bool false)) (fun v16 => (q3 v16)) z4)) z4)) z4)) z4)) z4)) (W.ret (PyData.bool false)) (fun v17 => (q v17)) y)) y)) y) := by
  refine (congrFun (congrFun (congrFun sq_is_result _) _) _).trans ?_
  kernel_rfl
theorem r_are_results (v_wins v_left v_team v_value : PyData) (q : PyData → Prop) (y : Xc → Prop) : s_are_results [v_wins, v_left, v_team, v_value] q y = (dLen [v_left] (fun v1 => ((2 : Nat) = 2 ∧ s_is_tuple_of [v_value, v1] (fun v2 => (asB v2 (fun b3 => (asB (PyData.bool (!b3)) (fun b4 => (match b4 with | true => (q (PyData.bool false)) | false => (zipOf v_left v_value (fun xs5 => (lcGo (fun d6 q7 _ => ((match tupOf 2 d6 with | some ds10 => (match tupOf 3 (ds10.getD 0 PyData.none) with | some ds11 => (fun (q8 : Option PyData → Prop) (z9 : Xc → Prop) => ((2 : Nat) = 2 ∧ s_is_result [(ds11.getD 2 PyData.none), (ds10.getD 1 PyData.none)] (fun v12 => (q8 (some v12))) z9)) | none => W.bad) | none => W.bad) q7 (fun _ => False))) xs5 [] (fun ys13 => (dAll [(PyData.list ys13)] (fun v14 => (asB v14 (fun b15 => (asB (PyData.bool (!b15)) (fun b16 => (match b16 with | true => (q (PyData.bool false)) | false => (zipOf v_left v_value (fun xs17 => (forGo (gmOf MD F_24 d_are_results) (forTg (headS (List.tail (List.tail (List.tail d_are_results.body))))) (exSs (exS 39 (gmOf MD F_24 d_are_results)) (forBd (headS (List.tail (List.tail (List.tail d_are_results.body)))))) xs17 [some v_wins, some v_left, some v_team, some v_value, some v_wins, none, none, none, none, none] (SK.mk (fun r => exSs (exS 40 (gmOf MD F_24 d_are_results)) (List.tail (List.tail (List.tail (List.tail d_are_results.body)))) r (SK.mk (fun _ => q PyData.none) q (fun _ => False) (fun _ => False) y)) q (fun _ => False) (fun _ => False) y))) y))) y)) y)) y)) y)) y))) y)) y)) y)) y) := by
  refine (congrFun (congrFun (congrFun sq_are_results _) _) _).trans ?_
  kernel_rfl
theorem rb_are_results_1 (v_wins v_left v_team v_value v_now v_triple v_result : PyData) (o_each o__ o_games : Option PyData) (K : SK) : exSs (exS 39 (gmOf MD F_24 d_are_results)) (forBd (headS (List.tail (List.tail (List.tail d_are_results.body))))) [some v_wins, some v_left, some v_team, some v_value, some v_now, some v_triple, some v_result, o_each, o__, o_games] K = ((3 : Nat) = 3 ∧ s_wins_with [v_now, v_triple, v_result] (fun v18 => (K.nx [some v_wins, some v_left, some v_team, some v_value, some v18, some v_triple, some v_result, o_each, o__, o_games])) K.xc) := by
  kernel_rfl
theorem rr_are_results_1 (v_wins v_left v_team v_value v_now : PyData) (o_triple o_result o_each o__ o_games : Option PyData) (K : SK) : exSs (exS 40 (gmOf MD F_24 d_are_results)) (List.tail (List.tail (List.tail (List.tail d_are_results.body)))) [some v_wins, some v_left, some v_team, some v_value, some v_now, o_triple, o_result, o_each, o__, o_games] K = (dMax [v_now] (fun v19 => (dIx v_now v_team (fun v20 => (dCmp .Eq v19 v20 (fun v21 => (K.rt v21)) K.xc)) K.xc)) K.xc) := by
  kernel_rfl
theorem r_is_season_claim (v_claim : PyData) (q : PyData → Prop) (y : Xc → Prop) : s_is_season_claim [v_claim] q y = (dIx v_claim (PyData.int 1) (fun v1 => ((1 : Nat) = 1 ∧ s_wrong_in_wins [v1] (fun v2 => (sizeOk [] ∧ (dCmp .NotEq v2 (PyData.list []) (fun v3 => (asB v3 (fun b4 => (W.ite b4 (W.ret (PyData.bool true)) (fun q5 z6 => (dIx v_claim (PyData.int 1) (fun v7 => (dLen [v7] (fun v8 => (dIx v_claim (PyData.int 2) (fun v9 => ((2 : Nat) = 2 ∧ s_wrong_in_left [v8, v9] (fun v10 => (sizeOk [] ∧ (dCmp .NotEq v10 (PyData.list []) (fun v11 => (q5 v11)) z6))) z6)) z6)) z6)) z6)) (fun v12 => (asB v12 (fun b13 => (match b13 with | true => (q (PyData.bool false)) | false => (dIx v_claim (PyData.int 3) (fun v14 => (dIx v_claim (PyData.int 1) (fun v15 => (dLen [v15] (fun v16 => (dBin .Sub v16 (PyData.int 1) (fun v17 => ((3 : Nat) = 3 ∧ s_is_between [v14, (PyData.int 0), v17] (fun v18 => (q v18)) y)) y)) y)) y)) y))) y)) y)) y)) y))) y)) y) := by
  refine (congrFun (congrFun (congrFun sq_is_season_claim _) _) _).trans ?_
  kernel_rfl
theorem r_is_other_claim (v_claim : PyData) (q : PyData → Prop) (y : Xc → Prop) : s_is_other_claim [v_claim] q y = (dIx v_claim (PyData.int 0) (fun v1 => (dCmp .In v1 (PyData.tuple [(PyData.str "first"), (PyData.str "not first")]) (fun v2 => (asB v2 (fun b3 => (match b3 with | true => ((2 : Nat) = 2 ∧ s_is_tuple_of [v_claim, (PyData.int 4)] (fun v4 => (asB v4 (fun b5 => (W.ite b5 (fun q6 z7 => ((1 : Nat) = 1 ∧ s_is_season_claim [v_claim] (fun v8 => (q6 v8)) z7)) (W.ret (PyData.bool false)) (fun v9 => (q v9)) y)) y)) y) | false => (dIx v_claim (PyData.int 0) (fun v10 => (dCmp .In v10 (PyData.tuple [(PyData.str "dearer"), (PyData.str "as cheap")]) (fun v11 => (asB v11 (fun b12 => (match b12 with | true => ((2 : Nat) = 2 ∧ s_is_tuple_of [v_claim, (PyData.int 4)] (fun v13 => (asB v13 (fun b14 => (W.ite b14 (fun q15 z16 => False) (W.ret (PyData.bool false)) (fun v17 => (q v17)) y)) y)) y) | false => ((2 : Nat) = 2 ∧ s_is_tuple_of [v_claim, (PyData.int 3)] (fun v18 => (asB v18 (fun b19 => (W.ite b19 (fun q20 z21 => False) (W.ret (PyData.bool false)) (fun v22 => (q v22)) y)) y)) y))) y)) y)) y))) y)) y)) y) := by
  refine (congrFun (congrFun (congrFun sq_is_other_claim _) _) _).trans ?_
  kernel_rfl
theorem r_other_judge (v_claim v_paper : PyData) (q : PyData → Prop) (y : Xc → Prop) : s_other_judge [v_claim, v_paper] q y = (dIx v_claim (PyData.int 0) (fun v1 => (dCmp .In v1 (PyData.tuple [(PyData.str "dearer"), (PyData.str "as cheap")]) (fun v2 => (asB v2 (fun b3 => (match b3 with | true => False | false => (dIx v_claim (PyData.int 0) (fun v4 => (dCmp .In v4 (PyData.tuple [(PyData.str "first"), (PyData.str "not first")]) (fun v5 => (asB v5 (fun b6 => (match b6 with | true => (dIx v_claim (PyData.int 0) (fun v7 => (dCmp .Eq v7 (PyData.str "first") (fun v8 => (asB v8 (fun b9 => (W.ite b9 (fun q10 z11 => (q10 (fnD "are_results"))) (fun q12 z13 => (q12 (fnD "is_lot_over"))) (fun v14 => (W.opt (defOf F_27 v14) (fun t15 => (fun q16 z17 => (dIx v_claim (PyData.int 1) (fun v18 => (dIx v_claim (PyData.int 2) (fun v19 => (dIx v_claim (PyData.int 3) (fun v20 => ((4 : Nat) = t15.1 ∧ t15.2 [v18, v19, v20, v_paper] (fun v21 => (q16 v21)) z17)) z17)) z17)) z17))) (fun v22 => (q v22)) y)) y)) y)) y)) y) | false => False)) y)) y)) y))) y)) y)) y) := by
  refine (congrFun (congrFun (congrFun sq_other_judge _) _) _).trans ?_
  kernel_rfl
theorem r_settled_first (v_wins v_left v_team : PyData) (q : PyData → Prop) (y : Xc → Prop) : s_settled_first [v_wins, v_left, v_team] q y = ((3 : Nat) = 3 ∧ s_can_be_first_by [v_wins, v_left, v_team] (fun v1 => (asB v1 (fun b2 => (match b2 with | true => (sizeOk [(PyData.str "first"), v_wins, v_left, v_team] ∧ ((3 : Nat) = 3 ∧ s_results_by [v_wins, v_left, v_team] (fun v3 => (sizeOk [(PyData.tuple [(PyData.str "first"), v_wins, v_left, v_team]), v3] ∧ (q (PyData.tuple [(PyData.tuple [(PyData.str "first"), v_wins, v_left, v_team]), v3])))) y)) | false => (sizeOk [(PyData.str "not first"), v_wins, v_left, v_team] ∧ ((3 : Nat) = 3 ∧ s_lot_over_by [v_wins, v_left, v_team] (fun v4 => (sizeOk [(PyData.tuple [(PyData.str "not first"), v_wins, v_left, v_team]), v4] ∧ (q (PyData.tuple [(PyData.tuple [(PyData.str "not first"), v_wins, v_left, v_team]), v4])))) y)))) y)) y) := by
  refine (congrFun (congrFun (congrFun sq_settled_first _) _) _).trans ?_
  kernel_rfl
theorem r_other_settled (v_claim : PyData) (q : PyData → Prop) (y : Xc → Prop) : s_other_settled [v_claim] q y = (dIx v_claim (PyData.int 0) (fun v1 => (dCmp .In v1 (PyData.tuple [(PyData.str "first"), (PyData.str "not first")]) (fun v2 => (asB v2 (fun b3 => (match b3 with | true => (dIx v_claim (PyData.int 1) (fun v4 => (dIx v_claim (PyData.int 2) (fun v5 => (dIx v_claim (PyData.int 3) (fun v6 => ((3 : Nat) = 3 ∧ s_settled_first [v4, v5, v6] (fun v7 => (q v7)) y)) y)) y)) y) | false => (dIx v_claim (PyData.int 0) (fun v8 => (dCmp .In v8 (PyData.tuple [(PyData.str "dearer"), (PyData.str "as cheap")]) (fun v9 => (asB v9 (fun b10 => (match b10 with | true => False | false => (dIx v_claim (PyData.int 0) (fun v11 => (dCmp .In v11 (PyData.tuple [(PyData.str "chains"), (PyData.str "apart")]) (fun v12 => (asB v12 (fun b13 => (W.ite b13 (fun q14 z15 => False) (fun q16 z17 => False) (fun v18 => (W.opt (defOf F_29 v18) (fun t19 => (fun q20 z21 => (dIx v_claim (PyData.int 1) (fun v22 => (dIx v_claim (PyData.int 2) (fun v23 => ((2 : Nat) = t19.1 ∧ t19.2 [v22, v23] (fun v24 => (q20 v24)) z21)) z21)) z21))) (fun v25 => (q v25)) y)) y)) y)) y)) y))) y)) y)) y))) y)) y)) y) := by
  refine (congrFun (congrFun (congrFun sq_other_settled _) _) _).trans ?_
  kernel_rfl
theorem r_has_claim_word (v_value : PyData) (q : PyData → Prop) (y : Xc → Prop) : s_has_claim_word [v_value] q y = (W.opt (isT "tuple" v_value) (fun b => W.ret (PyData.bool b)) (fun v1 => (asB v1 (fun b2 => (asB (PyData.bool (!b2)) (fun b3 => (W.ite b3 (W.ret (PyData.bool true)) (fun q4 z5 => (sizeOk [] ∧ (dCmp .Eq v_value (PyData.tuple []) (fun v6 => (q4 v6)) z5))) (fun v7 => (asB v7 (fun b8 => (match b8 with | true => (q (PyData.bool false)) | false => (dIx v_value (PyData.int 0) (fun v9 => (W.opt (isT "str" v9) (fun b => W.ret (PyData.bool b)) (fun v10 => (asB v10 (fun b11 => (W.ite b11 (fun q12 z13 => (dIx v_value (PyData.int 0) (fun v14 => (dTabIn .In tab_OPPOSITES v14 (fun v15 => (q12 v15)) z13)) z13)) (W.ret (PyData.bool false)) (fun v16 => (q v16)) y)) y)) y)) y))) y)) y)) y)) y)) y) := by
  refine (congrFun (congrFun (congrFun sq_has_claim_word _) _) _).trans ?_
  kernel_rfl
theorem r_is_claim_by (v_value : PyData) (q : PyData → Prop) (y : Xc → Prop) : s_is_claim_by [v_value] q y = ((1 : Nat) = 1 ∧ s_has_claim_word [v_value] (fun v1 => (asB v1 (fun b2 => (W.ite b2 (fun q3 z4 => (dIx v_value (PyData.int 0) (fun v5 => (dTabIx tab_SUBJECTS v5 (fun v6 => (dIx v6 (PyData.int 0) (fun v7 => (W.opt (defOf F_31 v7) (fun t8 => (fun q9 z10 => ((1 : Nat) = t8.1 ∧ t8.2 [v_value] (fun v11 => (q9 v11)) z10))) (fun v12 => (q3 v12)) z4)) z4)) z4)) z4)) (W.ret (PyData.bool false)) (fun v13 => (q v13)) y)) y)) y) := by
  refine (congrFun (congrFun (congrFun sq_is_claim_by _) _) _).trans ?_
  kernel_rfl
theorem r_opposite_by (v_claim : PyData) (q : PyData → Prop) (y : Xc → Prop) : s_opposite_by [v_claim] q y = (dIx v_claim (PyData.int 0) (fun v1 => (dTabIx tab_OPPOSITES v1 (fun v2 => (dSl v_claim (some (1 : Int)) none (fun v3 => (itemsOf v3 (fun xs4 => (sizeOk (v2 :: (xs4 ++ [])) ∧ (q (PyData.tuple (v2 :: (xs4 ++ [])))))) y)) y)) y)) y) := by
  refine (congrFun (congrFun (congrFun sq_opposite_by _) _) _).trans ?_
  kernel_rfl
theorem r_is_shown (v_claim v_paper : PyData) (q : PyData → Prop) (y : Xc → Prop) : s_is_shown [v_claim, v_paper] q y = (dIx v_claim (PyData.int 0) (fun v1 => (dTabIx tab_SUBJECTS v1 (fun v2 => (dIx v2 (PyData.int 1) (fun v3 => (W.opt (defOf F_33 v3) (fun t4 => (fun q5 z6 => ((2 : Nat) = t4.1 ∧ t4.2 [v_claim, v_paper] (fun v7 => (q5 v7)) z6))) (fun v8 => (q v8)) y)) y)) y)) y) := by
  refine (congrFun (congrFun (congrFun sq_is_shown _) _) _).trans ?_
  kernel_rfl
theorem r_settled_by (v_claim : PyData) (q : PyData → Prop) (y : Xc → Prop) : s_settled_by [v_claim] q y = (dIx v_claim (PyData.int 0) (fun v1 => (dTabIx tab_SUBJECTS v1 (fun v2 => (dIx v2 (PyData.int 2) (fun v3 => (W.opt (defOf F_34 v3) (fun t4 => (fun q5 z6 => ((1 : Nat) = t4.1 ∧ t4.2 [v_claim] (fun v7 => (q5 v7)) z6))) (fun v8 => (q v8)) y)) y)) y)) y) := by
  refine (congrFun (congrFun (congrFun sq_settled_by _) _) _).trans ?_
  kernel_rfl
theorem r_is_claim (v_value : PyData) (q : PyData → Prop) (y : Xc → Prop) : s_is_claim [v_value] q y = ((1 : Nat) = 1 ∧ s_is_claim_by [v_value] (fun v1 => (q v1)) y) := by
  refine (congrFun (congrFun (congrFun sq_is_claim _) _) _).trans ?_
  kernel_rfl
theorem r_check_claim (v_value : PyData) (q : PyData → Prop) (y : Xc → Prop) : s_check_claim [v_value] q y = ((1 : Nat) = 1 ∧ s_is_claim_by [v_value] (fun v1 => (asB v1 (fun b2 => (asB (PyData.bool (!b2)) (fun b3 => (match b3 with | true => False | false => (q PyData.none))) y)) y)) y) := by
  refine (congrFun (congrFun (congrFun sq_check_claim _) _) _).trans ?_
  kernel_rfl
theorem r_opposite (v_claim : PyData) (q : PyData → Prop) (y : Xc → Prop) : s_opposite [v_claim] q y = ((1 : Nat) = 1 ∧ s_check_claim [v_claim] (fun v1 => ((1 : Nat) = 1 ∧ s_opposite_by [v_claim] (fun v2 => (q v2)) y)) y) := by
  refine (congrFun (congrFun (congrFun sq_opposite _) _) _).trans ?_
  kernel_rfl
theorem r_settled (v_claim : PyData) (q : PyData → Prop) (y : Xc → Prop) : s_settled [v_claim] q y = ((1 : Nat) = 1 ∧ s_check_claim [v_claim] (fun v1 => ((1 : Nat) = 1 ∧ s_settled_by [v_claim] (fun v2 => (q v2)) y)) y) := by
  refine (congrFun (congrFun (congrFun sq_settled _) _) _).trans ?_
  kernel_rfl
theorem r_accepts (v_claim v_paper : PyData) (q : PyData → Prop) (y : Xc → Prop) : s_accepts [v_claim, v_paper] q y = ((1 : Nat) = 1 ∧ s_is_claim_by [v_claim] (fun v1 => (asB v1 (fun b2 => (W.ite b2 (fun q3 z4 => ((2 : Nat) = 2 ∧ s_is_shown [v_claim, v_paper] (fun v5 => (q3 v5)) z4)) (W.ret (PyData.bool false)) (fun v6 => (q v6)) y)) y)) y) := by
  refine (congrFun (congrFun (congrFun sq_accepts _) _) _).trans ?_
  kernel_rfl
theorem r__law_pool (v_script v_turn : PyData) (q : PyData → Prop) (y : Xc → Prop) : s__law_pool [v_script, v_turn] q y = (dLen [v_script] (fun v1 => (dCmp .Lt v_turn v1 (fun v2 => (asB v2 (fun b3 => (W.ite b3 (fun q4 z5 => (dIx v_script v_turn (fun v6 => (dInt [v6] (fun v7 => (q4 v7)) z5)) z5)) (fun q8 z9 => (dBin .Mult (PyData.int 70001) v_turn (fun v10 => (dBin .Add v10 (PyData.int 3009) (fun v11 => (q8 v11)) z9)) z9)) (fun v12 => (dBin .Mult (PyData.int 5087) v_turn (fun v13 => (dBin .Add (PyData.int 794940) v13 (fun v14 => (dSl v_script none (some (63 : Int)) (fun v15 => (walkOf v15 (fun xs16 => (forGo (gmOf MD F_40 d__law_pool) (forTg (headS (List.tail d__law_pool.body))) (exSs (exS 39 (gmOf MD F_40 d__law_pool)) (forBd (headS (List.tail d__law_pool.body)))) xs16 [some v_script, some v_turn, none, some v12, some v14] (SK.mk (fun r => exSs (exS 40 (gmOf MD F_40 d__law_pool)) (List.tail (List.tail d__law_pool.body)) r (SK.mk (fun _ => q PyData.none) q (fun _ => False) (fun _ => False) y)) q (fun _ => False) (fun _ => False) y))) y)) y)) y)) y)) y)) y)) y)) y) := by
  refine (congrFun (congrFun (congrFun sq__law_pool _) _) _).trans ?_
  kernel_rfl
theorem rb__law_pool_1 (v_script v_turn v_cell v_own v_stirred : PyData)  (K : SK) : exSs (exS 39 (gmOf MD F_40 d__law_pool)) (forBd (headS (List.tail d__law_pool.body))) [some v_script, some v_turn, some v_cell, some v_own, some v_stirred] K = (dBin .Mult v_stirred (PyData.int 48271) (fun v17 => (dInt [v_cell] (fun v18 => (dBin .Mod v18 (PyData.int 2147483647) (fun v19 => (dBin .Add v17 v19 (fun v20 => (dBin .Add v20 (PyData.int 483) (fun v21 => (dInt [v21] (fun v22 => (dBin .Mod v22 (PyData.int 2147483647) (fun v23 => (K.nx [some v_script, some v_turn, some v_cell, some v_own, some v23])) K.xc)) K.xc)) K.xc)) K.xc)) K.xc)) K.xc)) K.xc) := by
  kernel_rfl
theorem rr__law_pool_1 (v_script v_turn v_own v_stirred : PyData) (o_cell : Option PyData) (K : SK) : exSs (exS 40 (gmOf MD F_40 d__law_pool)) (List.tail (List.tail d__law_pool.body)) [some v_script, some v_turn, o_cell, some v_own, some v_stirred] K = (dBin .Mult v_own (PyData.int 1013) (fun v24 => (dBin .Add v_stirred v24 (fun v25 => (dInt [v25] (fun v26 => (dBin .Mod v26 (PyData.int 2147483647) (fun v27 => (dCmp .Lt v_own (PyData.int 0) (fun v28 => (asB v28 (fun b29 => (W.ite b29 (W.ret (PyData.bool true)) (fun q30 z31 => (dBin .Pow (PyData.int 10) (PyData.int 18) (fun v32 => (dCmp .GtE v_own v32 (fun v33 => (q30 v33)) z31)) z31)) (fun v34 => (asB v34 (fun b35 => (W.ite b35 (fun q36 z37 => (dAbs [v_own] (fun v38 => (q36 v38)) z37)) (fun q39 z40 => (q39 (PyData.int 0))) (fun v41 => (retPool [v27, v41, (PyData.int 0)] K.rt)) K.xc)) K.xc)) K.xc)) K.xc)) K.xc)) K.xc)) K.xc)) K.xc)) K.xc) := by
  kernel_rfl
theorem r__law_draw (v_pool v_many : PyData) (q : PyData → Prop) (y : Xc → Prop) : s__law_draw [v_pool, v_many] q y = (dIx v_pool (PyData.int 1) (fun v1 => (dCmp .Gt v1 (PyData.int 0) (fun v2 => (asB v2 (fun b3 => (match b3 with | true => (dIx v_pool (PyData.int 1) (fun v6 => (dDivmod [v6, v_many] (fun v7 => (match v7 with | .tuple [v4, v5] => (poolSet v_pool 1 v4 (q v5)) | _ => False)) y)) y) | false => (dIx v_pool (PyData.int 2) (fun v8 => (dBin .Add v8 (PyData.int 1) (fun v9 => (poolSet v_pool 2 v9 (dIx v_pool (PyData.int 0) (fun v10 => (dInt [v10] (fun v11 => (dBin .Mod v11 (PyData.int 20011) (fun v12 => (dBin .Add v12 (PyData.int 30011) (fun v13 => (dBin .Mult v11 v13 (fun v14 => (dIx v_pool (PyData.int 2) (fun v15 => (dBin .Mult (PyData.int 70001) v15 (fun v16 => (dBin .Add v14 v16 (fun v17 => (dBin .Add v17 (PyData.int 9) (fun v18 => (dInt [v18] (fun v19 => (dBin .Mod v19 (PyData.int 2147483647) (fun v20 => (poolSet v_pool 0 v20 (dIx v_pool (PyData.int 0) (fun v21 => (dBin .FloorDiv v21 (PyData.int 128) (fun v22 => (dInt [v22] (fun v23 => (dBin .Mod v23 v_many (fun v24 => (q v24)) y)) y)) y)) y))) y)) y)) y)) y)) y)) y)) y)) y)) y)) y)) y))) y)) y))) y)) y)) y) := by
  refine (congrFun (congrFun (congrFun sq__law_draw _) _) _).trans ?_
  kernel_rfl
theorem r__law_pick (v_pool v_some : PyData) (q : PyData → Prop) (y : Xc → Prop) : s__law_pick [v_pool, v_some] q y = (dLen [v_some] (fun v1 => ((2 : Nat) = 2 ∧ s__law_draw [v_pool, v1] (fun v2 => (dIx v_some v2 (fun v3 => (q v3)) y)) y)) y) := by
  refine (congrFun (congrFun (congrFun sq__law_pick _) _) _).trans ?_
  kernel_rfl
theorem r__law_is_num (v_value : PyData) (q : PyData → Prop) (y : Xc → Prop) : s__law_is_num [v_value] q y = (W.opt (isT "int" v_value) (fun b => W.ret (PyData.bool b)) (fun v1 => (asB v1 (fun b2 => (W.ite b2 (fun q3 z4 => (W.opt (isT "bool" v_value) (fun b => W.ret (PyData.bool b)) (fun v5 => (asB v5 (fun b6 => (q3 (PyData.bool (!b6)))) z4)) z4)) (W.ret (PyData.bool false)) (fun v7 => (q v7)) y)) y)) y) := by
  refine (congrFun (congrFun (congrFun sq__law_is_num _) _) _).trans ?_
  kernel_rfl
theorem r__law_is_in (v_value v_low v_high : PyData) (q : PyData → Prop) (y : Xc → Prop) : s__law_is_in [v_value, v_low, v_high] q y = ((1 : Nat) = 1 ∧ s__law_is_num [v_value] (fun v1 => (asB v1 (fun b2 => (W.ite b2 (fun q3 z4 => (dCmp .LtE v_low v_value (fun v5 => (asB v5 (fun b6 => (W.ite b6 (fun q7 z8 => (dCmp .LtE v_value v_high (fun v9 => (q7 v9)) z8)) (W.ret (PyData.bool false)) (fun v10 => (q3 v10)) z4)) z4)) z4)) (W.ret (PyData.bool false)) (fun v11 => (q v11)) y)) y)) y) := by
  refine (congrFun (congrFun (congrFun sq__law_is_in _) _) _).trans ?_
  kernel_rfl
theorem r__law_season (v_pool v_most v_games : PyData) (q : PyData → Prop) (y : Xc → Prop) : s__law_season [v_pool, v_most, v_games] q y = (dBin .Sub v_most (PyData.int 1) (fun v1 => ((2 : Nat) = 2 ∧ s__law_draw [v_pool, v1] (fun v2 => (dBin .Add (PyData.int 2) v2 (fun v3 => (sizeOk [(PyData.int 2), (PyData.int 5), (PyData.int 9)] ∧ ((2 : Nat) = 2 ∧ s__law_pick [v_pool, (PyData.list [(PyData.int 2), (PyData.int 5), (PyData.int 9)])] (fun v4 => (sizeOk [v3, v4] ∧ (match tupOf 2 (PyData.tuple [v3, v4]) with | some ds5 => (rg1 [(ds5.getD 0 PyData.none)] (fun xs6 => (lcGo (fun d7 q8 _ => (dBin .Add (ds5.getD 1 PyData.none) (PyData.int 1) (fun v9 => ((2 : Nat) = 2 ∧ s__law_draw [v_pool, v9] (fun v10 => (sizeOk [(ds5.getD 1 PyData.none), v10] ∧ ((2 : Nat) = 2 ∧ s__law_pick [v_pool, (PyData.list [(ds5.getD 1 PyData.none), v10])] (fun v11 => (q8 (some v11))) (fun _ => False)))) (fun _ => False))) (fun _ => False))) xs6 [] (fun ys12 => (dTuple [(PyData.list ys12)] (fun v13 => (sizeOk [] ∧ (rg1 [(ds5.getD 0 PyData.none)] (fun xs14 => (forGo (gmOf MD F_45 d__law_season) (forTg (headS (List.tail (List.tail (List.tail d__law_season.body))))) (exSs (exS 39 (gmOf MD F_45 d__law_season)) (forBd (headS (List.tail (List.tail (List.tail d__law_season.body)))))) xs14 [some v_pool, some v_most, some v_games, some v13, some (PyData.tuple []), none, some (ds5.getD 0 PyData.none), some (ds5.getD 1 PyData.none), none, none] (SK.mk (fun r => exSs (exS 40 (gmOf MD F_45 d__law_season)) (List.tail (List.tail (List.tail (List.tail d__law_season.body)))) r (SK.mk (fun _ => q PyData.none) q (fun _ => False) (fun _ => False) y)) q (fun _ => False) (fun _ => False) y))) y))) y)) y)) y) | none => False))) y))) y)) y)) y) := by
  refine (congrFun (congrFun (congrFun sq__law_season _) _) _).trans ?_
  kernel_rfl
theorem rb__law_season_1 (v_pool v_most v_games v_wins v_left v_one v_teams v_high : PyData) (o_two o_team : Option PyData) (K : SK) : exSs (exS 39 (gmOf MD F_45 d__law_season)) (forBd (headS (List.tail (List.tail (List.tail d__law_season.body))))) [some v_pool, some v_most, some v_games, some v_wins, some v_left, some v_one, some v_teams, some v_high, o_two, o_team] K = (dBin .Add v_one (PyData.int 1) (fun v15 => (rg2 [v15, v_teams] (fun xs16 => (forGo (gmOf MD F_45 d__law_season) (forTg (headS (forBd (headS (List.tail (List.tail (List.tail d__law_season.body))))))) (exSs (exS 38 (gmOf MD F_45 d__law_season)) (forBd (headS (forBd (headS (List.tail (List.tail (List.tail d__law_season.body)))))))) xs16 [some v_pool, some v_most, some v_games, some v_wins, some v_left, some v_one, some v_teams, some v_high, o_two, o_team] (SK.mk (fun r => exSs (exS 39 (gmOf MD F_45 d__law_season)) (List.tail (forBd (headS (List.tail (List.tail (List.tail d__law_season.body)))))) r K) K.rt K.bk K.ct K.xc))) K.xc)) K.xc) := by
  refine (exSs_ht _ (by kernel_rfl) _ _).trans ?_
  kernel_rfl
theorem rr__law_season_1 (v_pool v_most v_games v_wins v_left v_teams v_high : PyData) (o_one o_two o_team : Option PyData) (K : SK) : exSs (exS 40 (gmOf MD F_45 d__law_season)) (List.tail (List.tail (List.tail (List.tail d__law_season.body)))) [some v_pool, some v_most, some v_games, some v_wins, some v_left, o_one, some v_teams, some v_high, o_two, o_team] K = (sizeOk [v_wins, v_left] ∧ (K.rt (PyData.tuple [v_wins, v_left]))) := by
  kernel_rfl
theorem rb__law_season_2 (v_pool v_most v_games v_wins v_left v_one v_teams v_high v_two : PyData) (o_team : Option PyData) (K : SK) : exSs (exS 38 (gmOf MD F_45 d__law_season)) (forBd (headS (forBd (headS (List.tail (List.tail (List.tail d__law_season.body))))))) [some v_pool, some v_most, some v_games, some v_wins, some v_left, some v_one, some v_teams, some v_high, some v_two, o_team] K = ((2 : Nat) = 2 ∧ s__law_draw [v_pool, (PyData.int 3)] (fun v17 => (dCmp .Gt v17 (PyData.int 0) (fun v18 => (asB v18 (fun b19 => (W.ite b19 (fun q20 z21 => ((2 : Nat) = 2 ∧ s__law_draw [v_pool, v_games] (fun v22 => (dBin .Add (PyData.int 1) v22 (fun v23 => (sizeOk [v_one, v_two, v23] ∧ (sizeOk [(PyData.tuple [v_one, v_two, v23])] ∧ (q20 (PyData.tuple [(PyData.tuple [v_one, v_two, v23])]))))) z21)) z21)) (fun q24 z25 => (sizeOk [] ∧ (q24 (PyData.tuple [])))) (fun v26 => (dBin .Add v_left v26 (fun v27 => (K.nx [some v_pool, some v_most, some v_games, some v_wins, some v27, some v_one, some v_teams, some v_high, some v_two, o_team])) K.xc)) K.xc)) K.xc)) K.xc)) K.xc) := by
  kernel_rfl
theorem r__law_games (v_left v_team : PyData) (q : PyData → Prop) (y : Xc → Prop) : s__law_games [v_left, v_team] q y = (walkOf v_left (fun xs1 => (lcGo (fun d2 q3 _ => ((match tupOf 3 d2 with | some ds6 => (fun (q4 : Option PyData → Prop) (z5 : Xc → Prop) => (sizeOk [(ds6.getD 0 PyData.none), (ds6.getD 1 PyData.none)] ∧ (dCmp .In v_team (PyData.tuple [(ds6.getD 0 PyData.none), (ds6.getD 1 PyData.none)]) (fun v9 => (asB v9 (fun b10 => (W.ite b10 (fun q7 z8 => (q7 (some (ds6.getD 2 PyData.none)))) (W.ret none) q4 z5)) z5)) z5))) | none => W.bad) q3 (fun _ => False))) xs1 [] (fun ys11 => (dSum [(PyData.list ys11)] (fun v12 => (q v12)) y)) y)) y) := by
  refine (congrFun (congrFun (congrFun sq__law_games _) _) _).trans ?_
  kernel_rfl
theorem r__law_groups (v_teams : PyData) (q : PyData → Prop) (y : Xc → Prop) : s__law_groups [v_teams] q y = (sizeOk [] ∧ (sizeOk [(PyData.tuple [])] ∧ (rg1 [v_teams] (fun xs1 => (forGo (gmOf MD F_47 d__law_groups) (forTg (headS (List.tail d__law_groups.body))) (exSs (exS 39 (gmOf MD F_47 d__law_groups)) (forBd (headS (List.tail d__law_groups.body)))) xs1 [some v_teams, some (PyData.list [(PyData.tuple [])]), none, none] (SK.mk (fun r => exSs (exS 40 (gmOf MD F_47 d__law_groups)) (List.tail (List.tail d__law_groups.body)) r (SK.mk (fun _ => q PyData.none) q (fun _ => False) (fun _ => False) y)) q (fun _ => False) (fun _ => False) y))) y))) := by
  refine (congrFun (congrFun (congrFun sq__law_groups _) _) _).trans ?_
  kernel_rfl
theorem rb__law_groups_1 (v_teams v_found v_team : PyData) (o_lot : Option PyData) (K : SK) : exSs (exS 39 (gmOf MD F_47 d__law_groups)) (forBd (headS (List.tail d__law_groups.body))) [some v_teams, some v_found, some v_team, o_lot] K = (walkOf v_found (fun xs2 => (lcGo (fun d3 q4 _ => (sizeOk [v_team] ∧ (dBin .Add d3 (PyData.tuple [v_team]) (fun v5 => (q4 (some v5))) (fun _ => False)))) xs2 [] (fun ys6 => (dBin .Add v_found (PyData.list ys6) (fun v7 => (K.nx [some v_teams, some v7, some v_team, o_lot])) K.xc)) K.xc)) K.xc) := by
  kernel_rfl
theorem rr__law_groups_1 (v_teams v_found : PyData) (o_team o_lot : Option PyData) (K : SK) : exSs (exS 40 (gmOf MD F_47 d__law_groups)) (List.tail (List.tail d__law_groups.body)) [some v_teams, some v_found, o_team, o_lot] K = (dSorted [v_found] (fun v8 => (dSl v8 (some (1 : Int)) none (fun v9 => (K.rt v9)) K.xc)) K.xc) := by
  kernel_rfl
theorem r__law_over (v_wins v_left v_team : PyData) (q : PyData → Prop) (y : Xc → Prop) : s__law_over [v_wins, v_left, v_team] q y = (dIx v_wins v_team (fun v1 => ((2 : Nat) = 2 ∧ s__law_games [v_left, v_team] (fun v2 => (dBin .Add v1 v2 (fun v3 => (dLen [v_wins] (fun v4 => ((1 : Nat) = 1 ∧ s__law_groups [v4] (fun v5 => (walkOf v5 (fun xs6 => (forGo (gmOf MD F_48 d__law_over) (forTg (headS (List.tail d__law_over.body))) (exSs (exS 39 (gmOf MD F_48 d__law_over)) (forBd (headS (List.tail d__law_over.body)))) xs6 [some v_wins, some v_left, some v_team, some v3, none, none, none, none, none, none] (SK.mk (fun r => exSs (exS 40 (gmOf MD F_48 d__law_over)) (List.tail (List.tail d__law_over.body)) r (SK.mk (fun _ => q PyData.none) q (fun _ => False) (fun _ => False) y)) q (fun _ => False) (fun _ => False) y))) y)) y)) y)) y)) y)) y) := by
  refine (congrFun (congrFun (congrFun sq__law_over _) _) _).trans ?_
  kernel_rfl
theorem rb__law_over_1 (v_wins v_left v_team v_most v_lot : PyData) (o_among o_one o_two o_many o_other : Option PyData) (K : SK) : exSs (exS 39 (gmOf MD F_48 d__law_over)) (forBd (headS (List.tail d__law_over.body))) [some v_wins, some v_left, some v_team, some v_most, some v_lot, o_among, o_one, o_two, o_many, o_other] K = (walkOf v_left (fun xs7 => (lcGo (fun d8 q9 _ => ((match tupOf 3 d8 with | some ds12 => (fun (q10 : Option PyData → Prop) (z11 : Xc → Prop) => (dCmp .In (ds12.getD 0 PyData.none) v_lot (fun v15 => (asB v15 (fun b16 => (W.ite b16 (fun q17 z18 => (dCmp .In (ds12.getD 1 PyData.none) v_lot (fun v19 => (q17 v19)) z18)) (W.ret (PyData.bool false)) (fun v20 => (asB v20 (fun b21 => (W.ite b21 (fun q13 z14 => (q13 (some (ds12.getD 2 PyData.none)))) (W.ret none) q10 z11)) z11)) z11)) z11)) z11)) | none => W.bad) q9 (fun _ => False))) xs7 [] (fun ys22 => (dSum [(PyData.list ys22)] (fun v23 => (dCmp .NotIn v_team v_lot (fun v24 => (asB v24 (fun b25 => (W.ite b25 (fun q26 z27 => (walkOf v_lot (fun xs28 => (lcGo (fun d29 q30 _ => (dIx v_wins d29 (fun v31 => (q30 (some v31))) (fun _ => False))) xs28 [] (fun ys32 => (dSum [(PyData.list ys32)] (fun v33 => (dBin .Add v33 v23 (fun v34 => (dLen [v_lot] (fun v35 => (dBin .Mult v35 v_most (fun v36 => (dCmp .Gt v34 v36 (fun v37 => (q26 v37)) z27)) z27)) z27)) z27)) z27)) z27)) z27)) (W.ret (PyData.bool false)) (fun v38 => (asB v38 (fun b39 => (match b39 with | true => (K.rt v_lot) | false => (K.nx [some v_wins, some v_left, some v_team, some v_most, some v_lot, some v23, o_one, o_two, o_many, o_other]))) K.xc)) K.xc)) K.xc)) K.xc)) K.xc)) K.xc)) K.xc) := by
  kernel_rfl
theorem rr__law_over_1 (v_wins v_left v_team v_most : PyData) (o_lot o_among o_one o_two o_many o_other : Option PyData) (K : SK) : exSs (exS 40 (gmOf MD F_48 d__law_over)) (List.tail (List.tail d__law_over.body)) [some v_wins, some v_left, some v_team, some v_most, o_lot, o_among, o_one, o_two, o_many, o_other] K = (K.rt PyData.none) := by
  kernel_rfl
theorem r__law_are_results (v_wins v_left v_team v_value : PyData) (q : PyData → Prop) (y : Xc → Prop) : s__law_are_results [v_wins, v_left, v_team, v_value] q y = (W.opt (isT "tuple" v_value) (fun b => W.ret (PyData.bool b)) (fun v1 => (asB v1 (fun b2 => (asB (PyData.bool (!b2)) (fun b3 => (W.ite b3 (W.ret (PyData.bool true)) (fun q4 z5 => (dLen [v_value] (fun v6 => (dLen [v_left] (fun v7 => (dCmp .NotEq v6 v7 (fun v8 => (q4 v8)) z5)) z5)) z5)) (fun v9 => (asB v9 (fun b10 => (match b10 with | true => (q (PyData.bool false)) | false => (itemsOf v_wins (fun xs11 => (dLen [v_left] (fun v12 => (rg1 [v12] (fun xs13 => (forGo (gmOf MD F_49 d__law_are_results) (forTg (headS (List.tail (List.tail d__law_are_results.body)))) (exSs (exS 39 (gmOf MD F_49 d__law_are_results)) (forBd (headS (List.tail (List.tail d__law_are_results.body))))) xs13 [some v_wins, some v_left, some v_team, some v_value, some (PyData.list xs11), none, none, none, none, none, none] (SK.mk (fun r => exSs (exS 40 (gmOf MD F_49 d__law_are_results)) (List.tail (List.tail (List.tail d__law_are_results.body))) r (SK.mk (fun _ => q PyData.none) q (fun _ => False) (fun _ => False) y)) q (fun _ => False) (fun _ => False) y))) y)) y)) y))) y)) y)) y)) y)) y) := by
  refine (congrFun (congrFun (congrFun sq__law_are_results _) _) _).trans ?_
  kernel_rfl
theorem rb__law_are_results_1 (v_wins v_left v_team v_value v_whole v_k : PyData) (o_each o_one o_two o_many o_some : Option PyData) (K : SK) : exSs (exS 39 (gmOf MD F_49 d__law_are_results)) (forBd (headS (List.tail (List.tail d__law_are_results.body)))) [some v_wins, some v_left, some v_team, some v_value, some v_whole, some v_k, o_each, o_one, o_two, o_many, o_some] K = (dIx v_left v_k (fun v14 => (match tupOf 3 v14 with | some ds15 => (dIx v_value v_k (fun v16 => (W.opt (isT "tuple" v16) (fun b => W.ret (PyData.bool b)) (fun v17 => (asB v17 (fun b18 => (asB (PyData.bool (!b18)) (fun b19 => (W.ite b19 (W.ret (PyData.bool true)) (fun q20 z21 => (dLen [v16] (fun v22 => (dCmp .NotEq v22 (PyData.int 2) (fun v23 => (asB v23 (fun b24 => (W.ite b24 (W.ret (PyData.bool true)) (fun q25 z26 => (walkOf v16 (fun xs27 => (lcGo (fun d28 q29 _ => ((3 : Nat) = 3 ∧ s__law_is_in [d28, (PyData.int 0), (ds15.getD 2 PyData.none)] (fun v30 => (q29 (some v30))) (fun _ => False))) xs27 [] (fun ys31 => (dCmp .In (PyData.bool false) (PyData.list ys31) (fun v32 => (asB v32 (fun b33 => (W.ite b33 (W.ret (PyData.bool true)) (fun q34 z35 => (dSum [v16] (fun v36 => (dCmp .NotEq v36 (ds15.getD 2 PyData.none) (fun v37 => (q34 v37)) z35)) z35)) (fun v38 => (q25 v38)) z26)) z26)) z26)) z26)) z26)) (fun v39 => (q20 v39)) z21)) z21)) z21)) z21)) (fun v40 => (asB v40 (fun b41 => (match b41 with | true => (K.rt (PyData.bool false)) | false => (dIx v_whole (ds15.getD 0 PyData.none) (fun v42 => (dIx v16 (PyData.int 0) (fun v43 => (dBin .Add v42 v43 (fun v44 => (dIx v_whole (ds15.getD 1 PyData.none) (fun v45 => (dIx v16 (PyData.int 1) (fun v46 => (dBin .Add v45 v46 (fun v47 => (isAtom v44 = true ∧ isAtom v47 = true ∧ (asL v_whole (fun ds48 => (ownSet (ds15.getD 0 PyData.none) v44 ds48 (fun es49 => (asL (PyData.list es49) (fun ds50 => (ownSet (ds15.getD 1 PyData.none) v47 ds50 (fun es51 => (K.nx [some v_wins, some v_left, some v_team, some v_value, some (PyData.list es51), some v_k, some v16, some (ds15.getD 0 PyData.none), some (ds15.getD 1 PyData.none), some (ds15.getD 2 PyData.none), o_some]))))))))))) K.xc)) K.xc)) K.xc)) K.xc)) K.xc)) K.xc))) K.xc)) K.xc)) K.xc)) K.xc)) K.xc)) K.xc) | none => False)) K.xc) := by
  kernel_rfl
theorem rr__law_are_results_1 (v_wins v_left v_team v_value v_whole : PyData) (o_k o_each o_one o_two o_many o_some : Option PyData) (K : SK) : exSs (exS 40 (gmOf MD F_49 d__law_are_results)) (List.tail (List.tail (List.tail d__law_are_results.body))) [some v_wins, some v_left, some v_team, some v_value, some v_whole, o_k, o_each, o_one, o_two, o_many, o_some] K = (dMax [v_whole] (fun v52 => (dIx v_whole v_team (fun v53 => (dCmp .Eq v52 v53 (fun v54 => (K.rt v54)) K.xc)) K.xc)) K.xc) := by
  kernel_rfl
theorem r__law_is_over (v_wins v_left v_team v_value : PyData) (q : PyData → Prop) (y : Xc → Prop) : s__law_is_over [v_wins, v_left, v_team, v_value] q y = (W.opt (isT "tuple" v_value) (fun b => W.ret (PyData.bool b)) (fun v1 => (asB v1 (fun b2 => (asB (PyData.bool (!b2)) (fun b3 => (W.ite b3 (W.ret (PyData.bool true)) (fun q4 z5 => (sizeOk [] ∧ (dCmp .Eq v_value (PyData.tuple []) (fun v6 => (asB v6 (fun b7 => (W.ite b7 (W.ret (PyData.bool true)) (fun q8 z9 => (walkOf v_value (fun xs10 => (lcGo (fun d11 q12 _ => (dLen [v_wins] (fun v13 => (dBin .Sub v13 (PyData.int 1) (fun v14 => ((3 : Nat) = 3 ∧ s__law_is_in [d11, (PyData.int 0), v14] (fun v15 => (asB v15 (fun b16 => (W.ite b16 (fun q17 z18 => (dCmp .NotEq d11 v_team (fun v19 => (q17 v19)) z18)) (W.ret (PyData.bool false)) (fun v20 => (q12 (some v20))) (fun _ => False))) (fun _ => False))) (fun _ => False))) (fun _ => False))) (fun _ => False))) xs10 [] (fun ys21 => (dCmp .In (PyData.bool false) (PyData.list ys21) (fun v22 => (q8 v22)) z9)) z9)) z9)) (fun v23 => (q4 v23)) z5)) z5)) z5))) (fun v24 => (asB v24 (fun b25 => (match b25 with | true => (q (PyData.bool false)) | false => (dLen [v_value] (fun v26 => (rg2 [(PyData.int 1), v26] (fun xs27 => (lcGo (fun d28 q29 _ => (dIx v_value d28 (fun v32 => (dBin .Sub d28 (PyData.int 1) (fun v33 => (dIx v_value v33 (fun v34 => (dCmp .LtE v32 v34 (fun v35 => (asB v35 (fun b36 => (W.ite b36 (fun q30 z31 => (q30 (some d28))) (W.ret none) q29 (fun _ => False))) (fun _ => False))) (fun _ => False))) (fun _ => False))) (fun _ => False))) (fun _ => False))) xs27 [] (fun ys37 => (sizeOk [] ∧ (dCmp .NotEq (PyData.list ys37) (PyData.list []) (fun v38 => (asB v38 (fun b39 => (match b39 with | true => (q (PyData.bool false)) | false => (walkOf v_left (fun xs40 => (lcGo (fun d41 q42 _ => ((match tupOf 3 d41 with | some ds45 => (fun (q43 : Option PyData → Prop) (z44 : Xc → Prop) => (dCmp .In (ds45.getD 0 PyData.none) v_value (fun v48 => (asB v48 (fun b49 => (W.ite b49 (fun q50 z51 => (dCmp .In (ds45.getD 1 PyData.none) v_value (fun v52 => (q50 v52)) z51)) (W.ret (PyData.bool false)) (fun v53 => (asB v53 (fun b54 => (W.ite b54 (fun q46 z47 => (q46 (some (ds45.getD 2 PyData.none)))) (W.ret none) q43 z44)) z44)) z44)) z44)) z44)) | none => W.bad) q42 (fun _ => False))) xs40 [] (fun ys55 => (dSum [(PyData.list ys55)] (fun v56 => (walkOf v_value (fun xs57 => (lcGo (fun d58 q59 _ => (dIx v_wins d58 (fun v60 => (q59 (some v60))) (fun _ => False))) xs57 [] (fun ys61 => (dSum [(PyData.list ys61)] (fun v62 => (dBin .Add v62 v56 (fun v63 => (dLen [v_value] (fun v64 => (dIx v_wins v_team (fun v65 => ((2 : Nat) = 2 ∧ s__law_games [v_left, v_team] (fun v66 => (dBin .Add v65 v66 (fun v67 => (dBin .Mult v64 v67 (fun v68 => (dCmp .Gt v63 v68 (fun v69 => (q v69)) y)) y)) y)) y)) y)) y)) y)) y)) y)) y)) y)) y)) y))) y)) y))) y)) y)) y))) y)) y)) y)) y)) y) := by
  refine (congrFun (congrFun (congrFun sq__law_is_over _) _) _).trans ?_
  kernel_rfl
theorem r__law_near (v_pool v_wins v_left v_paper : PyData) (q : PyData → Prop) (y : Xc → Prop) : s__law_near [v_pool, v_wins, v_left, v_paper] q y = (sizeOk [] ∧ (sizeOk [] ∧ (sizeOk [(PyData.int 0)] ∧ (dLen [v_wins] (fun v1 => (dRg "tuple" [v1] (fun v2 => (dLen [v_wins] (fun v3 => (sizeOk [v3] ∧ (sizeOk [(PyData.bool true)] ∧ (walkOf v_left (fun xs4 => (lcGo (fun d5 q6 _ => ((match tupOf 3 d5 with | some ds9 => (fun (q7 : Option PyData → Prop) (z8 : Xc → Prop) => (sizeOk [(PyData.int 0), (ds9.getD 2 PyData.none)] ∧ (q7 (some (PyData.tuple [(PyData.int 0), (ds9.getD 2 PyData.none)]))))) | none => W.bad) q6 (fun _ => False))) xs4 [] (fun ys10 => (dTuple [(PyData.list ys10)] (fun v11 => (walkOf v_left (fun xs12 => (lcGo (fun d13 q14 _ => ((match tupOf 3 d13 with | some ds17 => (fun (q15 : Option PyData → Prop) (z16 : Xc → Prop) => (sizeOk [(ds17.getD 2 PyData.none), (PyData.int 0)] ∧ (q15 (some (PyData.tuple [(ds17.getD 2 PyData.none), (PyData.int 0)]))))) | none => W.bad) q14 (fun _ => False))) xs12 [] (fun ys18 => (dTuple [(PyData.list ys18)] (fun v19 => (sizeOk [v_paper, (PyData.tuple []), PyData.none, (PyData.int 0), (PyData.str "first"), (PyData.list []), (PyData.dict []), (PyData.tuple [(PyData.int 0)]), v2, (PyData.tuple [v3]), (PyData.tuple [(PyData.bool true)]), v11, v19] ∧ (rg1 [(PyData.int 3)] (fun xs20 => (lcGo (fun d21 q22 _ => (dLen [v_wins] (fun v23 => ((1 : Nat) = 1 ∧ s__law_groups [v23] (fun v24 => ((2 : Nat) = 2 ∧ s__law_pick [v_pool, v24] (fun v25 => (q22 (some v25))) (fun _ => False))) (fun _ => False))) (fun _ => False))) xs20 [] (fun ys26 => (dBin .Add (PyData.list [v_paper, (PyData.tuple []), PyData.none, (PyData.int 0), (PyData.str "first"), (PyData.list []), (PyData.dict []), (PyData.tuple [(PyData.int 0)]), v2, (PyData.tuple [v3]), (PyData.tuple [(PyData.bool true)]), v11, v19]) (PyData.list ys26) (fun v27 => (W.opt (isT "tuple" v_paper) (fun b => W.ret (PyData.bool b)) (fun v28 => (asB v28 (fun b29 => (W.ite b29 (fun q30 z31 => (sizeOk [] ∧ (dCmp .NotEq v_paper (PyData.tuple []) (fun v32 => (q30 v32)) z31))) (W.ret (PyData.bool false)) (fun v33 => (asB v33 (fun b34 => (match b34 with | true => (dLen [v_paper] (fun v35 => ((2 : Nat) = 2 ∧ s__law_draw [v_pool, v35] (fun v36 => (dList [v_paper] (fun v37 => (dSl v_paper (some (1 : Int)) none (fun v38 => (asI (PyData.int (-1)) (fun i39 => (dSl v_paper (some i39) none (fun v40 => (dBin .Add v_paper v40 (fun v41 => (dRev v_paper (fun v42 => (sizeOk [v37, v38, v41, v42] ∧ (dBin .Add v27 (PyData.list [v37, v38, v41, v42]) (fun v43 => (dIx v_paper v36 (fun v44 => (W.opt (isT "tuple" v44) (fun b => W.ret (PyData.bool b)) (fun v45 => (asB v45 (fun b46 => (match b46 with | true => (dIx v_paper v36 (fun v47 => (match tupOf 2 v47 with | some ds48 => (sizeOk [(ds48.getD 1 PyData.none), (ds48.getD 0 PyData.none)] ∧ (dBin .Add (ds48.getD 0 PyData.none) (PyData.int 1) (fun v49 => (sizeOk [v49, (ds48.getD 1 PyData.none)] ∧ (dBin .Add (ds48.getD 0 PyData.none) (PyData.int 1) (fun v50 => (dBin .Sub (ds48.getD 1 PyData.none) (PyData.int 1) (fun v51 => (sizeOk [v50, v51] ∧ (dBin .Sub (ds48.getD 0 PyData.none) (PyData.int 1) (fun v52 => (dBin .Add (ds48.getD 1 PyData.none) (PyData.int 1) (fun v53 => (sizeOk [v52, v53] ∧ (sizeOk [(ds48.getD 0 PyData.none), (ds48.getD 1 PyData.none)] ∧ (sizeOk [(ds48.getD 0 PyData.none)] ∧ (sizeOk [PyData.none, (ds48.getD 1 PyData.none)] ∧ (dCmp .Eq (ds48.getD 0 PyData.none) (PyData.int 1) (fun v54 => (sizeOk [v54, (ds48.getD 1 PyData.none)] ∧ (sizeOk [(PyData.tuple [(ds48.getD 1 PyData.none), (ds48.getD 0 PyData.none)]), (PyData.tuple [v49, (ds48.getD 1 PyData.none)]), (PyData.tuple [v50, v51]), (PyData.tuple [v52, v53]), (PyData.list [(ds48.getD 0 PyData.none), (ds48.getD 1 PyData.none)]), (PyData.tuple [(ds48.getD 0 PyData.none)]), (PyData.tuple [PyData.none, (ds48.getD 1 PyData.none)]), (PyData.tuple [v54, (ds48.getD 1 PyData.none)])] ∧ (walkOf (PyData.list [(PyData.tuple [(ds48.getD 1 PyData.none), (ds48.getD 0 PyData.none)]), (PyData.tuple [v49, (ds48.getD 1 PyData.none)]), (PyData.tuple [v50, v51]), (PyData.tuple [v52, v53]), (PyData.list [(ds48.getD 0 PyData.none), (ds48.getD 1 PyData.none)]), (PyData.tuple [(ds48.getD 0 PyData.none)]), (PyData.tuple [PyData.none, (ds48.getD 1 PyData.none)]), (PyData.tuple [v54, (ds48.getD 1 PyData.none)])]) (fun xs55 => (lcGo (fun d56 q57 _ => (asI v36 (fun i58 => (dSl v_paper none (some i58) (fun v59 => (sizeOk [d56] ∧ (dBin .Add v59 (PyData.tuple [d56]) (fun v60 => (dBin .Add v36 (PyData.int 1) (fun v61 => (asI v61 (fun i62 => (dSl v_paper (some i62) none (fun v63 => (dBin .Add v60 v63 (fun v64 => (q57 (some v64))) (fun _ => False))) (fun _ => False))) (fun _ => False))) (fun _ => False))) (fun _ => False)))) (fun _ => False))) (fun _ => False))) xs55 [] (fun ys65 => (dBin .Add v43 (PyData.list ys65) (fun v66 => (q v66)) y)) y)) y)))) y)))))) y)) y))) y)) y))) y)) | none => False)) y) | false => (q v43))) y)) y)) y)) y))) y)) y)) y)) y)) y)) y)) y)) y) | false => (q v27))) y)) y)) y)) y)) y)) y)) y))) y)) y)) y)) y)) y)) y)))) y)) y)) y)))) := by
  refine (congrFun (congrFun (congrFun sq__law_near _) _) _).trans ?_
  kernel_rfl
theorem r__law_team_right (v_pool v_wins v_left v_team : PyData) (q : PyData → Prop) (y : Xc → Prop) : s__law_team_right [v_pool, v_wins, v_left, v_team] q y = (sizeOk [(PyData.str "first"), v_wins, v_left, v_team] ∧ (sizeOk [(PyData.str "not first"), v_wins, v_left, v_team] ∧ (sizeOk [(PyData.tuple [(PyData.str "first"), v_wins, v_left, v_team]), (PyData.tuple [(PyData.str "not first"), v_wins, v_left, v_team])] ∧ ((3 : Nat) = 3 ∧ s__law_over [v_wins, v_left, v_team] (fun v1 => (dCmp .Is v1 PyData.none (fun v2 => (asB v2 (fun b3 => (W.ite b3 (fun q4 z5 => (q4 (PyData.int 0))) (fun q6 z7 => (q6 (PyData.int 1))) (fun v8 => (walkOf (PyData.list [(PyData.tuple [(PyData.str "first"), v_wins, v_left, v_team]), (PyData.tuple [(PyData.str "not first"), v_wins, v_left, v_team])]) (fun xs9 => (forGo (gmOf MD F_52 d__law_team_right) (forTg (headS (List.tail (List.tail d__law_team_right.body)))) (exSs (exS 39 (gmOf MD F_52 d__law_team_right)) (forBd (headS (List.tail (List.tail d__law_team_right.body))))) xs9 [some v_pool, some v_wins, some v_left, some v_team, some (PyData.list [(PyData.tuple [(PyData.str "first"), v_wins, v_left, v_team]), (PyData.tuple [(PyData.str "not first"), v_wins, v_left, v_team])]), some v8, none, none, none, none, none, none] (SK.mk (fun r => exSs (exS 40 (gmOf MD F_52 d__law_team_right)) (List.tail (List.tail (List.tail d__law_team_right.body))) r (SK.mk (fun _ => q PyData.none) q (fun _ => False) (fun _ => False) y)) q (fun _ => False) (fun _ => False) y))) y)) y)) y)) y)) y)))) := by
  refine (congrFun (congrFun (congrFun sq__law_team_right _) _) _).trans ?_
  kernel_rfl
theorem rb__law_team_right_1 (v_pool v_wins v_left v_team v_claims v_at v_asked : PyData) (o_paper o_bad o_told o_dues o_claim : Option PyData) (K : SK) : exSs (exS 39 (gmOf MD F_52 d__law_team_right)) (forBd (headS (List.tail (List.tail d__law_team_right.body)))) [some v_pool, some v_wins, some v_left, some v_team, some v_claims, some v_at, some v_asked, o_paper, o_bad, o_told, o_dues, o_claim] K = ((2 : Nat) = 2 ∧ s__law_draw [v_pool, (PyData.int 2)] (fun v10 => (dCmp .Eq v10 (PyData.int 0) (fun v11 => (asB v11 (fun b12 => (W.ite b12 (fun q13 z14 => ((1 : Nat) = 1 ∧ s_settled [v_asked] (fun v15 => (q13 v15)) z14)) (fun q16 z17 => ((0 : Nat) = 0 ∧ (((1 : Nat) = 1 ∧ (1 : Nat) = 1) ∧ s_settled [v_asked] (fun v18 => (q16 v18)) z17))) (fun v19 => (W.opt (isT "tuple" v19) (fun b => W.ret (PyData.bool b)) (fun v20 => (asB v20 (fun b21 => (asB (PyData.bool (!b21)) (fun b22 => (W.ite b22 (W.ret (PyData.bool true)) (fun q23 z24 => (dLen [v19] (fun v25 => (dCmp .NotEq v25 (PyData.int 2) (fun v26 => (asB v26 (fun b27 => (W.ite b27 (W.ret (PyData.bool true)) (fun q28 z29 => (dIx v19 (PyData.int 0) (fun v30 => (dRepr [v30] (fun v31 => (dIx v_claims v_at (fun v32 => (dRepr [v32] (fun v33 => (dCmp .NotEq v31 v33 (fun v34 => (asB v34 (fun b35 => (W.ite b35 (W.ret (PyData.bool true)) (fun q36 z37 => (dIx v19 (PyData.int 0) (fun v38 => (dIx v19 (PyData.int 1) (fun v39 => ((2 : Nat) = 2 ∧ s_accepts [v38, v39] (fun v40 => (dCmp .IsNot v40 (PyData.bool true) (fun v41 => (q36 v41)) z37)) z37)) z37)) z37)) (fun v42 => (q28 v42)) z29)) z29)) z29)) z29)) z29)) z29)) z29)) (fun v43 => (q23 v43)) z24)) z24)) z24)) z24)) (fun v44 => (asB v44 (fun b45 => (match b45 with | true => (K.rt (PyData.bool false)) | false => (K.nx [some v_pool, some v_wins, some v_left, some v_team, some v_claims, some v_at, some v_asked, o_paper, o_bad, some v19, o_dues, o_claim]))) K.xc)) K.xc)) K.xc)) K.xc)) K.xc)) K.xc)) K.xc)) K.xc)) K.xc) := by
  kernel_rfl
theorem rr__law_team_right_1 (v_pool v_wins v_left v_team v_claims v_at v_told : PyData) (o_asked o_paper o_bad o_dues o_claim : Option PyData) (K : SK) : exSs (exS 40 (gmOf MD F_52 d__law_team_right)) (List.tail (List.tail (List.tail d__law_team_right.body))) [some v_pool, some v_wins, some v_left, some v_team, some v_claims, some v_at, o_asked, o_paper, o_bad, some v_told, o_dues, o_claim] K = (dIx v_told (PyData.int 1) (fun v46 => ((4 : Nat) = 4 ∧ s__law_near [v_pool, v_wins, v_left, v46] (fun v47 => (walkOf v47 (fun xs48 => (forGo (gmOf MD F_52 d__law_team_right) (forTg (headS (List.tail (List.tail (List.tail d__law_team_right.body))))) (exSs (exS 39 (gmOf MD F_52 d__law_team_right)) (forBd (headS (List.tail (List.tail (List.tail d__law_team_right.body)))))) xs48 [some v_pool, some v_wins, some v_left, some v_team, some v_claims, some v_at, o_asked, o_paper, o_bad, some v_told, o_dues, o_claim] (SK.mk (fun r => exSs (exS 40 (gmOf MD F_52 d__law_team_right)) (List.tail (List.tail (List.tail (List.tail d__law_team_right.body)))) r K) K.rt K.bk K.ct K.xc))) K.xc)) K.xc)) K.xc) := by
  refine (exSs_ht _ (by kernel_rfl) _ _).trans ?_
  kernel_rfl
theorem rb__law_team_right_2 (v_pool v_wins v_left v_team v_claims v_at v_paper v_told : PyData) (o_asked o_bad o_dues o_claim : Option PyData) (K : SK) : exSs (exS 39 (gmOf MD F_52 d__law_team_right)) (forBd (headS (List.tail (List.tail (List.tail d__law_team_right.body))))) [some v_pool, some v_wins, some v_left, some v_team, some v_claims, some v_at, o_asked, some v_paper, o_bad, some v_told, o_dues, o_claim] K = ((4 : Nat) = 4 ∧ s__law_are_results [v_wins, v_left, v_team, v_paper] (fun v49 => ((4 : Nat) = 4 ∧ s__law_is_over [v_wins, v_left, v_team, v_paper] (fun v50 => (sizeOk [v49, v50] ∧ (dIx v_claims (PyData.int 0) (fun v51 => ((2 : Nat) = 2 ∧ s_accepts [v51, v_paper] (fun v52 => ((0 : Nat) = 0 ∧ (dIx v_claims (PyData.int 1) (fun v53 => (((2 : Nat) = 2 ∧ (2 : Nat) = 2) ∧ s_accepts [v53, v_paper] (fun v54 => (sizeOk [v52, v54] ∧ (dRepr [(PyData.list [v52, v54])] (fun v55 => (dRepr [(PyData.list [v49, v50])] (fun v56 => (dCmp .NotEq v55 v56 (fun v57 => (asB v57 (fun b58 => (W.ite b58 (W.ret (PyData.bool true)) (fun q59 z60 => (sizeOk [(PyData.bool true), (PyData.bool true)] ∧ (dCmp .Eq (PyData.list [v49, v50]) (PyData.list [(PyData.bool true), (PyData.bool true)]) (fun v61 => (q59 v61)) z60))) (fun v62 => (asB v62 (fun b63 => (match b63 with | true => (K.rt (PyData.bool false)) | false => (K.nx [some v_pool, some v_wins, some v_left, some v_team, some v_claims, some v_at, o_asked, some v_paper, o_bad, some v_told, some (PyData.list [v49, v50]), o_claim]))) K.xc)) K.xc)) K.xc)) K.xc)) K.xc)) K.xc))) K.xc)) K.xc))) K.xc)) K.xc))) K.xc)) K.xc) := by
  kernel_rfl
theorem rr__law_team_right_2 (v_pool v_wins v_left v_team v_claims v_at v_told : PyData) (o_asked o_paper o_bad o_dues o_claim : Option PyData) (K : SK) : exSs (exS 40 (gmOf MD F_52 d__law_team_right)) (List.tail (List.tail (List.tail (List.tail d__law_team_right.body)))) [some v_pool, some v_wins, some v_left, some v_team, some v_claims, some v_at, o_asked, o_paper, o_bad, some v_told, o_dues, o_claim] K = (dIx v_claims (PyData.int 0) (fun v64 => (dSl v64 none (some (3 : Int)) (fun v65 => (dIx v_claims (PyData.int 0) (fun v66 => (sizeOk [] ∧ (sizeOk [(PyData.tuple [])] ∧ (dBin .Add v66 (PyData.tuple [(PyData.tuple [])]) (fun v67 => (dIx v_claims (PyData.int 0) (fun v68 => (dList [v68] (fun v69 => (sizeOk [(PyData.str "last")] ∧ (dIx v_claims (PyData.int 0) (fun v70 => (dSl v70 (some (1 : Int)) none (fun v71 => (dBin .Add (PyData.tuple [(PyData.str "last")]) v71 (fun v72 => (dLen [v_wins] (fun v73 => (sizeOk [(PyData.str "first"), v_wins, v_left, v73] ∧ (sizeOk [(PyData.str "first"), v_wins, v_left, (PyData.bool true)] ∧ (dSl v_wins none (some (1 : Int)) (fun v74 => (sizeOk [(PyData.str "not first"), v74, v_left, v_team] ∧ (sizeOk [v65, v67, v69, v72, (PyData.tuple [(PyData.str "first"), v_wins, v_left, v73]), (PyData.tuple [(PyData.str "first"), v_wins, v_left, (PyData.bool true)]), (PyData.tuple [(PyData.str "not first"), v74, v_left, v_team])] ∧ (sizeOk [(PyData.int 1), (PyData.int 0), (PyData.int 1)] ∧ (sizeOk [(PyData.tuple [(PyData.int 1), (PyData.int 0), (PyData.int 1)])] ∧ (dBin .Add v_left (PyData.tuple [(PyData.tuple [(PyData.int 1), (PyData.int 0), (PyData.int 1)])]) (fun v75 => (sizeOk [(PyData.str "first"), v_wins, v75, v_team] ∧ (dList [v_wins] (fun v76 => (sizeOk [(PyData.str "first"), v76, v_left, v_team] ∧ (sizeOk [(PyData.str "not first"), v_wins, PyData.none, v_team] ∧ (sizeOk [(PyData.tuple [(PyData.str "first"), v_wins, v75, v_team]), (PyData.tuple [(PyData.str "first"), v76, v_left, v_team]), (PyData.tuple [(PyData.str "not first"), v_wins, PyData.none, v_team])] ∧ (dBin .Add (PyData.list [v65, v67, v69, v72, (PyData.tuple [(PyData.str "first"), v_wins, v_left, v73]), (PyData.tuple [(PyData.str "first"), v_wins, v_left, (PyData.bool true)]), (PyData.tuple [(PyData.str "not first"), v74, v_left, v_team])]) (PyData.list [(PyData.tuple [(PyData.str "first"), v_wins, v75, v_team]), (PyData.tuple [(PyData.str "first"), v76, v_left, v_team]), (PyData.tuple [(PyData.str "not first"), v_wins, PyData.none, v_team])]) (fun v77 => (walkOf v77 (fun xs78 => (lcGo (fun d79 q80 _ => ((1 : Nat) = 1 ∧ s_is_claim [d79] (fun v83 => (dCmp .IsNot v83 (PyData.bool false) (fun v84 => (asB v84 (fun b85 => (W.ite b85 (W.ret (PyData.bool true)) (fun q86 z87 => (dIx v_told (PyData.int 1) (fun v88 => ((2 : Nat) = 2 ∧ s_accepts [d79, v88] (fun v89 => (dCmp .IsNot v89 (PyData.bool false) (fun v90 => (q86 v90)) z87)) z87)) z87)) (fun v91 => (asB v91 (fun b92 => (W.ite b92 (fun q81 z82 => (q81 (some d79))) (W.ret none) q80 (fun _ => False))) (fun _ => False))) (fun _ => False))) (fun _ => False))) (fun _ => False))) (fun _ => False))) xs78 [] (fun ys93 => (sizeOk [] ∧ (dCmp .NotEq (PyData.list ys93) (PyData.list []) (fun v94 => (asB v94 (fun b95 => (match b95 with | true => (K.rt (PyData.bool false)) | false => (dIx v_claims (PyData.int 0) (fun v96 => ((1 : Nat) = 1 ∧ s_is_claim [v96] (fun v97 => ((0 : Nat) = 0 ∧ (dIx v_claims (PyData.int 1) (fun v98 => (((1 : Nat) = 1 ∧ (1 : Nat) = 1) ∧ s_is_claim [v98] (fun v99 => (dIx v_claims (PyData.int 0) (fun v100 => ((1 : Nat) = 1 ∧ s_opposite [v100] (fun v101 => ((0 : Nat) = 0 ∧ (dIx v_claims (PyData.int 1) (fun v102 => (((1 : Nat) = 1 ∧ (1 : Nat) = 1) ∧ s_opposite [v102] (fun v103 => (sizeOk [v97, v99, v101, v103] ∧ (dIx v_claims (PyData.int 1) (fun v104 => (dIx v_claims (PyData.int 0) (fun v105 => (sizeOk [(PyData.bool true), (PyData.bool true), v104, v105] ∧ (dCmp .Eq (PyData.list [v97, v99, v101, v103]) (PyData.list [(PyData.bool true), (PyData.bool true), v104, v105]) (fun v106 => (K.rt v106)) K.xc))) K.xc)) K.xc))) K.xc)) K.xc))) K.xc)) K.xc)) K.xc)) K.xc))) K.xc)) K.xc))) K.xc)) K.xc))) K.xc)) K.xc)) K.xc))))) K.xc))) K.xc)))))) K.xc)))) K.xc)) K.xc)) K.xc)) K.xc))) K.xc)) K.xc)) K.xc)))) K.xc)) K.xc)) K.xc) := by
  kernel_rfl
theorem r__law_right (v_pool : PyData) (q : PyData → Prop) (y : Xc → Prop) : s__law_right [v_pool] q y = (rg1 [(PyData.int 6)] (fun xs1 => (forGo (gmOf MD F_53 d__law_right) (forTg (headS d__law_right.body)) (exSs (exS 39 (gmOf MD F_53 d__law_right)) (forBd (headS d__law_right.body))) xs1 [some v_pool, none, none, none] (SK.mk (fun r => exSs (exS 40 (gmOf MD F_53 d__law_right)) (List.tail d__law_right.body) r (SK.mk (fun _ => q PyData.none) q (fun _ => False) (fun _ => False) y)) q (fun _ => False) (fun _ => False) y))) y) := by
  refine (congrFun (congrFun (congrFun sq__law_right _) _) _).trans ?_
  kernel_rfl
theorem rb__law_right_1 (v_pool v_turn : PyData) (o_wins o_left : Option PyData) (K : SK) : exSs (exS 39 (gmOf MD F_53 d__law_right)) (forBd (headS d__law_right.body)) [some v_pool, some v_turn, o_wins, o_left] K = (sizeOk [(PyData.int 2), (PyData.int 20)] ∧ ((2 : Nat) = 2 ∧ s__law_pick [v_pool, (PyData.list [(PyData.int 2), (PyData.int 20)])] (fun v2 => ((3 : Nat) = 3 ∧ s__law_season [v_pool, (PyData.int 5), v2] (fun v3 => (match tupOf 2 v3 with | some ds4 => (dLen [(ds4.getD 0 PyData.none)] (fun v5 => ((2 : Nat) = 2 ∧ s__law_draw [v_pool, v5] (fun v6 => ((4 : Nat) = 4 ∧ s__law_team_right [v_pool, (ds4.getD 0 PyData.none), (ds4.getD 1 PyData.none), v6] (fun v7 => (asB v7 (fun b8 => (asB (PyData.bool (!b8)) (fun b9 => (match b9 with | true => (K.rt (PyData.bool false)) | false => (K.nx [some v_pool, some v_turn, some (ds4.getD 0 PyData.none), some (ds4.getD 1 PyData.none)]))) K.xc)) K.xc)) K.xc)) K.xc)) K.xc) | none => False)) K.xc)) K.xc)) := by
  kernel_rfl
theorem rr__law_right_1 (v_pool : PyData) (o_turn o_wins o_left : Option PyData) (K : SK) : exSs (exS 40 (gmOf MD F_53 d__law_right)) (List.tail d__law_right.body) [some v_pool, o_turn, o_wins, o_left] K = (sizeOk [(PyData.int 3), (PyData.int 3), (PyData.int 0)] ∧ (sizeOk [(PyData.int 0), (PyData.int 1), (PyData.int 1)] ∧ (sizeOk [(PyData.int 0), (PyData.int 2), (PyData.int 1)] ∧ (sizeOk [(PyData.tuple [(PyData.int 0), (PyData.int 1), (PyData.int 1)]), (PyData.tuple [(PyData.int 0), (PyData.int 2), (PyData.int 1)])] ∧ (sizeOk [(PyData.str "not first"), (PyData.tuple [(PyData.int 3), (PyData.int 3), (PyData.int 0)]), (PyData.tuple [(PyData.tuple [(PyData.int 0), (PyData.int 1), (PyData.int 1)]), (PyData.tuple [(PyData.int 0), (PyData.int 2), (PyData.int 1)])]), (PyData.int 2)] ∧ (sizeOk [(PyData.int 0)] ∧ ((2 : Nat) = 2 ∧ s_accepts [(PyData.tuple [(PyData.str "not first"), (PyData.tuple [(PyData.int 3), (PyData.int 3), (PyData.int 0)]), (PyData.tuple [(PyData.tuple [(PyData.int 0), (PyData.int 1), (PyData.int 1)]), (PyData.tuple [(PyData.int 0), (PyData.int 2), (PyData.int 1)])]), (PyData.int 2)]), (PyData.tuple [(PyData.int 0)])] (fun v10 => (dCmp .Is v10 (PyData.bool true) (fun v11 => (asB v11 (fun b12 => (W.ite b12 (fun q13 z14 => (sizeOk [(PyData.int 0), (PyData.int 0)] ∧ (sizeOk [] ∧ ((4 : Nat) = 4 ∧ s__law_team_right [v_pool, (PyData.tuple [(PyData.int 0), (PyData.int 0)]), (PyData.tuple []), (PyData.int 0)] (fun v15 => (q13 v15)) z14)))) (W.ret (PyData.bool false)) (fun v16 => (K.rt v16)) K.xc)) K.xc)) K.xc)) K.xc))))))) := by
  kernel_rfl
theorem r_law (v_script : PyData) (q : PyData → Prop) (y : Xc → Prop) : s_law [v_script] q y = (dLen [v_script] (fun v1 => (dMin [v1, (PyData.int 3)] (fun v2 => (dMax [(PyData.int 2), v2] (fun v3 => (rg1 [v3] (fun xs4 => (forGo (gmOf MD F_54 d_law) (forTg (headS d_law.body)) (exSs (exS 39 (gmOf MD F_54 d_law)) (forBd (headS d_law.body))) xs4 [some v_script, none] (SK.mk (fun r => exSs (exS 40 (gmOf MD F_54 d_law)) (List.tail d_law.body) r (SK.mk (fun _ => q PyData.none) q (fun _ => False) (fun _ => False) y)) q (fun _ => False) (fun _ => False) y))) y)) y)) y)) y) := by
  refine (congrFun (congrFun (congrFun sq_law _) _) _).trans ?_
  kernel_rfl
theorem rb_law_1 (v_script v_turn : PyData)  (K : SK) : exSs (exS 39 (gmOf MD F_54 d_law)) (forBd (headS d_law.body)) [some v_script, some v_turn] K = ((2 : Nat) = 2 ∧ s__law_pool [v_script, v_turn] (fun v5 => ((1 : Nat) = 1 ∧ s__law_right [v5] (fun v6 => (asB v6 (fun b7 => (asB (PyData.bool (!b7)) (fun b8 => (match b8 with | true => (K.rt (PyData.bool false)) | false => (K.nx [some v_script, some v_turn]))) K.xc)) K.xc)) K.xc)) K.xc) := by
  kernel_rfl
theorem rr_law_1 (v_script : PyData) (o_turn : Option PyData) (K : SK) : exSs (exS 40 (gmOf MD F_54 d_law)) (List.tail d_law.body) [some v_script, o_turn] K = (K.rt (PyData.bool true)) := by
  kernel_rfl
end Tk77

set_option maxHeartbeats 4000000
namespace Tk77
open PySem PySem.Spec PyProof.Rows L2 PD
variable {q : PyData → Prop} {y : Xc → Prop}
def isWhole : PyData → Bool
  | .int _ => true
  | _ => false
def isBetween (d : PyData) (lo hi : Int) : Bool := match d with
  | .int i => decide (lo ≤ i) && decide (i ≤ hi)
  | _ => false
def isTupN (d : PyData) (n : Int) : Bool := match d with
  | .tuple ds => decide ((ds.length : Int) = n)
  | _ => false
theorem w_is_whole (v : PyData) (h : (tyD v).isSome = true) (hq : q (.bool (isWhole v))) : s_is_whole [v] q y := by
  rw [r_is_whole]
  rcases v with _ | _ | _ | _ | _ | _ | kvs
  all_goals first
    | exact hq
    | (rcases kvs with _ | _ <;> first | exact hq | cases h)
theorem w_is_between (v : PyData) (lo hi : Int) (h : (tyD v).isSome = true) (hq : q (.bool (isBetween v lo hi))) : s_is_between [v, .int lo, .int hi] q y := by
  rw [r_is_between]
  refine ⟨rfl, w_is_whole v h ?_⟩
  rcases v with _ | _ | i | _ | _ | _ | kvs
  case int =>
    show asB (.bool true) _ y
    rw [asB_b, ite_t, le_ii, asB_b]
    have hq : q (.bool (decide (lo ≤ i) && decide (i ≤ hi))) := hq
    cases e : decide (lo ≤ i)
    · rw [e] at hq; exact hq
    · rw [e] at hq; exact hq
  all_goals first
    | exact hq
theorem w_is_tuple_of (v : PyData) (n : Int) (h : (tyD v).isSome = true) (hq : q (.bool (isTupN v n))) : s_is_tuple_of [v, .int n] q y := by
  rw [r_is_tuple_of]
  rcases v with _ | _ | i | _ | _ | xs | kvs
  case tuple =>
    rw [isTup_t, opt_s, ret_ap, asB_b, ite_t, len_t, eq_ii]
    exact hq
  all_goals first
    | exact hq
    | (rcases kvs with _ | _ <;> first | exact hq | cases h)
theorem w_draw (m : Int) (h0 : 0 < m) (h1 : m < 1073741824) (hq : ∀ k : Int, 0 ≤ k → k < m → q (.int k)) : s__law_draw [poolD, .int m] q y := by
  rw [r__law_draw]
  intro x1 hx1
  show (match decide (0 < x1) with | true => _ | false => _ : Prop)
  cases e : decide (0 < x1)
  · intro x2
    refine ⟨trivial, fun x0 hx0 hx0' => ?_⟩
    refine ⟨(by omega : (0 : Int) < 20011), ?_⟩
    refine ⟨.inl (.inl ⟨by omega, by omega⟩), fun x3 => ?_⟩
    refine ⟨.inl (.inl ⟨by omega, by omega⟩), ?_⟩
    refine ⟨(by omega : (0 : Int) < 2147483647), ?_⟩
    refine ⟨⟨Int.emod_nonneg _ (by omega), Int.lt_of_lt_of_le (Int.emod_lt_of_pos _ (by omega)) (by omega)⟩, ?_⟩
    intro x4 hx4 hx4'
    refine ⟨⟨by omega, by omega⟩, ?_⟩
    refine ⟨h0, hq _ (Int.emod_nonneg _ (by omega)) (Int.emod_lt_of_pos _ h0)⟩
  · intro x2 hx2
    refine ⟨⟨h0, h1⟩, ?_⟩
    refine ⟨Int.ediv_nonneg hx2 (by omega), hq _ (Int.emod_nonneg _ (by omega)) (Int.emod_lt_of_pos _ h0)⟩
theorem w_pick {some_ : PyData} {ds : List PyData} (hs : some_ = .list ds ∨ some_ = .tuple ds) (h0 : ds ≠ []) (h1 : ds.length < 1000000) (hq : ∀ d ∈ ds, q d) : s__law_pick [poolD, some_] q y := by
  have hl : 0 < ds.length := List.length_pos_iff.mpr h0
  rw [r__law_pick]
  have key : (2 : Nat) = 2 ∧ s__law_draw [poolD, .int (ds.length : Int)] (fun v2 => dIx some_ v2 (fun v3 => q v3) y) y := by
    refine ⟨rfl, w_draw _ (by omega) (by omega) fun k hk hk' => ?_⟩
    obtain ⟨hh, e⟩ := atI_lt (xs := ds) hk hk'
    rcases hs with rfl | rfl
    · show W.opt (atI ds k) W.ret q y
      rw [e]
      exact hq _ (List.getElem_mem _)
    · show W.opt (atI ds k) W.ret q y
      rw [e]
      exact hq _ (List.getElem_mem _)
  rcases hs with rfl | rfl
  · exact key
  · exact key
/-- the pool's maker -/
theorem w_pool (ns : List Int) (t : Nat) (ht : t < 3) (hn : ns.length ≤ 63) (hq : q poolD) : s__law_pool [.list (ns.map .int), .int (t : Int)] q y := by
  have loop : ∀ (K : SK) (cs : List Int) (st ow : Int) (o : Option PyData), 0 ≤ st → st < 2147483647 + 1000000000 → K.rt = q → (∀ st' o', 0 ≤ st' → st' < 2147483647 + 1000000000 → K.nx [some (.list (ns.map .int)), some (.int (t : Int)), o', some (.int ow), some (.int st')]) →
      forGo (gmOf MD F_40 d__law_pool) (forTg (headS (List.tail d__law_pool.body))) (exSs (exS 39 (gmOf MD F_40 d__law_pool)) (forBd (headS (List.tail d__law_pool.body)))) (cs.map .int) [some (.list (ns.map .int)), some (.int (t : Int)), o, some (.int ow), some (.int st)] K := by
    intro K cs
    induction cs with
    | nil => intro st ow o h0 h1 _ hk; exact hk st o h0 h1
    | cons c cs ih =>
      intro st ow o h0 h1 hr hk
      show exSs (exS 39 (gmOf MD F_40 d__law_pool)) (forBd (headS (List.tail d__law_pool.body))) [some (.list (ns.map .int)), some (.int (t : Int)), some (.int c), some (.int ow), some (.int st)] _
      rw [rb__law_pool_1]
      refine ⟨.inl (.inr ⟨by omega, by omega⟩), ?_⟩
      refine ⟨(by omega : (0 : Int) < 2147483647), ?_⟩
      refine ⟨(by omega : (0 : Int) < 2147483647), ?_⟩
      refine ih _ ow _ (Int.emod_nonneg _ (by omega)) (Int.lt_of_lt_of_le (Int.emod_lt_of_pos _ (by omega)) (by omega)) hr hk
  have rest : ∀ ow : Int, dBin .Mult (.int 5087) (.int (t : Int)) (fun v13 => dBin .Add (.int 794940) v13 (fun v14 => dSl (.list (ns.map .int)) none (some (63 : Int)) (fun v15 => walkOf v15 (fun xs16 => forGo (gmOf MD F_40 d__law_pool) (forTg (headS (List.tail d__law_pool.body))) (exSs (exS 39 (gmOf MD F_40 d__law_pool)) (forBd (headS (List.tail d__law_pool.body)))) xs16 [some (.list (ns.map .int)), some (.int (t : Int)), none, some (.int ow), some v14] (SK.mk (fun r => exSs (exS 40 (gmOf MD F_40 d__law_pool)) (List.tail (List.tail d__law_pool.body)) r (SK.mk (fun _ => q PyData.none) q (fun _ => False) (fun _ => False) y)) q (fun _ => False) (fun _ => False) y)) y) y) y) y := by
    intro ow
    refine ⟨.inl (.inl ⟨by omega, by omega⟩), ?_⟩
    rw [ret_ap, add_ii, sl_l, walk_l, show (63 : Int) = ((63 : Nat) : Int) from rfl, cutD_take, List.take_of_length_le (by rw [List.length_map]; exact hn)]
    refine loop _ ns _ ow none (by omega) (by omega) rfl fun st o h0 h1 => ?_
    dsimp only
    rw [rr__law_pool_1]
    refine ⟨.inl (.inr ⟨by omega, by omega⟩), ?_⟩
    refine ⟨(by omega : (0 : Int) < 2147483647), ?_⟩
    show W.ite (decide (ow < 0)) _ _ _ y
    have fin : ∀ z : Int, 0 ≤ z → retPool [.int ((st + ow * 1013) % 2147483647), .int z, .int 0] q := fun z hz =>
      ⟨⟨⟨Int.emod_nonneg _ (by omega), Int.lt_of_lt_of_le (Int.emod_lt_of_pos _ (by omega)) (by omega)⟩, hz⟩, hq⟩
    have fin2 : ∀ b : Bool, asB (.bool b) (fun b35 => W.ite b35 (fun q36 z37 => dAbs [.int ow] (fun v38 => q36 v38) z37) (fun q39 z40 => q39 (.int 0)) (fun v41 => retPool [.int ((st + ow * 1013) % 2147483647), v41, .int 0] q) y) y := by
      intro b
      cases b
      · exact fin 0 (by omega)
      · exact fin (if ow < 0 then -ow else ow) (by split <;> omega)
    cases decide (ow < 0)
    · refine ⟨⟨by omega, by omega, by decide⟩, ?_⟩
      exact fin2 _
    · exact fin2 true
  rw [r__law_pool]
  show W.ite (decide ((t : Int) < ((ns.map PyData.int).length : Nat))) _ _ _ y
  cases e : decide ((t : Int) < ((ns.map PyData.int).length : Nat))
  · refine ⟨.inl (.inl ⟨by omega, by omega⟩), ?_⟩
    exact rest _
  · have hlt : t < ns.length := by
      have := of_decide_eq_true e
      rw [List.length_map] at this
      omega
    have e2 : atI (ns.map PyData.int) (t : Int) = some (.int ns[t]) := atI_nat (by simp [hlt])
    show W.opt (atI (ns.map PyData.int) (t : Int)) W.ret _ y
    rw [e2]
    exact rest _
end Tk77

set_option maxHeartbeats 4000000
namespace Tk77
open PySem PySem.Spec PyProof.Rows L2 PD
variable {q : PyData → Prop} {y : Xc → Prop}
abbrev Tie := Nat × Nat × Int
def eT (t : Tie) : PyData := .tuple [.int (t.1 : Int), .int (t.2.1 : Int), .int t.2.2]
def dW (w : List Int) : PyData := .tuple (w.map .int)
def dT (t : List Tie) : PyData := .tuple (t.map eT)
def dL (l : List Nat) : PyData := .tuple (l.map fun (k : Nat) => PyData.int (k : Int))
def okI (i lo hi : Int) : Bool := decide (lo ≤ i) && decide (i ≤ hi)
theorem w_is_wins (i : Int) (hq : q (.bool (okI i 0 99))) : s_is_wins [.int i] q y := by
  rw [r_is_wins]
  exact ⟨rfl, w_is_between _ _ _ rfl hq⟩
theorem df_is_wins : defOf F_4 (fnD "is_wins") = some (1, s_is_wins) := by kernel_rfl
/-- where the first thing wrong stands -/
theorem w_first_wrong (w : List Int) (hl : w.length ≤ 1000) (hq : ∀ r : List PyData, (r = [] ↔ (2 ≤ w.length ∧ w.length ≤ 5 ∧ (w.all fun i => okI i 0 99) = true)) → (∀ d ∈ r, d = .none ∨ ∃ i : Int, d = .int i) → r.length ≤ 1 → q (.list r)) : s_first_wrong [dW w, .int 2, .int 5, fnD "is_wins"] q y := by
  rw [r_first_wrong]
  simp only [asB_b, asI_i, ite_t, ite_f, ret_ap, need_ap, opt_s, isInt_i, isInt_b, isInt_n, isInt_s, isInt_l, isInt_t, isInt_d, isBool_i, isBool_b, isBool_n, isBool_s, isBool_l, isBool_t, isBool_d, isTup_i, isTup_b, isTup_n, isTup_s, isTup_l, isTup_t, isTup_d, isStr_i, isStr_s, isStr_t, len_t, len_l, eq_ii, ne_ii, lt_ii, le_ii, gt_ii, ge_ii, add_ii, sub_ii, neg_i, add_tt, add_ll, items_t, items_l, walk_t, walk_l, sl_t, sl_l, ix_t, ix_l, mul_ii, fdiv_ii, mod_ii, int_i, abs_i, list_l, list_t, tuple_l, tuple_t, rg1_i, rg2_i, zip_l, zip_t, is_n, isnot_n, is_b, isnot_b, sizeOk_0, sizeOk_1, sizeOk_2, sizeOk_3, sizeOk_4, sizeOk_5, sizeOk_6, tupOf_1, tupOf_2, tupOf_3, tupOf_4, atI_0, atI_1, atI_2, atI_3, List.getD_cons_zero, List.getD_cons_succ, Bool.not_true, Bool.not_false, true_and, eq_self, ite_and, ite_or, ite_some, ite_two, dW, List.length_map]
  cases e1 : (decide ((2 : Int) ≤ (w.length : Nat)) && decide (((w.length : Nat) : Int) ≤ 5))
  · have e1 := Bool.and_eq_false_iff.mp e1
    simp only [decide_eq_false_iff_not] at e1
    refine hq _ ⟨fun h => (by cases h), fun h => (by omega)⟩ (fun d hd => ?_) (by decide)
    rw [List.mem_singleton] at hd
    exact .inl hd
  · have e1 := Bool.and_eq_true_iff.mp e1
    simp only [decide_eq_true_eq] at e1
    show lcGo _ (enumD (w.map .int)) [] _ y
    rw [enumD_map]
    refine lcGo_filt _ (fun p => !okI p.1 0 99) (fun p => .int (p.2 : Nat)) (fun p _ q x hq => ?_) (by rw [List.length_zipIdx, sizeLine_eq]; omega) ?_
    · simp only [asB_b, asI_i, ite_t, ite_f, ret_ap, need_ap, opt_s, isInt_i, isInt_b, isInt_n, isInt_s, isInt_l, isInt_t, isInt_d, isBool_i, isBool_b, isBool_n, isBool_s, isBool_l, isBool_t, isBool_d, isTup_i, isTup_b, isTup_n, isTup_s, isTup_l, isTup_t, isTup_d, isStr_i, isStr_s, isStr_t, len_t, len_l, eq_ii, ne_ii, lt_ii, le_ii, gt_ii, ge_ii, add_ii, sub_ii, neg_i, add_tt, add_ll, items_t, items_l, walk_t, walk_l, sl_t, sl_l, ix_t, ix_l, mul_ii, fdiv_ii, mod_ii, int_i, abs_i, list_l, list_t, tuple_l, tuple_t, rg1_i, rg2_i, zip_l, zip_t, is_n, isnot_n, is_b, isnot_b, sizeOk_0, sizeOk_1, sizeOk_2, sizeOk_3, sizeOk_4, sizeOk_5, sizeOk_6, tupOf_1, tupOf_2, tupOf_3, tupOf_4, atI_0, atI_1, atI_2, atI_3, List.getD_cons_zero, List.getD_cons_succ, Bool.not_true, Bool.not_false, true_and, eq_self, ite_and, ite_or, ite_some, ite_two, df_is_wins]
      refine w_is_wins p.1 ?_
      simp only [asB_b, asI_i, ite_t, ite_f, ret_ap, need_ap, opt_s, isInt_i, isInt_b, isInt_n, isInt_s, isInt_l, isInt_t, isInt_d, isBool_i, isBool_b, isBool_n, isBool_s, isBool_l, isBool_t, isBool_d, isTup_i, isTup_b, isTup_n, isTup_s, isTup_l, isTup_t, isTup_d, isStr_i, isStr_s, isStr_t, len_t, len_l, eq_ii, ne_ii, lt_ii, le_ii, gt_ii, ge_ii, add_ii, sub_ii, neg_i, add_tt, add_ll, items_t, items_l, walk_t, walk_l, sl_t, sl_l, ix_t, ix_l, mul_ii, fdiv_ii, mod_ii, int_i, abs_i, list_l, list_t, tuple_l, tuple_t, rg1_i, rg2_i, zip_l, zip_t, is_n, isnot_n, is_b, isnot_b, sizeOk_0, sizeOk_1, sizeOk_2, sizeOk_3, sizeOk_4, sizeOk_5, sizeOk_6, tupOf_1, tupOf_2, tupOf_3, tupOf_4, atI_0, atI_1, atI_2, atI_3, List.getD_cons_zero, List.getD_cons_succ, Bool.not_true, Bool.not_false, true_and, eq_self, ite_and, ite_or, ite_some, ite_two]
      exact hq
    · rw [show (1 : Int) = ((1 : Nat) : Int) from rfl, cutD_take]
      refine hq _ ?_ ?_ ?_
      · rw [List.take_eq_nil_iff, List.map_eq_nil_iff, List.filter_eq_nil_iff]
        constructor
        · rintro (h | h)
          · cases h
          refine ⟨by omega, by omega, List.all_eq_true.mpr fun a ha => ?_⟩
          obtain ⟨i, hi, e⟩ := List.mem_iff_getElem.mp ha
          have := h (a, i) (by rw [List.mem_zipIdx_iff_getElem?]; simp [hi, e])
          simpa using this
        · rintro ⟨_, _, h⟩
          refine .inr fun a ha => ?_
          have : a.1 ∈ w := by
            have := List.mem_zipIdx_iff_getElem?.mp ha
            exact List.mem_of_getElem? this
          simpa using List.all_eq_true.mp h a.1 this
      · intro d hd
        have := List.mem_of_mem_take hd
        obtain ⟨a, _, rfl⟩ := List.mem_map.mp this
        exact .inr ⟨_, rfl⟩
      · rw [List.length_take]
        omega
theorem w_first_wrong_list (ds : List PyData) (hq : q (.list [.none])) : s_first_wrong [.list ds, .int 2, .int 5, fnD "is_wins"] q y := by
  rw [r_first_wrong]
  simp only [asB_b, asI_i, ite_t, ite_f, ret_ap, need_ap, opt_s, isInt_i, isInt_b, isInt_n, isInt_s, isInt_l, isInt_t, isInt_d, isBool_i, isBool_b, isBool_n, isBool_s, isBool_l, isBool_t, isBool_d, isTup_i, isTup_b, isTup_n, isTup_s, isTup_l, isTup_t, isTup_d, isStr_i, isStr_s, isStr_t, len_t, len_l, eq_ii, ne_ii, lt_ii, le_ii, gt_ii, ge_ii, add_ii, sub_ii, neg_i, add_tt, add_ll, items_t, items_l, walk_t, walk_l, sl_t, sl_l, ix_t, ix_l, mul_ii, fdiv_ii, mod_ii, int_i, abs_i, list_l, list_t, tuple_l, tuple_t, rg1_i, rg2_i, zip_l, zip_t, is_n, isnot_n, is_b, isnot_b, sizeOk_0, sizeOk_1, sizeOk_2, sizeOk_3, sizeOk_4, sizeOk_5, sizeOk_6, tupOf_1, tupOf_2, tupOf_3, tupOf_4, atI_0, atI_1, atI_2, atI_3, List.getD_cons_zero, List.getD_cons_succ, Bool.not_true, Bool.not_false, true_and, eq_self, ite_and, ite_or, ite_some, ite_two]
  exact hq
def good (w : List Int) : Bool := decide (2 ≤ w.length) && (decide (w.length ≤ 5) && w.all fun i => okI i 0 99)
theorem w_wrong_in_wins (w : List Int) (hl : w.length ≤ 1000) (hq : ∀ r : List PyData, (r = [] ↔ good w = true) → (∀ d ∈ r, d = .none ∨ ∃ i : Int, d = .int i) → r.length ≤ 1 → q (.list r)) : s_wrong_in_wins [dW w] q y := by
  rw [r_wrong_in_wins]
  refine ⟨rfl, w_first_wrong w hl fun r h1 h2 h3 => hq r (h1.trans ?_) h2 h3⟩
  simp [good]
theorem w_wrong_in_wins_list (ds : List PyData) (hq : q (.list [.none])) : s_wrong_in_wins [.list ds] q y := by
  rw [r_wrong_in_wins]
  exact ⟨rfl, w_first_wrong_list ds hq⟩
theorem w_are_indexes (n : Int) (l : List Int) (hl : l.length ≤ 1000) (hq : q (.bool (l.all fun i => okI i 0 (n - 1)))) : s_are_indexes [.int n, .tuple (l.map .int)] q y := by
  rw [r_are_indexes]
  simp only [asB_b, asI_i, ite_t, ite_f, ret_ap, need_ap, opt_s, isInt_i, isInt_b, isInt_n, isInt_s, isInt_l, isInt_t, isInt_d, isBool_i, isBool_b, isBool_n, isBool_s, isBool_l, isBool_t, isBool_d, isTup_i, isTup_b, isTup_n, isTup_s, isTup_l, isTup_t, isTup_d, isStr_i, isStr_s, isStr_t, len_t, len_l, eq_ii, ne_ii, lt_ii, le_ii, gt_ii, ge_ii, add_ii, sub_ii, neg_i, add_tt, add_ll, items_t, items_l, walk_t, walk_l, sl_t, sl_l, ix_t, ix_l, mul_ii, fdiv_ii, mod_ii, int_i, abs_i, list_l, list_t, tuple_l, tuple_t, rg1_i, rg2_i, zip_l, zip_t, is_n, isnot_n, is_b, isnot_b, sizeOk_0, sizeOk_1, sizeOk_2, sizeOk_3, sizeOk_4, sizeOk_5, sizeOk_6, tupOf_1, tupOf_2, tupOf_3, tupOf_4, atI_0, atI_1, atI_2, atI_3, List.getD_cons_zero, List.getD_cons_succ, Bool.not_true, Bool.not_false, true_and, eq_self, ite_and, ite_or, ite_some, ite_two]
  exact all_map PyData.int (fun i => okI i 0 (n - 1)) (fun a _ q x hq => w_is_between _ _ _ rfl hq) (by rw [sizeLine_eq]; omega) hq
def okT (n : Nat) (t : Tie) : Bool := decide (t.1 < n) && (decide (t.2.1 < n) && (decide (t.1 < t.2.1) && okI t.2.2 1 20))
theorem w_is_triple (n : Nat) (t : Tie) (hq : q (.bool (okT n t))) : s_is_triple [.int (n : Int), .int 20, eT t] q y := by
  obtain ⟨a, b, c⟩ := t
  rw [r_is_triple]
  refine ⟨rfl, w_is_tuple_of _ _ rfl ?_⟩
  show asB (.bool true) _ y
  simp only [asB_b, asI_i, ite_t, ite_f, ret_ap, need_ap, opt_s, isInt_i, isInt_b, isInt_n, isInt_s, isInt_l, isInt_t, isInt_d, isBool_i, isBool_b, isBool_n, isBool_s, isBool_l, isBool_t, isBool_d, isTup_i, isTup_b, isTup_n, isTup_s, isTup_l, isTup_t, isTup_d, isStr_i, isStr_s, isStr_t, len_t, len_l, eq_ii, ne_ii, lt_ii, le_ii, gt_ii, ge_ii, add_ii, sub_ii, neg_i, add_tt, add_ll, items_t, items_l, walk_t, walk_l, sl_t, sl_l, ix_t, ix_l, mul_ii, fdiv_ii, mod_ii, int_i, abs_i, list_l, list_t, tuple_l, tuple_t, rg1_i, rg2_i, zip_l, zip_t, is_n, isnot_n, is_b, isnot_b, sizeOk_0, sizeOk_1, sizeOk_2, sizeOk_3, sizeOk_4, sizeOk_5, sizeOk_6, tupOf_1, tupOf_2, tupOf_3, tupOf_4, atI_0, atI_1, atI_2, atI_3, List.getD_cons_zero, List.getD_cons_succ, Bool.not_true, Bool.not_false, true_and, eq_self, ite_and, ite_or, ite_some, ite_two, eT, cut2]
  refine w_are_indexes (n : Int) [(a : Int), (b : Int)] (by simp) ?_
  have e1 : ([(a : Int), (b : Int)].all fun i => okI i 0 ((n : Int) - 1)) = (decide (a < n) && decide (b < n)) := by
    rw [Bool.eq_iff_iff]
    simp [okI]
    omega
  have hq : q (.bool (decide (a < n) && (decide (b < n) && (decide (a < b) && okI c 1 20)))) := hq
  simp only [asB_b, asI_i, ite_t, ite_f, ret_ap, need_ap, opt_s, isInt_i, isInt_b, isInt_n, isInt_s, isInt_l, isInt_t, isInt_d, isBool_i, isBool_b, isBool_n, isBool_s, isBool_l, isBool_t, isBool_d, isTup_i, isTup_b, isTup_n, isTup_s, isTup_l, isTup_t, isTup_d, isStr_i, isStr_s, isStr_t, len_t, len_l, eq_ii, ne_ii, lt_ii, le_ii, gt_ii, ge_ii, add_ii, sub_ii, neg_i, add_tt, add_ll, items_t, items_l, walk_t, walk_l, sl_t, sl_l, ix_t, ix_l, mul_ii, fdiv_ii, mod_ii, int_i, abs_i, list_l, list_t, tuple_l, tuple_t, rg1_i, rg2_i, zip_l, zip_t, is_n, isnot_n, is_b, isnot_b, sizeOk_0, sizeOk_1, sizeOk_2, sizeOk_3, sizeOk_4, sizeOk_5, sizeOk_6, tupOf_1, tupOf_2, tupOf_3, tupOf_4, atI_0, atI_1, atI_2, atI_3, List.getD_cons_zero, List.getD_cons_succ, Bool.not_true, Bool.not_false, true_and, eq_self, ite_and, ite_or, ite_some, ite_two, e1]
  cases e2 : decide (a < n)
  · rw [e2] at hq
    exact hq
  cases e3 : decide (b < n)
  · rw [e2, e3] at hq
    exact hq
  rw [e2, e3] at hq
  have e4 : decide ((a : Int) < (b : Int)) = decide (a < b) := by
    rw [decide_eq_decide]
    omega
  simp only [asB_b, asI_i, ite_t, ite_f, ret_ap, need_ap, opt_s, isInt_i, isInt_b, isInt_n, isInt_s, isInt_l, isInt_t, isInt_d, isBool_i, isBool_b, isBool_n, isBool_s, isBool_l, isBool_t, isBool_d, isTup_i, isTup_b, isTup_n, isTup_s, isTup_l, isTup_t, isTup_d, isStr_i, isStr_s, isStr_t, len_t, len_l, eq_ii, ne_ii, lt_ii, le_ii, gt_ii, ge_ii, add_ii, sub_ii, neg_i, add_tt, add_ll, items_t, items_l, walk_t, walk_l, sl_t, sl_l, ix_t, ix_l, mul_ii, fdiv_ii, mod_ii, int_i, abs_i, list_l, list_t, tuple_l, tuple_t, rg1_i, rg2_i, zip_l, zip_t, is_n, isnot_n, is_b, isnot_b, sizeOk_0, sizeOk_1, sizeOk_2, sizeOk_3, sizeOk_4, sizeOk_5, sizeOk_6, tupOf_1, tupOf_2, tupOf_3, tupOf_4, atI_0, atI_1, atI_2, atI_3, List.getD_cons_zero, List.getD_cons_succ, Bool.not_true, Bool.not_false, true_and, eq_self, ite_and, ite_or, ite_some, ite_two, e4, Bool.and_self]
  cases e5 : decide (a < b)
  · rw [e5] at hq
    exact hq
  · rw [e5] at hq
    exact w_is_between _ _ _ rfl hq
/-- the place of the first tie that is wrong -/
def wrongT (n : Nat) : Option Tie → Nat → List Tie → List PyData
  | _, _, [] => []
  | p, i, t :: r => if okT n t && (match p with | some u => decide (u.1 < t.1 ∨ (u.1 = t.1 ∧ u.2.1 < t.2.1)) | none => true) then wrongT n (some t) (i + 1) r else [.int (i : Nat)]
theorem w_wrong_in_triples (n : Nat) (ts : List Tie) (hq : q (.list (wrongT n none 0 ts))) : s_wrong_in_triples [.int (n : Int), .int 20, dT ts] q y := by
  have loop : ∀ (K : SK) (pre rest : List Tie) (o1 o2 : Option PyData), ts = pre ++ rest → K.rt = q → (∀ o1 o2, q (.list []) → K.nx [some (.int (n : Int)), some (.int 20), some (dT ts), o1, o2]) → q (.list (wrongT n pre.getLast? pre.length rest)) →
      forGo (gmOf MD F_9 d_wrong_in_triples) (forTg (headS (List.tail d_wrong_in_triples.body))) (exSs (exS 39 (gmOf MD F_9 d_wrong_in_triples)) (forBd (headS (List.tail d_wrong_in_triples.body)))) ((rest.zipIdx pre.length).map fun p => .tuple [.int (p.2 : Nat), eT p.1]) [some (.int (n : Int)), some (.int 20), some (dT ts), o1, o2] K := by
    intro K pre rest
    induction rest generalizing pre with
    | nil => intro o1 o2 _ _ hk hw; exact hk o1 o2 hw
    | cons t rest ih =>
      intro o1 o2 e hr hk hw
      show exSs (exS 39 (gmOf MD F_9 d_wrong_in_triples)) (forBd (headS (List.tail d_wrong_in_triples.body))) [some (.int (n : Int)), some (.int 20), some (dT ts), some (.int (pre.length : Nat)), some (eT t)] _
      rw [rb_wrong_in_triples_1]
      refine ⟨rfl, w_is_triple n t ?_⟩
      show W.ite (!okT n t) _ _ _ _
      have bad : sizeOk [PyData.int ((pre.length : Nat) : Int)] ∧ q (.list [.int (pre.length : Nat)]) → sizeOk [PyData.int ((pre.length : Nat) : Int)] ∧ K.rt (.list [.int (pre.length : Nat)]) := fun h => by rw [hr]; exact h
      have hw : q (.list (if okT n t && (match pre.getLast? with | some u => decide (u.1 < t.1 ∨ (u.1 = t.1 ∧ u.2.1 < t.2.1)) | none => true) then wrongT n (some t) (pre.length + 1) rest else [.int (pre.length : Nat)])) := hw
      have go : q (.list (wrongT n (some t) (pre.length + 1) rest)) → forGo (gmOf MD F_9 d_wrong_in_triples) (forTg (headS (List.tail d_wrong_in_triples.body))) (exSs (exS 39 (gmOf MD F_9 d_wrong_in_triples)) (forBd (headS (List.tail d_wrong_in_triples.body)))) ((rest.zipIdx (pre.length + 1)).map fun p => .tuple [.int (p.2 : Nat), eT p.1]) [some (.int (n : Int)), some (.int 20), some (dT ts), some (.int (pre.length : Nat)), some (eT t)] K := fun h => by
        have := ih (pre ++ [t]) (some (.int (pre.length : Nat))) (some (eT t)) (by rw [e, List.append_assoc]; rfl) hr hk (by rw [List.getLast?_append, List.length_append]; exact h)
        rw [List.length_append] at this
        exact this
      cases e1 : okT n t
      · rw [e1] at hw
        exact bad ⟨sizeOk_of (by show 1 ≤ _; omega), hw⟩
      rw [e1] at hw
      show W.ite (decide ((0 : Int) < (pre.length : Nat))) _ _ _ _
      rcases List.eq_nil_or_concat pre with rfl | ⟨pre', u, rfl⟩
      · exact go hw
      rw [List.concat_eq_append] at *
      rw [List.getLast?_append] at hw
      have hpos : decide ((0 : Int) < ((pre' ++ [u]).length : Nat)) = true := by
        rw [decide_eq_true_iff, List.length_append]
        show (0 : Int) < ((pre'.length + 1 : Nat) : Int)
        omega
      rw [hpos]
      rw [ite_t]
      have et : eT t = .tuple [.int (t.1 : Int), .int (t.2.1 : Int), .int t.2.2] := rfl
      rw [et, sl_t, cut2, sub_ii]
      have eix : atI (ts.map eT) (((pre' ++ [u]).length : Nat) - 1 : Int) = some (eT u) := by
        have hn : (((pre' ++ [u]).length : Nat) - 1 : Int) = ((pre'.length : Nat) : Int) := by
          rw [List.length_append]
          show ((pre'.length + 1 : Nat) : Int) - 1 = _
          omega
        rw [hn, e]
        exact atI_nat (by simp)
      show dIx (.tuple (ts.map eT)) _ _ _
      rw [ix_t, eix, opt_s, ret_ap]
      have eu : eT u = .tuple [.int (u.1 : Int), .int (u.2.1 : Int), .int u.2.2] := rfl
      rw [eu, sl_t, cut2]
      show (match leInts [(t.1 : Int), (t.2.1 : Int)] [(u.1 : Int), (u.2.1 : Int)] with | true => _ | false => _ : Prop)
      have hw : q (.list (if decide (u.1 < t.1 ∨ (u.1 = t.1 ∧ u.2.1 < t.2.1)) then wrongT n (some t) ((pre' ++ [u]).length + 1) rest else [.int ((pre' ++ [u]).length : Nat)])) := hw
      rw [leInts2]
      by_cases hlt : u.1 < t.1 ∨ (u.1 = t.1 ∧ u.2.1 < t.2.1)
      · rw [if_pos (decide_eq_true hlt)] at hw
        rw [decide_eq_false (by omega)]
        exact go hw
      · rw [if_neg (by simpa using hlt)] at hw
        rw [decide_eq_true (by omega)]
        exact bad ⟨sizeOk_of (by show 1 ≤ _; omega), hw⟩
  rw [r_wrong_in_triples]
  show forGo _ _ _ (enumD (ts.map eT)) _ _
  rw [enumD_map]
  refine loop _ [] ts none none rfl rfl (fun o1 o2 h => ?_) hq
  dsimp only
  rw [rr_wrong_in_triples_1]
  exact ⟨sizeOk_of (by decide), h⟩
theorem w_wrong_in_left (n : Nat) (ts : List Tie) (hq : q (.list (wrongT n none 0 ts))) : s_wrong_in_left [.int (n : Int), dT ts] q y := by
  rw [r_wrong_in_left]
  exact ⟨rfl, w_wrong_in_triples n ts hq⟩
theorem w_wrong_in_left_none (n : Nat) (hq : q (.list [.none])) : s_wrong_in_left [.int (n : Int), .none] q y := by
  rw [r_wrong_in_left]
  refine ⟨rfl, ?_⟩
  rw [r_wrong_in_triples]
  exact ⟨sizeOk_of (by decide), hq⟩
end Tk77

set_option maxHeartbeats 4000000
namespace Tk77
open PySem PySem.Spec PyProof.Rows L2 PD
variable {q : PyData → Prop} {y : Xc → Prop}
/-! ### sums -/
theorem in_d {x : PyData} {ds : List PyData} {b : Bool} (h1 : SeqAt.shaped x = true) (h2 : SeqAt.shaped (.tuple ds) = true) (h3 : (ds.any fun z => PyData.eqv z x) = b) (hq : q (.bool b)) : dCmp .In x (.tuple ds) q y := ⟨⟨h1, h2⟩, by rw [h3]; exact hq⟩
theorem in_nats (l : List Nat) (k : Nat) (hq : q (.bool (l.contains k))) : dCmp .In (.int (k : Int)) (dL l) q y := by
  refine in_d (b := l.contains k) (shaped_of (shp_int 0 _) (by decide)) (shaped_of (k := 1) (shp_tup fun d hd => ?_) (by decide)) ?_ hq
  · obtain ⟨a, _, rfl⟩ := List.mem_map.mp hd
    exact shp_int 0 _
  · rw [List.any_map, Bool.eq_iff_iff, List.any_eq_true, List.contains_iff_mem]
    constructor
    · rintro ⟨a, ha, h⟩
      have h : PyData.eqv (.int (a : Int)) (.int (k : Int)) = true := h
      have : (a : Int) = (k : Int) := by simpa [PyData.eqv] using h
      have : a = k := by omega
      rw [← this]
      exact ha
    · intro h
      exact ⟨k, h, by simp [PyData.eqv]⟩
def gamesLeft (t : List Tie) (k : Nat) : Int := ((t.filter fun e => [e.1, e.2.1].contains k).map fun e => e.2.2).sum
theorem w_games_left (t : List Tie) (k : Nat) (hl : t.length ≤ 1000) (hq : q (.int (gamesLeft t k))) : s_games_left_by [dT t, .int (k : Int)] q y := by
  rw [r_games_left_by]
  simp only [asB_b, asI_i, ite_t, ite_f, ret_ap, need_ap, opt_s, isInt_i, isInt_b, isInt_n, isInt_s, isInt_l, isInt_t, isInt_d, isBool_i, isBool_b, isBool_n, isBool_s, isBool_l, isBool_t, isBool_d, isTup_i, isTup_b, isTup_n, isTup_s, isTup_l, isTup_t, isTup_d, isStr_i, isStr_s, isStr_t, len_t, len_l, eq_ii, ne_ii, lt_ii, le_ii, gt_ii, ge_ii, add_ii, sub_ii, neg_i, add_tt, add_ll, items_t, items_l, walk_t, walk_l, sl_t, sl_l, ix_t, ix_l, mul_ii, fdiv_ii, mod_ii, int_i, abs_i, list_l, list_t, tuple_l, tuple_t, rg1_i, rg2_i, zip_l, zip_t, is_n, isnot_n, is_b, isnot_b, sizeOk_0, sizeOk_1, sizeOk_2, sizeOk_3, sizeOk_4, sizeOk_5, sizeOk_6, tupOf_1, tupOf_2, tupOf_3, tupOf_4, atI_0, atI_1, atI_2, atI_3, List.getD_cons_zero, List.getD_cons_succ, Bool.not_true, Bool.not_false, true_and, eq_self, ite_and, ite_or, ite_some, ite_two, dT]
  refine sum_filt (l := t) eT (fun e => [e.1, e.2.1].contains k) (fun e => e.2.2) (fun e he q x hq => ?_) (by rw [sizeLine_eq]; omega) hq
  simp only [asB_b, asI_i, ite_t, ite_f, ret_ap, need_ap, opt_s, isInt_i, isInt_b, isInt_n, isInt_s, isInt_l, isInt_t, isInt_d, isBool_i, isBool_b, isBool_n, isBool_s, isBool_l, isBool_t, isBool_d, isTup_i, isTup_b, isTup_n, isTup_s, isTup_l, isTup_t, isTup_d, isStr_i, isStr_s, isStr_t, len_t, len_l, eq_ii, ne_ii, lt_ii, le_ii, gt_ii, ge_ii, add_ii, sub_ii, neg_i, add_tt, add_ll, items_t, items_l, walk_t, walk_l, sl_t, sl_l, ix_t, ix_l, mul_ii, fdiv_ii, mod_ii, int_i, abs_i, list_l, list_t, tuple_l, tuple_t, rg1_i, rg2_i, zip_l, zip_t, is_n, isnot_n, is_b, isnot_b, sizeOk_0, sizeOk_1, sizeOk_2, sizeOk_3, sizeOk_4, sizeOk_5, sizeOk_6, tupOf_1, tupOf_2, tupOf_3, tupOf_4, atI_0, atI_1, atI_2, atI_3, List.getD_cons_zero, List.getD_cons_succ, Bool.not_true, Bool.not_false, true_and, eq_self, ite_and, ite_or, ite_some, ite_two, eT]
  refine in_nats [e.1, e.2.1] k ?_
  simp only [asB_b, asI_i, ite_t, ite_f, ret_ap, need_ap, opt_s, isInt_i, isInt_b, isInt_n, isInt_s, isInt_l, isInt_t, isInt_d, isBool_i, isBool_b, isBool_n, isBool_s, isBool_l, isBool_t, isBool_d, isTup_i, isTup_b, isTup_n, isTup_s, isTup_l, isTup_t, isTup_d, isStr_i, isStr_s, isStr_t, len_t, len_l, eq_ii, ne_ii, lt_ii, le_ii, gt_ii, ge_ii, add_ii, sub_ii, neg_i, add_tt, add_ll, items_t, items_l, walk_t, walk_l, sl_t, sl_l, ix_t, ix_l, mul_ii, fdiv_ii, mod_ii, int_i, abs_i, list_l, list_t, tuple_l, tuple_t, rg1_i, rg2_i, zip_l, zip_t, is_n, isnot_n, is_b, isnot_b, sizeOk_0, sizeOk_1, sizeOk_2, sizeOk_3, sizeOk_4, sizeOk_5, sizeOk_6, tupOf_1, tupOf_2, tupOf_3, tupOf_4, atI_0, atI_1, atI_2, atI_3, List.getD_cons_zero, List.getD_cons_succ, Bool.not_true, Bool.not_false, true_and, eq_self, ite_and, ite_or, ite_some, ite_two]
  exact hq
def mostOf (w : List Int) (t : List Tie) (k : Nat) : Int := w.getD k 0 + gamesLeft t k
theorem ixW {w : List Int} {k : Nat} (h : k < w.length) : atI (w.map PyData.int) (k : Int) = some (.int (w.getD k 0)) := atI_nat (by simp [h])
theorem w_most (w : List Int) (t : List Tie) (k : Nat) (hk : k < w.length) (hl : t.length ≤ 1000) (hq : q (.int (mostOf w t k))) : s_most_wins_by [dW w, dT t, .int (k : Int)] q y := by
  rw [r_most_wins_by]
  simp only [asB_b, asI_i, ite_t, ite_f, ret_ap, need_ap, opt_s, isInt_i, isInt_b, isInt_n, isInt_s, isInt_l, isInt_t, isInt_d, isBool_i, isBool_b, isBool_n, isBool_s, isBool_l, isBool_t, isBool_d, isTup_i, isTup_b, isTup_n, isTup_s, isTup_l, isTup_t, isTup_d, isStr_i, isStr_s, isStr_t, len_t, len_l, eq_ii, ne_ii, lt_ii, le_ii, gt_ii, ge_ii, add_ii, sub_ii, neg_i, add_tt, add_ll, items_t, items_l, walk_t, walk_l, sl_t, sl_l, ix_t, ix_l, mul_ii, fdiv_ii, mod_ii, int_i, abs_i, list_l, list_t, tuple_l, tuple_t, rg1_i, rg2_i, zip_l, zip_t, is_n, isnot_n, is_b, isnot_b, sizeOk_0, sizeOk_1, sizeOk_2, sizeOk_3, sizeOk_4, sizeOk_5, sizeOk_6, tupOf_1, tupOf_2, tupOf_3, tupOf_4, atI_0, atI_1, atI_2, atI_3, List.getD_cons_zero, List.getD_cons_succ, Bool.not_true, Bool.not_false, true_and, eq_self, ite_and, ite_or, ite_some, ite_two, dW, ixW hk]
  exact w_games_left t k hl hq
def among (t : List Tie) (l : List Nat) : Int := ((t.filter fun e => l.contains e.1 && l.contains e.2.1).map fun e => e.2.2).sum
theorem w_among (t : List Tie) (l : List Nat) (hl : t.length ≤ 1000) (hq : q (.int (among t l))) : s_games_among [dT t, dL l] q y := by
  rw [r_games_among]
  simp only [asB_b, asI_i, ite_t, ite_f, ret_ap, need_ap, opt_s, isInt_i, isInt_b, isInt_n, isInt_s, isInt_l, isInt_t, isInt_d, isBool_i, isBool_b, isBool_n, isBool_s, isBool_l, isBool_t, isBool_d, isTup_i, isTup_b, isTup_n, isTup_s, isTup_l, isTup_t, isTup_d, isStr_i, isStr_s, isStr_t, len_t, len_l, eq_ii, ne_ii, lt_ii, le_ii, gt_ii, ge_ii, add_ii, sub_ii, neg_i, add_tt, add_ll, items_t, items_l, walk_t, walk_l, sl_t, sl_l, ix_t, ix_l, mul_ii, fdiv_ii, mod_ii, int_i, abs_i, list_l, list_t, tuple_l, tuple_t, rg1_i, rg2_i, zip_l, zip_t, is_n, isnot_n, is_b, isnot_b, sizeOk_0, sizeOk_1, sizeOk_2, sizeOk_3, sizeOk_4, sizeOk_5, sizeOk_6, tupOf_1, tupOf_2, tupOf_3, tupOf_4, atI_0, atI_1, atI_2, atI_3, List.getD_cons_zero, List.getD_cons_succ, Bool.not_true, Bool.not_false, true_and, eq_self, ite_and, ite_or, ite_some, ite_two, dT]
  refine sum_filt (l := t) eT (fun e => l.contains e.1 && l.contains e.2.1) (fun e => e.2.2) (fun e he q x hq => ?_) (by rw [sizeLine_eq]; omega) hq
  simp only [asB_b, asI_i, ite_t, ite_f, ret_ap, need_ap, opt_s, isInt_i, isInt_b, isInt_n, isInt_s, isInt_l, isInt_t, isInt_d, isBool_i, isBool_b, isBool_n, isBool_s, isBool_l, isBool_t, isBool_d, isTup_i, isTup_b, isTup_n, isTup_s, isTup_l, isTup_t, isTup_d, isStr_i, isStr_s, isStr_t, len_t, len_l, eq_ii, ne_ii, lt_ii, le_ii, gt_ii, ge_ii, add_ii, sub_ii, neg_i, add_tt, add_ll, items_t, items_l, walk_t, walk_l, sl_t, sl_l, ix_t, ix_l, mul_ii, fdiv_ii, mod_ii, int_i, abs_i, list_l, list_t, tuple_l, tuple_t, rg1_i, rg2_i, zip_l, zip_t, is_n, isnot_n, is_b, isnot_b, sizeOk_0, sizeOk_1, sizeOk_2, sizeOk_3, sizeOk_4, sizeOk_5, sizeOk_6, tupOf_1, tupOf_2, tupOf_3, tupOf_4, atI_0, atI_1, atI_2, atI_3, List.getD_cons_zero, List.getD_cons_succ, Bool.not_true, Bool.not_false, true_and, eq_self, ite_and, ite_or, ite_some, ite_two, eT]
  refine in_nats l e.1 ?_
  cases e1 : l.contains e.1
  · rw [e1] at hq
    exact hq
  · rw [e1] at hq
    simp only [asB_b, asI_i, ite_t, ite_f, ret_ap, need_ap, opt_s, isInt_i, isInt_b, isInt_n, isInt_s, isInt_l, isInt_t, isInt_d, isBool_i, isBool_b, isBool_n, isBool_s, isBool_l, isBool_t, isBool_d, isTup_i, isTup_b, isTup_n, isTup_s, isTup_l, isTup_t, isTup_d, isStr_i, isStr_s, isStr_t, len_t, len_l, eq_ii, ne_ii, lt_ii, le_ii, gt_ii, ge_ii, add_ii, sub_ii, neg_i, add_tt, add_ll, items_t, items_l, walk_t, walk_l, sl_t, sl_l, ix_t, ix_l, mul_ii, fdiv_ii, mod_ii, int_i, abs_i, list_l, list_t, tuple_l, tuple_t, rg1_i, rg2_i, zip_l, zip_t, is_n, isnot_n, is_b, isnot_b, sizeOk_0, sizeOk_1, sizeOk_2, sizeOk_3, sizeOk_4, sizeOk_5, sizeOk_6, tupOf_1, tupOf_2, tupOf_3, tupOf_4, atI_0, atI_1, atI_2, atI_3, List.getD_cons_zero, List.getD_cons_succ, Bool.not_true, Bool.not_false, true_and, eq_self, ite_and, ite_or, ite_some, ite_two]
    refine in_nats l e.2.1 ?_
    simp only [asB_b, asI_i, ite_t, ite_f, ret_ap, need_ap, opt_s, isInt_i, isInt_b, isInt_n, isInt_s, isInt_l, isInt_t, isInt_d, isBool_i, isBool_b, isBool_n, isBool_s, isBool_l, isBool_t, isBool_d, isTup_i, isTup_b, isTup_n, isTup_s, isTup_l, isTup_t, isTup_d, isStr_i, isStr_s, isStr_t, len_t, len_l, eq_ii, ne_ii, lt_ii, le_ii, gt_ii, ge_ii, add_ii, sub_ii, neg_i, add_tt, add_ll, items_t, items_l, walk_t, walk_l, sl_t, sl_l, ix_t, ix_l, mul_ii, fdiv_ii, mod_ii, int_i, abs_i, list_l, list_t, tuple_l, tuple_t, rg1_i, rg2_i, zip_l, zip_t, is_n, isnot_n, is_b, isnot_b, sizeOk_0, sizeOk_1, sizeOk_2, sizeOk_3, sizeOk_4, sizeOk_5, sizeOk_6, tupOf_1, tupOf_2, tupOf_3, tupOf_4, atI_0, atI_1, atI_2, atI_3, List.getD_cons_zero, List.getD_cons_succ, Bool.not_true, Bool.not_false, true_and, eq_self, ite_and, ite_or, ite_some, ite_two]
    exact hq
def winsOf (w : List Int) (l : List Nat) : Int := (l.map fun k => w.getD k 0).sum
def over (w : List Int) (t : List Tie) (most : Int) (l : List Nat) : Bool := decide (most * l.length < winsOf w l + among t l)
theorem w_is_over (w : List Int) (t : List Tie) (most : Int) (l : List Nat) (hk : ∀ k ∈ l, k < w.length) (hl : t.length ≤ 1000) (h2 : l.length ≤ 1000) (hq : q (.bool (over w t most l))) : s_is_over [dW w, dT t, .int most, dL l] q y := by
  rw [r_is_over]
  show walkOf (.tuple (l.map fun (k : Nat) => PyData.int (k : Int))) _ y
  rw [walk_t]
  refine sum_map (l := l) (fun (k : Nat) => PyData.int (k : Int)) (fun k => w.getD k 0) (fun k hk' q x hq => ?_) (by rw [sizeLine_eq]; omega) ?_
  · simp only [asB_b, asI_i, ite_t, ite_f, ret_ap, need_ap, opt_s, isInt_i, isInt_b, isInt_n, isInt_s, isInt_l, isInt_t, isInt_d, isBool_i, isBool_b, isBool_n, isBool_s, isBool_l, isBool_t, isBool_d, isTup_i, isTup_b, isTup_n, isTup_s, isTup_l, isTup_t, isTup_d, isStr_i, isStr_s, isStr_t, len_t, len_l, eq_ii, ne_ii, lt_ii, le_ii, gt_ii, ge_ii, add_ii, sub_ii, neg_i, add_tt, add_ll, items_t, items_l, walk_t, walk_l, sl_t, sl_l, ix_t, ix_l, mul_ii, fdiv_ii, mod_ii, int_i, abs_i, list_l, list_t, tuple_l, tuple_t, rg1_i, rg2_i, zip_l, zip_t, is_n, isnot_n, is_b, isnot_b, sizeOk_0, sizeOk_1, sizeOk_2, sizeOk_3, sizeOk_4, sizeOk_5, sizeOk_6, tupOf_1, tupOf_2, tupOf_3, tupOf_4, atI_0, atI_1, atI_2, atI_3, List.getD_cons_zero, List.getD_cons_succ, Bool.not_true, Bool.not_false, true_and, eq_self, ite_and, ite_or, ite_some, ite_two, dW, ixW (hk k hk')]
    exact hq
  refine ⟨rfl, w_among t l hl ?_⟩
  have e0 : dLen [dL l] = dLen [.tuple (l.map fun (k : Nat) => PyData.int (k : Int))] := rfl
  simp only [asB_b, asI_i, ite_t, ite_f, ret_ap, need_ap, opt_s, isInt_i, isInt_b, isInt_n, isInt_s, isInt_l, isInt_t, isInt_d, isBool_i, isBool_b, isBool_n, isBool_s, isBool_l, isBool_t, isBool_d, isTup_i, isTup_b, isTup_n, isTup_s, isTup_l, isTup_t, isTup_d, isStr_i, isStr_s, isStr_t, len_t, len_l, eq_ii, ne_ii, lt_ii, le_ii, gt_ii, ge_ii, add_ii, sub_ii, neg_i, add_tt, add_ll, items_t, items_l, walk_t, walk_l, sl_t, sl_l, ix_t, ix_l, mul_ii, fdiv_ii, mod_ii, int_i, abs_i, list_l, list_t, tuple_l, tuple_t, rg1_i, rg2_i, zip_l, zip_t, is_n, isnot_n, is_b, isnot_b, sizeOk_0, sizeOk_1, sizeOk_2, sizeOk_3, sizeOk_4, sizeOk_5, sizeOk_6, tupOf_1, tupOf_2, tupOf_3, tupOf_4, atI_0, atI_1, atI_2, atI_3, List.getD_cons_zero, List.getD_cons_succ, Bool.not_true, Bool.not_false, true_and, eq_self, ite_and, ite_or, ite_some, ite_two, e0, List.length_map]
  exact ⟨.inl (.inr ⟨by omega, by omega⟩), hq⟩
/-! ### lots -/
def ptl (c : Nat) : Nat → List (List Nat)
  | 0 => []
  | k + 1 => if k = c then ptl c k else ptl c k ++ ([] :: ptl c k).map (· ++ [k])
theorem ptl_len (c : Nat) : ∀ k, (ptl c k).length + 1 ≤ 2 ^ k
  | 0 => Nat.le_refl _
  | k + 1 => by
    have := ptl_len c k
    rw [Nat.pow_succ]
    unfold ptl
    split
    · omega
    · rw [List.length_append, List.length_map, List.length_cons]
      omega
def isLot (n c : Nat) (l : List Nat) : Prop := l ≠ [] ∧ l.Pairwise (· < ·) ∧ ∀ k ∈ l, k < n ∧ k ≠ c
theorem mem_ptl {c : Nat} : ∀ {n : Nat} {l : List Nat}, l ∈ ptl c n ↔ isLot n c l
  | 0, l => by
    constructor
    · intro h; cases h
    · rintro ⟨h1, _, h3⟩
      cases l with
      | nil => exact absurd rfl h1
      | cons a l => exact absurd (h3 a (List.mem_cons_self ..)).1 (by omega)
  | n + 1, l => by
    have up : ∀ {l}, isLot n c l → isLot (n + 1) c l := fun h => ⟨h.1, h.2.1, fun k hk => ⟨Nat.lt_succ_of_lt (h.2.2 k hk).1, (h.2.2 k hk).2⟩⟩
    have down : isLot (n + 1) c l → n ∉ l → isLot n c l := fun h hn => ⟨h.1, h.2.1, fun k hk => by
      have := h.2.2 k hk
      have : k ≠ n := fun z => hn (by rw [← z]; exact hk)
      exact ⟨by omega, by omega⟩⟩
    unfold ptl
    split
    · rename_i hc
      rw [mem_ptl (n := n)]
      exact ⟨up, fun h => down h fun z => (h.2.2 n z).2 hc⟩
    · rename_i hc
      rw [List.mem_append, mem_ptl (n := n), List.mem_map]
      constructor
      · rintro (h | ⟨r, hr, rfl⟩)
        · exact up h
        · have hr : r = [] ∨ isLot n c r := by
            rcases List.mem_cons.mp hr with h | h
            · exact .inl h
            · exact .inr (mem_ptl.mp h)
          have hp : r.Pairwise (· < ·) ∧ ∀ k ∈ r, k < n ∧ k ≠ c := by
            rcases hr with rfl | h
            · exact ⟨.nil, fun k hk => by cases hk⟩
            · exact h.2
          refine ⟨by simp, ?_, fun k hk => ?_⟩
          · rw [List.pairwise_append]
            exact ⟨hp.1, List.pairwise_singleton .., fun a ha b hb => by rw [List.mem_singleton.mp hb]; exact (hp.2 a ha).1⟩
          · rcases List.mem_append.mp hk with h | h
            · have := hp.2 k h
              exact ⟨by omega, this.2⟩
            · rw [List.mem_singleton.mp h]
              exact ⟨by omega, hc⟩
      · intro h
        by_cases hn : n ∈ l
        · right
          rcases List.eq_nil_or_concat l with rfl | ⟨r, a, rfl⟩
          · cases hn
          rw [List.concat_eq_append] at *
          have hp := List.pairwise_append.mp h.2.1
          have ha : a = n := by
            rcases List.mem_append.mp hn with z | z
            · have := hp.2.2 n z a (by simp)
              have := (h.2.2 a (by simp)).1
              omega
            · exact (List.mem_singleton.mp z).symm
          subst ha
          refine ⟨r, ?_, rfl⟩
          cases r with
          | nil => exact List.mem_cons_self ..
          | cons b r =>
            refine List.mem_cons_of_mem _ (mem_ptl.mpr ⟨by simp, hp.1, fun k hk => ⟨hp.2.2 k hk a (by simp), (h.2.2 k (List.mem_append_left _ hk)).2⟩⟩)
        · exact .inl (down h hn)
theorem le_nil {a : PyData} {xs : List PyData} (h : PySem.W.dataLe false id (.tuple (a :: xs)) (.tuple []) = true) : False := by
  have h1 : (!PyProof.Rows.lexLt itemOrd (PySem.W.keyToks (.tuple [])) (PySem.W.keyToks (.tuple (a :: xs)))) = true := h
  rw [Bool.not_eq_true'] at h1
  have h2 : PySem.W.dataLt (.tuple []) (.tuple (a :: xs)) = false := h1
  rw [PySem.W.dataLt_tuple] at h2
  rw [PySem.W.toks_all_cons] at h2
  simp only [PySem.W.keyToksAll] at h2
  rw [lex_diff (O := itemOrd) (by simp)] at h2
  have h3 : decide ((0 : Int) < 1) = false := h2
  exact absurd h3 (by decide)
/-- sorted, without the first -/
theorem w_sorted (ls : List (List Nat)) (hl : ls.length ≤ 1000) (hne : ∀ l ∈ ls, l ≠ []) (hq : ∀ ms : List (List Nat), (∀ l, l ∈ ms ↔ l ∈ ls) → ms.length = ls.length → q (.list (ms.map dL))) : dSorted [.list (([] :: ls).map dL)] (fun v => dSl v (some (1 : Int)) none q y) y := by
  refine ⟨⟨.inr ⟨ls.map dL, rfl, fun d hd => ?_⟩, fun d hd e he => ?_, fun d hd => ?_, by rw [sizeLine_eq, List.length_map, List.length_cons]; omega⟩, ?_⟩
  · obtain ⟨l, _, rfl⟩ := List.mem_map.mp hd
    exact ⟨_, rfl⟩
  · obtain ⟨l, _, rfl⟩ := List.mem_map.mp hd
    obtain ⟨m, _, rfl⟩ := List.mem_map.mp he
    have := alike_ints (l.map fun (k : Nat) => (k : Int)) (m.map fun (k : Nat) => (k : Int))
    rw [List.map_map, List.map_map] at this
    exact this
  · obtain ⟨l, _, rfl⟩ := List.mem_map.mp hd
    refine shaped_of (k := 1) (shp_tup fun d hd => ?_) (by decide)
    obtain ⟨a, _, rfl⟩ := List.mem_map.mp hd
    exact shp_int 0 _
  · have hp := sortD_perm (([] :: ls).map dL)
    have hs := sortD_pair (([] :: ls).map dL)
    generalize sortD (([] :: ls).map dL) = S at hp hs
    show dSl (.list S) (some (1 : Int)) none q y
    rw [sl_l, show (1 : Int) = ((1 : Nat) : Int) from rfl, cutD_drop]
    have hm : dL [] ∈ S := hp.mem_iff.mpr (List.mem_cons_self ..)
    cases S with
    | nil => cases hm
    | cons s S =>
      have hs0 : s = dL [] := by
        rcases List.mem_cons.mp hm with h | h
        · exact h.symm
        · have h1 := (List.pairwise_cons.mp hs).1 _ h
          have h2 : s ∈ ([] :: ls).map dL := hp.mem_iff.mp (List.mem_cons_self ..)
          obtain ⟨l, _, rfl⟩ := List.mem_map.mp h2
          cases l with
          | nil => rfl
          | cons a l => exact (le_nil h1).elim
      subst hs0
      have hp' : S.Perm (ls.map dL) := List.Perm.cons_inv hp
      obtain ⟨ms, e, hms⟩ := map_of dL (fun l => l ∈ ls) (ys := S) fun v hv => by
        obtain ⟨l, hl, e⟩ := List.mem_map.mp (hp'.mem_iff.mp hv)
        exact ⟨l, e.symm, hl⟩
      show q (.list (List.drop 1 (dL [] :: S)))
      rw [List.drop_one, List.tail_cons, e]
      refine hq ms (fun l => ⟨hms l, fun h => ?_⟩) (by
        have := hp'.length_eq
        rw [e, List.length_map, List.length_map] at this
        exact this)
      have : dL l ∈ S := hp'.mem_iff.mpr (List.mem_map.mpr ⟨l, h, rfl⟩)
      rw [e] at this
      obtain ⟨m, hm, em⟩ := List.mem_map.mp this
      have : m = l := by
        have e2 : (m.map fun (k : Nat) => PyData.int (k : Int)) = l.map fun (k : Nat) => PyData.int (k : Int) := by
          injection em
        exact List.map_inj_right (fun a b h => by injection h with h; omega) |>.mp e2
      rw [← this]
      exact hm
end Tk77

set_option maxHeartbeats 4000000
namespace Tk77
open PySem PySem.Spec PyProof.Rows L2 PD
variable {q : PyData → Prop} {y : Xc → Prop}
theorem ptl_le {c : Nat} : ∀ {k : Nat} {l : List Nat}, l ∈ ptl c k → l.length ≤ k
  | 0, l, h => by cases h
  | k + 1, l, h => by
    unfold ptl at h
    split at h
    · have := ptl_le h; omega
    · rcases List.mem_append.mp h with h | h
      · have := ptl_le h; omega
      · obtain ⟨r, hr, rfl⟩ := List.mem_map.mp h
        rw [List.length_append]
        rcases List.mem_cons.mp hr with rfl | hr
        · show 0 + 1 ≤ _; omega
        · have := ptl_le hr
          show _ + 1 ≤ _; omega
theorem isLot.len {n c : Nat} {l : List Nat} (h : isLot n c l) : l.length ≤ n := ptl_le (mem_ptl.mpr h)
theorem ptl_small {c k : Nat} (hk : k ≤ 5) : (ptl c k).length ≤ 31 := by
  have h1 := ptl_len c k
  have h2 : 2 ^ k ≤ 2 ^ 5 := Nat.pow_le_pow_right (by omega) hk
  omega
theorem ptl_no {c k : Nat} : ([] :: ptl c (k + 1)).map dL = if k = c then ([] :: ptl c k).map dL else ([] :: ptl c k).map dL ++ ([] :: ptl c k).map fun l => dL (l ++ [k]) := by
  rw [ptl]
  split
  · rfl
  · show dL [] :: (ptl c k ++ ([] :: ptl c k).map (· ++ [k])).map dL = _
    rw [List.map_append, List.map_map]
    rfl
theorem dL_app (l : List Nat) (k : Nat) : dL (l ++ [k]) = .tuple ((l.map fun (k : Nat) => PyData.int (k : Int)) ++ [PyData.int (k : Int)]) := by
  rw [dL, List.map_append]
  rfl
theorem w_lots (n c : Nat) (hn : n ≤ 5) (hq : ∀ ms : List (List Nat), (∀ l, l ∈ ms ↔ isLot n c l) → ms.length ≤ 31 → q (.list (ms.map dL))) : s_lots_of_others [.int (n : Int), .int (c : Int)] q y := by
  have loop : ∀ (K : SK) (m k : Nat) (o1 o2 : Option PyData), k + m ≤ 5 → (∀ o1 o2, K.nx [some (.int (n : Int)), some (.int (c : Int)), some (.list (([] :: ptl c (k + m)).map dL)), o1, o2]) →
      forGo (gmOf MD F_15 d_lots_of_others) (forTg (headS (List.tail d_lots_of_others.body))) (exSs (exS 39 (gmOf MD F_15 d_lots_of_others)) (forBd (headS (List.tail d_lots_of_others.body)))) ((List.range' k m).map fun (k : Nat) => PyData.int (k : Int)) [some (.int (n : Int)), some (.int (c : Int)), some (.list (([] :: ptl c k).map dL)), o1, o2] K := by
    intro K m
    induction m with
    | zero => intro k o1 o2 _ hk; exact hk o1 o2
    | succ m ih =>
      intro k o1 o2 hl hk
      rw [List.range'_succ]
      show exSs (exS 39 (gmOf MD F_15 d_lots_of_others)) (forBd (headS (List.tail d_lots_of_others.body))) [some (.int (n : Int)), some (.int (c : Int)), some (.list (([] :: ptl c k).map dL)), some (.int (k : Int)), o2] _
      rw [rb_lots_of_others_1]
      have go : ∀ o1 o2, forGo (gmOf MD F_15 d_lots_of_others) (forTg (headS (List.tail d_lots_of_others.body))) (exSs (exS 39 (gmOf MD F_15 d_lots_of_others)) (forBd (headS (List.tail d_lots_of_others.body)))) ((List.range' (k + 1) m).map fun (k : Nat) => PyData.int (k : Int)) [some (.int (n : Int)), some (.int (c : Int)), some (.list (([] :: ptl c (k + 1)).map dL)), o1, o2] K := fun o1 o2 => by
        refine ih (k + 1) o1 o2 (by omega) fun o1 o2 => ?_
        rw [show k + 1 + m = k + (m + 1) by omega]
        exact hk o1 o2
      simp only [asB_b, asI_i, ite_t, ite_f, ret_ap, need_ap, opt_s, isInt_i, isInt_b, isInt_n, isInt_s, isInt_l, isInt_t, isInt_d, isBool_i, isBool_b, isBool_n, isBool_s, isBool_l, isBool_t, isBool_d, isTup_i, isTup_b, isTup_n, isTup_s, isTup_l, isTup_t, isTup_d, isStr_i, isStr_s, isStr_t, len_t, len_l, eq_ii, ne_ii, lt_ii, le_ii, gt_ii, ge_ii, add_ii, sub_ii, neg_i, add_tt, add_ll, items_t, items_l, walk_t, walk_l, sl_t, sl_l, ix_t, ix_l, mul_ii, fdiv_ii, mod_ii, int_i, abs_i, list_l, list_t, tuple_l, tuple_t, rg1_i, rg2_i, zip_l, zip_t, is_n, isnot_n, is_b, isnot_b, sizeOk_0, sizeOk_1, sizeOk_2, sizeOk_3, sizeOk_4, sizeOk_5, sizeOk_6, tupOf_1, tupOf_2, tupOf_3, tupOf_4, atI_0, atI_1, atI_2, atI_3, List.getD_cons_zero, List.getD_cons_succ, Bool.not_true, Bool.not_false, true_and, eq_self, ite_and, ite_or, ite_some, ite_two]
      have e1 : (!decide ((k : Int) = (c : Int))) = !decide (k = c) := by
        congr 1
        rw [decide_eq_decide]
        omega
      have hsm := ptl_small (c := c) (k := k) (by omega)
      by_cases hkc : k = c
      · have e2 : ([] :: ptl c (k + 1)).map dL = ([] :: ptl c k).map dL := by rw [ptl_no, if_pos hkc]
        have g := go (some (.int (k : Int))) o2
        rw [e2] at g
        rw [decide_eq_true (by omega : (k : Int) = (c : Int))]
        exact g
      · have e2 : ([] :: ptl c (k + 1)).map dL = ([] :: ptl c k).map dL ++ ([] :: ptl c k).map fun l => dL (l ++ [k]) := by rw [ptl_no, if_neg hkc]
        have g := go (some (.int (k : Int))) o2
        rw [e2] at g
        rw [decide_eq_false (by omega : ¬ (k : Int) = (c : Int))]
        show lcGo _ (([] :: ptl c k).map dL) [] _ _
        refine lcGo_maps dL (fun l => dL (l ++ [k])) (fun l hl q x hq => ?_) (by rw [sizeLine_eq, List.length_cons]; omega) ?_
        · have hle : l.length ≤ 5 := by
            rcases List.mem_cons.mp hl with rfl | h
            · exact Nat.zero_le _
            · have := ptl_le h; omega
          show itemsOf (.tuple (l.map fun (k : Nat) => PyData.int (k : Int))) _ _
          rw [items_t]
          rw [dL_app] at hq
          exact ⟨sizeOk_of (by rw [List.length_append, List.length_map]; show _ + 1 ≤ _; omega), hq⟩
        refine ⟨by rw [List.length_map, List.length_map, List.length_cons, sizeLine_eq]; omega, ?_⟩
        exact g
  rw [r_lots_of_others]
  simp only [asB_b, asI_i, ite_t, ite_f, ret_ap, need_ap, opt_s, isInt_i, isInt_b, isInt_n, isInt_s, isInt_l, isInt_t, isInt_d, isBool_i, isBool_b, isBool_n, isBool_s, isBool_l, isBool_t, isBool_d, isTup_i, isTup_b, isTup_n, isTup_s, isTup_l, isTup_t, isTup_d, isStr_i, isStr_s, isStr_t, len_t, len_l, eq_ii, ne_ii, lt_ii, le_ii, gt_ii, ge_ii, add_ii, sub_ii, neg_i, add_tt, add_ll, items_t, items_l, walk_t, walk_l, sl_t, sl_l, ix_t, ix_l, mul_ii, fdiv_ii, mod_ii, int_i, abs_i, list_l, list_t, tuple_l, tuple_t, rg1_i, rg2_i, zip_l, zip_t, is_n, isnot_n, is_b, isnot_b, sizeOk_0, sizeOk_1, sizeOk_2, sizeOk_3, sizeOk_4, sizeOk_5, sizeOk_6, tupOf_1, tupOf_2, tupOf_3, tupOf_4, atI_0, atI_1, atI_2, atI_3, List.getD_cons_zero, List.getD_cons_succ, Bool.not_true, Bool.not_false, true_and, eq_self, ite_and, ite_or, ite_some, ite_two]
  refine ⟨⟨by omega, by omega⟩, ?_⟩
  rw [rangeD_nat, List.range_eq_range']
  refine loop _ n 0 none none (by omega) fun o1 o2 => ?_
  dsimp only
  rw [rr_lots_of_others_1, Nat.zero_add]
  refine w_sorted (ptl c n) (by have := ptl_small (c := c) hn; omega) (fun l hl => (mem_ptl.mp hl).1) fun ms h1 h2 => ?_
  exact hq ms (fun l => (h1 l).trans mem_ptl) (by rw [h2]; exact ptl_small hn)
theorem w_lot_over_most (w : List Int) (t : List Tie) (c : Nat) (most : Int) (hw : w.length ≤ 5) (ht : t.length ≤ 1000) (h1 : (∀ l, isLot w.length c l → over w t most l = false) → q .none) (h2 : ∀ l, isLot w.length c l → over w t most l = true → q (dL l)) :
    s_lot_over_most [dW w, dT t, .int (c : Int), .int most] q y := by
  rw [r_lot_over_most]
  have e0 : dLen [dW w] = dLen [.tuple (w.map .int)] := rfl
  simp only [asB_b, asI_i, ite_t, ite_f, ret_ap, need_ap, opt_s, isInt_i, isInt_b, isInt_n, isInt_s, isInt_l, isInt_t, isInt_d, isBool_i, isBool_b, isBool_n, isBool_s, isBool_l, isBool_t, isBool_d, isTup_i, isTup_b, isTup_n, isTup_s, isTup_l, isTup_t, isTup_d, isStr_i, isStr_s, isStr_t, len_t, len_l, eq_ii, ne_ii, lt_ii, le_ii, gt_ii, ge_ii, add_ii, sub_ii, neg_i, add_tt, add_ll, items_t, items_l, walk_t, walk_l, sl_t, sl_l, ix_t, ix_l, mul_ii, fdiv_ii, mod_ii, int_i, abs_i, list_l, list_t, tuple_l, tuple_t, rg1_i, rg2_i, zip_l, zip_t, is_n, isnot_n, is_b, isnot_b, sizeOk_0, sizeOk_1, sizeOk_2, sizeOk_3, sizeOk_4, sizeOk_5, sizeOk_6, tupOf_1, tupOf_2, tupOf_3, tupOf_4, atI_0, atI_1, atI_2, atI_3, List.getD_cons_zero, List.getD_cons_succ, Bool.not_true, Bool.not_false, true_and, eq_self, ite_and, ite_or, ite_some, ite_two, e0, List.length_map]
  refine w_lots w.length c hw fun ms hm hl => ?_
  simp only [asB_b, asI_i, ite_t, ite_f, ret_ap, need_ap, opt_s, isInt_i, isInt_b, isInt_n, isInt_s, isInt_l, isInt_t, isInt_d, isBool_i, isBool_b, isBool_n, isBool_s, isBool_l, isBool_t, isBool_d, isTup_i, isTup_b, isTup_n, isTup_s, isTup_l, isTup_t, isTup_d, isStr_i, isStr_s, isStr_t, len_t, len_l, eq_ii, ne_ii, lt_ii, le_ii, gt_ii, ge_ii, add_ii, sub_ii, neg_i, add_tt, add_ll, items_t, items_l, walk_t, walk_l, sl_t, sl_l, ix_t, ix_l, mul_ii, fdiv_ii, mod_ii, int_i, abs_i, list_l, list_t, tuple_l, tuple_t, rg1_i, rg2_i, zip_l, zip_t, is_n, isnot_n, is_b, isnot_b, sizeOk_0, sizeOk_1, sizeOk_2, sizeOk_3, sizeOk_4, sizeOk_5, sizeOk_6, tupOf_1, tupOf_2, tupOf_3, tupOf_4, atI_0, atI_1, atI_2, atI_3, List.getD_cons_zero, List.getD_cons_succ, Bool.not_true, Bool.not_false, true_and, eq_self, ite_and, ite_or, ite_some, ite_two]
  have loop : ∀ (K : SK) (rs : List (List Nat)) (o : Option PyData), K.rt = q → (∀ l ∈ rs, isLot w.length c l) → (∀ o, (∀ l ∈ rs, over w t most l = false) → K.nx [some (dW w), some (dT t), some (.int (c : Int)), some (.int most), o]) →
      forGo (gmOf MD F_16 d_lot_over_most) (forTg (headS d_lot_over_most.body)) (exSs (exS 39 (gmOf MD F_16 d_lot_over_most)) (forBd (headS d_lot_over_most.body))) (rs.map dL) [some (dW w), some (dT t), some (.int (c : Int)), some (.int most), o] K := by
    intro K rs
    induction rs with
    | nil => intro o _ _ hk; exact hk o fun l hl => by cases hl
    | cons l rs ih =>
      intro o hr hL hk
      show exSs (exS 39 (gmOf MD F_16 d_lot_over_most)) (forBd (headS d_lot_over_most.body)) [some (dW w), some (dT t), some (.int (c : Int)), some (.int most), some (dL l)] _
      rw [rb_lot_over_most_1]
      have hl := hL l (List.mem_cons_self ..)
      refine ⟨rfl, w_is_over w t most l (fun k hk => (hl.2.2 k hk).1) ht (by have := hl.len; omega) ?_⟩
      cases e : over w t most l
      · refine ih _ hr (fun m hm => hL m (List.mem_cons_of_mem _ hm)) fun o h => hk o fun m hm => ?_
        rcases List.mem_cons.mp hm with rfl | hm
        · exact e
        · exact h m hm
      · show K.rt (dL l)
        rw [hr]
        exact h2 l hl e
  refine loop _ ms none rfl (fun l hl => (hm l).mp hl) fun o h => ?_
  dsimp only
  rw [rr_lot_over_most_1]
  exact h1 fun l hl => h l ((hm l).mpr hl)
theorem w_lot_over (w : List Int) (t : List Tie) (c : Nat) (hc : c < w.length) (hw : w.length ≤ 5) (ht : t.length ≤ 1000) (h1 : (∀ l, isLot w.length c l → over w t (mostOf w t c) l = false) → q .none) (h2 : ∀ l, isLot w.length c l → over w t (mostOf w t c) l = true → q (dL l)) :
    s_lot_over_by [dW w, dT t, .int (c : Int)] q y := by
  rw [r_lot_over_by]
  exact ⟨rfl, w_most w t c hc ht ⟨rfl, w_lot_over_most w t c _ hw ht h1 h2⟩⟩
def canBe (w : List Int) (t : List Tie) (c : Nat) : Prop := ∀ l, isLot w.length c l → over w t (mostOf w t c) l = false
theorem w_can_be (w : List Int) (t : List Tie) (c : Nat) (hc : c < w.length) (hw : w.length ≤ 5) (ht : t.length ≤ 1000) (h1 : canBe w t c → q (.bool true)) (h2 : ¬ canBe w t c → q (.bool false)) : s_can_be_first_by [dW w, dT t, .int (c : Int)] q y := by
  rw [r_can_be_first_by]
  refine ⟨rfl, w_lot_over w t c hc hw ht (fun h => ?_) fun l hl e => ?_⟩
  · exact h1 h
  · show dCmp .Is (.tuple _) .none _ _
    exact h2 fun h => by rw [h l hl] at e; cases e
end Tk77

set_option maxHeartbeats 4000000
namespace Tk77
open PySem PySem.Spec PyProof.Rows L2 PD
variable {q : PyData → Prop} {y : Xc → Prop}
/-- a paper: any plain value -/
structure PV (v : PyData) : Prop where
  ty : (tyD v).isSome = true
  sh : ∀ ds, v = .tuple ds → shp 10 v
  tup : ∀ ds, v = .tuple ds → ds.length ≤ 1000 ∧ ∀ d ∈ ds, (tyD d).isSome = true ∧ ∀ es, d = .tuple es → es.length ≤ 1000 ∧ ∀ e ∈ es, (tyD e).isSome = true
theorem eqv_nil {ds : List PyData} : PyData.eqv (.list ds) (.list []) = ds.isEmpty := by
  cases ds <;> simp [PyData.eqv, PyData.eqvAll]
theorem eqv_tnil {ds : List PyData} : PyData.eqv (.tuple ds) (.tuple []) = ds.isEmpty := by
  cases ds <;> simp [PyData.eqv, PyData.eqvAll]
theorem eq_tnil {ds : List PyData} {k : Nat} (h : shp k (.tuple ds)) (hk : k ≤ 64) (hq : q (.bool ds.isEmpty)) : dCmp .Eq (.tuple ds) (.tuple []) q y := by
  rw [eq_ab, eqv_tnil]
  exact ⟨⟨shaped_of h hk, by decide +kernel⟩, hq⟩
theorem ne_nil_i {l : List Int} (hq : q (.bool (!l.isEmpty))) : dCmp .NotEq (.list (l.map .int)) (.list []) q y := by
  rw [ne_ab, eqv_nil]
  refine ⟨⟨shaped_of (k := 1) (shp_list fun d hd => ?_) (by decide), by decide +kernel⟩, ?_⟩
  · obtain ⟨a, _, rfl⟩ := List.mem_map.mp hd
    exact shp_int 0 _
  · rw [List.isEmpty_map]
    exact hq
theorem isBetween_nat {d : PyData} {n : Nat} (h : isBetween d 0 ((n : Int) - 1) = true) : ∃ k : Nat, d = .int (k : Int) ∧ k < n := by
  cases d with
  | int i =>
    have h : (decide ((0 : Int) ≤ i) && decide (i ≤ (n : Int) - 1)) = true := h
    simp only [Bool.and_eq_true, decide_eq_true_eq] at h
    exact ⟨i.toNat, by rw [show ((i.toNat : Nat) : Int) = i by omega], by omega⟩
  | _ => cases h
theorem nats_of {n : Nat} : ∀ {ds : List PyData}, (∀ d ∈ ds, isBetween d 0 ((n : Int) - 1) = true) → ∃ l : List Nat, ds = (l.map fun (k : Nat) => PyData.int (k : Int)) ∧ ∀ k ∈ l, k < n
  | [], _ => ⟨[], rfl, fun k hk => by cases hk⟩
  | d :: ds, h => by
    obtain ⟨k, e, hk⟩ := isBetween_nat (h d (List.mem_cons_self ..))
    obtain ⟨l, e2, hl⟩ := nats_of fun d hd => h d (List.mem_cons_of_mem _ hd)
    refine ⟨k :: l, by rw [e, e2]; rfl, fun m hm => ?_⟩
    rcases List.mem_cons.mp hm with rfl | hm
    · exact hk
    · exact hl m hm
theorem dL_inj {l m : List Nat} (h : dL l = dL m) : l = m := by
  have e2 : (l.map fun (k : Nat) => PyData.int (k : Int)) = m.map fun (k : Nat) => PyData.int (k : Int) := by
    injection h
  exact List.map_inj_right (fun a b h => by injection h with h; omega) |>.mp e2
/-! ### rising -/
def rising (l : List Nat) : Bool := (List.range (l.length - 1)).all fun k => decide (l.getD k 0 < l.getD (k + 1) 0)
theorem rising_iff {l : List Nat} : rising l = true ↔ l.Pairwise (· < ·) := by
  rw [rising, List.all_eq_true, List.pairwise_iff_getElem]
  constructor
  · intro h i j hi hj hij
    induction j with
    | zero => omega
    | succ j ih =>
      have h1 := h j (List.mem_range.mpr (by omega))
      rw [decide_eq_true_eq] at h1
      have e1 : l.getD j 0 = l[j]'(by omega) := by simp [List.getD_eq_getElem?_getD, show j < l.length by omega]
      have e2 : l.getD (j + 1) 0 = l[j + 1] := by simp [List.getD_eq_getElem?_getD, hj]
      rw [e1, e2] at h1
      rcases Nat.lt_or_ge i j with hlt | hge
      · have := ih (by omega) hlt
        omega
      · have : i = j := by omega
        subst this
        exact h1
  · intro h k hk
    have hk := List.mem_range.mp hk
    have h1 := h k (k + 1) (by omega) (by omega) (by omega)
    have e1 : l.getD k 0 = l[k]'(by omega) := by simp [List.getD_eq_getElem?_getD, show k < l.length by omega]
    have e2 : l.getD (k + 1) 0 = l[k + 1]'(by omega) := by simp [List.getD_eq_getElem?_getD, show k + 1 < l.length by omega]
    rw [decide_eq_true_eq, e1, e2]
    exact h1
theorem ixL {l : List Nat} {k : Nat} (h : k < l.length) : atI (l.map fun (k : Nat) => PyData.int (k : Int)) (k : Int) = some (.int ((l.getD k 0 : Nat) : Int)) := atI_nat (by simp [h])
theorem rangeD1 (n : Nat) : rangeD 1 (n : Int) = (List.range (n - 1)).map fun (k : Nat) => PyData.int (1 + (k : Int)) := by
  unfold rangeD
  rw [show ((n : Int) - 1).toNat = n - 1 by omega]
theorem w_rising (l : List Nat) (hl : l.length ≤ 1000) (hq : q (.bool (rising l))) : s_are_rising [dL l] q y := by
  rw [r_are_rising]
  have e0 : dLen [dL l] = dLen [.tuple (l.map fun (k : Nat) => PyData.int (k : Int))] := rfl
  simp only [asB_b, asI_i, ite_t, ite_f, ret_ap, need_ap, opt_s, isInt_i, isInt_b, isInt_n, isInt_s, isInt_l, isInt_t, isInt_d, isBool_i, isBool_b, isBool_n, isBool_s, isBool_l, isBool_t, isBool_d, isTup_i, isTup_b, isTup_n, isTup_s, isTup_l, isTup_t, isTup_d, isStr_i, isStr_s, isStr_t, len_t, len_l, eq_ii, ne_ii, lt_ii, le_ii, gt_ii, ge_ii, add_ii, sub_ii, neg_i, add_tt, add_ll, items_t, items_l, walk_t, walk_l, sl_t, sl_l, ix_t, ix_l, mul_ii, fdiv_ii, mod_ii, int_i, abs_i, list_l, list_t, tuple_l, tuple_t, rg1_i, rg2_i, zip_l, zip_t, is_n, isnot_n, is_b, isnot_b, sizeOk_0, sizeOk_1, sizeOk_2, sizeOk_3, sizeOk_4, sizeOk_5, sizeOk_6, tupOf_1, tupOf_2, tupOf_3, tupOf_4, atI_0, atI_1, atI_2, atI_3, List.getD_cons_zero, List.getD_cons_succ, Bool.not_true, Bool.not_false, true_and, eq_self, ite_and, ite_or, ite_some, ite_two, e0, List.length_map]
  refine ⟨⟨⟨by omega, by omega⟩, by omega, by omega⟩, ?_⟩
  rw [rangeD1]
  refine all_map (l := List.range (l.length - 1)) (fun (k : Nat) => PyData.int (1 + (k : Int))) (fun k => decide (l.getD k 0 < l.getD (k + 1) 0)) (fun k hk q x hq => ?_) (by rw [sizeLine_eq, List.length_range]; omega) hq
  have hk := List.mem_range.mp hk
  have e1 : (1 : Int) + (k : Int) - 1 = (k : Int) := by omega
  have e2 : (1 : Int) + (k : Int) = ((k + 1 : Nat) : Int) := by omega
  have e3 : ∀ i : Int, dIx (dL l) (.int i) = dIx (.tuple (l.map fun (k : Nat) => PyData.int (k : Int))) (.int i) := fun _ => rfl
  simp only [asB_b, asI_i, ite_t, ite_f, ret_ap, need_ap, opt_s, isInt_i, isInt_b, isInt_n, isInt_s, isInt_l, isInt_t, isInt_d, isBool_i, isBool_b, isBool_n, isBool_s, isBool_l, isBool_t, isBool_d, isTup_i, isTup_b, isTup_n, isTup_s, isTup_l, isTup_t, isTup_d, isStr_i, isStr_s, isStr_t, len_t, len_l, eq_ii, ne_ii, lt_ii, le_ii, gt_ii, ge_ii, add_ii, sub_ii, neg_i, add_tt, add_ll, items_t, items_l, walk_t, walk_l, sl_t, sl_l, ix_t, ix_l, mul_ii, fdiv_ii, mod_ii, int_i, abs_i, list_l, list_t, tuple_l, tuple_t, rg1_i, rg2_i, zip_l, zip_t, is_n, isnot_n, is_b, isnot_b, sizeOk_0, sizeOk_1, sizeOk_2, sizeOk_3, sizeOk_4, sizeOk_5, sizeOk_6, tupOf_1, tupOf_2, tupOf_3, tupOf_4, atI_0, atI_1, atI_2, atI_3, List.getD_cons_zero, List.getD_cons_succ, Bool.not_true, Bool.not_false, true_and, eq_self, ite_and, ite_or, ite_some, ite_two, e1, e3]
  rw [ixL (by omega)]
  simp only [asB_b, asI_i, ite_t, ite_f, ret_ap, need_ap, opt_s, isInt_i, isInt_b, isInt_n, isInt_s, isInt_l, isInt_t, isInt_d, isBool_i, isBool_b, isBool_n, isBool_s, isBool_l, isBool_t, isBool_d, isTup_i, isTup_b, isTup_n, isTup_s, isTup_l, isTup_t, isTup_d, isStr_i, isStr_s, isStr_t, len_t, len_l, eq_ii, ne_ii, lt_ii, le_ii, gt_ii, ge_ii, add_ii, sub_ii, neg_i, add_tt, add_ll, items_t, items_l, walk_t, walk_l, sl_t, sl_l, ix_t, ix_l, mul_ii, fdiv_ii, mod_ii, int_i, abs_i, list_l, list_t, tuple_l, tuple_t, rg1_i, rg2_i, zip_l, zip_t, is_n, isnot_n, is_b, isnot_b, sizeOk_0, sizeOk_1, sizeOk_2, sizeOk_3, sizeOk_4, sizeOk_5, sizeOk_6, tupOf_1, tupOf_2, tupOf_3, tupOf_4, atI_0, atI_1, atI_2, atI_3, List.getD_cons_zero, List.getD_cons_succ, Bool.not_true, Bool.not_false, true_and, eq_self, ite_and, ite_or, ite_some, ite_two]
  rw [e2, ixL (by omega)]
  simp only [asB_b, asI_i, ite_t, ite_f, ret_ap, need_ap, opt_s, isInt_i, isInt_b, isInt_n, isInt_s, isInt_l, isInt_t, isInt_d, isBool_i, isBool_b, isBool_n, isBool_s, isBool_l, isBool_t, isBool_d, isTup_i, isTup_b, isTup_n, isTup_s, isTup_l, isTup_t, isTup_d, isStr_i, isStr_s, isStr_t, len_t, len_l, eq_ii, ne_ii, lt_ii, le_ii, gt_ii, ge_ii, add_ii, sub_ii, neg_i, add_tt, add_ll, items_t, items_l, walk_t, walk_l, sl_t, sl_l, ix_t, ix_l, mul_ii, fdiv_ii, mod_ii, int_i, abs_i, list_l, list_t, tuple_l, tuple_t, rg1_i, rg2_i, zip_l, zip_t, is_n, isnot_n, is_b, isnot_b, sizeOk_0, sizeOk_1, sizeOk_2, sizeOk_3, sizeOk_4, sizeOk_5, sizeOk_6, tupOf_1, tupOf_2, tupOf_3, tupOf_4, atI_0, atI_1, atI_2, atI_3, List.getD_cons_zero, List.getD_cons_succ, Bool.not_true, Bool.not_false, true_and, eq_self, ite_and, ite_or, ite_some, ite_two]
  have e4 : decide (((l.getD k 0 : Nat) : Int) < ((l.getD (k + 1) 0 : Nat) : Int)) = decide (l.getD k 0 < l.getD (k + 1) 0) := by
    rw [decide_eq_decide]; omega
  rw [e4]
  exact hq
def isOverP (w : List Int) (t : List Tie) (c : Nat) (v : PyData) : Prop := ∃ l, v = dL l ∧ isLot w.length c l ∧ over w t (mostOf w t c) l = true
theorem w_indexes (n : Nat) (v : PyData) (h : PV v) (h1 : ∀ l : List Nat, v = dL l → (∀ k ∈ l, k < n) → q (.bool true)) (h2 : (∀ l : List Nat, v = dL l → ¬ ∀ k ∈ l, k < n) → q (.bool false)) : s_are_indexes [.int (n : Int), v] q y := by
  rw [r_are_indexes]
  have no : (∀ ds, v ≠ .tuple ds) → q (.bool false) := fun hn => h2 fun l e => absurd e (hn _)
  rcases v with _ | _ | i | _ | _ | ds | kvs
  case tuple =>
    obtain ⟨h3, h4⟩ := h.tup ds rfl
    simp only [asB_b, asI_i, ite_t, ite_f, ret_ap, need_ap, opt_s, isInt_i, isInt_b, isInt_n, isInt_s, isInt_l, isInt_t, isInt_d, isBool_i, isBool_b, isBool_n, isBool_s, isBool_l, isBool_t, isBool_d, isTup_i, isTup_b, isTup_n, isTup_s, isTup_l, isTup_t, isTup_d, isStr_i, isStr_s, isStr_t, len_t, len_l, eq_ii, ne_ii, lt_ii, le_ii, gt_ii, ge_ii, add_ii, sub_ii, neg_i, add_tt, add_ll, items_t, items_l, walk_t, walk_l, sl_t, sl_l, ix_t, ix_l, mul_ii, fdiv_ii, mod_ii, int_i, abs_i, list_l, list_t, tuple_l, tuple_t, rg1_i, rg2_i, zip_l, zip_t, is_n, isnot_n, is_b, isnot_b, sizeOk_0, sizeOk_1, sizeOk_2, sizeOk_3, sizeOk_4, sizeOk_5, sizeOk_6, tupOf_1, tupOf_2, tupOf_3, tupOf_4, atI_0, atI_1, atI_2, atI_3, List.getD_cons_zero, List.getD_cons_succ, Bool.not_true, Bool.not_false, true_and, eq_self, ite_and, ite_or, ite_some, ite_two]
    refine all_of (p := fun d => isBetween d 0 ((n : Int) - 1)) (fun d hd q x hq => w_is_between d 0 _ (h4 d hd).1 hq) (by rw [sizeLine_eq]; omega) ?_
    cases e : ds.all fun d => isBetween d 0 ((n : Int) - 1)
    · refine h2 fun l hl hk => ?_
      injection hl with hl
      have : (ds.all fun d => isBetween d 0 ((n : Int) - 1)) = true := by
        rw [hl, List.all_eq_true]
        intro d hd
        obtain ⟨k, hk', rfl⟩ := List.mem_map.mp hd
        show (decide ((0 : Int) ≤ (k : Int)) && decide ((k : Int) ≤ (n : Int) - 1)) = true
        have := hk k hk'
        simp
        omega
      rw [this] at e
      cases e
    · obtain ⟨l, e1, hl⟩ := nats_of fun d hd => List.all_eq_true.mp e d hd
      exact h1 l (by rw [e1]; rfl) hl
  case dict =>
    rcases kvs with _ | _
    · exact no fun _ z => by cases z
    · have := h.ty
      cases this
  all_goals exact no fun _ z => by cases z
theorem w_is_lot_over (w : List Int) (t : List Tie) (c : Nat) (v : PyData) (hc : c < w.length) (hw : w.length ≤ 5) (ht : t.length ≤ 1000) (h : PV v) (h1 : isOverP w t c v → q (.bool true)) (h2 : ¬ isOverP w t c v → q (.bool false)) : s_is_lot_over [dW w, dT t, .int (c : Int), v] q y := by
  rw [r_is_lot_over]
  have e0 : dLen [dW w] = dLen [.tuple (w.map .int)] := rfl
  simp only [asB_b, asI_i, ite_t, ite_f, ret_ap, need_ap, opt_s, isInt_i, isInt_b, isInt_n, isInt_s, isInt_l, isInt_t, isInt_d, isBool_i, isBool_b, isBool_n, isBool_s, isBool_l, isBool_t, isBool_d, isTup_i, isTup_b, isTup_n, isTup_s, isTup_l, isTup_t, isTup_d, isStr_i, isStr_s, isStr_t, len_t, len_l, eq_ii, ne_ii, lt_ii, le_ii, gt_ii, ge_ii, add_ii, sub_ii, neg_i, add_tt, add_ll, items_t, items_l, walk_t, walk_l, sl_t, sl_l, ix_t, ix_l, mul_ii, fdiv_ii, mod_ii, int_i, abs_i, list_l, list_t, tuple_l, tuple_t, rg1_i, rg2_i, zip_l, zip_t, is_n, isnot_n, is_b, isnot_b, sizeOk_0, sizeOk_1, sizeOk_2, sizeOk_3, sizeOk_4, sizeOk_5, sizeOk_6, tupOf_1, tupOf_2, tupOf_3, tupOf_4, atI_0, atI_1, atI_2, atI_3, List.getD_cons_zero, List.getD_cons_succ, Bool.not_true, Bool.not_false, true_and, eq_self, ite_and, ite_or, ite_some, ite_two, e0, List.length_map]
  refine w_indexes w.length v h (fun l e hl => ?_) fun hn => ?_
  · subst e
    have hlen : l.length ≤ 1000 := by
      have := (h.tup _ rfl).1
      rwa [List.length_map] at this
    simp only [asB_b, asI_i, ite_t, ite_f, ret_ap, need_ap, opt_s, isInt_i, isInt_b, isInt_n, isInt_s, isInt_l, isInt_t, isInt_d, isBool_i, isBool_b, isBool_n, isBool_s, isBool_l, isBool_t, isBool_d, isTup_i, isTup_b, isTup_n, isTup_s, isTup_l, isTup_t, isTup_d, isStr_i, isStr_s, isStr_t, len_t, len_l, eq_ii, ne_ii, lt_ii, le_ii, gt_ii, ge_ii, add_ii, sub_ii, neg_i, add_tt, add_ll, items_t, items_l, walk_t, walk_l, sl_t, sl_l, ix_t, ix_l, mul_ii, fdiv_ii, mod_ii, int_i, abs_i, list_l, list_t, tuple_l, tuple_t, rg1_i, rg2_i, zip_l, zip_t, is_n, isnot_n, is_b, isnot_b, sizeOk_0, sizeOk_1, sizeOk_2, sizeOk_3, sizeOk_4, sizeOk_5, sizeOk_6, tupOf_1, tupOf_2, tupOf_3, tupOf_4, atI_0, atI_1, atI_2, atI_3, List.getD_cons_zero, List.getD_cons_succ, Bool.not_true, Bool.not_false, true_and, eq_self, ite_and, ite_or, ite_some, ite_two]
    have sh := h.sh _ rfl
    refine eq_tnil (ds := l.map fun (k : Nat) => PyData.int (k : Int)) sh (by decide) ?_
    rw [List.isEmpty_map]
    cases l with
    | nil =>
      refine h2 ?_
      rintro ⟨m, e, hm, _⟩
      exact hm.1 (dL_inj e).symm
    | cons a l =>
      refine w_rising (a :: l) hlen ?_
      cases e1 : rising (a :: l)
      · refine h2 ?_
        rintro ⟨m, e, hm, _⟩
        rw [← dL_inj e] at hm
        rw [rising_iff.mpr hm.2.1] at e1
        cases e1
      · refine in_nats (a :: l) c ?_
        cases e2 : (a :: l).contains c
        · refine w_most w t c hc ht (w_is_over w t _ (a :: l) hl ht hlen ?_)
          cases e3 : over w t (mostOf w t c) (a :: l)
          · refine h2 ?_
            rintro ⟨m, e, hm, h⟩
            rw [← dL_inj e, e3] at h
            cases h
          · refine h1 ⟨_, rfl, ⟨by simp, rising_iff.mp e1, fun k hk => ⟨hl k hk, fun z => ?_⟩⟩, e3⟩
            rw [← List.contains_iff_mem, z, e2] at hk
            cases hk
        · refine h2 ?_
          rintro ⟨m, e, hm, _⟩
          rw [← dL_inj e] at hm
          exact (hm.2.2 c (List.contains_iff_mem.mp e2)).2 rfl
  · refine h2 ?_
    rintro ⟨m, e, hm, _⟩
    exact hn m e fun k hk => (hm.2.2 k hk).1
end Tk77

set_option maxHeartbeats 4000000
namespace Tk77
open PySem PySem.Spec PyProof.Rows L2 PD
variable {q : PyData → Prop} {y : Xc → Prop}
abbrev Res := Int × Int
def eR (r : Res) : PyData := .tuple [.int r.1, .int r.2]
def dR (rs : List Res) : PyData := .tuple (rs.map eR)
def winsWith (w : List Int) (t : Tie) (r : Res) : List Int := (w.set t.1 (w.getD t.1 0 + r.1)).set t.2.1 (w.getD t.2.1 0 + r.2)
theorem winsWith_len {w : List Int} {t : Tie} {r : Res} : (winsWith w t r).length = w.length := by simp [winsWith]
theorem ownSet_nat {k : Nat} {d : PyData} {ds : List PyData} {p : List PyData → Prop} (h : k < ds.length) : ownSet (.int (k : Int)) d ds p = p (ds.set k d) := by
  have e : ixN ds.length (k : Int) = some k := by
    unfold ixN
    rw [if_pos (by omega), if_pos (by omega)]
    simp
  show (match ixN ds.length (k : Int) with
    | some j => p (ds.set j d)
    | none => False) = _
  rw [e]
theorem asL_l (ds : List PyData) (p : List PyData → Prop) : asL (.list ds) p = p ds := rfl
theorem atom_i (i : Int) : (isAtom (.int i) = true) = True := eq_true rfl
theorem w_wins_with (w : List Int) (t : Tie) (r : Res) (h1 : t.1 < w.length) (h2 : t.2.1 < w.length) (hq : q (dW (winsWith w t r))) : s_wins_with [dW w, eT t, eR r] q y := by
  rw [r_wins_with]
  have e1 : t.1 < (w.map PyData.int).length := by rw [List.length_map]; exact h1
  have e2 : ∀ d, t.2.1 < ((w.map PyData.int).set t.1 d).length := fun d => by rw [List.length_set, List.length_map]; exact h2
  simp only [asB_b, asI_i, ite_t, ite_f, ret_ap, need_ap, opt_s, isInt_i, isInt_b, isInt_n, isInt_s, isInt_l, isInt_t, isInt_d, isBool_i, isBool_b, isBool_n, isBool_s, isBool_l, isBool_t, isBool_d, isTup_i, isTup_b, isTup_n, isTup_s, isTup_l, isTup_t, isTup_d, isStr_i, isStr_s, isStr_t, len_t, len_l, eq_ii, ne_ii, lt_ii, le_ii, gt_ii, ge_ii, add_ii, sub_ii, neg_i, add_tt, add_ll, items_t, items_l, walk_t, walk_l, sl_t, sl_l, ix_t, ix_l, mul_ii, fdiv_ii, mod_ii, int_i, abs_i, list_l, list_t, tuple_l, tuple_t, rg1_i, rg2_i, zip_l, zip_t, is_n, isnot_n, is_b, isnot_b, sizeOk_0, sizeOk_1, sizeOk_2, sizeOk_3, sizeOk_4, sizeOk_5, sizeOk_6, tupOf_1, tupOf_2, tupOf_3, tupOf_4, atI_0, atI_1, atI_2, atI_3, List.getD_cons_zero, List.getD_cons_succ, Bool.not_true, Bool.not_false, true_and, eq_self, ite_and, ite_or, ite_some, ite_two, dW, eT, eR, ixW h1, ixW h2, atom_i, asL_l, ownSet_nat e1, ownSet_nat (e2 _)]
  have e : ((w.map PyData.int).set t.1 (.int (w.getD t.1 0 + r.1))).set t.2.1 (.int (w.getD t.2.1 0 + r.2)) = (winsWith w t r).map .int := by
    rw [winsWith, List.map_set, List.map_set]
  rw [e]
  exact hq
def okR (g : Int) (r : Res) : Prop := (0 ≤ r.1 ∧ r.1 ≤ g) ∧ (0 ≤ r.2 ∧ r.2 ≤ g) ∧ r.1 + r.2 = g
def isResB (g : Int) : PyData → Bool
  | .tuple [.int i, .int j] => okI i 0 g && (okI j 0 g && decide (i + j = g))
  | _ => false
theorem isResB_iff {g : Int} {d : PyData} : isResB g d = true ↔ ∃ r, d = eR r ∧ okR g r := by
  constructor
  · intro h
    unfold isResB at h
    split at h
    · rename_i i j
      simp only [okI, Bool.and_eq_true, decide_eq_true_eq] at h
      exact ⟨(i, j), rfl, ⟨h.1.1, h.1.2⟩, ⟨h.2.1.1, h.2.1.2⟩, h.2.2⟩
    · cases h
  · rintro ⟨⟨i, j⟩, rfl, ⟨h1, h2⟩, ⟨h3, h4⟩, h5⟩
    show (okI i 0 g && (okI j 0 g && decide (i + j = g))) = true
    simp only [okI, Bool.and_eq_true, decide_eq_true_eq]
    exact ⟨⟨h1, h2⟩, ⟨h3, h4⟩, h5⟩
theorem isBetween_int {d : PyData} {g : Int} (h : isBetween d 0 g = true) : ∃ i : Int, d = .int i ∧ okI i 0 g = true := by
  cases d with
  | int i => exact ⟨i, rfl, h⟩
  | _ => cases h
theorem isResB_two {g : Int} {a b : PyData} (h : (isBetween a 0 g && isBetween b 0 g) = false) : isResB g (.tuple [a, b]) = false := by
  cases e : isResB g (.tuple [a, b])
  · rfl
  · exfalso
    obtain ⟨⟨i, j⟩, e, h1, h2, _⟩ := isResB_iff.mp e
    injection e with e
    injection e with e1 e
    injection e with e2 _
    subst e1 e2
    have h : (okI i 0 g && okI j 0 g) = false := h
    simp only [okI, Bool.and_eq_false_iff, decide_eq_false_iff_not] at h
    obtain ⟨h1, h1'⟩ := h1
    obtain ⟨h2, h2'⟩ := h2
    simp only at h1 h1' h2 h2'
    omega
theorem w_is_result (g : Int) (d : PyData) (h : (tyD d).isSome = true) (h2 : ∀ es, d = .tuple es → es.length ≤ 1000 ∧ ∀ e ∈ es, (tyD e).isSome = true) (hq : q (.bool (isResB g d))) : s_is_result [.int g, d] q y := by
  rw [r_is_result]
  refine ⟨rfl, w_is_tuple_of d 2 h ?_⟩
  rcases d with _ | _ | i | _ | _ | es | kvs
  case tuple =>
    obtain ⟨h3, h4⟩ := h2 es rfl
    show asB (.bool (decide ((es.length : Int) = 2))) _ y
    by_cases e2 : es.length = 2
    · rw [decide_eq_true (by omega : (es.length : Int) = 2)]
      simp only [asB_b, asI_i, ite_t, ite_f, ret_ap, need_ap, opt_s, isInt_i, isInt_b, isInt_n, isInt_s, isInt_l, isInt_t, isInt_d, isBool_i, isBool_b, isBool_n, isBool_s, isBool_l, isBool_t, isBool_d, isTup_i, isTup_b, isTup_n, isTup_s, isTup_l, isTup_t, isTup_d, isStr_i, isStr_s, isStr_t, len_t, len_l, eq_ii, ne_ii, lt_ii, le_ii, gt_ii, ge_ii, add_ii, sub_ii, neg_i, add_tt, add_ll, items_t, items_l, walk_t, walk_l, sl_t, sl_l, ix_t, ix_l, mul_ii, fdiv_ii, mod_ii, int_i, abs_i, list_l, list_t, tuple_l, tuple_t, rg1_i, rg2_i, zip_l, zip_t, is_n, isnot_n, is_b, isnot_b, sizeOk_0, sizeOk_1, sizeOk_2, sizeOk_3, sizeOk_4, sizeOk_5, sizeOk_6, tupOf_1, tupOf_2, tupOf_3, tupOf_4, atI_0, atI_1, atI_2, atI_3, List.getD_cons_zero, List.getD_cons_succ, Bool.not_true, Bool.not_false, true_and, eq_self, ite_and, ite_or, ite_some, ite_two]
      refine all_of (p := fun d => isBetween d 0 g) (fun d hd q x hq => w_is_between d 0 g (h4 d hd) hq) (by rw [sizeLine_eq]; omega) ?_
      obtain ⟨a, b, rfl⟩ : ∃ a b, es = [a, b] := by
        match es, e2 with
        | [a, b], _ => exact ⟨a, b, rfl⟩
      show asB (.bool (isBetween a 0 g && (isBetween b 0 g && true))) _ y
      rw [Bool.and_true]
      cases e : isBetween a 0 g && isBetween b 0 g
      · rw [isResB_two e] at hq
        exact hq
      · obtain ⟨ea, eb⟩ := Bool.and_eq_true_iff.mp e
        obtain ⟨i, rfl, hi⟩ := isBetween_int ea
        obtain ⟨j, rfl, hj⟩ := isBetween_int eb
        have hq : q (.bool (okI i 0 g && (okI j 0 g && decide (i + j = g)))) := hq
        rw [hi, hj, Bool.true_and, Bool.true_and] at hq
        have e5 : dSum [.tuple [.int i, .int j]] = W.ret (.int ([i, j].sum)) := rfl
        have e6 : [i, j].sum = i + j := by simp
        simp only [asB_b, asI_i, ite_t, ite_f, ret_ap, need_ap, opt_s, isInt_i, isInt_b, isInt_n, isInt_s, isInt_l, isInt_t, isInt_d, isBool_i, isBool_b, isBool_n, isBool_s, isBool_l, isBool_t, isBool_d, isTup_i, isTup_b, isTup_n, isTup_s, isTup_l, isTup_t, isTup_d, isStr_i, isStr_s, isStr_t, len_t, len_l, eq_ii, ne_ii, lt_ii, le_ii, gt_ii, ge_ii, add_ii, sub_ii, neg_i, add_tt, add_ll, items_t, items_l, walk_t, walk_l, sl_t, sl_l, ix_t, ix_l, mul_ii, fdiv_ii, mod_ii, int_i, abs_i, list_l, list_t, tuple_l, tuple_t, rg1_i, rg2_i, zip_l, zip_t, is_n, isnot_n, is_b, isnot_b, sizeOk_0, sizeOk_1, sizeOk_2, sizeOk_3, sizeOk_4, sizeOk_5, sizeOk_6, tupOf_1, tupOf_2, tupOf_3, tupOf_4, atI_0, atI_1, atI_2, atI_3, List.getD_cons_zero, List.getD_cons_succ, Bool.not_true, Bool.not_false, true_and, eq_self, ite_and, ite_or, ite_some, ite_two, e5, e6]
        exact hq
    · rw [decide_eq_false (by omega : ¬ (es.length : Int) = 2)]
      have : isResB g (.tuple es) = false := by
        cases e : isResB g (.tuple es)
        · rfl
        · obtain ⟨r, e, _⟩ := isResB_iff.mp e
          injection e with e
          rw [e] at e2
          exact absurd rfl e2
      rw [this] at hq
      exact hq
  case dict =>
    rcases kvs with _ | _
    · exact hq
    · cases h
  all_goals exact hq
/-! ### results -/
def play : List Int → List Tie → List Res → List Int
  | w, t :: ts, r :: rs => play (winsWith w t r) ts rs
  | w, _, _ => w
theorem play_len : ∀ {t : List Tie} {rs : List Res} {w : List Int}, (play w t rs).length = w.length
  | [], _, _ => by unfold play; rfl
  | _ :: _, [], _ => by unfold play; rfl
  | t :: ts, r :: rs, w => by rw [play, play_len, winsWith_len]
def okRs : List Tie → List Res → Prop
  | [], [] => True
  | t :: ts, r :: rs => okR t.2.2 r ∧ okRs ts rs
  | _, _ => False
def topC (w : List Int) (c : Nat) : Prop := ∀ k, k < w.length → w.getD k 0 ≤ w.getD c 0
def isResP (w : List Int) (t : List Tie) (c : Nat) (v : PyData) : Prop := ∃ rs, v = dR rs ∧ okRs t rs ∧ topC (play w t rs) c
theorem okRs_len : ∀ {t : List Tie} {rs : List Res}, okRs t rs → rs.length = t.length
  | [], [], _ => rfl
  | [], _ :: _, h => h.elim
  | _ :: _, [], h => h.elim
  | t :: ts, r :: rs, h => by rw [List.length_cons, List.length_cons, okRs_len h.2]
theorem eR_inj {r s : Res} (h : eR r = eR s) : r = s := by
  injection h with h
  injection h with h1 h
  injection h with h2 _
  injection h1 with h1
  injection h2 with h2
  exact Prod.ext h1 h2
theorem dR_inj {r s : List Res} (h : dR r = dR s) : r = s := by
  injection h with h
  exact List.map_inj_right (fun a b h => eR_inj h) |>.mp h
theorem res_all : ∀ {t : List Tie} {ds : List PyData}, ds.length = t.length → ((t.zip ds).all fun p => isResB p.1.2.2 p.2) = true → ∃ rs, ds = rs.map eR ∧ okRs t rs
  | [], [], _, _ => ⟨[], rfl, trivial⟩
  | [], _ :: _, h, _ => by cases h
  | _ :: _, [], h, _ => by cases h
  | t :: ts, d :: ds, h, ha => by
    rw [List.zip_cons_cons, List.all_cons, Bool.and_eq_true] at ha
    obtain ⟨r, e, ok⟩ := isResB_iff.mp ha.1
    obtain ⟨rs, e2, ok2⟩ := res_all (t := ts) (ds := ds) (by simpa using h) ha.2
    have e : d = eR r := e
    exact ⟨r :: rs, by rw [e, e2]; rfl, ok, ok2⟩
theorem all_res : ∀ {t : List Tie} {rs : List Res}, okRs t rs → ((t.zip (rs.map eR)).all fun p => isResB p.1.2.2 p.2) = true
  | [], [], _ => rfl
  | [], _ :: _, h => h.elim
  | _ :: _, [], h => h.elim
  | t :: ts, r :: rs, h => by
    rw [List.map_cons, List.zip_cons_cons, List.all_cons, Bool.and_eq_true]
    exact ⟨isResB_iff.mpr ⟨r, rfl, h.1⟩, all_res h.2⟩
def fits (n : Nat) (t : List Tie) : Prop := t.length ≤ 1000 ∧ ∀ e ∈ t, e.1 < n ∧ e.2.1 < n
theorem max_eq {ns : List Int} {c : Nat} {m : Int} (hc : c < ns.length) (h1 : m ∈ ns) (h2 : ∀ y ∈ ns, y ≤ m) : m = ns.getD c 0 ↔ topC ns c := by
  have hm : ns.getD c 0 ∈ ns := by
    rw [List.getD_eq_getElem?_getD, List.getElem?_eq_getElem hc]
    exact List.getElem_mem _
  constructor
  · intro e k hk
    rw [← e]
    refine h2 _ ?_
    rw [List.getD_eq_getElem?_getD, List.getElem?_eq_getElem hk]
    exact List.getElem_mem _
  · intro h
    obtain ⟨k, hk, e⟩ := List.mem_iff_getElem.mp h1
    have h3 := h k hk
    rw [List.getD_eq_getElem?_getD, List.getElem?_eq_getElem hk, Option.getD_some, e] at h3
    have := h2 _ hm
    omega
theorem zipT (t : List Tie) (ds : List PyData) : zipD (t.map eT) ds = (t.zip ds).map fun p => .tuple [eT p.1, p.2] := by
  rw [zipD, List.zip_map_left, List.map_map]
  rfl
theorem w_are_results (w : List Int) (t : List Tie) (c : Nat) (v : PyData) (hc : c < w.length) (ht : fits w.length t) (h : PV v) (h1 : isResP w t c v → q (.bool true)) (h2 : ¬ isResP w t c v → q (.bool false)) : s_are_results [dW w, dT t, .int (c : Int), v] q y := by
  rw [r_are_results]
  have e0 : dLen [dT t] = dLen [.tuple (t.map eT)] := rfl
  simp only [asB_b, asI_i, ite_t, ite_f, ret_ap, need_ap, opt_s, isInt_i, isInt_b, isInt_n, isInt_s, isInt_l, isInt_t, isInt_d, isBool_i, isBool_b, isBool_n, isBool_s, isBool_l, isBool_t, isBool_d, isTup_i, isTup_b, isTup_n, isTup_s, isTup_l, isTup_t, isTup_d, isStr_i, isStr_s, isStr_t, len_t, len_l, eq_ii, ne_ii, lt_ii, le_ii, gt_ii, ge_ii, add_ii, sub_ii, neg_i, add_tt, add_ll, items_t, items_l, walk_t, walk_l, sl_t, sl_l, ix_t, ix_l, mul_ii, fdiv_ii, mod_ii, int_i, abs_i, list_l, list_t, tuple_l, tuple_t, rg1_i, rg2_i, zip_l, zip_t, is_n, isnot_n, is_b, isnot_b, sizeOk_0, sizeOk_1, sizeOk_2, sizeOk_3, sizeOk_4, sizeOk_5, sizeOk_6, tupOf_1, tupOf_2, tupOf_3, tupOf_4, atI_0, atI_1, atI_2, atI_3, List.getD_cons_zero, List.getD_cons_succ, Bool.not_true, Bool.not_false, true_and, eq_self, ite_and, ite_or, ite_some, ite_two, e0, List.length_map]
  refine w_is_tuple_of v _ h.ty ?_
  have no : (∀ ds, v = .tuple ds → ds.length ≠ t.length) → q (.bool false) := fun hn => h2 (by
    rintro ⟨rs, e, ok, _⟩
    exact hn _ e (by rw [List.length_map, okRs_len ok]))
  rcases v with _ | _ | i | _ | _ | ds | kvs
  case tuple =>
    obtain ⟨h3, h4⟩ := h.tup ds rfl
    show asB (.bool (decide ((ds.length : Int) = (t.length : Nat)))) _ y
    by_cases hl : ds.length = t.length
    · rw [decide_eq_true (by omega : (ds.length : Int) = (t.length : Nat))]
      have e3 : ∀ q y, zipOf (dT t) (.tuple ds) q y = q (zipD (t.map eT) ds) := fun _ _ => rfl
      simp only [asB_b, asI_i, ite_t, ite_f, ret_ap, need_ap, opt_s, isInt_i, isInt_b, isInt_n, isInt_s, isInt_l, isInt_t, isInt_d, isBool_i, isBool_b, isBool_n, isBool_s, isBool_l, isBool_t, isBool_d, isTup_i, isTup_b, isTup_n, isTup_s, isTup_l, isTup_t, isTup_d, isStr_i, isStr_s, isStr_t, len_t, len_l, eq_ii, ne_ii, lt_ii, le_ii, gt_ii, ge_ii, add_ii, sub_ii, neg_i, add_tt, add_ll, items_t, items_l, walk_t, walk_l, sl_t, sl_l, ix_t, ix_l, mul_ii, fdiv_ii, mod_ii, int_i, abs_i, list_l, list_t, tuple_l, tuple_t, rg1_i, rg2_i, zip_l, zip_t, is_n, isnot_n, is_b, isnot_b, sizeOk_0, sizeOk_1, sizeOk_2, sizeOk_3, sizeOk_4, sizeOk_5, sizeOk_6, tupOf_1, tupOf_2, tupOf_3, tupOf_4, atI_0, atI_1, atI_2, atI_3, List.getD_cons_zero, List.getD_cons_succ, Bool.not_true, Bool.not_false, true_and, eq_self, ite_and, ite_or, ite_some, ite_two, e3]
      rw [zipT]
      refine all_map (l := t.zip ds) (fun p => .tuple [eT p.1, p.2]) (fun p => isResB p.1.2.2 p.2) (fun p hp q x hq => ?_) (by rw [sizeLine_eq, List.length_zip]; omega) ?_
      · simp only [asB_b, asI_i, ite_t, ite_f, ret_ap, need_ap, opt_s, isInt_i, isInt_b, isInt_n, isInt_s, isInt_l, isInt_t, isInt_d, isBool_i, isBool_b, isBool_n, isBool_s, isBool_l, isBool_t, isBool_d, isTup_i, isTup_b, isTup_n, isTup_s, isTup_l, isTup_t, isTup_d, isStr_i, isStr_s, isStr_t, len_t, len_l, eq_ii, ne_ii, lt_ii, le_ii, gt_ii, ge_ii, add_ii, sub_ii, neg_i, add_tt, add_ll, items_t, items_l, walk_t, walk_l, sl_t, sl_l, ix_t, ix_l, mul_ii, fdiv_ii, mod_ii, int_i, abs_i, list_l, list_t, tuple_l, tuple_t, rg1_i, rg2_i, zip_l, zip_t, is_n, isnot_n, is_b, isnot_b, sizeOk_0, sizeOk_1, sizeOk_2, sizeOk_3, sizeOk_4, sizeOk_5, sizeOk_6, tupOf_1, tupOf_2, tupOf_3, tupOf_4, atI_0, atI_1, atI_2, atI_3, List.getD_cons_zero, List.getD_cons_succ, Bool.not_true, Bool.not_false, true_and, eq_self, ite_and, ite_or, ite_some, ite_two, eT]
        obtain ⟨h5, h6⟩ := h4 p.2 (List.of_mem_zip hp).2
        exact w_is_result _ _ h5 h6 hq
      cases e : (t.zip ds).all fun p => isResB p.1.2.2 p.2
      · refine h2 ?_
        rintro ⟨rs, er, ok, _⟩
        injection er with er
        rw [er, all_res ok] at e
        cases e
      · obtain ⟨rs, er, ok⟩ := res_all hl e
        subst er
        have loop : ∀ (K : SK) (ts : List Tie) (ss : List Res) (u : List Int) (o1 o2 o3 o4 o5 : Option PyData), u.length = w.length → (∀ e ∈ ts, e.1 < w.length ∧ e.2.1 < w.length) → (∀ o1 o2 o3 o4 o5, K.nx [some (dW w), some (dT t), some (.int (c : Int)), some (dR rs), some (dW (play u ts ss)), o1, o2, o3, o4, o5]) →
            forGo (gmOf MD F_24 d_are_results) (forTg (headS (List.tail (List.tail (List.tail d_are_results.body))))) (exSs (exS 39 (gmOf MD F_24 d_are_results)) (forBd (headS (List.tail (List.tail (List.tail d_are_results.body)))))) ((ts.zip (ss.map eR)).map fun p => .tuple [eT p.1, p.2]) [some (dW w), some (dT t), some (.int (c : Int)), some (dR rs), some (dW u), o1, o2, o3, o4, o5] K := by
          intro K ts
          induction ts with
          | nil => intro ss u o1 o2 o3 o4 o5 _ _ hk; exact hk o1 o2 o3 o4 o5
          | cons t0 ts ih =>
            intro ss u o1 o2 o3 o4 o5 hu hf hk
            cases ss with
            | nil => exact hk o1 o2 o3 o4 o5
            | cons r ss =>
              show exSs (exS 39 (gmOf MD F_24 d_are_results)) (forBd (headS (List.tail (List.tail (List.tail d_are_results.body))))) [some (dW w), some (dT t), some (.int (c : Int)), some (dR rs), some (dW u), some (eT t0), some (eR r), o3, o4, o5] _
              rw [rb_are_results_1]
              have hf0 := hf t0 (List.mem_cons_self ..)
              refine ⟨rfl, w_wins_with u t0 r (by rw [hu]; exact hf0.1) (by rw [hu]; exact hf0.2) ?_⟩
              exact ih ss _ _ _ _ _ _ (by rw [winsWith_len]; exact hu) (fun e he => hf e (List.mem_cons_of_mem _ he)) hk
        simp only [asB_b, asI_i, ite_t, ite_f, ret_ap, need_ap, opt_s, isInt_i, isInt_b, isInt_n, isInt_s, isInt_l, isInt_t, isInt_d, isBool_i, isBool_b, isBool_n, isBool_s, isBool_l, isBool_t, isBool_d, isTup_i, isTup_b, isTup_n, isTup_s, isTup_l, isTup_t, isTup_d, isStr_i, isStr_s, isStr_t, len_t, len_l, eq_ii, ne_ii, lt_ii, le_ii, gt_ii, ge_ii, add_ii, sub_ii, neg_i, add_tt, add_ll, items_t, items_l, walk_t, walk_l, sl_t, sl_l, ix_t, ix_l, mul_ii, fdiv_ii, mod_ii, int_i, abs_i, list_l, list_t, tuple_l, tuple_t, rg1_i, rg2_i, zip_l, zip_t, is_n, isnot_n, is_b, isnot_b, sizeOk_0, sizeOk_1, sizeOk_2, sizeOk_3, sizeOk_4, sizeOk_5, sizeOk_6, tupOf_1, tupOf_2, tupOf_3, tupOf_4, atI_0, atI_1, atI_2, atI_3, List.getD_cons_zero, List.getD_cons_succ, Bool.not_true, Bool.not_false, true_and, eq_self, ite_and, ite_or, ite_some, ite_two]
        refine loop _ t rs w none none none none none rfl ht.2 fun o1 o2 o3 o4 o5 => ?_
        dsimp only
        rw [rr_are_results_1]
        have hlen : (play w t rs).length = w.length := play_len
        show W.opt (intsOf ((play w t rs).map PyData.int)) _ _ _
        rw [intsOf_map]
        refine ⟨by rw [hlen]; omega, fun m hm1 hm2 => ?_⟩
        have hc' : c < (play w t rs).length := by rw [hlen]; exact hc
        simp only [asB_b, asI_i, ite_t, ite_f, ret_ap, need_ap, opt_s, isInt_i, isInt_b, isInt_n, isInt_s, isInt_l, isInt_t, isInt_d, isBool_i, isBool_b, isBool_n, isBool_s, isBool_l, isBool_t, isBool_d, isTup_i, isTup_b, isTup_n, isTup_s, isTup_l, isTup_t, isTup_d, isStr_i, isStr_s, isStr_t, len_t, len_l, eq_ii, ne_ii, lt_ii, le_ii, gt_ii, ge_ii, add_ii, sub_ii, neg_i, add_tt, add_ll, items_t, items_l, walk_t, walk_l, sl_t, sl_l, ix_t, ix_l, mul_ii, fdiv_ii, mod_ii, int_i, abs_i, list_l, list_t, tuple_l, tuple_t, rg1_i, rg2_i, zip_l, zip_t, is_n, isnot_n, is_b, isnot_b, sizeOk_0, sizeOk_1, sizeOk_2, sizeOk_3, sizeOk_4, sizeOk_5, sizeOk_6, tupOf_1, tupOf_2, tupOf_3, tupOf_4, atI_0, atI_1, atI_2, atI_3, List.getD_cons_zero, List.getD_cons_succ, Bool.not_true, Bool.not_false, true_and, eq_self, ite_and, ite_or, ite_some, ite_two, dW, ixW hc']
        have := max_eq hc' hm1 hm2
        by_cases e6 : topC (play w t rs) c
        · rw [decide_eq_true (this.mpr e6)]
          exact h1 ⟨rs, rfl, ok, e6⟩
        · rw [decide_eq_false fun z => e6 (this.mp z)]
          refine h2 ?_
          rintro ⟨rs', e7, _, h7⟩
          rw [← dR_inj e7] at h7
          exact e6 h7
    · rw [decide_eq_false (by omega : ¬ (ds.length : Int) = (t.length : Nat))]
      exact no fun ds' e => by injection e with e; rw [← e]; exact hl
  case dict =>
    rcases kvs with _ | _
    · exact no fun _ z => by cases z
    · have := h.ty
      cases this
  all_goals exact no fun _ z => by cases z
end Tk77

set_option maxHeartbeats 4000000
namespace Tk77
open PySem PySem.Spec PyProof.Rows L2 PD
variable {q : PyData → Prop} {y : Xc → Prop}
theorem w_lnum (v : PyData) (h : (tyD v).isSome = true) (hq : q (.bool (isWhole v))) : s__law_is_num [v] q y := by
  rw [r__law_is_num]
  rcases v with _ | _ | _ | _ | _ | _ | kvs
  all_goals first
    | exact hq
    | (rcases kvs with _ | _ <;> first | exact hq | cases h)
theorem w_lin (v : PyData) (lo hi : Int) (h : (tyD v).isSome = true) (hq : q (.bool (isBetween v lo hi))) : s__law_is_in [v, .int lo, .int hi] q y := by
  rw [r__law_is_in]
  refine ⟨rfl, w_lnum v h ?_⟩
  rcases v with _ | _ | i | _ | _ | _ | kvs
  case int =>
    show asB (.bool true) _ y
    simp only [asB_b, asI_i, ite_t, ite_f, ret_ap, need_ap, opt_s, isInt_i, isInt_b, isInt_n, isInt_s, isInt_l, isInt_t, isInt_d, isBool_i, isBool_b, isBool_n, isBool_s, isBool_l, isBool_t, isBool_d, isTup_i, isTup_b, isTup_n, isTup_s, isTup_l, isTup_t, isTup_d, isStr_i, isStr_s, isStr_t, len_t, len_l, eq_ii, ne_ii, lt_ii, le_ii, gt_ii, ge_ii, add_ii, sub_ii, neg_i, add_tt, add_ll, items_t, items_l, walk_t, walk_l, sl_t, sl_l, ix_t, ix_l, mul_ii, fdiv_ii, mod_ii, int_i, abs_i, list_l, list_t, tuple_l, tuple_t, rg1_i, rg2_i, zip_l, zip_t, is_n, isnot_n, is_b, isnot_b, sizeOk_0, sizeOk_1, sizeOk_2, sizeOk_3, sizeOk_4, sizeOk_5, sizeOk_6, tupOf_1, tupOf_2, tupOf_3, tupOf_4, atI_0, atI_1, atI_2, atI_3, List.getD_cons_zero, List.getD_cons_succ, Bool.not_true, Bool.not_false, true_and, eq_self, ite_and, ite_or, ite_some, ite_two]
    exact hq
  all_goals exact hq
theorem w_lgames (t : List Tie) (k : Nat) (hl : t.length ≤ 1000) (hq : q (.int (gamesLeft t k))) : s__law_games [dT t, .int (k : Int)] q y := by
  rw [r__law_games]
  simp only [asB_b, asI_i, ite_t, ite_f, ret_ap, need_ap, opt_s, isInt_i, isInt_b, isInt_n, isInt_s, isInt_l, isInt_t, isInt_d, isBool_i, isBool_b, isBool_n, isBool_s, isBool_l, isBool_t, isBool_d, isTup_i, isTup_b, isTup_n, isTup_s, isTup_l, isTup_t, isTup_d, isStr_i, isStr_s, isStr_t, len_t, len_l, eq_ii, ne_ii, lt_ii, le_ii, gt_ii, ge_ii, add_ii, sub_ii, neg_i, add_tt, add_ll, items_t, items_l, walk_t, walk_l, sl_t, sl_l, ix_t, ix_l, mul_ii, fdiv_ii, mod_ii, int_i, abs_i, list_l, list_t, tuple_l, tuple_t, rg1_i, rg2_i, zip_l, zip_t, is_n, isnot_n, is_b, isnot_b, sizeOk_0, sizeOk_1, sizeOk_2, sizeOk_3, sizeOk_4, sizeOk_5, sizeOk_6, tupOf_1, tupOf_2, tupOf_3, tupOf_4, atI_0, atI_1, atI_2, atI_3, List.getD_cons_zero, List.getD_cons_succ, Bool.not_true, Bool.not_false, true_and, eq_self, ite_and, ite_or, ite_some, ite_two, dT]
  refine sum_filt (l := t) eT (fun e => [e.1, e.2.1].contains k) (fun e => e.2.2) (fun e he q x hq => ?_) (by rw [sizeLine_eq]; omega) hq
  simp only [asB_b, asI_i, ite_t, ite_f, ret_ap, need_ap, opt_s, isInt_i, isInt_b, isInt_n, isInt_s, isInt_l, isInt_t, isInt_d, isBool_i, isBool_b, isBool_n, isBool_s, isBool_l, isBool_t, isBool_d, isTup_i, isTup_b, isTup_n, isTup_s, isTup_l, isTup_t, isTup_d, isStr_i, isStr_s, isStr_t, len_t, len_l, eq_ii, ne_ii, lt_ii, le_ii, gt_ii, ge_ii, add_ii, sub_ii, neg_i, add_tt, add_ll, items_t, items_l, walk_t, walk_l, sl_t, sl_l, ix_t, ix_l, mul_ii, fdiv_ii, mod_ii, int_i, abs_i, list_l, list_t, tuple_l, tuple_t, rg1_i, rg2_i, zip_l, zip_t, is_n, isnot_n, is_b, isnot_b, sizeOk_0, sizeOk_1, sizeOk_2, sizeOk_3, sizeOk_4, sizeOk_5, sizeOk_6, tupOf_1, tupOf_2, tupOf_3, tupOf_4, atI_0, atI_1, atI_2, atI_3, List.getD_cons_zero, List.getD_cons_succ, Bool.not_true, Bool.not_false, true_and, eq_self, ite_and, ite_or, ite_some, ite_two, eT]
  refine in_nats [e.1, e.2.1] k ?_
  simp only [asB_b, asI_i, ite_t, ite_f, ret_ap, need_ap, opt_s, isInt_i, isInt_b, isInt_n, isInt_s, isInt_l, isInt_t, isInt_d, isBool_i, isBool_b, isBool_n, isBool_s, isBool_l, isBool_t, isBool_d, isTup_i, isTup_b, isTup_n, isTup_s, isTup_l, isTup_t, isTup_d, isStr_i, isStr_s, isStr_t, len_t, len_l, eq_ii, ne_ii, lt_ii, le_ii, gt_ii, ge_ii, add_ii, sub_ii, neg_i, add_tt, add_ll, items_t, items_l, walk_t, walk_l, sl_t, sl_l, ix_t, ix_l, mul_ii, fdiv_ii, mod_ii, int_i, abs_i, list_l, list_t, tuple_l, tuple_t, rg1_i, rg2_i, zip_l, zip_t, is_n, isnot_n, is_b, isnot_b, sizeOk_0, sizeOk_1, sizeOk_2, sizeOk_3, sizeOk_4, sizeOk_5, sizeOk_6, tupOf_1, tupOf_2, tupOf_3, tupOf_4, atI_0, atI_1, atI_2, atI_3, List.getD_cons_zero, List.getD_cons_succ, Bool.not_true, Bool.not_false, true_and, eq_self, ite_and, ite_or, ite_some, ite_two]
  exact hq
theorem w_lgroups (n : Nat) (hn : n ≤ 5) (hq : ∀ ms : List (List Nat), (∀ l, l ∈ ms ↔ isLot n n l) → ms.length ≤ 31 → (0 < n → 0 < ms.length) → q (.list (ms.map dL))) : s__law_groups [.int (n : Int)] q y := by
  have loop : ∀ (K : SK) (m k : Nat) (o1 o2 : Option PyData), k + m ≤ n → (∀ o1 o2, K.nx [some (.int (n : Int)), some (.list (([] :: ptl n (k + m)).map dL)), o1, o2]) →
      forGo (gmOf MD F_47 d__law_groups) (forTg (headS (List.tail d__law_groups.body))) (exSs (exS 39 (gmOf MD F_47 d__law_groups)) (forBd (headS (List.tail d__law_groups.body)))) ((List.range' k m).map fun (k : Nat) => PyData.int (k : Int)) [some (.int (n : Int)), some (.list (([] :: ptl n k).map dL)), o1, o2] K := by
    intro K m
    induction m with
    | zero => intro k o1 o2 _ hk; exact hk o1 o2
    | succ m ih =>
      intro k o1 o2 hl hk
      rw [List.range'_succ]
      show exSs (exS 39 (gmOf MD F_47 d__law_groups)) (forBd (headS (List.tail d__law_groups.body))) [some (.int (n : Int)), some (.list (([] :: ptl n k).map dL)), some (.int (k : Int)), o2] _
      rw [rb__law_groups_1]
      have hsm := ptl_small (c := n) (k := k) (by omega)
      have e2 : ([] :: ptl n (k + 1)).map dL = ([] :: ptl n k).map dL ++ ([] :: ptl n k).map fun l => dL (l ++ [k]) := by rw [ptl_no, if_neg (by omega)]
      have g : forGo (gmOf MD F_47 d__law_groups) (forTg (headS (List.tail d__law_groups.body))) (exSs (exS 39 (gmOf MD F_47 d__law_groups)) (forBd (headS (List.tail d__law_groups.body)))) ((List.range' (k + 1) m).map fun (k : Nat) => PyData.int (k : Int)) [some (.int (n : Int)), some (.list (([] :: ptl n (k + 1)).map dL)), some (.int (k : Int)), o2] K := by
        refine ih (k + 1) _ o2 (by omega) fun o1 o2 => ?_
        rw [show k + 1 + m = k + (m + 1) by omega]
        exact hk o1 o2
      rw [e2] at g
      rw [walk_l]
      refine lcGo_maps dL (fun l => dL (l ++ [k])) (fun l hl q x hq => ?_) (by rw [sizeLine_eq, List.length_cons]; omega) ?_
      · have hle : l.length ≤ 5 := by
          rcases List.mem_cons.mp hl with rfl | h
          · exact Nat.zero_le _
          · have := ptl_le h; omega
        rw [dL_app] at hq
        refine ⟨sizeOk_of (by show 1 ≤ _; omega), ?_⟩
        show dBin .Add (.tuple (l.map fun (k : Nat) => PyData.int (k : Int))) (.tuple [.int (k : Int)]) _ _
        rw [add_tt]
        exact ⟨by rw [List.length_map, sizeLine_eq]; show _ + 1 ≤ _; omega, hq⟩
      refine ⟨by rw [List.length_map, List.length_map, List.length_cons, sizeLine_eq]; omega, ?_⟩
      exact g
  rw [r__law_groups]
  simp only [asB_b, asI_i, ite_t, ite_f, ret_ap, need_ap, opt_s, isInt_i, isInt_b, isInt_n, isInt_s, isInt_l, isInt_t, isInt_d, isBool_i, isBool_b, isBool_n, isBool_s, isBool_l, isBool_t, isBool_d, isTup_i, isTup_b, isTup_n, isTup_s, isTup_l, isTup_t, isTup_d, isStr_i, isStr_s, isStr_t, len_t, len_l, eq_ii, ne_ii, lt_ii, le_ii, gt_ii, ge_ii, add_ii, sub_ii, neg_i, add_tt, add_ll, items_t, items_l, walk_t, walk_l, sl_t, sl_l, ix_t, ix_l, mul_ii, fdiv_ii, mod_ii, int_i, abs_i, list_l, list_t, tuple_l, tuple_t, rg1_i, rg2_i, zip_l, zip_t, is_n, isnot_n, is_b, isnot_b, sizeOk_0, sizeOk_1, sizeOk_2, sizeOk_3, sizeOk_4, sizeOk_5, sizeOk_6, tupOf_1, tupOf_2, tupOf_3, tupOf_4, atI_0, atI_1, atI_2, atI_3, List.getD_cons_zero, List.getD_cons_succ, Bool.not_true, Bool.not_false, true_and, eq_self, ite_and, ite_or, ite_some, ite_two]
  refine ⟨⟨by omega, by omega⟩, ?_⟩
  rw [rangeD_nat, List.range_eq_range']
  refine loop _ n 0 none none (by omega) fun o1 o2 => ?_
  dsimp only
  rw [rr__law_groups_1, Nat.zero_add]
  refine w_sorted (ptl n n) (by have := ptl_small (c := n) hn; omega) (fun l hl => (mem_ptl.mp hl).1) fun ms h1 h2 => ?_
  refine hq ms (fun l => (h1 l).trans mem_ptl) (by rw [h2]; exact ptl_small hn) fun h0 => ?_
  have : [0] ∈ ms := (h1 [0]).mpr (mem_ptl.mpr ⟨by simp, List.pairwise_singleton .., fun k hk => by rw [List.mem_singleton.mp hk]; omega⟩)
  exact List.length_pos_of_mem this
theorem notin_nats (l : List Nat) (k : Nat) (hq : q (.bool (!l.contains k))) : dCmp .NotIn (.int (k : Int)) (dL l) q y :=
  in_nats (q := fun d => dNot d q y) l k hq
theorem w_law_over (w : List Int) (t : List Tie) (c : Nat) (hc : c < w.length) (hw : w.length ≤ 5) (ht : t.length ≤ 1000) (h1 : canBe w t c → q .none) (h2 : ∀ l, ¬ canBe w t c → q (dL l)) : s__law_over [dW w, dT t, .int (c : Int)] q y := by
  rw [r__law_over]
  have e0 : dLen [dW w] = dLen [.tuple (w.map .int)] := rfl
  simp only [asB_b, asI_i, ite_t, ite_f, ret_ap, need_ap, opt_s, isInt_i, isInt_b, isInt_n, isInt_s, isInt_l, isInt_t, isInt_d, isBool_i, isBool_b, isBool_n, isBool_s, isBool_l, isBool_t, isBool_d, isTup_i, isTup_b, isTup_n, isTup_s, isTup_l, isTup_t, isTup_d, isStr_i, isStr_s, isStr_t, len_t, len_l, eq_ii, ne_ii, lt_ii, le_ii, gt_ii, ge_ii, add_ii, sub_ii, neg_i, add_tt, add_ll, items_t, items_l, walk_t, walk_l, sl_t, sl_l, ix_t, ix_l, mul_ii, fdiv_ii, mod_ii, int_i, abs_i, list_l, list_t, tuple_l, tuple_t, rg1_i, rg2_i, zip_l, zip_t, is_n, isnot_n, is_b, isnot_b, sizeOk_0, sizeOk_1, sizeOk_2, sizeOk_3, sizeOk_4, sizeOk_5, sizeOk_6, tupOf_1, tupOf_2, tupOf_3, tupOf_4, atI_0, atI_1, atI_2, atI_3, List.getD_cons_zero, List.getD_cons_succ, Bool.not_true, Bool.not_false, true_and, eq_self, ite_and, ite_or, ite_some, ite_two, e0, List.length_map]
  show dIx (.tuple (w.map .int)) (.int (c : Int)) _ y
  simp only [asB_b, asI_i, ite_t, ite_f, ret_ap, need_ap, opt_s, isInt_i, isInt_b, isInt_n, isInt_s, isInt_l, isInt_t, isInt_d, isBool_i, isBool_b, isBool_n, isBool_s, isBool_l, isBool_t, isBool_d, isTup_i, isTup_b, isTup_n, isTup_s, isTup_l, isTup_t, isTup_d, isStr_i, isStr_s, isStr_t, len_t, len_l, eq_ii, ne_ii, lt_ii, le_ii, gt_ii, ge_ii, add_ii, sub_ii, neg_i, add_tt, add_ll, items_t, items_l, walk_t, walk_l, sl_t, sl_l, ix_t, ix_l, mul_ii, fdiv_ii, mod_ii, int_i, abs_i, list_l, list_t, tuple_l, tuple_t, rg1_i, rg2_i, zip_l, zip_t, is_n, isnot_n, is_b, isnot_b, sizeOk_0, sizeOk_1, sizeOk_2, sizeOk_3, sizeOk_4, sizeOk_5, sizeOk_6, tupOf_1, tupOf_2, tupOf_3, tupOf_4, atI_0, atI_1, atI_2, atI_3, List.getD_cons_zero, List.getD_cons_succ, Bool.not_true, Bool.not_false, true_and, eq_self, ite_and, ite_or, ite_some, ite_two, ixW hc]
  refine w_lgames t c ht ?_
  simp only [asB_b, asI_i, ite_t, ite_f, ret_ap, need_ap, opt_s, isInt_i, isInt_b, isInt_n, isInt_s, isInt_l, isInt_t, isInt_d, isBool_i, isBool_b, isBool_n, isBool_s, isBool_l, isBool_t, isBool_d, isTup_i, isTup_b, isTup_n, isTup_s, isTup_l, isTup_t, isTup_d, isStr_i, isStr_s, isStr_t, len_t, len_l, eq_ii, ne_ii, lt_ii, le_ii, gt_ii, ge_ii, add_ii, sub_ii, neg_i, add_tt, add_ll, items_t, items_l, walk_t, walk_l, sl_t, sl_l, ix_t, ix_l, mul_ii, fdiv_ii, mod_ii, int_i, abs_i, list_l, list_t, tuple_l, tuple_t, rg1_i, rg2_i, zip_l, zip_t, is_n, isnot_n, is_b, isnot_b, sizeOk_0, sizeOk_1, sizeOk_2, sizeOk_3, sizeOk_4, sizeOk_5, sizeOk_6, tupOf_1, tupOf_2, tupOf_3, tupOf_4, atI_0, atI_1, atI_2, atI_3, List.getD_cons_zero, List.getD_cons_succ, Bool.not_true, Bool.not_false, true_and, eq_self, ite_and, ite_or, ite_some, ite_two]
  refine w_lgroups w.length hw fun ms hm hl _ => ?_
  simp only [asB_b, asI_i, ite_t, ite_f, ret_ap, need_ap, opt_s, isInt_i, isInt_b, isInt_n, isInt_s, isInt_l, isInt_t, isInt_d, isBool_i, isBool_b, isBool_n, isBool_s, isBool_l, isBool_t, isBool_d, isTup_i, isTup_b, isTup_n, isTup_s, isTup_l, isTup_t, isTup_d, isStr_i, isStr_s, isStr_t, len_t, len_l, eq_ii, ne_ii, lt_ii, le_ii, gt_ii, ge_ii, add_ii, sub_ii, neg_i, add_tt, add_ll, items_t, items_l, walk_t, walk_l, sl_t, sl_l, ix_t, ix_l, mul_ii, fdiv_ii, mod_ii, int_i, abs_i, list_l, list_t, tuple_l, tuple_t, rg1_i, rg2_i, zip_l, zip_t, is_n, isnot_n, is_b, isnot_b, sizeOk_0, sizeOk_1, sizeOk_2, sizeOk_3, sizeOk_4, sizeOk_5, sizeOk_6, tupOf_1, tupOf_2, tupOf_3, tupOf_4, atI_0, atI_1, atI_2, atI_3, List.getD_cons_zero, List.getD_cons_succ, Bool.not_true, Bool.not_false, true_and, eq_self, ite_and, ite_or, ite_some, ite_two]
  have loop : ∀ (K : SK) (rs : List (List Nat)) (o o2 o3 o4 o5 o6 : Option PyData), K.rt = q → (∀ l ∈ rs, isLot w.length w.length l) → (∀ o o2 o3 o4 o5 o6, (∀ l ∈ rs, c ∉ l → over w t (mostOf w t c) l = false) → K.nx [some (dW w), some (dT t), some (.int (c : Int)), some (.int (mostOf w t c)), o, o2, o3, o4, o5, o6]) →
      forGo (gmOf MD F_48 d__law_over) (forTg (headS (List.tail d__law_over.body))) (exSs (exS 39 (gmOf MD F_48 d__law_over)) (forBd (headS (List.tail d__law_over.body)))) (rs.map dL) [some (dW w), some (dT t), some (.int (c : Int)), some (.int (mostOf w t c)), o, o2, o3, o4, o5, o6] K := by
    intro K rs
    induction rs with
    | nil => intro o o2 o3 o4 o5 o6 _ _ hk; exact hk o o2 o3 o4 o5 o6 fun l hl => by cases hl
    | cons l rs ih =>
      intro o o2 o3 o4 o5 o6 hr hL hk
      show exSs (exS 39 (gmOf MD F_48 d__law_over)) (forBd (headS (List.tail d__law_over.body))) [some (dW w), some (dT t), some (.int (c : Int)), some (.int (mostOf w t c)), some (dL l), o2, o3, o4, o5, o6] _
      rw [rb__law_over_1]
      have hl := hL l (List.mem_cons_self ..)
      have hlen := hl.len
      have next : (c ∉ l → over w t (mostOf w t c) l = false) → ∀ o o2 o3 o4 o5 o6, forGo (gmOf MD F_48 d__law_over) (forTg (headS (List.tail d__law_over.body))) (exSs (exS 39 (gmOf MD F_48 d__law_over)) (forBd (headS (List.tail d__law_over.body)))) (rs.map dL) [some (dW w), some (dT t), some (.int (c : Int)), some (.int (mostOf w t c)), o, o2, o3, o4, o5, o6] K := fun hno o o2 o3 o4 o5 o6 =>
        ih _ _ _ _ _ _ hr (fun m hm => hL m (List.mem_cons_of_mem _ hm)) fun o o2 o3 o4 o5 o6 h => hk o o2 o3 o4 o5 o6 fun m hm => by
          rcases List.mem_cons.mp hm with rfl | hm
          · exact hno
          · exact h m hm
      show walkOf (.tuple (t.map eT)) _ _
      rw [walk_t]
      refine sum_filt (l := t) eT (fun e => l.contains e.1 && l.contains e.2.1) (fun e => e.2.2) (fun e he q x hq => ?_) (by rw [sizeLine_eq]; omega) ?_
      · simp only [asB_b, asI_i, ite_t, ite_f, ret_ap, need_ap, opt_s, isInt_i, isInt_b, isInt_n, isInt_s, isInt_l, isInt_t, isInt_d, isBool_i, isBool_b, isBool_n, isBool_s, isBool_l, isBool_t, isBool_d, isTup_i, isTup_b, isTup_n, isTup_s, isTup_l, isTup_t, isTup_d, isStr_i, isStr_s, isStr_t, len_t, len_l, eq_ii, ne_ii, lt_ii, le_ii, gt_ii, ge_ii, add_ii, sub_ii, neg_i, add_tt, add_ll, items_t, items_l, walk_t, walk_l, sl_t, sl_l, ix_t, ix_l, mul_ii, fdiv_ii, mod_ii, int_i, abs_i, list_l, list_t, tuple_l, tuple_t, rg1_i, rg2_i, zip_l, zip_t, is_n, isnot_n, is_b, isnot_b, sizeOk_0, sizeOk_1, sizeOk_2, sizeOk_3, sizeOk_4, sizeOk_5, sizeOk_6, tupOf_1, tupOf_2, tupOf_3, tupOf_4, atI_0, atI_1, atI_2, atI_3, List.getD_cons_zero, List.getD_cons_succ, Bool.not_true, Bool.not_false, true_and, eq_self, ite_and, ite_or, ite_some, ite_two, eT]
        refine in_nats l e.1 ?_
        cases e1 : l.contains e.1
        · rw [e1] at hq
          exact hq
        · rw [e1] at hq
          simp only [asB_b, asI_i, ite_t, ite_f, ret_ap, need_ap, opt_s, isInt_i, isInt_b, isInt_n, isInt_s, isInt_l, isInt_t, isInt_d, isBool_i, isBool_b, isBool_n, isBool_s, isBool_l, isBool_t, isBool_d, isTup_i, isTup_b, isTup_n, isTup_s, isTup_l, isTup_t, isTup_d, isStr_i, isStr_s, isStr_t, len_t, len_l, eq_ii, ne_ii, lt_ii, le_ii, gt_ii, ge_ii, add_ii, sub_ii, neg_i, add_tt, add_ll, items_t, items_l, walk_t, walk_l, sl_t, sl_l, ix_t, ix_l, mul_ii, fdiv_ii, mod_ii, int_i, abs_i, list_l, list_t, tuple_l, tuple_t, rg1_i, rg2_i, zip_l, zip_t, is_n, isnot_n, is_b, isnot_b, sizeOk_0, sizeOk_1, sizeOk_2, sizeOk_3, sizeOk_4, sizeOk_5, sizeOk_6, tupOf_1, tupOf_2, tupOf_3, tupOf_4, atI_0, atI_1, atI_2, atI_3, List.getD_cons_zero, List.getD_cons_succ, Bool.not_true, Bool.not_false, true_and, eq_self, ite_and, ite_or, ite_some, ite_two]
          refine in_nats l e.2.1 ?_
          simp only [asB_b, asI_i, ite_t, ite_f, ret_ap, need_ap, opt_s, isInt_i, isInt_b, isInt_n, isInt_s, isInt_l, isInt_t, isInt_d, isBool_i, isBool_b, isBool_n, isBool_s, isBool_l, isBool_t, isBool_d, isTup_i, isTup_b, isTup_n, isTup_s, isTup_l, isTup_t, isTup_d, isStr_i, isStr_s, isStr_t, len_t, len_l, eq_ii, ne_ii, lt_ii, le_ii, gt_ii, ge_ii, add_ii, sub_ii, neg_i, add_tt, add_ll, items_t, items_l, walk_t, walk_l, sl_t, sl_l, ix_t, ix_l, mul_ii, fdiv_ii, mod_ii, int_i, abs_i, list_l, list_t, tuple_l, tuple_t, rg1_i, rg2_i, zip_l, zip_t, is_n, isnot_n, is_b, isnot_b, sizeOk_0, sizeOk_1, sizeOk_2, sizeOk_3, sizeOk_4, sizeOk_5, sizeOk_6, tupOf_1, tupOf_2, tupOf_3, tupOf_4, atI_0, atI_1, atI_2, atI_3, List.getD_cons_zero, List.getD_cons_succ, Bool.not_true, Bool.not_false, true_and, eq_self, ite_and, ite_or, ite_some, ite_two]
          exact hq
      refine notin_nats l c ?_
      cases ec : l.contains c
      · simp only [asB_b, asI_i, ite_t, ite_f, ret_ap, need_ap, opt_s, isInt_i, isInt_b, isInt_n, isInt_s, isInt_l, isInt_t, isInt_d, isBool_i, isBool_b, isBool_n, isBool_s, isBool_l, isBool_t, isBool_d, isTup_i, isTup_b, isTup_n, isTup_s, isTup_l, isTup_t, isTup_d, isStr_i, isStr_s, isStr_t, len_t, len_l, eq_ii, ne_ii, lt_ii, le_ii, gt_ii, ge_ii, add_ii, sub_ii, neg_i, add_tt, add_ll, items_t, items_l, walk_t, walk_l, sl_t, sl_l, ix_t, ix_l, mul_ii, fdiv_ii, mod_ii, int_i, abs_i, list_l, list_t, tuple_l, tuple_t, rg1_i, rg2_i, zip_l, zip_t, is_n, isnot_n, is_b, isnot_b, sizeOk_0, sizeOk_1, sizeOk_2, sizeOk_3, sizeOk_4, sizeOk_5, sizeOk_6, tupOf_1, tupOf_2, tupOf_3, tupOf_4, atI_0, atI_1, atI_2, atI_3, List.getD_cons_zero, List.getD_cons_succ, Bool.not_true, Bool.not_false, true_and, eq_self, ite_and, ite_or, ite_some, ite_two]
        show walkOf (.tuple (l.map fun (k : Nat) => PyData.int (k : Int))) _ _
        rw [walk_t]
        refine sum_map (l := l) (fun (k : Nat) => PyData.int (k : Int)) (fun k => w.getD k 0) (fun k hk' q x hq => ?_) (by rw [sizeLine_eq]; omega) ?_
        · simp only [asB_b, asI_i, ite_t, ite_f, ret_ap, need_ap, opt_s, isInt_i, isInt_b, isInt_n, isInt_s, isInt_l, isInt_t, isInt_d, isBool_i, isBool_b, isBool_n, isBool_s, isBool_l, isBool_t, isBool_d, isTup_i, isTup_b, isTup_n, isTup_s, isTup_l, isTup_t, isTup_d, isStr_i, isStr_s, isStr_t, len_t, len_l, eq_ii, ne_ii, lt_ii, le_ii, gt_ii, ge_ii, add_ii, sub_ii, neg_i, add_tt, add_ll, items_t, items_l, walk_t, walk_l, sl_t, sl_l, ix_t, ix_l, mul_ii, fdiv_ii, mod_ii, int_i, abs_i, list_l, list_t, tuple_l, tuple_t, rg1_i, rg2_i, zip_l, zip_t, is_n, isnot_n, is_b, isnot_b, sizeOk_0, sizeOk_1, sizeOk_2, sizeOk_3, sizeOk_4, sizeOk_5, sizeOk_6, tupOf_1, tupOf_2, tupOf_3, tupOf_4, atI_0, atI_1, atI_2, atI_3, List.getD_cons_zero, List.getD_cons_succ, Bool.not_true, Bool.not_false, true_and, eq_self, ite_and, ite_or, ite_some, ite_two, dW, ixW (hl.2.2 k hk').1]
          exact hq
        have e1 : dLen [dL l] = dLen [.tuple (l.map fun (k : Nat) => PyData.int (k : Int))] := rfl
        simp only [asB_b, asI_i, ite_t, ite_f, ret_ap, need_ap, opt_s, isInt_i, isInt_b, isInt_n, isInt_s, isInt_l, isInt_t, isInt_d, isBool_i, isBool_b, isBool_n, isBool_s, isBool_l, isBool_t, isBool_d, isTup_i, isTup_b, isTup_n, isTup_s, isTup_l, isTup_t, isTup_d, isStr_i, isStr_s, isStr_t, len_t, len_l, eq_ii, ne_ii, lt_ii, le_ii, gt_ii, ge_ii, add_ii, sub_ii, neg_i, add_tt, add_ll, items_t, items_l, walk_t, walk_l, sl_t, sl_l, ix_t, ix_l, mul_ii, fdiv_ii, mod_ii, int_i, abs_i, list_l, list_t, tuple_l, tuple_t, rg1_i, rg2_i, zip_l, zip_t, is_n, isnot_n, is_b, isnot_b, sizeOk_0, sizeOk_1, sizeOk_2, sizeOk_3, sizeOk_4, sizeOk_5, sizeOk_6, tupOf_1, tupOf_2, tupOf_3, tupOf_4, atI_0, atI_1, atI_2, atI_3, List.getD_cons_zero, List.getD_cons_succ, Bool.not_true, Bool.not_false, true_and, eq_self, ite_and, ite_or, ite_some, ite_two, e1, List.length_map]
        refine ⟨.inl (.inl ⟨by omega, by omega⟩), ?_⟩
        have e3 : decide ((l.length : Int) * mostOf w t c < (l.map fun k => w.getD k 0).sum + ((t.filter fun e => l.contains e.1 && l.contains e.2.1).map fun e => e.2.2).sum) = over w t (mostOf w t c) l := by
          rw [over, Int.mul_comm]
          rfl
        show (match decide ((l.length : Int) * mostOf w t c < (l.map fun k => w.getD k 0).sum + ((t.filter fun e => l.contains e.1 && l.contains e.2.1).map fun e => e.2.2).sum) with
          | true => K.rt (dL l)
          | false => _ : Prop)
        rw [e3]
        have hcl : c ∉ l := fun z => by
          rw [List.contains_iff_mem.mpr z] at ec
          cases ec
        cases e : over w t (mostOf w t c) l
        · exact next (fun _ => e) _ _ _ _ _ _
        · show K.rt (dL l)
          rw [hr]
          refine h2 l fun h => ?_
          rw [h l ⟨hl.1, hl.2.1, fun k hk => ⟨(hl.2.2 k hk).1, fun z => hcl (by rw [← z]; exact hk)⟩⟩] at e
          cases e
      · exact next (fun hn => absurd (List.contains_iff_mem.mp ec) hn) _ _ _ _ _ _
  refine loop _ ms none none none none none none rfl (fun l hl => (hm l).mp hl) fun o o2 o3 o4 o5 o6 h => ?_
  dsimp only
  rw [rr__law_over_1]
  refine h1 fun l hl => h l ((hm l).mpr ⟨hl.1, hl.2.1, fun k hk => ⟨(hl.2.2 k hk).1, by have := (hl.2.2 k hk).1; omega⟩⟩) fun z => (hl.2.2 c z).2 rfl
end Tk77

set_option maxHeartbeats 4000000
namespace Tk77
open PySem PySem.Spec PyProof.Rows L2 PD
variable {q : PyData → Prop} {y : Xc → Prop}
theorem in_bools (l : List Bool) (hq : q (.bool (l.contains false))) : dCmp .In (.bool false) (.list (l.map .bool)) q y := by
  refine ⟨⟨by decide +kernel, shaped_of (k := 1) (shp_list fun d hd => ?_) (by decide)⟩, ?_⟩
  · obtain ⟨e, _, rfl⟩ := List.mem_map.mp hd
    exact shp_bool 0 _
  · have e : ((l.map PyData.bool).any fun z => PyData.eqv z (.bool false)) = l.contains false := by
      rw [List.any_map, Bool.eq_iff_iff, List.any_eq_true, List.contains_iff_mem]
      constructor
      · rintro ⟨a, ha, h⟩
        have h : PyData.eqv (.bool a) (.bool false) = true := h
        cases a
        · exact ha
        · simp [PyData.eqv] at h
      · intro h
        exact ⟨false, h, by simp [PyData.eqv]⟩
    rw [e]
    exact hq
theorem lc_bools {step : PyData → W (Option PyData)} {p : PyData → Bool} {ds : List PyData} {k : List PyData → Prop} {x : Xc → Prop} (hs : ∀ d ∈ ds, ∀ q x, q (some (.bool (p d))) → step d q x) (hl : ds.length ≤ 1000) (h : k ((ds.map p).map .bool)) : lcGo step ds [] k x := by
  refine lcGo_of (f := fun d => some (.bool (p d))) hs (by rw [sizeLine_eq]; simp only [List.length_nil]; omega) ?_
  have e : ds.map (fun d => PyData.bool (p d)) = (ds.map p).map .bool := by rw [List.map_map]; rfl
  rw [List.nil_append, filterMap_some, e]
  exact h
theorem getT {t : List Tie} {k : Nat} {t0 : Tie} {ts : List Tie} (h : t.drop k = t0 :: ts) : atI (t.map eT) (k : Int) = some (eT t0) ∧ t.drop (k + 1) = ts := by
  have hk : k < t.length := by
    rcases Nat.lt_or_ge k t.length with z | z
    · exact z
    · rw [List.drop_eq_nil_of_le z] at h; cases h
  rw [List.drop_eq_getElem_cons hk] at h
  injection h with h1 h2
  exact ⟨atI_nat (by simp [hk, h1]), h2⟩
theorem getV {t : List PyData} {k : Nat} {t0 : PyData} {ts : List PyData} (h : t.drop k = t0 :: ts) : atI t (k : Int) = some t0 ∧ t.drop (k + 1) = ts := by
  have hk : k < t.length := by
    rcases Nat.lt_or_ge k t.length with z | z
    · exact z
    · rw [List.drop_eq_nil_of_le z] at h; cases h
  rw [List.drop_eq_getElem_cons hk] at h
  injection h with h1 h2
  exact ⟨atI_nat (by simp [hk, h1]), h2⟩
theorem w_law_are_results (w : List Int) (t : List Tie) (c : Nat) (v : PyData) (hc : c < w.length) (ht : fits w.length t) (h : PV v) (h1 : isResP w t c v → q (.bool true)) (h2 : ¬ isResP w t c v → q (.bool false)) : s__law_are_results [dW w, dT t, .int (c : Int), v] q y := by
  rw [r__law_are_results]
  have e0 : dLen [dT t] = dLen [.tuple (t.map eT)] := rfl
  have no : (∀ ds, v = .tuple ds → ds.length ≠ t.length) → q (.bool false) := fun hn => h2 (by
    rintro ⟨rs, e, ok, _⟩
    exact hn _ e (by rw [List.length_map, okRs_len ok]))
  rcases v with _ | _ | i | _ | _ | ds | kvs
  case tuple =>
    obtain ⟨h3, h4⟩ := h.tup ds rfl
    simp only [asB_b, asI_i, ite_t, ite_f, ret_ap, need_ap, opt_s, isInt_i, isInt_b, isInt_n, isInt_s, isInt_l, isInt_t, isInt_d, isBool_i, isBool_b, isBool_n, isBool_s, isBool_l, isBool_t, isBool_d, isTup_i, isTup_b, isTup_n, isTup_s, isTup_l, isTup_t, isTup_d, isStr_i, isStr_s, isStr_t, len_t, len_l, eq_ii, ne_ii, lt_ii, le_ii, gt_ii, ge_ii, add_ii, sub_ii, neg_i, add_tt, add_ll, items_t, items_l, walk_t, walk_l, sl_t, sl_l, ix_t, ix_l, mul_ii, fdiv_ii, mod_ii, int_i, abs_i, list_l, list_t, tuple_l, tuple_t, rg1_i, rg2_i, zip_l, zip_t, is_n, isnot_n, is_b, isnot_b, sizeOk_0, sizeOk_1, sizeOk_2, sizeOk_3, sizeOk_4, sizeOk_5, sizeOk_6, tupOf_1, tupOf_2, tupOf_3, tupOf_4, atI_0, atI_1, atI_2, atI_3, List.getD_cons_zero, List.getD_cons_succ, Bool.not_true, Bool.not_false, true_and, eq_self, ite_and, ite_or, ite_some, ite_two, e0, List.length_map]
    by_cases hl : ds.length = t.length
    · rw [decide_eq_true (by omega : (ds.length : Int) = (t.length : Nat))]
      simp only [asB_b, asI_i, ite_t, ite_f, ret_ap, need_ap, opt_s, isInt_i, isInt_b, isInt_n, isInt_s, isInt_l, isInt_t, isInt_d, isBool_i, isBool_b, isBool_n, isBool_s, isBool_l, isBool_t, isBool_d, isTup_i, isTup_b, isTup_n, isTup_s, isTup_l, isTup_t, isTup_d, isStr_i, isStr_s, isStr_t, len_t, len_l, eq_ii, ne_ii, lt_ii, le_ii, gt_ii, ge_ii, add_ii, sub_ii, neg_i, add_tt, add_ll, items_t, items_l, walk_t, walk_l, sl_t, sl_l, ix_t, ix_l, mul_ii, fdiv_ii, mod_ii, int_i, abs_i, list_l, list_t, tuple_l, tuple_t, rg1_i, rg2_i, zip_l, zip_t, is_n, isnot_n, is_b, isnot_b, sizeOk_0, sizeOk_1, sizeOk_2, sizeOk_3, sizeOk_4, sizeOk_5, sizeOk_6, tupOf_1, tupOf_2, tupOf_3, tupOf_4, atI_0, atI_1, atI_2, atI_3, List.getD_cons_zero, List.getD_cons_succ, Bool.not_true, Bool.not_false, true_and, eq_self, ite_and, ite_or, ite_some, ite_two]
      show itemsOf (.tuple (w.map .int)) _ y
      have ht1 := ht.1
      simp only [asB_b, asI_i, ite_t, ite_f, ret_ap, need_ap, opt_s, isInt_i, isInt_b, isInt_n, isInt_s, isInt_l, isInt_t, isInt_d, isBool_i, isBool_b, isBool_n, isBool_s, isBool_l, isBool_t, isBool_d, isTup_i, isTup_b, isTup_n, isTup_s, isTup_l, isTup_t, isTup_d, isStr_i, isStr_s, isStr_t, len_t, len_l, eq_ii, ne_ii, lt_ii, le_ii, gt_ii, ge_ii, add_ii, sub_ii, neg_i, add_tt, add_ll, items_t, items_l, walk_t, walk_l, sl_t, sl_l, ix_t, ix_l, mul_ii, fdiv_ii, mod_ii, int_i, abs_i, list_l, list_t, tuple_l, tuple_t, rg1_i, rg2_i, zip_l, zip_t, is_n, isnot_n, is_b, isnot_b, sizeOk_0, sizeOk_1, sizeOk_2, sizeOk_3, sizeOk_4, sizeOk_5, sizeOk_6, tupOf_1, tupOf_2, tupOf_3, tupOf_4, atI_0, atI_1, atI_2, atI_3, List.getD_cons_zero, List.getD_cons_succ, Bool.not_true, Bool.not_false, true_and, eq_self, ite_and, ite_or, ite_some, ite_two]
      refine ⟨⟨by omega, by omega⟩, ?_⟩
      rw [rangeD_nat, List.range_eq_range']
      have loop : ∀ (K : SK) (ts : List Tie) (es : List PyData) (k : Nat) (u : List Int) (o1 o2 o3 o4 o5 o6 : Option PyData), K.rt = q → t.drop k = ts → ds.drop k = es → es.length = ts.length → u.length = w.length → (∀ e ∈ ts, e.1 < w.length ∧ e.2.1 < w.length) →
          (((ts.zip es).all fun p => isResB p.1.2.2 p.2) = false → q (.bool false)) → (∀ ss o1 o2 o3 o4 o5 o6, es = ss.map eR → okRs ts ss → K.nx [some (dW w), some (dT t), some (.int (c : Int)), some (.tuple ds), some (.list ((play u ts ss).map .int)), o1, o2, o3, o4, o5, o6]) →
          forGo (gmOf MD F_49 d__law_are_results) (forTg (headS (List.tail (List.tail d__law_are_results.body)))) (exSs (exS 39 (gmOf MD F_49 d__law_are_results)) (forBd (headS (List.tail (List.tail d__law_are_results.body))))) ((List.range' k ts.length).map fun (k : Nat) => PyData.int (k : Int)) [some (dW w), some (dT t), some (.int (c : Int)), some (.tuple ds), some (.list (u.map .int)), o1, o2, o3, o4, o5, o6] K := by
        intro K ts
        induction ts with
        | nil =>
          intro es k u o1 o2 o3 o4 o5 o6 _ _ _ hel _ _ _ hk
          have : es = [] := List.length_eq_zero_iff.mp hel
          subst this
          exact hk [] o1 o2 o3 o4 o5 o6 rfl trivial
        | cons t0 ts ih =>
          intro es k u o1 o2 o3 o4 o5 o6 hr hdt hds hel hu hf hbad hk
          cases es with
          | nil => cases hel
          | cons d es =>
            rw [List.length_cons, List.range'_succ]
            show exSs (exS 39 (gmOf MD F_49 d__law_are_results)) (forBd (headS (List.tail (List.tail d__law_are_results.body)))) [some (dW w), some (dT t), some (.int (c : Int)), some (.tuple ds), some (.list (u.map .int)), some (.int (k : Int)), o2, o3, o4, o5, o6] _
            rw [rb__law_are_results_1]
            obtain ⟨et, hdt'⟩ := getT hdt
            obtain ⟨ed, hds'⟩ := getV hds
            have e5 : ∀ i : Int, dIx (dT t) (.int i) = dIx (.tuple (t.map eT)) (.int i) := fun _ => rfl
            simp only [asB_b, asI_i, ite_t, ite_f, ret_ap, need_ap, opt_s, isInt_i, isInt_b, isInt_n, isInt_s, isInt_l, isInt_t, isInt_d, isBool_i, isBool_b, isBool_n, isBool_s, isBool_l, isBool_t, isBool_d, isTup_i, isTup_b, isTup_n, isTup_s, isTup_l, isTup_t, isTup_d, isStr_i, isStr_s, isStr_t, len_t, len_l, eq_ii, ne_ii, lt_ii, le_ii, gt_ii, ge_ii, add_ii, sub_ii, neg_i, add_tt, add_ll, items_t, items_l, walk_t, walk_l, sl_t, sl_l, ix_t, ix_l, mul_ii, fdiv_ii, mod_ii, int_i, abs_i, list_l, list_t, tuple_l, tuple_t, rg1_i, rg2_i, zip_l, zip_t, is_n, isnot_n, is_b, isnot_b, sizeOk_0, sizeOk_1, sizeOk_2, sizeOk_3, sizeOk_4, sizeOk_5, sizeOk_6, tupOf_1, tupOf_2, tupOf_3, tupOf_4, atI_0, atI_1, atI_2, atI_3, List.getD_cons_zero, List.getD_cons_succ, Bool.not_true, Bool.not_false, true_and, eq_self, ite_and, ite_or, ite_some, ite_two, e5, et, eT, ed]
            have hf0 := hf t0 (List.mem_cons_self ..)
            have hdm : d ∈ ds := List.mem_of_mem_drop (by rw [hds]; exact List.mem_cons_self ..)
            obtain ⟨h5, h6⟩ := h4 d hdm
            cases e : isResB t0.2.2 d
            · have bad : K.rt (.bool false) := by
                rw [hr]
                refine hbad ?_
                rw [List.zip_cons_cons, List.all_cons, e]
                rfl
              rcases d with _ | _ | i | _ | _ | fs | kvs
              case tuple =>
                obtain ⟨h7, h8⟩ := h6 fs rfl
                by_cases h9 : fs.length = 2
                · obtain ⟨a, b, rfl⟩ : ∃ a b, fs = [a, b] := by
                    match fs, h9 with
                    | [a, b], _ => exact ⟨a, b, rfl⟩
                  simp only [asB_b, asI_i, ite_t, ite_f, ret_ap, need_ap, opt_s, isInt_i, isInt_b, isInt_n, isInt_s, isInt_l, isInt_t, isInt_d, isBool_i, isBool_b, isBool_n, isBool_s, isBool_l, isBool_t, isBool_d, isTup_i, isTup_b, isTup_n, isTup_s, isTup_l, isTup_t, isTup_d, isStr_i, isStr_s, isStr_t, len_t, len_l, eq_ii, ne_ii, lt_ii, le_ii, gt_ii, ge_ii, add_ii, sub_ii, neg_i, add_tt, add_ll, items_t, items_l, walk_t, walk_l, sl_t, sl_l, ix_t, ix_l, mul_ii, fdiv_ii, mod_ii, int_i, abs_i, list_l, list_t, tuple_l, tuple_t, rg1_i, rg2_i, zip_l, zip_t, is_n, isnot_n, is_b, isnot_b, sizeOk_0, sizeOk_1, sizeOk_2, sizeOk_3, sizeOk_4, sizeOk_5, sizeOk_6, tupOf_1, tupOf_2, tupOf_3, tupOf_4, atI_0, atI_1, atI_2, atI_3, List.getD_cons_zero, List.getD_cons_succ, Bool.not_true, Bool.not_false, true_and, eq_self, ite_and, ite_or, ite_some, ite_two]
                  have e9 : (!decide ((([a, b] : List PyData).length : Int) = 2)) = false := rfl
                  rw [e9]
                  simp only [asB_b, asI_i, ite_t, ite_f, ret_ap, need_ap, opt_s, isInt_i, isInt_b, isInt_n, isInt_s, isInt_l, isInt_t, isInt_d, isBool_i, isBool_b, isBool_n, isBool_s, isBool_l, isBool_t, isBool_d, isTup_i, isTup_b, isTup_n, isTup_s, isTup_l, isTup_t, isTup_d, isStr_i, isStr_s, isStr_t, len_t, len_l, eq_ii, ne_ii, lt_ii, le_ii, gt_ii, ge_ii, add_ii, sub_ii, neg_i, add_tt, add_ll, items_t, items_l, walk_t, walk_l, sl_t, sl_l, ix_t, ix_l, mul_ii, fdiv_ii, mod_ii, int_i, abs_i, list_l, list_t, tuple_l, tuple_t, rg1_i, rg2_i, zip_l, zip_t, is_n, isnot_n, is_b, isnot_b, sizeOk_0, sizeOk_1, sizeOk_2, sizeOk_3, sizeOk_4, sizeOk_5, sizeOk_6, tupOf_1, tupOf_2, tupOf_3, tupOf_4, atI_0, atI_1, atI_2, atI_3, List.getD_cons_zero, List.getD_cons_succ, Bool.not_true, Bool.not_false, true_and, eq_self, ite_and, ite_or, ite_some, ite_two]
                  refine lc_bools (p := fun d => isBetween d 0 t0.2.2) (fun d hd q x hq => w_lin d 0 _ (h8 d hd) hq) h7 ?_
                  refine in_bools _ ?_
                  cases e10 : isBetween a 0 t0.2.2 && isBetween b 0 t0.2.2
                  · have e11 : ([a, b].map fun d => isBetween d 0 t0.2.2).contains false = true := by
                      rw [List.contains_iff_mem]
                      rcases Bool.and_eq_false_iff.mp e10 with z | z <;> simp [z]
                    rw [e11]
                    exact bad
                  · obtain ⟨ea, eb⟩ := Bool.and_eq_true_iff.mp e10
                    have e11 : ([a, b].map fun d => isBetween d 0 t0.2.2).contains false = false := by simp [ea, eb]
                    rw [e11]
                    obtain ⟨i, rfl, hi⟩ := isBetween_int ea
                    obtain ⟨j, rfl, hj⟩ := isBetween_int eb
                    have e : (okI i 0 t0.2.2 && (okI j 0 t0.2.2 && decide (i + j = t0.2.2))) = false := e
                    rw [hi, hj, Bool.true_and, Bool.true_and] at e
                    have e12 : dSum [.tuple [.int i, .int j]] = W.ret (.int ([i, j].sum)) := rfl
                    have e13 : [i, j].sum = i + j := by simp
                    simp only [asB_b, asI_i, ite_t, ite_f, ret_ap, need_ap, opt_s, isInt_i, isInt_b, isInt_n, isInt_s, isInt_l, isInt_t, isInt_d, isBool_i, isBool_b, isBool_n, isBool_s, isBool_l, isBool_t, isBool_d, isTup_i, isTup_b, isTup_n, isTup_s, isTup_l, isTup_t, isTup_d, isStr_i, isStr_s, isStr_t, len_t, len_l, eq_ii, ne_ii, lt_ii, le_ii, gt_ii, ge_ii, add_ii, sub_ii, neg_i, add_tt, add_ll, items_t, items_l, walk_t, walk_l, sl_t, sl_l, ix_t, ix_l, mul_ii, fdiv_ii, mod_ii, int_i, abs_i, list_l, list_t, tuple_l, tuple_t, rg1_i, rg2_i, zip_l, zip_t, is_n, isnot_n, is_b, isnot_b, sizeOk_0, sizeOk_1, sizeOk_2, sizeOk_3, sizeOk_4, sizeOk_5, sizeOk_6, tupOf_1, tupOf_2, tupOf_3, tupOf_4, atI_0, atI_1, atI_2, atI_3, List.getD_cons_zero, List.getD_cons_succ, Bool.not_true, Bool.not_false, true_and, eq_self, ite_and, ite_or, ite_some, ite_two, e12, e13]
                    rw [e]
                    exact bad
                · simp only [asB_b, asI_i, ite_t, ite_f, ret_ap, need_ap, opt_s, isInt_i, isInt_b, isInt_n, isInt_s, isInt_l, isInt_t, isInt_d, isBool_i, isBool_b, isBool_n, isBool_s, isBool_l, isBool_t, isBool_d, isTup_i, isTup_b, isTup_n, isTup_s, isTup_l, isTup_t, isTup_d, isStr_i, isStr_s, isStr_t, len_t, len_l, eq_ii, ne_ii, lt_ii, le_ii, gt_ii, ge_ii, add_ii, sub_ii, neg_i, add_tt, add_ll, items_t, items_l, walk_t, walk_l, sl_t, sl_l, ix_t, ix_l, mul_ii, fdiv_ii, mod_ii, int_i, abs_i, list_l, list_t, tuple_l, tuple_t, rg1_i, rg2_i, zip_l, zip_t, is_n, isnot_n, is_b, isnot_b, sizeOk_0, sizeOk_1, sizeOk_2, sizeOk_3, sizeOk_4, sizeOk_5, sizeOk_6, tupOf_1, tupOf_2, tupOf_3, tupOf_4, atI_0, atI_1, atI_2, atI_3, List.getD_cons_zero, List.getD_cons_succ, Bool.not_true, Bool.not_false, true_and, eq_self, ite_and, ite_or, ite_some, ite_two]
                  have e9 : (!decide ((fs.length : Int) = 2)) = true := by
                    rw [decide_eq_false (by omega : ¬ (fs.length : Int) = 2)]
                    rfl
                  rw [e9]
                  exact bad
              case dict =>
                rcases kvs with _ | _
                · exact bad
                · cases h5
              all_goals exact bad
            · obtain ⟨r, rfl, ok⟩ := isResB_iff.mp e
              have h7 : isBetween (.int r.1) 0 t0.2.2 = true := by
                show (decide ((0 : Int) ≤ r.1) && decide (r.1 ≤ t0.2.2)) = true
                rw [decide_eq_true ok.1.1, decide_eq_true ok.1.2]; rfl
              have h8 : isBetween (.int r.2) 0 t0.2.2 = true := by
                show (decide ((0 : Int) ≤ r.2) && decide (r.2 ≤ t0.2.2)) = true
                rw [decide_eq_true ok.2.1.1, decide_eq_true ok.2.1.2]; rfl
              simp only [asB_b, asI_i, ite_t, ite_f, ret_ap, need_ap, opt_s, isInt_i, isInt_b, isInt_n, isInt_s, isInt_l, isInt_t, isInt_d, isBool_i, isBool_b, isBool_n, isBool_s, isBool_l, isBool_t, isBool_d, isTup_i, isTup_b, isTup_n, isTup_s, isTup_l, isTup_t, isTup_d, isStr_i, isStr_s, isStr_t, len_t, len_l, eq_ii, ne_ii, lt_ii, le_ii, gt_ii, ge_ii, add_ii, sub_ii, neg_i, add_tt, add_ll, items_t, items_l, walk_t, walk_l, sl_t, sl_l, ix_t, ix_l, mul_ii, fdiv_ii, mod_ii, int_i, abs_i, list_l, list_t, tuple_l, tuple_t, rg1_i, rg2_i, zip_l, zip_t, is_n, isnot_n, is_b, isnot_b, sizeOk_0, sizeOk_1, sizeOk_2, sizeOk_3, sizeOk_4, sizeOk_5, sizeOk_6, tupOf_1, tupOf_2, tupOf_3, tupOf_4, atI_0, atI_1, atI_2, atI_3, List.getD_cons_zero, List.getD_cons_succ, Bool.not_true, Bool.not_false, true_and, eq_self, ite_and, ite_or, ite_some, ite_two, eR]
              have e9 : (!decide ((([.int r.1, .int r.2] : List PyData).length : Int) = 2)) = false := rfl
              rw [e9]
              simp only [asB_b, asI_i, ite_t, ite_f, ret_ap, need_ap, opt_s, isInt_i, isInt_b, isInt_n, isInt_s, isInt_l, isInt_t, isInt_d, isBool_i, isBool_b, isBool_n, isBool_s, isBool_l, isBool_t, isBool_d, isTup_i, isTup_b, isTup_n, isTup_s, isTup_l, isTup_t, isTup_d, isStr_i, isStr_s, isStr_t, len_t, len_l, eq_ii, ne_ii, lt_ii, le_ii, gt_ii, ge_ii, add_ii, sub_ii, neg_i, add_tt, add_ll, items_t, items_l, walk_t, walk_l, sl_t, sl_l, ix_t, ix_l, mul_ii, fdiv_ii, mod_ii, int_i, abs_i, list_l, list_t, tuple_l, tuple_t, rg1_i, rg2_i, zip_l, zip_t, is_n, isnot_n, is_b, isnot_b, sizeOk_0, sizeOk_1, sizeOk_2, sizeOk_3, sizeOk_4, sizeOk_5, sizeOk_6, tupOf_1, tupOf_2, tupOf_3, tupOf_4, atI_0, atI_1, atI_2, atI_3, List.getD_cons_zero, List.getD_cons_succ, Bool.not_true, Bool.not_false, true_and, eq_self, ite_and, ite_or, ite_some, ite_two]
              refine lc_bools (p := fun d => isBetween d 0 t0.2.2) (fun d hd q x hq => w_lin d 0 _ (by
                rcases List.mem_cons.mp hd with rfl | hd
                · rfl
                · rw [List.mem_singleton.mp hd]; rfl) hq) (by show 2 ≤ 1000; omega) ?_
              refine in_bools _ ?_
              have e11 : (([.int r.1, .int r.2] : List PyData).map fun d => isBetween d 0 t0.2.2).contains false = false := by simp [h7, h8]
              rw [e11]
              have e12 : dSum [.tuple [.int r.1, .int r.2]] = W.ret (.int ([r.1, r.2].sum)) := rfl
              have e13 : [r.1, r.2].sum = r.1 + r.2 := by simp
              simp only [asB_b, asI_i, ite_t, ite_f, ret_ap, need_ap, opt_s, isInt_i, isInt_b, isInt_n, isInt_s, isInt_l, isInt_t, isInt_d, isBool_i, isBool_b, isBool_n, isBool_s, isBool_l, isBool_t, isBool_d, isTup_i, isTup_b, isTup_n, isTup_s, isTup_l, isTup_t, isTup_d, isStr_i, isStr_s, isStr_t, len_t, len_l, eq_ii, ne_ii, lt_ii, le_ii, gt_ii, ge_ii, add_ii, sub_ii, neg_i, add_tt, add_ll, items_t, items_l, walk_t, walk_l, sl_t, sl_l, ix_t, ix_l, mul_ii, fdiv_ii, mod_ii, int_i, abs_i, list_l, list_t, tuple_l, tuple_t, rg1_i, rg2_i, zip_l, zip_t, is_n, isnot_n, is_b, isnot_b, sizeOk_0, sizeOk_1, sizeOk_2, sizeOk_3, sizeOk_4, sizeOk_5, sizeOk_6, tupOf_1, tupOf_2, tupOf_3, tupOf_4, atI_0, atI_1, atI_2, atI_3, List.getD_cons_zero, List.getD_cons_succ, Bool.not_true, Bool.not_false, true_and, eq_self, ite_and, ite_or, ite_some, ite_two, e12, e13]
              rw [decide_eq_true ok.2.2]
              have g1 : t0.1 < u.length := by rw [hu]; exact hf0.1
              have g2 : t0.2.1 < u.length := by rw [hu]; exact hf0.2
              have l1 : t0.1 < (u.map PyData.int).length := by rw [List.length_map]; exact g1
              have l2 : ∀ d, t0.2.1 < ((u.map PyData.int).set t0.1 d).length := fun d => by rw [List.length_set, List.length_map]; exact g2
              simp only [asB_b, asI_i, ite_t, ite_f, ret_ap, need_ap, opt_s, isInt_i, isInt_b, isInt_n, isInt_s, isInt_l, isInt_t, isInt_d, isBool_i, isBool_b, isBool_n, isBool_s, isBool_l, isBool_t, isBool_d, isTup_i, isTup_b, isTup_n, isTup_s, isTup_l, isTup_t, isTup_d, isStr_i, isStr_s, isStr_t, len_t, len_l, eq_ii, ne_ii, lt_ii, le_ii, gt_ii, ge_ii, add_ii, sub_ii, neg_i, add_tt, add_ll, items_t, items_l, walk_t, walk_l, sl_t, sl_l, ix_t, ix_l, mul_ii, fdiv_ii, mod_ii, int_i, abs_i, list_l, list_t, tuple_l, tuple_t, rg1_i, rg2_i, zip_l, zip_t, is_n, isnot_n, is_b, isnot_b, sizeOk_0, sizeOk_1, sizeOk_2, sizeOk_3, sizeOk_4, sizeOk_5, sizeOk_6, tupOf_1, tupOf_2, tupOf_3, tupOf_4, atI_0, atI_1, atI_2, atI_3, List.getD_cons_zero, List.getD_cons_succ, Bool.not_true, Bool.not_false, true_and, eq_self, ite_and, ite_or, ite_some, ite_two, ixW g1, ixW g2, atom_i, asL_l, ownSet_nat l1, ownSet_nat (l2 _)]
              have e14 : ((u.map PyData.int).set t0.1 (.int (u.getD t0.1 0 + r.1))).set t0.2.1 (.int (u.getD t0.2.1 0 + r.2)) = (winsWith u t0 r).map .int := by
                rw [winsWith, List.map_set, List.map_set]
              rw [e14]
              refine ih es (k + 1) (winsWith u t0 r) _ _ _ _ _ _ hr hdt' hds' (by simpa using hel) (by rw [winsWith_len]; exact hu) (fun e he => hf e (List.mem_cons_of_mem _ he)) (fun hb => hbad ?_) fun ss o1 o2 o3 o4 o5 o6 he hok => ?_
              · rw [List.zip_cons_cons, List.all_cons, hb, Bool.and_false]
              · exact hk (r :: ss) o1 o2 o3 o4 o5 o6 (by rw [he]; rfl) ⟨ok, hok⟩
      refine loop _ t ds 0 w none none none none none none rfl rfl rfl hl rfl ht.2 (fun hb => h2 ?_) fun ss o1 o2 o3 o4 o5 o6 he ok => ?_
      · rintro ⟨rs, er, ok, _⟩
        injection er with er
        rw [er, all_res ok] at hb
        cases hb
      · dsimp only
        rw [rr__law_are_results_1]
        have hlen : (play w t ss).length = w.length := play_len
        show W.opt (intsOf ((play w t ss).map PyData.int)) _ _ _
        rw [intsOf_map]
        refine ⟨by rw [hlen]; omega, fun m hm1 hm2 => ?_⟩
        have hc' : c < (play w t ss).length := by rw [hlen]; exact hc
        simp only [asB_b, asI_i, ite_t, ite_f, ret_ap, need_ap, opt_s, isInt_i, isInt_b, isInt_n, isInt_s, isInt_l, isInt_t, isInt_d, isBool_i, isBool_b, isBool_n, isBool_s, isBool_l, isBool_t, isBool_d, isTup_i, isTup_b, isTup_n, isTup_s, isTup_l, isTup_t, isTup_d, isStr_i, isStr_s, isStr_t, len_t, len_l, eq_ii, ne_ii, lt_ii, le_ii, gt_ii, ge_ii, add_ii, sub_ii, neg_i, add_tt, add_ll, items_t, items_l, walk_t, walk_l, sl_t, sl_l, ix_t, ix_l, mul_ii, fdiv_ii, mod_ii, int_i, abs_i, list_l, list_t, tuple_l, tuple_t, rg1_i, rg2_i, zip_l, zip_t, is_n, isnot_n, is_b, isnot_b, sizeOk_0, sizeOk_1, sizeOk_2, sizeOk_3, sizeOk_4, sizeOk_5, sizeOk_6, tupOf_1, tupOf_2, tupOf_3, tupOf_4, atI_0, atI_1, atI_2, atI_3, List.getD_cons_zero, List.getD_cons_succ, Bool.not_true, Bool.not_false, true_and, eq_self, ite_and, ite_or, ite_some, ite_two, ixW hc']
        have := max_eq hc' hm1 hm2
        by_cases e6 : topC (play w t ss) c
        · rw [decide_eq_true (this.mpr e6)]
          exact h1 ⟨ss, by rw [he]; rfl, ok, e6⟩
        · rw [decide_eq_false fun z => e6 (this.mp z)]
          refine h2 ?_
          rintro ⟨rs', e7, _, h7⟩
          rw [he] at e7
          rw [← dR_inj (show dR ss = dR rs' from e7)] at h7
          exact e6 h7
    · rw [decide_eq_false (by omega : ¬ (ds.length : Int) = (t.length : Nat))]
      exact no fun ds' e => by injection e with e; rw [← e]; exact hl
  case dict =>
    rcases kvs with _ | _
    · exact no fun _ z => by cases z
    · have := h.ty
      cases this
  all_goals exact no fun _ z => by cases z
end Tk77

set_option maxHeartbeats 4000000
namespace Tk77
open PySem PySem.Spec PyProof.Rows L2 PD
variable {q : PyData → Prop} {y : Xc → Prop}
def pB (n c : Nat) (d : PyData) : Bool := match d with
  | .int i => okI i 0 ((n : Int) - 1) && !decide (i = (c : Int))
  | _ => false
theorem w_pB (n c : Nat) (d : PyData) (h : (tyD d).isSome = true) {x : Xc → Prop} {k : PyData → Prop} (hq : k (.bool (pB n c d))) :
    s__law_is_in [d, .int 0, .int ((n : Int) - 1)] (fun v15 => asB v15 (fun b16 => W.ite b16 (fun q17 z18 => dCmp .NotEq d (.int (c : Int)) (fun v19 => q17 v19) z18) (W.ret (.bool false)) (fun v20 => k v20) x) x) x := by
  refine w_lin d 0 _ h ?_
  rcases d with _ | _ | i | _ | _ | fs | kvs
  case int =>
    have hq : k (.bool (okI i 0 ((n : Int) - 1) && !decide (i = (c : Int)))) := hq
    show asB (.bool (okI i 0 ((n : Int) - 1))) _ x
    cases e : okI i 0 ((n : Int) - 1)
    · rw [e] at hq
      exact hq
    · rw [e] at hq
      simp only [asB_b, asI_i, ite_t, ite_f, ret_ap, need_ap, opt_s, isInt_i, isInt_b, isInt_n, isInt_s, isInt_l, isInt_t, isInt_d, isBool_i, isBool_b, isBool_n, isBool_s, isBool_l, isBool_t, isBool_d, isTup_i, isTup_b, isTup_n, isTup_s, isTup_l, isTup_t, isTup_d, isStr_i, isStr_s, isStr_t, len_t, len_l, eq_ii, ne_ii, lt_ii, le_ii, gt_ii, ge_ii, add_ii, sub_ii, neg_i, add_tt, add_ll, items_t, items_l, walk_t, walk_l, sl_t, sl_l, ix_t, ix_l, mul_ii, fdiv_ii, mod_ii, int_i, abs_i, list_l, list_t, tuple_l, tuple_t, rg1_i, rg2_i, zip_l, zip_t, is_n, isnot_n, is_b, isnot_b, sizeOk_0, sizeOk_1, sizeOk_2, sizeOk_3, sizeOk_4, sizeOk_5, sizeOk_6, tupOf_1, tupOf_2, tupOf_3, tupOf_4, atI_0, atI_1, atI_2, atI_3, List.getD_cons_zero, List.getD_cons_succ, Bool.not_true, Bool.not_false, true_and, eq_self, ite_and, ite_or, ite_some, ite_two]
      exact hq
  all_goals exact hq
theorem pB_nat {d : PyData} {n c : Nat} (h : pB n c d = true) : ∃ k : Nat, d = .int (k : Int) ∧ k < n ∧ k ≠ c := by
  cases d with
  | int i =>
    have h : (okI i 0 ((n : Int) - 1) && !decide (i = (c : Int))) = true := h
    simp only [okI, Bool.and_eq_true, decide_eq_true_eq, Bool.not_eq_true', decide_eq_false_iff_not] at h
    refine ⟨i.toNat, by rw [show ((i.toNat : Nat) : Int) = i by omega], by omega, fun z => h.2 (by omega)⟩
  | _ => cases h
theorem pB_of {n c k : Nat} (h : k < n ∧ k ≠ c) : pB n c (.int (k : Int)) = true := by
  show (okI (k : Int) 0 ((n : Int) - 1) && !decide ((k : Int) = (c : Int))) = true
  simp only [okI, Bool.and_eq_true, decide_eq_true_eq, Bool.not_eq_true', decide_eq_false_iff_not]
  omega
theorem nats_ofB {n c : Nat} : ∀ {ds : List PyData}, (∀ d ∈ ds, pB n c d = true) → ∃ l : List Nat, ds = (l.map fun (k : Nat) => PyData.int (k : Int)) ∧ ∀ k ∈ l, k < n ∧ k ≠ c
  | [], _ => ⟨[], rfl, fun k hk => by cases hk⟩
  | d :: ds, h => by
    obtain ⟨k, e, hk⟩ := pB_nat (h d (List.mem_cons_self ..))
    obtain ⟨l, e2, hl⟩ := nats_ofB fun d hd => h d (List.mem_cons_of_mem _ hd)
    refine ⟨k :: l, by rw [e, e2]; rfl, fun m hm => ?_⟩
    rcases List.mem_cons.mp hm with rfl | hm
    · exact hk
    · exact hl m hm
theorem map_contains {p : PyData → Bool} {ds : List PyData} : (ds.map p).contains false = !ds.all p := by
  rw [Bool.eq_iff_iff, List.contains_iff_mem, List.mem_map, Bool.not_eq_true', List.all_eq_false]
  constructor
  · rintro ⟨d, h1, h2⟩
    exact ⟨d, h1, by simp [h2]⟩
  · rintro ⟨d, h1, h2⟩
    exact ⟨d, h1, by simpa using h2⟩
theorem w_law_is_over (w : List Int) (t : List Tie) (c : Nat) (v : PyData) (hc : c < w.length) (hw : w.length ≤ 5) (ht : t.length ≤ 1000) (h : PV v) (h1 : isOverP w t c v → q (.bool true)) (h2 : ¬ isOverP w t c v → q (.bool false)) : s__law_is_over [dW w, dT t, .int (c : Int), v] q y := by
  rw [r__law_is_over]
  have e0 : dLen [dW w] = dLen [.tuple (w.map .int)] := rfl
  have no : (∀ ds, v ≠ .tuple ds) → q (.bool false) := fun hn => h2 (by
    rintro ⟨l, e, _⟩
    exact hn _ e)
  rcases v with _ | _ | i | _ | _ | ds | kvs
  case tuple =>
    obtain ⟨h3, h4⟩ := h.tup ds rfl
    simp only [asB_b, asI_i, ite_t, ite_f, ret_ap, need_ap, opt_s, isInt_i, isInt_b, isInt_n, isInt_s, isInt_l, isInt_t, isInt_d, isBool_i, isBool_b, isBool_n, isBool_s, isBool_l, isBool_t, isBool_d, isTup_i, isTup_b, isTup_n, isTup_s, isTup_l, isTup_t, isTup_d, isStr_i, isStr_s, isStr_t, len_t, len_l, eq_ii, ne_ii, lt_ii, le_ii, gt_ii, ge_ii, add_ii, sub_ii, neg_i, add_tt, add_ll, items_t, items_l, walk_t, walk_l, sl_t, sl_l, ix_t, ix_l, mul_ii, fdiv_ii, mod_ii, int_i, abs_i, list_l, list_t, tuple_l, tuple_t, rg1_i, rg2_i, zip_l, zip_t, is_n, isnot_n, is_b, isnot_b, sizeOk_0, sizeOk_1, sizeOk_2, sizeOk_3, sizeOk_4, sizeOk_5, sizeOk_6, tupOf_1, tupOf_2, tupOf_3, tupOf_4, atI_0, atI_1, atI_2, atI_3, List.getD_cons_zero, List.getD_cons_succ, Bool.not_true, Bool.not_false, true_and, eq_self, ite_and, ite_or, ite_some, ite_two]
    refine eq_tnil (h.sh _ rfl) (by decide) ?_
    cases ds with
    | nil =>
      refine h2 ?_
      rintro ⟨l, e, hl, _⟩
      exact hl.1 (dL_inj (show dL [] = dL l from e)).symm
    | cons d0 ds =>
      generalize hD : d0 :: ds = es at *
      have e1 : es.isEmpty = false := by rw [← hD]; rfl
      rw [e1]
      simp only [asB_b, asI_i, ite_t, ite_f, ret_ap, need_ap, opt_s, isInt_i, isInt_b, isInt_n, isInt_s, isInt_l, isInt_t, isInt_d, isBool_i, isBool_b, isBool_n, isBool_s, isBool_l, isBool_t, isBool_d, isTup_i, isTup_b, isTup_n, isTup_s, isTup_l, isTup_t, isTup_d, isStr_i, isStr_s, isStr_t, len_t, len_l, eq_ii, ne_ii, lt_ii, le_ii, gt_ii, ge_ii, add_ii, sub_ii, neg_i, add_tt, add_ll, items_t, items_l, walk_t, walk_l, sl_t, sl_l, ix_t, ix_l, mul_ii, fdiv_ii, mod_ii, int_i, abs_i, list_l, list_t, tuple_l, tuple_t, rg1_i, rg2_i, zip_l, zip_t, is_n, isnot_n, is_b, isnot_b, sizeOk_0, sizeOk_1, sizeOk_2, sizeOk_3, sizeOk_4, sizeOk_5, sizeOk_6, tupOf_1, tupOf_2, tupOf_3, tupOf_4, atI_0, atI_1, atI_2, atI_3, List.getD_cons_zero, List.getD_cons_succ, Bool.not_true, Bool.not_false, true_and, eq_self, ite_and, ite_or, ite_some, ite_two, e0, List.length_map]
      refine lc_bools (p := pB w.length c) (fun d hd q x hq => w_pB w.length c d (h4 d hd).1 hq) h3 ?_
      refine in_bools _ ?_
      rw [map_contains]
      cases e : es.all (pB w.length c)
      · refine h2 ?_
        rintro ⟨l, el, hl, _⟩
        have : es.all (pB w.length c) = true := by
          injection el with el
          rw [el, List.all_eq_true]
          intro d hd
          obtain ⟨k, hk, rfl⟩ := List.mem_map.mp hd
          exact pB_of (hl.2.2 k hk)
        rw [this] at e
        cases e
      · obtain ⟨l, el, hl⟩ := nats_ofB fun d hd => List.all_eq_true.mp e d hd
        clear hD e1
        subst el
        have hlen : l.length ≤ 1000 := by rwa [List.length_map] at h3
        simp only [asB_b, asI_i, ite_t, ite_f, ret_ap, need_ap, opt_s, isInt_i, isInt_b, isInt_n, isInt_s, isInt_l, isInt_t, isInt_d, isBool_i, isBool_b, isBool_n, isBool_s, isBool_l, isBool_t, isBool_d, isTup_i, isTup_b, isTup_n, isTup_s, isTup_l, isTup_t, isTup_d, isStr_i, isStr_s, isStr_t, len_t, len_l, eq_ii, ne_ii, lt_ii, le_ii, gt_ii, ge_ii, add_ii, sub_ii, neg_i, add_tt, add_ll, items_t, items_l, walk_t, walk_l, sl_t, sl_l, ix_t, ix_l, mul_ii, fdiv_ii, mod_ii, int_i, abs_i, list_l, list_t, tuple_l, tuple_t, rg1_i, rg2_i, zip_l, zip_t, is_n, isnot_n, is_b, isnot_b, sizeOk_0, sizeOk_1, sizeOk_2, sizeOk_3, sizeOk_4, sizeOk_5, sizeOk_6, tupOf_1, tupOf_2, tupOf_3, tupOf_4, atI_0, atI_1, atI_2, atI_3, List.getD_cons_zero, List.getD_cons_succ, Bool.not_true, Bool.not_false, true_and, eq_self, ite_and, ite_or, ite_some, ite_two, List.length_map]
        refine ⟨⟨⟨by omega, by omega⟩, by omega, by omega⟩, ?_⟩
        rw [rangeD1]
        refine lcGo_filt (l := List.range (l.length - 1)) (fun (k : Nat) => PyData.int (1 + (k : Int))) (fun k => decide (l.getD (k + 1) 0 ≤ l.getD k 0)) (fun k => .int (1 + (k : Int))) (fun k hk q x hq => ?_) (by rw [sizeLine_eq, List.length_range]; omega) ?_
        · have hk := List.mem_range.mp hk
          have e1 : (1 : Int) + (k : Int) - 1 = (k : Int) := by omega
          have e2 : (1 : Int) + (k : Int) = ((k + 1 : Nat) : Int) := by omega
          simp only [asB_b, asI_i, ite_t, ite_f, ret_ap, need_ap, opt_s, isInt_i, isInt_b, isInt_n, isInt_s, isInt_l, isInt_t, isInt_d, isBool_i, isBool_b, isBool_n, isBool_s, isBool_l, isBool_t, isBool_d, isTup_i, isTup_b, isTup_n, isTup_s, isTup_l, isTup_t, isTup_d, isStr_i, isStr_s, isStr_t, len_t, len_l, eq_ii, ne_ii, lt_ii, le_ii, gt_ii, ge_ii, add_ii, sub_ii, neg_i, add_tt, add_ll, items_t, items_l, walk_t, walk_l, sl_t, sl_l, ix_t, ix_l, mul_ii, fdiv_ii, mod_ii, int_i, abs_i, list_l, list_t, tuple_l, tuple_t, rg1_i, rg2_i, zip_l, zip_t, is_n, isnot_n, is_b, isnot_b, sizeOk_0, sizeOk_1, sizeOk_2, sizeOk_3, sizeOk_4, sizeOk_5, sizeOk_6, tupOf_1, tupOf_2, tupOf_3, tupOf_4, atI_0, atI_1, atI_2, atI_3, List.getD_cons_zero, List.getD_cons_succ, Bool.not_true, Bool.not_false, true_and, eq_self, ite_and, ite_or, ite_some, ite_two, e1]
          rw [e2, ixL (by omega)]
          simp only [asB_b, asI_i, ite_t, ite_f, ret_ap, need_ap, opt_s, isInt_i, isInt_b, isInt_n, isInt_s, isInt_l, isInt_t, isInt_d, isBool_i, isBool_b, isBool_n, isBool_s, isBool_l, isBool_t, isBool_d, isTup_i, isTup_b, isTup_n, isTup_s, isTup_l, isTup_t, isTup_d, isStr_i, isStr_s, isStr_t, len_t, len_l, eq_ii, ne_ii, lt_ii, le_ii, gt_ii, ge_ii, add_ii, sub_ii, neg_i, add_tt, add_ll, items_t, items_l, walk_t, walk_l, sl_t, sl_l, ix_t, ix_l, mul_ii, fdiv_ii, mod_ii, int_i, abs_i, list_l, list_t, tuple_l, tuple_t, rg1_i, rg2_i, zip_l, zip_t, is_n, isnot_n, is_b, isnot_b, sizeOk_0, sizeOk_1, sizeOk_2, sizeOk_3, sizeOk_4, sizeOk_5, sizeOk_6, tupOf_1, tupOf_2, tupOf_3, tupOf_4, atI_0, atI_1, atI_2, atI_3, List.getD_cons_zero, List.getD_cons_succ, Bool.not_true, Bool.not_false, true_and, eq_self, ite_and, ite_or, ite_some, ite_two]
          rw [ixL (by omega)]
          simp only [asB_b, asI_i, ite_t, ite_f, ret_ap, need_ap, opt_s, isInt_i, isInt_b, isInt_n, isInt_s, isInt_l, isInt_t, isInt_d, isBool_i, isBool_b, isBool_n, isBool_s, isBool_l, isBool_t, isBool_d, isTup_i, isTup_b, isTup_n, isTup_s, isTup_l, isTup_t, isTup_d, isStr_i, isStr_s, isStr_t, len_t, len_l, eq_ii, ne_ii, lt_ii, le_ii, gt_ii, ge_ii, add_ii, sub_ii, neg_i, add_tt, add_ll, items_t, items_l, walk_t, walk_l, sl_t, sl_l, ix_t, ix_l, mul_ii, fdiv_ii, mod_ii, int_i, abs_i, list_l, list_t, tuple_l, tuple_t, rg1_i, rg2_i, zip_l, zip_t, is_n, isnot_n, is_b, isnot_b, sizeOk_0, sizeOk_1, sizeOk_2, sizeOk_3, sizeOk_4, sizeOk_5, sizeOk_6, tupOf_1, tupOf_2, tupOf_3, tupOf_4, atI_0, atI_1, atI_2, atI_3, List.getD_cons_zero, List.getD_cons_succ, Bool.not_true, Bool.not_false, true_and, eq_self, ite_and, ite_or, ite_some, ite_two]
          have e4 : decide (((l.getD (k + 1) 0 : Nat) : Int) ≤ ((l.getD k 0 : Nat) : Int)) = decide (l.getD (k + 1) 0 ≤ l.getD k 0) := by
            rw [decide_eq_decide]; omega
          rw [e4]
          rw [e2] at hq
          exact hq
        have em : ∀ l : List Nat, l.map (fun (k : Nat) => PyData.int (1 + (k : Int))) = (l.map fun (k : Nat) => 1 + (k : Int)).map .int := fun l => by rw [List.map_map]; rfl
        rw [em]
        refine ne_nil_i ?_
        rw [List.isEmpty_map]
        have er : ((List.range (l.length - 1)).filter fun k => decide (l.getD (k + 1) 0 ≤ l.getD k 0)).isEmpty = rising l := by
          rw [Bool.eq_iff_iff, List.isEmpty_iff, List.filter_eq_nil_iff, rising, List.all_eq_true]
          constructor
          · intro h k hk
            have := h k hk
            simp only [decide_eq_true_eq] at this ⊢
            omega
          · intro h k hk
            have := h k hk
            simp only [decide_eq_true_eq] at this ⊢
            omega
        rw [er]
        cases e5 : rising l
        · refine h2 ?_
          rintro ⟨m, em, hm, _⟩
          rw [← dL_inj (show dL l = dL m from em)] at hm
          rw [rising_iff.mpr hm.2.1] at e5
          cases e5
        · rw [Bool.not_true, asB_b]
          show walkOf (.tuple (t.map eT)) _ y
          rw [walk_t]
          refine sum_filt (l := t) eT (fun e => l.contains e.1 && l.contains e.2.1) (fun e => e.2.2) (fun e he q x hq => ?_) (by rw [sizeLine_eq]; omega) ?_
          · simp only [asB_b, asI_i, ite_t, ite_f, ret_ap, need_ap, opt_s, isInt_i, isInt_b, isInt_n, isInt_s, isInt_l, isInt_t, isInt_d, isBool_i, isBool_b, isBool_n, isBool_s, isBool_l, isBool_t, isBool_d, isTup_i, isTup_b, isTup_n, isTup_s, isTup_l, isTup_t, isTup_d, isStr_i, isStr_s, isStr_t, len_t, len_l, eq_ii, ne_ii, lt_ii, le_ii, gt_ii, ge_ii, add_ii, sub_ii, neg_i, add_tt, add_ll, items_t, items_l, walk_t, walk_l, sl_t, sl_l, ix_t, ix_l, mul_ii, fdiv_ii, mod_ii, int_i, abs_i, list_l, list_t, tuple_l, tuple_t, rg1_i, rg2_i, zip_l, zip_t, is_n, isnot_n, is_b, isnot_b, sizeOk_0, sizeOk_1, sizeOk_2, sizeOk_3, sizeOk_4, sizeOk_5, sizeOk_6, tupOf_1, tupOf_2, tupOf_3, tupOf_4, atI_0, atI_1, atI_2, atI_3, List.getD_cons_zero, List.getD_cons_succ, Bool.not_true, Bool.not_false, true_and, eq_self, ite_and, ite_or, ite_some, ite_two, eT]
            refine in_nats l e.1 ?_
            cases e1 : l.contains e.1
            · rw [e1] at hq
              exact hq
            · rw [e1] at hq
              simp only [asB_b, asI_i, ite_t, ite_f, ret_ap, need_ap, opt_s, isInt_i, isInt_b, isInt_n, isInt_s, isInt_l, isInt_t, isInt_d, isBool_i, isBool_b, isBool_n, isBool_s, isBool_l, isBool_t, isBool_d, isTup_i, isTup_b, isTup_n, isTup_s, isTup_l, isTup_t, isTup_d, isStr_i, isStr_s, isStr_t, len_t, len_l, eq_ii, ne_ii, lt_ii, le_ii, gt_ii, ge_ii, add_ii, sub_ii, neg_i, add_tt, add_ll, items_t, items_l, walk_t, walk_l, sl_t, sl_l, ix_t, ix_l, mul_ii, fdiv_ii, mod_ii, int_i, abs_i, list_l, list_t, tuple_l, tuple_t, rg1_i, rg2_i, zip_l, zip_t, is_n, isnot_n, is_b, isnot_b, sizeOk_0, sizeOk_1, sizeOk_2, sizeOk_3, sizeOk_4, sizeOk_5, sizeOk_6, tupOf_1, tupOf_2, tupOf_3, tupOf_4, atI_0, atI_1, atI_2, atI_3, List.getD_cons_zero, List.getD_cons_succ, Bool.not_true, Bool.not_false, true_and, eq_self, ite_and, ite_or, ite_some, ite_two]
              refine in_nats l e.2.1 ?_
              simp only [asB_b, asI_i, ite_t, ite_f, ret_ap, need_ap, opt_s, isInt_i, isInt_b, isInt_n, isInt_s, isInt_l, isInt_t, isInt_d, isBool_i, isBool_b, isBool_n, isBool_s, isBool_l, isBool_t, isBool_d, isTup_i, isTup_b, isTup_n, isTup_s, isTup_l, isTup_t, isTup_d, isStr_i, isStr_s, isStr_t, len_t, len_l, eq_ii, ne_ii, lt_ii, le_ii, gt_ii, ge_ii, add_ii, sub_ii, neg_i, add_tt, add_ll, items_t, items_l, walk_t, walk_l, sl_t, sl_l, ix_t, ix_l, mul_ii, fdiv_ii, mod_ii, int_i, abs_i, list_l, list_t, tuple_l, tuple_t, rg1_i, rg2_i, zip_l, zip_t, is_n, isnot_n, is_b, isnot_b, sizeOk_0, sizeOk_1, sizeOk_2, sizeOk_3, sizeOk_4, sizeOk_5, sizeOk_6, tupOf_1, tupOf_2, tupOf_3, tupOf_4, atI_0, atI_1, atI_2, atI_3, List.getD_cons_zero, List.getD_cons_succ, Bool.not_true, Bool.not_false, true_and, eq_self, ite_and, ite_or, ite_some, ite_two]
              exact hq
          refine sum_map (l := l) (fun (k : Nat) => PyData.int (k : Int)) (fun k => w.getD k 0) (fun k hk' q x hq => ?_) (by rw [sizeLine_eq]; omega) ?_
          · simp only [asB_b, asI_i, ite_t, ite_f, ret_ap, need_ap, opt_s, isInt_i, isInt_b, isInt_n, isInt_s, isInt_l, isInt_t, isInt_d, isBool_i, isBool_b, isBool_n, isBool_s, isBool_l, isBool_t, isBool_d, isTup_i, isTup_b, isTup_n, isTup_s, isTup_l, isTup_t, isTup_d, isStr_i, isStr_s, isStr_t, len_t, len_l, eq_ii, ne_ii, lt_ii, le_ii, gt_ii, ge_ii, add_ii, sub_ii, neg_i, add_tt, add_ll, items_t, items_l, walk_t, walk_l, sl_t, sl_l, ix_t, ix_l, mul_ii, fdiv_ii, mod_ii, int_i, abs_i, list_l, list_t, tuple_l, tuple_t, rg1_i, rg2_i, zip_l, zip_t, is_n, isnot_n, is_b, isnot_b, sizeOk_0, sizeOk_1, sizeOk_2, sizeOk_3, sizeOk_4, sizeOk_5, sizeOk_6, tupOf_1, tupOf_2, tupOf_3, tupOf_4, atI_0, atI_1, atI_2, atI_3, List.getD_cons_zero, List.getD_cons_succ, Bool.not_true, Bool.not_false, true_and, eq_self, ite_and, ite_or, ite_some, ite_two, dW, ixW (hl k hk').1]
            exact hq
          simp only [asB_b, asI_i, ite_t, ite_f, ret_ap, need_ap, opt_s, isInt_i, isInt_b, isInt_n, isInt_s, isInt_l, isInt_t, isInt_d, isBool_i, isBool_b, isBool_n, isBool_s, isBool_l, isBool_t, isBool_d, isTup_i, isTup_b, isTup_n, isTup_s, isTup_l, isTup_t, isTup_d, isStr_i, isStr_s, isStr_t, len_t, len_l, eq_ii, ne_ii, lt_ii, le_ii, gt_ii, ge_ii, add_ii, sub_ii, neg_i, add_tt, add_ll, items_t, items_l, walk_t, walk_l, sl_t, sl_l, ix_t, ix_l, mul_ii, fdiv_ii, mod_ii, int_i, abs_i, list_l, list_t, tuple_l, tuple_t, rg1_i, rg2_i, zip_l, zip_t, is_n, isnot_n, is_b, isnot_b, sizeOk_0, sizeOk_1, sizeOk_2, sizeOk_3, sizeOk_4, sizeOk_5, sizeOk_6, tupOf_1, tupOf_2, tupOf_3, tupOf_4, atI_0, atI_1, atI_2, atI_3, List.getD_cons_zero, List.getD_cons_succ, Bool.not_true, Bool.not_false, true_and, eq_self, ite_and, ite_or, ite_some, ite_two, List.length_map]
          show dIx (.tuple (w.map .int)) (.int (c : Int)) _ y
          simp only [asB_b, asI_i, ite_t, ite_f, ret_ap, need_ap, opt_s, isInt_i, isInt_b, isInt_n, isInt_s, isInt_l, isInt_t, isInt_d, isBool_i, isBool_b, isBool_n, isBool_s, isBool_l, isBool_t, isBool_d, isTup_i, isTup_b, isTup_n, isTup_s, isTup_l, isTup_t, isTup_d, isStr_i, isStr_s, isStr_t, len_t, len_l, eq_ii, ne_ii, lt_ii, le_ii, gt_ii, ge_ii, add_ii, sub_ii, neg_i, add_tt, add_ll, items_t, items_l, walk_t, walk_l, sl_t, sl_l, ix_t, ix_l, mul_ii, fdiv_ii, mod_ii, int_i, abs_i, list_l, list_t, tuple_l, tuple_t, rg1_i, rg2_i, zip_l, zip_t, is_n, isnot_n, is_b, isnot_b, sizeOk_0, sizeOk_1, sizeOk_2, sizeOk_3, sizeOk_4, sizeOk_5, sizeOk_6, tupOf_1, tupOf_2, tupOf_3, tupOf_4, atI_0, atI_1, atI_2, atI_3, List.getD_cons_zero, List.getD_cons_succ, Bool.not_true, Bool.not_false, true_and, eq_self, ite_and, ite_or, ite_some, ite_two, ixW hc]
          refine w_lgames t c ht ?_
          simp only [asB_b, asI_i, ite_t, ite_f, ret_ap, need_ap, opt_s, isInt_i, isInt_b, isInt_n, isInt_s, isInt_l, isInt_t, isInt_d, isBool_i, isBool_b, isBool_n, isBool_s, isBool_l, isBool_t, isBool_d, isTup_i, isTup_b, isTup_n, isTup_s, isTup_l, isTup_t, isTup_d, isStr_i, isStr_s, isStr_t, len_t, len_l, eq_ii, ne_ii, lt_ii, le_ii, gt_ii, ge_ii, add_ii, sub_ii, neg_i, add_tt, add_ll, items_t, items_l, walk_t, walk_l, sl_t, sl_l, ix_t, ix_l, mul_ii, fdiv_ii, mod_ii, int_i, abs_i, list_l, list_t, tuple_l, tuple_t, rg1_i, rg2_i, zip_l, zip_t, is_n, isnot_n, is_b, isnot_b, sizeOk_0, sizeOk_1, sizeOk_2, sizeOk_3, sizeOk_4, sizeOk_5, sizeOk_6, tupOf_1, tupOf_2, tupOf_3, tupOf_4, atI_0, atI_1, atI_2, atI_3, List.getD_cons_zero, List.getD_cons_succ, Bool.not_true, Bool.not_false, true_and, eq_self, ite_and, ite_or, ite_some, ite_two]
          refine ⟨.inl (.inl ⟨by omega, by omega⟩), ?_⟩
          have e3 : decide ((l.length : Int) * (w.getD c 0 + gamesLeft t c) < (l.map fun k => w.getD k 0).sum + ((t.filter fun e => l.contains e.1 && l.contains e.2.1).map fun e => e.2.2).sum) = over w t (mostOf w t c) l := by
            rw [over, Int.mul_comm]
            rfl
          rw [e3]
          cases e6 : over w t (mostOf w t c) l
          · refine h2 ?_
            rintro ⟨m, em, hm, h⟩
            rw [← dL_inj (show dL l = dL m from em), e6] at h
            cases h
          · refine h1 ⟨l, rfl, ⟨fun z => ?_, rising_iff.mp e5, hl⟩, e6⟩
            subst z
            have h0 := of_decide_eq_true (show decide (mostOf w t c * ((([] : List Nat).length : Nat) : Int) < winsOf w [] + among t []) = true from e6)
            have h9 : among t [] = 0 := by
              unfold among
              have : (t.filter fun e => ([] : List Nat).contains e.1 && ([] : List Nat).contains e.2.1) = [] := by
                rw [List.filter_eq_nil_iff]
                intro a _
                simp
              rw [this]
              rfl
            rw [h9, show winsOf w [] = 0 from rfl, show ((([] : List Nat).length : Nat) : Int) = 0 from rfl, Int.mul_zero] at h0
            omega
  case dict =>
    rcases kvs with _ | _
    · exact no fun _ z => by cases z
    · have := h.ty
      cases this
  all_goals exact no fun _ z => by cases z
theorem never_both {w : List Int} {t : List Tie} {c : Nat} {v : PyData} (h1 : isResP w t c v) (h2 : isOverP w t c v) : False := by
  obtain ⟨rs, e1, _, _⟩ := h1
  obtain ⟨l, e2, hl, _⟩ := h2
  rw [e1] at e2
  injection e2 with e2
  cases l with
  | nil => exact hl.1 rfl
  | cons a l =>
    cases rs with
    | nil => cases e2
    | cons r rs =>
      injection e2 with e2 _
      cases e2
end Tk77

set_option maxHeartbeats 4000000
namespace Tk77
open PySem PySem.Spec PyProof.Rows L2 PD
/-! ### the plain law: what is left to settle can be settled -/
def sF {α : Type} (f : α → Int) (p : α → Bool) (L : List α) : Int := ((L.filter p).map f).sum
theorem sF_nil {α : Type} {f : α → Int} {p : α → Bool} : sF f p [] = 0 := rfl
theorem sF_cons {α : Type} {f : α → Int} {p : α → Bool} {a : α} {L : List α} : sF f p (a :: L) = (if p a then f a else 0) + sF f p L := by
  unfold sF
  rw [List.filter_cons]
  cases p a
  · simp
  · simp
theorem sF_mod {α : Type} {f : α → Int} {p q : α → Bool} : ∀ L : List α, sF f p L + sF f q L = sF f (fun a => p a || q a) L + sF f (fun a => p a && q a) L
  | [] => rfl
  | a :: L => by
    have := sF_mod (f := f) (p := p) (q := q) L
    rw [sF_cons, sF_cons, sF_cons, sF_cons]
    cases p a <;> cases q a <;> simp <;> omega
def in2 (p : Nat → Bool) (e : Tie) : Bool := p e.1 && p e.2.1
def AS (t : List Tie) (p : Nat → Bool) : Int := sF (fun e => e.2.2) (in2 p) t
theorem hd4 (a1 a2 b1 b2 : Bool) (g : Int) (h : 0 ≤ g) : (if (a1 && a2) = true then g else 0) + (if (b1 && b2) = true then g else 0) ≤ (if ((a1 || b1) && (a2 || b2)) = true then g else 0) + (if ((a1 && b1) && (a2 && b2)) = true then g else 0) := by
  cases a1 <;> cases a2 <;> cases b1 <;> cases b2 <;> simp <;> omega
theorem AS_mod {p q : Nat → Bool} : ∀ t : List Tie, (∀ e ∈ t, 0 ≤ e.2.2) → AS t p + AS t q ≤ AS t (fun a => p a || q a) + AS t (fun a => p a && q a)
  | [], _ => Int.le_refl _
  | e :: t, h => by
    have := AS_mod (p := p) (q := q) t fun e he => h e (List.mem_cons_of_mem _ he)
    have h0 := h e (List.mem_cons_self ..)
    have hd : (if in2 p e then e.2.2 else 0) + (if in2 q e then e.2.2 else 0) ≤ (if in2 (fun a => p a || q a) e then e.2.2 else 0) + (if in2 (fun a => p a && q a) e then e.2.2 else 0) := hd4 (p e.1) (p e.2.1) (q e.1) (q e.2.1) e.2.2 h0
    unfold AS at this ⊢
    rw [sF_cons, sF_cons, sF_cons, sF_cons]
    omega
def WS (n : Nat) (w : List Int) (p : Nat → Bool) : Int := sF (fun k => w.getD k 0) p (List.range n)
def CN (n : Nat) (p : Nat → Bool) : Int := sF (fun _ => 1) p (List.range n)
theorem sF_set {w : List Int} {k : Nat} {v : Int} {p : Nat → Bool} (hk : k < w.length) : ∀ {L : List Nat}, L.Nodup → sF (fun j => (w.set k v).getD j 0) p L = sF (fun j => w.getD j 0) p L + if L.contains k && p k then v - w.getD k 0 else 0
  | [], _ => by simp [sF]
  | a :: L, h => by
    obtain ⟨h1, h2⟩ := List.nodup_cons.mp h
    rw [sF_cons, sF_cons, sF_set hk h2]
    by_cases e : a = k
    · subst e
      have e1 : (w.set a v).getD a 0 = v := by simp [List.getD_eq_getElem?_getD, hk]
      have e2 : L.contains a = false := by
        cases z : L.contains a
        · rfl
        · exact absurd (List.contains_iff_mem.mp z) h1
      have e3 : (a :: L).contains a = true := by simp
      rw [e1, e2, e3]
      cases p a <;> simp
      omega
    · have e1 : (w.set k v).getD a 0 = w.getD a 0 := by
        simp only [List.getD_eq_getElem?_getD]
        rw [List.getElem?_set_ne fun z => e z.symm]
      have e3 : (a :: L).contains k = L.contains k := by
        rw [Bool.eq_iff_iff, List.contains_iff_mem, List.contains_iff_mem, List.mem_cons]
        constructor
        · rintro (z | z)
          · exact absurd z.symm e
          · exact z
        · exact .inr
      rw [e1, e3]
      omega
theorem WS_with {n : Nat} {w : List Int} {t : Tie} {r : Res} {p : Nat → Bool} (hn : w.length = n) (ha : t.1 < n) (hb : t.2.1 < n) (hne : t.1 ≠ t.2.1) : WS n (winsWith w t r) p = WS n w p + (if p t.1 then r.1 else 0) + if p t.2.1 then r.2 else 0 := by
  unfold WS winsWith
  rw [sF_set (by rw [List.length_set]; omega) List.nodup_range, sF_set (by omega) List.nodup_range]
  have e1 : (List.range n).contains t.1 = true := List.contains_iff_mem.mpr (List.mem_range.mpr ha)
  have e2 : (List.range n).contains t.2.1 = true := List.contains_iff_mem.mpr (List.mem_range.mpr hb)
  have e3 : (w.set t.1 (w.getD t.1 0 + r.1)).getD t.2.1 0 = w.getD t.2.1 0 := by
    simp only [List.getD_eq_getElem?_getD]
    rw [List.getElem?_set_ne hne]
  rw [e1, e2, e3, Bool.true_and, Bool.true_and]
  cases p t.1 <;> cases p t.2.1 <;> simp <;> omega
def val (n : Nat) (most : Int) (w : List Int) (t : List Tie) (p : Nat → Bool) : Int := most * CN n p - WS n w p - AS t p
def NoP (n c : Nat) (most : Int) (w : List Int) (t : List Tie) : Prop := ∀ p : Nat → Bool, p c = false → 0 ≤ val n most w t p
theorem val_mod {n : Nat} {most : Int} {w : List Int} {t : List Tie} {e : Tie} {p q : Nat → Bool} (ht : ∀ e ∈ t, 0 ≤ e.2.2) (h0 : 0 ≤ e.2.2) (h1 : p e.1 = true) (h2 : p e.2.1 = false) (h3 : q e.1 = false) (h4 : q e.2.1 = true) :
    val n most w (e :: t) (fun a => p a || q a) + val n most w (e :: t) (fun a => p a && q a) + e.2.2 ≤ val n most w (e :: t) p + val n most w (e :: t) q := by
  have a1 := sF_mod (f := fun _ => (1 : Int)) (p := p) (q := q) (List.range n)
  have a2 := sF_mod (f := fun k => w.getD k 0) (p := p) (q := q) (List.range n)
  have a3 := AS_mod (p := p) (q := q) t ht
  have c1 : ∀ p, AS (e :: t) p = (if in2 p e then e.2.2 else 0) + AS t p := fun p => sF_cons
  have d1 : in2 p e = false := by simp [in2, h1, h2]
  have d2 : in2 q e = false := by simp [in2, h3, h4]
  have d3 : in2 (fun a => p a || q a) e = true := by simp [in2, h1, h4]
  have d4 : in2 (fun a => p a && q a) e = false := by simp [in2, h1, h2, h3]
  have m : most * CN n p + most * CN n q = most * CN n (fun a => p a || q a) + most * CN n (fun a => p a && q a) := by
    rw [← Int.mul_add, ← Int.mul_add]
    unfold CN
    rw [a1]
  unfold val
  rw [c1, c1, c1, c1, d1, d2, d3, d4]
  unfold WS
  simp only [if_true, Bool.false_eq_true, if_false]
  omega
theorem most_of {P : Nat → Prop} (h0 : P 0) : ∀ n : Nat, ∃ x, x ≤ n ∧ P x ∧ (x = n ∨ ¬ P (x + 1))
  | 0 => ⟨0, Nat.le_refl _, h0, .inl rfl⟩
  | n + 1 => by
    obtain ⟨x, h1, h2, h3⟩ := most_of h0 n
    rcases h3 with rfl | h3
    · by_cases h : P (x + 1)
      · exact ⟨x + 1, Nat.le_refl _, h, .inl rfl⟩
      · exact ⟨x, Nat.le_succ _, h2, .inr h⟩
    · exact ⟨x, Nat.le_succ_of_le h1, h2, .inr h3⟩
theorem val_with {n : Nat} {most : Int} {w : List Int} {t : List Tie} {e : Tie} {r : Res} {p : Nat → Bool} (hn : w.length = n) (ha : e.1 < n) (hb : e.2.1 < n) (hne : e.1 ≠ e.2.1) :
    val n most (winsWith w e r) t p = val n most w (e :: t) p - (if p e.1 then r.1 else 0) - (if p e.2.1 then r.2 else 0) + if in2 p e then e.2.2 else 0 := by
  have c1 : AS (e :: t) p = (if in2 p e then e.2.2 else 0) + AS t p := sF_cons
  unfold val
  rw [c1, WS_with hn ha hb hne]
  omega
/-- the results that are tried -/
def resl (e : Tie) (c : Nat) : List Res := if [e.1, e.2.1].contains c then [if c = e.1 then (e.2.2, 0) else (0, e.2.2)] else (List.range (e.2.2.toNat + 1)).map fun (x : Nat) => ((x : Int), e.2.2 - (x : Int))
theorem step {n c : Nat} {most : Int} {w : List Int} {t : List Tie} {e : Tie} (hn : w.length = n) (ha : e.1 < n) (hb : e.2.1 < n) (hne : e.1 ≠ e.2.1) (h0 : 0 ≤ e.2.2) (ht : ∀ e ∈ t, 0 ≤ e.2.2) (h : NoP n c most w (e :: t)) : ∃ r ∈ resl e c, NoP n c most (winsWith w e r) t := by
  unfold resl
  by_cases hc : [e.1, e.2.1].contains c = true
  · rw [if_pos hc]
    refine ⟨_, List.mem_singleton.mpr rfl, fun p hp => ?_⟩
    have hv := h p hp
    rw [val_with hn ha hb hne]
    by_cases e1 : c = e.1
    · rw [if_pos e1]
      have : p e.1 = false := by rw [← e1]; exact hp
      simp [in2, this]
      exact hv
    · rw [if_neg e1]
      have e2 : c = e.2.1 := by
        have := List.contains_iff_mem.mp hc
        simp only [List.mem_cons, List.not_mem_nil, or_false] at this
        exact this.resolve_left e1
      have : p e.2.1 = false := by rw [← e2]; exact hp
      simp [in2, this]
      exact hv
  · rw [if_neg hc]
    obtain ⟨x, hx, hP, hm⟩ := most_of (P := fun x => ∀ p : Nat → Bool, p c = false → p e.1 = true → p e.2.1 = false → (x : Int) ≤ val n most w (e :: t) p) (fun p hp _ _ => h p hp) e.2.2.toNat
    refine ⟨((x : Int), e.2.2 - (x : Int)), List.mem_map.mpr ⟨x, List.mem_range.mpr (by omega), rfl⟩, fun p hp => ?_⟩
    have hv := h p hp
    rw [val_with hn ha hb hne]
    cases e1 : p e.1
    · cases e2 : p e.2.1
      · simp [in2, e1, e2]; exact hv
      · simp [in2, e1, e2]
        rcases hm with hm | hm
        · omega
        · have : ∃ q : Nat → Bool, q c = false ∧ q e.1 = true ∧ q e.2.1 = false ∧ val n most w (e :: t) q < (x : Int) + 1 := by
            apply Classical.byContradiction
            intro hno
            refine hm fun q h1 h2 h3 => ?_
            rcases Int.lt_or_le (val n most w (e :: t) q) ((x : Int) + 1) with z | z
            · exact absurd ⟨q, h1, h2, h3, z⟩ hno
            · exact z
          obtain ⟨q, h1, h2, h3, h4⟩ := this
          have m := val_mod (n := n) (most := most) (w := w) (p := q) (q := p) ht h0 h2 h3 e1 e2
          have u1 := h (fun a => q a || p a) (by simp [h1, hp])
          have u2 := h (fun a => q a && p a) (by simp [h1])
          omega
    · cases e2 : p e.2.1
      · simp [in2, e1, e2]
        have := hP p hp e1 e2
        omega
      · simp [in2, e1, e2]
        omega
/-! ### lots and predicates -/
theorem lot_filter {n c : Nat} {l : List Nat} (h : isLot n c l) : (List.range n).filter (fun k => l.contains k) = l := by
  have h1 : ((List.range n).filter fun k => l.contains k).Pairwise (· < ·) := List.Pairwise.filter _ List.pairwise_lt_range
  refine List.Perm.eq_of_pairwise (le := (· < ·)) (fun a b _ _ h1 h2 => by omega) h1 h.2.1 ?_
  refine (List.perm_ext_iff_of_nodup (h1.imp fun h => Nat.ne_of_lt h) (h.2.1.imp fun h => Nat.ne_of_lt h)).mpr fun a => ?_
  rw [List.mem_filter, List.mem_range, List.contains_iff_mem]
  exact ⟨fun h => h.2, fun z => ⟨(h.2.2 a z).1, z⟩⟩
theorem NoP_of {n c : Nat} {most : Int} {w : List Int} {t : List Tie} (hn : w.length = n) (ht : ∀ e ∈ t, e.1 < n ∧ e.2.1 < n) (h : ∀ l, isLot n c l → over w t most l = false) : NoP n c most w t := fun p hp => by
  have key : ∀ l : List Nat, l = (List.range n).filter p → val n most w t p = most * (l.length : Int) - winsOf w l - among t l := fun l hl => by
    have e1 : CN n p = (l.length : Int) := by
      unfold CN sF
      rw [← hl]
      clear hl
      induction l with
      | nil => rfl
      | cons a l ih => rw [List.map_cons, List.sum_cons, ih, List.length_cons]; omega
    have e2 : WS n w p = winsOf w l := by unfold WS sF winsOf; rw [← hl]
    have e3 : AS t p = among t l := by
      unfold AS sF among
      congr 2
      refine List.filter_congr fun e he => ?_
      have m : ∀ k, k < n → p k = l.contains k := fun k hk => by
        rw [Bool.eq_iff_iff, List.contains_iff_mem, hl, List.mem_filter, List.mem_range]
        exact ⟨fun h => ⟨hk, h⟩, fun h => h.2⟩
      show (p e.1 && p e.2.1) = (l.contains e.1 && l.contains e.2.1)
      rw [m _ (ht e he).1, m _ (ht e he).2]
    unfold val
    rw [e1, e2, e3]
  rw [key _ rfl]
  generalize hL : (List.range n).filter p = l
  by_cases h0 : l = []
  · subst h0
    have e1 : among t [] = 0 := by
      unfold among
      have : (t.filter fun e => ([] : List Nat).contains e.1 && ([] : List Nat).contains e.2.1) = [] := by
        rw [List.filter_eq_nil_iff]
        intro a _
        simp
      rw [this]
      rfl
    rw [e1]
    simp [winsOf]
  · have hl : isLot n c l := ⟨h0, by rw [← hL]; exact List.Pairwise.filter _ List.pairwise_lt_range, fun k hk => by
      rw [← hL, List.mem_filter, List.mem_range] at hk
      exact ⟨hk.1, fun z => by rw [z, hp] at hk; cases hk.2⟩⟩
    have := h l hl
    unfold over at this
    rw [decide_eq_false_iff_not] at this
    omega
theorem of_NoP {n c : Nat} {most : Int} {w : List Int} {t : List Tie} (h : NoP n c most w t) {l : List Nat} (hl : isLot n c l) : over w t most l = false := by
  have e := lot_filter hl
  have hv := h (fun k => l.contains k) (by
    cases z : l.contains c
    · rfl
    · exact absurd rfl (hl.2.2 c (List.contains_iff_mem.mp z)).2)
  have e1 : CN n (fun k => l.contains k) = (l.length : Int) := by
    unfold CN sF
    rw [e]
    clear e hv hl
    induction l with
    | nil => rfl
    | cons a l ih => rw [List.map_cons, List.sum_cons, ih, List.length_cons]; omega
  have e2 : WS n w (fun k => l.contains k) = winsOf w l := by unfold WS sF winsOf; rw [e]
  have e3 : AS t (fun k => l.contains k) = among t l := rfl
  unfold val at hv
  rw [e1, e2, e3] at hv
  unfold over
  rw [decide_eq_false_iff_not]
  omega
end Tk77

set_option maxHeartbeats 4000000
namespace Tk77
open PySem PySem.Spec PyProof.Rows L2 PD
variable {q : PyData → Prop} {y : Xc → Prop}
theorem w_results_of (e : Tie) (c : Nat) (h0 : 0 ≤ e.2.2) (h1 : e.2.2 ≤ 20) (hq : q (.list ((resl e c).map eR))) : s_results_of [eT e, .int (c : Int)] q y := by
  rw [r_results_of]
  simp only [asB_b, asI_i, ite_t, ite_f, ret_ap, need_ap, opt_s, isInt_i, isInt_b, isInt_n, isInt_s, isInt_l, isInt_t, isInt_d, isBool_i, isBool_b, isBool_n, isBool_s, isBool_l, isBool_t, isBool_d, isTup_i, isTup_b, isTup_n, isTup_s, isTup_l, isTup_t, isTup_d, isStr_i, isStr_s, isStr_t, len_t, len_l, eq_ii, ne_ii, lt_ii, le_ii, gt_ii, ge_ii, add_ii, sub_ii, neg_i, add_tt, add_ll, items_t, items_l, walk_t, walk_l, sl_t, sl_l, ix_t, ix_l, mul_ii, fdiv_ii, mod_ii, int_i, abs_i, list_l, list_t, tuple_l, tuple_t, rg1_i, rg2_i, zip_l, zip_t, is_n, isnot_n, is_b, isnot_b, sizeOk_0, sizeOk_1, sizeOk_2, sizeOk_3, sizeOk_4, sizeOk_5, sizeOk_6, tupOf_1, tupOf_2, tupOf_3, tupOf_4, atI_0, atI_1, atI_2, atI_3, List.getD_cons_zero, List.getD_cons_succ, Bool.not_true, Bool.not_false, true_and, eq_self, ite_and, ite_or, ite_some, ite_two, eT]
  refine in_nats [e.1, e.2.1] c ?_
  cases hc : [e.1, e.2.1].contains c
  · have e1 : resl e c = (List.range (e.2.2.toNat + 1)).map fun (x : Nat) => ((x : Int), e.2.2 - (x : Int)) := by unfold resl; rw [hc]; rfl
    rw [e1, List.map_map] at hq
    simp only [asB_b, asI_i, ite_t, ite_f, ret_ap, need_ap, opt_s, isInt_i, isInt_b, isInt_n, isInt_s, isInt_l, isInt_t, isInt_d, isBool_i, isBool_b, isBool_n, isBool_s, isBool_l, isBool_t, isBool_d, isTup_i, isTup_b, isTup_n, isTup_s, isTup_l, isTup_t, isTup_d, isStr_i, isStr_s, isStr_t, len_t, len_l, eq_ii, ne_ii, lt_ii, le_ii, gt_ii, ge_ii, add_ii, sub_ii, neg_i, add_tt, add_ll, items_t, items_l, walk_t, walk_l, sl_t, sl_l, ix_t, ix_l, mul_ii, fdiv_ii, mod_ii, int_i, abs_i, list_l, list_t, tuple_l, tuple_t, rg1_i, rg2_i, zip_l, zip_t, is_n, isnot_n, is_b, isnot_b, sizeOk_0, sizeOk_1, sizeOk_2, sizeOk_3, sizeOk_4, sizeOk_5, sizeOk_6, tupOf_1, tupOf_2, tupOf_3, tupOf_4, atI_0, atI_1, atI_2, atI_3, List.getD_cons_zero, List.getD_cons_succ, Bool.not_true, Bool.not_false, true_and, eq_self, ite_and, ite_or, ite_some, ite_two]
    refine ⟨⟨by omega, by omega⟩, ?_⟩
    have e2 : e.2.2 + 1 = ((e.2.2.toNat + 1 : Nat) : Int) := by omega
    rw [e2, rangeD_nat]
    refine lcGo_maps (l := List.range (e.2.2.toNat + 1)) (fun (k : Nat) => PyData.int (k : Int)) (fun k => eR ((k : Int), e.2.2 - (k : Int))) (fun k hk q x hq => ?_) (by rw [List.length_range, sizeLine_eq]; omega) hq
    simp only [asB_b, asI_i, ite_t, ite_f, ret_ap, need_ap, opt_s, isInt_i, isInt_b, isInt_n, isInt_s, isInt_l, isInt_t, isInt_d, isBool_i, isBool_b, isBool_n, isBool_s, isBool_l, isBool_t, isBool_d, isTup_i, isTup_b, isTup_n, isTup_s, isTup_l, isTup_t, isTup_d, isStr_i, isStr_s, isStr_t, len_t, len_l, eq_ii, ne_ii, lt_ii, le_ii, gt_ii, ge_ii, add_ii, sub_ii, neg_i, add_tt, add_ll, items_t, items_l, walk_t, walk_l, sl_t, sl_l, ix_t, ix_l, mul_ii, fdiv_ii, mod_ii, int_i, abs_i, list_l, list_t, tuple_l, tuple_t, rg1_i, rg2_i, zip_l, zip_t, is_n, isnot_n, is_b, isnot_b, sizeOk_0, sizeOk_1, sizeOk_2, sizeOk_3, sizeOk_4, sizeOk_5, sizeOk_6, tupOf_1, tupOf_2, tupOf_3, tupOf_4, atI_0, atI_1, atI_2, atI_3, List.getD_cons_zero, List.getD_cons_succ, Bool.not_true, Bool.not_false, true_and, eq_self, ite_and, ite_or, ite_some, ite_two]
    exact hq
  · have e1 : resl e c = [if c = e.1 then (e.2.2, 0) else (0, e.2.2)] := by unfold resl; rw [hc]; rfl
    rw [e1] at hq
    simp only [asB_b, asI_i, ite_t, ite_f, ret_ap, need_ap, opt_s, isInt_i, isInt_b, isInt_n, isInt_s, isInt_l, isInt_t, isInt_d, isBool_i, isBool_b, isBool_n, isBool_s, isBool_l, isBool_t, isBool_d, isTup_i, isTup_b, isTup_n, isTup_s, isTup_l, isTup_t, isTup_d, isStr_i, isStr_s, isStr_t, len_t, len_l, eq_ii, ne_ii, lt_ii, le_ii, gt_ii, ge_ii, add_ii, sub_ii, neg_i, add_tt, add_ll, items_t, items_l, walk_t, walk_l, sl_t, sl_l, ix_t, ix_l, mul_ii, fdiv_ii, mod_ii, int_i, abs_i, list_l, list_t, tuple_l, tuple_t, rg1_i, rg2_i, zip_l, zip_t, is_n, isnot_n, is_b, isnot_b, sizeOk_0, sizeOk_1, sizeOk_2, sizeOk_3, sizeOk_4, sizeOk_5, sizeOk_6, tupOf_1, tupOf_2, tupOf_3, tupOf_4, atI_0, atI_1, atI_2, atI_3, List.getD_cons_zero, List.getD_cons_succ, Bool.not_true, Bool.not_false, true_and, eq_self, ite_and, ite_or, ite_some, ite_two]
    by_cases e2 : c = e.1
    · rw [if_pos e2] at hq
      rw [decide_eq_true (by omega : (c : Int) = (e.1 : Int))]
      exact hq
    · rw [if_neg e2] at hq
      rw [decide_eq_false (by omega : ¬ (c : Int) = (e.1 : Int))]
      exact hq
theorem resl_ok {e : Tie} {c : Nat} {r : Res} (h0 : 0 ≤ e.2.2) (h : r ∈ resl e c) : okR e.2.2 r := by
  unfold resl at h
  split at h
  · rw [List.mem_singleton] at h
    subst h
    split
    · exact ⟨⟨h0, Int.le_refl _⟩, ⟨Int.le_refl _, h0⟩, by simp⟩
    · exact ⟨⟨Int.le_refl _, h0⟩, ⟨h0, Int.le_refl _⟩, by simp⟩
  · obtain ⟨x, hx, rfl⟩ := List.mem_map.mp h
    have := List.mem_range.mp hx
    refine ⟨⟨?_, ?_⟩, ⟨?_, ?_⟩, ?_⟩ <;> simp only <;> omega
theorem resl_c {e : Tie} {c : Nat} {r : Res} {w : List Int} (ha : e.1 < w.length) (hb : e.2.1 < w.length) (hne : e.1 ≠ e.2.1) (h : r ∈ resl e c) : (winsWith w e r).getD c 0 = w.getD c 0 + if [e.1, e.2.1].contains c then e.2.2 else 0 := by
  unfold winsWith
  simp only [List.getD_eq_getElem?_getD]
  unfold resl at h
  split at h
  · rename_i hc
    rw [if_pos hc]
    rw [List.mem_singleton] at h
    have hc := List.contains_iff_mem.mp hc
    simp only [List.mem_cons, List.not_mem_nil, or_false] at hc
    by_cases e1 : c = e.1
    · rw [if_pos e1] at h
      subst h
      rw [List.getElem?_set_ne (by omega), e1, List.getElem?_set_self ha]
      rfl
    · rw [if_neg e1] at h
      subst h
      have e2 : c = e.2.1 := hc.resolve_left e1
      rw [e2, List.getElem?_set_self (by rw [List.length_set]; exact hb)]
      rfl
  · rename_i hc
    rw [if_neg hc]
    have n1 : e.1 ≠ c := fun z => hc (List.contains_iff_mem.mpr (by simp [z]))
    have n2 : e.2.1 ≠ c := fun z => hc (List.contains_iff_mem.mpr (by simp [z]))
    rw [List.getElem?_set_ne n2, List.getElem?_set_ne n1]
    simp
theorem gamesLeft_cons {e : Tie} {t : List Tie} {c : Nat} : gamesLeft (e :: t) c = (if [e.1, e.2.1].contains c then e.2.2 else 0) + gamesLeft t c :=
  sF_cons (f := fun e : Tie => e.2.2) (p := fun e : Tie => [e.1, e.2.1].contains c)
/-- ties as they are drawn -/
structure Gt (n : Nat) (t : List Tie) : Prop where
  len : t.length ≤ 1000
  ok : ∀ e ∈ t, e.1 < e.2.1 ∧ e.2.1 < n ∧ 1 ≤ e.2.2 ∧ e.2.2 ≤ 20
theorem Gt.fits {n : Nat} {t : List Tie} (g : Gt n t) : fits n t := ⟨g.len, fun e he => by have := g.ok e he; omega⟩
open Classical in
theorem w_results_by (w : List Int) (t : List Tie) (c : Nat) (hc : c < w.length) (hw : w.length ≤ 5) (g : Gt w.length t) (hcan : canBe w t c) (hq : ∀ rs, okRs t rs → topC (play w t rs) c → q (dR rs)) : s_results_by [dW w, dT t, .int (c : Int)] q y := by
  rw [r_results_by]
  have hm0 : w.getD c 0 + gamesLeft t c = mostOf w t c := rfl
  generalize hmost : mostOf w t c = most at hm0
  refine ⟨rfl, w_can_be w t c hc hw g.len (fun _ => ?_) fun h => absurd hcan h⟩
  refine ⟨rfl, w_most w t c hc g.len ?_⟩
  rw [hmost]
  show forGo _ _ _ (enumD (t.map eT)) _ _
  rw [enumD_map]
  have loop : ∀ (K : SK) (ts : List Tie) (k : Nat) (u : List Int) (rs : List Res) (o1 o2 o3 o4 o5 o6 : Option PyData), t.drop k = ts → u.length = w.length → rs.length + ts.length ≤ 1000 → NoP w.length c most u ts → u.getD c 0 + gamesLeft ts c = most →
      (∀ ss o1 o2 o3 o4 o5 o6, okRs ts ss → NoP w.length c most (play u ts ss) [] → (play u ts ss).getD c 0 = most → K.nx [some (dW w), some (dT t), some (.int (c : Int)), some (.int most), some (dW (play u ts ss)), some (.list ((rs ++ ss).map eR)), o1, o2, o3, o4, o5, o6]) →
      forGo (gmOf MD F_22 d_results_by) (forTg (headS (List.tail (List.tail d_results_by.body)))) (exSs (exS 39 (gmOf MD F_22 d_results_by)) (forBd (headS (List.tail (List.tail d_results_by.body))))) ((ts.zipIdx k).map fun p => .tuple [.int (p.2 : Nat), eT p.1])
        [some (dW w), some (dT t), some (.int (c : Int)), some (.int most), some (dW u), some (.list (rs.map eR)), o1, o2, o3, o4, o5, o6] K := by
    intro K ts
    induction ts with
    | nil =>
      intro k u rs o1 o2 o3 o4 o5 o6 _ _ _ hn hm hk
      have := hk [] o1 o2 o3 o4 o5 o6 trivial hn (by
        have : gamesLeft [] c = 0 := rfl
        rw [this] at hm
        show u.getD c 0 = most
        omega)
      rw [List.append_nil] at this
      exact this
    | cons t0 ts ih =>
      intro k u rs o1 o2 o3 o4 o5 o6 hd hu hl hn hm hk
      show exSs (exS 39 (gmOf MD F_22 d_results_by)) (forBd (headS (List.tail (List.tail d_results_by.body)))) [some (dW w), some (dT t), some (.int (c : Int)), some (.int most), some (dW u), some (.list (rs.map eR)), some (.int (k : Nat)), some (eT t0), o3, o4, o5, o6] _
      rw [rb_results_by_1]
      have hmem : ∀ e ∈ t0 :: ts, e ∈ t := fun e he => List.mem_of_mem_drop (by rw [hd]; exact he)
      have g0 := g.ok t0 (hmem t0 (List.mem_cons_self ..))
      have gts : ∀ e ∈ ts, e.1 < e.2.1 ∧ e.2.1 < w.length ∧ 1 ≤ e.2.2 ∧ e.2.2 ≤ 20 := fun e he => g.ok e (hmem e (List.mem_cons_of_mem _ he))
      have hd' := (getT hd).2
      have hlr : (resl t0 c).length ≤ 21 := by
        unfold resl
        split
        · show 1 ≤ 21; omega
        · rw [List.length_map, List.length_range]; omega
      refine ⟨rfl, w_results_of t0 c (by omega) (by omega) ?_⟩
      rw [walk_l]
      refine lcGo_maps (l := resl t0 c) eR (fun r => .tuple [dW (winsWith u t0 r), eR r]) (fun r hr q x hq => ?_) (by rw [sizeLine_eq]; omega) ?_
      · refine ⟨rfl, w_wins_with u t0 r (by omega) (by omega) ?_⟩
        simp only [asB_b, asI_i, ite_t, ite_f, ret_ap, need_ap, opt_s, isInt_i, isInt_b, isInt_n, isInt_s, isInt_l, isInt_t, isInt_d, isBool_i, isBool_b, isBool_n, isBool_s, isBool_l, isBool_t, isBool_d, isTup_i, isTup_b, isTup_n, isTup_s, isTup_l, isTup_t, isTup_d, isStr_i, isStr_s, isStr_t, len_t, len_l, eq_ii, ne_ii, lt_ii, le_ii, gt_ii, ge_ii, add_ii, sub_ii, neg_i, add_tt, add_ll, items_t, items_l, walk_t, walk_l, sl_t, sl_l, ix_t, ix_l, mul_ii, fdiv_ii, mod_ii, int_i, abs_i, list_l, list_t, tuple_l, tuple_t, rg1_i, rg2_i, zip_l, zip_t, is_n, isnot_n, is_b, isnot_b, sizeOk_0, sizeOk_1, sizeOk_2, sizeOk_3, sizeOk_4, sizeOk_5, sizeOk_6, tupOf_1, tupOf_2, tupOf_3, tupOf_4, atI_0, atI_1, atI_2, atI_3, List.getD_cons_zero, List.getD_cons_succ, Bool.not_true, Bool.not_false, true_and, eq_self, ite_and, ite_or, ite_some, ite_two]
        exact hq
      rw [walk_l]
      refine lcGo_filt (l := resl t0 c) (fun r => .tuple [dW (winsWith u t0 r), eR r]) (fun r => decide (NoP w.length c most (winsWith u t0 r) ts)) (fun r => .tuple [dW (winsWith u t0 r), eR r]) (fun r hr q x hq => ?_) (by rw [sizeLine_eq]; omega) ?_
      · simp only [asB_b, asI_i, ite_t, ite_f, ret_ap, need_ap, opt_s, isInt_i, isInt_b, isInt_n, isInt_s, isInt_l, isInt_t, isInt_d, isBool_i, isBool_b, isBool_n, isBool_s, isBool_l, isBool_t, isBool_d, isTup_i, isTup_b, isTup_n, isTup_s, isTup_l, isTup_t, isTup_d, isStr_i, isStr_s, isStr_t, len_t, len_l, eq_ii, ne_ii, lt_ii, le_ii, gt_ii, ge_ii, add_ii, sub_ii, neg_i, add_tt, add_ll, items_t, items_l, walk_t, walk_l, sl_t, sl_l, ix_t, ix_l, mul_ii, fdiv_ii, mod_ii, int_i, abs_i, list_l, list_t, tuple_l, tuple_t, rg1_i, rg2_i, zip_l, zip_t, is_n, isnot_n, is_b, isnot_b, sizeOk_0, sizeOk_1, sizeOk_2, sizeOk_3, sizeOk_4, sizeOk_5, sizeOk_6, tupOf_1, tupOf_2, tupOf_3, tupOf_4, atI_0, atI_1, atI_2, atI_3, List.getD_cons_zero, List.getD_cons_succ, Bool.not_true, Bool.not_false, true_and, eq_self, ite_and, ite_or, ite_some, ite_two]
        have e1 : ((k : Nat) : Int) + 1 = ((k + 1 : Nat) : Int) := by omega
        rw [e1]
        show dSl (.tuple (t.map eT)) _ _ _ _
        rw [sl_t, cutD_drop, ← List.map_drop, hd']
        have hlen : (winsWith u t0 r).length = w.length := by rw [winsWith_len, hu]
        have hts : ts.length ≤ 1000 := by rw [List.length_cons] at hl; omega
        refine w_lot_over_most (winsWith u t0 r) ts c most (by omega) hts (fun h => ?_) fun l hl e => ?_
        · rw [hlen] at h
          have : NoP w.length c most (winsWith u t0 r) ts := NoP_of hlen (fun e he => by have := gts e he; omega) h
          rw [decide_eq_true this] at hq
          exact hq
        · rw [hlen] at hl
          have : ¬ NoP w.length c most (winsWith u t0 r) ts := fun h => by
            rw [of_NoP h hl] at e
            cases e
          rw [decide_eq_false this] at hq
          exact hq
      obtain ⟨r1, hr1, hn1⟩ := step hu (by omega) (by omega) (by omega) (by omega) (fun e he => by have := gts e he; omega) hn
      have hmf : r1 ∈ (resl t0 c).filter fun r => decide (NoP w.length c most (winsWith u t0 r) ts) := List.mem_filter.mpr ⟨hr1, decide_eq_true hn1⟩
      generalize hF : ((resl t0 c).filter fun r => decide (NoP w.length c most (winsWith u t0 r) ts)) = F at hmf
      cases F with
      | nil => cases hmf
      | cons r F =>
        have hr : r ∈ (resl t0 c).filter fun r => decide (NoP w.length c most (winsWith u t0 r) ts) := by rw [hF]; exact List.mem_cons_self ..
        obtain ⟨hr2, hr3⟩ := List.mem_filter.mp hr
        have hr3 := of_decide_eq_true hr3
        rw [List.map_cons]
        simp only [asB_b, asI_i, ite_t, ite_f, ret_ap, need_ap, opt_s, isInt_i, isInt_b, isInt_n, isInt_s, isInt_l, isInt_t, isInt_d, isBool_i, isBool_b, isBool_n, isBool_s, isBool_l, isBool_t, isBool_d, isTup_i, isTup_b, isTup_n, isTup_s, isTup_l, isTup_t, isTup_d, isStr_i, isStr_s, isStr_t, len_t, len_l, eq_ii, ne_ii, lt_ii, le_ii, gt_ii, ge_ii, add_ii, sub_ii, neg_i, add_tt, add_ll, items_t, items_l, walk_t, walk_l, sl_t, sl_l, ix_t, ix_l, mul_ii, fdiv_ii, mod_ii, int_i, abs_i, list_l, list_t, tuple_l, tuple_t, rg1_i, rg2_i, zip_l, zip_t, is_n, isnot_n, is_b, isnot_b, sizeOk_0, sizeOk_1, sizeOk_2, sizeOk_3, sizeOk_4, sizeOk_5, sizeOk_6, tupOf_1, tupOf_2, tupOf_3, tupOf_4, atI_0, atI_1, atI_2, atI_3, List.getD_cons_zero, List.getD_cons_succ, Bool.not_true, Bool.not_false, true_and, eq_self, ite_and, ite_or, ite_some, ite_two, asL_l]
        refine ⟨by rw [List.length_map, sizeLine_eq]; rw [List.length_cons] at hl; omega, ?_⟩
        have e2 : rs.map eR ++ [eR r] = (rs ++ [r]).map eR := by rw [List.map_append]; rfl
        rw [e2]
        refine ih (k + 1) (winsWith u t0 r) (rs ++ [r]) _ _ _ _ _ _ hd' (by rw [winsWith_len]; exact hu) (by rw [List.length_append]; rw [List.length_cons] at hl; show _ + 1 + _ ≤ _; omega) hr3 ?_ fun ss o1 o2 o3 o4 o5 o6 h1 h2 h3 => ?_
        · rw [resl_c (by omega) (by omega) (by omega) hr2]
          rw [gamesLeft_cons] at hm
          omega
        · have := hk (r :: ss) o1 o2 o3 o4 o5 o6 ⟨resl_ok (by omega) hr2, h1⟩ h2 h3
          rw [show rs ++ [r] ++ ss = rs ++ r :: ss by simp]
          exact this
  refine loop _ t 0 w [] none none none none none none rfl rfl (by have := g.len; simpa using this) (NoP_of rfl (fun e he => by have := g.ok e he; omega) (by rw [← hmost]; exact hcan)) hm0 fun ss o1 o2 o3 o4 o5 o6 h1 h2 h3 => ?_
  dsimp only
  rw [rr_results_by_1, List.nil_append]
  refine hq ss h1 fun k hk => ?_
  rw [play_len] at hk
  rw [h3]
  by_cases e : k = c
  · rw [e, h3]
    exact Int.le_refl _
  · have := of_NoP h2 (l := [k]) ⟨by simp, List.pairwise_singleton .., fun j hj => by rw [List.mem_singleton.mp hj]; exact ⟨hk, e⟩⟩
    have := of_decide_eq_false (show decide (most * ((([k] : List Nat).length : Nat) : Int) < winsOf (play w t ss) [k] + among [] [k]) = false from this)
    have e1 : among [] [k] = 0 := rfl
    have e2 : winsOf (play w t ss) [k] = (play w t ss).getD k 0 := by simp [winsOf]
    have e3 : ((([k] : List Nat).length : Nat) : Int) = 1 := rfl
    rw [e1, e2, e3] at this
    omega
end Tk77

set_option maxHeartbeats 4000000
namespace Tk77
open PySem PySem.Spec PyProof.Rows L2 PD
variable {q : PyData → Prop} {y : Xc → Prop}
/-! ### claims -/
def word (at_ : Bool) : Str := if at_ then "not first" else "first"
def clm (at_ : Bool) (w : List Int) (t : List Tie) (tm : PyData) : PyData := .tuple [.str (word at_), dW w, dT t, tm]
theorem shp_dW (w : List Int) : shp 2 (dW w) := (shp_ints w).mono (by decide)
theorem shp_dT (t : List Tie) : shp 2 (dT t) := shp_tup fun d hd => by
  obtain ⟨p, _, rfl⟩ := List.mem_map.mp hd
  exact shp_ints [(p.1 : Int), (p.2.1 : Int), p.2.2]
theorem ok_word (at_ : Bool) : PyData.strOk (word at_) = true := by cases at_ <;> decide +kernel
theorem shp_clm (at_ : Bool) (w : List Int) (t : List Tie) {tm : PyData} (h : shp 2 tm) : shp 3 (clm at_ w t tm) := shp_tup fun d hd => by
  simp only [List.mem_cons, List.not_mem_nil, or_false] at hd
  rcases hd with rfl | rfl | rfl | rfl
  · exact shp_str 2 _ (ok_word at_)
  · exact shp_dW w
  · exact shp_dT t
  · exact h
theorem in_FIRSTS (at_ : Bool) (hq : q (.bool true)) : dCmp .In (.str (word at_)) (.tuple [.str "first", .str "not first"]) q y := by
  cases at_
  · exact in_d (by decide +kernel) (by decide +kernel) (by decide +kernel) hq
  · exact in_d (by decide +kernel) (by decide +kernel) (by decide +kernel) hq
theorem in_PICS (at_ : Bool) (hq : q (.bool false)) : dCmp .In (.str (word at_)) (.tuple [.str "dearer", .str "as cheap"]) q y := by
  cases at_
  · exact in_d (by decide +kernel) (by decide +kernel) (by decide +kernel) hq
  · exact in_d (by decide +kernel) (by decide +kernel) (by decide +kernel) hq
theorem is_FIRST (at_ : Bool) (hq : q (.bool (!at_))) : dCmp .Eq (.str (word at_)) (.str "first") q y := by
  rw [eq_ab]
  cases at_
  · exact ⟨⟨by decide +kernel, by decide +kernel⟩, by rw [show PyData.eqv (.str (word false)) (.str "first") = true by decide +kernel]; exact hq⟩
  · exact ⟨⟨by decide +kernel, by decide +kernel⟩, by rw [show PyData.eqv (.str (word true)) (.str "first") = false by decide +kernel]; exact hq⟩
theorem ne_nil {ds : List PyData} (h : ∀ d ∈ ds, d = .none ∨ ∃ i : Int, d = .int i) (hq : q (.bool (!ds.isEmpty))) : dCmp .NotEq (.list ds) (.list []) q y := by
  rw [ne_ab, eqv_nil]
  refine ⟨⟨shaped_of (k := 1) (shp_list fun d hd => ?_) (by decide), by decide +kernel⟩, hq⟩
  rcases h d hd with rfl | ⟨i, rfl⟩
  · exact shp_none 0
  · exact shp_int 0 i
def goodT (n : Nat) (t : List Tie) : Bool := (wrongT n none 0 t).isEmpty
theorem wrongT_int (n : Nat) : ∀ (t : List Tie) (o : Option Tie) (i : Nat), ∀ d ∈ wrongT n o i t, d = .none ∨ ∃ i : Int, d = .int i
  | [], _, _, d, h => by cases h
  | t :: r, o, i, d, h => by
    unfold wrongT at h
    have key : ∀ b : Bool, d ∈ (if b = true then wrongT n (some t) (i + 1) r else [.int (i : Nat)]) → d = .none ∨ ∃ i : Int, d = .int i := fun b hb => by
      cases b
      · exact .inr ⟨_, List.mem_singleton.mp hb⟩
      · exact wrongT_int n r _ _ d hb
    exact key _ h
theorem wrongT_bad (n : Nat) (b : Tie) (hb : okT n b = false) : ∀ (t : List Tie) (o : Option Tie) (i : Nat), (wrongT n o i (t ++ [b])).isEmpty = false
  | [], o, i => by
    show (wrongT n o i [b]).isEmpty = false
    unfold wrongT
    rw [hb]
    rfl
  | t :: r, o, i => by
    show (wrongT n o i (t :: (r ++ [b]))).isEmpty = false
    unfold wrongT
    have key : ∀ c : Bool, (if c = true then wrongT n (some t) (i + 1) (r ++ [b]) else [.int (i : Nat)]).isEmpty = false := fun c => by
      cases c
      · rfl
      · exact wrongT_bad n b hb r _ _
    exact key _
theorem w_is_season_claim (w0 : PyData) (w : List Int) (t : List Tie) (tm : PyData) (hw : w.length ≤ 1000) (h : (tyD tm).isSome = true) (hq : q (.bool (good w && (goodT w.length t && isBetween tm 0 ((w.length : Int) - 1))))) : s_is_season_claim [.tuple [w0, dW w, dT t, tm]] q y := by
  rw [r_is_season_claim]
  simp only [asB_b, asI_i, ite_t, ite_f, ret_ap, need_ap, opt_s, isInt_i, isInt_b, isInt_n, isInt_s, isInt_l, isInt_t, isInt_d, isBool_i, isBool_b, isBool_n, isBool_s, isBool_l, isBool_t, isBool_d, isTup_i, isTup_b, isTup_n, isTup_s, isTup_l, isTup_t, isTup_d, isStr_i, isStr_s, isStr_t, len_t, len_l, eq_ii, ne_ii, lt_ii, le_ii, gt_ii, ge_ii, add_ii, sub_ii, neg_i, add_tt, add_ll, items_t, items_l, walk_t, walk_l, sl_t, sl_l, ix_t, ix_l, mul_ii, fdiv_ii, mod_ii, int_i, abs_i, list_l, list_t, tuple_l, tuple_t, rg1_i, rg2_i, zip_l, zip_t, is_n, isnot_n, is_b, isnot_b, sizeOk_0, sizeOk_1, sizeOk_2, sizeOk_3, sizeOk_4, sizeOk_5, sizeOk_6, tupOf_1, tupOf_2, tupOf_3, tupOf_4, atI_0, atI_1, atI_2, atI_3, List.getD_cons_zero, List.getD_cons_succ, Bool.not_true, Bool.not_false, true_and, eq_self, ite_and, ite_or, ite_some, ite_two]
  refine w_wrong_in_wins w hw fun r h1 h2 h3 => ne_nil h2 ?_
  cases e : r.isEmpty
  · have : good w = false := by
      cases eg : good w
      · rfl
      · rw [h1.mpr eg] at e
        cases e
    rw [this] at hq
    simp only [asB_b, asI_i, ite_t, ite_f, ret_ap, need_ap, opt_s, isInt_i, isInt_b, isInt_n, isInt_s, isInt_l, isInt_t, isInt_d, isBool_i, isBool_b, isBool_n, isBool_s, isBool_l, isBool_t, isBool_d, isTup_i, isTup_b, isTup_n, isTup_s, isTup_l, isTup_t, isTup_d, isStr_i, isStr_s, isStr_t, len_t, len_l, eq_ii, ne_ii, lt_ii, le_ii, gt_ii, ge_ii, add_ii, sub_ii, neg_i, add_tt, add_ll, items_t, items_l, walk_t, walk_l, sl_t, sl_l, ix_t, ix_l, mul_ii, fdiv_ii, mod_ii, int_i, abs_i, list_l, list_t, tuple_l, tuple_t, rg1_i, rg2_i, zip_l, zip_t, is_n, isnot_n, is_b, isnot_b, sizeOk_0, sizeOk_1, sizeOk_2, sizeOk_3, sizeOk_4, sizeOk_5, sizeOk_6, tupOf_1, tupOf_2, tupOf_3, tupOf_4, atI_0, atI_1, atI_2, atI_3, List.getD_cons_zero, List.getD_cons_succ, Bool.not_true, Bool.not_false, true_and, eq_self, ite_and, ite_or, ite_some, ite_two]
    exact hq
  · have : good w = true := h1.mp (List.isEmpty_iff.mp e)
    rw [this] at hq
    simp only [asB_b, asI_i, ite_t, ite_f, ret_ap, need_ap, opt_s, isInt_i, isInt_b, isInt_n, isInt_s, isInt_l, isInt_t, isInt_d, isBool_i, isBool_b, isBool_n, isBool_s, isBool_l, isBool_t, isBool_d, isTup_i, isTup_b, isTup_n, isTup_s, isTup_l, isTup_t, isTup_d, isStr_i, isStr_s, isStr_t, len_t, len_l, eq_ii, ne_ii, lt_ii, le_ii, gt_ii, ge_ii, add_ii, sub_ii, neg_i, add_tt, add_ll, items_t, items_l, walk_t, walk_l, sl_t, sl_l, ix_t, ix_l, mul_ii, fdiv_ii, mod_ii, int_i, abs_i, list_l, list_t, tuple_l, tuple_t, rg1_i, rg2_i, zip_l, zip_t, is_n, isnot_n, is_b, isnot_b, sizeOk_0, sizeOk_1, sizeOk_2, sizeOk_3, sizeOk_4, sizeOk_5, sizeOk_6, tupOf_1, tupOf_2, tupOf_3, tupOf_4, atI_0, atI_1, atI_2, atI_3, List.getD_cons_zero, List.getD_cons_succ, Bool.not_true, Bool.not_false, true_and, eq_self, ite_and, ite_or, ite_some, ite_two]
    have e0 : dLen [dW w] = dLen [.tuple (w.map .int)] := rfl
    simp only [asB_b, asI_i, ite_t, ite_f, ret_ap, need_ap, opt_s, isInt_i, isInt_b, isInt_n, isInt_s, isInt_l, isInt_t, isInt_d, isBool_i, isBool_b, isBool_n, isBool_s, isBool_l, isBool_t, isBool_d, isTup_i, isTup_b, isTup_n, isTup_s, isTup_l, isTup_t, isTup_d, isStr_i, isStr_s, isStr_t, len_t, len_l, eq_ii, ne_ii, lt_ii, le_ii, gt_ii, ge_ii, add_ii, sub_ii, neg_i, add_tt, add_ll, items_t, items_l, walk_t, walk_l, sl_t, sl_l, ix_t, ix_l, mul_ii, fdiv_ii, mod_ii, int_i, abs_i, list_l, list_t, tuple_l, tuple_t, rg1_i, rg2_i, zip_l, zip_t, is_n, isnot_n, is_b, isnot_b, sizeOk_0, sizeOk_1, sizeOk_2, sizeOk_3, sizeOk_4, sizeOk_5, sizeOk_6, tupOf_1, tupOf_2, tupOf_3, tupOf_4, atI_0, atI_1, atI_2, atI_3, List.getD_cons_zero, List.getD_cons_succ, Bool.not_true, Bool.not_false, true_and, eq_self, ite_and, ite_or, ite_some, ite_two, e0, List.length_map]
    refine w_wrong_in_left w.length t (ne_nil (wrongT_int _ _ _ _) ?_)
    have hq : q (.bool (goodT w.length t && isBetween tm 0 ((w.length : Int) - 1))) := hq
    cases e2 : (wrongT w.length none 0 t).isEmpty
    · have e3 : goodT w.length t = false := e2
      rw [e3] at hq
      exact hq
    · have e3 : goodT w.length t = true := e2
      rw [e3] at hq
      simp only [asB_b, asI_i, ite_t, ite_f, ret_ap, need_ap, opt_s, isInt_i, isInt_b, isInt_n, isInt_s, isInt_l, isInt_t, isInt_d, isBool_i, isBool_b, isBool_n, isBool_s, isBool_l, isBool_t, isBool_d, isTup_i, isTup_b, isTup_n, isTup_s, isTup_l, isTup_t, isTup_d, isStr_i, isStr_s, isStr_t, len_t, len_l, eq_ii, ne_ii, lt_ii, le_ii, gt_ii, ge_ii, add_ii, sub_ii, neg_i, add_tt, add_ll, items_t, items_l, walk_t, walk_l, sl_t, sl_l, ix_t, ix_l, mul_ii, fdiv_ii, mod_ii, int_i, abs_i, list_l, list_t, tuple_l, tuple_t, rg1_i, rg2_i, zip_l, zip_t, is_n, isnot_n, is_b, isnot_b, sizeOk_0, sizeOk_1, sizeOk_2, sizeOk_3, sizeOk_4, sizeOk_5, sizeOk_6, tupOf_1, tupOf_2, tupOf_3, tupOf_4, atI_0, atI_1, atI_2, atI_3, List.getD_cons_zero, List.getD_cons_succ, Bool.not_true, Bool.not_false, true_and, eq_self, ite_and, ite_or, ite_some, ite_two]
      exact w_is_between tm _ _ h hq
theorem w_is_season_claim_none (w0 : PyData) (w : List Int) (tm : PyData) (hw : w.length ≤ 1000) (hq : q (.bool false)) : s_is_season_claim [.tuple [w0, dW w, .none, tm]] q y := by
  rw [r_is_season_claim]
  simp only [asB_b, asI_i, ite_t, ite_f, ret_ap, need_ap, opt_s, isInt_i, isInt_b, isInt_n, isInt_s, isInt_l, isInt_t, isInt_d, isBool_i, isBool_b, isBool_n, isBool_s, isBool_l, isBool_t, isBool_d, isTup_i, isTup_b, isTup_n, isTup_s, isTup_l, isTup_t, isTup_d, isStr_i, isStr_s, isStr_t, len_t, len_l, eq_ii, ne_ii, lt_ii, le_ii, gt_ii, ge_ii, add_ii, sub_ii, neg_i, add_tt, add_ll, items_t, items_l, walk_t, walk_l, sl_t, sl_l, ix_t, ix_l, mul_ii, fdiv_ii, mod_ii, int_i, abs_i, list_l, list_t, tuple_l, tuple_t, rg1_i, rg2_i, zip_l, zip_t, is_n, isnot_n, is_b, isnot_b, sizeOk_0, sizeOk_1, sizeOk_2, sizeOk_3, sizeOk_4, sizeOk_5, sizeOk_6, tupOf_1, tupOf_2, tupOf_3, tupOf_4, atI_0, atI_1, atI_2, atI_3, List.getD_cons_zero, List.getD_cons_succ, Bool.not_true, Bool.not_false, true_and, eq_self, ite_and, ite_or, ite_some, ite_two]
  refine w_wrong_in_wins w hw fun r h1 h2 h3 => ne_nil h2 ?_
  cases e : r.isEmpty
  · exact hq
  · simp only [asB_b, asI_i, ite_t, ite_f, ret_ap, need_ap, opt_s, isInt_i, isInt_b, isInt_n, isInt_s, isInt_l, isInt_t, isInt_d, isBool_i, isBool_b, isBool_n, isBool_s, isBool_l, isBool_t, isBool_d, isTup_i, isTup_b, isTup_n, isTup_s, isTup_l, isTup_t, isTup_d, isStr_i, isStr_s, isStr_t, len_t, len_l, eq_ii, ne_ii, lt_ii, le_ii, gt_ii, ge_ii, add_ii, sub_ii, neg_i, add_tt, add_ll, items_t, items_l, walk_t, walk_l, sl_t, sl_l, ix_t, ix_l, mul_ii, fdiv_ii, mod_ii, int_i, abs_i, list_l, list_t, tuple_l, tuple_t, rg1_i, rg2_i, zip_l, zip_t, is_n, isnot_n, is_b, isnot_b, sizeOk_0, sizeOk_1, sizeOk_2, sizeOk_3, sizeOk_4, sizeOk_5, sizeOk_6, tupOf_1, tupOf_2, tupOf_3, tupOf_4, atI_0, atI_1, atI_2, atI_3, List.getD_cons_zero, List.getD_cons_succ, Bool.not_true, Bool.not_false, true_and, eq_self, ite_and, ite_or, ite_some, ite_two]
    have e0 : dLen [dW w] = dLen [.tuple (w.map .int)] := rfl
    simp only [asB_b, asI_i, ite_t, ite_f, ret_ap, need_ap, opt_s, isInt_i, isInt_b, isInt_n, isInt_s, isInt_l, isInt_t, isInt_d, isBool_i, isBool_b, isBool_n, isBool_s, isBool_l, isBool_t, isBool_d, isTup_i, isTup_b, isTup_n, isTup_s, isTup_l, isTup_t, isTup_d, isStr_i, isStr_s, isStr_t, len_t, len_l, eq_ii, ne_ii, lt_ii, le_ii, gt_ii, ge_ii, add_ii, sub_ii, neg_i, add_tt, add_ll, items_t, items_l, walk_t, walk_l, sl_t, sl_l, ix_t, ix_l, mul_ii, fdiv_ii, mod_ii, int_i, abs_i, list_l, list_t, tuple_l, tuple_t, rg1_i, rg2_i, zip_l, zip_t, is_n, isnot_n, is_b, isnot_b, sizeOk_0, sizeOk_1, sizeOk_2, sizeOk_3, sizeOk_4, sizeOk_5, sizeOk_6, tupOf_1, tupOf_2, tupOf_3, tupOf_4, atI_0, atI_1, atI_2, atI_3, List.getD_cons_zero, List.getD_cons_succ, Bool.not_true, Bool.not_false, true_and, eq_self, ite_and, ite_or, ite_some, ite_two, e0, List.length_map]
    refine w_wrong_in_left_none w.length (ne_nil (fun d hd => by rw [List.mem_singleton] at hd; exact .inl hd) ?_)
    exact hq
theorem w_is_season_claim_list (w0 : PyData) (ds : List PyData) (l tm : PyData) (hq : q (.bool false)) : s_is_season_claim [.tuple [w0, .list ds, l, tm]] q y := by
  rw [r_is_season_claim]
  simp only [asB_b, asI_i, ite_t, ite_f, ret_ap, need_ap, opt_s, isInt_i, isInt_b, isInt_n, isInt_s, isInt_l, isInt_t, isInt_d, isBool_i, isBool_b, isBool_n, isBool_s, isBool_l, isBool_t, isBool_d, isTup_i, isTup_b, isTup_n, isTup_s, isTup_l, isTup_t, isTup_d, isStr_i, isStr_s, isStr_t, len_t, len_l, eq_ii, ne_ii, lt_ii, le_ii, gt_ii, ge_ii, add_ii, sub_ii, neg_i, add_tt, add_ll, items_t, items_l, walk_t, walk_l, sl_t, sl_l, ix_t, ix_l, mul_ii, fdiv_ii, mod_ii, int_i, abs_i, list_l, list_t, tuple_l, tuple_t, rg1_i, rg2_i, zip_l, zip_t, is_n, isnot_n, is_b, isnot_b, sizeOk_0, sizeOk_1, sizeOk_2, sizeOk_3, sizeOk_4, sizeOk_5, sizeOk_6, tupOf_1, tupOf_2, tupOf_3, tupOf_4, atI_0, atI_1, atI_2, atI_3, List.getD_cons_zero, List.getD_cons_succ, Bool.not_true, Bool.not_false, true_and, eq_self, ite_and, ite_or, ite_some, ite_two]
  refine w_wrong_in_wins_list ds (ne_nil (fun d hd => by rw [List.mem_singleton] at hd; exact .inl hd) ?_)
  exact hq
theorem w_is_other (at_ : Bool) (xs : List PyData) (h1 : xs.length ≠ 3 → q (.bool false)) (h2 : xs.length = 3 → s_is_season_claim [.tuple (.str (word at_) :: xs)] q y) : s_is_other_claim [.tuple (.str (word at_) :: xs)] q y := by
  rw [r_is_other_claim]
  simp only [asB_b, asI_i, ite_t, ite_f, ret_ap, need_ap, opt_s, isInt_i, isInt_b, isInt_n, isInt_s, isInt_l, isInt_t, isInt_d, isBool_i, isBool_b, isBool_n, isBool_s, isBool_l, isBool_t, isBool_d, isTup_i, isTup_b, isTup_n, isTup_s, isTup_l, isTup_t, isTup_d, isStr_i, isStr_s, isStr_t, len_t, len_l, eq_ii, ne_ii, lt_ii, le_ii, gt_ii, ge_ii, add_ii, sub_ii, neg_i, add_tt, add_ll, items_t, items_l, walk_t, walk_l, sl_t, sl_l, ix_t, ix_l, mul_ii, fdiv_ii, mod_ii, int_i, abs_i, list_l, list_t, tuple_l, tuple_t, rg1_i, rg2_i, zip_l, zip_t, is_n, isnot_n, is_b, isnot_b, sizeOk_0, sizeOk_1, sizeOk_2, sizeOk_3, sizeOk_4, sizeOk_5, sizeOk_6, tupOf_1, tupOf_2, tupOf_3, tupOf_4, atI_0, atI_1, atI_2, atI_3, List.getD_cons_zero, List.getD_cons_succ, Bool.not_true, Bool.not_false, true_and, eq_self, ite_and, ite_or, ite_some, ite_two]
  refine in_FIRSTS at_ ?_
  simp only [asB_b, asI_i, ite_t, ite_f, ret_ap, need_ap, opt_s, isInt_i, isInt_b, isInt_n, isInt_s, isInt_l, isInt_t, isInt_d, isBool_i, isBool_b, isBool_n, isBool_s, isBool_l, isBool_t, isBool_d, isTup_i, isTup_b, isTup_n, isTup_s, isTup_l, isTup_t, isTup_d, isStr_i, isStr_s, isStr_t, len_t, len_l, eq_ii, ne_ii, lt_ii, le_ii, gt_ii, ge_ii, add_ii, sub_ii, neg_i, add_tt, add_ll, items_t, items_l, walk_t, walk_l, sl_t, sl_l, ix_t, ix_l, mul_ii, fdiv_ii, mod_ii, int_i, abs_i, list_l, list_t, tuple_l, tuple_t, rg1_i, rg2_i, zip_l, zip_t, is_n, isnot_n, is_b, isnot_b, sizeOk_0, sizeOk_1, sizeOk_2, sizeOk_3, sizeOk_4, sizeOk_5, sizeOk_6, tupOf_1, tupOf_2, tupOf_3, tupOf_4, atI_0, atI_1, atI_2, atI_3, List.getD_cons_zero, List.getD_cons_succ, Bool.not_true, Bool.not_false, true_and, eq_self, ite_and, ite_or, ite_some, ite_two]
  refine w_is_tuple_of _ _ rfl ?_
  have e : isTupN (.tuple (.str (word at_) :: xs)) 4 = decide (xs.length = 3) := by
    show decide (((.str (word at_) :: xs : List PyData).length : Int) = 4) = _
    rw [decide_eq_decide, List.length_cons]
    omega
  rw [e]
  by_cases hx : xs.length = 3
  · rw [decide_eq_true hx]
    exact h2 hx
  · rw [decide_eq_false hx]
    exact h1 hx
theorem df_is_other : defOf F_31 (fnD "is_other_claim") = some (1, s_is_other_claim) := by kernel_rfl
theorem tab_SUBJ (at_ : Bool) : tab_SUBJECTS.lookup (word at_) = some (.tuple [fnD "is_other_claim", fnD "other_judge", fnD "other_settled"]) := by cases at_ <;> kernel_rfl
theorem tab_OPP (at_ : Bool) : tab_OPPOSITES.lookup (word at_) = some (.str (word (!at_))) := by cases at_ <;> kernel_rfl
theorem w_has_word (at_ : Bool) (xs : List PyData) (hs : shp 10 (.tuple (.str (word at_) :: xs))) (hq : q (.bool true)) : s_has_claim_word [.tuple (.str (word at_) :: xs)] q y := by
  rw [r_has_claim_word]
  simp only [asB_b, asI_i, ite_t, ite_f, ret_ap, need_ap, opt_s, isInt_i, isInt_b, isInt_n, isInt_s, isInt_l, isInt_t, isInt_d, isBool_i, isBool_b, isBool_n, isBool_s, isBool_l, isBool_t, isBool_d, isTup_i, isTup_b, isTup_n, isTup_s, isTup_l, isTup_t, isTup_d, isStr_i, isStr_s, isStr_t, len_t, len_l, eq_ii, ne_ii, lt_ii, le_ii, gt_ii, ge_ii, add_ii, sub_ii, neg_i, add_tt, add_ll, items_t, items_l, walk_t, walk_l, sl_t, sl_l, ix_t, ix_l, mul_ii, fdiv_ii, mod_ii, int_i, abs_i, list_l, list_t, tuple_l, tuple_t, rg1_i, rg2_i, zip_l, zip_t, is_n, isnot_n, is_b, isnot_b, sizeOk_0, sizeOk_1, sizeOk_2, sizeOk_3, sizeOk_4, sizeOk_5, sizeOk_6, tupOf_1, tupOf_2, tupOf_3, tupOf_4, atI_0, atI_1, atI_2, atI_3, List.getD_cons_zero, List.getD_cons_succ, Bool.not_true, Bool.not_false, true_and, eq_self, ite_and, ite_or, ite_some, ite_two, eq_ab, eqv_tnil, List.isEmpty_cons]
  refine ⟨⟨shaped_of hs (by decide), by decide +kernel⟩, ?_⟩
  show q (PyData.bool (tab_OPPOSITES.lookup (word at_)).isSome)
  rw [tab_OPP]
  exact hq
theorem w_is_claim_by (at_ : Bool) (xs : List PyData) (hs : shp 10 (.tuple (.str (word at_) :: xs))) (h : s_is_other_claim [.tuple (.str (word at_) :: xs)] q y) : s_is_claim_by [.tuple (.str (word at_) :: xs)] q y := by
  rw [r_is_claim_by]
  refine ⟨rfl, w_has_word at_ xs hs ?_⟩
  simp only [asB_b, asI_i, ite_t, ite_f, ret_ap, need_ap, opt_s, isInt_i, isInt_b, isInt_n, isInt_s, isInt_l, isInt_t, isInt_d, isBool_i, isBool_b, isBool_n, isBool_s, isBool_l, isBool_t, isBool_d, isTup_i, isTup_b, isTup_n, isTup_s, isTup_l, isTup_t, isTup_d, isStr_i, isStr_s, isStr_t, len_t, len_l, eq_ii, ne_ii, lt_ii, le_ii, gt_ii, ge_ii, add_ii, sub_ii, neg_i, add_tt, add_ll, items_t, items_l, walk_t, walk_l, sl_t, sl_l, ix_t, ix_l, mul_ii, fdiv_ii, mod_ii, int_i, abs_i, list_l, list_t, tuple_l, tuple_t, rg1_i, rg2_i, zip_l, zip_t, is_n, isnot_n, is_b, isnot_b, sizeOk_0, sizeOk_1, sizeOk_2, sizeOk_3, sizeOk_4, sizeOk_5, sizeOk_6, tupOf_1, tupOf_2, tupOf_3, tupOf_4, atI_0, atI_1, atI_2, atI_3, List.getD_cons_zero, List.getD_cons_succ, Bool.not_true, Bool.not_false, true_and, eq_self, ite_and, ite_or, ite_some, ite_two]
  show W.opt (tab_SUBJECTS.lookup (word at_)) W.ret _ _
  simp only [asB_b, asI_i, ite_t, ite_f, ret_ap, need_ap, opt_s, isInt_i, isInt_b, isInt_n, isInt_s, isInt_l, isInt_t, isInt_d, isBool_i, isBool_b, isBool_n, isBool_s, isBool_l, isBool_t, isBool_d, isTup_i, isTup_b, isTup_n, isTup_s, isTup_l, isTup_t, isTup_d, isStr_i, isStr_s, isStr_t, len_t, len_l, eq_ii, ne_ii, lt_ii, le_ii, gt_ii, ge_ii, add_ii, sub_ii, neg_i, add_tt, add_ll, items_t, items_l, walk_t, walk_l, sl_t, sl_l, ix_t, ix_l, mul_ii, fdiv_ii, mod_ii, int_i, abs_i, list_l, list_t, tuple_l, tuple_t, rg1_i, rg2_i, zip_l, zip_t, is_n, isnot_n, is_b, isnot_b, sizeOk_0, sizeOk_1, sizeOk_2, sizeOk_3, sizeOk_4, sizeOk_5, sizeOk_6, tupOf_1, tupOf_2, tupOf_3, tupOf_4, atI_0, atI_1, atI_2, atI_3, List.getD_cons_zero, List.getD_cons_succ, Bool.not_true, Bool.not_false, true_and, eq_self, ite_and, ite_or, ite_some, ite_two, tab_SUBJ, df_is_other]
  exact h
/-- what is no claim -/
theorem w_no_list (xs : List PyData) (hq : q (.bool false)) : s_is_claim_by [.list xs] q y := by
  rw [r_is_claim_by]
  refine ⟨rfl, ?_⟩
  rw [r_has_claim_word]
  exact hq
theorem w_no_last (xs : List PyData) (hs : shp 10 (.tuple (.str "last" :: xs))) (hq : q (.bool false)) : s_is_claim_by [.tuple (.str "last" :: xs)] q y := by
  rw [r_is_claim_by]
  refine ⟨rfl, ?_⟩
  rw [r_has_claim_word]
  simp only [asB_b, asI_i, ite_t, ite_f, ret_ap, need_ap, opt_s, isInt_i, isInt_b, isInt_n, isInt_s, isInt_l, isInt_t, isInt_d, isBool_i, isBool_b, isBool_n, isBool_s, isBool_l, isBool_t, isBool_d, isTup_i, isTup_b, isTup_n, isTup_s, isTup_l, isTup_t, isTup_d, isStr_i, isStr_s, isStr_t, len_t, len_l, eq_ii, ne_ii, lt_ii, le_ii, gt_ii, ge_ii, add_ii, sub_ii, neg_i, add_tt, add_ll, items_t, items_l, walk_t, walk_l, sl_t, sl_l, ix_t, ix_l, mul_ii, fdiv_ii, mod_ii, int_i, abs_i, list_l, list_t, tuple_l, tuple_t, rg1_i, rg2_i, zip_l, zip_t, is_n, isnot_n, is_b, isnot_b, sizeOk_0, sizeOk_1, sizeOk_2, sizeOk_3, sizeOk_4, sizeOk_5, sizeOk_6, tupOf_1, tupOf_2, tupOf_3, tupOf_4, atI_0, atI_1, atI_2, atI_3, List.getD_cons_zero, List.getD_cons_succ, Bool.not_true, Bool.not_false, true_and, eq_self, ite_and, ite_or, ite_some, ite_two, eq_ab, eqv_tnil, List.isEmpty_cons]
  refine ⟨⟨shaped_of hs (by decide), by decide +kernel⟩, ?_⟩
  have key : ∀ o : Option PyData, o = none → asB (.bool o.isSome) (fun b2 => W.ite b2 (fun q3 z4 => dTabIx tab_SUBJECTS (.str "last") (fun v6 => dIx v6 (.int 0) (fun v7 => W.opt (defOf F_31 v7) (fun t8 q9 z10 => 1 = t8.fst ∧ t8.snd [.tuple (.str "last" :: xs)] (fun v11 => q9 v11) z10) (fun v12 => q3 v12) z4) z4) z4) (W.ret (.bool false)) (fun v13 => q v13) y) y := fun o ho => by
    subst ho
    exact hq
  exact key _ (show tab_OPPOSITES.lookup ("last" : Str) = none by kernel_rfl)
theorem w_claim (at_ : Bool) (w : List Int) (t : List Tie) (tm : PyData) (hw : w.length ≤ 1000) (hs : shp 2 tm) (h : (tyD tm).isSome = true) (hq : q (.bool (good w && (goodT w.length t && isBetween tm 0 ((w.length : Int) - 1))))) : s_is_claim_by [clm at_ w t tm] q y :=
  w_is_claim_by at_ _ ((shp_clm at_ w t hs).mono (by decide)) (w_is_other at_ _ (fun e => absurd rfl e) fun _ => w_is_season_claim _ w t tm hw h hq)
/-! ### judged -/
theorem df_other_judge : defOf F_33 (fnD "other_judge") = some (2, s_other_judge) := by kernel_rfl
theorem df_other_settled : defOf F_34 (fnD "other_settled") = some (1, s_other_settled) := by kernel_rfl
theorem df_are_results : defOf F_27 (fnD "are_results") = some (4, s_are_results) := by kernel_rfl
theorem df_is_lot_over : defOf F_27 (fnD "is_lot_over") = some (4, s_is_lot_over) := by kernel_rfl
structure Fit (w : List Int) (t : List Tie) (c : Nat) : Prop where
  gw : good w = true
  gt : goodT w.length t = true
  g : Gt w.length t
  hc : c < w.length
theorem Fit.five {w : List Int} {t : List Tie} {c : Nat} (f : Fit w t c) : w.length ≤ 5 := by
  have := f.gw
  unfold good at this
  simp only [Bool.and_eq_true, decide_eq_true_eq] at this
  exact this.2.1
theorem Fit.claim {w : List Int} {t : List Tie} {c : Nat} (f : Fit w t c) : (good w && (goodT w.length t && isBetween (.int (c : Int)) 0 ((w.length : Int) - 1))) = true := by
  rw [f.gw, f.gt]
  show (decide ((0 : Int) ≤ (c : Int)) && decide ((c : Int) ≤ (w.length : Int) - 1)) = true
  have := f.hc
  simp
  omega
def isP (at_ : Bool) (w : List Int) (t : List Tie) (c : Nat) (v : PyData) : Prop := match at_ with
  | false => isResP w t c v
  | true => isOverP w t c v
theorem w_is_shown (at_ : Bool) {w : List Int} {t : List Tie} {c : Nat} (f : Fit w t c) (paper : PyData) (h : PV paper) (h1 : isP at_ w t c paper → q (.bool true)) (h2 : ¬ isP at_ w t c paper → q (.bool false)) : s_is_shown [clm at_ w t (.int (c : Int)), paper] q y := by
  rw [r_is_shown]
  simp only [asB_b, asI_i, ite_t, ite_f, ret_ap, need_ap, opt_s, isInt_i, isInt_b, isInt_n, isInt_s, isInt_l, isInt_t, isInt_d, isBool_i, isBool_b, isBool_n, isBool_s, isBool_l, isBool_t, isBool_d, isTup_i, isTup_b, isTup_n, isTup_s, isTup_l, isTup_t, isTup_d, isStr_i, isStr_s, isStr_t, len_t, len_l, eq_ii, ne_ii, lt_ii, le_ii, gt_ii, ge_ii, add_ii, sub_ii, neg_i, add_tt, add_ll, items_t, items_l, walk_t, walk_l, sl_t, sl_l, ix_t, ix_l, mul_ii, fdiv_ii, mod_ii, int_i, abs_i, list_l, list_t, tuple_l, tuple_t, rg1_i, rg2_i, zip_l, zip_t, is_n, isnot_n, is_b, isnot_b, sizeOk_0, sizeOk_1, sizeOk_2, sizeOk_3, sizeOk_4, sizeOk_5, sizeOk_6, tupOf_1, tupOf_2, tupOf_3, tupOf_4, atI_0, atI_1, atI_2, atI_3, List.getD_cons_zero, List.getD_cons_succ, Bool.not_true, Bool.not_false, true_and, eq_self, ite_and, ite_or, ite_some, ite_two, clm]
  show W.opt (tab_SUBJECTS.lookup (word at_)) W.ret _ _
  simp only [asB_b, asI_i, ite_t, ite_f, ret_ap, need_ap, opt_s, isInt_i, isInt_b, isInt_n, isInt_s, isInt_l, isInt_t, isInt_d, isBool_i, isBool_b, isBool_n, isBool_s, isBool_l, isBool_t, isBool_d, isTup_i, isTup_b, isTup_n, isTup_s, isTup_l, isTup_t, isTup_d, isStr_i, isStr_s, isStr_t, len_t, len_l, eq_ii, ne_ii, lt_ii, le_ii, gt_ii, ge_ii, add_ii, sub_ii, neg_i, add_tt, add_ll, items_t, items_l, walk_t, walk_l, sl_t, sl_l, ix_t, ix_l, mul_ii, fdiv_ii, mod_ii, int_i, abs_i, list_l, list_t, tuple_l, tuple_t, rg1_i, rg2_i, zip_l, zip_t, is_n, isnot_n, is_b, isnot_b, sizeOk_0, sizeOk_1, sizeOk_2, sizeOk_3, sizeOk_4, sizeOk_5, sizeOk_6, tupOf_1, tupOf_2, tupOf_3, tupOf_4, atI_0, atI_1, atI_2, atI_3, List.getD_cons_zero, List.getD_cons_succ, Bool.not_true, Bool.not_false, true_and, eq_self, ite_and, ite_or, ite_some, ite_two, tab_SUBJ, df_other_judge]
  rw [r_other_judge]
  simp only [asB_b, asI_i, ite_t, ite_f, ret_ap, need_ap, opt_s, isInt_i, isInt_b, isInt_n, isInt_s, isInt_l, isInt_t, isInt_d, isBool_i, isBool_b, isBool_n, isBool_s, isBool_l, isBool_t, isBool_d, isTup_i, isTup_b, isTup_n, isTup_s, isTup_l, isTup_t, isTup_d, isStr_i, isStr_s, isStr_t, len_t, len_l, eq_ii, ne_ii, lt_ii, le_ii, gt_ii, ge_ii, add_ii, sub_ii, neg_i, add_tt, add_ll, items_t, items_l, walk_t, walk_l, sl_t, sl_l, ix_t, ix_l, mul_ii, fdiv_ii, mod_ii, int_i, abs_i, list_l, list_t, tuple_l, tuple_t, rg1_i, rg2_i, zip_l, zip_t, is_n, isnot_n, is_b, isnot_b, sizeOk_0, sizeOk_1, sizeOk_2, sizeOk_3, sizeOk_4, sizeOk_5, sizeOk_6, tupOf_1, tupOf_2, tupOf_3, tupOf_4, atI_0, atI_1, atI_2, atI_3, List.getD_cons_zero, List.getD_cons_succ, Bool.not_true, Bool.not_false, true_and, eq_self, ite_and, ite_or, ite_some, ite_two]
  refine in_PICS at_ ?_
  simp only [asB_b, asI_i, ite_t, ite_f, ret_ap, need_ap, opt_s, isInt_i, isInt_b, isInt_n, isInt_s, isInt_l, isInt_t, isInt_d, isBool_i, isBool_b, isBool_n, isBool_s, isBool_l, isBool_t, isBool_d, isTup_i, isTup_b, isTup_n, isTup_s, isTup_l, isTup_t, isTup_d, isStr_i, isStr_s, isStr_t, len_t, len_l, eq_ii, ne_ii, lt_ii, le_ii, gt_ii, ge_ii, add_ii, sub_ii, neg_i, add_tt, add_ll, items_t, items_l, walk_t, walk_l, sl_t, sl_l, ix_t, ix_l, mul_ii, fdiv_ii, mod_ii, int_i, abs_i, list_l, list_t, tuple_l, tuple_t, rg1_i, rg2_i, zip_l, zip_t, is_n, isnot_n, is_b, isnot_b, sizeOk_0, sizeOk_1, sizeOk_2, sizeOk_3, sizeOk_4, sizeOk_5, sizeOk_6, tupOf_1, tupOf_2, tupOf_3, tupOf_4, atI_0, atI_1, atI_2, atI_3, List.getD_cons_zero, List.getD_cons_succ, Bool.not_true, Bool.not_false, true_and, eq_self, ite_and, ite_or, ite_some, ite_two]
  refine in_FIRSTS at_ ?_
  simp only [asB_b, asI_i, ite_t, ite_f, ret_ap, need_ap, opt_s, isInt_i, isInt_b, isInt_n, isInt_s, isInt_l, isInt_t, isInt_d, isBool_i, isBool_b, isBool_n, isBool_s, isBool_l, isBool_t, isBool_d, isTup_i, isTup_b, isTup_n, isTup_s, isTup_l, isTup_t, isTup_d, isStr_i, isStr_s, isStr_t, len_t, len_l, eq_ii, ne_ii, lt_ii, le_ii, gt_ii, ge_ii, add_ii, sub_ii, neg_i, add_tt, add_ll, items_t, items_l, walk_t, walk_l, sl_t, sl_l, ix_t, ix_l, mul_ii, fdiv_ii, mod_ii, int_i, abs_i, list_l, list_t, tuple_l, tuple_t, rg1_i, rg2_i, zip_l, zip_t, is_n, isnot_n, is_b, isnot_b, sizeOk_0, sizeOk_1, sizeOk_2, sizeOk_3, sizeOk_4, sizeOk_5, sizeOk_6, tupOf_1, tupOf_2, tupOf_3, tupOf_4, atI_0, atI_1, atI_2, atI_3, List.getD_cons_zero, List.getD_cons_succ, Bool.not_true, Bool.not_false, true_and, eq_self, ite_and, ite_or, ite_some, ite_two]
  refine is_FIRST at_ ?_
  cases at_
  · show W.opt (defOf F_27 (fnD "are_results")) (fun t15 q16 z17 => 4 = t15.1 ∧ t15.2 [dW w, dT t, .int (c : Int), paper] (fun v21 => q16 v21) z17) (fun v22 => q v22) y
    rw [df_are_results]
    exact ⟨rfl, w_are_results w t c paper f.hc f.g.fits h h1 h2⟩
  · show W.opt (defOf F_27 (fnD "is_lot_over")) (fun t15 q16 z17 => 4 = t15.1 ∧ t15.2 [dW w, dT t, .int (c : Int), paper] (fun v21 => q16 v21) z17) (fun v22 => q v22) y
    rw [df_is_lot_over]
    exact ⟨rfl, w_is_lot_over w t c paper f.hc f.five f.g.len h h1 h2⟩
theorem w_accepts (at_ : Bool) {w : List Int} {t : List Tie} {c : Nat} (f : Fit w t c) (paper : PyData) (h : PV paper) (h1 : isP at_ w t c paper → q (.bool true)) (h2 : ¬ isP at_ w t c paper → q (.bool false)) : s_accepts [clm at_ w t (.int (c : Int)), paper] q y := by
  rw [r_accepts]
  refine ⟨rfl, w_claim at_ w t _ (by have := f.five; omega) (shp_int 2 _) rfl ?_⟩
  rw [f.claim]
  exact ⟨rfl, w_is_shown at_ f paper h h1 h2⟩
theorem w_accepts_no {v paper : PyData} (h : ∀ (q : PyData → Prop) (y : Xc → Prop), q (.bool false) → s_is_claim_by [v] q y) (hq : q (.bool false)) : s_accepts [v, paper] q y := by
  rw [r_accepts]
  exact ⟨rfl, h _ _ hq⟩
/-! ### settled, turned round -/
theorem w_check (at_ : Bool) {w : List Int} {t : List Tie} {c : Nat} (f : Fit w t c) (hq : q .none) : s_check_claim [clm at_ w t (.int (c : Int))] q y := by
  rw [r_check_claim]
  refine ⟨rfl, w_claim at_ w t _ (by have := f.five; omega) (shp_int 2 _) rfl ?_⟩
  rw [f.claim]
  exact hq
theorem w_settled (at_ : Bool) {w : List Int} {t : List Tie} {c : Nat} (f : Fit w t c) (h1 : canBe w t c → ∀ rs, isResP w t c (dR rs) → q (.tuple [clm false w t (.int (c : Int)), dR rs])) (h2 : ¬ canBe w t c → ∀ l, isOverP w t c (dL l) → q (.tuple [clm true w t (.int (c : Int)), dL l])) : s_settled [clm at_ w t (.int (c : Int))] q y := by
  rw [r_settled]
  refine ⟨rfl, w_check at_ f ⟨rfl, ?_⟩⟩
  rw [r_settled_by]
  simp only [asB_b, asI_i, ite_t, ite_f, ret_ap, need_ap, opt_s, isInt_i, isInt_b, isInt_n, isInt_s, isInt_l, isInt_t, isInt_d, isBool_i, isBool_b, isBool_n, isBool_s, isBool_l, isBool_t, isBool_d, isTup_i, isTup_b, isTup_n, isTup_s, isTup_l, isTup_t, isTup_d, isStr_i, isStr_s, isStr_t, len_t, len_l, eq_ii, ne_ii, lt_ii, le_ii, gt_ii, ge_ii, add_ii, sub_ii, neg_i, add_tt, add_ll, items_t, items_l, walk_t, walk_l, sl_t, sl_l, ix_t, ix_l, mul_ii, fdiv_ii, mod_ii, int_i, abs_i, list_l, list_t, tuple_l, tuple_t, rg1_i, rg2_i, zip_l, zip_t, is_n, isnot_n, is_b, isnot_b, sizeOk_0, sizeOk_1, sizeOk_2, sizeOk_3, sizeOk_4, sizeOk_5, sizeOk_6, tupOf_1, tupOf_2, tupOf_3, tupOf_4, atI_0, atI_1, atI_2, atI_3, List.getD_cons_zero, List.getD_cons_succ, Bool.not_true, Bool.not_false, true_and, eq_self, ite_and, ite_or, ite_some, ite_two, clm]
  show W.opt (tab_SUBJECTS.lookup (word at_)) W.ret _ _
  simp only [asB_b, asI_i, ite_t, ite_f, ret_ap, need_ap, opt_s, isInt_i, isInt_b, isInt_n, isInt_s, isInt_l, isInt_t, isInt_d, isBool_i, isBool_b, isBool_n, isBool_s, isBool_l, isBool_t, isBool_d, isTup_i, isTup_b, isTup_n, isTup_s, isTup_l, isTup_t, isTup_d, isStr_i, isStr_s, isStr_t, len_t, len_l, eq_ii, ne_ii, lt_ii, le_ii, gt_ii, ge_ii, add_ii, sub_ii, neg_i, add_tt, add_ll, items_t, items_l, walk_t, walk_l, sl_t, sl_l, ix_t, ix_l, mul_ii, fdiv_ii, mod_ii, int_i, abs_i, list_l, list_t, tuple_l, tuple_t, rg1_i, rg2_i, zip_l, zip_t, is_n, isnot_n, is_b, isnot_b, sizeOk_0, sizeOk_1, sizeOk_2, sizeOk_3, sizeOk_4, sizeOk_5, sizeOk_6, tupOf_1, tupOf_2, tupOf_3, tupOf_4, atI_0, atI_1, atI_2, atI_3, List.getD_cons_zero, List.getD_cons_succ, Bool.not_true, Bool.not_false, true_and, eq_self, ite_and, ite_or, ite_some, ite_two, tab_SUBJ, df_other_settled]
  rw [r_other_settled]
  simp only [asB_b, asI_i, ite_t, ite_f, ret_ap, need_ap, opt_s, isInt_i, isInt_b, isInt_n, isInt_s, isInt_l, isInt_t, isInt_d, isBool_i, isBool_b, isBool_n, isBool_s, isBool_l, isBool_t, isBool_d, isTup_i, isTup_b, isTup_n, isTup_s, isTup_l, isTup_t, isTup_d, isStr_i, isStr_s, isStr_t, len_t, len_l, eq_ii, ne_ii, lt_ii, le_ii, gt_ii, ge_ii, add_ii, sub_ii, neg_i, add_tt, add_ll, items_t, items_l, walk_t, walk_l, sl_t, sl_l, ix_t, ix_l, mul_ii, fdiv_ii, mod_ii, int_i, abs_i, list_l, list_t, tuple_l, tuple_t, rg1_i, rg2_i, zip_l, zip_t, is_n, isnot_n, is_b, isnot_b, sizeOk_0, sizeOk_1, sizeOk_2, sizeOk_3, sizeOk_4, sizeOk_5, sizeOk_6, tupOf_1, tupOf_2, tupOf_3, tupOf_4, atI_0, atI_1, atI_2, atI_3, List.getD_cons_zero, List.getD_cons_succ, Bool.not_true, Bool.not_false, true_and, eq_self, ite_and, ite_or, ite_some, ite_two]
  refine in_FIRSTS at_ ?_
  simp only [asB_b, asI_i, ite_t, ite_f, ret_ap, need_ap, opt_s, isInt_i, isInt_b, isInt_n, isInt_s, isInt_l, isInt_t, isInt_d, isBool_i, isBool_b, isBool_n, isBool_s, isBool_l, isBool_t, isBool_d, isTup_i, isTup_b, isTup_n, isTup_s, isTup_l, isTup_t, isTup_d, isStr_i, isStr_s, isStr_t, len_t, len_l, eq_ii, ne_ii, lt_ii, le_ii, gt_ii, ge_ii, add_ii, sub_ii, neg_i, add_tt, add_ll, items_t, items_l, walk_t, walk_l, sl_t, sl_l, ix_t, ix_l, mul_ii, fdiv_ii, mod_ii, int_i, abs_i, list_l, list_t, tuple_l, tuple_t, rg1_i, rg2_i, zip_l, zip_t, is_n, isnot_n, is_b, isnot_b, sizeOk_0, sizeOk_1, sizeOk_2, sizeOk_3, sizeOk_4, sizeOk_5, sizeOk_6, tupOf_1, tupOf_2, tupOf_3, tupOf_4, atI_0, atI_1, atI_2, atI_3, List.getD_cons_zero, List.getD_cons_succ, Bool.not_true, Bool.not_false, true_and, eq_self, ite_and, ite_or, ite_some, ite_two]
  rw [r_settled_first]
  refine ⟨rfl, w_can_be w t c f.hc f.five f.g.len (fun h => ?_) fun h => ?_⟩
  · simp only [asB_b, asI_i, ite_t, ite_f, ret_ap, need_ap, opt_s, isInt_i, isInt_b, isInt_n, isInt_s, isInt_l, isInt_t, isInt_d, isBool_i, isBool_b, isBool_n, isBool_s, isBool_l, isBool_t, isBool_d, isTup_i, isTup_b, isTup_n, isTup_s, isTup_l, isTup_t, isTup_d, isStr_i, isStr_s, isStr_t, len_t, len_l, eq_ii, ne_ii, lt_ii, le_ii, gt_ii, ge_ii, add_ii, sub_ii, neg_i, add_tt, add_ll, items_t, items_l, walk_t, walk_l, sl_t, sl_l, ix_t, ix_l, mul_ii, fdiv_ii, mod_ii, int_i, abs_i, list_l, list_t, tuple_l, tuple_t, rg1_i, rg2_i, zip_l, zip_t, is_n, isnot_n, is_b, isnot_b, sizeOk_0, sizeOk_1, sizeOk_2, sizeOk_3, sizeOk_4, sizeOk_5, sizeOk_6, tupOf_1, tupOf_2, tupOf_3, tupOf_4, atI_0, atI_1, atI_2, atI_3, List.getD_cons_zero, List.getD_cons_succ, Bool.not_true, Bool.not_false, true_and, eq_self, ite_and, ite_or, ite_some, ite_two]
    refine w_results_by w t c f.hc f.five f.g h fun rs a b => ?_
    exact h1 h rs ⟨rs, rfl, a, b⟩
  · simp only [asB_b, asI_i, ite_t, ite_f, ret_ap, need_ap, opt_s, isInt_i, isInt_b, isInt_n, isInt_s, isInt_l, isInt_t, isInt_d, isBool_i, isBool_b, isBool_n, isBool_s, isBool_l, isBool_t, isBool_d, isTup_i, isTup_b, isTup_n, isTup_s, isTup_l, isTup_t, isTup_d, isStr_i, isStr_s, isStr_t, len_t, len_l, eq_ii, ne_ii, lt_ii, le_ii, gt_ii, ge_ii, add_ii, sub_ii, neg_i, add_tt, add_ll, items_t, items_l, walk_t, walk_l, sl_t, sl_l, ix_t, ix_l, mul_ii, fdiv_ii, mod_ii, int_i, abs_i, list_l, list_t, tuple_l, tuple_t, rg1_i, rg2_i, zip_l, zip_t, is_n, isnot_n, is_b, isnot_b, sizeOk_0, sizeOk_1, sizeOk_2, sizeOk_3, sizeOk_4, sizeOk_5, sizeOk_6, tupOf_1, tupOf_2, tupOf_3, tupOf_4, atI_0, atI_1, atI_2, atI_3, List.getD_cons_zero, List.getD_cons_succ, Bool.not_true, Bool.not_false, true_and, eq_self, ite_and, ite_or, ite_some, ite_two]
    refine w_lot_over w t c f.hc f.five f.g.len (fun hn => absurd hn h) fun l a b => ?_
    exact h2 h l ⟨l, rfl, a, b⟩
theorem w_opposite (at_ : Bool) {w : List Int} {t : List Tie} {c : Nat} (f : Fit w t c) (hq : q (clm (!at_) w t (.int (c : Int)))) : s_opposite [clm at_ w t (.int (c : Int))] q y := by
  rw [r_opposite]
  refine ⟨rfl, w_check at_ f ⟨rfl, ?_⟩⟩
  rw [r_opposite_by]
  simp only [asB_b, asI_i, ite_t, ite_f, ret_ap, need_ap, opt_s, isInt_i, isInt_b, isInt_n, isInt_s, isInt_l, isInt_t, isInt_d, isBool_i, isBool_b, isBool_n, isBool_s, isBool_l, isBool_t, isBool_d, isTup_i, isTup_b, isTup_n, isTup_s, isTup_l, isTup_t, isTup_d, isStr_i, isStr_s, isStr_t, len_t, len_l, eq_ii, ne_ii, lt_ii, le_ii, gt_ii, ge_ii, add_ii, sub_ii, neg_i, add_tt, add_ll, items_t, items_l, walk_t, walk_l, sl_t, sl_l, ix_t, ix_l, mul_ii, fdiv_ii, mod_ii, int_i, abs_i, list_l, list_t, tuple_l, tuple_t, rg1_i, rg2_i, zip_l, zip_t, is_n, isnot_n, is_b, isnot_b, sizeOk_0, sizeOk_1, sizeOk_2, sizeOk_3, sizeOk_4, sizeOk_5, sizeOk_6, tupOf_1, tupOf_2, tupOf_3, tupOf_4, atI_0, atI_1, atI_2, atI_3, List.getD_cons_zero, List.getD_cons_succ, Bool.not_true, Bool.not_false, true_and, eq_self, ite_and, ite_or, ite_some, ite_two, clm]
  show W.opt (tab_OPPOSITES.lookup (word at_)) W.ret _ _
  rw [tab_OPP]
  simp only [asB_b, asI_i, ite_t, ite_f, ret_ap, need_ap, opt_s, isInt_i, isInt_b, isInt_n, isInt_s, isInt_l, isInt_t, isInt_d, isBool_i, isBool_b, isBool_n, isBool_s, isBool_l, isBool_t, isBool_d, isTup_i, isTup_b, isTup_n, isTup_s, isTup_l, isTup_t, isTup_d, isStr_i, isStr_s, isStr_t, len_t, len_l, eq_ii, ne_ii, lt_ii, le_ii, gt_ii, ge_ii, add_ii, sub_ii, neg_i, add_tt, add_ll, items_t, items_l, walk_t, walk_l, sl_t, sl_l, ix_t, ix_l, mul_ii, fdiv_ii, mod_ii, int_i, abs_i, list_l, list_t, tuple_l, tuple_t, rg1_i, rg2_i, zip_l, zip_t, is_n, isnot_n, is_b, isnot_b, sizeOk_0, sizeOk_1, sizeOk_2, sizeOk_3, sizeOk_4, sizeOk_5, sizeOk_6, tupOf_1, tupOf_2, tupOf_3, tupOf_4, atI_0, atI_1, atI_2, atI_3, List.getD_cons_zero, List.getD_cons_succ, Bool.not_true, Bool.not_false, true_and, eq_self, ite_and, ite_or, ite_some, ite_two]
  rw [show (1 : Int) = ((1 : Nat) : Int) from rfl, cutD_drop]
  refine ⟨sizeOk_of (by simp), ?_⟩
  exact hq
theorem w_is_claim {v : PyData} (h : s_is_claim_by [v] q y) : s_is_claim [v] q y := by
  rw [r_is_claim]
  exact ⟨rfl, h⟩
end Tk77

set_option maxHeartbeats 4000000
namespace Tk77
open PySem PySem.Spec PyProof.Rows L2 PD
variable {q : PyData → Prop} {y : Xc → Prop}
/-! ### papers near a paper -/
def EV (d : PyData) : Prop := (tyD d).isSome = true ∧ shp 9 d ∧ ∀ es, d = .tuple es → es.length ≤ 1000 ∧ ∀ e ∈ es, (tyD e).isSome = true
theorem ev_int (i : Int) : EV (.int i) := ⟨rfl, shp_int 9 i, fun _ h => by cases h⟩
theorem ev_bool (i : Bool) : EV (.bool i) := ⟨rfl, shp_bool 9 i, fun _ h => by cases h⟩
theorem ev_none : EV .none := ⟨rfl, shp_none 9, fun _ h => by cases h⟩
/-- numbers, bools, nothing -/
def AV (d : PyData) : Prop := d = .none ∨ (∃ b, d = .bool b) ∨ ∃ i, d = .int i
theorem AV.ty {d : PyData} (h : AV d) : (tyD d).isSome = true ∧ shp 8 d := by
  rcases h with rfl | ⟨b, rfl⟩ | ⟨i, rfl⟩
  · exact ⟨rfl, shp_none 8⟩
  · exact ⟨rfl, shp_bool 8 b⟩
  · exact ⟨rfl, shp_int 8 i⟩
theorem ev_tup {es : List PyData} (h : ∀ e ∈ es, AV e) (hl : es.length ≤ 1000) : EV (.tuple es) := ⟨rfl, shp_tup fun d hd => (h d hd).ty.2, fun fs e => by
  injection e with e
  subst e
  exact ⟨hl, fun d hd => (h d hd).ty.1⟩⟩
theorem ev_list {es : List PyData} (h : ∀ e ∈ es, AV e) : EV (.list es) := ⟨rfl, shp_list fun d hd => (h d hd).ty.2, fun fs e => by cases e⟩
theorem av_int (i : Int) : AV (.int i) := .inr (.inr ⟨i, rfl⟩)
theorem av_bool (i : Bool) : AV (.bool i) := .inr (.inl ⟨i, rfl⟩)
theorem av2 {a b : PyData} (ha : AV a) (hb : AV b) : ∀ e ∈ [a, b], AV e := fun e he => by
  simp only [List.mem_cons, List.not_mem_nil, or_false] at he
  rcases he with rfl | rfl
  · exact ha
  · exact hb
theorem ev_eR (r : Res) : EV (eR r) := ev_tup (av2 (av_int _) (av_int _)) (by show 2 ≤ 1000; omega)
theorem pv_tup {ds : List PyData} (h : ∀ d ∈ ds, EV d) (hl : ds.length ≤ 1000) : PV (.tuple ds) := ⟨rfl, fun _ _ => shp_tup fun d hd => (h d hd).2.1, fun es e => by
  injection e with e
  subst e
  exact ⟨hl, fun d hd => ⟨(h d hd).1, (h d hd).2.2⟩⟩⟩
theorem pv_list {ds : List PyData} (h : ∀ d ∈ ds, EV d) : PV (.list ds) := ⟨rfl, fun _ z => (nomatch z), fun es e => (nomatch e)⟩
theorem pv_ints (l : List Int) (hl : l.length ≤ 1000) : PV (.tuple (l.map .int)) := pv_tup (fun d hd => by
  obtain ⟨i, _, rfl⟩ := List.mem_map.mp hd
  exact ev_int i) (by rw [List.length_map]; exact hl)
theorem pv_dL (l : List Nat) (hl : l.length ≤ 1000) : PV (dL l) := pv_tup (fun d hd => by
  obtain ⟨i, _, rfl⟩ := List.mem_map.mp hd
  exact ev_int _) (by rw [List.length_map]; exact hl)
theorem pv_dR (rs : List Res) (hl : rs.length ≤ 1000) : PV (dR rs) := pv_tup (fun d hd => by
  obtain ⟨i, _, rfl⟩ := List.mem_map.mp hd
  exact ev_eR _) (by rw [List.length_map]; exact hl)
theorem cut_mem {ds : List PyData} {lo hi : Option Int} {d : PyData} (h : d ∈ PD.cutD ds lo hi) : d ∈ ds := List.mem_of_mem_drop (List.mem_of_mem_take h)
theorem cut_len (ds : List PyData) (lo hi : Option Int) : (PD.cutD ds lo hi).length ≤ ds.length := by
  unfold PD.cutD
  rw [List.length_take, List.length_drop]
  omega
theorem ne_tnil {ds : List PyData} {k : Nat} (h : shp k (.tuple ds)) (hk : k ≤ 64) (hq : q (.bool (!ds.isEmpty))) : dCmp .NotEq (.tuple ds) (.tuple []) q y := by
  rw [ne_ab, eqv_tnil]
  exact ⟨⟨shaped_of h hk, by decide +kernel⟩, hq⟩
theorem dRg_t (j : Int) : dRg "tuple" [.int j] q y = (RgOk 0 j ∧ q (.tuple (rangeD 0 j))) := rfl
theorem dRev_t (ds : List PyData) : dRev (.tuple ds) q y = q (.tuple ds.reverse) := rfl
theorem pv_atom {d : PyData} (h : (tyD d).isSome = true) (n : ∀ es, d ≠ .tuple es) : PV d := ⟨h, fun es e => absurd e (n es), fun es e => absurd e (n es)⟩
theorem ev_kind {ds : List PyData} (hk : (∃ l : List Nat, ds = l.map fun (k : Nat) => PyData.int (k : Int)) ∨ ∃ rs : List Res, ds = rs.map eR) : ∀ d ∈ ds, EV d := fun d hd => by
  rcases hk with ⟨l, rfl⟩ | ⟨rs, rfl⟩
  · obtain ⟨k, _, rfl⟩ := List.mem_map.mp hd
    exact ev_int _
  · obtain ⟨r, _, rfl⟩ := List.mem_map.mp hd
    exact ev_eR r
theorem fa_nil {P : PyData → Prop} : ∀ d ∈ ([] : List PyData), P d := fun d hd => by cases hd
theorem w_near (w : List Int) (t : List Tie) (hw : w.length ≤ 5) (h0 : 0 < w.length) (ht : t.length ≤ 400) (ds : List PyData) (hk : (∃ l : List Nat, ds = l.map fun (k : Nat) => PyData.int (k : Int)) ∨ ∃ rs : List Res, ds = rs.map eR) (hl : ds.length ≤ 400)
    (hq : ∀ xs, (∀ d ∈ xs, PV d) → q (.list xs)) : s__law_near [poolD, dW w, dT t, .tuple ds] q y := by
  rw [r__law_near]
  have e0 : dLen [dW w] = dLen [.tuple (w.map .int)] := rfl
  have hev := ev_kind hk
  simp only [asB_b, asI_i, ite_t, ite_f, ret_ap, need_ap, opt_s, isInt_i, isInt_b, isInt_n, isInt_s, isInt_l, isInt_t, isInt_d, isBool_i, isBool_b, isBool_n, isBool_s, isBool_l, isBool_t, isBool_d, isTup_i, isTup_b, isTup_n, isTup_s, isTup_l, isTup_t, isTup_d, isStr_i, isStr_s, isStr_t, len_t, len_l, eq_ii, ne_ii, lt_ii, le_ii, gt_ii, ge_ii, add_ii, sub_ii, neg_i, add_tt, add_ll, items_t, items_l, walk_t, walk_l, sl_t, sl_l, ix_t, ix_l, mul_ii, fdiv_ii, mod_ii, int_i, abs_i, list_l, list_t, tuple_l, tuple_t, rg1_i, rg2_i, zip_l, zip_t, is_n, isnot_n, is_b, isnot_b, sizeOk_0, sizeOk_1, sizeOk_2, sizeOk_3, sizeOk_4, sizeOk_5, sizeOk_6, tupOf_1, tupOf_2, tupOf_3, tupOf_4, atI_0, atI_1, atI_2, atI_3, List.getD_cons_zero, List.getD_cons_succ, Bool.not_true, Bool.not_false, true_and, eq_self, ite_and, ite_or, ite_some, ite_two, e0, List.length_map, dT, dRg_t]
  refine ⟨⟨by omega, by omega, by omega, by omega, by omega⟩, ?_⟩
  refine lcGo_maps eT (fun e => .tuple [.int 0, .int e.2.2]) (fun e he q x hq => ?_) (by rw [sizeLine_eq]; omega) ?_
  · simp only [asB_b, asI_i, ite_t, ite_f, ret_ap, need_ap, opt_s, isInt_i, isInt_b, isInt_n, isInt_s, isInt_l, isInt_t, isInt_d, isBool_i, isBool_b, isBool_n, isBool_s, isBool_l, isBool_t, isBool_d, isTup_i, isTup_b, isTup_n, isTup_s, isTup_l, isTup_t, isTup_d, isStr_i, isStr_s, isStr_t, len_t, len_l, eq_ii, ne_ii, lt_ii, le_ii, gt_ii, ge_ii, add_ii, sub_ii, neg_i, add_tt, add_ll, items_t, items_l, walk_t, walk_l, sl_t, sl_l, ix_t, ix_l, mul_ii, fdiv_ii, mod_ii, int_i, abs_i, list_l, list_t, tuple_l, tuple_t, rg1_i, rg2_i, zip_l, zip_t, is_n, isnot_n, is_b, isnot_b, sizeOk_0, sizeOk_1, sizeOk_2, sizeOk_3, sizeOk_4, sizeOk_5, sizeOk_6, tupOf_1, tupOf_2, tupOf_3, tupOf_4, atI_0, atI_1, atI_2, atI_3, List.getD_cons_zero, List.getD_cons_succ, Bool.not_true, Bool.not_false, true_and, eq_self, ite_and, ite_or, ite_some, ite_two, eT]
    exact hq
  refine lcGo_maps eT (fun e => .tuple [.int e.2.2, .int 0]) (fun e he q x hq => ?_) (by rw [sizeLine_eq]; omega) ?_
  · simp only [asB_b, asI_i, ite_t, ite_f, ret_ap, need_ap, opt_s, isInt_i, isInt_b, isInt_n, isInt_s, isInt_l, isInt_t, isInt_d, isBool_i, isBool_b, isBool_n, isBool_s, isBool_l, isBool_t, isBool_d, isTup_i, isTup_b, isTup_n, isTup_s, isTup_l, isTup_t, isTup_d, isStr_i, isStr_s, isStr_t, len_t, len_l, eq_ii, ne_ii, lt_ii, le_ii, gt_ii, ge_ii, add_ii, sub_ii, neg_i, add_tt, add_ll, items_t, items_l, walk_t, walk_l, sl_t, sl_l, ix_t, ix_l, mul_ii, fdiv_ii, mod_ii, int_i, abs_i, list_l, list_t, tuple_l, tuple_t, rg1_i, rg2_i, zip_l, zip_t, is_n, isnot_n, is_b, isnot_b, sizeOk_0, sizeOk_1, sizeOk_2, sizeOk_3, sizeOk_4, sizeOk_5, sizeOk_6, tupOf_1, tupOf_2, tupOf_3, tupOf_4, atI_0, atI_1, atI_2, atI_3, List.getD_cons_zero, List.getD_cons_succ, Bool.not_true, Bool.not_false, true_and, eq_self, ite_and, ite_or, ite_some, ite_two, eT]
    exact hq
  refine ⟨sizeOk_of (by show 13 ≤ _; omega), ⟨by decide, by decide⟩, ?_⟩
  refine lcGo_any (fun v => ∃ l : List Nat, v = dL l ∧ l.length ≤ 5) (fun d hd q x hq => ?_) (by rw [sizeLine_eq]; unfold rangeD; rw [List.length_map, List.length_range]; simp) fun ys hy1 hy2 => ?_
  · refine w_lgroups w.length hw fun ms hm hl hpos => ?_
    refine w_pick (.inl rfl) (fun e => ?_) (by rw [List.length_map]; omega) fun d hd => ?_
    · have h3 := congrArg List.length e
      rw [List.length_map] at h3
      have h4 := hpos h0
      exact absurd h3 (by show ¬ ms.length = 0; omega)
    · obtain ⟨l, hl, rfl⟩ := List.mem_map.mp hd
      refine hq _ ⟨l, rfl, ?_⟩
      have := ((hm l).mp hl).len
      omega
  have hy3 : ys.length = 3 := by
    rw [hy1]
    unfold rangeD
    rw [List.length_map, List.length_range]
    rfl
  rw [List.nil_append]
  simp only [asB_b, asI_i, ite_t, ite_f, ret_ap, need_ap, opt_s, isInt_i, isInt_b, isInt_n, isInt_s, isInt_l, isInt_t, isInt_d, isBool_i, isBool_b, isBool_n, isBool_s, isBool_l, isBool_t, isBool_d, isTup_i, isTup_b, isTup_n, isTup_s, isTup_l, isTup_t, isTup_d, isStr_i, isStr_s, isStr_t, len_t, len_l, eq_ii, ne_ii, lt_ii, le_ii, gt_ii, ge_ii, add_ii, sub_ii, neg_i, add_tt, add_ll, items_t, items_l, walk_t, walk_l, sl_t, sl_l, ix_t, ix_l, mul_ii, fdiv_ii, mod_ii, int_i, abs_i, list_l, list_t, tuple_l, tuple_t, rg1_i, rg2_i, zip_l, zip_t, is_n, isnot_n, is_b, isnot_b, sizeOk_0, sizeOk_1, sizeOk_2, sizeOk_3, sizeOk_4, sizeOk_5, sizeOk_6, tupOf_1, tupOf_2, tupOf_3, tupOf_4, atI_0, atI_1, atI_2, atI_3, List.getD_cons_zero, List.getD_cons_succ, Bool.not_true, Bool.not_false, true_and, eq_self, ite_and, ite_or, ite_some, ite_two]
  refine ⟨by rw [hy3, sizeLine_eq]; show 13 + 3 ≤ _; omega, ?_⟩
  have pbase : ∀ d ∈ [PyData.tuple ds, .tuple [], .none, .int 0, .str "first", .list [], .dict [], .tuple [.int 0], .tuple (rangeD 0 (w.length : Int)), .tuple [.int (w.length : Int)], .tuple [.bool true], .tuple (t.map fun e => .tuple [.int 0, .int e.2.2]), .tuple (t.map fun e => .tuple [.int e.2.2, .int 0])] ++ ys, PV d := fun d hd => by
    rcases List.mem_append.mp hd with hd | hd
    · have e1 : PV (.tuple ([] : List PyData)) := pv_tup fa_nil (by show 0 ≤ 1000; omega)
      have e2 : PV (.str "first") := pv_atom rfl fun _ z => by cases z
      have e3 : PV (.dict []) := pv_atom rfl fun _ z => by cases z
      have e4 : PV (.tuple (rangeD 0 (w.length : Int))) := by
        rw [rangeD_nat]
        exact pv_dL (List.range w.length) (by rw [List.length_range]; omega)
      have e5 : ∀ f : Tie → Res, PV (.tuple (t.map fun e => eR (f e))) := fun f => pv_tup (fun d hd => by
        obtain ⟨e, _, rfl⟩ := List.mem_map.mp hd
        exact ev_eR _) (by rw [List.length_map]; omega)
      simp only [List.mem_cons, List.not_mem_nil, or_false] at hd
      rcases hd with rfl | rfl | rfl | rfl | rfl | rfl | rfl | rfl | rfl | rfl | rfl | rfl | rfl
      · exact pv_tup hev (by omega)
      · exact e1
      · exact pv_atom rfl fun _ z => by cases z
      · exact pv_atom rfl fun _ z => by cases z
      · exact e2
      · exact pv_list fa_nil
      · exact e3
      · exact pv_ints [0] (by show 1 ≤ 1000; omega)
      · exact e4
      · exact pv_ints [(w.length : Int)] (by show 1 ≤ 1000; omega)
      · exact pv_tup (fun d hd => by rw [List.mem_singleton.mp hd]; exact ev_bool true) (by show 1 ≤ 1000; omega)
      · exact e5 fun e => (0, e.2.2)
      · exact e5 fun e => (e.2.2, 0)
    · obtain ⟨l, rfl, hl⟩ := hy2 d hd
      exact pv_dL l (by omega)
  have lbase : ([PyData.tuple ds, .tuple [], .none, .int 0, .str "first", .list [], .dict [], .tuple [.int 0], .tuple (rangeD 0 (w.length : Int)), .tuple [.int (w.length : Int)], .tuple [.bool true], .tuple (t.map fun e => .tuple [.int 0, .int e.2.2]), .tuple (t.map fun e => .tuple [.int e.2.2, .int 0])] ++ ys).length = 16 := by
    rw [List.length_append, hy3]
    rfl
  generalize hB : ([PyData.tuple ds, .tuple [], .none, .int 0, .str "first", .list [], .dict [], .tuple [.int 0], .tuple (rangeD 0 (w.length : Int)), .tuple [.int (w.length : Int)], .tuple [.bool true], .tuple (t.map fun e => .tuple [.int 0, .int e.2.2]), .tuple (t.map fun e => .tuple [.int e.2.2, .int 0])] ++ ys) = base at pbase lbase
  have shd : shp 10 (.tuple ds) := (pv_tup hev (by omega)).sh _ rfl
  refine ne_tnil shd (by decide) ?_
  cases hE : ds.isEmpty
  · have hpos : 0 < ds.length := by
      cases ds with
      | nil => cases hE
      | cons a b => rw [List.length_cons]; omega
    show s__law_draw [poolD, .int (ds.length : Int)] _ y
    refine w_draw _ (by omega) (by omega) fun k hk0 hk1 => ?_
    obtain ⟨hki, ek⟩ := atI_lt (xs := ds) hk0 hk1
    have hc := cut_len ds (some (-1)) none
    have hc1 := cut_len ds (some 1) none
    refine ⟨by rw [sizeLine_eq]; omega, ?_⟩
    rw [dRev_t]
    refine ⟨by rw [lbase, sizeLine_eq]; show 16 + 4 ≤ _; omega, ?_⟩
    have p4 : ∀ d ∈ base ++ [PyData.list ds, .tuple (PD.cutD ds (some 1) none), .tuple (ds ++ PD.cutD ds (some (-1)) none), .tuple ds.reverse], PV d := fun d hd => by
      rcases List.mem_append.mp hd with hd | hd
      · exact pbase d hd
      · simp only [List.mem_cons, List.not_mem_nil, or_false] at hd
        rcases hd with rfl | rfl | rfl | rfl
        · exact pv_list hev
        · exact pv_tup (fun d hd => hev d (cut_mem hd)) (by omega)
        · exact pv_tup (fun d hd => (List.mem_append.mp hd).elim (hev d) fun hd => hev d (cut_mem hd)) (by rw [List.length_append]; omega)
        · exact pv_tup (fun d hd => hev d (List.mem_reverse.mp hd)) (by rw [List.length_reverse]; omega)
    rw [ix_t, ek, opt_s, ret_ap]
    have hmem : ds[k.toNat] ∈ ds := List.getElem_mem _
    rcases hk with ⟨l, rfl⟩ | ⟨rs, rfl⟩
    · obtain ⟨j, _, e⟩ := List.mem_map.mp hmem
      rw [← e]
      exact hq _ p4
    · obtain ⟨r, _, e⟩ := List.mem_map.mp hmem
      rw [← e]
      simp only [asB_b, asI_i, ite_t, ite_f, ret_ap, need_ap, opt_s, isInt_i, isInt_b, isInt_n, isInt_s, isInt_l, isInt_t, isInt_d, isBool_i, isBool_b, isBool_n, isBool_s, isBool_l, isBool_t, isBool_d, isTup_i, isTup_b, isTup_n, isTup_s, isTup_l, isTup_t, isTup_d, isStr_i, isStr_s, isStr_t, len_t, len_l, eq_ii, ne_ii, lt_ii, le_ii, gt_ii, ge_ii, add_ii, sub_ii, neg_i, add_tt, add_ll, items_t, items_l, walk_t, walk_l, sl_t, sl_l, ix_t, ix_l, mul_ii, fdiv_ii, mod_ii, int_i, abs_i, list_l, list_t, tuple_l, tuple_t, rg1_i, rg2_i, zip_l, zip_t, is_n, isnot_n, is_b, isnot_b, sizeOk_0, sizeOk_1, sizeOk_2, sizeOk_3, sizeOk_4, sizeOk_5, sizeOk_6, tupOf_1, tupOf_2, tupOf_3, tupOf_4, atI_0, atI_1, atI_2, atI_3, List.getD_cons_zero, List.getD_cons_succ, Bool.not_true, Bool.not_false, true_and, eq_self, ite_and, ite_or, ite_some, ite_two, eR]
      rw [ek, opt_s, ret_ap, ← e]
      simp only [asB_b, asI_i, ite_t, ite_f, ret_ap, need_ap, opt_s, isInt_i, isInt_b, isInt_n, isInt_s, isInt_l, isInt_t, isInt_d, isBool_i, isBool_b, isBool_n, isBool_s, isBool_l, isBool_t, isBool_d, isTup_i, isTup_b, isTup_n, isTup_s, isTup_l, isTup_t, isTup_d, isStr_i, isStr_s, isStr_t, len_t, len_l, eq_ii, ne_ii, lt_ii, le_ii, gt_ii, ge_ii, add_ii, sub_ii, neg_i, add_tt, add_ll, items_t, items_l, walk_t, walk_l, sl_t, sl_l, ix_t, ix_l, mul_ii, fdiv_ii, mod_ii, int_i, abs_i, list_l, list_t, tuple_l, tuple_t, rg1_i, rg2_i, zip_l, zip_t, is_n, isnot_n, is_b, isnot_b, sizeOk_0, sizeOk_1, sizeOk_2, sizeOk_3, sizeOk_4, sizeOk_5, sizeOk_6, tupOf_1, tupOf_2, tupOf_3, tupOf_4, atI_0, atI_1, atI_2, atI_3, List.getD_cons_zero, List.getD_cons_succ, Bool.not_true, Bool.not_false, true_and, eq_self, ite_and, ite_or, ite_some, ite_two, eR]
      refine ⟨sizeOk_of (by show 8 ≤ _; omega), ?_⟩
      have c1 := cut_len (rs.map eR) none (some k)
      have c2 := cut_len (rs.map eR) (some (k + 1)) none
      refine lcGo_any PV (fun d hd q x hq => ?_) (by rw [sizeLine_eq]; show 0 + 8 ≤ _; omega) fun zs hz1 hz2 => ?_
      · have hd : EV d := by
          simp only [List.mem_cons, List.not_mem_nil, or_false] at hd
          rcases hd with rfl | rfl | rfl | rfl | rfl | rfl | rfl | rfl
          · exact ev_tup (av2 (av_int _) (av_int _)) (by show 2 ≤ 1000; omega)
          · exact ev_tup (av2 (av_int _) (av_int _)) (by show 2 ≤ 1000; omega)
          · exact ev_tup (av2 (av_int _) (av_int _)) (by show 2 ≤ 1000; omega)
          · exact ev_tup (av2 (av_int _) (av_int _)) (by show 2 ≤ 1000; omega)
          · exact ev_list (av2 (av_int _) (av_int _))
          · exact ev_tup (fun e he => by rw [List.mem_singleton.mp he]; exact av_int _) (by show 1 ≤ 1000; omega)
          · exact ev_tup (av2 (.inl rfl) (av_int _)) (by show 2 ≤ 1000; omega)
          · exact ev_tup (av2 (av_bool _) (av_int _)) (by show 2 ≤ 1000; omega)
        refine ⟨by rw [List.length_singleton, sizeLine_eq]; omega, by rw [List.length_append, List.length_singleton, sizeLine_eq]; omega, hq _ (pv_tup (fun d hd' => ?_) ?_)⟩
        · rcases List.mem_append.mp hd' with hd' | hd'
          · rcases List.mem_append.mp hd' with hd' | hd'
            · exact hev d (cut_mem hd')
            · rw [List.mem_singleton.mp hd']
              assumption
          · exact hev d (cut_mem hd')
        · rw [List.length_append, List.length_append, List.length_singleton]
          omega
      · rw [List.nil_append]
        have hz3 : zs.length = 8 := hz1
        refine ⟨by rw [List.length_append, lbase, hz3, sizeLine_eq]; show 16 + 4 + 8 ≤ _; omega, ?_⟩
        refine hq _ fun d hd => ?_
        rcases List.mem_append.mp hd with hd | hd
        · exact p4 d hd
        · exact hz2 d hd
  · exact hq _ pbase
end Tk77

set_option maxHeartbeats 4000000
namespace Tk77
open PySem PySem.Spec PyProof.Rows L2 PD
variable {q : PyData → Prop} {y : Xc → Prop}
def rise (u v : Tie) : Prop := u.1 < v.1 ∨ (u.1 = v.1 ∧ u.2.1 < v.2.1)
structure Inv (n one two : Nat) (t : List Tie) : Prop where
  len : t.length ≤ 8 * one + two
  all : ∀ e ∈ t, (e.1 < one ∨ (e.1 = one ∧ e.2.1 < two)) ∧ e.1 < e.2.1 ∧ e.2.1 < n ∧ 1 ≤ e.2.2 ∧ e.2.2 ≤ 20
  up : t.Pairwise rise
structure OkTies (n : Nat) (t : List Tie) : Prop where
  len : t.length ≤ 80
  all : ∀ e ∈ t, e.1 < e.2.1 ∧ e.2.1 < n ∧ 1 ≤ e.2.2 ∧ e.2.2 ≤ 20
  up : t.Pairwise rise
structure OkWins (w : List Int) : Prop where
  one : 2 ≤ w.length
  len : w.length ≤ 5
  all : ∀ i ∈ w, 0 ≤ i ∧ i ≤ 99
theorem goodT_of {n : Nat} : ∀ {t : List Tie} {o : Option Tie} {i : Nat}, (∀ e ∈ t, e.1 < e.2.1 ∧ e.2.1 < n ∧ 1 ≤ e.2.2 ∧ e.2.2 ≤ 20) → t.Pairwise rise → (∀ u, o = some u → ∀ e ∈ t, rise u e) → wrongT n o i t = []
  | [], _, _, _, _, _ => rfl
  | e :: t, o, i, h1, h2, h3 => by
    unfold wrongT
    obtain ⟨a1, a2, a3, a4⟩ := h1 e (List.mem_cons_self ..)
    have e1 : okT n e = true := by
      unfold okT okI
      simp only [Bool.and_eq_true, decide_eq_true_eq]
      omega
    have rest : wrongT n (some e) (i + 1) t = [] := goodT_of (fun d hd => h1 d (List.mem_cons_of_mem _ hd)) (List.pairwise_cons.mp h2).2 fun u hu d hd => by
      cases hu
      exact (List.pairwise_cons.mp h2).1 d hd
    cases o with
    | none =>
      show (if (okT n e && true) = true then wrongT n (some e) (i + 1) t else _) = []
      rw [e1, rest]
      rfl
    | some u =>
      have e3 : decide (u.1 < e.1 ∨ (u.1 = e.1 ∧ u.2.1 < e.2.1)) = true := decide_eq_true (h3 u rfl e (List.mem_cons_self ..))
      show (if (okT n e && decide (u.1 < e.1 ∨ (u.1 = e.1 ∧ u.2.1 < e.2.1))) = true then wrongT n (some e) (i + 1) t else _) = []
      rw [e1, rest, e3]
      rfl
theorem OkTies.good {n : Nat} {t : List Tie} (h : OkTies n t) : goodT n t = true := by
  unfold goodT
  rw [goodT_of h.all h.up fun u hu => by cases hu]
  rfl
theorem OkTies.g {n : Nat} {t : List Tie} (h : OkTies n t) : Gt n t := ⟨by have := h.len; omega, h.all⟩
theorem OkWins.good {w : List Int} (h : OkWins w) : good w = true := by
  unfold Tk77.good
  have h1 := h.one
  have h2 := h.len
  rw [Bool.and_eq_true, Bool.and_eq_true, decide_eq_true_iff, decide_eq_true_iff, List.all_eq_true]
  refine ⟨h1, by omega, fun p hp => ?_⟩
  have := h.all p hp
  unfold okI
  simp only [Bool.and_eq_true, decide_eq_true_eq]
  omega
theorem fit_of {w : List Int} {t : List Tie} {c : Nat} (ow : OkWins w) (ot : OkTies w.length t) (hc : c < w.length) : Fit w t c := ⟨ow.good, ot.good, ot.g, hc⟩
abbrev fgM := forGo (gmOf MD F_45 d__law_season) (forTg (headS (forBd (headS (List.tail (List.tail (List.tail d__law_season.body))))))) (exSs (exS 38 (gmOf MD F_45 d__law_season)) (forBd (headS (forBd (headS (List.tail (List.tail (List.tail d__law_season.body))))))))
theorem season_inner (n one games : Nat) (hn : n ≤ 8) (h1 : one < n) (hh : 0 < games ∧ games ≤ 20) (m mo hi_ : PyData) (K : SK) : ∀ (len a : Nat) (t : List Tie) (o2 op : Option PyData), a + len = n → one < a → Inv n one a t → (∀ t' o2, Inv n one n t' → K.nx [some poolD, some mo, some (.int (games : Int)), some m, some (dT t'), some (.int (one : Int)), some (.int (n : Int)), some hi_, o2, op]) →
    fgM ((List.range' a len).map fun k => .int ((k : Nat) : Int)) [some poolD, some mo, some (.int (games : Int)), some m, some (dT t), some (.int (one : Int)), some (.int (n : Int)), some hi_, o2, op] K := by
  intro len
  induction len with
  | zero =>
    intro a t o2 op e _ hi hk
    have e : a = n := by omega
    subst e
    exact hk t o2 hi
  | succ len ih =>
    intro a t o2 op e ha hi hk
    show exSs (exS 38 (gmOf MD F_45 d__law_season)) (forBd (headS (forBd (headS (List.tail (List.tail (List.tail d__law_season.body))))))) [some poolD, some mo, some (.int (games : Int)), some m, some (dT t), some (.int (one : Int)), some (.int (n : Int)), some hi_, some (.int (a : Int)), op] _
    rw [rb__law_season_2]
    refine ⟨rfl, w_draw 3 (by decide) (by decide) fun k _ _ => ?_⟩
    have same : Inv n one (a + 1) t := ⟨by have := hi.len; omega, fun e he => by have := hi.all e he; omega, hi.up⟩
    have tl := hi.len
    simp only [asB_b, asI_i, ite_t, ite_f, ret_ap, need_ap, opt_s, isInt_i, isInt_b, isInt_n, isInt_s, isInt_l, isInt_t, isInt_d, isBool_i, isBool_b, isBool_n, isBool_s, isBool_l, isBool_t, isBool_d, isTup_i, isTup_b, isTup_n, isTup_s, isTup_l, isTup_t, isTup_d, isStr_i, isStr_s, isStr_t, len_t, len_l, eq_ii, ne_ii, lt_ii, le_ii, gt_ii, ge_ii, add_ii, sub_ii, neg_i, add_tt, add_ll, items_t, items_l, walk_t, walk_l, sl_t, sl_l, ix_t, ix_l, mul_ii, fdiv_ii, mod_ii, int_i, abs_i, list_l, list_t, tuple_l, tuple_t, rg1_i, rg2_i, zip_l, zip_t, is_n, isnot_n, is_b, isnot_b, sizeOk_0, sizeOk_1, sizeOk_2, sizeOk_3, sizeOk_4, sizeOk_5, sizeOk_6, tupOf_1, tupOf_2, tupOf_3, tupOf_4, atI_0, atI_1, atI_2, atI_3, List.getD_cons_zero, List.getD_cons_succ, Bool.not_true, Bool.not_false, true_and, eq_self, ite_and, ite_or, ite_some, ite_two, dT, List.length_map]
    cases decide (0 < k)
    · simp only [asB_b, asI_i, ite_t, ite_f, ret_ap, need_ap, opt_s, isInt_i, isInt_b, isInt_n, isInt_s, isInt_l, isInt_t, isInt_d, isBool_i, isBool_b, isBool_n, isBool_s, isBool_l, isBool_t, isBool_d, isTup_i, isTup_b, isTup_n, isTup_s, isTup_l, isTup_t, isTup_d, isStr_i, isStr_s, isStr_t, len_t, len_l, eq_ii, ne_ii, lt_ii, le_ii, gt_ii, ge_ii, add_ii, sub_ii, neg_i, add_tt, add_ll, items_t, items_l, walk_t, walk_l, sl_t, sl_l, ix_t, ix_l, mul_ii, fdiv_ii, mod_ii, int_i, abs_i, list_l, list_t, tuple_l, tuple_t, rg1_i, rg2_i, zip_l, zip_t, is_n, isnot_n, is_b, isnot_b, sizeOk_0, sizeOk_1, sizeOk_2, sizeOk_3, sizeOk_4, sizeOk_5, sizeOk_6, tupOf_1, tupOf_2, tupOf_3, tupOf_4, atI_0, atI_1, atI_2, atI_3, List.getD_cons_zero, List.getD_cons_succ, Bool.not_true, Bool.not_false, true_and, eq_self, ite_and, ite_or, ite_some, ite_two, List.append_nil, List.length_nil, List.length_map]
      refine ⟨by rw [sizeLine_eq]; omega, ?_⟩
      exact ih (a + 1) t _ op (by omega) (by omega) same hk
    · simp only [asB_b, asI_i, ite_t, ite_f, ret_ap, need_ap, opt_s, isInt_i, isInt_b, isInt_n, isInt_s, isInt_l, isInt_t, isInt_d, isBool_i, isBool_b, isBool_n, isBool_s, isBool_l, isBool_t, isBool_d, isTup_i, isTup_b, isTup_n, isTup_s, isTup_l, isTup_t, isTup_d, isStr_i, isStr_s, isStr_t, len_t, len_l, eq_ii, ne_ii, lt_ii, le_ii, gt_ii, ge_ii, add_ii, sub_ii, neg_i, add_tt, add_ll, items_t, items_l, walk_t, walk_l, sl_t, sl_l, ix_t, ix_l, mul_ii, fdiv_ii, mod_ii, int_i, abs_i, list_l, list_t, tuple_l, tuple_t, rg1_i, rg2_i, zip_l, zip_t, is_n, isnot_n, is_b, isnot_b, sizeOk_0, sizeOk_1, sizeOk_2, sizeOk_3, sizeOk_4, sizeOk_5, sizeOk_6, tupOf_1, tupOf_2, tupOf_3, tupOf_4, atI_0, atI_1, atI_2, atI_3, List.getD_cons_zero, List.getD_cons_succ, Bool.not_true, Bool.not_false, true_and, eq_self, ite_and, ite_or, ite_some, ite_two]
      refine w_draw (games : Int) (by omega) (by omega) fun c hc hc' => ?_
      simp only [asB_b, asI_i, ite_t, ite_f, ret_ap, need_ap, opt_s, isInt_i, isInt_b, isInt_n, isInt_s, isInt_l, isInt_t, isInt_d, isBool_i, isBool_b, isBool_n, isBool_s, isBool_l, isBool_t, isBool_d, isTup_i, isTup_b, isTup_n, isTup_s, isTup_l, isTup_t, isTup_d, isStr_i, isStr_s, isStr_t, len_t, len_l, eq_ii, ne_ii, lt_ii, le_ii, gt_ii, ge_ii, add_ii, sub_ii, neg_i, add_tt, add_ll, items_t, items_l, walk_t, walk_l, sl_t, sl_l, ix_t, ix_l, mul_ii, fdiv_ii, mod_ii, int_i, abs_i, list_l, list_t, tuple_l, tuple_t, rg1_i, rg2_i, zip_l, zip_t, is_n, isnot_n, is_b, isnot_b, sizeOk_0, sizeOk_1, sizeOk_2, sizeOk_3, sizeOk_4, sizeOk_5, sizeOk_6, tupOf_1, tupOf_2, tupOf_3, tupOf_4, atI_0, atI_1, atI_2, atI_3, List.getD_cons_zero, List.getD_cons_succ, Bool.not_true, Bool.not_false, true_and, eq_self, ite_and, ite_or, ite_some, ite_two, List.length_map, List.length_singleton]
      refine ⟨by rw [sizeLine_eq]; omega, ?_⟩
      have e2 : t.map eT ++ [.tuple [.int (one : Int), .int (a : Int), .int (1 + c)]] = (t ++ [(one, a, 1 + c)]).map eT := by rw [List.map_append]; rfl
      rw [e2]
      refine ih (a + 1) _ _ op (by omega) (by omega) ⟨by rw [List.length_append, List.length_singleton]; omega, fun e he => ?_, ?_⟩ hk
      · rcases List.mem_append.mp he with he | he
        · have := hi.all e he
          omega
        · rw [List.mem_singleton] at he
          subst he
          exact ⟨.inr ⟨rfl, Nat.lt_succ_self _⟩, ha, by show a < n; omega, by show (1 : Int) ≤ 1 + c; omega, by show 1 + c ≤ 20; omega⟩
      · rw [List.pairwise_append]
        refine ⟨hi.up, List.pairwise_singleton _ _, fun u hu v hv => ?_⟩
        rw [List.mem_singleton] at hv
        subst hv
        exact (hi.all u hu).1
abbrev fgM1 := forGo (gmOf MD F_45 d__law_season) (forTg (headS (List.tail (List.tail (List.tail d__law_season.body))))) (exSs (exS 39 (gmOf MD F_45 d__law_season)) (forBd (headS (List.tail (List.tail (List.tail d__law_season.body))))))
theorem season_outer (n games : Nat) (hn : n ≤ 8) (hh : 0 < games ∧ games ≤ 20) (m mo hi_ : PyData) (K : SK) : ∀ (len a : Nat) (t : List Tie) (o1 o2 op : Option PyData), a + len = n → Inv n a 0 t → (∀ t' o1 o2, Inv n n 0 t' → K.nx [some poolD, some mo, some (.int (games : Int)), some m, some (dT t'), o1, some (.int (n : Int)), some hi_, o2, op]) →
    fgM1 ((List.range' a len).map fun k => .int ((k : Nat) : Int)) [some poolD, some mo, some (.int (games : Int)), some m, some (dT t), o1, some (.int (n : Int)), some hi_, o2, op] K := by
  intro len
  induction len with
  | zero =>
    intro a t o1 o2 op e hi hk
    have e : a = n := by omega
    subst e
    exact hk t o1 o2 hi
  | succ len ih =>
    intro a t o1 o2 op e hi hk
    show exSs (exS 39 (gmOf MD F_45 d__law_season)) (forBd (headS (List.tail (List.tail (List.tail d__law_season.body))))) [some poolD, some mo, some (.int (games : Int)), some m, some (dT t), some (.int (a : Int)), some (.int (n : Int)), some hi_, o2, op] _
    rw [rb__law_season_1]
    simp only [asB_b, asI_i, ite_t, ite_f, ret_ap, need_ap, opt_s, isInt_i, isInt_b, isInt_n, isInt_s, isInt_l, isInt_t, isInt_d, isBool_i, isBool_b, isBool_n, isBool_s, isBool_l, isBool_t, isBool_d, isTup_i, isTup_b, isTup_n, isTup_s, isTup_l, isTup_t, isTup_d, isStr_i, isStr_s, isStr_t, len_t, len_l, eq_ii, ne_ii, lt_ii, le_ii, gt_ii, ge_ii, add_ii, sub_ii, neg_i, add_tt, add_ll, items_t, items_l, walk_t, walk_l, sl_t, sl_l, ix_t, ix_l, mul_ii, fdiv_ii, mod_ii, int_i, abs_i, list_l, list_t, tuple_l, tuple_t, rg1_i, rg2_i, zip_l, zip_t, is_n, isnot_n, is_b, isnot_b, sizeOk_0, sizeOk_1, sizeOk_2, sizeOk_3, sizeOk_4, sizeOk_5, sizeOk_6, tupOf_1, tupOf_2, tupOf_3, tupOf_4, atI_0, atI_1, atI_2, atI_3, List.getD_cons_zero, List.getD_cons_succ, Bool.not_true, Bool.not_false, true_and, eq_self, ite_and, ite_or, ite_some, ite_two]
    refine ⟨⟨⟨by omega, by omega⟩, by omega, by omega⟩, ?_⟩
    have e1 : rangeD ((a : Int) + 1) (n : Int) = (List.range' (a + 1) (n - (a + 1))).map fun k => .int ((k : Nat) : Int) := rangeD_two (a + 1) n
    rw [e1]
    refine season_inner n a games hn (by omega) hh m mo hi_ _ (n - (a + 1)) (a + 1) t _ _ (by omega) (by omega) ⟨by have := hi.len; omega, fun e he => by have := hi.all e he; omega, hi.up⟩ fun t' o2 hi' => ?_
    refine ih (a + 1) t' _ _ op (by omega) ⟨by have := hi'.len; omega, fun e he => by have := hi'.all e he; omega, hi'.up⟩ hk
theorem w_season (games : Nat) (hh : 0 < games ∧ games ≤ 20) (hq : ∀ w t, OkWins w → OkTies w.length t → q (.tuple [dW w, dT t])) : s__law_season [poolD, .int 5, .int (games : Int)] q y := by
  rw [r__law_season]
  simp only [asB_b, asI_i, ite_t, ite_f, ret_ap, need_ap, opt_s, isInt_i, isInt_b, isInt_n, isInt_s, isInt_l, isInt_t, isInt_d, isBool_i, isBool_b, isBool_n, isBool_s, isBool_l, isBool_t, isBool_d, isTup_i, isTup_b, isTup_n, isTup_s, isTup_l, isTup_t, isTup_d, isStr_i, isStr_s, isStr_t, len_t, len_l, eq_ii, ne_ii, lt_ii, le_ii, gt_ii, ge_ii, add_ii, sub_ii, neg_i, add_tt, add_ll, items_t, items_l, walk_t, walk_l, sl_t, sl_l, ix_t, ix_l, mul_ii, fdiv_ii, mod_ii, int_i, abs_i, list_l, list_t, tuple_l, tuple_t, rg1_i, rg2_i, zip_l, zip_t, is_n, isnot_n, is_b, isnot_b, sizeOk_0, sizeOk_1, sizeOk_2, sizeOk_3, sizeOk_4, sizeOk_5, sizeOk_6, tupOf_1, tupOf_2, tupOf_3, tupOf_4, atI_0, atI_1, atI_2, atI_3, List.getD_cons_zero, List.getD_cons_succ, Bool.not_true, Bool.not_false, true_and, eq_self, ite_and, ite_or, ite_some, ite_two]
  refine w_draw (5 - 1) (by decide) (by decide) fun k hk hk' => ?_
  obtain ⟨n, e⟩ : ∃ n : Nat, (2 : Int) + k = (n : Int) := ⟨(2 + k).toNat, by omega⟩
  have hn : 2 ≤ n ∧ n ≤ 5 := by omega
  simp only [asB_b, asI_i, ite_t, ite_f, ret_ap, need_ap, opt_s, isInt_i, isInt_b, isInt_n, isInt_s, isInt_l, isInt_t, isInt_d, isBool_i, isBool_b, isBool_n, isBool_s, isBool_l, isBool_t, isBool_d, isTup_i, isTup_b, isTup_n, isTup_s, isTup_l, isTup_t, isTup_d, isStr_i, isStr_s, isStr_t, len_t, len_l, eq_ii, ne_ii, lt_ii, le_ii, gt_ii, ge_ii, add_ii, sub_ii, neg_i, add_tt, add_ll, items_t, items_l, walk_t, walk_l, sl_t, sl_l, ix_t, ix_l, mul_ii, fdiv_ii, mod_ii, int_i, abs_i, list_l, list_t, tuple_l, tuple_t, rg1_i, rg2_i, zip_l, zip_t, is_n, isnot_n, is_b, isnot_b, sizeOk_0, sizeOk_1, sizeOk_2, sizeOk_3, sizeOk_4, sizeOk_5, sizeOk_6, tupOf_1, tupOf_2, tupOf_3, tupOf_4, atI_0, atI_1, atI_2, atI_3, List.getD_cons_zero, List.getD_cons_succ, Bool.not_true, Bool.not_false, true_and, eq_self, ite_and, ite_or, ite_some, ite_two, e]
  refine w_pick (.inl rfl) (by simp) (by simp) fun d hd => ?_
  have hd : ∃ high : Nat, d = .int (high : Int) ∧ 0 < high ∧ high ≤ 9 := by
    simp only [List.mem_cons, List.not_mem_nil, or_false] at hd
    rcases hd with rfl | rfl | rfl
    · exact ⟨2, rfl, by decide, by decide⟩
    · exact ⟨5, rfl, by decide, by decide⟩
    · exact ⟨9, rfl, by decide, by decide⟩
  obtain ⟨high, rfl, hhi⟩ := hd
  simp only [asB_b, asI_i, ite_t, ite_f, ret_ap, need_ap, opt_s, isInt_i, isInt_b, isInt_n, isInt_s, isInt_l, isInt_t, isInt_d, isBool_i, isBool_b, isBool_n, isBool_s, isBool_l, isBool_t, isBool_d, isTup_i, isTup_b, isTup_n, isTup_s, isTup_l, isTup_t, isTup_d, isStr_i, isStr_s, isStr_t, len_t, len_l, eq_ii, ne_ii, lt_ii, le_ii, gt_ii, ge_ii, add_ii, sub_ii, neg_i, add_tt, add_ll, items_t, items_l, walk_t, walk_l, sl_t, sl_l, ix_t, ix_l, mul_ii, fdiv_ii, mod_ii, int_i, abs_i, list_l, list_t, tuple_l, tuple_t, rg1_i, rg2_i, zip_l, zip_t, is_n, isnot_n, is_b, isnot_b, sizeOk_0, sizeOk_1, sizeOk_2, sizeOk_3, sizeOk_4, sizeOk_5, sizeOk_6, tupOf_1, tupOf_2, tupOf_3, tupOf_4, atI_0, atI_1, atI_2, atI_3, List.getD_cons_zero, List.getD_cons_succ, Bool.not_true, Bool.not_false, true_and, eq_self, ite_and, ite_or, ite_some, ite_two]
  refine ⟨⟨by omega, by omega⟩, ?_⟩
  rw [rangeD_nat]
  refine lcGo_any (fun v => ∃ i : Int, v = .int i ∧ (0 ≤ i ∧ i ≤ 99)) (fun d hd q x hq => ?_) (by rw [List.length_map, List.length_range, sizeLine_eq]; simp only [List.length_nil]; omega) fun ys h1 h2 => ?_
  · refine w_draw ((high : Int) + 1) (by omega) (by omega) fun a ha ha' => ?_
    refine w_pick (.inl rfl) (by simp) (by simp) fun d hd => ?_
    simp only [List.mem_cons, List.not_mem_nil, or_false] at hd
    rcases hd with rfl | rfl
    · exact hq _ ⟨_, rfl, by omega, by omega⟩
    · exact hq _ ⟨_, rfl, by omega, by omega⟩
  rw [List.nil_append]
  obtain ⟨w, rfl, hw⟩ := map_of PyData.int _ h2
  rw [List.length_map, List.length_map, List.length_range] at h1
  refine ⟨⟨by omega, by omega⟩, ?_⟩
  rw [List.range_eq_range']
  refine season_outer n games (by omega) hh (.tuple (w.map .int)) (.int 5) _ _ n 0 [] none none none (by omega) ⟨Nat.zero_le _, fun e he => (by cases he), List.Pairwise.nil⟩ fun t' o1 o2 hi => ?_
  dsimp only
  rw [rr__law_season_1]
  refine ⟨sizeOk_of (by simp), hq w t' ⟨by omega, by omega, hw⟩ ⟨by have := hi.len; omega, fun e he => ?_, hi.up⟩⟩
  rw [h1]
  exact (hi.all e he).2
end Tk77

set_option maxHeartbeats 4000000
namespace Tk77
open PySem PySem.Spec PyProof.Rows L2 PD
variable {q : PyData → Prop} {y : Xc → Prop}
theorem rep_word (at_ : Bool) : rep 20 (.str (word at_)) := by
  cases at_ <;> exact ⟨rfl, rfl, by decide +kernel, by decide +kernel⟩
theorem rep_dW {w : List Int} (h : OkWins w) : rep 160 (dW w) := by
  have h1 : rep ((3 + 2) * (w.map PyData.int).length + 3) (.tuple (w.map .int)) := rep_tup fun d hd => by
    obtain ⟨p, hp, rfl⟩ := List.mem_map.mp hd
    have := h.all p hp
    exact rep_int 2 (by decide) (by decide) (by omega)
  refine h1.mono ?_
  rw [List.length_map]
  have := h.len
  omega
theorem rep_dT {n : Nat} {t : List Tie} (hn : n ≤ 9) (h : OkTies n t) : rep 2000 (dT t) := by
  have h1 : rep ((18 + 2) * (t.map eT).length + 3) (.tuple (t.map eT)) := rep_tup fun d hd => by
    obtain ⟨p, hp, rfl⟩ := List.mem_map.mp hd
    obtain ⟨a1, a2, a3, a4⟩ := h.all p hp
    refine (rep_tup (B := 3) (ds := [.int (p.1 : Int), .int (p.2.1 : Int), .int p.2.2]) fun d hd => ?_).mono (Nat.le_of_ble_eq_true rfl)
    simp only [List.mem_cons, List.not_mem_nil, or_false] at hd
    rcases hd with rfl | rfl | rfl
    · exact rep_int 2 (by decide) (by decide) (by omega)
    · exact rep_int 2 (by decide) (by decide) (by omega)
    · exact rep_int 2 (by decide) (by decide) (by omega)
  refine h1.mono ?_
  rw [List.length_map]
  have := h.len
  omega
structure All (w : List Int) (t : List Tie) (c : Nat) : Prop where
  ow : OkWins w
  ot : OkTies w.length t
  hc : c < w.length
theorem All.fit {w : List Int} {t : List Tie} {c : Nat} (f : All w t c) : Fit w t c := fit_of f.ow f.ot f.hc
theorem rep_clm (at_ : Bool) {w : List Int} {t : List Tie} {c : Nat} (f : All w t c) : rep 9000 (clm at_ w t (.int (c : Int))) := by
  refine (rep_tup (B := 2000) fun d hd => ?_).mono (Nat.le_of_ble_eq_true rfl)
  simp only [List.mem_cons, List.not_mem_nil, or_false] at hd
  rcases hd with rfl | rfl | rfl | rfl
  · exact (rep_word at_).mono (by decide)
  · exact (rep_dW f.ow).mono (by decide)
  · exact rep_dT (by have := f.ow.len; omega) f.ot
  · exact (rep_int 2 (by decide) (by decide) (by have := f.hc; have := f.ow.len; omega)).mono (by decide)
theorem bb_rep (x b : Bool) : rep 17 (.list [.bool x, .bool b]) := by
  refine (rep_list (B := 5) (ds := [.bool x, .bool b]) fun d hd => ?_).mono (Nat.le_of_ble_eq_true rfl)
  simp only [List.mem_cons, List.not_mem_nil, or_false] at hd
  rcases hd with rfl | rfl
  · exact rep_bool x
  · exact rep_bool b
theorem bb_shp (x b : Bool) : shp 1 (.list [.bool x, .bool b]) := shp_list fun d hd => by
  simp only [List.mem_cons, List.not_mem_nil, or_false] at hd
  rcases hd with rfl | rfl
  · exact shp_bool 0 x
  · exact shp_bool 0 b
theorem bb_eq (x b : Bool) (hq : q (.bool (x && b))) : dCmp .Eq (.list [.bool x, .bool b]) (.list [.bool true, .bool true]) q y := by
  rw [eq_ab]
  refine ⟨⟨shaped_of (bb_shp x b) (by decide), shaped_of (bb_shp true true) (by decide)⟩, ?_⟩
  have e : PyData.eqv (.list [.bool x, .bool b]) (.list [.bool true, .bool true]) = (x && b) := by
    cases x <;> cases b <;> decide +kernel
  rw [e]
  exact hq
def cls (w : List Int) (t : List Tie) (c : Nat) : PyData := .list [clm false w t (.int (c : Int)), clm true w t (.int (c : Int))]
open Classical in
/-- one paper -/
theorem paper_step {w : List Int} {t : List Tie} {c : Nat} (f : All w t c) (v : PyData) (hv : PV v) (at_ to : PyData) (oa ob od oc : Option PyData) (K : SK)
    (hk : ∀ od, K.nx [some poolD, some (dW w), some (dT t), some (.int (c : Int)), some (cls w t c), some at_, oa, some v, ob, some to, od, oc]) :
    exSs (exS 39 (gmOf MD F_52 d__law_team_right)) (forBd (headS (List.tail (List.tail (List.tail d__law_team_right.body))))) [some poolD, some (dW w), some (dT t), some (.int (c : Int)), some (cls w t c), some at_, oa, some v, ob, some to, od, oc] K := by
  rw [rb__law_team_right_2]
  have ft := f.fit
  have r1 : ∀ (k : PyData → Prop) (x : Xc → Prop), k (.bool (decide (isResP w t c v))) → s__law_are_results [dW w, dT t, .int (c : Int), v] k x := fun k x h =>
    w_law_are_results w t c v f.hc ft.g.fits hv (fun e => by rw [decide_eq_true e] at h; exact h) fun e => by rw [decide_eq_false e] at h; exact h
  have r2 : ∀ (k : PyData → Prop) (x : Xc → Prop), k (.bool (decide (isOverP w t c v))) → s__law_is_over [dW w, dT t, .int (c : Int), v] k x := fun k x h =>
    w_law_is_over w t c v f.hc ft.five ft.g.len hv (fun e => by rw [decide_eq_true e] at h; exact h) fun e => by rw [decide_eq_false e] at h; exact h
  have a1 : ∀ (k : PyData → Prop) (x : Xc → Prop), k (.bool (decide (isResP w t c v))) → s_accepts [clm false w t (.int (c : Int)), v] k x := fun k x h =>
    w_accepts false ft v hv (fun e => by rw [decide_eq_true (show isResP w t c v from e)] at h; exact h) fun e => by rw [decide_eq_false (show ¬ isResP w t c v from e)] at h; exact h
  have a2 : ∀ (k : PyData → Prop) (x : Xc → Prop), k (.bool (decide (isOverP w t c v))) → s_accepts [clm true w t (.int (c : Int)), v] k x := fun k x h =>
    w_accepts true ft v hv (fun e => by rw [decide_eq_true (show isOverP w t c v from e)] at h; exact h) fun e => by rw [decide_eq_false (show ¬ isOverP w t c v from e)] at h; exact h
  have hne : (decide (isResP w t c v) && decide (isOverP w t c v)) = false := by
    cases e1 : decide (isResP w t c v)
    · rfl
    · cases e2 : decide (isOverP w t c v)
      · rfl
      · exact (never_both (of_decide_eq_true e1) (of_decide_eq_true e2)).elim
  generalize decide (isResP w t c v) = x at r1 a1 hne
  generalize decide (isOverP w t c v) = b at r2 a2 hne
  refine ⟨rfl, r1 _ _ ⟨rfl, r2 _ _ ⟨sizeOk_of (by simp), ?_⟩⟩⟩
  show (2 : Nat) = 2 ∧ s_accepts [clm false w t (.int (c : Int)), v] _ _
  refine ⟨rfl, a1 _ _ ⟨rfl, ?_⟩⟩
  show ((2 : Nat) = 2 ∧ (2 : Nat) = 2) ∧ s_accepts [clm true w t (.int (c : Int)), v] _ _
  refine ⟨⟨rfl, rfl⟩, a2 _ _ ⟨sizeOk_of (by simp), ?_⟩⟩
  refine repr_d (bb_rep x b) (by decide) (bb_shp x b) (by decide) ?_
  refine repr_d (bb_rep x b) (by decide) (bb_shp x b) (by decide) (ne_ss (bb_rep x b).ok (bb_rep x b).ok ?_)
  rw [beq_self_eq_true]
  simp only [asB_b, asI_i, ite_t, ite_f, ret_ap, need_ap, opt_s, isInt_i, isInt_b, isInt_n, isInt_s, isInt_l, isInt_t, isInt_d, isBool_i, isBool_b, isBool_n, isBool_s, isBool_l, isBool_t, isBool_d, isTup_i, isTup_b, isTup_n, isTup_s, isTup_l, isTup_t, isTup_d, isStr_i, isStr_s, isStr_t, len_t, len_l, eq_ii, ne_ii, lt_ii, le_ii, gt_ii, ge_ii, add_ii, sub_ii, neg_i, add_tt, add_ll, items_t, items_l, walk_t, walk_l, sl_t, sl_l, ix_t, ix_l, mul_ii, fdiv_ii, mod_ii, int_i, abs_i, list_l, list_t, tuple_l, tuple_t, rg1_i, rg2_i, zip_l, zip_t, is_n, isnot_n, is_b, isnot_b, sizeOk_0, sizeOk_1, sizeOk_2, sizeOk_3, sizeOk_4, sizeOk_5, sizeOk_6, tupOf_1, tupOf_2, tupOf_3, tupOf_4, atI_0, atI_1, atI_2, atI_3, List.getD_cons_zero, List.getD_cons_succ, Bool.not_true, Bool.not_false, true_and, eq_self, ite_and, ite_or, ite_some, ite_two]
  refine bb_eq x b ?_
  rw [hne]
  exact hk _
theorem paper_loop {w : List Int} {t : List Tie} {c : Nat} (f : All w t c) (at_ to : PyData) (oa ob oc : Option PyData) (K : SK) : ∀ (vs : List PyData) (ov od : Option PyData), (∀ v ∈ vs, PV v) →
    (∀ ov od, K.nx [some poolD, some (dW w), some (dT t), some (.int (c : Int)), some (cls w t c), some at_, oa, ov, ob, some to, od, oc]) →
    forGo (gmOf MD F_52 d__law_team_right) (forTg (headS (List.tail (List.tail (List.tail d__law_team_right.body))))) (exSs (exS 39 (gmOf MD F_52 d__law_team_right)) (forBd (headS (List.tail (List.tail (List.tail d__law_team_right.body)))))) vs [some poolD, some (dW w), some (dT t), some (.int (c : Int)), some (cls w t c), some at_, oa, ov, ob, some to, od, oc] K := by
  intro vs
  induction vs with
  | nil => intro ov od _ hk; exact hk ov od
  | cons v vs ih =>
    intro ov od hv hk
    exact paper_step f v (hv v (List.mem_cons_self ..)) at_ to oa ob od oc _ fun od => ih (some v) od (fun w hw => hv w (List.mem_cons_of_mem _ hw)) hk
/-- what is told, with its paper -/
structure Told (w : List Int) (t : List Tie) (c : Nat) (b : Bool) (to : PyData) : Prop where
  ex : ∃ ds, to = .tuple [clm b w t (.int (c : Int)), .tuple ds] ∧ ((∃ l : List Nat, ds = l.map fun (k : Nat) => PyData.int (k : Int)) ∨ ∃ rs : List Res, ds = rs.map eR) ∧ ds.length ≤ 400
theorem ix_at (b : Bool) (w : List Int) (t : List Tie) (c : Nat) : dIx (cls w t c) (.int (if b then 1 else 0)) q y = q (clm b w t (.int (c : Int))) := by cases b <;> rfl
theorem settle_step {w : List Int} {t : List Tie} {c : Nat} (f : All w t c) (b : Bool) (hb : b = true ↔ ¬ canBe w t c) (x : Bool) (o1 o2 o3 o4 o5 : Option PyData) (K : SK)
    (hk : ∀ to, Told w t c b to → K.nx [some poolD, some (dW w), some (dT t), some (.int (c : Int)), some (cls w t c), some (.int (if b then 1 else 0)), some (clm x w t (.int (c : Int))), o1, o2, some to, o4, o5]) :
    exSs (exS 39 (gmOf MD F_52 d__law_team_right)) (forBd (headS (List.tail (List.tail d__law_team_right.body)))) [some poolD, some (dW w), some (dT t), some (.int (c : Int)), some (cls w t c), some (.int (if b then 1 else 0)), some (clm x w t (.int (c : Int))), o1, o2, o3, o4, o5] K := by
  rw [rb__law_team_right_1]
  refine ⟨rfl, w_draw 2 (by decide) (by decide) fun k _ _ => ?_⟩
  have ft := f.fit
  have settled : ∀ (k : PyData → Prop), (∀ ds, PV (.tuple ds) → isP b w t c (.tuple ds) → ((∃ l : List Nat, ds = l.map fun (k : Nat) => PyData.int (k : Int)) ∨ ∃ rs : List Res, ds = rs.map eR) → ds.length ≤ 400 → k (.tuple [clm b w t (.int (c : Int)), .tuple ds])) → s_settled [clm x w t (.int (c : Int))] k K.xc := fun k hk => by
    refine w_settled x ft (fun hc rs hr => ?_) fun hc l ho => ?_
    · have : b = false := by
        cases b
        · rfl
        · exact absurd hc (hb.mp rfl)
      subst this
      have hl : rs.length ≤ 400 := by
        obtain ⟨rs', e, ok, _⟩ := hr
        rw [dR_inj e, okRs_len ok]
        have := f.ot.len
        omega
      exact hk (rs.map eR) (pv_dR rs (by omega)) hr (.inr ⟨rs, rfl⟩) (by rw [List.length_map]; exact hl)
    · have : b = true := hb.mpr hc
      subst this
      have hl : l.length ≤ 5 := by
        obtain ⟨l', e, hl, _⟩ := ho
        rw [dL_inj e]
        have := hl.len
        have := f.ow.len
        omega
      exact hk (l.map fun (k : Nat) => PyData.int (k : Int)) (pv_dL l (by omega)) ho (.inl ⟨l, rfl⟩) (by rw [List.length_map]; omega)
  have r := rep_clm b f
  have s := shp_clm b w t (shp_int 2 (c : Int))
  rw [eq_ii, asB_b]
  cases decide (k = 0)
  · rw [ite_f]
    refine ⟨rfl, ⟨rfl, rfl⟩, settled _ fun ds hpv hp hkd hl => ?_⟩
    simp only [asB_b, asI_i, ite_t, ite_f, ret_ap, need_ap, opt_s, isInt_i, isInt_b, isInt_n, isInt_s, isInt_l, isInt_t, isInt_d, isBool_i, isBool_b, isBool_n, isBool_s, isBool_l, isBool_t, isBool_d, isTup_i, isTup_b, isTup_n, isTup_s, isTup_l, isTup_t, isTup_d, isStr_i, isStr_s, isStr_t, len_t, len_l, eq_ii, ne_ii, lt_ii, le_ii, gt_ii, ge_ii, add_ii, sub_ii, neg_i, add_tt, add_ll, items_t, items_l, walk_t, walk_l, sl_t, sl_l, ix_t, ix_l, mul_ii, fdiv_ii, mod_ii, int_i, abs_i, list_l, list_t, tuple_l, tuple_t, rg1_i, rg2_i, zip_l, zip_t, is_n, isnot_n, is_b, isnot_b, sizeOk_0, sizeOk_1, sizeOk_2, sizeOk_3, sizeOk_4, sizeOk_5, sizeOk_6, tupOf_1, tupOf_2, tupOf_3, tupOf_4, atI_0, atI_1, atI_2, atI_3, List.getD_cons_zero, List.getD_cons_succ, Bool.not_true, Bool.not_false, true_and, eq_self, ite_and, ite_or, ite_some, ite_two, List.length_cons, List.length_nil]
    rw [show decide ((((0 : Nat) + 1 + 1 : Nat) : Int) = 2) = true from rfl]
    simp only [asB_b, asI_i, ite_t, ite_f, ret_ap, need_ap, opt_s, isInt_i, isInt_b, isInt_n, isInt_s, isInt_l, isInt_t, isInt_d, isBool_i, isBool_b, isBool_n, isBool_s, isBool_l, isBool_t, isBool_d, isTup_i, isTup_b, isTup_n, isTup_s, isTup_l, isTup_t, isTup_d, isStr_i, isStr_s, isStr_t, len_t, len_l, eq_ii, ne_ii, lt_ii, le_ii, gt_ii, ge_ii, add_ii, sub_ii, neg_i, add_tt, add_ll, items_t, items_l, walk_t, walk_l, sl_t, sl_l, ix_t, ix_l, mul_ii, fdiv_ii, mod_ii, int_i, abs_i, list_l, list_t, tuple_l, tuple_t, rg1_i, rg2_i, zip_l, zip_t, is_n, isnot_n, is_b, isnot_b, sizeOk_0, sizeOk_1, sizeOk_2, sizeOk_3, sizeOk_4, sizeOk_5, sizeOk_6, tupOf_1, tupOf_2, tupOf_3, tupOf_4, atI_0, atI_1, atI_2, atI_3, List.getD_cons_zero, List.getD_cons_succ, Bool.not_true, Bool.not_false, true_and, eq_self, ite_and, ite_or, ite_some, ite_two]
    refine repr_d r (by decide) s (by decide) ?_
    rw [ix_at]
    refine repr_d r (by decide) s (by decide) (ne_ss r.ok r.ok ?_)
    rw [beq_self_eq_true]
    simp only [asB_b, asI_i, ite_t, ite_f, ret_ap, need_ap, opt_s, isInt_i, isInt_b, isInt_n, isInt_s, isInt_l, isInt_t, isInt_d, isBool_i, isBool_b, isBool_n, isBool_s, isBool_l, isBool_t, isBool_d, isTup_i, isTup_b, isTup_n, isTup_s, isTup_l, isTup_t, isTup_d, isStr_i, isStr_s, isStr_t, len_t, len_l, eq_ii, ne_ii, lt_ii, le_ii, gt_ii, ge_ii, add_ii, sub_ii, neg_i, add_tt, add_ll, items_t, items_l, walk_t, walk_l, sl_t, sl_l, ix_t, ix_l, mul_ii, fdiv_ii, mod_ii, int_i, abs_i, list_l, list_t, tuple_l, tuple_t, rg1_i, rg2_i, zip_l, zip_t, is_n, isnot_n, is_b, isnot_b, sizeOk_0, sizeOk_1, sizeOk_2, sizeOk_3, sizeOk_4, sizeOk_5, sizeOk_6, tupOf_1, tupOf_2, tupOf_3, tupOf_4, atI_0, atI_1, atI_2, atI_3, List.getD_cons_zero, List.getD_cons_succ, Bool.not_true, Bool.not_false, true_and, eq_self, ite_and, ite_or, ite_some, ite_two]
    refine w_accepts b ft _ hpv (fun _ => ?_) fun h => absurd hp h
    exact hk _ ⟨⟨ds, rfl, hkd, hl⟩⟩
  · rw [ite_t]
    refine ⟨rfl, settled _ fun ds hpv hp hkd hl => ?_⟩
    simp only [asB_b, asI_i, ite_t, ite_f, ret_ap, need_ap, opt_s, isInt_i, isInt_b, isInt_n, isInt_s, isInt_l, isInt_t, isInt_d, isBool_i, isBool_b, isBool_n, isBool_s, isBool_l, isBool_t, isBool_d, isTup_i, isTup_b, isTup_n, isTup_s, isTup_l, isTup_t, isTup_d, isStr_i, isStr_s, isStr_t, len_t, len_l, eq_ii, ne_ii, lt_ii, le_ii, gt_ii, ge_ii, add_ii, sub_ii, neg_i, add_tt, add_ll, items_t, items_l, walk_t, walk_l, sl_t, sl_l, ix_t, ix_l, mul_ii, fdiv_ii, mod_ii, int_i, abs_i, list_l, list_t, tuple_l, tuple_t, rg1_i, rg2_i, zip_l, zip_t, is_n, isnot_n, is_b, isnot_b, sizeOk_0, sizeOk_1, sizeOk_2, sizeOk_3, sizeOk_4, sizeOk_5, sizeOk_6, tupOf_1, tupOf_2, tupOf_3, tupOf_4, atI_0, atI_1, atI_2, atI_3, List.getD_cons_zero, List.getD_cons_succ, Bool.not_true, Bool.not_false, true_and, eq_self, ite_and, ite_or, ite_some, ite_two, List.length_cons, List.length_nil]
    rw [show decide ((((0 : Nat) + 1 + 1 : Nat) : Int) = 2) = true from rfl]
    simp only [asB_b, asI_i, ite_t, ite_f, ret_ap, need_ap, opt_s, isInt_i, isInt_b, isInt_n, isInt_s, isInt_l, isInt_t, isInt_d, isBool_i, isBool_b, isBool_n, isBool_s, isBool_l, isBool_t, isBool_d, isTup_i, isTup_b, isTup_n, isTup_s, isTup_l, isTup_t, isTup_d, isStr_i, isStr_s, isStr_t, len_t, len_l, eq_ii, ne_ii, lt_ii, le_ii, gt_ii, ge_ii, add_ii, sub_ii, neg_i, add_tt, add_ll, items_t, items_l, walk_t, walk_l, sl_t, sl_l, ix_t, ix_l, mul_ii, fdiv_ii, mod_ii, int_i, abs_i, list_l, list_t, tuple_l, tuple_t, rg1_i, rg2_i, zip_l, zip_t, is_n, isnot_n, is_b, isnot_b, sizeOk_0, sizeOk_1, sizeOk_2, sizeOk_3, sizeOk_4, sizeOk_5, sizeOk_6, tupOf_1, tupOf_2, tupOf_3, tupOf_4, atI_0, atI_1, atI_2, atI_3, List.getD_cons_zero, List.getD_cons_succ, Bool.not_true, Bool.not_false, true_and, eq_self, ite_and, ite_or, ite_some, ite_two]
    refine repr_d r (by decide) s (by decide) ?_
    rw [ix_at]
    refine repr_d r (by decide) s (by decide) (ne_ss r.ok r.ok ?_)
    rw [beq_self_eq_true]
    simp only [asB_b, asI_i, ite_t, ite_f, ret_ap, need_ap, opt_s, isInt_i, isInt_b, isInt_n, isInt_s, isInt_l, isInt_t, isInt_d, isBool_i, isBool_b, isBool_n, isBool_s, isBool_l, isBool_t, isBool_d, isTup_i, isTup_b, isTup_n, isTup_s, isTup_l, isTup_t, isTup_d, isStr_i, isStr_s, isStr_t, len_t, len_l, eq_ii, ne_ii, lt_ii, le_ii, gt_ii, ge_ii, add_ii, sub_ii, neg_i, add_tt, add_ll, items_t, items_l, walk_t, walk_l, sl_t, sl_l, ix_t, ix_l, mul_ii, fdiv_ii, mod_ii, int_i, abs_i, list_l, list_t, tuple_l, tuple_t, rg1_i, rg2_i, zip_l, zip_t, is_n, isnot_n, is_b, isnot_b, sizeOk_0, sizeOk_1, sizeOk_2, sizeOk_3, sizeOk_4, sizeOk_5, sizeOk_6, tupOf_1, tupOf_2, tupOf_3, tupOf_4, atI_0, atI_1, atI_2, atI_3, List.getD_cons_zero, List.getD_cons_succ, Bool.not_true, Bool.not_false, true_and, eq_self, ite_and, ite_or, ite_some, ite_two]
    refine w_accepts b ft _ hpv (fun _ => ?_) fun h => absurd hp h
    exact hk _ ⟨⟨ds, rfl, hkd, hl⟩⟩
theorem settle_loop {w : List Int} {t : List Tie} {c : Nat} (f : All w t c) (b : Bool) (hb : b = true ↔ ¬ canBe w t c) (o1 o2 o4 o5 : Option PyData) (K : SK)
    (hk : ∀ oa to, Told w t c b to → K.nx [some poolD, some (dW w), some (dT t), some (.int (c : Int)), some (cls w t c), some (.int (if b then 1 else 0)), oa, o1, o2, some to, o4, o5]) (oa o3 : Option PyData) :
    forGo (gmOf MD F_52 d__law_team_right) (forTg (headS (List.tail (List.tail d__law_team_right.body)))) (exSs (exS 39 (gmOf MD F_52 d__law_team_right)) (forBd (headS (List.tail (List.tail d__law_team_right.body))))) [clm false w t (.int (c : Int)), clm true w t (.int (c : Int))] [some poolD, some (dW w), some (dT t), some (.int (c : Int)), some (cls w t c), some (.int (if b then 1 else 0)), oa, o1, o2, o3, o4, o5] K := by
  refine settle_step f b hb false o1 o2 o3 o4 o5 _ fun to ht => ?_
  refine settle_step f b hb true o1 o2 (some to) o4 o5 _ fun to' ht' => ?_
  exact hk _ to' ht'
def NoClaim (d : PyData) : Prop := ∀ (q : PyData → Prop) (y : Xc → Prop), q (.bool false) → s_is_claim_by [d] q y
end Tk77

set_option maxHeartbeats 4000000
namespace Tk77
open PySem PySem.Spec PyProof.Rows L2 PD
variable {q : PyData → Prop} {y : Xc → Prop}
theorem shp4 {a b c d : PyData} (ha : shp 9 a) (hb : shp 9 b) (hc : shp 9 c) (hd : shp 9 d) : shp 10 (.tuple [a, b, c, d]) := shp_tup fun e he => by
  simp only [List.mem_cons, List.not_mem_nil, or_false] at he
  rcases he with rfl | rfl | rfl | rfl
  · exact ha
  · exact hb
  · exact hc
  · exact hd
theorem s9W (w : List Int) : shp 9 (dW w) := (shp_dW w).mono (by decide)
theorem s9T (t : List Tie) : shp 9 (dT t) := (shp_dT t).mono (by decide)
theorem bad_len (xs : List PyData) (hs : shp 10 (.tuple (.str (word false) :: xs))) (hl : xs.length ≠ 3) : NoClaim (.tuple (.str (word false) :: xs)) := fun q y hq => w_is_claim_by false xs hs (w_is_other false xs (fun _ => hq) fun e => absurd e hl)
theorem bad_team {w : List Int} {t : List Tie} (hw : w.length ≤ 5) (v : PyData) (hs : shp 2 v) (h : (tyD v).isSome = true) (hb : isBetween v 0 ((w.length : Int) - 1) = false) : NoClaim (.tuple [.str "first", dW w, dT t, v]) := fun q y hq => by
  refine w_claim false w t v (by omega) hs h ?_
  rw [hb, Bool.and_false, Bool.and_false]
  exact hq
theorem bad_short {w : List Int} {t : List Tie} (hw : w.length ≤ 1) (c : Nat) : NoClaim (.tuple [.str "not first", dW w, dT t, .int (c : Int)]) := fun q y hq => by
  refine w_claim true w t (.int (c : Int)) (by omega) (shp_int 2 _) rfl ?_
  have e : good w = false := by
    unfold good
    rw [decide_eq_false (by omega), Bool.false_and]
  rw [e, Bool.false_and]
  exact hq
theorem bad_tail {w : List Int} {t : List Tie} (hw : w.length ≤ 5) (c : Nat) : NoClaim (.tuple [.str "first", dW w, dT (t ++ [(1, 0, 1)]), .int (c : Int)]) := fun q y hq => by
  refine w_claim false w (t ++ [(1, 0, 1)]) (.int (c : Int)) (by omega) (shp_int 2 _) rfl ?_
  have e : goodT w.length (t ++ [(1, 0, 1)]) = false := wrongT_bad _ _ (by simp [okT]) t none 0
  rw [e, Bool.false_and, Bool.and_false]
  exact hq
theorem bad_list {w : List Int} {t : List Tie} (c : Nat) : NoClaim (.tuple [.str "first", .list (w.map .int), dT t, .int (c : Int)]) := fun q y hq => by
  refine w_is_claim_by false [.list (w.map .int), dT t, .int (c : Int)] (shp4 (shp_str 9 _ (ok_word false)) ((shp_list (k := 0) fun d hd => ?_).mono (by decide)) (s9T t) (shp_int 9 _)) (w_is_other false _ (fun e => absurd rfl e) fun _ => w_is_season_claim_list _ _ _ _ hq)
  obtain ⟨i, _, rfl⟩ := List.mem_map.mp hd
  exact shp_int 0 i
theorem bad_none {w : List Int} (hw : w.length ≤ 5) (c : Nat) : NoClaim (.tuple [.str "not first", dW w, .none, .int (c : Int)]) := fun q y hq =>
  w_is_claim_by true [dW w, .none, .int (c : Int)] (shp4 (shp_str 9 _ (ok_word true)) (s9W w) (shp_none 9) (shp_int 9 _)) (w_is_other true _ (fun e => absurd rfl e) fun _ => w_is_season_claim_none _ w _ (by omega) hq)
theorem add_dT (t : List Tie) (x : List PyData) (y : Xc → Prop) : dBin .Add (dT t) (.tuple x) q y = (t.length + x.length ≤ sizeLine ∧ q (.tuple (t.map eT ++ x))) := by
  show (_ ∧ _) = _
  rw [List.length_map]
theorem sl_dW (w : List Int) (lo hi : Option Int) (y : Xc → Prop) : dSl (dW w) lo hi q y = q (.tuple (PD.cutD (w.map .int) lo hi)) := rfl
theorem list_dW (w : List Int) (y : Xc → Prop) : dList [dW w] q y = q (.list (w.map .int)) := rfl
end Tk77

set_option maxHeartbeats 4000000
namespace Tk77
open PySem PySem.Spec PyProof.Rows L2 PD
variable {q : PyData → Prop} {y : Xc → Prop}
/-- behind the papers -/
theorem w_bads {w : List Int} {t : List Tie} {c : Nat} (f : All w t c) (b : Bool) (at_ to : PyData) (hto : Told w t c b to) (o1 o2 o3 o4 o5 : Option PyData) (K : SK) (hk : K.rt (.bool true)) :
    exSs (exS 40 (gmOf MD F_52 d__law_team_right)) (List.tail (List.tail (List.tail (List.tail d__law_team_right.body)))) [some poolD, some (dW w), some (dT t), some (.int (c : Int)), some (cls w t c), some at_, o1, o2, o3, some to, o4, o5] K := by
  obtain ⟨ds, rfl, _, _⟩ := hto.ex
  have hw := f.ow.len
  have htl := f.ot.len
  rw [rr__law_team_right_2]
  have e0 : dLen [dW w] = dLen [.tuple (w.map .int)] := rfl
  simp only [cls, clm, ix_l, opt_s, ret_ap, atI_0, atI_1, sl_t, list_t, sizeOk_0, sizeOk_1, sizeOk_2, sizeOk_3, sizeOk_4, true_and, eq_self]
  have e3 : PD.cutD [.str (word false), dW w, dT t, .int (c : Int)] none (some 3) = [.str (word false), dW w, dT t] := by
    rw [show (3 : Int) = ((3 : Nat) : Int) from rfl, cutD_take]
    rfl
  have e1 : PD.cutD [.str (word false), dW w, dT t, .int (c : Int)] (some 1) none = [dW w, dT t, .int (c : Int)] := by
    rw [show (1 : Int) = ((1 : Nat) : Int) from rfl, cutD_drop]
    rfl
  rw [e1, e3, add_tt]
  refine ⟨by rw [sizeLine_eq]; show 4 + 1 ≤ 16777216; omega, ?_⟩
  rw [add_tt]
  refine ⟨by rw [sizeLine_eq]; show 1 + 3 ≤ 16777216; omega, ?_⟩
  rw [e0, len_t, sl_dW]
  have e5 : PD.cutD (w.map .int) none (some 1) = (w.take 1).map .int := by
    rw [show (1 : Int) = ((1 : Nat) : Int) from rfl, cutD_take, List.map_take]
  rw [e5]
  refine ⟨sizeOk_of (by show 7 ≤ _; omega), ?_⟩
  rw [add_dT]
  refine ⟨by rw [sizeLine_eq]; show t.length + 1 ≤ 16777216; omega, ?_⟩
  rw [show t.map eT ++ [.tuple [.int 1, .int 0, .int 1]] = (t ++ [(1, 0, 1)]).map eT by rw [List.map_append]; rfl, list_dW, add_ll]
  refine ⟨by rw [sizeLine_eq]; show 7 + 3 ≤ 16777216; omega, ?_⟩
  rw [walk_l]
  have n1 : NoClaim (.tuple [.str (word false), dW w, dT t]) := bad_len _ (shp_tup fun d hd => by
    simp only [List.mem_cons, List.not_mem_nil, or_false] at hd
    rcases hd with rfl | rfl | rfl
    · exact shp_str 9 _ (ok_word false)
    · exact s9W w
    · exact s9T t) (by simp)
  have n2 : NoClaim (.tuple ([.str (word false), dW w, dT t, .int (c : Int)] ++ [.tuple []])) := bad_len [dW w, dT t, .int (c : Int), .tuple []] (shp_tup fun d hd => by
    simp only [List.mem_cons, List.not_mem_nil, or_false] at hd
    rcases hd with rfl | rfl | rfl | rfl | rfl
    · exact shp_str 9 _ (ok_word false)
    · exact s9W w
    · exact s9T t
    · exact shp_int 9 _
    · exact shp_tup fun d hd => by cases hd) (by simp)
  have n4 : NoClaim (.tuple ([.str "last"] ++ [dW w, dT t, .int (c : Int)])) := fun q y hq => w_no_last [dW w, dT t, .int (c : Int)] (shp4 (shp_str 9 _ (by decide +kernel)) (s9W w) (s9T t) (shp_int 9 _)) hq
  have hlen : (w.map PyData.int).length = w.length := List.length_map ..
  have n5 : NoClaim (.tuple [.str "first", dW w, dT t, .int ((w.map PyData.int).length : Nat)]) := by
    rw [hlen]
    refine bad_team hw _ (shp_int 2 _) rfl ?_
    show (decide ((0 : Int) ≤ ((w.length : Nat) : Int)) && decide (((w.length : Nat) : Int) ≤ (w.length : Int) - 1)) = false
    rw [decide_eq_false (by omega : ¬ ((w.length : Nat) : Int) ≤ (w.length : Int) - 1), Bool.and_false]
  have n6 : NoClaim (.tuple [.str "first", dW w, dT t, .bool true]) := bad_team hw _ (shp_bool 2 true) rfl rfl
  have n7 : NoClaim (.tuple [.str "not first", dW (w.take 1), dT t, .int (c : Int)]) := bad_short (by rw [List.length_take]; omega) c
  refine lcGo_of (f := fun _ => Option.none) (fun d hd q x hq => ?_) (by rw [sizeLine_eq]; show 0 + 10 ≤ 16777216; omega) ?_
  · have hn : NoClaim d := by
      rcases List.mem_append.mp hd with hd | hd
      · simp only [List.mem_cons, List.not_mem_nil, or_false] at hd
        rcases hd with rfl | rfl | rfl | rfl | rfl | rfl | rfl
        · exact n1
        · exact n2
        · exact fun q y hq => w_no_list _ hq
        · exact n4
        · exact n5
        · exact n6
        · exact n7
      · simp only [List.mem_cons, List.not_mem_nil, or_false] at hd
        rcases hd with rfl | rfl | rfl
        · exact bad_tail hw c
        · exact bad_list c
        · exact bad_none hw c
    refine w_is_claim (hn _ _ ?_)
    rw [isnot_b]
    refine w_accepts_no hn ?_
    rw [isnot_b]
    exact hq
  rw [List.nil_append]
  have en : ∀ l : List PyData, l.filterMap (fun _ => (Option.none : Option PyData)) = [] := fun l => by
    induction l with
    | nil => rfl
    | cons a l ih => rw [List.filterMap_cons, ih]
  rw [en]
  refine ne_nil (fun d hd => by cases hd) ?_
  have g : ∀ b : Bool, ∀ (q : PyData → Prop) (y : Xc → Prop), q (.bool true) → s_is_claim [clm b w t (.int (c : Int))] q y := fun b q y hq => w_is_claim (w_claim b w t _ (by omega) (shp_int 2 _) rfl (by rw [f.fit.claim]; exact hq))
  refine g false _ _ ?_
  refine g true _ _ ?_
  refine w_opposite false f.fit ?_
  refine w_opposite true f.fit ?_
  refine eq_self_d (k := 4) (shp_list fun d hd => ?_) (by decide) hk
  simp only [List.mem_cons, List.not_mem_nil, or_false] at hd
  rcases hd with rfl | rfl | rfl | rfl
  · exact shp_bool 3 _
  · exact shp_bool 3 _
  · exact shp_clm true w t (shp_int 2 _)
  · exact shp_clm false w t (shp_int 2 _)
end Tk77

set_option maxHeartbeats 4000000
namespace Tk77
open PySem PySem.Spec PyProof.Rows L2 PD
variable {q : PyData → Prop} {y : Xc → Prop}
theorem w_team_right {w : List Int} {t : List Tie} {c : Nat} (f : All w t c) (hq : q (.bool true)) : s__law_team_right [poolD, dW w, dT t, .int (c : Int)] q y := by
  have hw := f.ow.len
  have htl := f.ot.len
  rw [r__law_team_right]
  refine ⟨sizeOk_of (by show 4 ≤ _; omega), sizeOk_of (by show 4 ≤ _; omega), sizeOk_of (by show 2 ≤ _; omega), rfl, ?_⟩
  have key : ∀ b : Bool, (b = true ↔ ¬ canBe w t c) → forGo (gmOf MD F_52 d__law_team_right) (forTg (headS (List.tail (List.tail d__law_team_right.body)))) (exSs (exS 39 (gmOf MD F_52 d__law_team_right)) (forBd (headS (List.tail (List.tail d__law_team_right.body))))) [clm false w t (.int (c : Int)), clm true w t (.int (c : Int))] [some poolD, some (dW w), some (dT t), some (.int (c : Int)), some (cls w t c), some (.int (if b then 1 else 0)), none, none, none, none, none, none] (SK.mk (fun r => exSs (exS 40 (gmOf MD F_52 d__law_team_right)) (List.tail (List.tail (List.tail d__law_team_right.body))) r (SK.mk (fun _ => q .none) q (fun _ => False) (fun _ => False) y)) q (fun _ => False) (fun _ => False) y) := fun b hb => by
    refine settle_loop f b hb none none none none _ (fun oa to hto => ?_) none none
    dsimp only
    rw [rr__law_team_right_1]
    obtain ⟨ds, e, hkd, hl⟩ := hto.ex
    rw [e]
    show (4 : Nat) = 4 ∧ s__law_near [poolD, dW w, dT t, .tuple ds] _ _
    refine ⟨rfl, w_near w t hw (by have := f.hc; omega) (by omega) ds hkd hl fun xs hxs => ?_⟩
    rw [walk_l]
    rw [← e]
    refine paper_loop f _ _ _ _ _ _ xs _ _ hxs fun ov od => ?_
    exact w_bads f b _ _ hto _ _ _ _ _ _ hq
  refine w_law_over w t c f.hc hw f.fit.g.len (fun h => ?_) fun l h => ?_
  · exact key false ⟨fun z => (nomatch z), fun z => absurd h z⟩
  · exact key true ⟨fun _ => h, fun _ => rfl⟩
theorem turn_step (tu : PyData) (o1 o2 : Option PyData) (K : SK) (hk : ∀ o1 o2, K.nx [some poolD, some tu, o1, o2]) :
    exSs (exS 39 (gmOf MD F_53 d__law_right)) (forBd (headS d__law_right.body)) [some poolD, some tu, o1, o2] K := by
  rw [rb__law_right_1]
  refine ⟨sizeOk_of (by show 2 ≤ _; omega), rfl, w_pick (.inl rfl) (by simp) (by simp) fun d hd => ?_⟩
  have hd : ∃ g : Nat, d = .int (g : Int) ∧ 0 < g ∧ g ≤ 20 := by
    simp only [List.mem_cons, List.not_mem_nil, or_false] at hd
    rcases hd with rfl | rfl
    · exact ⟨2, rfl, by decide, by decide⟩
    · exact ⟨20, rfl, by decide, by decide⟩
  obtain ⟨g, rfl, hg⟩ := hd
  refine ⟨rfl, w_season g hg fun w t ow ot => ?_⟩
  have h2 := ow.one
  have h5 := ow.len
  show dLen [.tuple (w.map .int)] _ _
  rw [len_t, List.length_map]
  refine ⟨rfl, w_draw (w.length : Int) (by omega) (by omega) fun k hk0 hk1 => ?_⟩
  obtain ⟨c, rfl⟩ : ∃ c : Nat, k = (c : Int) := ⟨k.toNat, by omega⟩
  show (4 : Nat) = 4 ∧ s__law_team_right [poolD, dW w, dT t, .int (c : Int)] _ _
  refine ⟨rfl, w_team_right ⟨ow, ot, by omega⟩ ?_⟩
  exact hk _ _
end Tk77

set_option maxHeartbeats 4000000
namespace Tk77
open PySem PySem.Spec PyProof.Rows L2 PD
variable {q : PyData → Prop} {y : Xc → Prop}
theorem w_law_right (hq : q (.bool true)) : s__law_right [poolD] q y := by
  rw [r__law_right]
  simp only [asB_b, asI_i, ite_t, ite_f, ret_ap, need_ap, opt_s, isInt_i, isInt_b, isInt_n, isInt_s, isInt_l, isInt_t, isInt_d, isBool_i, isBool_b, isBool_n, isBool_s, isBool_l, isBool_t, isBool_d, isTup_i, isTup_b, isTup_n, isTup_s, isTup_l, isTup_t, isTup_d, isStr_i, isStr_s, isStr_t, len_t, len_l, eq_ii, ne_ii, lt_ii, le_ii, gt_ii, ge_ii, add_ii, sub_ii, neg_i, add_tt, add_ll, items_t, items_l, walk_t, walk_l, sl_t, sl_l, ix_t, ix_l, mul_ii, fdiv_ii, mod_ii, int_i, abs_i, list_l, list_t, tuple_l, tuple_t, rg1_i, rg2_i, zip_l, zip_t, is_n, isnot_n, is_b, isnot_b, sizeOk_0, sizeOk_1, sizeOk_2, sizeOk_3, sizeOk_4, sizeOk_5, sizeOk_6, tupOf_1, tupOf_2, tupOf_3, tupOf_4, atI_0, atI_1, atI_2, atI_3, List.getD_cons_zero, List.getD_cons_succ, Bool.not_true, Bool.not_false, true_and, eq_self, ite_and, ite_or, ite_some, ite_two]
  refine ⟨⟨by decide, by decide⟩, ?_⟩
  have e : rangeD 0 6 = [.int 0, .int 1, .int 2, .int 3, .int 4, .int 5] := by kernel_rfl
  rw [e]
  refine turn_step _ _ _ _ fun o1 o2 => turn_step _ _ _ _ fun o1 o2 => turn_step _ _ _ _ fun o1 o2 => turn_step _ _ _ _ fun o1 o2 => turn_step _ _ _ _ fun o1 o2 => turn_step _ _ _ _ fun o1 o2 => ?_
  show exSs (exS 40 (gmOf MD F_53 d__law_right)) (List.tail d__law_right.body) [some poolD, _, o1, o2] _
  rw [rr__law_right_1]
  refine ⟨sizeOk_of (by show 3 ≤ _; omega), sizeOk_of (by show 3 ≤ _; omega), sizeOk_of (by show 3 ≤ _; omega), sizeOk_of (by show 2 ≤ _; omega), sizeOk_of (by show 4 ≤ _; omega), sizeOk_of (by show 1 ≤ _; omega), rfl, ?_⟩
  have f : Fit [3, 3, 0] [(0, 1, 1), (0, 2, 1)] 2 := ⟨by decide +kernel, by decide +kernel, ⟨by decide, by decide⟩, by decide⟩
  show s_accepts [clm true [3, 3, 0] [(0, 1, 1), (0, 2, 1)] (.int ((2 : Nat) : Int)), dL [0]] _ _
  refine w_accepts true f (dL [0]) (pv_dL [0] (by decide)) (fun _ => ?_) fun h => absurd ?_ h
  · have a : All [0, 0] [] 0 := ⟨⟨by decide, by decide, by decide⟩, ⟨by decide, fun e he => (nomatch he), List.Pairwise.nil⟩, by decide⟩
    refine ⟨sizeOk_of (by show 2 ≤ _; omega), sizeOk_of (by show 0 ≤ _; omega), rfl, ?_⟩
    exact w_team_right a hq
  · exact ⟨[0], rfl, ⟨by simp, List.pairwise_singleton .., fun k hk => by rw [List.mem_singleton.mp hk]; decide⟩, by decide +kernel⟩
theorem max2 (i j : Int) (y : Xc → Prop) : dMax [.int i, .int j] q y = q (.int (if j > i then j else i)) := rfl
theorem min2 (i j : Int) (y : Xc → Prop) : dMin [.int i, .int j] q y = q (.int (if j < i then j else i)) := rfl
theorem w_law (ns : List Int) (hn : ns.length ≤ 63) (hq : q (.bool true)) : s_law [.list (ns.map .int)] q y := by
  rw [r_law]
  have loop : ∀ (K : SK) (cs : List Nat) (o : Option PyData), (∀ c ∈ cs, c < 3) → (∀ o, K.nx [some (.list (ns.map .int)), o]) →
      forGo (gmOf MD F_54 d_law) (forTg (headS d_law.body)) (exSs (exS 39 (gmOf MD F_54 d_law)) (forBd (headS d_law.body))) (cs.map fun k => .int ((k : Nat) : Int)) [some (.list (ns.map .int)), o] K := by
    intro K cs
    induction cs with
    | nil => intro o _ hk; exact hk o
    | cons c cs ih =>
      intro o hc hk
      refine forGo_nm "turn" 1 (by kernel_rfl) (by kernel_rfl) (by kernel_rfl) ?_
      refine (rb_law_1 (.list (ns.map .int)) (.int (c : Int)) _).mpr ?_
      refine ⟨rfl, w_pool ns c (hc c (List.mem_cons_self ..)) hn ⟨rfl, w_law_right ?_⟩⟩
      simp only [asB_b, asI_i, ite_t, ite_f, ret_ap, need_ap, opt_s, isInt_i, isInt_b, isInt_n, isInt_s, isInt_l, isInt_t, isInt_d, isBool_i, isBool_b, isBool_n, isBool_s, isBool_l, isBool_t, isBool_d, isTup_i, isTup_b, isTup_n, isTup_s, isTup_l, isTup_t, isTup_d, isStr_i, isStr_s, isStr_t, len_t, len_l, eq_ii, ne_ii, lt_ii, le_ii, gt_ii, ge_ii, add_ii, sub_ii, neg_i, add_tt, add_ll, items_t, items_l, walk_t, walk_l, sl_t, sl_l, ix_t, ix_l, mul_ii, fdiv_ii, mod_ii, int_i, abs_i, list_l, list_t, tuple_l, tuple_t, rg1_i, rg2_i, zip_l, zip_t, is_n, isnot_n, is_b, isnot_b, sizeOk_0, sizeOk_1, sizeOk_2, sizeOk_3, sizeOk_4, sizeOk_5, sizeOk_6, tupOf_1, tupOf_2, tupOf_3, tupOf_4, atI_0, atI_1, atI_2, atI_3, List.getD_cons_zero, List.getD_cons_succ, Bool.not_true, Bool.not_false, true_and, eq_self, ite_and, ite_or, ite_some, ite_two]
      exact ih _ (fun d hd => hc d (List.mem_cons_of_mem _ hd)) hk
  simp only [asB_b, asI_i, ite_t, ite_f, ret_ap, need_ap, opt_s, isInt_i, isInt_b, isInt_n, isInt_s, isInt_l, isInt_t, isInt_d, isBool_i, isBool_b, isBool_n, isBool_s, isBool_l, isBool_t, isBool_d, isTup_i, isTup_b, isTup_n, isTup_s, isTup_l, isTup_t, isTup_d, isStr_i, isStr_s, isStr_t, len_t, len_l, eq_ii, ne_ii, lt_ii, le_ii, gt_ii, ge_ii, add_ii, sub_ii, neg_i, add_tt, add_ll, items_t, items_l, walk_t, walk_l, sl_t, sl_l, ix_t, ix_l, mul_ii, fdiv_ii, mod_ii, int_i, abs_i, list_l, list_t, tuple_l, tuple_t, rg1_i, rg2_i, zip_l, zip_t, is_n, isnot_n, is_b, isnot_b, sizeOk_0, sizeOk_1, sizeOk_2, sizeOk_3, sizeOk_4, sizeOk_5, sizeOk_6, tupOf_1, tupOf_2, tupOf_3, tupOf_4, atI_0, atI_1, atI_2, atI_3, List.getD_cons_zero, List.getD_cons_succ, Bool.not_true, Bool.not_false, true_and, eq_self, ite_and, ite_or, ite_some, ite_two, List.length_map, max2, min2]
  obtain ⟨k, hk, hk3⟩ : ∃ k : Nat, (if (if (3 : Int) < (ns.length : Nat) then (3 : Int) else (ns.length : Nat)) > 2 then (if (3 : Int) < (ns.length : Nat) then (3 : Int) else (ns.length : Nat)) else 2) = (k : Int) ∧ k ≤ 3 := by
    refine ⟨(if (if (3 : Int) < (ns.length : Nat) then (3 : Int) else (ns.length : Nat)) > 2 then (if (3 : Int) < (ns.length : Nat) then (3 : Int) else (ns.length : Nat)) else 2).toNat, ?_, ?_⟩ <;> split <;> split <;> omega
  rw [hk]
  refine ⟨⟨by omega, by omega⟩, ?_⟩
  rw [rangeD_nat]
  refine loop _ (List.range k) none (fun c hc => by have := List.mem_range.mp hc; omega) fun o => ?_
  dsimp only
  rw [rr_law_1]
  exact hq
end Tk77

set_option maxHeartbeats 4000000
namespace Tk77
open PySem PySem.W PySem.Calls PySem.Spec PyProof.Rows L2 PD HandSHeadRun
theorem sc_is_whole : FnScope d_is_whole.N d_is_whole.ps d_is_whole.scope := ⟨by kernel_rfl, by kernel_rfl, by kernel_rfl, by decide +kernel, by kernel_rfl, by decide +kernel, by decide +kernel⟩
theorem sc_is_between : FnScope d_is_between.N d_is_between.ps d_is_between.scope := ⟨by kernel_rfl, by kernel_rfl, by kernel_rfl, by decide +kernel, by kernel_rfl, by decide +kernel, by decide +kernel⟩
theorem sc_is_tuple_of : FnScope d_is_tuple_of.N d_is_tuple_of.ps d_is_tuple_of.scope := ⟨by kernel_rfl, by kernel_rfl, by kernel_rfl, by decide +kernel, by kernel_rfl, by decide +kernel, by decide +kernel⟩
theorem sc_is_wins : FnScope d_is_wins.N d_is_wins.ps d_is_wins.scope := ⟨by kernel_rfl, by kernel_rfl, by kernel_rfl, by decide +kernel, by kernel_rfl, by decide +kernel, by decide +kernel⟩
theorem sc_first_wrong : FnScope d_first_wrong.N d_first_wrong.ps d_first_wrong.scope := ⟨by kernel_rfl, by kernel_rfl, by kernel_rfl, by decide +kernel, by kernel_rfl, by decide +kernel, by decide +kernel⟩
theorem sc_are_indexes : FnScope d_are_indexes.N d_are_indexes.ps d_are_indexes.scope := ⟨by kernel_rfl, by kernel_rfl, by kernel_rfl, by decide +kernel, by kernel_rfl, by decide +kernel, by decide +kernel⟩
theorem sc_are_rising : FnScope d_are_rising.N d_are_rising.ps d_are_rising.scope := ⟨by kernel_rfl, by kernel_rfl, by kernel_rfl, by decide +kernel, by kernel_rfl, by decide +kernel, by decide +kernel⟩
theorem sc_wrong_in_wins : FnScope d_wrong_in_wins.N d_wrong_in_wins.ps d_wrong_in_wins.scope := ⟨by kernel_rfl, by kernel_rfl, by kernel_rfl, by decide +kernel, by kernel_rfl, by decide +kernel, by decide +kernel⟩
theorem sc_is_triple : FnScope d_is_triple.N d_is_triple.ps d_is_triple.scope := ⟨by kernel_rfl, by kernel_rfl, by kernel_rfl, by decide +kernel, by kernel_rfl, by decide +kernel, by decide +kernel⟩
theorem sc_wrong_in_triples : FnScope d_wrong_in_triples.N d_wrong_in_triples.ps d_wrong_in_triples.scope := ⟨by kernel_rfl, by kernel_rfl, by kernel_rfl, by decide +kernel, by kernel_rfl, by decide +kernel, by decide +kernel⟩
theorem sc_wrong_in_left : FnScope d_wrong_in_left.N d_wrong_in_left.ps d_wrong_in_left.scope := ⟨by kernel_rfl, by kernel_rfl, by kernel_rfl, by decide +kernel, by kernel_rfl, by decide +kernel, by decide +kernel⟩
theorem sc_games_left_by : FnScope d_games_left_by.N d_games_left_by.ps d_games_left_by.scope := ⟨by kernel_rfl, by kernel_rfl, by kernel_rfl, by decide +kernel, by kernel_rfl, by decide +kernel, by decide +kernel⟩
theorem sc_most_wins_by : FnScope d_most_wins_by.N d_most_wins_by.ps d_most_wins_by.scope := ⟨by kernel_rfl, by kernel_rfl, by kernel_rfl, by decide +kernel, by kernel_rfl, by decide +kernel, by decide +kernel⟩
theorem sc_games_among : FnScope d_games_among.N d_games_among.ps d_games_among.scope := ⟨by kernel_rfl, by kernel_rfl, by kernel_rfl, by decide +kernel, by kernel_rfl, by decide +kernel, by decide +kernel⟩
theorem sc_is_over : FnScope d_is_over.N d_is_over.ps d_is_over.scope := ⟨by kernel_rfl, by kernel_rfl, by kernel_rfl, by decide +kernel, by kernel_rfl, by decide +kernel, by decide +kernel⟩
theorem sc_lots_of_others : FnScope d_lots_of_others.N d_lots_of_others.ps d_lots_of_others.scope := ⟨by kernel_rfl, by kernel_rfl, by kernel_rfl, by decide +kernel, by kernel_rfl, by decide +kernel, by decide +kernel⟩
theorem sc_lot_over_most : FnScope d_lot_over_most.N d_lot_over_most.ps d_lot_over_most.scope := ⟨by kernel_rfl, by kernel_rfl, by kernel_rfl, by decide +kernel, by kernel_rfl, by decide +kernel, by decide +kernel⟩
theorem sc_lot_over_by : FnScope d_lot_over_by.N d_lot_over_by.ps d_lot_over_by.scope := ⟨by kernel_rfl, by kernel_rfl, by kernel_rfl, by decide +kernel, by kernel_rfl, by decide +kernel, by decide +kernel⟩
theorem sc_can_be_first_by : FnScope d_can_be_first_by.N d_can_be_first_by.ps d_can_be_first_by.scope := ⟨by kernel_rfl, by kernel_rfl, by kernel_rfl, by decide +kernel, by kernel_rfl, by decide +kernel, by decide +kernel⟩
theorem sc_is_lot_over : FnScope d_is_lot_over.N d_is_lot_over.ps d_is_lot_over.scope := ⟨by kernel_rfl, by kernel_rfl, by kernel_rfl, by decide +kernel, by kernel_rfl, by decide +kernel, by decide +kernel⟩
theorem sc_wins_with : FnScope d_wins_with.N d_wins_with.ps d_wins_with.scope := ⟨by kernel_rfl, by kernel_rfl, by kernel_rfl, by decide +kernel, by kernel_rfl, by decide +kernel, by decide +kernel⟩
theorem sc_results_of : FnScope d_results_of.N d_results_of.ps d_results_of.scope := ⟨by kernel_rfl, by kernel_rfl, by kernel_rfl, by decide +kernel, by kernel_rfl, by decide +kernel, by decide +kernel⟩
theorem sc_results_by : FnScope d_results_by.N d_results_by.ps d_results_by.scope := ⟨by kernel_rfl, by kernel_rfl, by kernel_rfl, by decide +kernel, by kernel_rfl, by decide +kernel, by decide +kernel⟩
theorem sc_is_result : FnScope d_is_result.N d_is_result.ps d_is_result.scope := ⟨by kernel_rfl, by kernel_rfl, by kernel_rfl, by decide +kernel, by kernel_rfl, by decide +kernel, by decide +kernel⟩
theorem sc_are_results : FnScope d_are_results.N d_are_results.ps d_are_results.scope := ⟨by kernel_rfl, by kernel_rfl, by kernel_rfl, by decide +kernel, by kernel_rfl, by decide +kernel, by decide +kernel⟩
theorem sc_is_season_claim : FnScope d_is_season_claim.N d_is_season_claim.ps d_is_season_claim.scope := ⟨by kernel_rfl, by kernel_rfl, by kernel_rfl, by decide +kernel, by kernel_rfl, by decide +kernel, by decide +kernel⟩
theorem sc_is_other_claim : FnScope d_is_other_claim.N d_is_other_claim.ps d_is_other_claim.scope := ⟨by kernel_rfl, by kernel_rfl, by kernel_rfl, by decide +kernel, by kernel_rfl, by decide +kernel, by decide +kernel⟩
theorem sc_other_judge : FnScope d_other_judge.N d_other_judge.ps d_other_judge.scope := ⟨by kernel_rfl, by kernel_rfl, by kernel_rfl, by decide +kernel, by kernel_rfl, by decide +kernel, by decide +kernel⟩
theorem sc_settled_first : FnScope d_settled_first.N d_settled_first.ps d_settled_first.scope := ⟨by kernel_rfl, by kernel_rfl, by kernel_rfl, by decide +kernel, by kernel_rfl, by decide +kernel, by decide +kernel⟩
theorem sc_other_settled : FnScope d_other_settled.N d_other_settled.ps d_other_settled.scope := ⟨by kernel_rfl, by kernel_rfl, by kernel_rfl, by decide +kernel, by kernel_rfl, by decide +kernel, by decide +kernel⟩
theorem sc_has_claim_word : FnScope d_has_claim_word.N d_has_claim_word.ps d_has_claim_word.scope := ⟨by kernel_rfl, by kernel_rfl, by kernel_rfl, by decide +kernel, by kernel_rfl, by decide +kernel, by decide +kernel⟩
theorem sc_is_claim_by : FnScope d_is_claim_by.N d_is_claim_by.ps d_is_claim_by.scope := ⟨by kernel_rfl, by kernel_rfl, by kernel_rfl, by decide +kernel, by kernel_rfl, by decide +kernel, by decide +kernel⟩
theorem sc_opposite_by : FnScope d_opposite_by.N d_opposite_by.ps d_opposite_by.scope := ⟨by kernel_rfl, by kernel_rfl, by kernel_rfl, by decide +kernel, by kernel_rfl, by decide +kernel, by decide +kernel⟩
theorem sc_is_shown : FnScope d_is_shown.N d_is_shown.ps d_is_shown.scope := ⟨by kernel_rfl, by kernel_rfl, by kernel_rfl, by decide +kernel, by kernel_rfl, by decide +kernel, by decide +kernel⟩
theorem sc_settled_by : FnScope d_settled_by.N d_settled_by.ps d_settled_by.scope := ⟨by kernel_rfl, by kernel_rfl, by kernel_rfl, by decide +kernel, by kernel_rfl, by decide +kernel, by decide +kernel⟩
theorem sc_is_claim : FnScope d_is_claim.N d_is_claim.ps d_is_claim.scope := ⟨by kernel_rfl, by kernel_rfl, by kernel_rfl, by decide +kernel, by kernel_rfl, by decide +kernel, by decide +kernel⟩
theorem sc_check_claim : FnScope d_check_claim.N d_check_claim.ps d_check_claim.scope := ⟨by kernel_rfl, by kernel_rfl, by kernel_rfl, by decide +kernel, by kernel_rfl, by decide +kernel, by decide +kernel⟩
theorem sc_opposite : FnScope d_opposite.N d_opposite.ps d_opposite.scope := ⟨by kernel_rfl, by kernel_rfl, by kernel_rfl, by decide +kernel, by kernel_rfl, by decide +kernel, by decide +kernel⟩
theorem sc_settled : FnScope d_settled.N d_settled.ps d_settled.scope := ⟨by kernel_rfl, by kernel_rfl, by kernel_rfl, by decide +kernel, by kernel_rfl, by decide +kernel, by decide +kernel⟩
theorem sc_accepts : FnScope d_accepts.N d_accepts.ps d_accepts.scope := ⟨by kernel_rfl, by kernel_rfl, by kernel_rfl, by decide +kernel, by kernel_rfl, by decide +kernel, by decide +kernel⟩
theorem sc__law_pool : FnScope d__law_pool.N d__law_pool.ps d__law_pool.scope := ⟨by kernel_rfl, by kernel_rfl, by kernel_rfl, by decide +kernel, by kernel_rfl, by decide +kernel, by decide +kernel⟩
theorem sc__law_draw : FnScope d__law_draw.N d__law_draw.ps d__law_draw.scope := ⟨by kernel_rfl, by kernel_rfl, by kernel_rfl, by decide +kernel, by kernel_rfl, by decide +kernel, by decide +kernel⟩
theorem sc__law_pick : FnScope d__law_pick.N d__law_pick.ps d__law_pick.scope := ⟨by kernel_rfl, by kernel_rfl, by kernel_rfl, by decide +kernel, by kernel_rfl, by decide +kernel, by decide +kernel⟩
theorem sc__law_is_num : FnScope d__law_is_num.N d__law_is_num.ps d__law_is_num.scope := ⟨by kernel_rfl, by kernel_rfl, by kernel_rfl, by decide +kernel, by kernel_rfl, by decide +kernel, by decide +kernel⟩
theorem sc__law_is_in : FnScope d__law_is_in.N d__law_is_in.ps d__law_is_in.scope := ⟨by kernel_rfl, by kernel_rfl, by kernel_rfl, by decide +kernel, by kernel_rfl, by decide +kernel, by decide +kernel⟩
theorem sc__law_season : FnScope d__law_season.N d__law_season.ps d__law_season.scope := ⟨by kernel_rfl, by kernel_rfl, by kernel_rfl, by decide +kernel, by kernel_rfl, by decide +kernel, by decide +kernel⟩
theorem sc__law_games : FnScope d__law_games.N d__law_games.ps d__law_games.scope := ⟨by kernel_rfl, by kernel_rfl, by kernel_rfl, by decide +kernel, by kernel_rfl, by decide +kernel, by decide +kernel⟩
theorem sc__law_groups : FnScope d__law_groups.N d__law_groups.ps d__law_groups.scope := ⟨by kernel_rfl, by kernel_rfl, by kernel_rfl, by decide +kernel, by kernel_rfl, by decide +kernel, by decide +kernel⟩
theorem sc__law_over : FnScope d__law_over.N d__law_over.ps d__law_over.scope := ⟨by kernel_rfl, by kernel_rfl, by kernel_rfl, by decide +kernel, by kernel_rfl, by decide +kernel, by decide +kernel⟩
theorem sc__law_are_results : FnScope d__law_are_results.N d__law_are_results.ps d__law_are_results.scope := ⟨by kernel_rfl, by kernel_rfl, by kernel_rfl, by decide +kernel, by kernel_rfl, by decide +kernel, by decide +kernel⟩
theorem sc__law_is_over : FnScope d__law_is_over.N d__law_is_over.ps d__law_is_over.scope := ⟨by kernel_rfl, by kernel_rfl, by kernel_rfl, by decide +kernel, by kernel_rfl, by decide +kernel, by decide +kernel⟩
theorem sc__law_near : FnScope d__law_near.N d__law_near.ps d__law_near.scope := ⟨by kernel_rfl, by kernel_rfl, by kernel_rfl, by decide +kernel, by kernel_rfl, by decide +kernel, by decide +kernel⟩
theorem sc__law_team_right : FnScope d__law_team_right.N d__law_team_right.ps d__law_team_right.scope := ⟨by kernel_rfl, by kernel_rfl, by kernel_rfl, by decide +kernel, by kernel_rfl, by decide +kernel, by decide +kernel⟩
theorem sc__law_right : FnScope d__law_right.N d__law_right.ps d__law_right.scope := ⟨by kernel_rfl, by kernel_rfl, by kernel_rfl, by decide +kernel, by kernel_rfl, by decide +kernel, by decide +kernel⟩
theorem sc_law : FnScope d_law.N d_law.ps d_law.scope := ⟨by kernel_rfl, by kernel_rfl, by kernel_rfl, by decide +kernel, by kernel_rfl, by decide +kernel, by decide +kernel⟩
section
variable {P : Program} {w : World} {K : PySem.W.Frag} {mg : Str → Option Value} {base h : Heap} (X : K.In h) (hg : h.Ns mainGlobals mg) (c : SaysP MD hfn w K)
include X hg c
theorem dk_is_whole : DfOk ⟨K, mg, fun _ _ _ => True⟩ MD d_is_whole ∧ ∃ fd, mg d_is_whole.nm = some (.ref (He.ga K d_is_whole.nm)) ∧ FunD K d_is_whole.nm d_is_whole.nm (defArgs (top 1)) d_is_whole.body d_is_whole.scope [] [] (He.ga K d_is_whole.nm) fd :=
  df_of _ X hg c 0 rfl rfl sc_is_whole (fun _ _ _ _ _ _ us hl => match us, hl with | [_], _ => rfl) (fun j ks ord ho => (no_kw (x := "is_whole") (by decide +kernel) ho).elim)
theorem dk_is_between : DfOk ⟨K, mg, fun _ _ _ => True⟩ MD d_is_between ∧ ∃ fd, mg d_is_between.nm = some (.ref (He.ga K d_is_between.nm)) ∧ FunD K d_is_between.nm d_is_between.nm (defArgs (top 2)) d_is_between.body d_is_between.scope [] [] (He.ga K d_is_between.nm) fd :=
  df_of _ X hg c 1 rfl rfl sc_is_between (fun _ _ _ _ _ _ us hl => match us, hl with | [_, _, _], _ => rfl) (fun j ks ord ho => (no_kw (x := "is_between") (by decide +kernel) ho).elim)
theorem dk_is_tuple_of : DfOk ⟨K, mg, fun _ _ _ => True⟩ MD d_is_tuple_of ∧ ∃ fd, mg d_is_tuple_of.nm = some (.ref (He.ga K d_is_tuple_of.nm)) ∧ FunD K d_is_tuple_of.nm d_is_tuple_of.nm (defArgs (top 3)) d_is_tuple_of.body d_is_tuple_of.scope [] [] (He.ga K d_is_tuple_of.nm) fd :=
  df_of _ X hg c 2 rfl rfl sc_is_tuple_of (fun _ _ _ _ _ _ us hl => match us, hl with | [_, _], _ => rfl) (fun j ks ord ho => (no_kw (x := "is_tuple_of") (by decide +kernel) ho).elim)
theorem dk_is_wins : DfOk ⟨K, mg, fun _ _ _ => True⟩ MD d_is_wins ∧ ∃ fd, mg d_is_wins.nm = some (.ref (He.ga K d_is_wins.nm)) ∧ FunD K d_is_wins.nm d_is_wins.nm (defArgs (top 97)) d_is_wins.body d_is_wins.scope [] [] (He.ga K d_is_wins.nm) fd :=
  df_of _ X hg c 3 rfl rfl sc_is_wins (fun _ _ _ _ _ _ us hl => match us, hl with | [_], _ => rfl) (fun j ks ord ho => (no_kw (x := "is_wins") (by decide +kernel) ho).elim)
theorem dk_first_wrong : DfOk ⟨K, mg, fun _ _ _ => True⟩ MD d_first_wrong ∧ ∃ fd, mg d_first_wrong.nm = some (.ref (He.ga K d_first_wrong.nm)) ∧ FunD K d_first_wrong.nm d_first_wrong.nm (defArgs (top 4)) d_first_wrong.body d_first_wrong.scope [] [] (He.ga K d_first_wrong.nm) fd :=
  df_of _ X hg c 4 rfl rfl sc_first_wrong (fun _ _ _ _ _ _ us hl => match us, hl with | [_, _, _, _], _ => rfl) (fun j ks ord ho => (no_kw (x := "first_wrong") (by decide +kernel) ho).elim)
theorem dk_are_indexes : DfOk ⟨K, mg, fun _ _ _ => True⟩ MD d_are_indexes ∧ ∃ fd, mg d_are_indexes.nm = some (.ref (He.ga K d_are_indexes.nm)) ∧ FunD K d_are_indexes.nm d_are_indexes.nm (defArgs (top 5)) d_are_indexes.body d_are_indexes.scope [] [] (He.ga K d_are_indexes.nm) fd :=
  df_of _ X hg c 5 rfl rfl sc_are_indexes (fun _ _ _ _ _ _ us hl => match us, hl with | [_, _], _ => rfl) (fun j ks ord ho => (no_kw (x := "are_indexes") (by decide +kernel) ho).elim)
theorem dk_are_rising : DfOk ⟨K, mg, fun _ _ _ => True⟩ MD d_are_rising ∧ ∃ fd, mg d_are_rising.nm = some (.ref (He.ga K d_are_rising.nm)) ∧ FunD K d_are_rising.nm d_are_rising.nm (defArgs (top 8)) d_are_rising.body d_are_rising.scope [] [] (He.ga K d_are_rising.nm) fd :=
  df_of _ X hg c 6 rfl rfl sc_are_rising (fun _ _ _ _ _ _ us hl => match us, hl with | [_], _ => rfl) (fun j ks ord ho => (no_kw (x := "are_rising") (by decide +kernel) ho).elim)
theorem dk_wrong_in_wins : DfOk ⟨K, mg, fun _ _ _ => True⟩ MD d_wrong_in_wins ∧ ∃ fd, mg d_wrong_in_wins.nm = some (.ref (He.ga K d_wrong_in_wins.nm)) ∧ FunD K d_wrong_in_wins.nm d_wrong_in_wins.nm (defArgs (top 98)) d_wrong_in_wins.body d_wrong_in_wins.scope [] [] (He.ga K d_wrong_in_wins.nm) fd :=
  df_of _ X hg c 7 rfl rfl sc_wrong_in_wins (fun _ _ _ _ _ _ us hl => match us, hl with | [_], _ => rfl) (fun j ks ord ho => (no_kw (x := "wrong_in_wins") (by decide +kernel) ho).elim)
theorem dk_is_triple : DfOk ⟨K, mg, fun _ _ _ => True⟩ MD d_is_triple ∧ ∃ fd, mg d_is_triple.nm = some (.ref (He.ga K d_is_triple.nm)) ∧ FunD K d_is_triple.nm d_is_triple.nm (defArgs (top 99)) d_is_triple.body d_is_triple.scope [] [] (He.ga K d_is_triple.nm) fd :=
  df_of _ X hg c 8 rfl rfl sc_is_triple (fun _ _ _ _ _ _ us hl => match us, hl with | [_, _, _], _ => rfl) (fun j ks ord ho => (no_kw (x := "is_triple") (by decide +kernel) ho).elim)
theorem dk_wrong_in_triples : DfOk ⟨K, mg, fun _ _ _ => True⟩ MD d_wrong_in_triples ∧ ∃ fd, mg d_wrong_in_triples.nm = some (.ref (He.ga K d_wrong_in_triples.nm)) ∧ FunD K d_wrong_in_triples.nm d_wrong_in_triples.nm (defArgs (top 100)) d_wrong_in_triples.body d_wrong_in_triples.scope [] [] (He.ga K d_wrong_in_triples.nm) fd :=
  df_of _ X hg c 9 rfl rfl sc_wrong_in_triples (fun _ _ _ _ _ _ us hl => match us, hl with | [_, _, _], _ => rfl) (fun j ks ord ho => (no_kw (x := "wrong_in_triples") (by decide +kernel) ho).elim)
theorem dk_wrong_in_left : DfOk ⟨K, mg, fun _ _ _ => True⟩ MD d_wrong_in_left ∧ ∃ fd, mg d_wrong_in_left.nm = some (.ref (He.ga K d_wrong_in_left.nm)) ∧ FunD K d_wrong_in_left.nm d_wrong_in_left.nm (defArgs (top 101)) d_wrong_in_left.body d_wrong_in_left.scope [] [] (He.ga K d_wrong_in_left.nm) fd :=
  df_of _ X hg c 10 rfl rfl sc_wrong_in_left (fun _ _ _ _ _ _ us hl => match us, hl with | [_, _], _ => rfl) (fun j ks ord ho => (no_kw (x := "wrong_in_left") (by decide +kernel) ho).elim)
theorem dk_games_left_by : DfOk ⟨K, mg, fun _ _ _ => True⟩ MD d_games_left_by ∧ ∃ fd, mg d_games_left_by.nm = some (.ref (He.ga K d_games_left_by.nm)) ∧ FunD K d_games_left_by.nm d_games_left_by.nm (defArgs (top 102)) d_games_left_by.body d_games_left_by.scope [] [] (He.ga K d_games_left_by.nm) fd :=
  df_of _ X hg c 11 rfl rfl sc_games_left_by (fun _ _ _ _ _ _ us hl => match us, hl with | [_, _], _ => rfl) (fun j ks ord ho => (no_kw (x := "games_left_by") (by decide +kernel) ho).elim)
theorem dk_most_wins_by : DfOk ⟨K, mg, fun _ _ _ => True⟩ MD d_most_wins_by ∧ ∃ fd, mg d_most_wins_by.nm = some (.ref (He.ga K d_most_wins_by.nm)) ∧ FunD K d_most_wins_by.nm d_most_wins_by.nm (defArgs (top 103)) d_most_wins_by.body d_most_wins_by.scope [] [] (He.ga K d_most_wins_by.nm) fd :=
  df_of _ X hg c 12 rfl rfl sc_most_wins_by (fun _ _ _ _ _ _ us hl => match us, hl with | [_, _, _], _ => rfl) (fun j ks ord ho => (no_kw (x := "most_wins_by") (by decide +kernel) ho).elim)
theorem dk_games_among : DfOk ⟨K, mg, fun _ _ _ => True⟩ MD d_games_among ∧ ∃ fd, mg d_games_among.nm = some (.ref (He.ga K d_games_among.nm)) ∧ FunD K d_games_among.nm d_games_among.nm (defArgs (top 104)) d_games_among.body d_games_among.scope [] [] (He.ga K d_games_among.nm) fd :=
  df_of _ X hg c 13 rfl rfl sc_games_among (fun _ _ _ _ _ _ us hl => match us, hl with | [_, _], _ => rfl) (fun j ks ord ho => (no_kw (x := "games_among") (by decide +kernel) ho).elim)
theorem dk_is_over : DfOk ⟨K, mg, fun _ _ _ => True⟩ MD d_is_over ∧ ∃ fd, mg d_is_over.nm = some (.ref (He.ga K d_is_over.nm)) ∧ FunD K d_is_over.nm d_is_over.nm (defArgs (top 105)) d_is_over.body d_is_over.scope [] [] (He.ga K d_is_over.nm) fd :=
  df_of _ X hg c 14 rfl rfl sc_is_over (fun _ _ _ _ _ _ us hl => match us, hl with | [_, _, _, _], _ => rfl) (fun j ks ord ho => (no_kw (x := "is_over") (by decide +kernel) ho).elim)
theorem dk_lots_of_others : DfOk ⟨K, mg, fun _ _ _ => True⟩ MD d_lots_of_others ∧ ∃ fd, mg d_lots_of_others.nm = some (.ref (He.ga K d_lots_of_others.nm)) ∧ FunD K d_lots_of_others.nm d_lots_of_others.nm (defArgs (top 106)) d_lots_of_others.body d_lots_of_others.scope [] [] (He.ga K d_lots_of_others.nm) fd :=
  df_of _ X hg c 15 rfl rfl sc_lots_of_others (fun _ _ _ _ _ _ us hl => match us, hl with | [_, _], _ => rfl) (fun j ks ord ho => (no_kw (x := "lots_of_others") (by decide +kernel) ho).elim)
theorem dk_lot_over_most : DfOk ⟨K, mg, fun _ _ _ => True⟩ MD d_lot_over_most ∧ ∃ fd, mg d_lot_over_most.nm = some (.ref (He.ga K d_lot_over_most.nm)) ∧ FunD K d_lot_over_most.nm d_lot_over_most.nm (defArgs (top 107)) d_lot_over_most.body d_lot_over_most.scope [] [] (He.ga K d_lot_over_most.nm) fd :=
  df_of _ X hg c 16 rfl rfl sc_lot_over_most (fun _ _ _ _ _ _ us hl => match us, hl with | [_, _, _, _], _ => rfl) (fun j ks ord ho => (no_kw (x := "lot_over_most") (by decide +kernel) ho).elim)
theorem dk_lot_over_by : DfOk ⟨K, mg, fun _ _ _ => True⟩ MD d_lot_over_by ∧ ∃ fd, mg d_lot_over_by.nm = some (.ref (He.ga K d_lot_over_by.nm)) ∧ FunD K d_lot_over_by.nm d_lot_over_by.nm (defArgs (top 108)) d_lot_over_by.body d_lot_over_by.scope [] [] (He.ga K d_lot_over_by.nm) fd :=
  df_of _ X hg c 17 rfl rfl sc_lot_over_by (fun _ _ _ _ _ _ us hl => match us, hl with | [_, _, _], _ => rfl) (fun j ks ord ho => (no_kw (x := "lot_over_by") (by decide +kernel) ho).elim)
theorem dk_can_be_first_by : DfOk ⟨K, mg, fun _ _ _ => True⟩ MD d_can_be_first_by ∧ ∃ fd, mg d_can_be_first_by.nm = some (.ref (He.ga K d_can_be_first_by.nm)) ∧ FunD K d_can_be_first_by.nm d_can_be_first_by.nm (defArgs (top 109)) d_can_be_first_by.body d_can_be_first_by.scope [] [] (He.ga K d_can_be_first_by.nm) fd :=
  df_of _ X hg c 18 rfl rfl sc_can_be_first_by (fun _ _ _ _ _ _ us hl => match us, hl with | [_, _, _], _ => rfl) (fun j ks ord ho => (no_kw (x := "can_be_first_by") (by decide +kernel) ho).elim)
theorem dk_is_lot_over : DfOk ⟨K, mg, fun _ _ _ => True⟩ MD d_is_lot_over ∧ ∃ fd, mg d_is_lot_over.nm = some (.ref (He.ga K d_is_lot_over.nm)) ∧ FunD K d_is_lot_over.nm d_is_lot_over.nm (defArgs (top 110)) d_is_lot_over.body d_is_lot_over.scope [] [] (He.ga K d_is_lot_over.nm) fd :=
  df_of _ X hg c 19 rfl rfl sc_is_lot_over (fun _ _ _ _ _ _ us hl => match us, hl with | [_, _, _, _], _ => rfl) (fun j ks ord ho => (no_kw (x := "is_lot_over") (by decide +kernel) ho).elim)
theorem dk_wins_with : DfOk ⟨K, mg, fun _ _ _ => True⟩ MD d_wins_with ∧ ∃ fd, mg d_wins_with.nm = some (.ref (He.ga K d_wins_with.nm)) ∧ FunD K d_wins_with.nm d_wins_with.nm (defArgs (top 111)) d_wins_with.body d_wins_with.scope [] [] (He.ga K d_wins_with.nm) fd :=
  df_of _ X hg c 20 rfl rfl sc_wins_with (fun _ _ _ _ _ _ us hl => match us, hl with | [_, _, _], _ => rfl) (fun j ks ord ho => (no_kw (x := "wins_with") (by decide +kernel) ho).elim)
theorem dk_results_of : DfOk ⟨K, mg, fun _ _ _ => True⟩ MD d_results_of ∧ ∃ fd, mg d_results_of.nm = some (.ref (He.ga K d_results_of.nm)) ∧ FunD K d_results_of.nm d_results_of.nm (defArgs (top 112)) d_results_of.body d_results_of.scope [] [] (He.ga K d_results_of.nm) fd :=
  df_of _ X hg c 21 rfl rfl sc_results_of (fun _ _ _ _ _ _ us hl => match us, hl with | [_, _], _ => rfl) (fun j ks ord ho => (no_kw (x := "results_of") (by decide +kernel) ho).elim)
theorem dk_results_by : DfOk ⟨K, mg, fun _ _ _ => True⟩ MD d_results_by ∧ ∃ fd, mg d_results_by.nm = some (.ref (He.ga K d_results_by.nm)) ∧ FunD K d_results_by.nm d_results_by.nm (defArgs (top 113)) d_results_by.body d_results_by.scope [] [] (He.ga K d_results_by.nm) fd :=
  df_of _ X hg c 22 rfl rfl sc_results_by (fun _ _ _ _ _ _ us hl => match us, hl with | [_, _, _], _ => rfl) (fun j ks ord ho => (no_kw (x := "results_by") (by decide +kernel) ho).elim)
theorem dk_is_result : DfOk ⟨K, mg, fun _ _ _ => True⟩ MD d_is_result ∧ ∃ fd, mg d_is_result.nm = some (.ref (He.ga K d_is_result.nm)) ∧ FunD K d_is_result.nm d_is_result.nm (defArgs (top 114)) d_is_result.body d_is_result.scope [] [] (He.ga K d_is_result.nm) fd :=
  df_of _ X hg c 23 rfl rfl sc_is_result (fun _ _ _ _ _ _ us hl => match us, hl with | [_, _], _ => rfl) (fun j ks ord ho => (no_kw (x := "is_result") (by decide +kernel) ho).elim)
theorem dk_are_results : DfOk ⟨K, mg, fun _ _ _ => True⟩ MD d_are_results ∧ ∃ fd, mg d_are_results.nm = some (.ref (He.ga K d_are_results.nm)) ∧ FunD K d_are_results.nm d_are_results.nm (defArgs (top 115)) d_are_results.body d_are_results.scope [] [] (He.ga K d_are_results.nm) fd :=
  df_of _ X hg c 24 rfl rfl sc_are_results (fun _ _ _ _ _ _ us hl => match us, hl with | [_, _, _, _], _ => rfl) (fun j ks ord ho => (no_kw (x := "are_results") (by decide +kernel) ho).elim)
theorem dk_is_season_claim : DfOk ⟨K, mg, fun _ _ _ => True⟩ MD d_is_season_claim ∧ ∃ fd, mg d_is_season_claim.nm = some (.ref (He.ga K d_is_season_claim.nm)) ∧ FunD K d_is_season_claim.nm d_is_season_claim.nm (defArgs (top 143)) d_is_season_claim.body d_is_season_claim.scope [] [] (He.ga K d_is_season_claim.nm) fd :=
  df_of _ X hg c 25 rfl rfl sc_is_season_claim (fun _ _ _ _ _ _ us hl => match us, hl with | [_], _ => rfl) (fun j ks ord ho => (no_kw (x := "is_season_claim") (by decide +kernel) ho).elim)
theorem dk_is_other_claim : DfOk ⟨K, mg, fun _ _ _ => True⟩ MD d_is_other_claim ∧ ∃ fd, mg d_is_other_claim.nm = some (.ref (He.ga K d_is_other_claim.nm)) ∧ FunD K d_is_other_claim.nm d_is_other_claim.nm (defArgs (top 146)) d_is_other_claim.body d_is_other_claim.scope [] [] (He.ga K d_is_other_claim.nm) fd :=
  df_of _ X hg c 26 rfl rfl sc_is_other_claim (fun _ _ _ _ _ _ us hl => match us, hl with | [_], _ => rfl) (fun j ks ord ho => (no_kw (x := "is_other_claim") (by decide +kernel) ho).elim)
theorem dk_other_judge : DfOk ⟨K, mg, fun _ _ _ => True⟩ MD d_other_judge ∧ ∃ fd, mg d_other_judge.nm = some (.ref (He.ga K d_other_judge.nm)) ∧ FunD K d_other_judge.nm d_other_judge.nm (defArgs (top 153)) d_other_judge.body d_other_judge.scope [] [] (He.ga K d_other_judge.nm) fd :=
  df_of _ X hg c 27 rfl rfl sc_other_judge (fun _ _ _ _ _ _ us hl => match us, hl with | [_, _], _ => rfl) (fun j ks ord ho => (no_kw (x := "other_judge") (by decide +kernel) ho).elim)
theorem dk_settled_first : DfOk ⟨K, mg, fun _ _ _ => True⟩ MD d_settled_first ∧ ∃ fd, mg d_settled_first.nm = some (.ref (He.ga K d_settled_first.nm)) ∧ FunD K d_settled_first.nm d_settled_first.nm (defArgs (top 154)) d_settled_first.body d_settled_first.scope [] [] (He.ga K d_settled_first.nm) fd :=
  df_of _ X hg c 28 rfl rfl sc_settled_first (fun _ _ _ _ _ _ us hl => match us, hl with | [_, _, _], _ => rfl) (fun j ks ord ho => (no_kw (x := "settled_first") (by decide +kernel) ho).elim)
theorem dk_other_settled : DfOk ⟨K, mg, fun _ _ _ => True⟩ MD d_other_settled ∧ ∃ fd, mg d_other_settled.nm = some (.ref (He.ga K d_other_settled.nm)) ∧ FunD K d_other_settled.nm d_other_settled.nm (defArgs (top 158)) d_other_settled.body d_other_settled.scope [] [] (He.ga K d_other_settled.nm) fd :=
  df_of _ X hg c 29 rfl rfl sc_other_settled (fun _ _ _ _ _ _ us hl => match us, hl with | [_], _ => rfl) (fun j ks ord ho => (no_kw (x := "other_settled") (by decide +kernel) ho).elim)
theorem dk_has_claim_word : DfOk ⟨K, mg, fun _ _ _ => True⟩ MD d_has_claim_word ∧ ∃ fd, mg d_has_claim_word.nm = some (.ref (He.ga K d_has_claim_word.nm)) ∧ FunD K d_has_claim_word.nm d_has_claim_word.nm (defArgs (top 195)) d_has_claim_word.body d_has_claim_word.scope [] [] (He.ga K d_has_claim_word.nm) fd :=
  df_of _ X hg c 30 rfl rfl sc_has_claim_word (fun _ _ _ _ _ _ us hl => match us, hl with | [_], _ => rfl) (fun j ks ord ho => (no_kw (x := "has_claim_word") (by decide +kernel) ho).elim)
theorem dk_is_claim_by : DfOk ⟨K, mg, fun _ _ _ => True⟩ MD d_is_claim_by ∧ ∃ fd, mg d_is_claim_by.nm = some (.ref (He.ga K d_is_claim_by.nm)) ∧ FunD K d_is_claim_by.nm d_is_claim_by.nm (defArgs (top 196)) d_is_claim_by.body d_is_claim_by.scope [] [] (He.ga K d_is_claim_by.nm) fd :=
  df_of _ X hg c 31 rfl rfl sc_is_claim_by (fun _ _ _ _ _ _ us hl => match us, hl with | [_], _ => rfl) (fun j ks ord ho => (no_kw (x := "is_claim_by") (by decide +kernel) ho).elim)
theorem dk_opposite_by : DfOk ⟨K, mg, fun _ _ _ => True⟩ MD d_opposite_by ∧ ∃ fd, mg d_opposite_by.nm = some (.ref (He.ga K d_opposite_by.nm)) ∧ FunD K d_opposite_by.nm d_opposite_by.nm (defArgs (top 197)) d_opposite_by.body d_opposite_by.scope [] [] (He.ga K d_opposite_by.nm) fd :=
  df_of _ X hg c 32 rfl rfl sc_opposite_by (fun _ _ _ _ _ _ us hl => match us, hl with | [_], _ => rfl) (fun j ks ord ho => (no_kw (x := "opposite_by") (by decide +kernel) ho).elim)
theorem dk_is_shown : DfOk ⟨K, mg, fun _ _ _ => True⟩ MD d_is_shown ∧ ∃ fd, mg d_is_shown.nm = some (.ref (He.ga K d_is_shown.nm)) ∧ FunD K d_is_shown.nm d_is_shown.nm (defArgs (top 198)) d_is_shown.body d_is_shown.scope [] [] (He.ga K d_is_shown.nm) fd :=
  df_of _ X hg c 33 rfl rfl sc_is_shown (fun _ _ _ _ _ _ us hl => match us, hl with | [_, _], _ => rfl) (fun j ks ord ho => (no_kw (x := "is_shown") (by decide +kernel) ho).elim)
theorem dk_settled_by : DfOk ⟨K, mg, fun _ _ _ => True⟩ MD d_settled_by ∧ ∃ fd, mg d_settled_by.nm = some (.ref (He.ga K d_settled_by.nm)) ∧ FunD K d_settled_by.nm d_settled_by.nm (defArgs (top 199)) d_settled_by.body d_settled_by.scope [] [] (He.ga K d_settled_by.nm) fd :=
  df_of _ X hg c 34 rfl rfl sc_settled_by (fun _ _ _ _ _ _ us hl => match us, hl with | [_], _ => rfl) (fun j ks ord ho => (no_kw (x := "settled_by") (by decide +kernel) ho).elim)
theorem dk_is_claim : DfOk ⟨K, mg, fun _ _ _ => True⟩ MD d_is_claim ∧ ∃ fd, mg d_is_claim.nm = some (.ref (He.ga K d_is_claim.nm)) ∧ FunD K d_is_claim.nm d_is_claim.nm (defArgs (top 204)) d_is_claim.body d_is_claim.scope [] [] (He.ga K d_is_claim.nm) fd :=
  df_of _ X hg c 35 rfl rfl sc_is_claim (fun _ _ _ _ _ _ us hl => match us, hl with | [_], _ => rfl) (fun j ks ord ho kV doc pm an cdv ct us ws h1 h2 => by
    obtain ⟨rfl, rfl, rfl⟩ := one_kw (x := "is_claim") (j0 := 0) (ks0 := ["value"]) (o0 := [0]) (by decide +kernel) ho
    match us, ws, h1, h2 with
    | [], [_], _, _ => rfl)
theorem dk_check_claim : DfOk ⟨K, mg, fun _ _ _ => True⟩ MD d_check_claim ∧ ∃ fd, mg d_check_claim.nm = some (.ref (He.ga K d_check_claim.nm)) ∧ FunD K d_check_claim.nm d_check_claim.nm (defArgs (top 205)) d_check_claim.body d_check_claim.scope [] [] (He.ga K d_check_claim.nm) fd :=
  df_of _ X hg c 36 rfl rfl sc_check_claim (fun _ _ _ _ _ _ us hl => match us, hl with | [_], _ => rfl) (fun j ks ord ho => (no_kw (x := "check_claim") (by decide +kernel) ho).elim)
theorem dk_opposite : DfOk ⟨K, mg, fun _ _ _ => True⟩ MD d_opposite ∧ ∃ fd, mg d_opposite.nm = some (.ref (He.ga K d_opposite.nm)) ∧ FunD K d_opposite.nm d_opposite.nm (defArgs (top 206)) d_opposite.body d_opposite.scope [] [] (He.ga K d_opposite.nm) fd :=
  df_of _ X hg c 37 rfl rfl sc_opposite (fun _ _ _ _ _ _ us hl => match us, hl with | [_], _ => rfl) (fun j ks ord ho kV doc pm an cdv ct us ws h1 h2 => by
    obtain ⟨rfl, rfl, rfl⟩ := one_kw (x := "opposite") (j0 := 0) (ks0 := ["claim"]) (o0 := [0]) (by decide +kernel) ho
    match us, ws, h1, h2 with
    | [], [_], _, _ => rfl)
theorem dk_settled : DfOk ⟨K, mg, fun _ _ _ => True⟩ MD d_settled ∧ ∃ fd, mg d_settled.nm = some (.ref (He.ga K d_settled.nm)) ∧ FunD K d_settled.nm d_settled.nm (defArgs (top 208)) d_settled.body d_settled.scope [] [] (He.ga K d_settled.nm) fd :=
  df_of _ X hg c 38 rfl rfl sc_settled (fun _ _ _ _ _ _ us hl => match us, hl with | [_], _ => rfl) (fun j ks ord ho kV doc pm an cdv ct us ws h1 h2 => by
    obtain ⟨rfl, rfl, rfl⟩ := one_kw (x := "settled") (j0 := 0) (ks0 := ["claim"]) (o0 := [0]) (by decide +kernel) ho
    match us, ws, h1, h2 with
    | [], [_], _, _ => rfl)
theorem dk_accepts : DfOk ⟨K, mg, fun _ _ _ => True⟩ MD d_accepts ∧ ∃ fd, mg d_accepts.nm = some (.ref (He.ga K d_accepts.nm)) ∧ FunD K d_accepts.nm d_accepts.nm (defArgs (top 210)) d_accepts.body d_accepts.scope [] [] (He.ga K d_accepts.nm) fd :=
  df_of _ X hg c 39 rfl rfl sc_accepts (fun _ _ _ _ _ _ us hl => match us, hl with | [_, _], _ => rfl) (fun j ks ord ho kV doc pm an cdv ct us ws h1 h2 => by
    obtain ⟨rfl, rfl, rfl⟩ := one_kw (x := "accepts") (j0 := 0) (ks0 := ["paper", "claim"]) (o0 := [1, 0]) (by decide +kernel) ho
    match us, ws, h1, h2 with
    | [], [_, _], _, _ => rfl)
theorem dk__law_pool : DfOk ⟨K, mg, fun _ _ _ => True⟩ MD d__law_pool ∧ ∃ fd, mg d__law_pool.nm = some (.ref (He.ga K d__law_pool.nm)) ∧ FunD K d__law_pool.nm d__law_pool.nm (defArgs (top 212)) d__law_pool.body d__law_pool.scope [] [] (He.ga K d__law_pool.nm) fd :=
  df_of _ X hg c 40 rfl rfl sc__law_pool (fun _ _ _ _ _ _ us hl => match us, hl with | [_, _], _ => rfl) (fun j ks ord ho => (no_kw (x := "_law_pool") (by decide +kernel) ho).elim)
theorem dk__law_draw : DfOk ⟨K, mg, fun _ _ _ => True⟩ MD d__law_draw ∧ ∃ fd, mg d__law_draw.nm = some (.ref (He.ga K d__law_draw.nm)) ∧ FunD K d__law_draw.nm d__law_draw.nm (defArgs (top 213)) d__law_draw.body d__law_draw.scope [] [] (He.ga K d__law_draw.nm) fd :=
  df_of _ X hg c 41 rfl rfl sc__law_draw (fun _ _ _ _ _ _ us hl => match us, hl with | [_, _], _ => rfl) (fun j ks ord ho => (no_kw (x := "_law_draw") (by decide +kernel) ho).elim)
theorem dk__law_pick : DfOk ⟨K, mg, fun _ _ _ => True⟩ MD d__law_pick ∧ ∃ fd, mg d__law_pick.nm = some (.ref (He.ga K d__law_pick.nm)) ∧ FunD K d__law_pick.nm d__law_pick.nm (defArgs (top 214)) d__law_pick.body d__law_pick.scope [] [] (He.ga K d__law_pick.nm) fd :=
  df_of _ X hg c 42 rfl rfl sc__law_pick (fun _ _ _ _ _ _ us hl => match us, hl with | [_, _], _ => rfl) (fun j ks ord ho => (no_kw (x := "_law_pick") (by decide +kernel) ho).elim)
theorem dk__law_is_num : DfOk ⟨K, mg, fun _ _ _ => True⟩ MD d__law_is_num ∧ ∃ fd, mg d__law_is_num.nm = some (.ref (He.ga K d__law_is_num.nm)) ∧ FunD K d__law_is_num.nm d__law_is_num.nm (defArgs (top 215)) d__law_is_num.body d__law_is_num.scope [] [] (He.ga K d__law_is_num.nm) fd :=
  df_of _ X hg c 43 rfl rfl sc__law_is_num (fun _ _ _ _ _ _ us hl => match us, hl with | [_], _ => rfl) (fun j ks ord ho => (no_kw (x := "_law_is_num") (by decide +kernel) ho).elim)
theorem dk__law_is_in : DfOk ⟨K, mg, fun _ _ _ => True⟩ MD d__law_is_in ∧ ∃ fd, mg d__law_is_in.nm = some (.ref (He.ga K d__law_is_in.nm)) ∧ FunD K d__law_is_in.nm d__law_is_in.nm (defArgs (top 216)) d__law_is_in.body d__law_is_in.scope [] [] (He.ga K d__law_is_in.nm) fd :=
  df_of _ X hg c 44 rfl rfl sc__law_is_in (fun _ _ _ _ _ _ us hl => match us, hl with | [_, _, _], _ => rfl) (fun j ks ord ho => (no_kw (x := "_law_is_in") (by decide +kernel) ho).elim)
theorem dk__law_season : DfOk ⟨K, mg, fun _ _ _ => True⟩ MD d__law_season ∧ ∃ fd, mg d__law_season.nm = some (.ref (He.ga K d__law_season.nm)) ∧ FunD K d__law_season.nm d__law_season.nm (defArgs (top 217)) d__law_season.body d__law_season.scope [] [] (He.ga K d__law_season.nm) fd :=
  df_of _ X hg c 45 rfl rfl sc__law_season (fun _ _ _ _ _ _ us hl => match us, hl with | [_, _, _], _ => rfl) (fun j ks ord ho => (no_kw (x := "_law_season") (by decide +kernel) ho).elim)
theorem dk__law_games : DfOk ⟨K, mg, fun _ _ _ => True⟩ MD d__law_games ∧ ∃ fd, mg d__law_games.nm = some (.ref (He.ga K d__law_games.nm)) ∧ FunD K d__law_games.nm d__law_games.nm (defArgs (top 218)) d__law_games.body d__law_games.scope [] [] (He.ga K d__law_games.nm) fd :=
  df_of _ X hg c 46 rfl rfl sc__law_games (fun _ _ _ _ _ _ us hl => match us, hl with | [_, _], _ => rfl) (fun j ks ord ho => (no_kw (x := "_law_games") (by decide +kernel) ho).elim)
theorem dk__law_groups : DfOk ⟨K, mg, fun _ _ _ => True⟩ MD d__law_groups ∧ ∃ fd, mg d__law_groups.nm = some (.ref (He.ga K d__law_groups.nm)) ∧ FunD K d__law_groups.nm d__law_groups.nm (defArgs (top 219)) d__law_groups.body d__law_groups.scope [] [] (He.ga K d__law_groups.nm) fd :=
  df_of _ X hg c 47 rfl rfl sc__law_groups (fun _ _ _ _ _ _ us hl => match us, hl with | [_], _ => rfl) (fun j ks ord ho => (no_kw (x := "_law_groups") (by decide +kernel) ho).elim)
theorem dk__law_over : DfOk ⟨K, mg, fun _ _ _ => True⟩ MD d__law_over ∧ ∃ fd, mg d__law_over.nm = some (.ref (He.ga K d__law_over.nm)) ∧ FunD K d__law_over.nm d__law_over.nm (defArgs (top 220)) d__law_over.body d__law_over.scope [] [] (He.ga K d__law_over.nm) fd :=
  df_of _ X hg c 48 rfl rfl sc__law_over (fun _ _ _ _ _ _ us hl => match us, hl with | [_, _, _], _ => rfl) (fun j ks ord ho => (no_kw (x := "_law_over") (by decide +kernel) ho).elim)
theorem dk__law_are_results : DfOk ⟨K, mg, fun _ _ _ => True⟩ MD d__law_are_results ∧ ∃ fd, mg d__law_are_results.nm = some (.ref (He.ga K d__law_are_results.nm)) ∧ FunD K d__law_are_results.nm d__law_are_results.nm (defArgs (top 221)) d__law_are_results.body d__law_are_results.scope [] [] (He.ga K d__law_are_results.nm) fd :=
  df_of _ X hg c 49 rfl rfl sc__law_are_results (fun _ _ _ _ _ _ us hl => match us, hl with | [_, _, _, _], _ => rfl) (fun j ks ord ho => (no_kw (x := "_law_are_results") (by decide +kernel) ho).elim)
theorem dk__law_is_over : DfOk ⟨K, mg, fun _ _ _ => True⟩ MD d__law_is_over ∧ ∃ fd, mg d__law_is_over.nm = some (.ref (He.ga K d__law_is_over.nm)) ∧ FunD K d__law_is_over.nm d__law_is_over.nm (defArgs (top 222)) d__law_is_over.body d__law_is_over.scope [] [] (He.ga K d__law_is_over.nm) fd :=
  df_of _ X hg c 50 rfl rfl sc__law_is_over (fun _ _ _ _ _ _ us hl => match us, hl with | [_, _, _, _], _ => rfl) (fun j ks ord ho => (no_kw (x := "_law_is_over") (by decide +kernel) ho).elim)
theorem dk__law_near : DfOk ⟨K, mg, fun _ _ _ => True⟩ MD d__law_near ∧ ∃ fd, mg d__law_near.nm = some (.ref (He.ga K d__law_near.nm)) ∧ FunD K d__law_near.nm d__law_near.nm (defArgs (top 223)) d__law_near.body d__law_near.scope [] [] (He.ga K d__law_near.nm) fd :=
  df_of _ X hg c 51 rfl rfl sc__law_near (fun _ _ _ _ _ _ us hl => match us, hl with | [_, _, _, _], _ => rfl) (fun j ks ord ho => (no_kw (x := "_law_near") (by decide +kernel) ho).elim)
theorem dk__law_team_right : DfOk ⟨K, mg, fun _ _ _ => True⟩ MD d__law_team_right ∧ ∃ fd, mg d__law_team_right.nm = some (.ref (He.ga K d__law_team_right.nm)) ∧ FunD K d__law_team_right.nm d__law_team_right.nm (defArgs (top 224)) d__law_team_right.body d__law_team_right.scope [] [] (He.ga K d__law_team_right.nm) fd :=
  df_of _ X hg c 52 rfl rfl sc__law_team_right (fun _ _ _ _ _ _ us hl => match us, hl with | [_, _, _, _], _ => rfl) (fun j ks ord ho => (no_kw (x := "_law_team_right") (by decide +kernel) ho).elim)
theorem dk__law_right : DfOk ⟨K, mg, fun _ _ _ => True⟩ MD d__law_right ∧ ∃ fd, mg d__law_right.nm = some (.ref (He.ga K d__law_right.nm)) ∧ FunD K d__law_right.nm d__law_right.nm (defArgs (top 225)) d__law_right.body d__law_right.scope [] [] (He.ga K d__law_right.nm) fd :=
  df_of _ X hg c 53 rfl rfl sc__law_right (fun _ _ _ _ _ _ us hl => match us, hl with | [_], _ => rfl) (fun j ks ord ho => (no_kw (x := "_law_right") (by decide +kernel) ho).elim)
theorem dk_law : DfOk ⟨K, mg, fun _ _ _ => True⟩ MD d_law ∧ ∃ fd, mg d_law.nm = some (.ref (He.ga K d_law.nm)) ∧ FunD K d_law.nm d_law.nm (defArgs (top 226)) d_law.body d_law.scope [] [] (He.ga K d_law.nm) fd :=
  df_of _ X hg c 54 rfl rfl sc_law (fun _ _ _ _ _ _ us hl => match us, hl with | [_], _ => rfl) (fun j ks ord ho => (no_kw (x := "law") (by decide +kernel) ho).elim)
theorem kn_0 : Kn ⟨K, mg, fun _ _ _ => True⟩ P w base MD F_0 0 := kn_zero _ X hg c
theorem kn_1 : Kn ⟨K, mg, fun _ _ _ => True⟩ P w base MD F_1 1 := by
  unfold F_1
  rw [sq_is_whole]
  exact kn_def (kn_0 X hg c) (dk_is_whole X hg c).1
theorem kn_2 : Kn ⟨K, mg, fun _ _ _ => True⟩ P w base MD F_2 2 := by
  unfold F_2
  rw [sq_is_between]
  exact kn_def (kn_1 X hg c) (dk_is_between X hg c).1
theorem kn_3 : Kn ⟨K, mg, fun _ _ _ => True⟩ P w base MD F_3 3 := by
  unfold F_3
  rw [sq_is_tuple_of]
  exact kn_def (kn_2 X hg c) (dk_is_tuple_of X hg c).1
theorem kn_4 : Kn ⟨K, mg, fun _ _ _ => True⟩ P w base MD F_4 4 := by
  unfold F_4
  rw [sq_is_wins]
  exact kn_def (kn_3 X hg c) (dk_is_wins X hg c).1
theorem kn_5 : Kn ⟨K, mg, fun _ _ _ => True⟩ P w base MD F_5 5 := by
  unfold F_5
  rw [sq_first_wrong]
  exact kn_def (kn_4 X hg c) (dk_first_wrong X hg c).1
theorem kn_6 : Kn ⟨K, mg, fun _ _ _ => True⟩ P w base MD F_6 6 := by
  unfold F_6
  rw [sq_are_indexes]
  exact kn_def (kn_5 X hg c) (dk_are_indexes X hg c).1
theorem kn_7 : Kn ⟨K, mg, fun _ _ _ => True⟩ P w base MD F_7 7 := by
  unfold F_7
  rw [sq_are_rising]
  exact kn_def (kn_6 X hg c) (dk_are_rising X hg c).1
theorem kn_8 : Kn ⟨K, mg, fun _ _ _ => True⟩ P w base MD F_8 8 := by
  unfold F_8
  rw [sq_wrong_in_wins]
  exact kn_def (kn_7 X hg c) (dk_wrong_in_wins X hg c).1
theorem kn_9 : Kn ⟨K, mg, fun _ _ _ => True⟩ P w base MD F_9 9 := by
  unfold F_9
  rw [sq_is_triple]
  exact kn_def (kn_8 X hg c) (dk_is_triple X hg c).1
theorem kn_10 : Kn ⟨K, mg, fun _ _ _ => True⟩ P w base MD F_10 10 := by
  unfold F_10
  rw [sq_wrong_in_triples]
  exact kn_def (kn_9 X hg c) (dk_wrong_in_triples X hg c).1
theorem kn_11 : Kn ⟨K, mg, fun _ _ _ => True⟩ P w base MD F_11 11 := by
  unfold F_11
  rw [sq_wrong_in_left]
  exact kn_def (kn_10 X hg c) (dk_wrong_in_left X hg c).1
theorem kn_12 : Kn ⟨K, mg, fun _ _ _ => True⟩ P w base MD F_12 12 := by
  unfold F_12
  rw [sq_games_left_by]
  exact kn_def (kn_11 X hg c) (dk_games_left_by X hg c).1
theorem kn_13 : Kn ⟨K, mg, fun _ _ _ => True⟩ P w base MD F_13 13 := by
  unfold F_13
  rw [sq_most_wins_by]
  exact kn_def (kn_12 X hg c) (dk_most_wins_by X hg c).1
theorem kn_14 : Kn ⟨K, mg, fun _ _ _ => True⟩ P w base MD F_14 14 := by
  unfold F_14
  rw [sq_games_among]
  exact kn_def (kn_13 X hg c) (dk_games_among X hg c).1
theorem kn_15 : Kn ⟨K, mg, fun _ _ _ => True⟩ P w base MD F_15 15 := by
  unfold F_15
  rw [sq_is_over]
  exact kn_def (kn_14 X hg c) (dk_is_over X hg c).1
theorem kn_16 : Kn ⟨K, mg, fun _ _ _ => True⟩ P w base MD F_16 16 := by
  unfold F_16
  rw [sq_lots_of_others]
  exact kn_def (kn_15 X hg c) (dk_lots_of_others X hg c).1
theorem kn_17 : Kn ⟨K, mg, fun _ _ _ => True⟩ P w base MD F_17 17 := by
  unfold F_17
  rw [sq_lot_over_most]
  exact kn_def (kn_16 X hg c) (dk_lot_over_most X hg c).1
theorem kn_18 : Kn ⟨K, mg, fun _ _ _ => True⟩ P w base MD F_18 18 := by
  unfold F_18
  rw [sq_lot_over_by]
  exact kn_def (kn_17 X hg c) (dk_lot_over_by X hg c).1
theorem kn_19 : Kn ⟨K, mg, fun _ _ _ => True⟩ P w base MD F_19 19 := by
  unfold F_19
  rw [sq_can_be_first_by]
  exact kn_def (kn_18 X hg c) (dk_can_be_first_by X hg c).1
theorem kn_20 : Kn ⟨K, mg, fun _ _ _ => True⟩ P w base MD F_20 20 := by
  unfold F_20
  rw [sq_is_lot_over]
  exact kn_def (kn_19 X hg c) (dk_is_lot_over X hg c).1
theorem kn_21 : Kn ⟨K, mg, fun _ _ _ => True⟩ P w base MD F_21 21 := by
  unfold F_21
  rw [sq_wins_with]
  exact kn_def (kn_20 X hg c) (dk_wins_with X hg c).1
theorem kn_22 : Kn ⟨K, mg, fun _ _ _ => True⟩ P w base MD F_22 22 := by
  unfold F_22
  rw [sq_results_of]
  exact kn_def (kn_21 X hg c) (dk_results_of X hg c).1
theorem kn_23 : Kn ⟨K, mg, fun _ _ _ => True⟩ P w base MD F_23 23 := by
  unfold F_23
  rw [sq_results_by]
  exact kn_def (kn_22 X hg c) (dk_results_by X hg c).1
theorem kn_24 : Kn ⟨K, mg, fun _ _ _ => True⟩ P w base MD F_24 24 := by
  unfold F_24
  rw [sq_is_result]
  exact kn_def (kn_23 X hg c) (dk_is_result X hg c).1
theorem kn_25 : Kn ⟨K, mg, fun _ _ _ => True⟩ P w base MD F_25 25 := by
  unfold F_25
  rw [sq_are_results]
  exact kn_def (kn_24 X hg c) (dk_are_results X hg c).1
theorem kn_26 : Kn ⟨K, mg, fun _ _ _ => True⟩ P w base MD F_26 26 := by
  unfold F_26
  rw [sq_is_season_claim]
  exact kn_def (kn_25 X hg c) (dk_is_season_claim X hg c).1
theorem kn_27 : Kn ⟨K, mg, fun _ _ _ => True⟩ P w base MD F_27 27 := by
  unfold F_27
  rw [sq_is_other_claim]
  exact kn_def (kn_26 X hg c) (dk_is_other_claim X hg c).1
theorem kn_28 : Kn ⟨K, mg, fun _ _ _ => True⟩ P w base MD F_28 28 := by
  unfold F_28
  rw [sq_other_judge]
  exact kn_def (kn_27 X hg c) (dk_other_judge X hg c).1
theorem kn_29 : Kn ⟨K, mg, fun _ _ _ => True⟩ P w base MD F_29 29 := by
  unfold F_29
  rw [sq_settled_first]
  exact kn_def (kn_28 X hg c) (dk_settled_first X hg c).1
theorem kn_30 : Kn ⟨K, mg, fun _ _ _ => True⟩ P w base MD F_30 30 := by
  unfold F_30
  rw [sq_other_settled]
  exact kn_def (kn_29 X hg c) (dk_other_settled X hg c).1
theorem kn_31 : Kn ⟨K, mg, fun _ _ _ => True⟩ P w base MD F_31 31 := by
  unfold F_31
  rw [sq_has_claim_word]
  exact kn_def (kn_30 X hg c) (dk_has_claim_word X hg c).1
theorem kn_32 : Kn ⟨K, mg, fun _ _ _ => True⟩ P w base MD F_32 32 := by
  unfold F_32
  rw [sq_is_claim_by]
  exact kn_def (kn_31 X hg c) (dk_is_claim_by X hg c).1
theorem kn_33 : Kn ⟨K, mg, fun _ _ _ => True⟩ P w base MD F_33 33 := by
  unfold F_33
  rw [sq_opposite_by]
  exact kn_def (kn_32 X hg c) (dk_opposite_by X hg c).1
theorem kn_34 : Kn ⟨K, mg, fun _ _ _ => True⟩ P w base MD F_34 34 := by
  unfold F_34
  rw [sq_is_shown]
  exact kn_def (kn_33 X hg c) (dk_is_shown X hg c).1
theorem kn_35 : Kn ⟨K, mg, fun _ _ _ => True⟩ P w base MD F_35 35 := by
  unfold F_35
  rw [sq_settled_by]
  exact kn_def (kn_34 X hg c) (dk_settled_by X hg c).1
theorem kn_36 : Kn ⟨K, mg, fun _ _ _ => True⟩ P w base MD F_36 36 := by
  unfold F_36
  rw [sq_is_claim]
  exact kn_def (kn_35 X hg c) (dk_is_claim X hg c).1
theorem kn_37 : Kn ⟨K, mg, fun _ _ _ => True⟩ P w base MD F_37 37 := by
  unfold F_37
  rw [sq_check_claim]
  exact kn_def (kn_36 X hg c) (dk_check_claim X hg c).1
theorem kn_38 : Kn ⟨K, mg, fun _ _ _ => True⟩ P w base MD F_38 38 := by
  unfold F_38
  rw [sq_opposite]
  exact kn_def (kn_37 X hg c) (dk_opposite X hg c).1
theorem kn_39 : Kn ⟨K, mg, fun _ _ _ => True⟩ P w base MD F_39 39 := by
  unfold F_39
  rw [sq_settled]
  exact kn_def (kn_38 X hg c) (dk_settled X hg c).1
theorem kn_40 : Kn ⟨K, mg, fun _ _ _ => True⟩ P w base MD F_40 40 := by
  unfold F_40
  rw [sq_accepts]
  exact kn_def (kn_39 X hg c) (dk_accepts X hg c).1
theorem kn_41 : Kn ⟨K, mg, fun _ _ _ => True⟩ P w base MD F_41 41 := by
  unfold F_41
  rw [sq__law_pool]
  exact kn_def (kn_40 X hg c) (dk__law_pool X hg c).1
theorem kn_42 : Kn ⟨K, mg, fun _ _ _ => True⟩ P w base MD F_42 42 := by
  unfold F_42
  rw [sq__law_draw]
  exact kn_def (kn_41 X hg c) (dk__law_draw X hg c).1
theorem kn_43 : Kn ⟨K, mg, fun _ _ _ => True⟩ P w base MD F_43 43 := by
  unfold F_43
  rw [sq__law_pick]
  exact kn_def (kn_42 X hg c) (dk__law_pick X hg c).1
theorem kn_44 : Kn ⟨K, mg, fun _ _ _ => True⟩ P w base MD F_44 44 := by
  unfold F_44
  rw [sq__law_is_num]
  exact kn_def (kn_43 X hg c) (dk__law_is_num X hg c).1
theorem kn_45 : Kn ⟨K, mg, fun _ _ _ => True⟩ P w base MD F_45 45 := by
  unfold F_45
  rw [sq__law_is_in]
  exact kn_def (kn_44 X hg c) (dk__law_is_in X hg c).1
theorem kn_46 : Kn ⟨K, mg, fun _ _ _ => True⟩ P w base MD F_46 46 := by
  unfold F_46
  rw [sq__law_season]
  exact kn_def (kn_45 X hg c) (dk__law_season X hg c).1
theorem kn_47 : Kn ⟨K, mg, fun _ _ _ => True⟩ P w base MD F_47 47 := by
  unfold F_47
  rw [sq__law_games]
  exact kn_def (kn_46 X hg c) (dk__law_games X hg c).1
theorem kn_48 : Kn ⟨K, mg, fun _ _ _ => True⟩ P w base MD F_48 48 := by
  unfold F_48
  rw [sq__law_groups]
  exact kn_def (kn_47 X hg c) (dk__law_groups X hg c).1
theorem kn_49 : Kn ⟨K, mg, fun _ _ _ => True⟩ P w base MD F_49 49 := by
  unfold F_49
  rw [sq__law_over]
  exact kn_def (kn_48 X hg c) (dk__law_over X hg c).1
theorem kn_50 : Kn ⟨K, mg, fun _ _ _ => True⟩ P w base MD F_50 50 := by
  unfold F_50
  rw [sq__law_are_results]
  exact kn_def (kn_49 X hg c) (dk__law_are_results X hg c).1
theorem kn_51 : Kn ⟨K, mg, fun _ _ _ => True⟩ P w base MD F_51 51 := by
  unfold F_51
  rw [sq__law_is_over]
  exact kn_def (kn_50 X hg c) (dk__law_is_over X hg c).1
theorem kn_52 : Kn ⟨K, mg, fun _ _ _ => True⟩ P w base MD F_52 52 := by
  unfold F_52
  rw [sq__law_near]
  exact kn_def (kn_51 X hg c) (dk__law_near X hg c).1
theorem kn_53 : Kn ⟨K, mg, fun _ _ _ => True⟩ P w base MD F_53 53 := by
  unfold F_53
  rw [sq__law_team_right]
  exact kn_def (kn_52 X hg c) (dk__law_team_right X hg c).1
theorem kn_54 : Kn ⟨K, mg, fun _ _ _ => True⟩ P w base MD F_54 54 := by
  unfold F_54
  rw [sq__law_right]
  exact kn_def (kn_53 X hg c) (dk__law_right X hg c).1
end
theorem hboot (P : Params) : ((boot_heap P).nsKeys mainGlobals).all (startupNames.contains ·) = true := by kernel_rfl
theorem hrun (w : World) : RunEq R hv (hookP hxs MD hfn) (obP hxs FR CS TB hfn) 7000 hls w := by
  refine PySem.W.byRow2 "special-get-raises" (P := fun w => RunEq R hv (hookP hxs MD hfn) (obP hxs FR CS TB hfn) 7000 hls w) (fun w os => ?_) (fun w os => ?_) w
  · exact map2 (looks_of (hboot _) (hL_f w os)) (map2 (hS_f w os) (map2 (hO1_f w os) (hO23_f w os)))
  · exact map2 (looks_of (hboot _) (hL_t w os)) (map2 (hS_t w os) (map2 (hO1_t w os) (hO23_t w os)))
end Tk77
open PySem PySem.W PySem.Calls PyProof.Rows HandSHeadRun Tk77 in
theorem PySem.Challenge.cw_pitstairs_k77_whole_papers_of_seasons_holds : PySem.Challenge.rw_pitstairs_k77_whole_papers_of_seasons.Holds := by
  w_on; o_law
  refine head_any (r := OpenLaw.row PySem.Challenge.rw_pitstairs_k77_whole_papers_of_seasons) (q := hv) (H := PD.hookP hxs MD hfn) (ob := PD.obP hxs FR CS TB hfn) (M := 7000) (loose := hls) (d := topDef (OpenLaw.row PySem.Challenge.rw_pitstairs_k77_whole_papers_of_seasons).prog 226) (kwd := []) (PD.obP_eq hxs MD hfn)
    (by kernel_rfl) (fun s => by kernel_rfl) hrun (by kernel_rfl) (by kernel_rfl) (by kernel_rfl) (by rfl) (by first | assumption | decide +kernel) (by decide +kernel) ⟨rfl, rfl, rfl, rfl, rfl, by decide +kernel⟩ ?hw ?hc
  case hw => w_witness2
  case hc =>
    refine PD.walk_ofGW (l := PySem.Challenge.rw_pitstairs_k77_whole_papers_of_seasons) (n := 63) (k := 55) (x := "script") rfl (by decide) (by kernel_rfl) ⟨rfl, by decide, by decide⟩ ?F
    intro w mg fa h Y G hmg0
    obtain ⟨K, KX, c⟩ := Y
    have hmg : mg ("law" : PySem.Str) = some (.ref fa) := by
      have e : (topDef (OpenLaw.row PySem.Challenge.rw_pitstairs_k77_whole_papers_of_seasons).prog 226).name = ("law" : PySem.Str) := by kernel_rfl
      rw [← e]
      exact hmg0
    obtain ⟨D, fd, hm, F⟩ := dk_law KX G c
    have e : fa = He.ga K d_law.nm := by
      have := hmg.symm.trans hm
      cases this
      rfl
    subst e
    have b := L2.FunD.bindsA (ps := ["script"]) F fun _ _ _ _ _ _ us hl => match us, hl with | [_], _ => rfl
    refine ⟨K, fd, PD.spD ⟨K, mg, fun _ _ _ => True⟩ 1 s_law, KX, fun s v => b s [v] rfl, fun H a ns hl hO hS => ?_, fun base hbK hbN => ?_⟩
    · rcases hS with hS | ⟨o, _, _, e1, e2, _⟩
      · refine ⟨fun _ => False, fun _ => False, [.list (ns.map .int)], fun d => d = .bool true, fun _ => False, ⟨fun a h => h.elim, fun a h => h.elim⟩, .cons (.lst (fun h => h) (fun h => h) hS (PD.RpA.ofInts ns)) .nil, rfl, w_law ns hl rfl, ⟨fun P' H' v d _ r e => ?_, fun _ _ _ _ _ _ _ h => h.elim⟩⟩
        subst e
        exact PD.rp_bl r
      · exact (PD.noList_ok c.parts.1 e1 e2).elim
    · have := PD.def_ok (kn_54 (P := (PySem.Challenge.rw_pitstairs_k77_whole_papers_of_seasons).prog) (base := base) KX G c) F sc_law
      rw [sq_law]
      exact this
