import PyProof.Rows.All
import Wide.All
import OpenK.AllK
import Wide.FinOn
import KE.KStateDown
import HandS.Words
import HandS.Defaults
import HandS.Head0
import HandS.Head1
import HandS.Head2
import HandS.HeadEnd
import HandS.HeadHook1
import HandS.HeadHook2
import PySem.Challenge.RW_touchboats_k38_two_whole_mornings
import HandS.ForMost
import HandS.Walk
import HandS.Deep
import HandS.TupAny
import HandS.Codes
import HandS.Conv
import HandS.Zip
import HandS.RevRange
import HandS.StrMore
import HandS.Strs
import HandS.Style
import HandS.IsInst
import HandS.Flow
import HandS.Wide
import HandS.TupLen
import HandS.Small
import KE.SortData
import KE.GoesMore
import KE.KDictSum
import KE.KDictCopyH
import KE.KDictWalk
import KE.KDictDisplayH
import HandS.More
set_option Elab.async false
set_option linter.all false
set_option maxRecDepth 100000
/-! HDa: the head: facts by names, the run (first of all, while little stands in memory); printed by mkhd.py. -/
namespace DL
open PySem PySem.Spec PyProof.Rows L2
def top (i : Nat) : Stmt := PySem.Challenge.pw_touchboats_k38_two_whole_mornings.main.body.getD i (.Pass ⟨0, 0, 0, 0⟩)
def dd_is_boat : He.DefD := ⟨("is_boat", none), "is_boat", "is_boat", defArgs (top 4), defBody (top 4), defScope (top 4), [], []⟩
def dd_are_boats : He.DefD := ⟨("are_boats", none), "are_boats", "are_boats", defArgs (top 5), defBody (top 5), defScope (top 5), [], []⟩
def dd_is_row : He.DefD := ⟨("is_row", none), "is_row", "is_row", defArgs (top 6), defBody (top 6), defScope (top 6), [], []⟩
def dd_races_of : He.DefD := ⟨("races_of", none), "races_of", "races_of", defArgs (top 7), defBody (top 7), defScope (top 7), [], []⟩
def dd_span : He.DefD := ⟨("span", none), "span", "span", defArgs (top 8), defBody (top 8), defScope (top 8), [], []⟩
def dd_exchanged : He.DefD := ⟨("exchanged", none), "exchanged", "exchanged", defArgs (top 9), defBody (top 9), defScope (top 9), [], []⟩
def dd_is_event : He.DefD := ⟨("is_event", none), "is_event", "is_event", defArgs (top 11), defBody (top 11), defScope (top 11), [], []⟩
def dd_boats_between : He.DefD := ⟨("boats_between", none), "boats_between", "boats_between", defArgs (top 12), defBody (top 12), defScope (top 12), [], []⟩
def dd_goes_ahead : He.DefD := ⟨("goes_ahead", none), "goes_ahead", "goes_ahead", defArgs (top 13), defBody (top 13), defScope (top 13), [], []⟩
def dd_is_sheet : He.DefD := ⟨("is_sheet", none), "is_sheet", "is_sheet", defArgs (top 14), defBody (top 14), defScope (top 14), [], []⟩
def dd_touches_in : He.DefD := ⟨("touches_in", none), "touches_in", "touches_in", defArgs (top 15), defBody (top 15), defScope (top 15), [], []⟩
def dd_row_behind : He.DefD := ⟨("row_behind", none), "row_behind", "row_behind", defArgs (top 16), defBody (top 16), defScope (top 16), [], []⟩
def dd_strange_or_twice : He.DefD := ⟨("strange_or_twice", none), "strange_or_twice", "strange_or_twice", defArgs (top 17), defBody (top 17), defScope (top 17), [], []⟩
def dd_touch_fault : He.DefD := ⟨("touch_fault", none), "touch_fault", "touch_fault", defArgs (top 18), defBody (top 18), defScope (top 18), [], []⟩
def dd_is_crossed : He.DefD := ⟨("is_crossed", none), "is_crossed", "is_crossed", defArgs (top 19), defBody (top 19), defScope (top 19), [], []⟩
def dd_fault_of : He.DefD := ⟨("fault_of", none), "fault_of", "fault_of", defArgs (top 20), defBody (top 20), defScope (top 20), [], []⟩
def dd_length_of : He.DefD := ⟨("length_of", none), "length_of", "length_of", defArgs (top 21), defBody (top 21), defScope (top 21), [], []⟩
def dd_order_of : He.DefD := ⟨("order_of", none), "order_of", "order_of", defArgs (top 22), defBody (top 22), defScope (top 22), [], []⟩
def dd_is_day : He.DefD := ⟨("is_day", none), "is_day", "is_day", defArgs (top 24), defBody (top 24), defScope (top 24), [], []⟩
def dd_start_on : He.DefD := ⟨("start_on", none), "start_on", "start_on", defArgs (top 25), defBody (top 25), defScope (top 25), [], []⟩
def dd_laid_on : He.DefD := ⟨("laid_on", none), "laid_on", "laid_on", defArgs (top 26), defBody (top 26), defScope (top 26), [], []⟩
def dd_races_going : He.DefD := ⟨("races_going", none), "races_going", "races_going", defArgs (top 27), defBody (top 27), defScope (top 27), [], []⟩
def dd_day_behind : He.DefD := ⟨("day_behind", none), "day_behind", "day_behind", defArgs (top 28), defBody (top 28), defScope (top 28), [], []⟩
def dd_not_of_start : He.DefD := ⟨("not_of_start", none), "not_of_start", "not_of_start", defArgs (top 30), defBody (top 30), defScope (top 30), [], []⟩
def dd_goal_of : He.DefD := ⟨("goal_of", none), "goal_of", "goal_of", defArgs (top 31), defBody (top 31), defScope (top 31), [], []⟩
def dd_unrounded : He.DefD := ⟨("unrounded", none), "unrounded", "unrounded", defArgs (top 32), defBody (top 32), defScope (top 32), [], []⟩
def dd_pairs_of : He.DefD := ⟨("pairs_of", none), "pairs_of", "pairs_of", defArgs (top 33), defBody (top 33), defScope (top 33), [], []⟩
def dd_touch_at : He.DefD := ⟨("touch_at", none), "touch_at", "touch_at", defArgs (top 34), defBody (top 34), defScope (top 34), [], []⟩
def dd_cross : He.DefD := ⟨("cross", none), "cross", "cross", defArgs (top 35), defBody (top 35), defScope (top 35), [], []⟩
def dd_goal_fault : He.DefD := ⟨("goal_fault", none), "goal_fault", "goal_fault", defArgs (top 36), defBody (top 36), defScope (top 36), [], []⟩
def dd_told_race : He.DefD := ⟨("told_race", none), "told_race", "told_race", defArgs (top 37), defBody (top 37), defScope (top 37), [], []⟩
def dd_told_by : He.DefD := ⟨("told_by", none), "told_by", "told_by", defArgs (top 38), defBody (top 38), defScope (top 38), [], []⟩
def dd_days_between : He.DefD := ⟨("days_between", none), "days_between", "days_between", defArgs (top 39), defBody (top 39), defScope (top 39), [], []⟩
def dd_all_rows : He.DefD := ⟨("all_rows", none), "all_rows", "all_rows", defArgs (top 41), defBody (top 41), defScope (top 41), [], []⟩
def dd_row_fits : He.DefD := ⟨("row_fits", none), "row_fits", "row_fits", defArgs (top 42), defBody (top 42), defScope (top 42), [], []⟩
def dd_ban_lets_row : He.DefD := ⟨("ban_lets_row", none), "ban_lets_row", "ban_lets_row", defArgs (top 43), defBody (top 43), defScope (top 43), [], []⟩
def dd_ban_lets_day : He.DefD := ⟨("ban_lets_day", none), "ban_lets_day", "ban_lets_day", defArgs (top 44), defBody (top 44), defScope (top 44), [], []⟩
def dd_arc_sets : He.DefD := ⟨("arc_sets", none), "arc_sets", "arc_sets", defArgs (top 45), defBody (top 45), defScope (top 45), [], []⟩
def dd_touched : He.DefD := ⟨("touched", none), "touched", "touched", defArgs (top 46), defBody (top 46), defScope (top 46), [], []⟩
def dd_init : He.DefD := ⟨("Ways", some "__init__"), "__init__", "Ways.__init__", defArgs (inClass (top 47) 0), defBody (inClass (top 47) 0), defScope (inClass (top 47) 0), [], []⟩
def dd_gone : He.DefD := ⟨("Ways", some "gone_through"), "gone_through", "Ways.gone_through", defArgs (inClass (top 47) 1), defBody (inClass (top 47) 1), defScope (inClass (top 47) 1), [], []⟩
def dd_nexts : He.DefD := ⟨("Ways", some "nexts"), "nexts", "Ways.nexts", defArgs (inClass (top 47) 2), defBody (inClass (top 47) 2), defScope (inClass (top 47) 2), [], []⟩
def dd_rows_come : He.DefD := ⟨("rows_come", none), "rows_come", "rows_come", defArgs (top 48), defBody (top 48), defScope (top 48), [], []⟩
def dd_row_sets : He.DefD := ⟨("row_sets", none), "row_sets", "row_sets", defArgs (top 49), defBody (top 49), defScope (top 49), [], []⟩
def dd_stop_of : He.DefD := ⟨("stop_of", none), "stop_of", "stop_of", defArgs (top 50), defBody (top 50), defScope (top 50), [], []⟩
def dd_rows_back : He.DefD := ⟨("rows_back", none), "rows_back", "rows_back", defArgs (top 51), defBody (top 51), defScope (top 51), [], []⟩
def dd_day_between : He.DefD := ⟨("day_between", none), "day_between", "day_between", defArgs (top 52), defBody (top 52), defScope (top 52), [], []⟩
def dd_chart_of : He.DefD := ⟨("chart_of", none), "chart_of", "chart_of", defArgs (top 53), defBody (top 53), defScope (top 53), [], []⟩
def dd_chart_to_end : He.DefD := ⟨("chart_to_end", none), "chart_to_end", "chart_to_end", defArgs (top 54), defBody (top 54), defScope (top 54), [], []⟩
def dd_chart_by : He.DefD := ⟨("chart_by", none), "chart_by", "chart_by", defArgs (top 55), defBody (top 55), defScope (top 55), [], []⟩
def dd_is_full_row : He.DefD := ⟨("is_full_row", none), "is_full_row", "is_full_row", defArgs (top 57), defBody (top 57), defScope (top 57), [], []⟩
def dd_touches_on : He.DefD := ⟨("touches_on", none), "touches_on", "touches_on", defArgs (top 58), defBody (top 58), defScope (top 58), [], []⟩
def dd_goes_so : He.DefD := ⟨("goes_so", none), "goes_so", "goes_so", defArgs (top 59), defBody (top 59), defScope (top 59), [], []⟩
def dd_shows_chart : He.DefD := ⟨("shows_chart", none), "shows_chart", "shows_chart", defArgs (top 60), defBody (top 60), defScope (top 60), [], []⟩
def dd_is_row_set : He.DefD := ⟨("is_row_set", none), "is_row_set", "is_row_set", defArgs (top 61), defBody (top 61), defScope (top 61), [], []⟩
def dd_has_first_rows : He.DefD := ⟨("has_first_rows", none), "has_first_rows", "has_first_rows", defArgs (top 62), defBody (top 62), defScope (top 62), [], []⟩
def dd_has_next_rows : He.DefD := ⟨("has_next_rows", none), "has_next_rows", "has_next_rows", defArgs (top 63), defBody (top 63), defScope (top 63), [], []⟩
def dd_shows_stop : He.DefD := ⟨("shows_stop", none), "shows_stop", "shows_stop", defArgs (top 64), defBody (top 64), defScope (top 64), [], []⟩
def dd__law_well : He.DefD := ⟨("_law_well", none), "_law_well", "_law_well", defArgs (top 66), defBody (top 66), defScope (top 66), [], []⟩
def dd__law_take : He.DefD := ⟨("_law_take", none), "_law_take", "_law_take", defArgs (top 67), defBody (top 67), defScope (top 67), [], []⟩
def dd__law_of : He.DefD := ⟨("_law_of", none), "_law_of", "_law_of", defArgs (top 68), defBody (top 68), defScope (top 68), [], []⟩
def dd__law_boats : He.DefD := ⟨("_law_boats", none), "_law_boats", "_law_boats", defArgs (top 69), defBody (top 69), defScope (top 69), [], []⟩
def dd__law_meeting : He.DefD := ⟨("_law_meeting", none), "_law_meeting", "_law_meeting", defArgs (top 70), defBody (top 70), defScope (top 70), [], []⟩
def dd__law_spans : He.DefD := ⟨("_law_spans", none), "_law_spans", "_law_spans", defArgs (top 71), defBody (top 71), defScope (top 71), [], []⟩
def dd__law_sheet : He.DefD := ⟨("_law_sheet", none), "_law_sheet", "_law_sheet", defArgs (top 72), defBody (top 72), defScope (top 72), [], []⟩
def dd__law_after : He.DefD := ⟨("_law_after", none), "_law_after", "_law_after", defArgs (top 73), defBody (top 73), defScope (top 73), [], []⟩
def dd__law_day : He.DefD := ⟨("_law_day", none), "_law_day", "_law_day", defArgs (top 74), defBody (top 74), defScope (top 74), [], []⟩
def dd__law_chart : He.DefD := ⟨("_law_chart", none), "_law_chart", "_law_chart", defArgs (top 75), defBody (top 75), defScope (top 75), [], []⟩
def dd__law_bans_right : He.DefD := ⟨("_law_bans_right", none), "_law_bans_right", "_law_bans_right", defArgs (top 76), defBody (top 76), defScope (top 76), [], []⟩
def dd__law_told_right : He.DefD := ⟨("_law_told_right", none), "_law_told_right", "_law_told_right", defArgs (top 77), defBody (top 77), defScope (top 77), [], []⟩
def dd_law : He.DefD := ⟨("law", none), "law", "law", defArgs (top 78), defBody (top 78), defScope (top 78), [], []⟩
def fnH0 : List He.DefD := [dd_is_boat, dd_are_boats, dd_is_row, dd_races_of, dd_span, dd_exchanged, dd_is_event, dd_boats_between, dd_goes_ahead, dd_is_sheet, dd_touches_in, dd_row_behind, dd_strange_or_twice, dd_touch_fault, dd_is_crossed, dd_fault_of, dd_length_of, dd_order_of, dd_is_day, dd_start_on, dd_laid_on, dd_races_going, dd_day_behind, dd_not_of_start, dd_goal_of, dd_unrounded, dd_pairs_of, dd_touch_at, dd_cross, dd_goal_fault]
def fnH1 : List He.DefD := [dd_told_race, dd_told_by, dd_days_between, dd_all_rows, dd_row_fits, dd_ban_lets_row, dd_ban_lets_day, dd_arc_sets, dd_touched, dd_init, dd_gone, dd_nexts, dd_rows_come, dd_row_sets, dd_stop_of, dd_rows_back, dd_day_between, dd_chart_of, dd_chart_to_end, dd_chart_by, dd_is_full_row, dd_touches_on, dd_goes_so, dd_shows_chart, dd_is_row_set, dd_has_first_rows, dd_has_next_rows, dd_shows_stop, dd__law_well, dd__law_take]
def fnH2 : List He.DefD := [dd__law_of, dd__law_boats, dd__law_meeting, dd__law_spans, dd__law_sheet, dd__law_after, dd__law_day, dd__law_chart, dd__law_bans_right, dd__law_told_right, dd_law]
def fnH : List He.DefD := fnH0 ++ fnH1 ++ fnH2
def faH0 : List He.Fa := [.glo "is_boat", .glo "are_boats", .glo "is_row", .glo "races_of", .glo "span", .glo "exchanged", .glo "is_event", .glo "boats_between", .glo "goes_ahead", .glo "is_sheet", .glo "touches_in", .glo "row_behind", .glo "strange_or_twice", .glo "touch_fault", .glo "is_crossed", .glo "fault_of", .glo "length_of", .glo "order_of", .glo "is_day", .glo "start_on", .glo "laid_on", .glo "races_going", .glo "day_behind", .glo "not_of_start", .glo "goal_of", .glo "unrounded", .glo "pairs_of", .glo "touch_at", .glo "cross", .glo "goal_fault"]
def faH1 : List He.Fa := [.glo "told_race", .glo "told_by", .glo "days_between", .glo "all_rows", .glo "row_fits", .glo "ban_lets_row", .glo "ban_lets_day", .glo "arc_sets", .glo "touched", .glo "rows_come", .glo "row_sets", .glo "stop_of", .glo "rows_back", .glo "day_between", .glo "chart_of", .glo "chart_to_end", .glo "chart_by", .glo "is_full_row", .glo "touches_on", .glo "goes_so", .glo "shows_chart", .glo "is_row_set", .glo "has_first_rows", .glo "has_next_rows", .glo "shows_stop", .glo "_law_well", .glo "_law_take", .glo "_law_of", .glo "_law_boats", .glo "_law_meeting"]
def faH2 : List He.Fa := [.glo "_law_spans", .glo "_law_sheet", .glo "_law_after", .glo "_law_day", .glo "_law_chart", .glo "_law_bans_right", .glo "_law_told_right", .glo "law", .glo "Ways", .free "len", .free "isinstance", .free "all", .free "any", .free "min", .free "max", .free "sum", .free "tuple", .free "list", .free "sorted", .free "set", .free "str", .free "range", .free "reversed", .free "enumerate", .free "zip", .free "dict", .free "abs", .int "MOST_SIGNS" 8, .int "MOST_BOATS" 24, .str "BOAT_SIGNS" "abcdefghijklmnopqrstuvwxyz"]
def faH3 : List He.Fa := [.cls "Ways", .noat "Ways" "arcs", .noat "Ways" "known", .meth "Ways" "gone_through", .meth "Ways" "nexts", .mkr "Ways"]
def faH : List He.Fa := faH0 ++ faH1 ++ faH2 ++ faH3
def looseH0 : List PySem.Str := ["__name__", "BOAT_SIGNS", "MOST_SIGNS", "MOST_BOATS", "is_boat", "are_boats", "is_row", "races_of", "span", "exchanged", "is_event", "boats_between", "goes_ahead", "is_sheet", "touches_in", "row_behind", "strange_or_twice", "touch_fault", "is_crossed", "fault_of", "length_of", "order_of", "is_day", "start_on", "laid_on", "races_going", "day_behind", "not_of_start", "goal_of", "unrounded"]
def looseH1 : List PySem.Str := ["pairs_of", "touch_at", "cross", "goal_fault", "told_race", "told_by", "days_between", "all_rows", "row_fits", "ban_lets_row", "ban_lets_day", "arc_sets", "touched", "Ways", "rows_come", "row_sets", "stop_of", "rows_back", "day_between", "chart_of", "chart_to_end", "chart_by", "is_full_row", "touches_on", "goes_so", "shows_chart", "is_row_set", "has_first_rows", "has_next_rows", "shows_stop"]
def looseH2 : List PySem.Str := ["_law_well", "_law_take", "_law_of", "_law_boats", "_law_meeting", "_law_spans", "_law_sheet", "_law_after", "_law_day", "_law_chart", "_law_bans_right", "_law_told_right"]
def looseH : List PySem.Str := looseH0 ++ looseH1 ++ looseH2
abbrev RH : PySem.W.OpenRow := PySem.W.OpenLaw.row PySem.Challenge.rw_touchboats_k38_two_whole_mornings
abbrev hkH : PySem.W.Hook := He.hookD 4 faH fnH
def obH (s : PySem.W.SharedT) : He.AlD := He.obsDG 4 faH fnH (HandSHeadRun.getT s)
theorem obH_eq (s : PySem.W.SharedT) : obH s = hkH.obs s.abs := He.obsDG_eq (HandSHeadRun.getT_eq s)
set_option maxHeartbeats 0 in
theorem runH (w : World) : HandSHeadRun.RunEq RH (PySem.W.view RH.prog [78]) hkH obH 3000 looseH w := by
  intro os
  kernel_rfl
end DL
/-! DK: dicts with tuple keys whose key tuples are told apart; tuples that are known to be plain. -/
namespace DL
open PySem PySem.Spec PyProof.Rows L2
/-- the program and the world that run (fixed in all that follows) -/
class TheW where
  P : Program
  w : World
variable [TheW]
abbrev tk : HeapKind TheW.P TheW.w (List Key) := tupleKind (mixKind TheW.P TheW.w)
abbrev KX : List (List Key × Addr × V) → List (List Key × Addr × Value) → Prop := Paired fun p q => p.1 = q.1 ∧ p.2.1 = q.2.1 ∧ RelV p.2.2 q.2.2
def DctO (a : Addr) (ks : List (List Key × Addr × V)) : HO := .ext fun h => ks.length ≤ sizeLine ∧ (a == sysModules) = false ∧ ∃ xs, KX ks xs ∧
  ∃ o es ep, h.get? a = some o ∧ o.ExactDict ∧ o.data = .dict es ep ∧ es.toList = xs.map (entryOfKey tk) ∧ (xs.map (·.1)).Nodup
theorem dctO_new {P : Program} {w : World} {H : Hp} {h : Heap} {a : Addr} {ks : List (List Key × Addr × V)} {xs : List (List Key × Addr × Value)} {o : Obj} {es : Array DictEntry} {ep : Nat} (z : ks.length ≤ sizeLine) (hs : (a == sysModules) = false) (kx : KX ks xs)
    (ho : h.get? a = some o) (hx : o.ExactDict) (hd : o.data = .dict es ep) (he : es.toList = xs.map (entryOfKey tk)) (hn : (xs.map (·.1)).Nodup) : ObjOk P w H h a (DctO a ks) :=
  ⟨⟨z, hs, xs, kx, o, es, ep, ho, hx, hd, he, hn⟩, ⟨o, ho⟩, fun h1 h2 ⟨z, hs, xs, kx, o, es, ep, ho, r⟩ k => ⟨z, hs, xs, kx, o, es, ep, k o ho, r⟩⟩
/-- a tuple at a, its object without a dict -/
def IsT (H : Hp) (a : Addr) (xs : List V) : Prop := ∃ o : Obj, H a = some (.frz o (.tup xs)) ∧ o.dict = none
omit [TheW] in
theorem IsT.rd {H : Hp} {a : Addr} {xs : List V} (h : IsT H a xs) : Rd H a (.tup xs) := let ⟨o, e, _⟩ := h; .inr ⟨o, e⟩
omit [TheW] in
theorem IsT.sq {K : PySem.W.Frag} {H : Hp} {a : Addr} {xs : List V} (h : IsT H a xs) : SqT K H a xs := .inl h.rd
omit [TheW] in
theorem IsT.new {H : Hp} {p : Addr} {o : Obj} {xs : List V} (h : o.dict = none) : IsT (upd H p (.frz o (.tup xs))) p xs := ⟨o, upd_same, h⟩
/-- what the keys of a dict stand at -/
abbrev KeyT (H : Hp) (ks : List (List Key × Addr × V)) : Prop := ∀ p ∈ ks, IsT H p.2.1 (p.1.map kV)
structure Wx (X : Cx) : Prop where
  prog : X.prog = TheW.P
  w : X.w = TheW.w
section
variable {P : Program} {w : World} {H : Hp} {h : Heap} {a : Addr} {k : List Key}
omit [TheW] in
theorem key_isT (ok : HOk P w H h) (e : IsT H a (k.map kV)) : (tupleKind (mixKind P w)).is h k a := by
  obtain ⟨_, its, r, o, h1, h2, n, h3⟩ := (show ObjOk P w H h a (.tup (k.map kV)) from e.rd.ok ok)
  exact ⟨o, its.toArray, n, h1, h2, h3, by simpa using items_are r⟩
theorem KX.mem {ks : List (List Key × Addr × V)} {xs : List (List Key × Addr × Value)} (r : KX ks xs) : ∀ x ∈ xs, ∃ p ∈ ks, p.1 = x.1 ∧ p.2.1 = x.2.1 := by
  induction r with
  | nil => intro x hx; exact nomatch hx
  | @cons p q ps qs hq t ih =>
    intro x hx
    rcases List.mem_cons.mp hx with e | hx
    · subst e; exact ⟨p, by simp, hq.1, hq.2.1⟩
    · obtain ⟨p', h1, h2⟩ := ih x hx; exact ⟨p', List.mem_cons_of_mem _ h1, h2⟩
end
def valX (ks : List (List Key × Addr × V)) (k : List Key) : Option V := (ks.find? fun p => decide (p.1 = k)).map (·.2.2)
def putX (ks : List (List Key × Addr × V)) (k : List Key) (b : Addr) (v : V) : List (List Key × Addr × V) :=
  if (ks.any fun p => decide (p.1 = k)) = true then ks.map (fun p => if p.1 = k then (p.1, p.2.1, v) else p) else ks ++ [(k, b, v)]
theorem KX.val {ks : List (List Key × Addr × V)} {xs : List (List Key × Addr × Value)} (r : KX ks xs) (k : List Key) : RelO (valX ks k) ((atKey xs k).map (·.2)) := by
  induction r with
  | nil => exact True.intro
  | @cons p q ps qs h t ih =>
    obtain ⟨h1, _, h2⟩ := h
    by_cases e : p.1 = k
    · have e' : q.1 = k := h1.symm.trans e
      have b1 : valX (p :: ps) k = some p.2.2 := by simp [valX, List.find?_cons, e]
      have b2 : atKey (q :: qs) k = some q.2 := by simp [atKey, List.find?_cons, e']
      rw [b1, b2]; exact h2
    · have e' : ¬ q.1 = k := fun z => e (h1.trans z)
      have b1 : valX (p :: ps) k = valX ps k := by simp [valX, List.find?_cons, e]
      have b2 : atKey (q :: qs) k = atKey qs k := by simp [atKey, List.find?_cons, e']
      rw [b1, b2]; exact ih
theorem KX.any {ks : List (List Key × Addr × V)} {xs : List (List Key × Addr × Value)} (r : KX ks xs) (k : List Key) : (ks.any fun p => decide (p.1 = k)) = (atKey xs k).isSome := by
  induction r with
  | nil => rfl
  | @cons p q ps qs h t ih =>
    obtain ⟨h1, _, h2⟩ := h
    rw [List.any_cons, ih]
    by_cases e : p.1 = k
    · have e' : q.1 = k := h1.symm.trans e
      simp [atKey, List.find?_cons, e, e']
    · have e' : ¬ q.1 = k := fun z => e (h1.trans z)
      simp [atKey, List.find?_cons, e, e']
theorem KX.put {ks : List (List Key × Addr × V)} {xs : List (List Key × Addr × Value)} (r : KX ks xs) (k : List Key) (b : Addr) {y : V} {u : Value} (ry : RelV y u) : KX (putX ks k b y) (storedH xs k b u) := by
  unfold putX storedH
  rw [r.any k]
  by_cases q : (atKey xs k).isSome = true
  · rw [if_pos q, if_pos q]
    clear q
    induction r with
    | nil => exact .nil
    | @cons p q ps qs h t ih =>
      obtain ⟨h1, h3, h2⟩ := h
      rw [List.map_cons, List.map_cons]
      refine .cons ?_ ih
      by_cases e : p.1 = k
      · have e' : q.1 = k := h1.symm.trans e
        simp [putAt, e, e', h3, ry]
      · have e' : ¬ q.1 = k := fun z => e (h1.trans z)
        simp [putAt, e, e', h1, h2, h3]
  · rw [if_neg q, if_neg q]; exact Paired.snoc r ⟨rfl, rfl, ry⟩
theorem length_putX (ks : List (List Key × Addr × V)) (k : List Key) (b : Addr) (v : V) : (putX ks k b v).length ≤ ks.length + 1 := by
  unfold putX
  split
  · rw [List.length_map]; omega
  · rw [List.length_append]; exact Nat.le_refl _
section
variable {X : Cx} {pins : List (Addr × Obj)} {σ : L2.St} {H : Hp} {s : Shared} {a b : Addr} {y v : V} {u r : Value} {A : Around} {E : Value → Shared → Prop} {ks : List (List Key × Addr × V)} {k : List Key}
theorem dx_rd (hw : Wx X) (I : Inv X pins σ H s) (h : Rd H a (DctO a ks)) (kt : KeyT H ks) : ks.length ≤ sizeLine ∧ (a == sysModules) = false ∧ ∃ xs, KX ks xs ∧ s.heap.DictOfH (tupleKind (mixKind X.prog X.w)) a xs ∧
    ∃ o es ep, s.heap.get? a = some o ∧ o.ExactDict ∧ o.data = .dict es ep ∧ es.toList = xs.map (entryOfKey (tupleKind (mixKind X.prog X.w))) := by
  obtain ⟨z, hs, xs, kx, o, es, ep, ho, hx, hd, he, hn⟩ := (h.ok I.hok).1
  obtain ⟨e1, e2⟩ := hw
  have he' : es.toList = xs.map (entryOfKey (tupleKind (mixKind X.prog X.w))) := by rw [e1, e2]; exact he
  refine ⟨z, hs, xs, kx, ⟨o, es, ep, ho, hx, hd, he', fun x hx => ?_, hn⟩, o, es, ep, ho, hx, hd, he'⟩
  obtain ⟨p, hp, q1, q2⟩ := kx.mem x hx
  have := kt p hp
  rw [q1, q2] at this
  exact key_isT I.hok this
theorem dx_get {Q : Value → Shared → Prop} (hw : Wx X) (hu : A.units + 1 < cLine) (I : Inv X pins σ H s) (h : Rd H a (DctO a ks)) (kt : KeyT H ks) (eb : IsT H b (k.map kV)) (l : valX ks k = some v) (q : ∀ w' s', Inv X pins σ H s' → RelV v w' → Q w' s') :
    wpAny (model X.prog X.w) A (getItem (.ref a) (.ref b)) Q E s := by
  obtain ⟨z, hd, xs, rel, dd, _⟩ := dx_rd hw I h kt
  obtain ⟨w', hw', rw'⟩ := RelO.some_of (v := v) (o := (atKey xs k).map (·.2)) (by rw [← l]; exact rel.val k)
  obtain ⟨p, hp, hp2⟩ := Option.map_eq_some_iff.mp hw'
  refine wpAny_getItem_heap (tupleKind_room_in1 hu) (key_isT I.hok eb) dd hp ?_
  rw [hp2]
  exact q w' _ (I.tok _) rw'
theorem dx_in {Q : Value → Shared → Prop} (hw : Wx X) (hu : A.units + 1 < cLine) (I : Inv X pins σ H s) (h : Rd H a (DctO a ks)) (kt : KeyT H ks) (eb : IsT H b (k.map kV)) (q : ∀ s', Inv X pins σ H s' → Q (.bool (valX ks k).isSome) s') :
    wpAny (model X.prog X.w) A (compareOp .In (.ref b) (.ref a)) Q E s := by
  obtain ⟨z, hd, xs, rel, dd, _⟩ := dx_rd hw I h kt
  refine wpAny_in_heap (tupleKind_room_in1 hu) (key_isT I.hok eb) hd dd ?_
  have e := (rel.val k).isSome_eq
  rw [Option.isSome_map] at e
  rw [← e]
  exact q _ (I.tok _)
theorem dx_notIn {Q : Value → Shared → Prop} (hw : Wx X) (hu : A.units + 1 < cLine) (I : Inv X pins σ H s) (h : Rd H a (DctO a ks)) (kt : KeyT H ks) (eb : IsT H b (k.map kV)) (q : ∀ s', Inv X pins σ H s' → Q (.bool (!(valX ks k).isSome)) s') :
    wpAny (model X.prog X.w) A (compareOp .NotIn (.ref b) (.ref a)) Q E s := by
  obtain ⟨z, hd, xs, rel, dd, _⟩ := dx_rd hw I h kt
  refine wpAny_notIn_heap (tupleKind_room_in1 hu) (key_isT I.hok eb) hd dd ?_
  have e := (rel.val k).isSome_eq
  rw [Option.isSome_map] at e
  rw [← e]
  exact q _ (I.tok _)
theorem dx_set {Q : Unit → Shared → Prop} (hw : Wx X) (hu : A.units + 1 < cLine) (I : Inv X pins σ H s) (h : H a = some (DctO a ks)) (kt : KeyT H ks) (eb : IsT H b (k.map kV)) (hl : ks.length < sizeLine) (rv : RelV v r)
    (q : ∀ s', Inv X pins σ (upd H a (DctO a (putX ks k b v))) s' → Q () s') : wpAny (model X.prog X.w) A (setItem (.ref a) (.ref b) r) Q E s := by
  obtain ⟨z, hd, xs, rel, dd, _⟩ := dx_rd hw I (.inl h) kt
  have hz : xs.length ≤ sizeLine := by rw [← Paired.length rel]; exact z
  have hl' : (putX ks k b v).length ≤ sizeLine := by have := length_putX ks k b v; omega
  refine wpAny_setItem_heap (hsz := hz) (tupleKind_room_in1 hu) (key_isT I.hok eb) dd fun h' dd' hs => q _ ?_
  obtain ⟨qq, es, ep, hq, h2, h3, h4, _, h5⟩ := dd'
  obtain ⟨e1, e2⟩ := hw
  have h4' : es.toList = (storedH xs k b r).map (entryOfKey tk) := by rw [e1, e2] at h4; exact h4
  exact d_write I (by rw [h]; exact True.intro) hs ⟨qq, hq⟩ (dctO_new hl' hd (rel.put k b rv) hq h2 h3 h4' h5)
end
section
variable {X : Cx} {pos : Pos}
/-- {} -/
def tDNewX : TE := fun _ H Q => ∀ p, H p = none → Q (.ref p) (upd H p (DctO p []))
theorem pe_dnewX : PE X (.Dict [] [] pos) tDNewX := ⟨fun pins s σ H Q I h =>
  wpAny_Dict_empty ⟨.ref s.heap.objs.size, _, I.laid (a := s.heap.objs.size) (o := DctO s.heap.objs.size []) (t' := s.toks) (fun _ _ q => Heap.get?_push_of_some _ q) (Nat.le_refl _)
    (dctO_new (Nat.zero_le _) (beq_eq_false_iff_ne.mpr (Ne.symm (Nat.ne_of_lt I.big))) .nil (Heap.get?_push_size _ rfl) ⟨rfl, rfl, rfl⟩ rfl rfl List.nodup_nil), rfl, h _ (I.hok.fresh (Nat.le_refl _))⟩⟩
/-- {k: v} -/
def tDisp1 (tk tv : TE) : TE := fun σ H Q => ∀ p, H p = none → tk σ (upd H p (DctO p [])) fun x H1 => tv σ H1 fun y H2 => ∃ b k, x = .ref b ∧ IsT H2 b (k.map kV) ∧ H2 p = some (DctO p []) ∧ Q (.ref p) (upd H2 p (DctO p [(k, b, y)]))
theorem pe_disp1 {ke ve : Expr} {tk1 tv : TE} (hw : Wx X) (hu : X.A.units + 1 < cLine) (hk : PE X ke tk1) (hv : PE X ve tv) : PE X (.Dict [some ke] [ve] pos) (tDisp1 tk1 tv) := by
  refine ⟨fun pins s σ H Q I q => ?_⟩
  have hn := I.hok.fresh (Nat.le_refl s.heap.objs.size)
  have I1 := I.laid (a := s.heap.objs.size) (o := DctO s.heap.objs.size []) (h' := s.heap.push { cls := .type "dict", data := .dict #[] }) (t' := s.toks) (fun _ _ q => Heap.get?_push_of_some _ q) (Nat.le_refl _)
    (dctO_new (Nat.zero_le _) (beq_eq_false_iff_ne.mpr (Ne.symm (Nat.ne_of_lt I.big))) .nil (Heap.get?_push_size _ rfl) ⟨rfl, rfl, rfl⟩ rfl rfl List.nodup_nil)
  rw [arm_eval_Dict, zip_pairTrees [some ke] [ve] X.env pos rfl rfl, dictDisplay_pairs (pairTrees [some ke] [ve] X.env pos) (by intro z; cases z) (by show 1 < 17; decide)]
  refine wpAny_bind (wpAny_standAt (wpAny_bind (wpAny_subDictH (knd := tupleKind (mixKind X.prog X.w)) (Q := fun d s' => wpAny (model X.prog X.w) X.A (pure (Value.ref d)) (EP X pins σ Q) X.xe s') (by show X.A.units < cLine; omega) (by show 1 ≤ 15; decide) ?_)))
  refine pairTrees_cons_walk (thn (hk.run pins _ σ _ _ I1 (q _ hn)) fun u s1 ⟨x, H1, I2, rx, q1⟩ => thn (hv.run pins s1 σ H1 _ I2 q1) fun w2 s2 ⟨y, H2, I3, ry, b, k, ex, eb, ep, q2⟩ => pairTrees_nil_walk ?_)
  subst ex
  cases rx
  obtain ⟨z, hd, xs, rel, dd, _⟩ := dx_rd hw I3 (.inl ep) (fun p hp => nomatch hp)
  cases rel
  refine ⟨[(k, b, w2)], ⟨rfl, rfl, key_isT I3.hok eb, trivial⟩, dd, fun h' tk' dd' hs => wpAny_pure ?_⟩
  obtain ⟨qq, es, ep', hq, h2, h3, h4, _, h5⟩ := dd'
  obtain ⟨e1, e2⟩ := hw
  have h4' : es.toList = [(k, b, w2)].map (entryOfKey tk) := by rw [e1, e2] at h4; exact h4
  exact ⟨.ref s.heap.objs.size, _, d_write I3 (by rw [ep]; exact True.intro) hs ⟨qq, hq⟩ (dctO_new (by show 1 ≤ sizeLine; rw [sizeLine_eq]; decide) hd (.cons ⟨rfl, rfl, ry⟩ .nil) hq h2 h3 h4' h5), rfl, q2⟩
end

/-! ### tuples made plain -/
def plainT (its : Array Value) : Obj := { cls := .type "tuple", data := .seq its }
section
variable {X : Cx} {pos : Pos} {es : List Expr} {t : TA}
/-- a new plain tuple of xs -/
def NewT (xs : List V) (H : Hp) (Q : VK) : Prop := ∀ p o, H p = none → o.dict = none → Q (.ref p) (upd H p (.frz o (.tup xs)))
omit [TheW] in
theorem laidT {pins : List (Addr × Obj)} {σ : L2.St} {H : Hp} {s : Shared} {Q : VK} {xs : List V} {its : List Value} (I : Inv X pins σ H s) (r : Vals xs its) (z : xs.length ≤ sizeLine) (q : NewT xs H Q) :
    EP X pins σ Q (.ref s.heap.objs.size) { s with heap := s.heap.push { cls := .type "tuple", data := .seq its.toArray } } :=
  ⟨.ref s.heap.objs.size, _, I.laid (t' := s.toks) (o := .frz (plainT its.toArray) (.tup xs)) (fun b u e => Heap.get?_push_of_some _ e) (Nat.le_refl _) ⟨Heap.get?_push_size _ rfl, z, its, r, IsTup.new _ _⟩, rfl, q _ _ (I.hok.fresh (Nat.le_refl _)) rfl⟩
def tTupX (t : TA) : TE := fun σ H Q => t σ H fun xs H1 => xs.length ≤ sizeLine ∧ NewT xs H1 Q
omit [TheW] in
theorem pe_tupX {x1 : Nat} (h : PA X es t) : PE X (.Tuple es x1 pos) (tTupX t) := by
  refine ⟨fun pins s σ H Q I hq => ?_⟩
  exact wpAny_Tuple_spliced (thn (h.run pos pins s σ H _ I hq) fun us s1 ⟨xs, H1, I1, r, z, q⟩ => ⟨by rw [← r.length]; exact z, laidT I1 r z q⟩)
def rCatX (K : PySem.W.Frag) : R2 := fun x y H Q => ∃ a b xs ys, x = .ref a ∧ y = .ref b ∧ SqT K H a xs ∧ SqT K H b ys ∧ xs.length + ys.length ≤ sizeLine ∧
  (xs = [] → Q (.ref b) H) ∧ (xs ≠ [] → ys = [] → Q (.ref a) H) ∧ (xs ≠ [] → ys ≠ [] → NewT (xs ++ ys) H Q)
omit [TheW] in
theorem op_catX : OpR X (binaryOp .Add) (rCatX X.K) := by
  intro pins s σ H x y v u Q I rx ry h
  obtain ⟨a, b, xs, ys, rfl, rfl, ha, hb, hz, q0, q1, q2⟩ := h
  by_cases hx : xs = []
  · exact op_catA pins s σ H _ _ v u Q I rx ry ⟨a, b, xs, ys, rfl, rfl, ha, hb, hz, q0, fun h => absurd hx h, fun h => absurd hx h⟩
  · cases rx
    cases ry
    obtain ⟨its, r1, p1, _⟩ := I.tuple ha
    obtain ⟨its2, r2, p2, _⟩ := I.tuple hb
    refine HT.cat_tup p1 p2 (fun z => hx (r1.nil_iff.mp z)) (fun z => ⟨.ref a, H, I, rfl, q1 hx (r2.nil_iff.mp z)⟩) (fun z => ?_) (by rw [← r1.length, ← r2.length]; exact hz)
    exact laidT I (r1.append r2) (by rw [List.length_append]; exact hz) (q2 hx fun w => z (r2.nil_iff.mpr w))
def rSlX (K : PySem.W.Frag) : V → Option Int → Option Int → Hp → VK → Prop := fun x lo hi H Q => ∃ a xs, x = .ref a ∧ SqT K H a xs ∧
  (HT.sIx xs.length 0 lo = 0 ∧ HT.sIx xs.length xs.length hi = xs.length → Q (.ref a) H) ∧ (¬ (HT.sIx xs.length 0 lo = 0 ∧ HT.sIx xs.length xs.length hi = xs.length) → NewT (cutV xs lo hi) H Q)
omit [TheW] in
theorem sl_tupX : SlR X (rSlX X.K) := by
  intro pins s σ H x v vl vu lo hi sl Q I rx hs pl pu h
  obtain ⟨a, xs, rfl, hx, q1, q2⟩ := h
  by_cases hw : HT.sIx xs.length 0 lo = 0 ∧ HT.sIx xs.length xs.length hi = xs.length
  · exact sl_tupA pins s σ H _ v vl vu lo hi sl Q I rx hs pl pu ⟨a, xs, rfl, hx, q1, fun h => absurd hw h⟩
  · cases rx
    obtain ⟨its, r, ht, hz⟩ := I.tuple hx
    have hlen : its.toArray.size = xs.length := by rw [List.size_toArray]; exact r.length.symm
    refine ⟨"tuple", _, PyProof.Rows.slot_tuple_getitem.lookup, ht.typeIs, ?_⟩
    refine HT.getItem_tuple_cut ht hs pl pu (by rw [hlen]; exact hw) ?_ (by rw [hlen]; exact hz)
    rw [hlen]
    exact laidT I ((r.drop (HT.sIx xs.length 0 lo)).take (HT.sIx xs.length xs.length hi - HT.sIx xs.length 0 lo)) (Nat.le_trans (cutV_length xs lo hi) hz) (q2 hw)
omit [TheW] in
theorem call_tupleX : CallR X (.type "tuple") (fun xs H Q => ∃ p ys, xs = [.ref p] ∧ ((SqL X.K H p ys ∧ NewT ys H Q) ∨ (SqT X.K H p ys ∧ Q (.ref p) H))) := by
  intro pins s σ H xs us Q I r h
  obtain ⟨p, ys, rfl, h⟩ := h
  rcases h with ⟨hq, q⟩ | ⟨hq, q⟩
  · obtain ⟨u, rfl, rx⟩ := vals1 r
    cases rx
    obtain ⟨its, r', pl, hz⟩ := I.list hq
    have hlen := r'.length
    refine call_tuple_list pl.isList (fun h' kp => ?_) (by simp only [List.size_toArray]; omega)
    exact laidT (I.kept (t' := s.toks) kp) r' hz q
  · exact call_tuple_of pins s σ H _ us Q I r ⟨p, ys, rfl, .inr ⟨hq, q⟩⟩
end
end DL
/-! DL0: the data level. What a value stands for (Rep), what a frame's slots hold (EnvR), what a step keeps (FrO). -/
namespace DL
open PySem L2
variable [TheW]

abbrev Zs := Addr → Prop

def keyD1 : Key → PyData
  | .inl i => .int i
  | .inr x => .str x
def keyD (k : List Key) : PyData := .tuple (k.map keyD1)

mutual
inductive Rep (Z : Zs) (H : Hp) : V → PyData → Prop
  | non : Rep Z H .non .none
  | bl (b : Bool) : Rep Z H (.bl b) (.bool b)
  | int (i : Int) : Rep Z H (.int i) (.int i)
  | str (x : Str) (h : PyData.strOk x = true) : Rep Z H (.str x) (.str x)
  | lst {a : Addr} {xs : List V} {ds : List PyData} : H a = some (.lst xs) → ¬ Z a → RepL Z H xs ds → Rep Z H (.ref a) (.list ds)
  | tup {a : Addr} {xs : List V} {ds : List PyData} : IsT H a xs → RepL Z H xs ds → Rep Z H (.ref a) (.tuple ds)
  | dct {a : Addr} {od : Obj} {kvs : List (List Key × Addr × V)} {kds : List (PyData × PyData)} : H a = some (.frz od (DctO a kvs)) → RepK Z H kvs kds → Rep Z H (.ref a) (.dict kds)
inductive RepL (Z : Zs) (H : Hp) : List V → List PyData → Prop
  | nil : RepL Z H [] []
  | cons {v : V} {d : PyData} {vs : List V} {ds : List PyData} : Rep Z H v d → RepL Z H vs ds → RepL Z H (v :: vs) (d :: ds)
inductive RepK (Z : Zs) (H : Hp) : List (List Key × Addr × V) → List (PyData × PyData) → Prop
  | nil : RepK Z H [] []
  | cons {k : List Key} {q : Addr} {v : V} {d : PyData} {kvs : List (List Key × Addr × V)} {kds : List (PyData × PyData)} : IsT H q (k.map kV) → Rep Z H (.ref q) (keyD k) → Rep Z H v d → RepK Z H kvs kds → RepK Z H ((k, q, v) :: kvs) ((keyD k, d) :: kds)
end

/-- what a description leans on is kept -/
structure Fr (Z : Zs) (H : Hp) (Z' : Zs) (H' : Hp) : Prop where
  lst : ∀ a xs, H a = some (.lst xs) → ¬ Z a → H' a = some (.lst xs) ∧ ¬ Z' a
  tup : ∀ a xs, H a = some (.tup xs) → H' a = some (.tup xs)
  frz : ∀ a o u, H a = some (.frz o u) → H' a = some (.frz o u)
theorem Fr.refl (Z : Zs) (H : Hp) : Fr Z H Z H := ⟨fun _ _ h n => ⟨h, n⟩, fun _ _ h => h, fun _ _ _ h => h⟩
theorem Fr.trans {Z Z1 Z2 : Zs} {H H1 H2 : Hp} (a : Fr Z H Z1 H1) (b : Fr Z1 H1 Z2 H2) : Fr Z H Z2 H2 :=
  ⟨fun x xs h n => let ⟨h1, n1⟩ := a.lst x xs h n; b.lst x xs h1 n1, fun x xs h => b.tup x xs (a.tup x xs h), fun x o u h => b.frz x o u (a.frz x o u h)⟩
theorem Fr.shrink {Z Z' : Zs} {H : Hp} (h : ∀ a, Z' a → Z a) : Fr Z H Z' H := ⟨fun _ _ e n => ⟨e, fun z => n (h _ z)⟩, fun _ _ e => e, fun _ _ _ e => e⟩

omit [TheW] in
theorem IsT.mono {Z Z' : Zs} {H H' : Hp} {a : Addr} {xs : List V} (h : IsT H a xs) (f : Fr Z H Z' H') : IsT H' a xs := let ⟨o, e, d⟩ := h; ⟨o, f.frz _ _ _ e, d⟩
mutual
theorem Rep.mono {Z Z' : Zs} {H H' : Hp} (f : Fr Z H Z' H') : ∀ {v : V} {d : PyData}, Rep Z H v d → Rep Z' H' v d
  | _, _, .non => .non
  | _, _, .bl b => .bl b
  | _, _, .int i => .int i
  | _, _, .str x h => .str x h
  | _, _, .lst h n r => let ⟨h', n'⟩ := f.lst _ _ h n; .lst h' n' (RepL.mono f r)
  | _, _, .tup h r => .tup (h.mono f) (RepL.mono f r)
  | _, _, .dct h r => .dct (f.frz _ _ _ h) (RepK.mono f r)
theorem RepL.mono {Z Z' : Zs} {H H' : Hp} (f : Fr Z H Z' H') : ∀ {vs : List V} {ds : List PyData}, RepL Z H vs ds → RepL Z' H' vs ds
  | _, _, .nil => .nil
  | _, _, .cons h t => .cons (Rep.mono f h) (RepL.mono f t)
theorem RepK.mono {Z Z' : Zs} {H H' : Hp} (f : Fr Z H Z' H') : ∀ {vs : List (List Key × Addr × V)} {ds : List (PyData × PyData)}, RepK Z H vs ds → RepK Z' H' vs ds
  | _, _, .nil => .nil
  | _, _, .cons e q h t => .cons (e.mono f) (Rep.mono f q) (Rep.mono f h) (RepK.mono f t)
end

theorem RepL.length {Z : Zs} {H : Hp} : ∀ {vs : List V} {ds : List PyData}, RepL Z H vs ds → vs.length = ds.length
  | _, _, .nil => rfl
  | _, _, .cons _ t => congrArg Nat.succ t.length
theorem RepL.get {Z : Zs} {H : Hp} : ∀ {vs : List V} {ds : List PyData} {i : Nat} {d : PyData}, RepL Z H vs ds → ds[i]? = some d → ∃ v, vs[i]? = some v ∧ Rep Z H v d
  | _, _, _, _, .nil, h => by simp at h
  | _, _, 0, _, .cons h _, e => by simp at e; subst e; exact ⟨_, rfl, h⟩
  | _, _, i + 1, _, .cons _ t, e => by
    obtain ⟨v, h1, h2⟩ := RepL.get (i := i) t (by simpa using e)
    exact ⟨v, by simpa using h1, h2⟩
theorem RepL.getV {Z : Zs} {H : Hp} : ∀ {vs : List V} {ds : List PyData} {i : Nat} {v : V}, RepL Z H vs ds → vs[i]? = some v → ∃ d, ds[i]? = some d ∧ Rep Z H v d
  | _, _, _, _, .nil, h => by simp at h
  | _, _, 0, _, .cons h _, e => by simp at e; subst e; exact ⟨_, rfl, h⟩
  | _, _, i + 1, _, .cons _ t, e => by
    obtain ⟨v, h1, h2⟩ := RepL.getV (i := i) t (by simpa using e)
    exact ⟨v, by simpa using h1, h2⟩
theorem RepL.append {Z : Zs} {H : Hp} : ∀ {vs ws : List V} {ds es : List PyData}, RepL Z H vs ds → RepL Z H ws es → RepL Z H (vs ++ ws) (ds ++ es)
  | _, _, _, _, .nil, s => s
  | _, _, _, _, .cons h t, s => .cons h (t.append s)
theorem RepL.take {Z : Zs} {H : Hp} : ∀ {vs : List V} {ds : List PyData} (n : Nat), RepL Z H vs ds → RepL Z H (vs.take n) (ds.take n)
  | _, _, 0, _ => by simp; exact .nil
  | _, _, _ + 1, .nil => by simp; exact .nil
  | _, _, n + 1, .cons h t => .cons h (t.take n)
theorem RepL.drop {Z : Zs} {H : Hp} : ∀ {vs : List V} {ds : List PyData} (n : Nat), RepL Z H vs ds → RepL Z H (vs.drop n) (ds.drop n)
  | _, _, 0, h => h
  | _, _, _ + 1, .nil => by simp; exact .nil
  | _, _, n + 1, .cons _ t => t.drop n
theorem RepL.set {Z : Zs} {H : Hp} {v : V} {d : PyData} (r : Rep Z H v d) : ∀ {vs : List V} {ds : List PyData} (i : Nat), RepL Z H vs ds → RepL Z H (vs.set i v) (ds.set i d)
  | _, _, _, .nil => .nil
  | _, _, 0, .cons _ t => .cons r t
  | _, _, i + 1, .cons h t => .cons h (RepL.set r i t)
theorem RepL.reverse {Z : Zs} {H : Hp} : ∀ {vs : List V} {ds : List PyData}, RepL Z H vs ds → RepL Z H vs.reverse ds.reverse
  | _, _, .nil => .nil
  | _, _, .cons h t => by rw [List.reverse_cons, List.reverse_cons]; exact t.reverse.append (.cons h .nil)
theorem RepL.dropLast {Z : Zs} {H : Hp} {vs : List V} {ds : List PyData} (r : RepL Z H vs ds) : RepL Z H vs.dropLast ds.dropLast := by
  rw [List.dropLast_eq_take, List.dropLast_eq_take, r.length]; exact r.take _
theorem RepL.eraseIdx {Z : Zs} {H : Hp} : ∀ {vs : List V} {ds : List PyData} (i : Nat), RepL Z H vs ds → RepL Z H (vs.eraseIdx i) (ds.eraseIdx i)
  | _, _, _, .nil => .nil
  | _, _, 0, .cons _ t => t
  | _, _, i + 1, .cons h t => .cons h (t.eraseIdx i)

/-! ### the frame's slots -/
/-- an owned list or dict -/
inductive OD where
  | lst (ds : List PyData)
  | dct (kds : List (PyData × PyData))
  | dK (kds : List (Str × PyData))
/-- what an expression gives: data, a raw value, or the owned thing of a slot -/
inductive DV where
  | d (x : PyData)
  | r (v : V)
  | b (i : Nat)
  | p (ds : List PyData)
inductive DS where
  | sh (x : DV)
  | own (o : OD)
structure DSt where
  e : List (Option DS)
  c : Nat
def DSt.set (s : DSt) (i : Nat) (x : DS) : DSt := ⟨s.e.set i (some x), s.c⟩
def OD.data : OD → PyData
  | .lst ds => .list ds
  | .dct k => .dict k
  | .dK k => .dict (k.map fun p => (.str p.1, p.2))

def RepS (Z : Zs) (H : Hp) : List (Key × V) → List (Str × PyData) → Prop
  | [], [] => True
  | (k, v) :: r, (x, d) :: t => k = .inr x ∧ Rep Z H v d ∧ RepS Z H r t
  | _, _ => False
theorem RepS.mono {Z Z' : Zs} {H H' : Hp} (f : Fr Z H Z' H') : ∀ {vs : List (Key × V)} {ds : List (Str × PyData)}, RepS Z H vs ds → RepS Z' H' vs ds
  | [], [], _ => trivial
  | (_, _) :: _, (_, _) :: _, ⟨a, b, c⟩ => ⟨a, b.mono f, RepS.mono f c⟩
def OwnR (Z : Zs) (H : Hp) (a : Addr) : OD → Prop
  | .lst ds => ∃ xs, H a = some (.lst xs) ∧ RepL Z H xs ds
  | .dct kds => ∃ kvs, H a = some (DctO a kvs) ∧ RepK Z H kvs kds
  | .dK kds => ∃ kvs, H a = some (.dK kvs) ∧ RepS Z H kvs kds
theorem OwnR.mono {Z Z' : Zs} {H H' : Hp} (f : Fr Z H Z' H') {a : Addr} (ha : H' a = H a) : ∀ {o : OD}, OwnR Z H a o → OwnR Z' H' a o
  | .lst _, ⟨xs, h, r⟩ => ⟨xs, ha.trans h, r.mono f⟩
  | .dct _, ⟨xs, h, r⟩ => ⟨xs, ha.trans h, r.mono f⟩
  | .dK _, ⟨xs, h, r⟩ => ⟨xs, ha.trans h, r.mono f⟩
theorem OwnR.isMut {Z : Zs} {H : Hp} {a : Addr} : ∀ {o : OD}, OwnR Z H a o → Mut (H a)
  | .lst _, ⟨_, h, _⟩ => by rw [h]; trivial
  | .dct _, ⟨_, h, _⟩ => by rw [h]; trivial
  | .dK _, ⟨_, h, _⟩ => by rw [h]; trivial
theorem mut_ne {H : Hp} {a : Addr} (m : Mut (H a)) : H a ≠ none := fun e => by rw [e] at m; exact m

/-- what runs around: Z the volatile addresses, F those of them that a call may write, G what stays true of them -/
structure Wd where
  Z : Zs
  F : Zs
  G : Nat → Zs → Hp → Prop
  FZ : ∀ a, F a → Z a
  stab : ∀ c Z Z' H H', G c Z H → (∀ a, F a → H' a = H a) → Fr Z H Z' H' → G c Z' H'

def OwnA (σ : L2.St) (s : DSt) : Zs := fun a => ∃ (i : Nat) (o : OD), s.e[i]? = some (some (.own o)) ∧ σ[i]? = some (some (.ref a))
def Zo (Z O : Zs) : Zs := fun a => Z a ∨ O a

/-- a tuple that was made for a loop's target -/
def PairR (Z : Zs) (H : Hp) (v : V) (ds : List PyData) : Prop := ∃ a xs, v = .ref a ∧ H a = some (.tup xs) ∧ RepL Z H xs ds
theorem PairR.mono {Z Z' : Zs} {H H' : Hp} (f : Fr Z H Z' H') {v : V} {ds : List PyData} (h : PairR Z H v ds) : PairR Z' H' v ds := let ⟨a, xs, e, h1, r⟩ := h; ⟨a, xs, e, f.tup _ _ h1, r.mono f⟩
def ShR (Z : Zs) (H : Hp) (v : V) : DV → Prop
  | .d x => Rep Z H v x
  | .r u => v = u
  | .b _ => False
  | .p ds => PairR Z H v ds
theorem ShR.mono {Z Z' : Zs} {H H' : Hp} (f : Fr Z H Z' H') {v : V} : ∀ {x : DV}, ShR Z H v x → ShR Z' H' v x
  | .d _, h => Rep.mono f h
  | .r _, h => h
  | .p _, h => PairR.mono f h

structure EnvR (W : Wd) (σ : L2.St) (H : Hp) (s : DSt) : Prop where
  len : σ.length = s.e.length
  sh : ∀ (i : Nat) (x : DV), s.e[i]? = some (some (.sh x)) → ∃ v, σ[i]? = some (some v) ∧ ShR (Zo W.Z (OwnA σ s)) H v x
  own : ∀ (i : Nat) (o : OD), s.e[i]? = some (some (.own o)) → ∃ a, σ[i]? = some (some (.ref a)) ∧ OwnR (Zo W.Z (OwnA σ s)) H a o ∧ ¬ W.Z a
  uniq : ∀ (i j : Nat) (o u : OD) (a : Addr), s.e[i]? = some (some (.own o)) → s.e[j]? = some (some (.own u)) → σ[i]? = some (some (.ref a)) → σ[j]? = some (some (.ref a)) → i = j
  muz : ∀ a, W.Z a → Mut (H a)
  g : W.G s.c (Zo W.Z (OwnA σ s)) H

theorem EnvR.omut {W : Wd} {σ : L2.St} {H : Hp} {s : DSt} (E : EnvR W σ H s) {a : Addr} (h : OwnA σ s a) : Mut (H a) ∧ ¬ W.Z a := by
  obtain ⟨i, o, e, q⟩ := h
  obtain ⟨a', q', r, n⟩ := E.own i o e
  rw [q] at q'
  cases q'
  exact ⟨r.isMut, n⟩

/-- what a step keeps: O the owned ahead of it, O' behind it -/
structure FrO (F : Zs) (O : Zs) (H : Hp) (O' : Zs) (H' : Hp) : Prop where
  keep : ∀ a o, H a = some o → ¬ F a → ¬ O a → H' a = some o
  own : ∀ a, O' a → O a ∨ H a = none
  dom : ∀ a, H' a = none → H a = none
theorem FrO.refl (F O : Zs) (H : Hp) : FrO F O H O H := ⟨fun _ _ h _ _ => h, fun _ h => .inl h, fun _ h => h⟩
theorem FrO.trans {F O O1 O2 : Zs} {H H1 H2 : Hp} (a : FrO F O H O1 H1) (b : FrO F O1 H1 O2 H2) : FrO F O H O2 H2 where
  keep := fun x o h nf no => b.keep x o (a.keep x o h nf no) nf fun z => by
    rcases a.own x z with q | q
    · exact no q
    · rw [h] at q; cases q
  own := fun x h => by
    rcases b.own x h with q | q
    · exact a.own x q
    · exact .inr (a.dom x q)
  dom := fun x h => a.dom x (b.dom x h)
theorem FrO.less {F O O1 O2 : Zs} {H H1 : Hp} (a : FrO F O H O1 H1) (h : ∀ x, O2 x → O1 x) : FrO F O H O2 H1 := ⟨a.keep, fun x z => a.own x (h x z), a.dom⟩

/-- descriptions stay over such a step -/
theorem FrO.fr {Z F O O' : Zs} {H H' : Hp} (a : FrO F O H O' H') (FZ : ∀ a, F a → Z a) (mz : ∀ a, Z a → Mut (H a)) (mo : ∀ a, O a → Mut (H a)) : Fr (Zo Z O) H (Zo Z O') H' where
  lst := fun x xs h n => ⟨a.keep x _ h (fun z => n (.inl (FZ x z))) fun z => n (.inr z), fun z => by
    rcases z with z | z
    · exact n (.inl z)
    · rcases a.own x z with q | q
      · exact n (.inr q)
      · rw [h] at q; cases q⟩
  tup := fun x xs h => a.keep x _ h (fun z => by have := mz x (FZ x z); rw [h] at this; exact this) fun z => by have := mo x z; rw [h] at this; exact this
  frz := fun x o u h => a.keep x _ h (fun z => by have := mz x (FZ x z); rw [h] at this; exact this) fun z => by have := mo x z; rw [h] at this; exact this
theorem EnvR.fr {W : Wd} {σ σ' : L2.St} {H H' : Hp} {s s' : DSt} (E : EnvR W σ H s) (a : FrO W.F (OwnA σ s) H (OwnA σ' s') H') : Fr (Zo W.Z (OwnA σ s)) H (Zo W.Z (OwnA σ' s')) H' :=
  a.fr W.FZ E.muz fun _ h => (E.omut h).1

/-- the heap has grown -/
def Ext (H H' : Hp) : Prop := ∀ a o, H a = some o → H' a = some o
theorem Ext.refl (H : Hp) : Ext H H := fun _ _ h => h
theorem Ext.trans {H H1 H2 : Hp} (a : Ext H H1) (b : Ext H1 H2) : Ext H H2 := fun x o h => b x o (a x o h)
theorem Ext.new {H : Hp} {p : Addr} {o : HO} (h : H p = none) : Ext H (upd H p o) := fun a u e => by rw [upd_ne (ne_of_none e h)]; exact e
theorem Ext.none {H H' : Hp} (x : Ext H H') {a : Addr} (h : H' a = Option.none) : H a = Option.none := by
  cases q : H a with
  | none => rfl
  | some o => rw [x a o q] at h; cases h
theorem Ext.eq {H H' : Hp} (x : Ext H H') {a : Addr} (h : H a ≠ Option.none) : H' a = H a := by
  cases q : H a with
  | none => exact absurd q h
  | some o => exact x a o q
theorem Ext.fr {H H' : Hp} (x : Ext H H') (Z : Zs) : Fr Z H Z H' := ⟨fun a xs h n => ⟨x _ _ h, n⟩, fun _ _ h => x _ _ h, fun _ _ _ h => x _ _ h⟩
theorem Ext.frO {H H' : Hp} (x : Ext H H') (F O : Zs) : FrO F O H O H' := ⟨fun a o h _ _ => x a o h, fun _ h => .inl h, fun _ h => x.none h⟩
theorem EnvR.ext {W : Wd} {σ : L2.St} {H H' : Hp} {s : DSt} (E : EnvR W σ H s) (x : Ext H H') : EnvR W σ H' s where
  len := E.len
  sh := fun i y h => let ⟨v, a, b⟩ := E.sh i y h; ⟨v, a, b.mono (x.fr _)⟩
  own := fun i o h => let ⟨a, e, r, n⟩ := E.own i o h; ⟨a, e, r.mono (x.fr _) (x.eq (mut_ne r.isMut)), n⟩
  uniq := E.uniq
  muz := fun a h => by rw [x.eq (mut_ne (E.muz a h))]; exact E.muz a h
  g := W.stab _ _ _ _ _ E.g (fun a h => x.eq (mut_ne (E.muz a (W.FZ a h)))) (x.fr _)
end DL
/-! DL1: how the slots change; the judgements of the data level. -/
namespace DL
open PySem L2
variable [TheW]

theorem getSet {α : Type} {l : List α} {i j : Nat} {x y : α} (h : (l.set i x)[j]? = some y) : (j = i ∧ y = x) ∨ (j ≠ i ∧ l[j]? = some y) := by
  by_cases e : j = i
  · subst e
    by_cases hl : j < l.length
    · rw [List.getElem?_set_self hl] at h; exact .inl ⟨rfl, (Option.some.inj h).symm⟩
    · rw [List.getElem?_eq_none (by simpa using hl)] at h; cases h
  · rw [List.getElem?_set_ne (Ne.symm e)] at h; exact .inr ⟨e, h⟩
theorem setSelf {α : Type} {l : List α} {i : Nat} {x : α} (h : i < l.length) : (l.set i x)[i]? = some x := List.getElem?_set_self h
theorem setNe {α : Type} {l : List α} {i j : Nat} {x : α} (h : j ≠ i) : (l.set i x)[j]? = l[j]? := List.getElem?_set_ne (Ne.symm h)

section
variable {W : Wd} {σ : L2.St} {H H' : Hp} {s : DSt} {i : Nat} {v : V} {x : DV} {o u : OD} {p a : Addr}

theorem zo_less {Z O O' : Zs} {H : Hp} (h : ∀ a, O' a → O a) : Fr (Zo Z O) H (Zo Z O') H := Fr.shrink fun a z => z.elim .inl fun q => .inr (h a q)

theorem ownA_setSh : OwnA (σ.set i (some v)) (s.set i (.sh x)) a → OwnA σ s a := by
  rintro ⟨j, o, h1, h2⟩
  rcases getSet h1 with ⟨_, e⟩ | ⟨n, e⟩
  · cases e
  · refine ⟨j, o, e, ?_⟩
    rw [setNe n] at h2; exact h2
theorem EnvR.setSh (E : EnvR W σ H s) (hi : i < σ.length) (r : ShR (Zo W.Z (OwnA σ s)) H v x) : EnvR W (σ.set i (some v)) H (s.set i (.sh x)) := by
  have f : Fr (Zo W.Z (OwnA σ s)) H (Zo W.Z (OwnA (σ.set i (some v)) (s.set i (.sh x)))) H := zo_less fun a h => ownA_setSh h
  refine ⟨by simp [DSt.set, E.len], fun j y h => ?_, fun j o h => ?_, fun j k o u a h1 h2 h3 h4 => ?_, E.muz, W.stab _ _ _ _ _ E.g (fun _ _ => rfl) f⟩
  · rcases getSet h with ⟨e, q⟩ | ⟨n, e⟩
    · subst e
      cases q
      exact ⟨v, setSelf hi, r.mono f⟩
    · obtain ⟨w, e1, e2⟩ := E.sh j y e
      exact ⟨w, by rw [setNe n]; exact e1, e2.mono f⟩
  · rcases getSet h with ⟨e, q⟩ | ⟨n, e⟩
    · cases q
    · obtain ⟨b, e1, e2, e3⟩ := E.own j o e
      exact ⟨b, by rw [setNe n]; exact e1, e2.mono f rfl, e3⟩
  · rcases getSet h1 with ⟨_, q⟩ | ⟨n1, e1⟩
    · cases q
    rcases getSet h2 with ⟨_, q⟩ | ⟨n2, e2⟩
    · cases q
    rw [setNe n1] at h3
    rw [setNe n2] at h4
    exact E.uniq j k o u a e1 e2 h3 h4

/-- a further volatile address -/
def Wd.add (W : Wd) (p : Addr) : Wd := ⟨fun a => W.Z a ∨ a = p, W.F, W.G, fun a h => .inl (W.FZ a h), W.stab⟩
theorem zo_drop {O : Zs} : Fr (Zo (W.add p).Z O) H (Zo W.Z O) H := Fr.shrink fun a z => z.elim (fun q => .inl (.inl q)) .inr
theorem EnvR.drop (E : EnvR (W.add p) σ H s) : EnvR W σ H s where
  len := E.len
  sh := fun j y h => let ⟨w, a, b⟩ := E.sh j y h; ⟨w, a, b.mono zo_drop⟩
  own := fun j o h => let ⟨w, a, b, c⟩ := E.own j o h; ⟨w, a, b.mono zo_drop rfl, fun z => c (.inl z)⟩
  uniq := E.uniq
  muz := fun a h => E.muz a (.inl h)
  g := W.stab _ _ _ _ _ E.g (fun _ _ => rfl) zo_drop
/-- a new object is added: fresh ahead, of a kind that may be written -/
theorem EnvR.add (E : EnvR W σ H s) (x : Ext H H') (hp : H p = none) (mp : Mut (H' p)) : EnvR (W.add p) σ H' s := by
  have E' := E.ext x
  have f : Fr (Zo W.Z (OwnA σ s)) H (Zo (W.add p).Z (OwnA σ s)) H' := ⟨fun a xs h n => ⟨x _ _ h, fun z => by
    rcases z with (z | z) | z
    · exact n (.inl z)
    · rw [z, hp] at h; cases h
    · exact n (.inr z)⟩, fun a xs h => x _ _ h, fun a o u h => x _ _ h⟩
  refine ⟨E.len, fun j y h => ?_, fun j o h => ?_, E.uniq, fun a h => ?_, W.stab _ _ _ _ _ E.g (fun a h => x.eq (mut_ne (E.muz a (W.FZ a h)))) f⟩
  · obtain ⟨w, a, b⟩ := E.sh j y h
    exact ⟨w, a, b.mono f⟩
  · obtain ⟨w, a, b, c⟩ := E.own j o h
    refine ⟨w, a, b.mono f (x.eq (mut_ne b.isMut)), fun z => ?_⟩
    rcases z with z | z
    · exact c z
    · have := b.isMut
      rw [z, hp] at this
      exact this
  · rcases h with h | h
    · exact E'.muz a h
    · rw [h]; exact mp
/-- the pending new object at p is given to slot i -/
theorem ownA_setOwn : OwnA (σ.set i (some (.ref p))) (s.set i (.own o)) a → OwnA σ s a ∨ a = p := by
  rintro ⟨j, u, h1, h2⟩
  rcases getSet h1 with ⟨e, q⟩ | ⟨n, e⟩
  · subst e
    rcases getSet h2 with ⟨_, q2⟩ | ⟨n2, _⟩
    · cases q2; exact .inr rfl
    · exact absurd rfl n2
  · rw [setNe n] at h2; exact .inl ⟨j, u, e, h2⟩
theorem EnvR.setOwn (E : EnvR (W.add p) σ H s) (hi : i < σ.length) (r : OwnR (Zo (W.add p).Z (OwnA σ s)) H p o) (nz : ¬ W.Z p) : EnvR W (σ.set i (some (.ref p))) H (s.set i (.own o)) := by
  have f : Fr (Zo (W.add p).Z (OwnA σ s)) H (Zo W.Z (OwnA (σ.set i (some (.ref p))) (s.set i (.own o)))) H := Fr.shrink fun a z => by
    rcases z with z | z
    · exact .inl (.inl z)
    · rcases ownA_setOwn z with z | z
      · exact .inr z
      · exact .inl (.inr z)
  refine ⟨by simp [DSt.set, E.len], fun j y h => ?_, fun j u h => ?_, fun j k o1 o2 a h1 h2 h3 h4 => ?_, fun a h => E.muz a (.inl h), W.stab _ _ _ _ _ E.g (fun _ _ => rfl) f⟩
  · rcases getSet h with ⟨_, q⟩ | ⟨n, e⟩
    · cases q
    · obtain ⟨w, e1, e2⟩ := E.sh j y e
      exact ⟨w, by rw [setNe n]; exact e1, e2.mono f⟩
  · rcases getSet h with ⟨e, q⟩ | ⟨n, e⟩
    · cases q
      exact ⟨p, by rw [e]; exact setSelf hi, r.mono f rfl, nz⟩
    · obtain ⟨b, e1, e2, e3⟩ := E.own j u e
      exact ⟨b, by rw [setNe n]; exact e1, e2.mono f rfl, fun z => e3 (.inl z)⟩
  · have notp : ∀ {j : Nat} {u : OD}, j ≠ i → s.e[j]? = some (some (.own u)) → (σ.set i (some (V.ref p)))[j]? = some (some (.ref p)) → False := fun {j u} n e q => by
      obtain ⟨b, e1, _, e3⟩ := E.own j u e
      rw [setNe n, e1] at q
      cases q
      exact e3 (.inr rfl)
    rcases getSet h1 with ⟨e1, _⟩ | ⟨n1, e1⟩
    · subst e1
      rcases getSet h2 with ⟨e2, _⟩ | ⟨n2, e2⟩
      · exact e2.symm
      · rcases getSet h3 with ⟨_, q⟩ | ⟨n, _⟩
        · cases q
          exact (notp n2 e2 h4).elim
        · exact absurd rfl n
    · rcases getSet h2 with ⟨e2, _⟩ | ⟨n2, e2⟩
      · subst e2
        rcases getSet h4 with ⟨_, q⟩ | ⟨n, _⟩
        · cases q
          exact (notp n1 e1 h3).elim
        · exact absurd rfl n
      · rw [setNe n1] at h3
        rw [setNe n2] at h4
        exact E.uniq j k o1 o2 a e1 e2 h3 h4
/-- the owned thing of slot i is changed -/
theorem ownA_chg (e : s.e[i]? = some (some (.own o))) : OwnA σ (s.set i (.own u)) a → OwnA σ s a := by
  rintro ⟨j, w, h1, h2⟩
  rcases getSet h1 with ⟨e1, _⟩ | ⟨n, e1⟩
  · subst e1; exact ⟨j, o, e, h2⟩
  · exact ⟨j, w, e1, h2⟩
theorem upd_fr {ob : HO} {Z Z' : Zs} (hp : Z p) (mp : Mut (H p)) (hz : ∀ a, Z' a → Z a) : Fr Z H Z' (upd H p ob) where
  lst := fun a xs h n => ⟨by rw [upd_ne (fun z => n (by rw [z]; exact hp))]; exact h, fun z => n (hz a z)⟩
  tup := fun a xs h => by rw [upd_ne (fun z => by rw [z] at h; rw [h] at mp; exact mp)]; exact h
  frz := fun a xs u h => by rw [upd_ne (fun z => by rw [z] at h; rw [h] at mp; exact mp)]; exact h
theorem EnvR.chg {ob : HO} (E : EnvR W σ H s) (e : s.e[i]? = some (some (.own o))) (hp : σ[i]? = some (some (.ref p))) (r : OwnR (Zo W.Z (OwnA σ s)) (upd H p ob) p u) : EnvR W σ (upd H p ob) (s.set i (.own u)) := by
  have op : OwnA σ s p := ⟨i, o, e, hp⟩
  have mp := E.omut op
  have hl : i < s.e.length := (List.getElem?_eq_some_iff.mp e).1
  have less : ∀ a, OwnA σ (s.set i (.own u)) a → OwnA σ s a := fun a => ownA_chg e
  have f0 : Fr (Zo W.Z (OwnA σ s)) H (Zo W.Z (OwnA σ (s.set i (.own u)))) (upd H p ob) := upd_fr (.inr op) mp.1 fun a z => z.elim .inl fun q => .inr (less a q)
  refine ⟨by simp [DSt.set, E.len], fun j y h => ?_, fun j w h => ?_, fun j k o1 o2 a h1 h2 h3 h4 => ?_, fun a h => ?_, W.stab _ _ _ _ _ E.g (fun a h => upd_ne fun z => mp.2 (by rw [← z]; exact W.FZ a h)) f0⟩
  · rcases getSet h with ⟨_, q⟩ | ⟨n, e1⟩
    · cases q
    · obtain ⟨w, a, b⟩ := E.sh j y e1
      exact ⟨w, a, b.mono f0⟩
  · rcases getSet h with ⟨e1, q⟩ | ⟨n, e1⟩
    · cases q
      exact ⟨p, by rw [e1]; exact hp, r.mono (zo_less less) rfl, mp.2⟩
    · obtain ⟨b, a1, a2, a3⟩ := E.own j w e1
      have nb : b ≠ p := fun z => n (E.uniq j i w o p e1 e (by rw [← z]; exact a1) hp)
      exact ⟨b, a1, a2.mono f0 (upd_ne nb), a3⟩
  · have bk : ∀ {j : Nat} {o1 : OD}, (s.set i (.own u)).e[j]? = some (some (.own o1)) → ∃ o2, s.e[j]? = some (some (.own o2)) := fun {j o1} h => by
      rcases getSet h with ⟨e1, _⟩ | ⟨_, e1⟩
      · subst e1; exact ⟨o, e⟩
      · exact ⟨o1, e1⟩
    obtain ⟨_, q1⟩ := bk h1
    obtain ⟨_, q2⟩ := bk h2
    exact E.uniq j k _ _ a q1 q2 h3 h4
  · rw [upd_ne (fun z => mp.2 (by rw [← z]; exact h))]; exact E.muz a h
theorem chg_frO {ob : HO} {F O O' : Zs} (op : O p) (np : H p ≠ none) (less : ∀ a, O' a → O a) : FrO F O H O' (upd H p ob) where
  keep := fun a w h _ no => by rw [upd_ne (fun z => no (by rw [z]; exact op))]; exact h
  own := fun a h => .inl (less a h)
  dom := fun a h => by
    by_cases e : a = p
    · rw [e, upd_same] at h; cases h
    · rw [upd_ne e] at h; exact h
/-- the owned thing of slot i becomes shared -/
theorem ownA_frz : OwnA σ (s.set i (.sh x)) a → OwnA σ s a := by
  rintro ⟨j, w, h1, h2⟩
  rcases getSet h1 with ⟨e1, q⟩ | ⟨n, e1⟩
  · cases q
  · exact ⟨j, w, e1, h2⟩
theorem ownA_frz_ne (E : EnvR W σ H s) (e : s.e[i]? = some (some (.own o))) (hp : σ[i]? = some (some (.ref p))) : ¬ OwnA σ (s.set i (.sh x)) p := by
  rintro ⟨j, w, h1, h2⟩
  rcases getSet h1 with ⟨e1, q⟩ | ⟨n, e1⟩
  · cases q
  · exact n (E.uniq j i w o p e1 e h2 hp)
/-- slot i shows x from now on, the heap as given: either as it was, or with p's object locked -/
theorem EnvR.toSh {y : DV} (E : EnvR W σ H s) (e : s.e[i]? = some (some (.own o))) (hp : σ[i]? = some (some (.ref p))) (f : Fr (Zo W.Z (OwnA σ s)) H (Zo W.Z (OwnA σ (s.set i (.sh y)))) H')
    (hH : ∀ a, a ≠ p → H' a = H a) (r : ShR (Zo W.Z (OwnA σ (s.set i (.sh y)))) H' (.ref p) y) : EnvR W σ H' (s.set i (.sh y)) := by
  have op : OwnA σ s p := ⟨i, o, e, hp⟩
  have mp := E.omut op
  refine ⟨by simp [DSt.set, E.len], fun j z h => ?_, fun j w h => ?_, fun j k o1 o2 a h1 h2 h3 h4 => ?_, fun a h => ?_, W.stab _ _ _ _ _ E.g (fun a h => hH a fun z => mp.2 (by rw [← z]; exact W.FZ a h)) f⟩
  · rcases getSet h with ⟨e1, q⟩ | ⟨n, e1⟩
    · cases q
      exact ⟨_, by rw [e1]; exact hp, r⟩
    · obtain ⟨w, a, b⟩ := E.sh j z e1
      exact ⟨w, a, b.mono f⟩
  · rcases getSet h with ⟨_, q⟩ | ⟨n, e1⟩
    · cases q
    · obtain ⟨b, a1, a2, a3⟩ := E.own j w e1
      have nb : b ≠ p := fun z => n (E.uniq j i w o p e1 e (by rw [← z]; exact a1) hp)
      exact ⟨b, a1, a2.mono f (hH b nb), a3⟩
  · rcases getSet h1 with ⟨_, q⟩ | ⟨n1, e1⟩
    · cases q
    rcases getSet h2 with ⟨_, q⟩ | ⟨n2, e2⟩
    · cases q
    exact E.uniq j k o1 o2 a e1 e2 h3 h4
  · rw [hH a (fun z => mp.2 (by rw [← z]; exact h))]; exact E.muz a h
theorem EnvR.frzL {ds : List PyData} (E : EnvR W σ H s) (e : s.e[i]? = some (some (.own (.lst ds)))) (hp : σ[i]? = some (some (.ref p))) : EnvR W σ H (s.set i (.sh (.d (.list ds)))) ∧ Rep (Zo W.Z (OwnA σ (s.set i (.sh (.d (.list ds)))))) H (.ref p) (.list ds) := by
  obtain ⟨b, a1, ⟨xs, a2, a4⟩, a3⟩ := E.own i _ e
  rw [hp] at a1
  cases a1
  have f : Fr (Zo W.Z (OwnA σ s)) H (Zo W.Z (OwnA σ (s.set i (.sh (.d (.list ds)))))) H := zo_less fun a => ownA_frz
  have r : Rep (Zo W.Z (OwnA σ (s.set i (.sh (.d (.list ds)))))) H (.ref p) (.list ds) := .lst a2 (fun z => z.elim a3 (ownA_frz_ne E e hp)) (a4.mono f)
  exact ⟨E.toSh e hp f (fun _ _ => rfl) r, r⟩
theorem EnvR.frzD {kds : List (PyData × PyData)} {kvs : List (List Key × Addr × V)} {od : Obj} (E : EnvR W σ H s) (e : s.e[i]? = some (some (.own (.dct kds)))) (hp : σ[i]? = some (some (.ref p))) (hk : H p = some (DctO p kvs)) (a4 : RepK (Zo W.Z (OwnA σ s)) H kvs kds) :
    EnvR W σ (upd H p (.frz od (DctO p kvs))) (s.set i (.sh (.d (.dict kds)))) ∧ Rep (Zo W.Z (OwnA σ (s.set i (.sh (.d (.dict kds)))))) (upd H p (.frz od (DctO p kvs))) (.ref p) (.dict kds) := by
  have op : OwnA σ s p := ⟨i, _, e, hp⟩
  have mp := E.omut op
  have f : Fr (Zo W.Z (OwnA σ s)) H (Zo W.Z (OwnA σ (s.set i (.sh (.d (.dict kds)))))) (upd H p (.frz od (DctO p kvs))) := upd_fr (.inr op) mp.1 fun a z => z.elim .inl fun q => .inr (ownA_frz q)
  have r : Rep (Zo W.Z (OwnA σ (s.set i (.sh (.d (.dict kds)))))) (upd H p (.frz od (DctO p kvs))) (.ref p) (.dict kds) := .dct upd_same (a4.mono f)
  exact ⟨E.toSh e hp f (fun _ n => upd_ne n) r, r⟩
end
end DL
/-! DL2: the judgements of the data level; names, constants, operators, tests, displays. -/
namespace DL
open PySem L2
variable [TheW]

abbrev DTE := DSt → (DV → DSt → Prop) → Prop
abbrev DTT := DSt → (Bool → DSt → Prop) → Prop
abbrev DTA := DSt → (List DV → DSt → Prop) → Prop
abbrev DTF := DSt → (OD → DSt → Prop) → Prop
structure DEnds where
  nx : DSt → Prop
  rt : DV → DSt → Prop
  bk : DSt → Prop := fun _ => False
  ct : DSt → Prop := fun _ => False
abbrev DTS := DEnds → DSt → Prop
abbrev DTG := DV → DSt → (DSt → Prop) → Prop
abbrev DTGs := List DV → DSt → (DSt → Prop) → Prop
abbrev DTI := DSt → (List DV → DSt → Prop) → Prop

section
variable {X : Cx} {e : Expr} {st : Stmt} {sts : List Stmt}
theorem _root_.L2.PE.weak {t t' : TE} (h : PE X e t) (w : ∀ σ H Q, t' σ H Q → t σ H Q) : PE X e t' := ⟨fun pins s σ H Q I q => h.run pins s σ H Q I (w _ _ _ q)⟩
theorem _root_.L2.PT.weak {t t' : TT} (h : PT X e t) (w : ∀ σ H Q, t' σ H Q → t σ H Q) : PT X e t' := ⟨fun pins s σ H Q I q => h.run pins s σ H Q I (w _ _ _ q)⟩
theorem _root_.L2.PW.weak {t t' : TT} (h : PW X e t) (w : ∀ σ H Q, t' σ H Q → t σ H Q) : PW X e t' := ⟨fun wh pins s σ H Q I q => h.run wh pins s σ H Q I (w _ _ _ q)⟩
theorem _root_.L2.PA.weak {es : List Expr} {t t' : TA} (h : PA X es t) (w : ∀ σ H Q, t' σ H Q → t σ H Q) : PA X es t' := ⟨fun pos pins s σ H Q I q => h.run pos pins s σ H Q I (w _ _ _ q)⟩
theorem _root_.L2.PS.weak {t t' : TS} (h : PS X st t) (w : ∀ D σ H, t' D σ H → t D σ H) : PS X st t' := ⟨fun pins s σ H D I q => h.run pins s σ H D I (w _ _ _ q)⟩
theorem _root_.L2.PSs.weak {t t' : TS} (h : PSs X sts t) (w : ∀ D σ H, t' D σ H → t D σ H) : PSs X sts t' := ⟨fun pins s σ H D I q => h.run pins s σ H D I (w _ _ _ q)⟩
theorem _root_.L2.PG.weak {t t' : TG} (h : PG X e t) (w : ∀ v σ H Q, t' v σ H Q → t v σ H Q) : PG X e t' := ⟨fun pins s σ H v u Q I r q => h.run pins s σ H v u Q I r (w _ _ _ _ q)⟩
theorem _root_.L2.PGs.weak {es : List Expr} {t t' : TGs} (h : PGs X es t) (w : ∀ v σ H Q, t' v σ H Q → t v σ H Q) : PGs X es t' := ⟨fun pins s σ H v u Q I r q => h.run pins s σ H v u Q I r (w _ _ _ _ q)⟩
theorem _root_.L2.PI.weak {tg : Expr} {t t' : TI} (h : PI X tg e t) (w : ∀ σ H R, t' σ H R → t σ H R) : PI X tg e t' := ⟨fun pins s σ H R I q => h.run pins s σ H R I (w _ _ _ q)⟩
end

/-- a value as the expression's end has it -/
def DVR (W : Wd) (σ : L2.St) (s : DSt) (H : Hp) (v : V) : DV → Prop
  | .d x => Rep (Zo W.Z (OwnA σ s)) H v x
  | .r u => v = u
  | .b i => σ[i]? = some (some v)
  | .p ds => PairR (Zo W.Z (OwnA σ s)) H v ds
theorem DVR.keep {W : Wd} {σ : L2.St} {s s' : DSt} {H H' : Hp} {v : V} (E : EnvR W σ H s) (f : FrO W.F (OwnA σ s) H (OwnA σ s') H') : ∀ {x : DV}, DVR W σ s H v x → DVR W σ s' H' v x
  | .d _, h => Rep.mono (E.fr f) h
  | .r _, h => h
  | .b _, h => h
  | .p _, h => PairR.mono (E.fr f) h
abbrev DVRs (W : Wd) (σ : L2.St) (s : DSt) (H : Hp) : List V → List DV → Prop := Paired (DVR W σ s H)
theorem DVRs.keep {W : Wd} {σ : L2.St} {s s' : DSt} {H H' : Hp} (E : EnvR W σ H s) (f : FrO W.F (OwnA σ s) H (OwnA σ s') H') : ∀ {vs : List V} {xs : List DV}, DVRs W σ s H vs xs → DVRs W σ s' H' vs xs
  | _, _, .nil => .nil
  | _, _, .cons h t => .cons (h.keep E f) (DVRs.keep E f t)

/-- one step of a body's state -/
structure Stp (W : Wd) (σ : L2.St) (H : Hp) (s : DSt) (σ' : L2.St) (H' : Hp) (s' : DSt) : Prop where
  env : EnvR W σ' H' s'
  fr : FrO W.F (OwnA σ s) H (OwnA σ' s') H'
theorem Stp.refl {W : Wd} {σ : L2.St} {H : Hp} {s : DSt} (E : EnvR W σ H s) : Stp W σ H s σ H s := ⟨E, .refl _ _ _⟩
theorem Stp.trans {W : Wd} {σ σ1 σ2 : L2.St} {H H1 H2 : Hp} {s s1 s2 : DSt} (a : Stp W σ H s σ1 H1 s1) (b : Stp W σ1 H1 s1 σ2 H2 s2) : Stp W σ H s σ2 H2 s2 := ⟨b.env, a.fr.trans b.fr⟩
theorem Stp.ext {W : Wd} {σ : L2.St} {H H' : Hp} {s : DSt} (E : EnvR W σ H s) (x : Ext H H') : Stp W σ H s σ H' s := ⟨E.ext x, x.frO _ _⟩

def liftE (W : Wd) (T : DTE) : TE := fun σ H Q' => ∃ (s : DSt) (Q : DV → DSt → Prop), EnvR W σ H s ∧ T s Q ∧ ∀ v H' x s', Stp W σ H s σ H' s' → DVR W σ s' H' v x → Q x s' → Q' v H'
def liftT (W : Wd) (T : DTT) : TT := fun σ H Q' => ∃ (s : DSt) (Q : Bool → DSt → Prop), EnvR W σ H s ∧ T s Q ∧ ∀ b H' s', Stp W σ H s σ H' s' → Q b s' → Q' b H'
def liftA (W : Wd) (T : DTA) : TA := fun σ H Q' => ∃ (s : DSt) (Q : List DV → DSt → Prop), EnvR W σ H s ∧ T s Q ∧ ∀ vs H' xs s', Stp W σ H s σ H' s' → DVRs W σ s' H' vs xs → Q xs s' → Q' vs H'
/-- a new list or dict, known to nobody else -/
def liftF (W : Wd) (T : DTF) : TE := fun σ H Q' => ∃ (s : DSt) (Q : OD → DSt → Prop), EnvR W σ H s ∧ T s Q ∧ ∀ p H' o s', Stp W σ H s σ H' s' → EnvR (W.add p) σ H' s' → OwnR (Zo (W.add p).Z (OwnA σ s')) H' p o → H p = none → ¬ W.Z p → ¬ OwnA σ s' p → Q o s' → Q' (.ref p) H'
def liftS (W : Wd) (T : DTS) : TS := fun D' σ H => ∃ (s : DSt) (D : DEnds), EnvR W σ H s ∧ T D s ∧ (∀ σ' H' s', Stp W σ H s σ' H' s' → D.nx s' → D'.nx σ' H') ∧
  (∀ v σ' H' x s', Stp W σ H s σ' H' s' → ShR (Zo W.Z (OwnA σ' s')) H' v x → D.rt x s' → D'.rt v H') ∧ (∀ σ' H' s', Stp W σ H s σ' H' s' → D.bk s' → D'.bk σ' H') ∧ (∀ σ' H' s', Stp W σ H s σ' H' s' → D.ct s' → D'.ct σ' H')
def liftG (W : Wd) (T : DTG) : TG := fun v σ H Q' => ∃ (s : DSt) (x : DV) (Q : DSt → Prop), EnvR W σ H s ∧ ShR (Zo W.Z (OwnA σ s)) H v x ∧ T x s Q ∧ ∀ σ' H' s', Stp W σ H s σ' H' s' → Q s' → Q' σ' H'
def liftGs (W : Wd) (T : DTGs) : TGs := fun vs σ H Q' => ∃ (s : DSt) (xs : List DV) (Q : DSt → Prop), EnvR W σ H s ∧ Paired (ShR (Zo W.Z (OwnA σ s)) H) vs xs ∧ T xs s Q ∧ ∀ σ' H' s', Stp W σ H s σ' H' s' → Q s' → Q' σ' H'

abbrev DE (X : Cx) (W : Wd) (e : Expr) (T : DTE) : Prop := PE X e (liftE W T)
abbrev DT (X : Cx) (W : Wd) (e : Expr) (T : DTT) : Prop := PT X e (liftT W T)
abbrev DW (X : Cx) (W : Wd) (e : Expr) (T : DTT) : Prop := PW X e (liftT W T)
abbrev DA (X : Cx) (W : Wd) (es : List Expr) (T : DTA) : Prop := PA X es (liftA W T)
abbrev DF (X : Cx) (W : Wd) (e : Expr) (T : DTF) : Prop := PE X e (liftF W T)
abbrev DS1 (X : Cx) (W : Wd) (st : Stmt) (T : DTS) : Prop := PS X st (liftS W T)
abbrev DSs (X : Cx) (W : Wd) (st : List Stmt) (T : DTS) : Prop := PSs X st (liftS W T)
abbrev DG (X : Cx) (W : Wd) (tg : Expr) (T : DTG) : Prop := PG X tg (liftG W T)
abbrev DGs (X : Cx) (W : Wd) (tgs : List Expr) (T : DTGs) : Prop := PGs X tgs (liftGs W T)

/-! ### names, constants -/
def dVar (i : Nat) : DTE := fun s Q => match s.e[i]? with
  | some (some (.sh x)) => Q x s
  | some (some (.own _)) => Q (.b i) s
  | _ => False
def dC (x : PyData) : DTE := fun s Q => Q (.d x) s
section
variable {X : Cx} {W : Wd} {e a b c : Expr} {pos : Pos}
theorem dv (i : Nat) {x : Str} {pos : Pos} (hN : X.N[i]? = some x := by rfl) (hv : Vis X.env.scope x := by first | exact Or.inl rfl | exact Or.inr (Or.inl rfl) | exact Or.inr (Or.inr rfl)) (hd : (x == ("__debug__" : Str)) = false := by decide)
    (hcd : (x == ("__classdict__" : Str)) = false := by decide) : DE X W (.Name x pos) (dVar i) := by
  refine (pe_var hN hv hd hcd).weak fun σ H Q' h => ?_
  obtain ⟨s, Q, E, t, k⟩ := h
  unfold dVar at t
  split at t
  · rename_i x q
    obtain ⟨v, e1, e2⟩ := E.sh i _ q
    refine ⟨v, e1, k v H x s (.refl E) ?_ t⟩
    cases x with
    | d y => exact e2
    | r u => exact e2
    | p u => exact e2
    | b j => exact e2.elim
  · rename_i o q
    obtain ⟨p, e1, _⟩ := E.own i _ q
    exact ⟨_, e1, k _ H (.b i) s (.refl E) e1 t⟩
  · exact t.elim
theorem dc_of {v : V} {x : PyData} (h : PE X e (tC v)) (r : ∀ Z H, Rep Z H v x) : DE X W e (dC x) :=
  h.weak fun σ H Q' ⟨s, Q, E, t, k⟩ => k v H (.d x) s (.refl E) (r _ _) t
theorem de_int {i j pos} : DE X W (.Constant (.int i) j pos) (dC (.int i)) := dc_of pe_int fun _ _ => .int i
theorem de_str {x j pos} (h : PyData.strOk x = true := by decide +kernel) : DE X W (.Constant (.str x) j pos) (dC (.str x)) := dc_of pe_str fun _ _ => .str x h
theorem de_bl {b j pos} : DE X W (.Constant (.bool b) j pos) (dC (.bool b)) := dc_of pe_bl fun _ _ => .bl b
theorem de_non {j pos} : DE X W (.Constant .none j pos) (dC .none) := dc_of pe_non fun _ _ => .non
theorem de_gint {x : Str} {i : Int} (hg : Gl X x) (hm : ∃ t, X.mg x = some (.int i t)) (hd : (x == ("__debug__" : Str)) = false := by decide) : DE X W (.Name x pos) (dC (.int i)) := by
  obtain ⟨t, ht⟩ := hm
  exact dc_of (pe_glob (v := .int i) hg ht ⟨t, rfl⟩ hd) fun _ _ => .int i
theorem de_gstr {x z : Str} (hz : PyData.strOk z = true) (hg : Gl X x) (hm : ∃ t, X.mg x = some (.str z t)) (hd : (x == ("__debug__" : Str)) = false := by decide) : DE X W (.Name x pos) (dC (.str z)) := by
  obtain ⟨t, ht⟩ := hm
  exact dc_of (pe_glob (v := .str z) hg ht ⟨t, rfl⟩ hd) fun _ _ => .str z hz

/-! ### what a value shows -/
def look (s : DSt) (x : DV) (K : PyData → Prop) : Prop := match x with
  | .d y => K y
  | .r _ => False
  | .p _ => False
  | .b i => match s.e[i]? with
    | some (some (.own (.lst ds))) => K (.list ds)
    | some (some (.own (.dct kds))) => K (.dict kds)
    | some (some (.sh (.d y))) => K y
    | _ => False
/-- weaker than Rep: the list or dict itself may be owned -/
def View (Z : Zs) (H : Hp) (v : V) : PyData → Prop
  | .list ds => ∃ a xs, v = .ref a ∧ H a = some (.lst xs) ∧ RepL Z H xs ds
  | .dict kds => ∃ a kvs, v = .ref a ∧ Rd H a (DctO a kvs) ∧ RepK Z H kvs kds
  | d => Rep Z H v d
theorem Rep.view {Z : Zs} {H : Hp} {v : V} {d : PyData} (r : Rep Z H v d) : View Z H v d := by
  cases r with
  | non => exact Rep.non
  | bl b => exact Rep.bl b
  | int i => exact Rep.int i
  | str x h => exact Rep.str x h
  | lst h n r => exact ⟨_, _, rfl, h, r⟩
  | tup h r => exact Rep.tup h r
  | dct h r => exact ⟨_, _, rfl, .inr ⟨_, h⟩, r⟩
theorem look_view {σ : L2.St} {s : DSt} {H : Hp} {v : V} {x : DV} {K : PyData → Prop} (E : EnvR W σ H s) (r : DVR W σ s H v x) (h : look s x K) : ∃ d, View (Zo W.Z (OwnA σ s)) H v d ∧ K d := by
  cases x with
  | d y => exact ⟨y, Rep.view r, h⟩
  | r u => exact h.elim
  | p u => exact h.elim
  | b i =>
    have r' : σ[i]? = some (some v) := r
    unfold look at h
    simp only at h
    split at h
    · rename_i ds q
      obtain ⟨p, e1, ⟨xs, e2, e3⟩, _⟩ := E.own i _ q
      rw [r'] at e1
      cases e1
      exact ⟨.list ds, ⟨p, xs, rfl, e2, e3⟩, h⟩
    · rename_i ds q
      obtain ⟨p, e1, ⟨xs, e2, e3⟩, _⟩ := E.own i _ q
      rw [r'] at e1
      cases e1
      exact ⟨.dict ds, ⟨p, xs, rfl, .inl e2, e3⟩, h⟩
    · rename_i y q
      obtain ⟨w, e1, e2⟩ := E.sh i _ q
      rw [r'] at e1
      cases e1
      exact ⟨y, Rep.view e2, h⟩
    · exact h.elim

/-! ### operators -/
abbrev D2 := PyData → PyData → (PyData → Prop) → Prop
def opRel (op : D2) : R2 := fun x y H Q => ∃ (Z : Zs) (dx dy : PyData) (K : PyData → Prop), (∀ a, Z a → Mut (H a)) ∧ View Z H x dx ∧ View Z H y dy ∧ op dx dy K ∧ ∀ v H' d, Ext H H' → Rep Z H' v d → K d → Q v H'
def OpD (X : Cx) (f : Value → Value → Sem Value) (op : D2) : Prop := OpR X f (opRel op)
theorem EnvR.mzo {σ : L2.St} {H : Hp} {s : DSt} (E : EnvR W σ H s) : ∀ a, Zo W.Z (OwnA σ s) a → Mut (H a) := fun a z => z.elim (E.muz a) fun z => (E.omut z).1
def dOp (op : D2) (Ta Tb : DTE) : DTE := fun s Q => Ta s fun x s1 => Tb s1 fun y s2 => look s2 x fun dx => look s2 y fun dy => op dx dy fun d => Q (.d d) s2
theorem op_core {op : D2} {Ta Tb : DTE} (σ : L2.St) (H : Hp) (Q' : VK) (h : liftE W (dOp op Ta Tb) σ H Q') : tOp (opRel op) (liftE W Ta) (liftE W Tb) σ H Q' := by
  obtain ⟨s, Q, E, t, k⟩ := h
  refine ⟨s, _, E, t, fun v H1 x s1 S1 r1 t1 => ⟨s1, _, S1.env, t1, fun u H2 y s2 S2 r2 t2 => ?_⟩⟩
  have r1' := r1.keep S1.env S2.fr
  obtain ⟨dx, v1, t3⟩ := look_view S2.env r1' t2
  obtain ⟨dy, v2, t4⟩ := look_view S2.env r2 t3
  exact ⟨_, dx, dy, _, S2.env.mzo, v1, v2, t4, fun w H3 d x3 r3 q => k w H3 (.d d) s2 ((S1.trans S2).trans (.ext S2.env x3)) r3 q⟩
theorem de_op {op : Operator} {g : D2} {Ta Tb : DTE} (ho : OpD X (binaryOp op) g) (ha : DE X W a Ta) (hb : DE X W b Tb) : DE X W (.BinOp a op b pos) (dOp g Ta Tb) :=
  (pe_op ho ha hb).weak fun σ H Q' h => op_core σ H Q' h
theorem de_cmp {op : CmpOp} {g : D2} {Ta Tb : DTE} (ho : OpD X (compareOp op) g) (ha : DE X W a Ta) (hb : DE X W b Tb) (hm : behindInMarks op b = false) : DE X W (.Compare a [op] [b] pos) (dOp g Ta Tb) :=
  (pe_cmpR ho ha hb hm).weak fun σ H Q' h => op_core σ H Q' h
/-- a value that is a truth, as a test -/
def dTest (T : DTE) : DTT := fun s Q => T s fun x s1 => match x with
  | .d (.bool b) => Q b s1
  | _ => False
theorem test_core {t : TE} {T : DTE} (hw : ∀ σ H Q, liftE W T σ H Q → t σ H Q) (σ : L2.St) (H : Hp) (Q' : Bool → Hp → Prop) (h : liftT W (dTest T) σ H Q') : tTest t σ H Q' := by
  obtain ⟨s, Q, E, t, k⟩ := h
  refine hw _ _ _ ⟨s, _, E, t, fun v H1 x s1 S1 r1 t1 => ?_⟩
  split at t1
  · rename_i b
    cases r1
    exact ⟨b, rfl, k b H1 s1 S1 t1⟩
  · exact t1.elim
theorem dt_cmp {op : CmpOp} {g : D2} {Ta Tb : DTE} (ho : OpD X (compareOp op) g) (ha : DE X W a Ta) (hb : DE X W b Tb) (hm : behindInMarks op b = false) : DT X W (.Compare a [op] [b] pos) (dTest (dOp g Ta Tb)) :=
  (pt_cmpR ho ha hb hm).weak fun σ H Q' h => test_core (fun σ H Q' h => op_core σ H Q' h) σ H Q' h
/-- any other expression that gives a truth, as a test -/
theorem dt_val {T : DTE} (h : DE X W e T) (he : ∀ whole, isTrue e X.env whole = (do let v ← whole; standAt e.pos; holding [v] (truthy v)) := by intro _; rfl) : DT X W e (dTest T) :=
  (pt_val h he).weak fun σ H Q' h => test_core (t := liftE W T) (fun σ H Q' h => h) σ H Q' h
def dChain (op op' : D2) (Ta Tb Tc : DTE) : DTE := fun s Q => Ta s fun x s1 => Tb s1 fun y s2 => look s2 x fun dx => look s2 y fun dy => op dx dy fun d => match d with
  | .bool b => if b = true then Tc s2 fun z s3 => look s3 y fun dy' => look s3 z fun dz => op' dy' dz fun d' => Q (.d d') s3 else Q (.d (.bool false)) s2
  | _ => False
theorem chain_core {op op' : D2} {Ta Tb Tc : DTE} (σ : L2.St) (H : Hp) (Q' : VK) (h : liftE W (dChain op op' Ta Tb Tc) σ H Q') : tChain (opRel op) (opRel op') (liftE W Ta) (liftE W Tb) (liftE W Tc) σ H Q' := by
  obtain ⟨s, Q, E, t, k⟩ := h
  refine ⟨s, _, E, t, fun v H1 x s1 S1 r1 t1 => ⟨s1, _, S1.env, t1, fun u H2 y s2 S2 r2 t2 => ?_⟩⟩
  have r1' := r1.keep S1.env S2.fr
  obtain ⟨dx, v1, t3⟩ := look_view S2.env r1' t2
  obtain ⟨dy, v2, t4⟩ := look_view S2.env r2 t3
  refine ⟨_, dx, dy, _, S2.env.mzo, v1, v2, t4, fun w H3 d x3 r3 q => ?_⟩
  have S3 : Stp W σ H2 s2 σ H3 s2 := .ext S2.env x3
  split at q
  · rename_i b
    cases r3
    refine ⟨b, rfl, ?_⟩
    cases b with
    | true =>
      rw [if_pos rfl] at q ⊢
      refine ⟨s2, _, S3.env, q, fun z H4 zz s4 S4 r4 t5 => ?_⟩
      have r2' := (r2.keep S2.env S3.fr).keep S3.env S4.fr
      obtain ⟨dy', v3, t6⟩ := look_view S4.env r2' t5
      obtain ⟨dz, v4, t7⟩ := look_view S4.env r4 t6
      exact ⟨_, dy', dz, _, S4.env.mzo, v3, v4, t7, fun w H5 d x5 r5 q => k w H5 (.d d) s4 ((((S1.trans S2).trans S3).trans S4).trans (.ext S4.env x5)) r5 q⟩
    | false =>
      rw [if_neg Bool.false_ne_true] at q ⊢
      exact k _ H3 (.d (.bool false)) s2 ((S1.trans S2).trans S3) (.bl false) q
  · exact q.elim
theorem de_chain {op op' : CmpOp} {g g' : D2} {Ta Tb Tc : DTE} (ho : OpD X (compareOp op) g) (ho' : OpD X (compareOp op') g') (ha : DE X W a Ta) (hb : DE X W b Tb) (hc : DE X W c Tc)
    (hm : lastMarks [op, op'] [b, c] = false := by with_unfolding_all rfl) : DE X W (.Compare a [op, op'] [b, c] pos) (dChain g g' Ta Tb Tc) :=
  (pe_chain ho ho' ha hb hc hm).weak fun σ H Q' h => chain_core σ H Q' h
theorem dt_chain {op op' : CmpOp} {g g' : D2} {Ta Tb Tc : DTE} (ho : OpD X (compareOp op) g) (ho' : OpD X (compareOp op') g') (ha : DE X W a Ta) (hb : DE X W b Tb) (hc : DE X W c Tc)
    (hm : lastMarks [op, op'] [b, c] = false := by with_unfolding_all rfl) : DT X W (.Compare a [op, op'] [b, c] pos) (dTest (dChain g g' Ta Tb Tc)) :=
  (pt_chain ho ho' ha hb hc hm).weak fun σ H Q' h => test_core (fun σ H Q' h => chain_core σ H Q' h) σ H Q' h

/-! ### and, or, not -/
def dAndT (t u : DTT) : DTT := fun s Q => t s fun c s1 => if c = true then u s1 Q else Q false s1
def dOrT (t u : DTT) : DTT := fun s Q => t s fun c s1 => if c = true then Q true s1 else u s1 Q
def dNotT (t : DTT) : DTT := fun s Q => t s fun c s1 => Q (!c) s1
variable {rest : List Expr}
theorem dw_and1 {T : DTT} (ha : DT X W a T) : DW X W (.BoolOp .And [a] pos) T := pw_and1 ha
theorem dw_or1 {T : DTT} (ha : DT X W a T) : DW X W (.BoolOp .Or [a] pos) T := pw_or1 ha
theorem dw_and {T U : DTT} (ha : DT X W a T) (hb : DW X W (.BoolOp .And (b :: rest) pos) U) : DW X W (.BoolOp .And (a :: b :: rest) pos) (dAndT T U) := by
  refine (pw_and ha hb).weak fun σ H Q' h => ?_
  obtain ⟨s, Q, E, t, k⟩ := h
  refine ⟨s, _, E, t, fun c H1 s1 S1 t1 => ?_⟩
  cases c with
  | true => exact ⟨s1, Q, S1.env, t1, fun b H2 s2 S2 q => k b H2 s2 (S1.trans S2) q⟩
  | false => exact k false H1 s1 S1 t1
theorem dw_or {T U : DTT} (ha : DT X W a T) (hb : DW X W (.BoolOp .Or (b :: rest) pos) U) : DW X W (.BoolOp .Or (a :: b :: rest) pos) (dOrT T U) := by
  refine (pw_or ha hb).weak fun σ H Q' h => ?_
  obtain ⟨s, Q, E, t, k⟩ := h
  refine ⟨s, _, E, t, fun c H1 s1 S1 t1 => ?_⟩
  cases c with
  | false => exact ⟨s1, Q, S1.env, t1, fun b H2 s2 S2 q => k b H2 s2 (S1.trans S2) q⟩
  | true => exact k true H1 s1 S1 t1
theorem dt_w {T : DTT} (h : DW X W e T) : DT X W e T := h.pt
theorem dt_not {T : DTT} (ha : DT X W a T) : DT X W (.UnaryOp .Not a pos) (dNotT T) :=
  (pt_not ha).weak fun σ H Q' ⟨s, Q, E, t, k⟩ => ⟨s, _, E, t, fun c H1 s1 S1 t1 => k (!c) H1 s1 S1 t1⟩
def dAnd (Ta Tb : DTE) : DTE := fun s Q => Ta s fun x s1 => match x with
  | .d (.bool c) => if c = true then Tb s1 Q else Q (.d (.bool false)) s1
  | _ => False
def dOr (Ta Tb : DTE) : DTE := fun s Q => Ta s fun x s1 => match x with
  | .d (.bool c) => if c = true then Q (.d (.bool true)) s1 else Tb s1 Q
  | _ => False
def dNot (Ta : DTE) : DTE := fun s Q => Ta s fun x s1 => match x with
  | .d (.bool c) => Q (.d (.bool (!c))) s1
  | _ => False
theorem de_one {op} {T : DTE} (h : DE X W a T) : DE X W (.BoolOp op [a] pos) T := pe_one h
theorem de_and {Ta Tb : DTE} (ha : DE X W a Ta) (hb : DE X W (.BoolOp .And (b :: rest) pos) Tb) : DE X W (.BoolOp .And (a :: b :: rest) pos) (dAnd Ta Tb) := by
  refine (pe_and ha hb).weak fun σ H Q' h => ?_
  obtain ⟨s, Q, E, t, k⟩ := h
  refine ⟨s, _, E, t, fun v H1 x s1 S1 r1 t1 => ?_⟩
  split at t1
  · rename_i c
    cases r1
    refine ⟨c, rfl, ?_⟩
    cases c with
    | true => exact ⟨s1, Q, S1.env, t1, fun v H2 x s2 S2 r q => k v H2 x s2 (S1.trans S2) r q⟩
    | false => exact k _ H1 (.d (.bool false)) s1 S1 (Rep.bl false) t1
  · exact t1.elim
theorem de_or {Ta Tb : DTE} (ha : DE X W a Ta) (hb : DE X W (.BoolOp .Or (b :: rest) pos) Tb) : DE X W (.BoolOp .Or (a :: b :: rest) pos) (dOr Ta Tb) := by
  refine (pe_or ha hb).weak fun σ H Q' h => ?_
  obtain ⟨s, Q, E, t, k⟩ := h
  refine ⟨s, _, E, t, fun v H1 x s1 S1 r1 t1 => ?_⟩
  split at t1
  · rename_i c
    cases r1
    refine ⟨c, rfl, ?_⟩
    cases c with
    | false => exact ⟨s1, Q, S1.env, t1, fun v H2 x s2 S2 r q => k v H2 x s2 (S1.trans S2) r q⟩
    | true => exact k _ H1 (.d (.bool true)) s1 S1 (Rep.bl true) t1
  · exact t1.elim
theorem de_not {Ta : DTE} (ha : DE X W a Ta) : DE X W (.UnaryOp .Not a pos) (dNot Ta) := by
  refine (pe_not ha).weak fun σ H Q' h => ?_
  obtain ⟨s, Q, E, t, k⟩ := h
  refine ⟨s, _, E, t, fun v H1 x s1 S1 r1 t1 => ?_⟩
  split at t1
  · rename_i c
    cases r1
    exact ⟨c, rfl, k _ H1 (.d (.bool (!c))) s1 S1 (Rep.bl _) t1⟩
  · exact t1.elim

/-! ### capping: what is borrowed is given away -/
def capQ (x : DV) (s : DSt) (Q : DV → DSt → Prop) : Prop := match x with
  | .d y => Q (.d y) s
  | .r v => Q (.r v) s
  | .p _ => False
  | .b i => match s.e[i]? with
    | some (some (.own (.lst ds))) => Q (.d (.list ds)) (s.set i (.sh (.d (.list ds))))
    | some (some (.own (.dct kds))) => Q (.d (.dict kds)) (s.set i (.sh (.d (.dict kds))))
    | some (some (.sh x)) => Q x s
    | _ => False
theorem cap_ok {σ : L2.St} {s : DSt} {H : Hp} {v : V} {x : DV} {pins : List (Addr × Obj)} {s1 : Shared} {Q : DV → DSt → Prop} (I : Inv X pins σ H s1) (E : EnvR W σ H s) (r : DVR W σ s H v x) (h : capQ x s Q) :
    ∃ H' y s', Inv X pins σ H' s1 ∧ Stp W σ H s σ H' s' ∧ ShR (Zo W.Z (OwnA σ s')) H' v y ∧ Q y s' := by
  cases x with
  | d y => exact ⟨H, .d y, s, I, .refl E, r, h⟩
  | r u => exact ⟨H, .r u, s, I, .refl E, r, h⟩
  | p u => exact h.elim
  | b i =>
    have r' : σ[i]? = some (some v) := r
    unfold capQ at h
    simp only at h
    split at h
    · rename_i ds q
      obtain ⟨p, e1, _⟩ := E.own i _ q
      have e2 := e1
      rw [r'] at e2
      cases e2
      obtain ⟨E', R⟩ := E.frzL q e1
      exact ⟨H, .d (.list ds), _, I, ⟨E', ⟨fun _ _ h _ _ => h, fun _ h => .inl (ownA_frz h), fun _ h => h⟩⟩, R, h⟩
    · rename_i kds q
      obtain ⟨p, e1, ⟨kvs, e3, rk⟩, _⟩ := E.own i _ q
      have e2 := e1
      rw [r'] at e2
      cases e2
      obtain ⟨od, I'⟩ := I.lock e3 trivial
      obtain ⟨E', R⟩ := E.frzD (od := od) q e1 e3 rk
      refine ⟨_, .d (.dict kds), _, I', ⟨E', chg_frO ⟨i, _, q, e1⟩ (by rw [e3]; intro z; cases z) fun _ h => ownA_frz h⟩, R, h⟩
    · rename_i y q
      obtain ⟨w, e1, e2⟩ := E.sh i _ q
      rw [r'] at e1
      cases e1
      exact ⟨H, y, s, I, .refl E, e2, h⟩
    · exact h.elim
def dCap (T : DTE) : DTE := fun s Q => T s fun x s1 => capQ x s1 Q
theorem ShR.dvr {σ : L2.St} {s : DSt} {H : Hp} {v : V} : ∀ {x : DV}, ShR (Zo W.Z (OwnA σ s)) H v x → DVR W σ s H v x
  | .d _, h => h
  | .r _, h => h
  | .p _, h => h
theorem de_cap {T : DTE} (h : DE X W e T) : DE X W e (dCap T) := by
  refine ⟨fun pins s0 σ H Q' I hq => ?_⟩
  obtain ⟨s, Q, E, t, k⟩ := hq
  refine thn (h.run pins s0 σ H (fun v H1 => ∃ x s1, Stp W σ H s σ H1 s1 ∧ DVR W σ s1 H1 v x ∧ capQ x s1 Q) I ⟨s, _, E, t, fun v H1 x s1 S1 r1 t1 => ⟨x, s1, S1, r1, t1⟩⟩) fun u sh ⟨v, H1, I1, rv, x, s1, S1, r1, t1⟩ => ?_
  obtain ⟨H2, y, s2, I2, S2, r2, q⟩ := cap_ok I1 S1.env r1 t1
  exact ⟨v, H2, I2, rv, k v H2 y s2 (S1.trans S2) r2.dvr q⟩

/-! ### argument lists -/
variable {es : List Expr}
def dNil : DTA := fun s Q => Q [] s
def dCons (Ta : DTE) (Tr : DTA) : DTA := fun s Q => Ta s fun x s1 => Tr s1 fun xs s2 => Q (x :: xs) s2
theorem da_nil : DA X W [] dNil := pa_nil.weak fun σ H Q' ⟨s, Q, E, t, k⟩ => k [] H [] s (.refl E) .nil t
theorem da_cons {Ta : DTE} {Tr : DTA} (ha : DE X W e Ta) (hr : DA X W es Tr) (hs : starEach (e :: es) X.env = (false, eval e X.env) :: starEach es X.env := by rfl) : DA X W (e :: es) (dCons Ta Tr) := by
  refine (pa_cons ha hr hs).weak fun σ H Q' ⟨s, Q, E, t, k⟩ => ?_
  refine ⟨s, _, E, t, fun v H1 x s1 S1 r1 t1 => ⟨s1, _, S1.env, t1, fun vs H2 xs s2 S2 r2 t2 => ?_⟩⟩
  exact k (v :: vs) H2 (x :: xs) s2 (S1.trans S2) (.cons (r1.keep S1.env S2.fr) r2) t2
/-- all are data -/
def allD : List DV → (List PyData → Prop) → Prop
  | [], K => K []
  | .d x :: r, K => allD r fun ds => K (x :: ds)
  | _, _ => False
theorem allD_rep {σ : L2.St} {s : DSt} {H : Hp} : ∀ {vs : List V} {xs : List DV} {K : List PyData → Prop}, DVRs W σ s H vs xs → allD xs K → ∃ ds, RepL (Zo W.Z (OwnA σ s)) H vs ds ∧ K ds
  | _, _, _, .nil, h => ⟨[], .nil, h⟩
  | _, .d x :: _, _, .cons r t, h => by
    obtain ⟨ds, r2, h2⟩ := allD_rep t h
    exact ⟨_, .cons r r2, h2⟩
  | _, .r _ :: _, _, .cons _ _, h => h.elim
  | _, .p _ :: _, _, .cons _ _, h => h.elim
  | _, .b _ :: _, _, .cons _ _, h => h.elim
def dTup (Ta : DTA) : DTE := fun s Q => Ta s fun xs s1 => allD xs fun ds => ds.length ≤ 1000 ∧ Q (.d (.tuple ds)) s1
theorem line1000 {n : Nat} (h : n ≤ 1000) : n ≤ sizeLine := Nat.le_of_lt (small1000 h)
theorem de_tup {x1 : Nat} {Ta : DTA} (h : DA X W es Ta) : DE X W (.Tuple es x1 pos) (dTup Ta) := by
  refine (pe_tupX h).weak fun σ H Q' ⟨s, Q, E, t, k⟩ => ?_
  refine ⟨s, _, E, t, fun vs H1 xs s1 S1 r1 t1 => ?_⟩
  obtain ⟨ds, r2, l, q⟩ := allD_rep r1 t1
  refine ⟨by rw [r2.length]; exact line1000 l, fun p o hp ho => ?_⟩
  have x : Ext H1 (upd H1 p (.frz o (.tup vs))) := .new hp
  exact k _ _ (.d (.tuple ds)) s1 (S1.trans (.ext S1.env x)) (.tup (.new ho) (r2.mono (x.fr _))) q
/-- a new list display -/
def fLst (Ta : DTA) : DTF := fun s Q => Ta s fun xs s1 => allD xs fun ds => ds.length ≤ 1000 ∧ Q (.lst ds) s1
theorem own_fresh {σ : L2.St} {s : DSt} {H : Hp} {p : Addr} (E : EnvR W σ H s) (hp : H p = none) : ¬ W.Z p ∧ ¬ OwnA σ s p :=
  ⟨fun z => by have := E.muz p z; rw [hp] at this; exact this, fun z => by have := (E.omut z).1; rw [hp] at this; exact this⟩
theorem fr_add {σ : L2.St} {s : DSt} {H H' : Hp} {p : Addr} (x : Ext H H') (hp : H p = none) : Fr (Zo W.Z (OwnA σ s)) H (Zo (W.add p).Z (OwnA σ s)) H' :=
  ⟨fun a xs h n => ⟨x _ _ h, fun z => by
    rcases z with (z | z) | z
    · exact n (.inl z)
    · rw [z, hp] at h; cases h
    · exact n (.inr z)⟩, fun a xs h => x _ _ h, fun a o u h => x _ _ h⟩
theorem df_lst {Ta : DTA} (h : DA X W es Ta) : DF X W (.List es pos) (fLst Ta) := by
  refine (pe_lst h).weak fun σ H Q' ⟨s, Q, E, t, k⟩ => ?_
  refine ⟨s, _, E, t, fun vs H1 xs s1 S1 r1 t1 => ?_⟩
  obtain ⟨ds, r2, l, q⟩ := allD_rep r1 t1
  refine ⟨by rw [r2.length]; exact line1000 l, fun p hp => ?_⟩
  have x : Ext H1 (upd H1 p (.lst vs)) := .new hp
  have n := own_fresh S1.env hp
  exact k p _ (.lst ds) s1 (S1.trans (.ext S1.env x)) (S1.env.add x hp (by rw [upd_same]; trivial)) ⟨vs, upd_same, r2.mono (fr_add x hp)⟩ (S1.fr.dom _ hp) n.1 n.2 q
/-- a new list as a value -/
def dOfF (T : DTF) : DTE := fun s Q => T s fun o s1 => match o with
  | .lst ds => Q (.d (.list ds)) s1
  | _ => False
theorem de_ofF {T : DTF} (h : DF X W e T) : DE X W e (dOfF T) := by
  refine h.weak fun σ H Q' ⟨s, Q, E, t, k⟩ => ⟨s, _, E, t, fun p H1 o s1 S1 E1 r hp n1 n2 t1 => ?_⟩
  split at t1
  · rename_i ds
    obtain ⟨xs, h1, h2⟩ := r
    exact k (.ref p) H1 (.d (.list ds)) s1 S1 (.lst h1 (fun z => z.elim n1 n2) (h2.mono zo_drop)) t1
  · exact t1.elim
end
end DL
/-! DL3: statements, targets, loops of the data level. -/
namespace DL
open PySem L2
variable [TheW]

section
variable {X : Cx} {e : Expr} {st : Stmt} {sts : List Stmt}
theorem _root_.L2.PS.weakI {t t' : TS} (h : PS X st t) (w : ∀ D σ H, σ.length = X.N.length → t' D σ H → t D σ H) : PS X st t' := ⟨fun pins s σ H D I q => h.run pins s σ H D I (w _ _ _ I.len q)⟩
theorem _root_.L2.PG.weakI {t t' : TG} (h : PG X e t) (w : ∀ v σ H Q, σ.length = X.N.length → t' v σ H Q → t v σ H Q) : PG X e t' := ⟨fun pins s σ H v u Q I r q => h.run pins s σ H v u Q I r (w _ _ _ _ I.len q)⟩
end

/-- an expression whose value is given away -/
def liftC (W : Wd) (T : DTE) : TE := fun σ H Q' => ∃ (s : DSt) (Q : DV → DSt → Prop), EnvR W σ H s ∧ T s (fun x s1 => capQ x s1 Q) ∧ ∀ v H' y s', Stp W σ H s σ H' s' → ShR (Zo W.Z (OwnA σ s')) H' v y → Q y s' → Q' v H'
section
variable {X : Cx} {W : Wd} {e a b c : Expr} {es : List Expr} {st : Stmt} {sts : List Stmt} {pos : Pos}
theorem cap_run {T : DTE} (h : DE X W e T) : PE X e (liftC W T) := by
  refine ⟨fun pins s0 σ H Q' I hq => ?_⟩
  obtain ⟨s, Q, E, t, k⟩ := hq
  refine thn (h.run pins s0 σ H (fun v H1 => ∃ x s1, Stp W σ H s σ H1 s1 ∧ DVR W σ s1 H1 v x ∧ capQ x s1 Q) I ⟨s, _, E, t, fun v H1 x s1 S1 r1 t1 => ⟨x, s1, S1, r1, t1⟩⟩) fun u sh ⟨v, H1, I1, rv, x, s1, S1, r1, t1⟩ => ?_
  obtain ⟨H2, y, s2, I2, S2, r2, q⟩ := cap_ok I1 S1.env r1 t1
  exact ⟨v, H2, I2, rv, k v H2 y s2 (S1.trans S2) r2 q⟩
/-- arguments that are given away -/
def liftAC (W : Wd) (T : DTA) : TA := fun σ H Q' => ∃ (s : DSt) (Q : List DV → DSt → Prop), EnvR W σ H s ∧ T s Q ∧ ∀ vs H' xs s', Stp W σ H s σ H' s' → Paired (ShR (Zo W.Z (OwnA σ s')) H') vs xs → Q xs s' → Q' vs H'
abbrev DAC (X : Cx) (W : Wd) (es : List Expr) (T : DTA) : Prop := PA X es (liftAC W T)
def cNil : DTA := fun s Q => Q [] s
def cCons (Ta : DTE) (Tr : DTA) : DTA := fun s Q => Ta s fun x s1 => capQ x s1 fun y s2 => Tr s2 fun ys s3 => Q (y :: ys) s3
theorem ac_nil : DAC X W [] cNil := pa_nil.weak fun σ H Q' ⟨s, Q, E, t, k⟩ => k [] H [] s (.refl E) .nil t
theorem ac_cons {Ta : DTE} {Tr : DTA} (ha : DE X W e Ta) (hr : DAC X W es Tr) (hs : starEach (e :: es) X.env = (false, eval e X.env) :: starEach es X.env := by rfl) : DAC X W (e :: es) (cCons Ta Tr) := by
  refine (pa_cons (cap_run ha) hr hs).weak fun σ H Q' ⟨s, Q, E, t, k⟩ => ?_
  refine ⟨s, _, E, t, fun v H1 y s1 S1 r1 t1 => ⟨s1, _, S1.env, t1, fun vs H2 ys s2 S2 r2 t2 => ?_⟩⟩
  exact k (v :: vs) H2 (y :: ys) s2 (S1.trans S2) (.cons (r1.mono (S1.env.fr S2.fr)) r2) t2
theorem da_of {T : DTA} (h : DAC X W es T) : DA X W es T := h.weak fun σ H Q' ⟨s, Q, E, t, k⟩ => ⟨s, Q, E, t, fun vs H1 xs s1 S1 r1 t1 => k vs H1 xs s1 S1 (Paired.mapP r1 fun _ _ z => z.dvr) t1⟩

/-! ### blocks -/
def dNext : DTS := fun D s => D.nx s
def dSeq (T U : DTS) : DTS := fun D s => T { D with nx := U D } s
theorem dss_nil : DSs X W [] dNext := pss_nil.weak fun D' σ H ⟨s, D, E, t, kn, _⟩ => kn σ H s (.refl E) t
theorem dss_one {T : DTS} (h : DS1 X W st T) : DSs X W [st] T := pss_one h
theorem dss_cons {T U : DTS} (h1 : DS1 X W st T) (h2 : DSs X W sts U) : DSs X W (st :: sts) (dSeq T U) := by
  refine (pss_cons h1 h2).weak fun D' σ H ⟨s, D, E, t, kn, kr, kb, kc⟩ => ?_
  refine ⟨s, { D with nx := U D }, E, t, fun σ1 H1 s1 S1 t1 => ?_, kr, kb, kc⟩
  exact ⟨s1, D, S1.env, t1, fun σ2 H2 s2 S2 q => kn _ _ _ (S1.trans S2) q, fun v σ2 H2 x s2 S2 r q => kr _ _ _ _ _ (S1.trans S2) r q, fun σ2 H2 s2 S2 q => kb _ _ _ (S1.trans S2) q, fun σ2 H2 s2 S2 q => kc _ _ _ (S1.trans S2) q⟩
def dRet (T : DTE) : DTS := fun D s => T s fun x s1 => capQ x s1 D.rt
theorem ds_ret {T : DTE} (h : DE X W e T) : DS1 X W (.Return (some e) pos) (dRet T) := by
  refine (ps_ret (cap_run h)).weak fun D' σ H ⟨s, D, E, t, kn, kr, _⟩ => ?_
  exact ⟨s, _, E, t, fun v H1 y s1 S1 r1 t1 => kr v σ H1 y s1 S1 r1 t1⟩
def dIf (c : DTT) (t u : DTS) : DTS := fun D s => c s fun b s1 => if b = true then t D s1 else u D s1
theorem ds_if {c : Expr} {a b : List Stmt} {Tc : DTT} {T U : DTS} (hc : DT X W c Tc) (ha : DSs X W a T) (hb : DSs X W b U) : DS1 X W (.If c a b pos) (dIf Tc T U) := by
  refine (ps_if hc ha hb).weak fun D' σ H ⟨s, D, E, t, kn, kr, kb, kc⟩ => ?_
  refine ⟨s, _, E, t, fun b H1 s1 S1 t1 => ?_⟩
  have h : (if b = true then T D s1 else U D s1) → (if b = true then liftS W T D' σ H1 else liftS W U D' σ H1) := fun q => by
    cases b with
    | true => exact ⟨s1, D, S1.env, q, fun σ2 H2 s2 S2 q => kn _ _ _ (S1.trans S2) q, fun v σ2 H2 x s2 S2 r q => kr _ _ _ _ _ (S1.trans S2) r q, fun σ2 H2 s2 S2 q => kb _ _ _ (S1.trans S2) q, fun σ2 H2 s2 S2 q => kc _ _ _ (S1.trans S2) q⟩
    | false => exact ⟨s1, D, S1.env, q, fun σ2 H2 s2 S2 q => kn _ _ _ (S1.trans S2) q, fun v σ2 H2 x s2 S2 r q => kr _ _ _ _ _ (S1.trans S2) r q, fun σ2 H2 s2 S2 q => kb _ _ _ (S1.trans S2) q, fun σ2 H2 s2 S2 q => kc _ _ _ (S1.trans S2) q⟩
  exact h t1
def dDrop (T : DTE) : DTS := fun D s => T s fun _ s1 => D.nx s1
theorem ds_expr {T : DTE} (h : DE X W e T) (hs : swapsWith e none pos.line X.env = pure false := by rfl) : DS1 X W (.Expr e pos) (dDrop T) := by
  refine (ps_expr h hs).weak fun D' σ H ⟨s, D, E, t, kn, _⟩ => ?_
  exact ⟨s, _, E, t, fun v H1 y s1 S1 r1 t1 => kn σ H1 s1 S1 t1⟩

/-! ### names stored -/
theorem stp_setSh {σ : L2.St} {H : Hp} {s : DSt} {i : Nat} {v : V} {x : DV} (E : EnvR W σ H s) (hi : i < σ.length) (r : ShR (Zo W.Z (OwnA σ s)) H v x) : Stp W σ H s (σ.set i (some v)) H (s.set i (.sh x)) :=
  ⟨E.setSh hi r, fun _ _ h _ _ => h, fun _ h => .inl (ownA_setSh h), fun _ h => h⟩
def dSet (i : Nat) (T : DTE) : DTS := fun D s => T s fun x s1 => capQ x s1 fun y s2 => D.nx (s2.set i (.sh y))
theorem ix_lt {σ : L2.St} {i : Nat} {x : Str} (hl : σ.length = X.N.length) (hi : X.N[i]? = some x) : i < σ.length := by rw [hl]; exact (List.getElem?_eq_some_iff.mp hi).1
theorem ds_set {i : Nat} {x : Str} {pos' : Pos} {T : DTE} (hN : X.N.Nodup) (hi : X.N[i]? = some x) (hx : Loc X.env.scope x) (he : DE X W e T) (hs : swapsWith e (some (.Name x pos')) pos.line X.env = pure false := by rfl)
    (hf : X.fn x = true ∨ X.env.scope.names.lookup x = some .local := by first | exact .inl rfl | exact .inr rfl | assumption) : DS1 X W (.Assign [.Name x pos'] e pos) (dSet i T) := by
  refine (ps_set hN hi hx (cap_run he) hs hf).weakI fun D' σ H hl ⟨s, D, E, t, kn, _⟩ => ?_
  exact ⟨s, _, E, t, fun v H1 y s1 S1 r1 t1 => kn _ _ _ (S1.trans (stp_setSh S1.env (ix_lt hl hi) r1)) t1⟩
def dOwn (i : Nat) (T : DTF) : DTS := fun D s => T s fun o s1 => D.nx (s1.set i (.own o))
theorem stp_setOwn {σ : L2.St} {H H1 : Hp} {s s1 : DSt} {i : Nat} {p : Addr} {o : OD} (S : Stp W σ H s σ H1 s1) (E1 : EnvR (W.add p) σ H1 s1) (r : OwnR (Zo (W.add p).Z (OwnA σ s1)) H1 p o) (hp : H p = none) (n1 : ¬ W.Z p) (hi : i < σ.length) :
    Stp W σ H s (σ.set i (some (.ref p))) H1 (s1.set i (.own o)) :=
  ⟨E1.setOwn hi r n1, S.fr.keep, fun a h => by
    rcases ownA_setOwn h with z | z
    · exact S.fr.own a z
    · exact .inr (by rw [z]; exact hp), S.fr.dom⟩
theorem ds_own {i : Nat} {x : Str} {pos' : Pos} {T : DTF} (hN : X.N.Nodup) (hi : X.N[i]? = some x) (hx : Loc X.env.scope x) (he : DF X W e T) (hs : swapsWith e (some (.Name x pos')) pos.line X.env = pure false := by rfl)
    (hf : X.fn x = true ∨ X.env.scope.names.lookup x = some .local := by first | exact .inl rfl | exact .inr rfl | assumption) : DS1 X W (.Assign [.Name x pos'] e pos) (dOwn i T) := by
  refine (ps_set hN hi hx he hs hf).weakI fun D' σ H hl ⟨s, D, E, t, kn, _⟩ => ?_
  exact ⟨s, _, E, t, fun p H1 o s1 S1 E1 r hp n1 n2 t1 => kn _ _ _ (stp_setOwn S1 E1 r hp n1 (ix_lt hl hi)) t1⟩

/-! ### targets -/
def dGName (i : Nat) : DTG := fun x s Q => Q (s.set i (.sh x))
theorem dg_name {i : Nat} {x : Str} (hN : X.N.Nodup) (hi : X.N[i]? = some x) (hx : Loc X.env.scope x) (hf : X.fn x = true ∨ X.env.scope.names.lookup x = some .local := by first | exact .inl rfl | exact .inr rfl | assumption) : DG X W (.Name x pos) (dGName i) := by
  refine (pg_name hN hi hx hf).weakI fun v σ H Q' hl ⟨s, x, Q, E, r, t, k⟩ => ?_
  exact k _ _ _ (stp_setSh E (ix_lt hl hi) r) t
def dGNil : DTGs := fun xs s Q => xs = [] ∧ Q s
def dGCons (G : DTG) (U : DTGs) : DTGs := fun xs s Q => match xs with
  | x :: r => G x s fun s1 => U r s1 Q
  | [] => False
theorem dgs_nil : DGs X W [] dGNil := by
  refine pgs_nil.weak fun vs σ H Q' ⟨s, xs, Q, E, r, t, k⟩ => ?_
  obtain ⟨rfl, t⟩ := t
  cases r
  exact ⟨rfl, k _ _ _ (.refl E) t⟩
theorem dgs_cons {G : DTG} {U : DTGs} (h1 : DG X W e G) (h2 : DGs X W es U) (hs : (assignEach (e :: es) X.env).map (·.2) = assign e X.env :: (assignEach es X.env).map (·.2) := by rfl) : DGs X W (e :: es) (dGCons G U) := by
  refine (pgs_cons h1 h2 hs).weak fun vs σ H Q' ⟨s, xs, Q, E, r, t, k⟩ => ?_
  cases r with
  | nil => exact t.elim
  | cons r rr =>
    refine ⟨_, _, rfl, s, _, _, E, r, t, fun σ1 H1 s1 S1 t1 => ⟨s1, _, Q, S1.env, Paired.mapP rr fun _ _ z => z.mono (E.fr S1.fr), t1, fun σ2 H2 s2 S2 q => k _ _ _ (S1.trans S2) q⟩⟩
def dGTup (n : Nat) (G : DTGs) : DTG := fun x s Q => match x with
  | .d (.tuple ds) => ds.length = n ∧ G (ds.map .d) s Q
  | .p ds => ds.length = n ∧ G (ds.map .d) s Q
  | _ => False
theorem repL_sh {Z : Zs} {H : Hp} : ∀ {vs : List V} {ds : List PyData}, RepL Z H vs ds → Paired (ShR Z H) vs (ds.map .d)
  | _, _, .nil => .nil
  | _, _, .cons h t => .cons h (repL_sh t)
theorem dg_tup {k n : Nat} {G : DTGs} (hc : X.calm = true) (h : DGs X W es G) (hn : (assignEach es X.env).length = n := by rfl) (hst : (assignEach es X.env).findIdx? (·.1) = none := by rfl) : DG X W (.Tuple es k pos) (dGTup n G) := by
  refine (pg_tup hc h hn hst).weak fun v σ H Q' ⟨s, x, Q, E, r, t, k⟩ => ?_
  unfold dGTup at t
  split at t
  · rename_i ds
    obtain ⟨l, t⟩ := t
    have r' : Rep (Zo W.Z (OwnA σ s)) H v (.tuple ds) := r
    cases r' with
    | tup h1 h2 => exact ⟨_, _, rfl, h1.sq, by rw [h2.length]; exact l, s, _, Q, E, repL_sh h2, t, k⟩
  · rename_i ds
    obtain ⟨l, t⟩ := t
    obtain ⟨a, xs, rfl, h1, h2⟩ := (show PairR (Zo W.Z (OwnA σ s)) H v ds from r)
    exact ⟨_, _, rfl, .inl (.of h1), by rw [h2.length]; exact l, s, _, Q, E, repL_sh h2, t, k⟩
  · exact t.elim
def dAsg (T : DTE) (G : DTG) : DTS := fun D s => T s fun x s1 => capQ x s1 fun y s2 => G y s2 D.nx
theorem ds_asg {tg : Expr} {T : DTE} {G : DTG} (he : DE X W e T) (hg : DG X W tg G) (hs : swapsWithSole [tg] e pos.line X.env = pure false := by rfl) (hw : swappedStores [tg] e X.env = pure none := by rfl)
    (h1 : (assignEach [tg] X.env).map (·.2) = [assign tg X.env] := by rfl) : DS1 X W (.Assign [tg] e pos) (dAsg T G) := by
  refine (ps_asg (cap_run he) hg hs hw h1).weak fun D' σ H ⟨s, D, E, t, kn, _⟩ => ?_
  exact ⟨s, _, E, t, fun v H1 y s1 S1 r1 t1 => ⟨s1, y, _, S1.env, r1, t1, fun σ2 H2 s2 S2 q => kn _ _ _ (S1.trans S2) q⟩⟩
/-- a, b = x, y of plain local names -/
def dPar (i j : Nat) (Ta : DTA) : DTS := fun D s => Ta s fun xs s1 => match xs with
  | [x, y] => D.nx ((s1.set i (.sh x)).set j (.sh y))
  | _ => False
theorem ds_par {i j : Nat} {x y : Str} {Ta : DTA} {px py pt : Pos} {kt k2 : Nat} {pt2 : Pos} (hc : X.calm = true) (hN : X.N.Nodup) (hi : X.N[i]? = some x) (hj : X.N[j]? = some y) (hij : i ≠ j)
    (hx : X.env.scope.names.lookup x = some .local) (hy : X.env.scope.names.lookup y = some .local) (ha : DAC X W [a, b] Ta)
    (hw : swappedStores [.Tuple [.Name x px, .Name y py] kt pt] (.Tuple [a, b] k2 pt2) X.env = pure (some [x, y]))
    (hs : swapsWithSole [.Tuple [.Name x px, .Name y py] kt pt] (.Tuple [a, b] k2 pt2) pos.line X.env = pure false := by rfl) :
    DS1 X W (.Assign [.Tuple [.Name x px, .Name y py] kt pt] (.Tuple [a, b] k2 pt2) pos) (dPar i j Ta) := by
  refine (ps_par hc hN hi hj hij hx hy ha hw hs).weakI fun D' σ H hl ⟨s, D, E, t, kn, _⟩ => ?_
  refine ⟨s, _, E, t, fun vs H1 xs s1 S1 r1 t1 => ?_⟩
  split at t1
  · cases r1 with
    | cons q1 r2 =>
      cases r2 with
      | cons q2 r3 =>
        cases r3
        have A := stp_setSh S1.env (ix_lt hl hi) q1
        have B := stp_setSh A.env (i := j) (by simpa using ix_lt hl hj) (q2.mono (S1.env.fr A.fr))
        exact ⟨_, _, rfl, kn _ _ _ ((S1.trans A).trans B) t1⟩
  · exact t1.elim

/-! ### what a loop walks -/
def Walks (Z : Zs) (H : Hp) (J : It) (ds : List DV) : Prop := ∃ (n : Nat) (Y : Nat → Hp → V → Hp → Prop) (G0 : Hp → Prop), Walk J n G0 Y ∧ n = ds.length ∧ (∀ Z1 H1, Fr Z H Z1 H1 → G0 H1) ∧
  ∀ Z1 (i : Nat) H1 x H2, Fr Z H Z1 H1 → i < n → Y i H1 x H2 → ∃ d, ds[i]? = some d ∧ Ext H1 H2 ∧ ShR Z1 H2 x d
def liftI (W : Wd) (T : DTI) : TI := fun σ H R => ∃ (s : DSt) (Q : List DV → DSt → Prop), EnvR W σ H s ∧ T s Q ∧ ∀ J H' ds s', Stp W σ H s σ H' s' → Walks (Zo W.Z (OwnA σ s')) H' J ds → Q ds s' → R J H'
abbrev DI (X : Cx) (W : Wd) (tg e : Expr) (T : DTI) : Prop := PI X tg e (liftI W T)
def dLoop (G : DTG) (Tb : DTS) (D : DEnds) : List DV → DSt → Prop
  | [], s => D.nx s
  | d :: ds, s => G d s fun s1 => Tb { nx := dLoop G Tb D ds, ct := dLoop G Tb D ds, bk := D.nx, rt := D.rt } s1
def dFor (Ti : DTI) (G : DTG) (Tb : DTS) : DTS := fun D s => Ti s fun ds s1 => dLoop G Tb D ds s1
theorem ds_for {tg iter : Expr} {body : List Stmt} {Ti : DTI} {G : DTG} {Tb : DTS} (hp : PassesOwn (model X.prog X.w) X.A X.env X.xe) (hc : X.calm = true) (hi : DI X W tg iter Ti) (hg : DG X W tg G) (hb : DSs X W body Tb)
    (hs : ∀ x, foldedSetIterable iter X.env x = pure x := by intro _; rfl) : DS1 X W (.For tg iter body [] pos) (dFor Ti G Tb) := by
  refine (ps_for hp hc hi hg hb hs).weak fun D' σ H ⟨s, D, E, t, kn, kr, kb, kc⟩ => ?_
  refine ⟨s, _, E, t, fun J H1 ds s1 S1 wk t1 => ?_⟩
  obtain ⟨n, Y, G0, w, rfl, hG, hY⟩ := wk
  refine for_it w (fun i σ2 H2 => ∃ s2, Stp W σ H1 s1 σ2 H2 s2 ∧ dLoop G Tb D (ds.drop i) s2) ⟨s1, .refl S1.env, t1⟩ (fun i σ2 H2 _ ⟨s2, S2, _⟩ => hG _ _ (S1.env.fr S2.fr)) ?_ ?_
  · rintro i x σ2 H2 H3 hlt ⟨s2, S2, q⟩ y
    obtain ⟨d, hd, ex, r⟩ := hY _ i H2 x H3 (S1.env.fr S2.fr) hlt y
    have S3 : Stp W σ H s σ2 H3 s2 := (S1.trans S2).trans (.ext S2.env ex)
    have S3' : Stp W σ H1 s1 σ2 H3 s2 := S2.trans (.ext S2.env ex)
    obtain ⟨hl, he⟩ := List.getElem?_eq_some_iff.mp hd
    rw [List.drop_eq_getElem_cons hl, he] at q
    refine ⟨s2, d, _, S3.env, r, q, fun σ4 H4 s4 S4 q4 => ⟨s4, _, S4.env, q4, ?_, ?_, ?_, ?_⟩⟩
    · exact fun σ5 H5 s5 S5 q5 => ⟨s5, (S3'.trans S4).trans S5, q5⟩
    · exact fun v σ5 H5 x s5 S5 r q5 => kr v σ5 H5 x s5 ((S3.trans S4).trans S5) r q5
    · exact fun σ5 H5 s5 S5 q5 => kn _ _ _ ((S3.trans S4).trans S5) q5
    · exact fun σ5 H5 s5 S5 q5 => ⟨s5, (S3'.trans S4).trans S5, q5⟩
  · rintro σ2 H2 ⟨s2, S2, q⟩
    rw [List.drop_length] at q
    exact kn _ _ _ (S1.trans S2) q

/-! ### calls of defs -/
abbrev DFT := List DV → Nat → (DV → Nat → Prop) → Prop
/-- a promise over data; F, G: what it may write and what stays true of that -/
def spD (F : Zs) (G : Nat → Zs → Hp → Prop) (T : DFT) : Sp := fun vs H Q _ => ∃ (Z : Zs) (xs : List DV) (c : Nat) (K : DV → Nat → Prop), (∀ a, Z a → Mut (H a)) ∧ (∀ a, F a → Z a) ∧ G c Z H ∧ Paired (ShR Z H) vs xs ∧ T xs c K ∧
  ∀ v H' x c', FrO F (fun _ => False) H (fun _ => False) H' → (∀ a, Z a → Mut (H' a)) → G c' Z H' → ShR Z H' v x → K x c' → Q v H'
def noF : Zs := fun _ => False
def noG : Nat → Zs → Hp → Prop := fun _ _ _ => True
abbrev spP (T : DFT) : Sp := spD noF noG T
def dCall (T : DFT) (Ta : DTA) : DTE := fun s Q => Ta s fun xs s1 => T xs s1.c fun x c => Q x ⟨s1.e, c⟩
theorem FrO.ext {H H' : Hp} (f : FrO noF (fun _ => False) H (fun _ => False) H') : Ext H H' := fun a o h => f.keep a o h (fun z => z) (fun z => z)
theorem EnvR.ghost {σ : L2.St} {H H' : Hp} {s : DSt} {c : Nat} (E : EnvR W σ H s) (f : FrO W.F (fun _ => False) H (fun _ => False) H') (mz : ∀ a, W.Z a → Mut (H' a)) (g : W.G c (Zo W.Z (OwnA σ s)) H') : EnvR W σ H' ⟨s.e, c⟩ := by
  have f1 : Fr (Zo W.Z (OwnA σ s)) H (Zo W.Z (OwnA σ s)) H' := FrO.fr (O := OwnA σ s) (O' := OwnA σ s) ⟨fun a o h n _ => f.keep a o h n (fun z => z), fun _ h => .inl h, f.dom⟩ W.FZ E.muz fun _ h => (E.omut h).1
  have own : ∀ a, OwnA σ s a → H' a = H a := fun a h => by
    have m := E.omut h
    cases q : H a with
    | none => exact absurd q (mut_ne m.1)
    | some o => exact f.keep a o q (fun z => m.2 (W.FZ a z)) (fun z => z)
  refine ⟨E.len, fun i x h => ?_, fun i o h => ?_, E.uniq, mz, g⟩
  · obtain ⟨v, a, b⟩ := E.sh i x h
    exact ⟨v, a, b.mono f1⟩
  · obtain ⟨a, e1, e2, e3⟩ := E.own i o h
    exact ⟨a, e1, e2.mono f1 (own a ⟨i, o, h, e1⟩), e3⟩
/-- from a body's state: what a def that writes nothing wants and gives -/
theorem call_pure {σ : L2.St} {H : Hp} {s : DSt} {vs : List V} {xs : List DV} {T : DFT} {Q : DV → DSt → Prop} {Q' : VK} {E' : XK} (E : EnvR W σ H s) (r : Paired (ShR (Zo W.Z (OwnA σ s)) H) vs xs) (t : T xs s.c fun x c => Q x ⟨s.e, s.c⟩)
    (k : ∀ v H' x, Stp W σ H s σ H' s → ShR (Zo W.Z (OwnA σ s)) H' v x → Q x s → Q' v H') : spP T vs H Q' E' := by
  refine ⟨Zo W.Z (OwnA σ s), xs, s.c, _, fun a z => z.elim (E.muz a) fun z => (E.omut z).1, fun _ z => z.elim, trivial, r, t, fun v H' x c' f _ _ r' q => ?_⟩
  exact k v H' x (.ext E f.ext) r' q
theorem call_w {σ : L2.St} {H : Hp} {s : DSt} {vs : List V} {xs : List DV} {T : DFT} {Q : DV → DSt → Prop} {Q' : VK} {E' : XK} (E : EnvR W σ H s) (r : Paired (ShR (Zo W.Z (OwnA σ s)) H) vs xs) (t : T xs s.c fun x c => Q x ⟨s.e, c⟩)
    (k : ∀ v H' x s', Stp W σ H s σ H' s' → ShR (Zo W.Z (OwnA σ s')) H' v x → Q x s' → Q' v H') : spD W.F W.G T vs H Q' E' := by
  refine ⟨Zo W.Z (OwnA σ s), xs, s.c, _, fun a z => z.elim (E.muz a) fun z => (E.omut z).1, fun _ z => .inl (W.FZ _ z), E.g, r, t, fun v H' x c' f mz g r' q => ?_⟩
  have E2 := E.ghost f (fun a z => mz a (.inl z)) g
  exact k v H' x ⟨s.e, c'⟩ ⟨E2, fun a o h nf _ => f.keep a o h nf (fun z => z), fun _ h => .inl h, f.dom⟩ r' q
/-- a def of the module, as one calls it -/
structure DFn (P : Program) (w : World) (K : PySem.W.Frag) (mg : Str → Option Value) (base : Heap) (k : Nat) (x : Str) (sp : Sp) : Prop where
  ex : ∃ (f : Addr) (fd : FuncData) (ps : List Str), FnOk P w K mg base CX0 k f fd ps sp ∧ mg x = some (.ref f) ∧ PySem.W.keepIn K (.ref f) = true ∧ Binds K fd ps []
theorem pe_def {k j : Nat} {x : Str} {sp : Sp} {p : Pos} {t : TA} (F : DFn X.prog X.w X.K X.mg X.base k x sp) (hr : Room j X.A) (hk : k ≤ j) (hg : Gl X x) (ha : PA X (e :: es) t) (hdb : (x == ("__debug__" : Str)) = false := by decide)
    (he : starEach (e :: es) X.env = (false, eval e X.env) :: starEach es X.env := by rfl) (hpl : (backTo pos (starEach es X.env)).any (·.1) = false := by rfl) : PE X (.Call (.Name x p) (e :: es) [] pos) (tCall sp [] E0 t) := by
  obtain ⟨f, fd, ps, G, mf, kp, b⟩ := F.ex
  exact pe_call G (hr.mono hk) hg mf kp b .nil pass0 ha hdb he hpl
theorem de_call {k j : Nat} {x : Str} {T : DFT} {p : Pos} {Ta : DTA} (F : DFn X.prog X.w X.K X.mg X.base k x (spP T)) (hr : Room j X.A) (hk : k ≤ j) (hg : Gl X x) (ha : DAC X W (e :: es) Ta) (hdb : (x == ("__debug__" : Str)) = false := by decide)
    (he : starEach (e :: es) X.env = (false, eval e X.env) :: starEach es X.env := by rfl) (hpl : (backTo pos (starEach es X.env)).any (·.1) = false := by rfl) : DE X W (.Call (.Name x p) (e :: es) [] pos) (dCall (fun xs c K => T xs c fun x _ => K x c) Ta) := by
  refine (pe_def F hr hk hg ha hdb he hpl).weak fun σ H Q' ⟨s, Q, E, t, kk⟩ => ?_
  refine ⟨s, _, E, t, fun vs H1 xs s1 S1 r1 t1 => ?_⟩
  show spP T (vs ++ []) H1 Q' E0
  rw [List.append_nil]
  exact call_pure (Q := Q) S1.env r1 t1 fun v H2 x S2 r q => kk v H2 x s1 (S1.trans S2) r.dvr q
theorem de_callW {k j : Nat} {x : Str} {T : DFT} {p : Pos} {Ta : DTA} (F : DFn X.prog X.w X.K X.mg X.base k x (spD W.F W.G T)) (hr : Room j X.A) (hk : k ≤ j) (hg : Gl X x) (ha : DAC X W (e :: es) Ta) (hdb : (x == ("__debug__" : Str)) = false := by decide)
    (he : starEach (e :: es) X.env = (false, eval e X.env) :: starEach es X.env := by rfl) (hpl : (backTo pos (starEach es X.env)).any (·.1) = false := by rfl) : DE X W (.Call (.Name x p) (e :: es) [] pos) (dCall T Ta) := by
  refine (pe_def F hr hk hg ha hdb he hpl).weak fun σ H Q' ⟨s, Q, E, t, kk⟩ => ?_
  refine ⟨s, _, E, t, fun vs H1 xs s1 S1 r1 t1 => ?_⟩
  show spD W.F W.G T (vs ++ []) H1 Q' E0
  rw [List.append_nil]
  exact call_w (Q := Q) S1.env r1 t1 fun v H2 x s2 S2 r q => kk v H2 x s2 (S1.trans S2) r.dvr q
end

/-! ### a def's body -/
def startD (N : List Str) (xs : List DV) : List (Option DS) := xs.map (fun x => some (.sh x)) ++ List.replicate (N.length - xs.length) none
def W0 (Z F : Zs) (G : Nat → Zs → Hp → Prop) (FZ : ∀ a, F a → Z a) (stab : ∀ c Z Z' H H', G c Z H → (∀ a, F a → H' a = H a) → Fr Z H Z' H' → G c Z' H') : Wd := ⟨Z, F, G, FZ, stab⟩
theorem paired_len {α β : Type} {R : α → β → Prop} : ∀ {l : List α} {m : List β}, Paired R l m → l.length = m.length := Paired.length
theorem paired_get {α β : Type} {R : α → β → Prop} : ∀ {l : List α} {m : List β} {i : Nat} {y : β}, Paired R l m → m[i]? = some y → ∃ x, l[i]? = some x ∧ R x y
  | _, _, _, _, .nil, h => by simp at h
  | _, _, 0, _, .cons h _, e => by simp at e; subst e; exact ⟨_, rfl, h⟩
  | _, _, i + 1, _, .cons _ t, e => by
    obtain ⟨x, h1, h2⟩ := paired_get (i := i) t (by simpa using e)
    exact ⟨x, by simpa using h1, h2⟩
theorem startD_own {N : List Str} {xs : List DV} {i : Nat} {o : OD} (h : (startD N xs)[i]? = some (some (.own o))) : False := by
  unfold startD at h
  by_cases hi : i < xs.length
  · rw [List.getElem?_append_left (by simpa using hi), List.getElem?_map] at h
    cases q : xs[i]? with
    | none => rw [q] at h; cases h
    | some y => rw [q] at h; cases h
  · rw [List.getElem?_append_right (by simpa using hi), List.getElem?_replicate] at h
    split at h <;> cases h
theorem env_start {W : Wd} {N : List Str} {vs : List V} {xs : List DV} {c : Nat} {H : Hp} (r : Paired (ShR W.Z H) vs xs) (mz : ∀ a, W.Z a → Mut (H a)) (g : W.G c W.Z H) : EnvR W (L2.start N vs) H ⟨startD N xs, c⟩ ∧ (∀ a, ¬ OwnA (L2.start N vs) ⟨startD N xs, c⟩ a) := by
  have no : ∀ a, ¬ OwnA (L2.start N vs) ⟨startD N xs, c⟩ a := fun a ⟨i, o, h, _⟩ => startD_own h
  have f : Fr W.Z H (Zo W.Z (OwnA (L2.start N vs) ⟨startD N xs, c⟩)) H := Fr.shrink fun a z => z.elim id fun q => (no a q).elim
  refine ⟨⟨?_, fun i x h => ?_, fun i o h => (startD_own h).elim, fun i j o u a h => (startD_own h).elim, mz, W.stab _ _ _ _ _ g (fun _ _ => rfl) f⟩, no⟩
  · show (L2.start N vs).length = (startD N xs).length
    unfold L2.start startD
    simp [paired_len r]
  · have h' : (startD N xs)[i]? = some (some (.sh x)) := h
    unfold startD at h'
    by_cases hi : i < xs.length
    · rw [List.getElem?_append_left (by simpa using hi), List.getElem?_map] at h'
      cases q : xs[i]? with
      | none => rw [q] at h'; cases h'
      | some y =>
        rw [q] at h'
        cases h'
        obtain ⟨v, e1, e2⟩ := paired_get r q
        refine ⟨v, ?_, e2.mono f⟩
        unfold L2.start
        rw [List.getElem?_append_left (by rw [List.length_map, paired_len r]; exact hi), List.getElem?_map, e1]
        rfl
    · rw [List.getElem?_append_right (by simpa using hi), List.getElem?_replicate] at h'
      split at h' <;> cases h'
/-- THE RULE for a def over data -/
theorem fn_data {P : Program} {w : World} {K : PySem.W.Frag} {mg : Str → Option Value} {base : Heap} {k : Nat} {name qual : Str} {params : Arguments} {body : List Stmt} {scope : Scope} {f : Addr} {fd : FuncData} {N ps : List Str} {F : Zs} {G : Nat → Zs → Hp → Prop} {T : DFT}
    (stab : ∀ c Z Z' H H', G c Z H → (∀ a, F a → H' a = H a) → Fr Z H Z' H' → G c Z' H')
    (D : FunD K name qual params body scope [] [] f fd) (S : FnScope N ps scope) (len : ∀ xs c K, T xs c K → xs.length = ps.length)
    (hbody : ∀ (X : Cx) (W : Wd), X.prog = P → X.w = w → X.K = K → X.mg = mg → X.base = base → X.N = N → X.env.scope = scope → X.calm = true → (∀ x, X.fn x = true) → (∀ e s, ¬ X.xe e s) → Room k X.A → W.F = F → W.G = G →
      ∃ U, DSs X W body U ∧ ∀ xs c K, T xs c K → U { nx := fun s => K (.d .none) s.c, rt := fun x s => K x s.c } ⟨startD N xs, c⟩) : FnOk P w K mg base CX0 (k + 1) f fd ps (spD F G T) := by
  refine D.ok S (fun vs H Q E ⟨Z, xs, c, KK, _, _, _, r, t, _⟩ => by rw [paired_len r]; exact len _ _ _ t) fun cdv A outer s H vs Q E hr h => ?_
  obtain ⟨Z, xs, c, KK, mz, fz, g, r, t, k⟩ := h
  obtain ⟨U, hU, hq⟩ := hbody (cxOf CX0 P w K mg base N qual scope f cdv A outer s H E).nox ⟨Z, F, G, fz, stab⟩ rfl rfl rfl rfl rfl rfl rfl rfl (fun _ => rfl) (fun _ _ z => z) hr rfl rfl
  refine ⟨_, hU.nox, ?_⟩
  obtain ⟨E1, no⟩ := env_start (W := ⟨Z, F, G, fz, stab⟩) (N := N) r mz g
  refine ⟨_, _, E1, hq xs c KK t, fun σ' H' s' S1 q => ?_, fun v σ' H' x s' S1 r' q => ?_, fun σ' H' s' S1 q => q.elim, fun σ' H' s' S1 q => q.elim⟩
  · have f : Fr (Zo Z (OwnA σ' s')) H' Z H' := Fr.shrink fun a z => .inl z
    exact k .non H' (.d .none) s'.c ⟨fun a o h nf _ => S1.fr.keep a o h nf (no a), fun _ h => .inl h, S1.fr.dom⟩ S1.env.muz (stab _ _ _ _ _ S1.env.g (fun _ _ => rfl) f) Rep.non q
  · have f : Fr (Zo Z (OwnA σ' s')) H' Z H' := Fr.shrink fun a z => .inl z
    exact k v H' x s'.c ⟨fun a o h nf _ => S1.fr.keep a o h nf (no a), fun _ h => .inl h, S1.fr.dom⟩ S1.env.muz (stab _ _ _ _ _ S1.env.g (fun _ _ => rfl) f) (r'.mono f) q
end DL
/-! DL4: operators and comparisons over data. -/
namespace DL
open PySem L2
variable [TheW]

/-- no dict in it, nested at most n deep -/
def okD : Nat → PyData → Bool
  | 0, d => match d with
    | .list _ => false
    | .tuple _ => false
    | .dict _ => false
    | _ => true
  | n + 1, d => match d with
    | .list xs => xs.all (okD n)
    | .tuple xs => xs.all (okD n)
    | .dict _ => false
    | _ => true
@[simp] theorem okD_non {n : Nat} : okD n .none = true := by cases n <;> rfl
@[simp] theorem okD_bool {n : Nat} {b : Bool} : okD n (.bool b) = true := by cases n <;> rfl
@[simp] theorem okD_int {n : Nat} {i : Int} : okD n (.int i) = true := by cases n <;> rfl
@[simp] theorem okD_str {n : Nat} {x : Str} : okD n (.str x) = true := by cases n <;> rfl
@[simp] theorem okD_tup {n : Nat} {xs : List PyData} : okD (n + 1) (.tuple xs) = xs.all (okD n) := rfl
@[simp] theorem okD_lst {n : Nat} {xs : List PyData} : okD (n + 1) (.list xs) = xs.all (okD n) := rfl

section
variable {Z : Zs} {H : Hp} {K : PySem.W.Frag}
mutual
theorem Rep.dp : ∀ {v : V} {d : PyData}, Rep Z H v d → ∀ n, okD n d = true → Dp K H v d ∧ d.canLay0 = true ∧ d.depth ≤ n
  | _, _, .non, _, _ => ⟨.non, by simp [PyData.canLay0], by simp [PyData.depth]⟩
  | _, _, .bl b, _, _ => ⟨.bl b, by simp [PyData.canLay0], by simp [PyData.depth]⟩
  | _, _, .int i, _, _ => ⟨.int i, by simp [PyData.canLay0], by simp [PyData.depth]⟩
  | _, _, .str x h, _, _ => ⟨.str x, by simpa [PyData.canLay0] using h, by simp [PyData.depth]⟩
  | _, _, .lst h z r, 0, ok => by cases ok
  | _, _, .lst h z r, n + 1, ok => by
    obtain ⟨a, b, c⟩ := RepL.dp r n ok
    exact ⟨.lst (.of h) a, by simpa [PyData.canLay0] using b, by simp only [PyData.depth]; omega⟩
  | _, _, .tup h r, 0, ok => by cases ok
  | _, _, .tup h r, n + 1, ok => by
    obtain ⟨a, b, c⟩ := RepL.dp r n ok
    exact ⟨.tup h.sq a, by simpa [PyData.canLay0] using b, by simp only [PyData.depth]; omega⟩
  | _, _, .dct h r, 0, ok => by cases ok
  | _, _, .dct h r, n + 1, ok => by cases ok
theorem RepL.dp : ∀ {vs : List V} {ds : List PyData}, RepL Z H vs ds → ∀ n, ds.all (okD n) = true → DpAll K H vs ds ∧ PyData.canLayAll0 ds = true ∧ PyData.depthAll ds ≤ n
  | _, _, .nil, _, _ => ⟨.nil, by simp [PyData.canLayAll0], by simp [PyData.depthAll]⟩
  | _, _, .cons h t, n, ok => by
    rw [List.all_cons, Bool.and_eq_true] at ok
    obtain ⟨a, b, c⟩ := Rep.dp h n ok.1
    obtain ⟨a', b', c'⟩ := RepL.dp t n ok.2
    exact ⟨.cons a a', by rw [PyData.canLayAll0, b, b']; rfl, by simp only [PyData.depthAll]; omega⟩
end
theorem View.dp {v : V} {d : PyData} (r : View Z H v d) (n : Nat) (ok : okD n d = true) : Dp K H v d ∧ d.canLay0 = true ∧ d.depth ≤ n := by
  cases d with
  | list ds =>
    obtain ⟨a, xs, rfl, h, r⟩ := r
    cases n with
    | zero => cases ok
    | succ n =>
      obtain ⟨a, b, c⟩ := RepL.dp r n ok
      exact ⟨.lst (.of h) a, by simpa [PyData.canLay0] using b, by simp only [PyData.depth]; omega⟩
  | dict kds => cases n <;> cases ok
  | none => exact Rep.dp r n ok
  | bool b => exact Rep.dp r n ok
  | int i => exact Rep.dp r n ok
  | str x => exact Rep.dp r n ok
  | tuple xs => exact Rep.dp r n ok
theorem shaped_dp {d : PyData} {n : Nat} (h : d.canLay0 = true ∧ d.depth ≤ n) (hn : n ≤ 64) : SeqAt.shaped d = true := by
  unfold SeqAt.shaped
  rw [h.1, Bool.true_and]
  exact decide_eq_true (Nat.le_trans h.2 hn)
theorem vInt {v : V} {i : Int} (r : View Z H v (.int i)) : v = .int i := by
  have r' : Rep Z H v (.int i) := r
  cases r'; rfl
theorem vStr {v : V} {x : Str} (r : View Z H v (.str x)) : v = .str x ∧ PyData.strOk x = true := by
  have r' : Rep Z H v (.str x) := r
  cases r' with
  | str _ h => exact ⟨rfl, h⟩
theorem vBool {v : V} {b : Bool} (r : View Z H v (.bool b)) : v = .bl b := by
  have r' : Rep Z H v (.bool b) := r
  cases r'; rfl
theorem vTup {v : V} {ds : List PyData} (r : View Z H v (.tuple ds)) : ∃ a xs, v = .ref a ∧ IsT H a xs ∧ RepL Z H xs ds := by
  have r' : Rep Z H v (.tuple ds) := r
  cases r' with
  | tup h q => exact ⟨_, _, rfl, h, q⟩
def isNo : PyData → Bool
  | .none => true
  | _ => false
theorem vNon {v : V} {d : PyData} (r : View Z H v d) : decide (v = .non) = isNo d := by
  cases d with
  | none => have r' : Rep Z H v .none := r; cases r'; rfl
  | list ds => obtain ⟨a, xs, rfl, _⟩ := r; rfl
  | dict ds => obtain ⟨a, xs, rfl, _⟩ := r; rfl
  | int i => have r' : Rep Z H v (.int i) := r; cases r'; rfl
  | bool i => have r' : Rep Z H v (.bool i) := r; cases r'; rfl
  | str i => have r' : Rep Z H v (.str i) := r; cases r'; rfl
  | tuple i => obtain ⟨a, xs, rfl, _⟩ := vTup r; rfl
end

theorem strOk_append {x y : Str} (hx : PyData.strOk x = true) (hy : PyData.strOk y = true) : PyData.strOk (x ++ y) = true := by
  have e : (x ++ y).cps.toList = x.cps.toList ++ y.cps.toList := TL.tl_append x y
  unfold PyData.strOk at *
  rw [← Array.all_toList] at *
  rw [e, List.all_append, hx, hy]; rfl

section
variable {X : Cx}
def gAdd : D2 := fun x y K => match x, y with
  | .int i, .int j => K (.int (i + j))
  | .str a, .str b => a.length + b.length ≤ 1000 ∧ K (.str (a ++ b))
  | .tuple xs, .tuple ys => xs.length + ys.length ≤ 100000 ∧ K (.tuple (xs ++ ys))
  | .list xs, .list ys => xs.length + ys.length ≤ 100000 ∧ K (.list (xs ++ ys))
  | _, _ => False
theorem line5 {n : Nat} (h : n ≤ 100000) : n ≤ sizeLine := by rw [sizeLine_eq]; omega
theorem line5' {n : Nat} (h : n < 100000) : n < sizeLine := by rw [sizeLine_eq]; omega
theorem new_not {Z : Zs} {H : Hp} {p : Addr} (mz : ∀ a, Z a → Mut (H a)) (hp : H p = none) : ¬ Z p := fun z => by have := mz p z; rw [hp] at this; exact this
end


section
variable {X : Cx} {k : Nat}
theorem od_add : OpD X (binaryOp .Add) gAdd := by
  intro pins s σ H x y v u Q I rx ry h
  obtain ⟨Z, dx, dy, K, mz, vx, vy, t, q⟩ := h
  cases dx with
  | int i => cases dy with
    | int j =>
      cases vInt vx; cases vInt vy
      exact op_add pins s σ H _ _ v u Q I rx ry ⟨i, j, rfl, rfl, q _ _ _ (Ext.refl H) (.int _) t⟩
    | _ => exact t.elim
  | str a => cases dy with
    | str b =>
      obtain ⟨rfl, ha⟩ := vStr vx
      obtain ⟨rfl, hb⟩ := vStr vy
      exact op_add_str pins s σ H _ _ v u Q I rx ry ⟨a, b, rfl, rfl, line1000 t.1, q _ _ _ (Ext.refl H) (.str _ (strOk_append ha hb)) t.2⟩
    | _ => exact t.elim
  | tuple xs => cases dy with
    | tuple ys =>
      obtain ⟨a, vs, rfl, ha, ra⟩ := vTup vx
      obtain ⟨b, ws, rfl, hb, rb⟩ := vTup vy
      have rr := ra.append rb
      have e1 : vs = [] → xs = [] := fun e => by have := ra.length; rw [e] at this; exact List.length_eq_zero_iff.mp this.symm
      have e2 : ws = [] → ys = [] := fun e => by have := rb.length; rw [e] at this; exact List.length_eq_zero_iff.mp this.symm
      refine op_catX pins s σ H _ _ v u Q I rx ry ⟨a, b, vs, ws, rfl, rfl, ha.sq, hb.sq, by rw [ra.length, rb.length]; exact line5 t.1, fun e => ?_, fun _ e => ?_, fun _ _ p o hp ho => ?_⟩
      · refine q _ _ (.tuple (xs ++ ys)) (Ext.refl H) ?_ t.2
        rw [e1 e]; exact .tup hb rb
      · refine q _ _ (.tuple (xs ++ ys)) (Ext.refl H) ?_ t.2
        rw [e2 e, List.append_nil]; exact .tup ha ra
      · exact q _ _ (.tuple (xs ++ ys)) (Ext.new hp) (.tup (.new ho) (rr.mono ((Ext.new hp).fr _))) t.2
    | _ => exact t.elim
  | list xs => cases dy with
    | list ys =>
      obtain ⟨a, vs, rfl, ha, ra⟩ := vx
      obtain ⟨b, ws, rfl, hb, rb⟩ := vy
      have rr := ra.append rb
      refine op_cat pins s σ H _ _ v u Q I rx ry ⟨a, b, vs, ws, rfl, rfl, ha, hb, by rw [ra.length, rb.length]; exact line5 t.1, fun p hp => ?_⟩
      exact q _ _ (.list (xs ++ ys)) (Ext.new hp) (.lst upd_same (new_not mz hp) (rr.mono ((Ext.new hp).fr _))) t.2
    | _ => exact t.elim
  | _ => exact t.elim
def gI (C : Int → Int → Prop) (f : Int → Int → PyData) : D2 := fun x y K => match x, y with
  | .int i, .int j => C i j ∧ K (f i j)
  | _, _ => False
theorem od_I {f : Value → Value → Sem Value} {C : Int → Int → Prop} {g : Int → Int → V} {g' : Int → Int → PyData} (h : OpR X f (rI C g)) (hg : ∀ Z H i j, Rep Z H (g i j) (g' i j)) : OpD X f (gI C g') := by
  intro pins s σ H x y v u Q I rx ry hh
  obtain ⟨Z, dx, dy, K, mz, vx, vy, t, q⟩ := hh
  cases dx with
  | int i => cases dy with
    | int j =>
      cases vInt vx; cases vInt vy
      exact h pins s σ H _ _ v u Q I rx ry ⟨i, j, rfl, rfl, t.1, q _ _ _ (Ext.refl H) (hg _ _ _ _) t.2⟩
    | _ => exact t.elim
  | _ => exact t.elim
theorem rI_of {f : Value → Value → Sem Value} {g : Int → Int → V} (h : OpR X f (rI0 g)) : OpR X f (rI (fun _ _ => True) g) := fun pins s σ H x y v u Q I rx ry ⟨i, j, e1, e2, _, q⟩ => h pins s σ H x y v u Q I rx ry ⟨i, j, e1, e2, q⟩
abbrev gSub : D2 := gI (fun _ _ => True) fun i j => .int (i - j)
abbrev gMul : D2 := gI (fun i _ => -(2 ^ 64) < i ∧ i < 2 ^ 64) fun i j => .int (i * j)
abbrev gFdiv : D2 := gI CDiv fun i j => .int (i / j)
abbrev gMod : D2 := gI (fun _ j => 0 < j) fun i j => .int (i % j)
abbrev gShl : D2 := gI CPow fun i j => .int (i * 2 ^ j.toNat)
theorem od_sub : OpD X (binaryOp .Sub) gSub := od_I (rI_of op_sub) fun _ _ _ _ => .int _
theorem od_mul : OpD X (binaryOp .Mult) gMul := od_I (C := fun i _ => -(2 ^ 64) < i ∧ i < 2 ^ 64) (fun pins s σ H x y v u Q I rx ry ⟨i, j, e1, e2, c, q⟩ => op_mul pins s σ H x y v u Q I rx ry ⟨i, j, e1, e2, .inl c, q⟩) fun _ _ _ _ => .int _
theorem od_fdiv : OpD X (binaryOp .FloorDiv) gFdiv := od_I op_fdiv fun _ _ _ _ => .int _
theorem od_mod : OpD X (binaryOp .Mod) gMod := od_I op_mod fun _ _ _ _ => .int _
theorem od_shl : OpD X (binaryOp .LShift) gShl := od_I op_shl fun _ _ _ _ => .int _
abbrev gLe : D2 := gI (fun _ _ => True) fun i j => .bool (decide (i ≤ j))
abbrev gGt : D2 := gI (fun _ _ => True) fun i j => .bool (decide (i > j))
abbrev gGe : D2 := gI (fun _ _ => True) fun i j => .bool (decide (i ≥ j))
theorem od_le : OpD X (compareOp .LtE) gLe := od_I (rI_of op_le) fun _ _ _ _ => .bl _
theorem od_gt : OpD X (compareOp .Gt) gGt := od_I (rI_of op_gt) fun _ _ _ _ => .bl _
theorem od_ge : OpD X (compareOp .GtE) gGe := od_I (rI_of op_ge) fun _ _ _ _ => .bl _
def gLt : D2 := fun x y K => match x, y with
  | .int i, .int j => K (.bool (decide (i < j)))
  | x, y => okD 8 x = true ∧ okD 8 y = true ∧ PySem.W.alike x y = true ∧ x ≠ .none ∧ K (.bool (PySem.W.dataLt x y))
theorem od_lt (hr : Room k X.A) : OpD X (compareOp .Lt) gLt := by
  intro pins s σ H x y v u Q I rx ry h
  obtain ⟨Z, dx, dy, K, mz, vx, vy, t, q⟩ := h
  have go : okD 8 dx = true ∧ okD 8 dy = true ∧ PySem.W.alike dx dy = true ∧ dx ≠ .none ∧ K (.bool (PySem.W.dataLt dx dy)) → wpAny (model X.prog X.w) X.A (compareOp .Lt v u) (EP X pins σ Q) X.xe s := fun ⟨o1, o2, al, nn, t⟩ => by
    obtain ⟨d1, _, l1⟩ := vx.dp (K := X.K) 8 o1
    obtain ⟨d2, _, l2⟩ := vy.dp (K := X.K) 8 o2
    obtain ⟨as, r1⟩ := Dp.reads I dx x v d1 rx
    obtain ⟨bs, r2⟩ := Dp.reads I dy y u d2 ry
    have hun := hr.un
    exact PySem.W.rcLt_alike dx dy X.A s v u as bs r1 r2 al nn (by omega) X.prog X.w X.xe _ ⟨.bl _, H, I, rfl, q _ _ _ (Ext.refl H) (.bl _) t⟩
  unfold gLt at t
  split at t
  · rename_i i j
    cases vInt vx; cases vInt vy
    exact op_lt pins s σ H _ _ v u Q I rx ry ⟨i, j, rfl, rfl, q _ _ _ (Ext.refl H) (.bl _) t⟩
  · exact go t
def gEq : D2 := fun x y K => okD 8 x = true ∧ okD 8 y = true ∧ K (.bool (PyData.eqv x y))
def gNe : D2 := fun x y K => okD 8 x = true ∧ okD 8 y = true ∧ K (.bool (!PyData.eqv x y))
theorem od_eq (hr : Room k X.A) : OpD X (compareOp .Eq) gEq := by
  intro pins s σ H x y v u Q I rx ry h
  obtain ⟨Z, dx, dy, K, mz, vx, vy, ⟨o1, o2, t⟩, q⟩ := h
  obtain ⟨d1, l1⟩ := vx.dp (K := X.K) 8 o1
  obtain ⟨d2, l2⟩ := vy.dp (K := X.K) 8 o2
  exact op_eqD hr.units pins s σ H x y v u Q I rx ry ⟨dx, dy, d1, d2, shaped_dp l1 (by decide), shaped_dp l2 (by decide), q _ _ _ (Ext.refl H) (.bl _) t⟩
theorem od_ne (hr : Room k X.A) : OpD X (compareOp .NotEq) gNe := by
  intro pins s σ H x y v u Q I rx ry h
  obtain ⟨Z, dx, dy, K, mz, vx, vy, ⟨o1, o2, t⟩, q⟩ := h
  obtain ⟨d1, l1⟩ := vx.dp (K := X.K) 8 o1
  obtain ⟨d2, l2⟩ := vy.dp (K := X.K) 8 o2
  exact op_neD hr.units pins s σ H x y v u Q I rx ry ⟨dx, dy, d1, d2, shaped_dp l1 (by decide), shaped_dp l2 (by decide), q _ _ _ (Ext.refl H) (.bl _) t⟩

/-! ### keys -/
def toK1 : PyData → Option Key
  | .int i => some (.inl i)
  | .str x => some (.inr x)
  | _ => none
def toKs : List PyData → Option (List Key)
  | [] => some []
  | d :: ds => match toK1 d, toKs ds with
    | some k, some ks => some (k :: ks)
    | _, _ => none
theorem toK1_eq {d : PyData} {k : Key} (h : toK1 d = some k) : d = keyD1 k := by
  cases d with
  | int i => cases h; rfl
  | str i => cases h; rfl
  | _ => cases h
theorem toKs_eq : ∀ {ds : List PyData} {ks : List Key}, toKs ds = some ks → ds = ks.map keyD1
  | [], _, h => by cases h; rfl
  | d :: ds, ks, h => by
    unfold toKs at h
    split at h
    · rename_i k1 k2 h1 h2
      cases h
      rw [toK1_eq h1, toKs_eq h2]; rfl
    · cases h
theorem toKs_strs (xs : List Str) : toKs (xs.map .str) = some (xs.map .inr) := by
  induction xs with
  | nil => rfl
  | cons x xs ih => rw [List.map_cons, toKs, ih]; rfl
theorem eqv_key1 (a b : Key) : PyData.eqv (keyD1 a) (keyD1 b) = decide (a = b) := by
  cases a with
  | inl i => cases b with
    | inl j => simp [keyD1, PyData.eqv, Bool.beq_eq_decide_eq]
    | inr y => simp [keyD1, PyData.eqv]
  | inr x => cases b with
    | inl j => simp [keyD1, PyData.eqv]
    | inr y => simp [keyD1, PyData.eqv, Bool.beq_eq_decide_eq]
theorem eqv_keys : ∀ a b : List Key, PyData.eqvAll (a.map keyD1) (b.map keyD1) = decide (a = b)
  | [], [] => by simp [PyData.eqvAll]
  | [], _ :: _ => by simp [PyData.eqvAll]
  | _ :: _, [] => by simp [PyData.eqvAll]
  | x :: a, y :: b => by
    rw [List.map_cons, List.map_cons, PyData.eqvAll, eqv_key1, eqv_keys a b]
    by_cases h1 : x = y
    · by_cases h2 : a = b <;> simp [h1, h2]
    · simp [h1]
theorem eqv_key (a b : List Key) : PyData.eqv (keyD a) (keyD b) = decide (a = b) := by
  unfold keyD
  rw [PyData.eqv, eqv_keys]
def valP (kds : List (PyData × PyData)) (k : PyData) : Option PyData := (kds.find? fun p => PyData.eqv p.1 k).map (·.2)
def putP (kds : List (PyData × PyData)) (k v : PyData) : List (PyData × PyData) :=
  if (kds.any fun p => PyData.eqv p.1 k) = true then kds.map (fun p => if PyData.eqv p.1 k = true then (p.1, v) else p) else kds ++ [(k, v)]
theorem RepK.val {Z : Zs} {H : Hp} : ∀ {kvs : List (List Key × Addr × V)} {kds : List (PyData × PyData)}, RepK Z H kvs kds → ∀ k, (valX kvs k = none ∧ valP kds (keyD k) = none) ∨ ∃ v d, valX kvs k = some v ∧ valP kds (keyD k) = some d ∧ Rep Z H v d
  | _, _, .nil, k => .inl ⟨rfl, rfl⟩
  | _, _, .cons (k := k1) (q := q) (v := v) (d := d) e0 q0 h t, k => by
    by_cases e : k1 = k
    · refine .inr ⟨v, d, by simp [valX, List.find?_cons, e], ?_, h⟩
      have : PyData.eqv (keyD k1) (keyD k) = true := by rw [eqv_key]; exact decide_eq_true e
      simp [valP, List.find?_cons, this]
    · have e2 : PyData.eqv (keyD k1) (keyD k) = false := by rw [eqv_key]; exact decide_eq_false e
      rcases t.val k with ⟨a, b⟩ | ⟨v', d', a, b, c⟩
      · exact .inl ⟨by simpa [valX, List.find?_cons, e] using a, by simpa [valP, List.find?_cons, e2] using b⟩
      · exact .inr ⟨v', d', by simpa [valX, List.find?_cons, e] using a, by simpa [valP, List.find?_cons, e2] using b, c⟩
theorem RepK.anyK {Z : Zs} {H : Hp} : ∀ {kvs : List (List Key × Addr × V)} {kds : List (PyData × PyData)}, RepK Z H kvs kds → ∀ k, (kvs.any fun kv => decide (kv.1 = k)) = kds.any fun p => PyData.eqv p.1 (keyD k)
  | _, _, .nil, k => rfl
  | _, _, .cons (k := k1) e0 q0 h t, k => by rw [List.any_cons, List.any_cons, t.anyK k, eqv_key]
theorem RepK.append {Z : Zs} {H : Hp} : ∀ {a b : List (List Key × Addr × V)} {c d : List (PyData × PyData)}, RepK Z H a c → RepK Z H b d → RepK Z H (a ++ b) (c ++ d)
  | _, _, _, _, .nil, s => s
  | _, _, _, _, .cons e q h t, s => .cons e q h (t.append s)
theorem RepK.repl {Z : Zs} {H : Hp} (k : List Key) {v : V} {d : PyData} (h : Rep Z H v d) : ∀ {kvs : List (List Key × Addr × V)} {kds : List (PyData × PyData)}, RepK Z H kvs kds →
    RepK Z H (kvs.map fun kv => if kv.1 = k then (kv.1, kv.2.1, v) else kv) (kds.map fun p => if PyData.eqv p.1 (keyD k) = true then (p.1, d) else p)
  | _, _, .nil => .nil
  | _, _, .cons (k := k1) e0 q0 a t => by
    rw [List.map_cons, List.map_cons]
    by_cases e : k1 = k
    · have e2 : PyData.eqv (keyD k1) (keyD k) = true := by rw [eqv_key]; exact decide_eq_true e
      rw [if_pos (by exact e), if_pos (by exact e2)]
      exact .cons e0 q0 h (t.repl k h)
    · have e2 : ¬ PyData.eqv (keyD k1) (keyD k) = true := by rw [eqv_key, decide_eq_false e]; exact Bool.false_ne_true
      rw [if_neg (by exact e), if_neg (by exact e2)]
      exact .cons e0 q0 a (t.repl k h)
theorem RepK.put {Z : Zs} {H : Hp} {kvs : List (List Key × Addr × V)} {kds : List (PyData × PyData)} (r : RepK Z H kvs kds) (k : List Key) {q : Addr} (e0 : IsT H q (k.map kV)) (q0 : Rep Z H (.ref q) (keyD k)) {v : V} {d : PyData} (h : Rep Z H v d) : RepK Z H (putX kvs k q v) (putP kds (keyD k) d) := by
  unfold putX putP
  rw [r.anyK k]
  split
  · exact r.repl k h
  · exact r.append (.cons e0 q0 h .nil)
theorem RepK.length {Z : Zs} {H : Hp} : ∀ {kvs : List (List Key × Addr × V)} {kds : List (PyData × PyData)}, RepK Z H kvs kds → kvs.length = kds.length
  | _, _, .nil => rfl
  | _, _, .cons _ _ _ t => congrArg Nat.succ t.length
theorem RepK.keyT {Z : Zs} {H : Hp} : ∀ {kvs : List (List Key × Addr × V)} {kds : List (PyData × PyData)}, RepK Z H kvs kds → KeyT H kvs
  | _, _, .nil => fun p hp => nomatch hp
  | _, _, .cons e _ _ t => fun p hp => by
    rcases List.mem_cons.mp hp with z | z
    · subst z; exact e
    · exact t.keyT p z
theorem keys_vals {Z : Zs} {H : Hp} : ∀ {ks : List Key} {xs : List V}, RepL Z H xs (ks.map keyD1) → xs = ks.map kV
  | [], _, .nil => rfl
  | .inl i :: r, _, .cons (.int _) t => by rw [List.map_cons, keys_vals t]; rfl
  | .inr i :: r, _, .cons (.str _ _) t => by rw [List.map_cons, keys_vals t]; rfl
/-- a value that shows a tuple of ints and texts is a key -/
theorem key_of {Z : Zs} {H : Hp} {v : V} {ds : List PyData} {ks : List Key} (r : View Z H v (.tuple ds)) (h : toKs ds = some ks) : ∃ a, v = .ref a ∧ IsT H a (ks.map kV) ∧ Rep Z H (.ref a) (.tuple ds) := by
  obtain ⟨a, xs, rfl, e, q⟩ := vTup r
  refine ⟨a, rfl, ?_, .tup e q⟩
  rw [toKs_eq h] at q
  rw [← keys_vals q]; exact e

/-! ### in -/
def hasD (neg : Bool) : D2 := fun x y K => match y with
  | .list ds => okD 8 x = true ∧ ds.all (okD 8) = true ∧ K (.bool (neg ^^ ds.any fun z => PyData.eqv z x))
  | .tuple ds => okD 8 x = true ∧ ds.all (okD 8) = true ∧ K (.bool (neg ^^ ds.any fun z => PyData.eqv z x))
  | .dict kds => match x with
    | .tuple ks => (toKs ks).isSome = true ∧ K (.bool (neg ^^ (valP kds x).isSome))
    | _ => False
  | _ => False
abbrev gIn : D2 := hasD false
abbrev gNotIn : D2 := hasD true
theorem seq_reads {Z : Zs} {H : Hp} {pins : List (Addr × Obj)} {σ : L2.St} {s : Shared} {y : V} {u : Value} {ds : List PyData} (I : Inv X pins σ H s) (ry : RelV y u) (vy : View Z H y (.list ds) ∨ View Z H y (.tuple ds)) (ok : ds.all (okD 8) = true) :
    PyData.canLayAll0 ds = true ∧ PyData.depthAll ds ≤ 8 ∧ (View Z H y (.list ds) → ∃ bs, Reads s.heap u (.list ds) bs) ∧ (View Z H y (.tuple ds) → ∃ bs, Reads s.heap u (.tuple ds) bs) := by
  have all : PyData.canLayAll0 ds = true ∧ PyData.depthAll ds ≤ 8 := by
    rcases vy with h | h
    · obtain ⟨a, xs, rfl, h, r⟩ := h
      exact (RepL.dp (K := X.K) r 8 ok).2
    · obtain ⟨a, xs, rfl, h, r⟩ := vTup h
      exact (RepL.dp (K := X.K) r 8 ok).2
  refine ⟨all.1, all.2, fun h => ?_, fun h => ?_⟩
  · exact Dp.reads I _ y u (h.dp (K := X.K) 9 ok).1 ry
  · exact Dp.reads I _ y u (h.dp (K := X.K) 9 ok).1 ry
theorem od_in (hw : Wx X) (hr : Room k X.A) : OpD X (compareOp .In) gIn := by
  intro pins s σ H x y v u Q I rx ry h
  obtain ⟨Z, dx, dy, K, mz, vx, vy, t, q⟩ := h
  have hun := hr.un
  cases dy with
  | list ds =>
    obtain ⟨o1, o2, t⟩ := t
    obtain ⟨d1, c1, l1⟩ := vx.dp (K := X.K) 8 o1
    obtain ⟨as, r1⟩ := Dp.reads I dx x v d1 rx
    obtain ⟨c, dl, hL, hT⟩ := seq_reads I ry (.inl vy) o2
    obtain ⟨bs, r2⟩ := hL vy
    exact SeqAt.in_list_reads r2 r1 c c1 (by omega) ⟨.bl _, H, I, rfl, q _ _ _ (Ext.refl H) (.bl _) (by simpa using t)⟩
  | tuple ds =>
    obtain ⟨o1, o2, t⟩ := t
    obtain ⟨d1, c1, l1⟩ := vx.dp (K := X.K) 8 o1
    obtain ⟨as, r1⟩ := Dp.reads I dx x v d1 rx
    obtain ⟨c, dl, hL, hT⟩ := seq_reads I ry (.inr vy) o2
    obtain ⟨bs, r2⟩ := hT vy
    exact SeqAt.in_tuple_reads r2 r1 c c1 (by omega) ⟨.bl _, H, I, rfl, q _ _ _ (Ext.refl H) (.bl _) (by simpa using t)⟩
  | dict kds => cases dx with
    | tuple ks =>
      obtain ⟨o1, t⟩ := t
      obtain ⟨kk, hk⟩ := Option.isSome_iff_exists.mp o1
      obtain ⟨a, kvs, rfl, h1, h2⟩ := vy
      obtain ⟨b, rfl, hb, _⟩ := key_of vx hk
      have e : PyData.tuple ks = keyD kk := by rw [toKs_eq hk]; rfl
      cases ry
      cases rx
      refine dx_in hw (by omega) I h1 h2.keyT hb fun s' I' => ⟨.bl _, H, I', rfl, q _ _ _ (Ext.refl H) (.bl _) ?_⟩
      have : (valX kvs kk).isSome = (valP kds (.tuple ks)).isSome := by
        rw [e]
        rcases h2.val kk with ⟨q1, q2⟩ | ⟨_, _, q1, q2, _⟩ <;> rw [q1, q2] <;> rfl
      rw [this]; simpa using t
    | _ => exact t.elim
  | _ => exact t.elim
theorem od_notIn (hw : Wx X) (hr : Room k X.A) : OpD X (compareOp .NotIn) gNotIn := by
  intro pins s σ H x y v u Q I rx ry h
  obtain ⟨Z, dx, dy, K, mz, vx, vy, t, q⟩ := h
  have hun := hr.un
  cases dy with
  | list ds =>
    obtain ⟨o1, o2, t⟩ := t
    obtain ⟨d1, c1, l1⟩ := vx.dp (K := X.K) 8 o1
    obtain ⟨as, r1⟩ := Dp.reads I dx x v d1 rx
    obtain ⟨c, dl, hL, hT⟩ := seq_reads I ry (.inl vy) o2
    obtain ⟨bs, r2⟩ := hL vy
    exact SeqAt.notIn_list_reads r2 r1 c c1 (by omega) ⟨.bl _, H, I, rfl, q _ _ _ (Ext.refl H) (.bl _) (by simpa using t)⟩
  | tuple ds =>
    obtain ⟨o1, o2, t⟩ := t
    obtain ⟨d1, c1, l1⟩ := vx.dp (K := X.K) 8 o1
    obtain ⟨as, r1⟩ := Dp.reads I dx x v d1 rx
    obtain ⟨c, dl, hL, hT⟩ := seq_reads I ry (.inr vy) o2
    obtain ⟨bs, r2⟩ := hT vy
    exact SeqAt.notIn_tuple_reads r2 r1 c c1 (by omega) ⟨.bl _, H, I, rfl, q _ _ _ (Ext.refl H) (.bl _) (by simpa using t)⟩
  | dict kds => cases dx with
    | tuple ks =>
      obtain ⟨o1, t⟩ := t
      obtain ⟨kk, hk⟩ := Option.isSome_iff_exists.mp o1
      obtain ⟨a, kvs, rfl, h1, h2⟩ := vy
      obtain ⟨b, rfl, hb, _⟩ := key_of vx hk
      have e : PyData.tuple ks = keyD kk := by rw [toKs_eq hk]; rfl
      cases ry
      cases rx
      refine dx_notIn hw (by omega) I h1 h2.keyT hb fun s' I' => ⟨.bl _, H, I', rfl, q _ _ _ (Ext.refl H) (.bl _) ?_⟩
      have : (valX kvs kk).isSome = (valP kds (.tuple ks)).isSome := by
        rw [e]
        rcases h2.val kk with ⟨q1, q2⟩ | ⟨_, _, q1, q2, _⟩ <;> rw [q1, q2] <;> rfl
      rw [this]; simpa using t
    | _ => exact t.elim
  | _ => exact t.elim
/-! ### is -/
def isD (neg : Bool) : D2 := fun x y K => match y with
  | .none => K (.bool (neg ^^ isNo x))
  | .bool b => match x with
    | .bool a => K (.bool (neg ^^ decide (a = b)))
    | _ => False
  | _ => False
abbrev gIs : D2 := isD false
abbrev gIsNot : D2 := isD true
theorem od_is : OpD X (compareOp .Is) gIs := by
  intro pins s σ H x y v u Q I rx ry h
  obtain ⟨Z, dx, dy, K, mz, vx, vy, t, q⟩ := h
  cases dy with
  | none =>
    have vy' : Rep Z H y .none := vy
    cases vy'
    refine op_isN pins s σ H _ _ v u Q I rx ry ⟨rfl, ?_⟩
    rw [vNon vx]
    exact q _ _ _ (Ext.refl H) (.bl _) (by simpa [isD] using t)
  | bool b => cases dx with
    | bool a =>
      cases vBool vx; cases vBool vy
      exact op_isBl pins s σ H _ _ v u Q I rx ry ⟨a, b, rfl, rfl, q _ _ _ (Ext.refl H) (.bl _) (by simpa [isD] using t)⟩
    | _ => exact t.elim
  | _ => exact t.elim
theorem od_isNot : OpD X (compareOp .IsNot) gIsNot := by
  intro pins s σ H x y v u Q I rx ry h
  obtain ⟨Z, dx, dy, K, mz, vx, vy, t, q⟩ := h
  cases dy with
  | none =>
    have vy' : Rep Z H y .none := vy
    cases vy'
    refine op_notN pins s σ H _ _ v u Q I rx ry ⟨rfl, ?_⟩
    rw [vNon vx]
    exact q _ _ _ (Ext.refl H) (.bl _) (by simpa [isD] using t)
  | bool b => cases dx with
    | bool a =>
      cases vBool vx; cases vBool vy
      exact op_notBl pins s σ H _ _ v u Q I rx ry ⟨a, b, rfl, rfl, q _ _ _ (Ext.refl H) (.bl _) (by simpa [isD] using t)⟩
    | _ => exact t.elim
  | _ => exact t.elim
end
end DL
/-! DL5: subscripts, slices, calls of built-ins, methods, stores over data. -/
namespace DL
open PySem L2
variable [TheW]

section
variable {X : Cx} {W : Wd} {e a b c : Expr} {es : List Expr} {pos : Pos} {k : Nat}
/-! ### subscripts -/
def gIx : D2 := fun x y K => match x, y with
  | .list ds, .int i => ∃ d, atI ds i = some d ∧ K d
  | .tuple ds, .int i => ∃ d, atI ds i = some d ∧ K d
  | .str z, .int i => z.length ≤ 1000 ∧ ∃ c, atI z.cps.toList i = some c ∧ K (.str ⟨#[c]⟩)
  | .dict kds, .tuple ks => (toKs ks).isSome = true ∧ ∃ d, valP kds (.tuple ks) = some d ∧ K d
  | _, _ => False
theorem atI_rep {Z : Zs} {H : Hp} {vs : List V} {ds : List PyData} {i : Int} {d : PyData} (r : RepL Z H vs ds) (h : atI ds i = some d) : ∃ v, atI vs i = some v ∧ Rep Z H v d := by
  unfold atI at *
  rw [r.length]
  cases q : ixN ds.length i with
  | none => rw [q] at h; cases h
  | some j =>
    rw [q] at h
    exact r.get h
theorem strOk_get {z : Str} {c : Nat} (h : PyData.strOk z = true) (hc : c ∈ z.cps.toList) : PyData.strOk ⟨#[c]⟩ = true := by
  unfold PyData.strOk at *
  rw [← Array.all_toList] at h
  have := List.all_eq_true.mp h c hc
  simpa using this
theorem atI_mem {α : Type} {xs : List α} {i : Int} {v : α} (h : atI xs i = some v) : v ∈ xs := by
  unfold atI at h
  cases q : ixN xs.length i with
  | none => rw [q] at h; cases h
  | some j => rw [q] at h; exact List.mem_of_getElem? h
theorem ixd_any (hw : Wx X) (hr : Room k X.A) : IxR X (opRel gIx) := by
  intro value slice pins s σ H x y v u Q I rx ry h hs
  obtain ⟨Z, dx, dy, K, mz, vx, vy, t, q⟩ := h
  have hun := hr.un
  cases dx with
  | list ds => cases dy with
    | int i =>
      cases vInt vy
      obtain ⟨a, xs, rfl, ha, r⟩ := vx
      obtain ⟨d, hd, t⟩ := t
      · obtain ⟨w, hw, rw'⟩ := atI_rep r hd
        exact ix_list value slice pins s σ H _ _ v u Q I rx ry ⟨a, xs, i, w, rfl, rfl, .of ha, hw, q _ _ _ (Ext.refl H) rw' t⟩ hs
    | _ => exact t.elim
  | tuple ds => cases dy with
    | int i =>
      cases vInt vy
      obtain ⟨a, xs, rfl, ha, r⟩ := vTup vx
      obtain ⟨d, hd, t⟩ := t
      · obtain ⟨w, hw, rw'⟩ := atI_rep r hd
        exact ix_tup value slice pins s σ H _ _ v u Q I rx ry ⟨a, xs, i, w, rfl, rfl, ha.sq, hw, q _ _ _ (Ext.refl H) rw' t⟩ hs
    | _ => exact t.elim
  | str z => cases dy with
    | int i =>
      cases vInt vy
      obtain ⟨rfl, hz⟩ := vStr vx
      obtain ⟨l, c, hc, t⟩ := t
      · exact ix_str value slice pins s σ H _ _ v u Q I rx ry ⟨z, i, c, rfl, rfl, line1000 l, hc, q _ _ _ (Ext.refl H) (.str _ (strOk_get hz (atI_mem hc))) t⟩ hs
    | _ => exact t.elim
  | dict kds => cases dy with
    | tuple ks =>
      obtain ⟨o1, t⟩ := t
      obtain ⟨kk, hk⟩ := Option.isSome_iff_exists.mp o1
      obtain ⟨a, kvs, rfl, h1, h2⟩ := vx
      obtain ⟨b, rfl, hb, _⟩ := key_of vy hk
      have e : PyData.tuple ks = keyD kk := by rw [toKs_eq hk]; rfl
      cases rx
      cases ry
      obtain ⟨d, hd, t⟩ := t
      · rw [e] at hd
        rcases h2.val kk with ⟨q1, q2⟩ | ⟨w, d', q1, q2, q3⟩
        · rw [q2] at hd; cases hd
        · rw [q2] at hd
          cases hd
          have ty : s.TypeIs (.ref a) "dict" := by
            obtain ⟨_, _, _, _, _, o, _, _, ho, hx, _⟩ := dx_rd hw I h1 h2.keyT
            exact ⟨o, ho, hx.1⟩
          exact PyProof.Rows.tail_any ty PySem.F.slot_dict_getitem.lookup (dx_get hw (by omega) I h1 h2.keyT hb q1 fun w' s' I' rw' => ⟨w, H, I', rw', q _ _ _ (Ext.refl H) q3 t⟩) hs
    | _ => exact t.elim
  | _ => exact t.elim
def dIx (Ta Tb : DTE) : DTE := dOp gIx Ta Tb
theorem de_ix {Ta Tb : DTE} (hw : Wx X) (hr : Room k X.A) (ha : DE X W a Ta) (hb : DE X W b Tb) (hs : PlainIx b := by exact fun _ _ => rfl) : DE X W (.Subscript a b pos) (dIx Ta Tb) :=
  (pe_ix (ixd_any hw hr) ha hb hs).weak fun σ H Q' h => op_core σ H Q' h

/-! ### slices -/
def cutL {α : Type} (xs : List α) (lo hi : Option Int) : List α := (xs.drop (HT.sIx xs.length 0 lo)).take (HT.sIx xs.length xs.length hi - HT.sIx xs.length 0 lo)
abbrev DTO := DSt → (Option Int → DSt → Prop) → Prop
def liftO (W : Wd) (T : DTO) : TO := fun σ H Q' => ∃ (s : DSt) (Q : Option Int → DSt → Prop), EnvR W σ H s ∧ T s Q ∧ ∀ b H' s', Stp W σ H s σ H' s' → Q b s' → Q' b H'
abbrev DO (X : Cx) (W : Wd) (e : Option Expr) (T : DTO) : Prop := PO X e (liftO W T)
theorem _root_.L2.PO.weak {e : Option Expr} {t t' : TO} (h : PO X e t) (w : ∀ σ H Q, t' σ H Q → t σ H Q) : PO X e t' := ⟨fun pins s σ H Q I q => h.run pins s σ H Q I (w _ _ _ q)⟩
def dNo : DTO := fun s Q => Q none s
def dPart (T : DTE) : DTO := fun s Q => T s fun x s1 => match x with
  | .d (.int i) => Q (some i) s1
  | _ => False
theorem do_none : DO X W none dNo := po_none.weak fun σ H Q' ⟨s, Q, E, t, k⟩ => k none H s (.refl E) t
theorem do_some {T : DTE} (h : DE X W e T) : DO X W (some e) (dPart T) := by
  refine (po_some h).weak fun σ H Q' ⟨s, Q, E, t, k⟩ => ⟨s, _, E, t, fun v H1 x s1 S1 r1 t1 => ?_⟩
  split at t1
  · rename_i i
    cases r1
    exact ⟨i, rfl, k (some i) H1 s1 S1 t1⟩
  · exact t1.elim
def gSl (x : PyData) (lo hi : Option Int) (K : PyData → Prop) : Prop := match x with
  | .list ds => K (.list (cutL ds lo hi))
  | .tuple ds => K (.tuple (cutL ds lo hi))
  | .str z => z.length ≤ 1000 ∧ K (.str (cutS z lo hi))
  | _ => False
def slRel : V → Option Int → Option Int → Hp → VK → Prop := fun x lo hi H Q => ∃ (Z : Zs) (dx : PyData) (K : PyData → Prop), (∀ a, Z a → Mut (H a)) ∧ View Z H x dx ∧ gSl dx lo hi K ∧ ∀ v H' d, Ext H H' → Rep Z H' v d → K d → Q v H'
theorem RepL.cut {Z : Zs} {H : Hp} {vs : List V} {ds : List PyData} (r : RepL Z H vs ds) (lo hi : Option Int) : RepL Z H (cutV vs lo hi) (cutL ds lo hi) := by
  unfold cutV cutL
  rw [r.length]
  exact (r.drop _).take _
theorem cut_whole {α : Type} {xs : List α} {lo hi : Option Int} (h : HT.sIx xs.length 0 lo = 0 ∧ HT.sIx xs.length xs.length hi = xs.length) : cutL xs lo hi = xs := by
  unfold cutL
  rw [h.1, h.2]
  simp
theorem strOk_cut {z : Str} {lo hi : Option Int} (h : PyData.strOk z = true) : PyData.strOk (cutS z lo hi) = true := by
  unfold PyData.strOk at *
  rw [← Array.all_toList] at *
  rw [List.all_eq_true] at *
  intro c hc
  exact h c (List.mem_of_mem_drop (List.mem_of_mem_take (by simpa [cutS] using hc)))
theorem sl_any : SlR X slRel := by
  intro pins s σ H x v vl vu lo hi sl Q I rx hs pl pu h
  obtain ⟨Z, dx, K, mz, vx, t, q⟩ := h
  cases dx with
  | list ds =>
    obtain ⟨a, xs, rfl, ha, r⟩ := vx
    exact sl_list pins s σ H _ v vl vu lo hi sl Q I rx hs pl pu ⟨a, xs, rfl, .of ha, fun p hp => q _ _ _ (Ext.new hp) (.lst upd_same (new_not mz hp) ((r.cut lo hi).mono ((Ext.new hp).fr _))) t⟩
  | tuple ds =>
    obtain ⟨a, xs, rfl, ha, r⟩ := vTup vx
    refine sl_tupX pins s σ H _ v vl vu lo hi sl Q I rx hs pl pu ⟨a, xs, rfl, ha.sq, fun hw => ?_, fun _ p o hp ho => q _ _ _ (Ext.new hp) (.tup (.new ho) ((r.cut lo hi).mono ((Ext.new hp).fr _))) t⟩
    refine q _ _ _ (Ext.refl H) ?_ t
    rw [r.length] at hw
    rw [cut_whole hw]
    exact .tup ha r
  | str z =>
    obtain ⟨rfl, hz⟩ := vStr vx
    exact sl_str pins s σ H _ v vl vu lo hi sl Q I rx hs pl pu ⟨z, rfl, line1000 t.1, q _ _ _ (Ext.refl H) (.str _ (strOk_cut hz)) t.2⟩
  | _ => exact t.elim
def dSl (Te : DTE) (Tl Th : DTO) : DTE := fun s Q => Te s fun x s1 => Tl s1 fun l s2 => Th s2 fun u s3 => look s3 x fun d => gSl d l u fun d' => Q (.d d') s3
theorem de_slice {lo hi : Option Expr} {p2 : Pos} {Te : DTE} {Tl Th : DTO} (he : DE X W e Te) (hl : DO X W lo Tl) (hu : DO X W hi Th) : DE X W (.Subscript e (.Slice lo hi none p2) pos) (dSl Te Tl Th) := by
  refine (pe_slice sl_any he hl hu).weak fun σ H Q' ⟨s, Q, E, t, k⟩ => ?_
  refine ⟨s, _, E, t, fun v H1 x s1 S1 r1 t1 => ⟨s1, _, S1.env, t1, fun l H2 s2 S2 t2 => ⟨s2, _, S2.env, t2, fun u H3 s3 S3 t3 => ?_⟩⟩⟩
  obtain ⟨d, vd, t4⟩ := look_view S3.env ((r1.keep S1.env S2.fr).keep S2.env S3.fr) t3
  exact ⟨_, d, _, S3.env.mzo, vd, t4, fun w H4 d' x4 r4 q => k w H4 (.d d') s3 (((S1.trans S2).trans S3).trans (.ext S3.env x4)) r4 q⟩
/-- e[::-1], a list -/
def fRev (Te : DTE) : DTF := fun s Q => Te s fun x s1 => look s1 x fun d => match d with
  | .list ds => Q (.lst ds.reverse) s1
  | _ => False
theorem df_rev {p1 p2 p3 : Pos} {kk : Nat} {Te : DTE} (he : DE X W e Te) : DF X W (.Subscript e (.Slice none none (some (.UnaryOp .USub (.Constant (.int 1) kk p1) p2)) p3) pos) (fRev Te) := by
  refine (pe_revL he).weak fun σ H Q' ⟨s, Q, E, t, k⟩ => ?_
  refine ⟨s, _, E, t, fun v H1 x s1 S1 r1 t1 => ?_⟩
  obtain ⟨d, vd, t2⟩ := look_view S1.env r1 t1
  cases d with
  | list ds =>
    obtain ⟨a, xs, rfl, ha, r⟩ := vd
    refine ⟨a, xs, rfl, .of ha, fun p hp => ?_⟩
    have x : Ext H1 (upd H1 p (.lst xs.reverse)) := .new hp
    have n := own_fresh S1.env hp
    exact k p _ (.lst ds.reverse) s1 (S1.trans (.ext S1.env x)) (S1.env.add x hp (by rw [upd_same]; trivial)) ⟨_, upd_same, r.reverse.mono (fr_add x hp)⟩ (S1.fr.dom _ hp) n.1 n.2 t2
  | _ => exact t2.elim

/-! ### built-ins called -/
def ArgV (Z : Zs) (H : Hp) (v : V) : DV → Prop
  | .d x => View Z H v x
  | .r u => v = u
  | .b _ => False
  | .p _ => False
abbrev DCB := List DV → (PyData → Prop) → Prop
def callRel (g : DCB) : List V → Hp → VK → Prop := fun xs H Q => ∃ (Z : Zs) (ys : List DV) (K : PyData → Prop), (∀ a, Z a → Mut (H a)) ∧ Paired (ArgV Z H) xs ys ∧ g ys K ∧ ∀ v H' d, Ext H H' → Rep Z H' v d → K d → Q v H'
def lookA (s : DSt) : List DV → (List DV → Prop) → Prop
  | [], K => K []
  | .r v :: r, K => lookA s r fun ys => K (.r v :: ys)
  | x :: r, K => look s x fun d => lookA s r fun ys => K (.d d :: ys)
theorem lookA_view {σ : L2.St} {s : DSt} {H : Hp} (E : EnvR W σ H s) : ∀ {vs : List V} {xs : List DV} {K : List DV → Prop}, DVRs W σ s H vs xs → lookA s xs K → ∃ ys, Paired (ArgV (Zo W.Z (OwnA σ s)) H) vs ys ∧ K ys
  | _, _, _, .nil, h => ⟨[], .nil, h⟩
  | _, .r v :: _, _, .cons r t, h => by
    obtain ⟨ys, p, q⟩ := lookA_view E t h
    exact ⟨.r v :: ys, .cons r p, q⟩
  | _, .d x :: _, _, .cons r t, h => by
    obtain ⟨d, vd, h2⟩ := look_view E r h
    obtain ⟨ys, p, q⟩ := lookA_view E t h2
    exact ⟨.d d :: ys, .cons vd p, q⟩
  | _, .b i :: _, _, .cons r t, h => by
    obtain ⟨d, vd, h2⟩ := look_view E r h
    obtain ⟨ys, p, q⟩ := lookA_view E t h2
    exact ⟨.d d :: ys, .cons vd p, q⟩
  | _, .p _ :: _, _, .cons r t, h => h.elim
def dCB (g : DCB) (Ta : DTA) : DTE := fun s Q => Ta s fun xs s1 => lookA s1 xs fun ys => g ys fun d => Q (.d d) s1
theorem cb_core {g : DCB} {Ta : DTA} (σ : L2.St) (H : Hp) (Q' : VK) (h : liftE W (dCB g Ta) σ H Q') : tCB (callRel g) (liftA W Ta) σ H Q' := by
  obtain ⟨s, Q, E, t, k⟩ := h
  refine ⟨s, _, E, t, fun vs H1 xs s1 S1 r1 t1 => ?_⟩
  obtain ⟨ys, p, t2⟩ := lookA_view S1.env r1 t1
  exact ⟨_, ys, _, S1.env.mzo, p, t2, fun v H2 d x2 r2 q => k v H2 (.d d) s1 (S1.trans (.ext S1.env x2)) r2 q⟩
theorem de_callB {x : Str} {id : String} {p : Pos} {g : DCB} {Ta : DTA} (hc : CallR X (.builtin id) (callRel g)) (hg : Gl X x) (hm : X.mg x = none) (hv : bootBuiltins x = some (.builtin id)) (ha : DA X W (e :: es) Ta) (hn : x ≠ "__name__" := by decide) (hdb : (x == ("__debug__" : Str)) = false := by decide)
    (he : starEach (e :: es) X.env = (false, eval e X.env) :: starEach es X.env := by rfl) (hpl : (backTo pos (starEach es X.env)).any (·.1) = false := by rfl) : DE X W (.Call (.Name x p) (e :: es) [] pos) (dCB g Ta) :=
  (pe_callB hc hg hm hv ha hn hdb he hpl).weak fun σ H Q' h => cb_core σ H Q' h
theorem de_callTy {x : Str} {id : String} {p : Pos} {g : DCB} {Ta : DTA} (hc : CallR X (.type id) (callRel g)) (hg : Gl X x) (hm : X.mg x = none) (hv : bootBuiltins x = some (.type id)) (ha : DA X W (e :: es) Ta) (hn : x ≠ "__name__" := by decide) (hdb : (x == ("__debug__" : Str)) = false := by decide)
    (he : starEach (e :: es) X.env = (false, eval e X.env) :: starEach es X.env := by rfl) (hpl : (backTo pos (starEach es X.env)).any (·.1) = false := by rfl) : DE X W (.Call (.Name x p) (e :: es) [] pos) (dCB g Ta) :=
  (pe_callTy hc hg hm hv ha hn hdb he hpl).weak fun σ H Q' h => cb_core σ H Q' h
theorem argv1 {Z : Zs} {H : Hp} {vs : List V} {x : DV} (r : Paired (ArgV Z H) vs [x]) : ∃ v, vs = [v] ∧ ArgV Z H v x := by
  cases r with
  | cons a t => cases t; exact ⟨_, rfl, a⟩
theorem argv2 {Z : Zs} {H : Hp} {vs : List V} {x y : DV} (r : Paired (ArgV Z H) vs [x, y]) : ∃ v w, vs = [v, w] ∧ ArgV Z H v x ∧ ArgV Z H w y := by
  cases r with
  | cons a t => cases t with
    | cons b t => cases t; exact ⟨_, _, rfl, a, b⟩
def g1 (f : PyData → (PyData → Prop) → Prop) : DCB := fun ys K => match ys with
  | [.d x] => f x K
  | _ => False
def g2 (f : PyData → PyData → (PyData → Prop) → Prop) : DCB := fun ys K => match ys with
  | [.d x, .d y] => f x y K
  | _ => False
theorem g1_elim {f : PyData → (PyData → Prop) → Prop} {ys : List DV} {K : PyData → Prop} (h : g1 f ys K) : ∃ x, ys = [.d x] ∧ f x K := by
  unfold g1 at h
  split at h
  · exact ⟨_, rfl, h⟩
  · exact h.elim
theorem g2_elim {f : PyData → PyData → (PyData → Prop) → Prop} {ys : List DV} {K : PyData → Prop} (h : g2 f ys K) : ∃ x y, ys = [.d x, .d y] ∧ f x y K := by
  unfold g2 at h
  split at h
  · exact ⟨_, _, rfl, h⟩
  · exact h.elim
/-! len -/
def gLen1 : PyData → (PyData → Prop) → Prop := fun x K => match x with
  | .list ds => K (.int ds.length)
  | .tuple ds => K (.int ds.length)
  | .str z => z.length ≤ 1000 ∧ K (.int z.length)
  | .dict kds => K (.int kds.length)
  | _ => False
abbrev gLen : DCB := g1 gLen1
theorem cr_len (hw : Wx X) : CallR X (.builtin "len") (callRel gLen) := by
  intro pins s σ H xs us Q I r h
  obtain ⟨Z, ys, K, mz, p, t, q⟩ := h
  obtain ⟨x, rfl, t⟩ := g1_elim t
  obtain ⟨v, rfl, vx⟩ := argv1 p
  have vx : View Z H v x := vx
  cases x with
  | list ds =>
    obtain ⟨a, xs, rfl, ha, rl⟩ := vx
    exact call_len_seq pins s σ H _ us Q I r ⟨a, xs, rfl, .inl (.of ha), q _ _ (.int ds.length) (Ext.refl H) (by rw [rl.length]; exact .int _) t⟩
  | tuple ds =>
    obtain ⟨a, xs, rfl, ha, rl⟩ := vTup vx
    exact call_len_seq pins s σ H _ us Q I r ⟨a, xs, rfl, .inr ha.sq, q _ _ (.int ds.length) (Ext.refl H) (by rw [rl.length]; exact .int _) t⟩
  | str z =>
    obtain ⟨rfl, hz⟩ := vStr vx
    exact call_len_str pins s σ H _ us Q I r ⟨z, rfl, line1000 t.1, q _ _ _ (Ext.refl H) (.int _) t.2⟩
  | dict kds =>
    obtain ⟨a, kvs, rfl, ha, rl⟩ := vx
    obtain ⟨u, rfl, rx⟩ := vals1 r
    obtain rfl : u = .ref a := rx
    obtain ⟨z, hd, ks, rel, dd, _⟩ := dx_rd hw I ha rl.keyT
    have hl : kvs.length = ks.length := Paired.length rel
    refine call_len_dictH (knd := PySem.tupleKind (mixKind X.prog X.w)) hd dd (by rw [← hl]; rw [sizeLine_eq] at z; omega) ?_
    rw [← hl, rl.length]
    exact ⟨.int (kds.length : Nat), H, I.tok _, ⟨_, rfl⟩, q _ _ _ (Ext.refl H) (.int _) t⟩
  | _ => exact t.elim
/-! min, max of two ints; sum; all, any -/
def gMin2 : DCB := g2 fun x y K => match x, y with
  | .int i, .int j => K (.int (if j < i then j else i))
  | _, _ => False
def gMax2 : DCB := g2 fun x y K => match x, y with
  | .int i, .int j => K (.int (if j > i then j else i))
  | _, _ => False
theorem cr_min2 (hc : X.calm = true) : CallR X (.builtin "min") (callRel gMin2) := by
  intro pins s σ H xs us Q I r h
  obtain ⟨Z, ys, K, mz, p, t, q⟩ := h
  obtain ⟨x, y, rfl, t⟩ := g2_elim t
  obtain ⟨v, w, rfl, vx, vy⟩ := argv2 p
  cases x with
  | int i => cases y with
    | int j =>
      cases vInt (show View Z H v (.int i) from vx); cases vInt (show View Z H w (.int j) from vy)
      exact call_min2 hc pins s σ H _ us Q I r ⟨i, j, rfl, q _ _ _ (Ext.refl H) (.int _) t⟩
    | _ => exact t.elim
  | _ => exact t.elim
theorem cr_max2 (hc : X.calm = true) : CallR X (.builtin "max") (callRel gMax2) := by
  intro pins s σ H xs us Q I r h
  obtain ⟨Z, ys, K, mz, p, t, q⟩ := h
  obtain ⟨x, y, rfl, t⟩ := g2_elim t
  obtain ⟨v, w, rfl, vx, vy⟩ := argv2 p
  cases x with
  | int i => cases y with
    | int j =>
      cases vInt (show View Z H v (.int i) from vx); cases vInt (show View Z H w (.int j) from vy)
      exact call_max2 hc pins s σ H _ us Q I r ⟨i, j, rfl, q _ _ _ (Ext.refl H) (.int _) t⟩
    | _ => exact t.elim
  | _ => exact t.elim
def asInts : List PyData → Option (List Int)
  | [] => some []
  | .int i :: r => (asInts r).map (i :: ·)
  | _ => none
def asBools : List PyData → Option (List Bool)
  | [] => some []
  | .bool i :: r => (asBools r).map (i :: ·)
  | _ => none
theorem asInts_map (xs : List Int) : asInts (xs.map .int) = some xs := by
  induction xs with
  | nil => rfl
  | cons x xs ih => rw [List.map_cons, asInts, ih]; rfl
theorem asBools_map (xs : List Bool) : asBools (xs.map .bool) = some xs := by
  induction xs with
  | nil => rfl
  | cons x xs ih => rw [List.map_cons, asBools, ih]; rfl
theorem ints_rep {Z : Zs} {H : Hp} : ∀ {ds : List PyData} {ns : List Int} {vs : List V}, RepL Z H vs ds → asInts ds = some ns → vs = ns.map V.int
  | _, _, _, .nil, h => by cases h; rfl
  | _, _, _, .cons (.int i) t, h => by
    unfold asInts at h
    cases q : asInts _ with
    | none => rw [q] at h; cases h
    | some r => rw [q] at h; cases h; rw [ints_rep t q]; rfl
  | _, _, _, .cons .non t, h => by cases h
  | _, _, _, .cons (.bl _) t, h => by cases h
  | _, _, _, .cons (.str _ _) t, h => by cases h
  | _, _, _, .cons (.lst _ _ _) t, h => by cases h
  | _, _, _, .cons (.tup _ _) t, h => by cases h
  | _, _, _, .cons (.dct _ _) t, h => by cases h
theorem bools_rep {Z : Zs} {H : Hp} : ∀ {ds : List PyData} {ns : List Bool} {vs : List V}, RepL Z H vs ds → asBools ds = some ns → vs = ns.map V.bl
  | _, _, _, .nil, h => by cases h; rfl
  | _, _, _, .cons (.bl i) t, h => by
    unfold asBools at h
    cases q : asBools _ with
    | none => rw [q] at h; cases h
    | some r => rw [q] at h; cases h; rw [bools_rep t q]; rfl
  | _, _, _, .cons .non t, h => by cases h
  | _, _, _, .cons (.int _) t, h => by cases h
  | _, _, _, .cons (.str _ _) t, h => by cases h
  | _, _, _, .cons (.lst _ _ _) t, h => by cases h
  | _, _, _, .cons (.tup _ _) t, h => by cases h
  | _, _, _, .cons (.dct _ _) t, h => by cases h
def fSum : PyData → (PyData → Prop) → Prop := fun x K => match x with
  | .list ds => ∃ ns, asInts ds = some ns ∧ K (.int ns.sum)
  | _ => False
def fAll : PyData → (PyData → Prop) → Prop := fun x K => match x with
  | .list ds => ∃ ns, asBools ds = some ns ∧ K (.bool (ns.all id))
  | _ => False
def fAny : PyData → (PyData → Prop) → Prop := fun x K => match x with
  | .list ds => ∃ ns, asBools ds = some ns ∧ K (.bool (ns.any id))
  | _ => False
abbrev gSum : DCB := g1 fSum
abbrev gAll : DCB := g1 fAll
abbrev gAny : DCB := g1 fAny
theorem cr_sumD (hc : X.calm = true) : CallR X (.builtin "sum") (callRel gSum) := by
  intro pins s σ H xs us Q I r h
  obtain ⟨Z, ys, K, mz, p, t, q⟩ := h
  obtain ⟨x, rfl, t1⟩ := g1_elim t
  obtain ⟨v, rfl, vx⟩ := argv1 p
  cases x with
  | list ds =>
    obtain ⟨a, xs, rfl, ha, rl⟩ := (show View Z H v (.list ds) from vx)
    obtain ⟨ns, hn, t1⟩ := t1
    · cases ints_rep rl hn
      exact cr_sum hc pins s σ H _ us Q I r ⟨a, ns, rfl, .of ha, q _ _ _ (Ext.refl H) (.int _) t1⟩
  | _ => exact t1.elim
theorem cr_allD (hc : X.calm = true) : CallR X (.builtin "all") (callRel gAll) := by
  intro pins s σ H xs us Q I r h
  obtain ⟨Z, ys, K, mz, p, t, q⟩ := h
  obtain ⟨x, rfl, t1⟩ := g1_elim t
  obtain ⟨v, rfl, vx⟩ := argv1 p
  cases x with
  | list ds =>
    obtain ⟨a, xs, rfl, ha, rl⟩ := (show View Z H v (.list ds) from vx)
    obtain ⟨ns, hn, t1⟩ := t1
    · cases bools_rep rl hn
      exact cr_all hc pins s σ H _ us Q I r ⟨a, ns, rfl, .of ha, q _ _ _ (Ext.refl H) (.bl _) t1⟩
  | _ => exact t1.elim
theorem cr_anyD (hc : X.calm = true) : CallR X (.builtin "any") (callRel gAny) := by
  intro pins s σ H xs us Q I r h
  obtain ⟨Z, ys, K, mz, p, t, q⟩ := h
  obtain ⟨x, rfl, t1⟩ := g1_elim t
  obtain ⟨v, rfl, vx⟩ := argv1 p
  cases x with
  | list ds =>
    obtain ⟨a, xs, rfl, ha, rl⟩ := (show View Z H v (.list ds) from vx)
    obtain ⟨ns, hn, t1⟩ := t1
    · cases bools_rep rl hn
      exact cr_any hc pins s σ H _ us Q I r ⟨a, ns, rfl, .of ha, q _ _ _ (Ext.refl H) (.bl _) t1⟩
  | _ => exact t1.elim
/-! tuple(x), list(x) -/
def gTuple : DCB := g1 fun x K => match x with
  | .list ds => K (.tuple ds)
  | .tuple ds => K (.tuple ds)
  | _ => False
theorem cr_tuple : CallR X (.type "tuple") (callRel gTuple) := by
  intro pins s σ H xs us Q I r h
  obtain ⟨Z, ys, K, mz, p, t, q⟩ := h
  obtain ⟨x, rfl, t⟩ := g1_elim t
  obtain ⟨v, rfl, vx⟩ := argv1 p
  cases x with
  | list ds =>
    obtain ⟨a, xs, rfl, ha, rl⟩ := (show View Z H v (.list ds) from vx)
    exact call_tupleX pins s σ H _ us Q I r ⟨a, xs, rfl, .inl ⟨.of ha, fun l o hl ho => q _ _ _ (Ext.new hl) (.tup (.new ho) (rl.mono ((Ext.new hl).fr _))) t⟩⟩
  | tuple ds =>
    obtain ⟨a, xs, rfl, ha, rl⟩ := vTup (show View Z H v (.tuple ds) from vx)
    exact call_tupleX pins s σ H _ us Q I r ⟨a, xs, rfl, .inr ⟨ha.sq, q _ _ _ (Ext.refl H) (.tup ha rl) t⟩⟩
  | _ => exact t.elim
def fList (Ta : DTA) : DTF := fun s Q => Ta s fun xs s1 => lookA s1 xs fun ys => match ys with
  | [.d (.list ds)] => Q (.lst ds) s1
  | [.d (.tuple ds)] => Q (.lst ds) s1
  | _ => False
theorem df_list {p : Pos} {Ta : DTA} (hg : Gl X "list") (hm : X.mg "list" = none) (ha : DA X W (e :: es) Ta) (he : starEach (e :: es) X.env = (false, eval e X.env) :: starEach es X.env := by rfl) (hpl : (backTo pos (starEach es X.env)).any (·.1) = false := by rfl) :
    DF X W (.Call (.Name "list" p) (e :: es) [] pos) (fList Ta) := by
  refine (pe_callTy call_list_of hg hm (by decide +kernel) ha (by decide) (by decide) he hpl).weak fun σ H Q' ⟨s, Q, E, t, k⟩ => ?_
  refine ⟨s, _, E, t, fun vs H1 xs s1 S1 r1 t1 => ?_⟩
  obtain ⟨ys, p, t2⟩ := lookA_view S1.env r1 t1
  have go : ∀ {a : Addr} {zs : List V} {ds : List PyData}, RepL (Zo W.Z (OwnA σ s1)) H1 zs ds → Q (.lst ds) s1 → ∀ l, H1 l = none → Q' (.ref l) (upd H1 l (.lst zs)) := fun {a zs ds} rl t l hl => by
    have x : Ext H1 (upd H1 l (.lst zs)) := .new hl
    have n := own_fresh S1.env hl
    exact k l _ (.lst ds) s1 (S1.trans (.ext S1.env x)) (S1.env.add x hl (by rw [upd_same]; trivial)) ⟨_, upd_same, rl.mono (fr_add x hl)⟩ (S1.fr.dom _ hl) n.1 n.2 t
  split at t2
  · rename_i ds
    obtain ⟨v, rfl, vx⟩ := argv1 p
    obtain ⟨a, zs, rfl, ha, rl⟩ := (show View _ H1 v (.list ds) from vx)
    exact ⟨a, zs, rfl, .inl (.of ha), go (a := a) rl t2⟩
  · rename_i ds
    obtain ⟨v, rfl, vx⟩ := argv1 p
    obtain ⟨a, zs, rfl, ha, rl⟩ := vTup (show View _ H1 v (.tuple ds) from vx)
    exact ⟨a, zs, rfl, .inr ha.sq, go (a := a) rl t2⟩
  · exact t2.elim
/-! isinstance(x, tuple), isinstance(x, str) -/
def tyName : PyData → Option String
  | .list _ => some "list"
  | .tuple _ => some "tuple"
  | .str _ => some "str"
  | .int _ => some "int"
  | .none => some "NoneType"
  | _ => none
def gIsi : DCB := fun ys K => match ys with
  | [.d x, .r (.ty n)] => ∃ m b, tyName x = some m ∧ kitB m n = some b ∧ K (.bool b)
  | _ => False
theorem ty_of {K : PySem.W.Frag} {Z : Zs} {H : Hp} {v : V} {x : PyData} {m : String} (vx : View Z H v x) (h : tyName x = some m) : TyX K H v (.type m) := by
  cases x with
  | list ds => cases h; obtain ⟨a, xs, rfl, ha, rl⟩ := vx; exact .base (.lst ha)
  | tuple ds => cases h; obtain ⟨a, xs, rfl, ⟨_, ha, _⟩, rl⟩ := vTup vx; exact .fTuple ha
  | str z => cases h; obtain ⟨rfl, _⟩ := vStr vx; exact .base (.str _)
  | int z => cases h; cases vInt vx; exact .base (.int _)
  | none => cases h; have vx' : Rep Z H v .none := vx; cases vx'; exact .base .non
  | _ => cases h
theorem cr_isi : CallR X (.builtin "isinstance") (callRel gIsi) := by
  intro pins s σ H xs us Q I r h
  obtain ⟨Z, ys, K, mz, p, t, q⟩ := h
  unfold gIsi at t
  split at t
  · rename_i x n
    obtain ⟨v, w, rfl, vx, vy⟩ := argv2 p
    cases (show w = V.ty n from vy)
    obtain ⟨m, b, hm, hb, t⟩ := t
    · · exact call_isi pins s σ H _ us Q I r ⟨v, .ty n, _, _, b, rfl, .ty n, ty_of (show View Z H v x from vx) hm, kit_ty hb, q _ _ _ (Ext.refl H) (.bl b) t⟩
  · exact t.elim
def dR (v : V) : DTE := fun s Q => Q (.r v) s
theorem de_bltn {x : Str} {n : String} (hg : Gl X x) (hm : X.mg x = none) (hv : bootBuiltins x = some (.type n)) (hn : x ≠ "__name__" := by decide) (hd : (x == ("__debug__" : Str)) = false := by decide) : DE X W (.Name x pos) (dR (.ty n)) :=
  (pe_bltn (v := .ty n) hg hm hv rfl hn hd).weak fun σ H Q' ⟨s, Q, E, t, k⟩ => k (.ty n) H (.r (.ty n)) s (.refl E) rfl t
end
end DL
/-! LB1: enumerate over a tuple. -/
namespace DL
open PySem PySem.Spec PyProof.Rows L2
section
variable {prog : Program} {w : World} {A : Around} {E : Value → Shared → Prop} {s : Shared}
abbrev itT (t : Addr) : Obj := { cls := .type "tuple_iterator", data := .fields #[.ref t, .int 0 0] }
theorem newEnumT (t : Addr) (items : Array Value) :
    Meets (Builtin.«enumerate.__new__» ⟨[.type "enumerate", .ref t], []⟩) (fun _ R s => s.heap.IsTuple t items ∧
      R (.ok (.ret (.ref (s.heap.push (itT t)).objs.size)))
        { s with heap := (s.heap.push (itT t)).push { cls := .type "enumerate", data := .fields #[.none, .bool false, .ref s.heap.objs.size, rawInt 0, .none, .none] } }) :=
  .of_wp fun prog w A R s h => by
    obtain ⟨hp, g, d, tk, os⟩ := s
    obtain ⟨hl, h⟩ := h
    have hsub := sub_enumerate
    have q1 : ∀ {A' : Around} {E : Value → Shared → Prop} {Q : Value → Shared → Prop}, Q (.ref hp.objs.size) ⟨hp.push (itT t), g, d, tk, os⟩ → wpAny (model prog w) A' (pyIter (.ref t)) Q E ⟨hp, g, d, tk, os⟩ :=
      fun q => wpAny_pyIter_tuple (s := ⟨hp, g, d, tk, os⟩) hl q
    wp_walk using q1
    refine wpAny_stack_any fun st => wpAny_pure ?_
    split
    · rename_i c _ _ _ _ _
      cases (c == Value.type "enumerate")
      · wp_walk using q1
        exact ⟨_, rfl, h⟩
      · wp_walk using q1
        exact ⟨_, rfl, h⟩
    · wp_walk using q1
      exact ⟨_, rfl, h⟩
theorem callEnumT {t : Addr} {items : Array Value} {Q : Value → Shared → Prop} (hL : s.heap.IsTuple t items)
    (h : ∀ h', IsEnum h' (s.heap.objs.size + 1) s.heap.objs.size 0 .none → h'.IsTupleIter s.heap.objs.size t 0 → h'.objs.size = s.heap.objs.size + 2 →
      (∀ b o, s.heap.get? b = some o → h'.get? b = some o) → Q (.ref (s.heap.objs.size + 1)) { s with heap := h' }) :
    wpAny (model prog w) A (call (.type "enumerate") [.ref t]) Q E s := by
  refine callType_new F.called_enumerate (by decide) (F.typeCall_enumerate_1 _) (F.newCall_enumerate_1 _) (fun obj => F.args_object_init_2 obj _) F.entry_enumerate_new (newEnumT t items) ⟨hL, ?_⟩
  have hz : (s.heap.push (itT t)).objs.size = s.heap.objs.size + 1 := Heap.size_push ..
  show _ ∧ _
  rw [hz]
  have he : IsEnum ((s.heap.push (itT t)).push { cls := .type "enumerate", data := .fields #[.none, .bool false, .ref s.heap.objs.size, rawInt 0, .none, .none] }) (s.heap.objs.size + 1) s.heap.objs.size 0 .none := by
    have q := Heap.get?_push_size (s.heap.push (itT t)) (o := { cls := .type "enumerate", data := .fields #[.none, .bool false, .ref s.heap.objs.size, rawInt 0, .none, .none] }) rfl
    rw [hz] at q; exact q
  exact ⟨⟨_, he, rfl⟩, h _ he ⟨_, Heap.get?_push_of_some _ (Heap.get?_push_size _ rfl), rfl, rfl⟩ (by rw [Heap.size_push, hz]) fun b o x => Heap.get?_push_of_some _ (Heap.get?_push_of_some _ x)⟩
end
/-- the tuple at a, each item in a new pair -/
def IteT (K : PySem.W.Frag) (a : Addr) : It :=
  ⟨fun i H => ∃ (xs : List V) (x : V), SqT K H a xs ∧ xs[i]? = some x, fun i H v H' => ∃ T x, v = .ref T ∧ H T = none ∧ H' = upd H T (.tup [.int (i : Nat), x]) ∧ ∀ xs, SqT K H a xs → xs[i]? = some x, fun i H => ∃ xs : List V, SqT K H a xs ∧ xs.length = i⟩
theorem turnEnumT {P : Program} {w : World} {K : PySem.W.Frag} {elts : List Expr} {kk : Nat} {tpos : Pos} (a e it : Addr) (hae : a ≠ e) (hai : a ≠ it) :
    Turn P w K (.Tuple elts kk tpos) (IteT K a) [e, it] e (fun i h => (∃ old, IsEnum h e it ((i : Nat) : Int) old) ∧ h.IsTupleIter it a i ∧ e ≠ it) where
  mem := by simp
  obj := fun i h st b hb => by
    obtain ⟨⟨old, he⟩, ⟨o, ho, hc, hd⟩, _⟩ := st
    rcases (show b = e ∨ b = it by simpa using hb) with z | z
    · rw [z]; exact ⟨_, he, fun v q => nomatch q⟩
    · rw [z]; exact ⟨o, ho, fun v q => by rw [hd] at q; cases q⟩
  keep := fun i h h' st k => let ⟨⟨old, he⟩, hi, hne⟩ := st; ⟨⟨old, k e (by simp) _ he⟩, hi.at fun o q => k it (by simp) o q, hne⟩
  item := by
    intro X hP hw hK hc i pins s σ H E I hf st hg
    subst hP hw hK
    obtain ⟨⟨old, he⟩, hit, hne⟩ := st
    obtain ⟨xs, x, hq, hx⟩ := hg
    obtain ⟨its, rv, p, hz⟩ := I.tuple hq
    obtain ⟨u, hu, ru⟩ := rv.get hx
    have hel : e < s.heap.objs.size := Heap.lt_size he
    have hil : it < s.heap.objs.size := by obtain ⟨_, q, _⟩ := hit; exact Heap.lt_size q
    have D := Draws.tuple (prog := X.prog) (w := X.w) (A := X.A.in1) (I.ok.hd hc) it a hai its.toArray
    have hlt : i < its.toArray.size := by
      have := (List.getElem?_eq_some_iff.mp hu).1
      simpa using this
    refine wpAny_pyNext_enum_itemD D he ⟨hit, p⟩ hlt hne (by simp only [List.mem_cons, List.not_mem_nil, or_false, not_or]; exact ⟨hne, fun z => hae z.symm⟩) fun x' h' tk hP ho hst hT hsz hk => ?_
    have ex : x' = u := by
      have q : its.toArray[i]? = some x' := hP
      rw [List.getElem?_toArray, hu] at q
      exact (Option.some.inj q).symm
    subst ex
    refine ⟨_, rfl, wpAny_letOwnedTupleGo_enum (s := { s with heap := h', toks := tk + 1 }) ho fun h'' he' sb => ?_⟩
    have hT2 : h''.get? s.heap.objs.size = some { cls := .type "tuple", data := .seq #[.int i tk, x'] } := (sb.2 _ (Nat.ne_of_gt hel)).trans hT
    have new : ObjOk X.prog X.w (upd H s.heap.objs.size (.tup [.int (i : Nat), x])) h'' s.heap.objs.size (.tup [.int (i : Nat), x]) :=
      ⟨by show 2 ≤ sizeLine; decide, [.int i tk, x'], .cons ⟨_, rfl⟩ (.cons ru .nil), ⟨_, hT2, rfl, _, rfl⟩⟩
    have I1 : Inv X pins σ (upd H s.heap.objs.size (.tup [.int (i : Nat), x])) { s with heap := h'', toks := tk + 1 } :=
      I.turnedNew (ch := [e, it]) (fun b ob hb q => (sb.2 b (fun z => hb (by simp [z]))).trans (hk b ob (fun z => hb (by simp [z])) (fun z => hb (by simp [z])) q)) hf (Nat.le_refl _) new
    refine ⟨.ref s.heap.objs.size, _, I1, rfl, ⟨_, x, rfl, I.hok.fresh (Nat.le_refl _), rfl, fun ys hy => by rw [I.tuple_inj hy hq]; exact hx⟩, ⟨⟨x', ?_⟩, hst.1.at fun o q => (sb.2 it (Ne.symm hne)).trans q, hne⟩, fun b hb => ?_⟩
    · have e1 : ((i + 1 : Nat) : Int) = (i : Int) + 1 := by omega
      rw [e1]; exact he'
    · have hb' : b < s.heap.objs.size := by
        rcases (show b = e ∨ b = it by simpa using hb) with z | z
        · rw [z]; exact hel
        · rw [z]; exact hil
      rw [upd_ne (Nat.ne_of_lt hb')]
      exact (hf b hb).1
  done := by
    intro X hP hw hK hc i pins s σ H E I hf st hg
    subst hP hw hK
    obtain ⟨⟨old, he⟩, hit, hne⟩ := st
    obtain ⟨xs, hq, hx⟩ := hg
    obtain ⟨its, rv, p, hz⟩ := I.tuple hq
    obtain ⟨f0, f1, f2, f3, f4, f5⟩ := hf it (by simp)
    have hl := rv.length
    have D := Draws.tuple (prog := X.prog) (w := X.w) (A := X.A.in1) (I.ok.hd hc) it a hai its.toArray
    have en : its.toArray.size = i := by rw [List.size_toArray, ← hl]; exact hx
    exact wpAny_pyNext_enum_endD D he (by rw [en]; exact ⟨hit, p⟩) fun h' eb => ⟨rfl, I.turned (t' := s.toks) (fun b o hb q => eb b o hb q) f0 f1 f3 f4 f5⟩
  self := fun A i s Q E st h => let ⟨⟨_, he⟩, _⟩ := st; wpAny_pyIter_enum he h
def iEnumT (K : PySem.W.Frag) (ta : TA) : TI := fun σ H R => ta σ H fun vs H1 => ∃ a xs, vs = [.ref a] ∧ ((SqL K H1 a xs ∧ R (Ite K a) H1) ∨ (Rd H1 a (.tup xs) ∧ R (IteT K a) H1))
theorem pi_enumT {X : Cx} {e : Expr} {ta : TA} {p pos tpos : Pos} {elts : List Expr} {kk : Nat} (hg : Gl X "enumerate") (hm : X.mg "enumerate" = none) (ha : PA X [e] ta) (hs : starEach [e] X.env = [(false, eval e X.env)] := by rfl) :
    PI X (.Tuple elts kk tpos) (.Call (.Name "enumerate" p) [e] [] pos) (iEnumT X.K ta) := by
  refine ⟨fun pins s σ H R I h => ?_⟩
  refine Call_ (ld_blt I hg hm boot_enumerate (PyProof.Rows.callWith_type1 (thn (ha.run pos pins s σ H _ I h) fun us s1 ⟨vs, H1, I1, r1, q1⟩ => ?_) hs rfl))
  obtain ⟨a, xs, ex, q1⟩ := q1
  subst ex
  cases r1 with
  | cons r rr =>
    cases rr
    cases r
    have fr : ∀ b ∈ [s1.heap.objs.size + 1, s1.heap.objs.size], FpOk X pins H1 b := fun b hb => by
      have hle : s1.heap.objs.size ≤ b := by
        rcases (show b = s1.heap.objs.size + 1 ∨ b = s1.heap.objs.size by simpa using hb) with z | z
        · rw [z]; exact Nat.le_add_right _ _
        · rw [z]; exact Nat.le_refl _
      exact I1.fpOk hle (I1.hok.fresh hle)
    rcases q1 with ⟨hq, q⟩ | ⟨hq, q⟩
    · obtain ⟨its, rv, p', hz⟩ := I1.list hq
      refine call_enumerate_list p'.isList fun h' he hit hsz hk => wpAny_pyIter_enum he ?_
      have I2 : Inv X pins σ H1 { s1 with heap := h' } := I1.kept (t' := s1.toks) hk
      exact ⟨s1.heap.objs.size + 1, _, _, _, H1, rfl, I2, turn_enum a (s1.heap.objs.size + 1) s1.heap.objs.size, ⟨⟨.none, he⟩, hit, Nat.succ_ne_self _⟩, fr, q⟩
    · obtain ⟨its, rv, p', hz⟩ := I1.tuple (.inl hq)
      obtain ⟨oa, hoa, _⟩ := id p'
      have la : a < s1.heap.objs.size := Heap.lt_size hoa
      refine callEnumT p' fun h' he hit hsz hk => wpAny_pyIter_enum he ?_
      have I2 : Inv X pins σ H1 { s1 with heap := h' } := I1.kept (t' := s1.toks) hk
      exact ⟨s1.heap.objs.size + 1, _, _, _, H1, rfl, I2, turnEnumT a (s1.heap.objs.size + 1) s1.heap.objs.size (Nat.ne_of_lt (Nat.lt_succ_of_lt la)) (Nat.ne_of_lt la), ⟨⟨.none, he⟩, hit, Nat.succ_ne_self _⟩, fr, q⟩
theorem walk_enumT {K : PySem.W.Frag} {a : Addr} {xs : List V} : Walk (IteT K a) xs.length (fun H => SqT K H a xs) (YPair (fun i => some (.int (i : Nat))) (fun i => xs[i]?)) := by
  refine ⟨fun i _ hi q => ⟨xs, xs[i], q, by simp [hi]⟩, fun _ q => ⟨xs, q, rfl⟩, fun i H v H' _ q y => ?_⟩
  obtain ⟨T, x, h1, h2, h3, h4⟩ := y
  exact ⟨T, .int (i : Nat), x, h1, h2, h3, rfl, h4 xs q⟩
end DL
/-! LB2: what loops walk: sequences, texts, dicts, items, enumerate, zip, ranges. -/
namespace DL
open PySem PySem.Spec PyProof.Rows L2
variable [TheW]
section
variable {X : Cx} {pins : List (Addr × Obj)} {σ : L2.St} {H : Hp} {s : Shared} {d : Addr} {o : Obj}
theorem frzTv {kvs : List (List Key × Addr × V)} (I : Inv X pins σ H s) (h : H d = some (.frz o (DctO d kvs))) :
    (d == sysModules) = false ∧ ∃ (es : Array DictEntry) (ep : Nat), o.data = .dict es ep ∧ s.heap.DictRaw d es ep ∧ es.size = kvs.length ∧
      ∀ (i : Nat) (k : List Key) (q : Addr) (v : V), kvs[i]? = some (k, q, v) → ∃ en : DictEntry, es[i]? = some en ∧ en.key = .ref q ∧ RelV v en.val := by
  obtain ⟨hd, ⟨z, hs, xs, pr, o', es, ep, ho, hx, hdt, he, _⟩, _⟩ := I.hok d _ h
  rw [hd] at ho
  cases ho
  have l1 : es.size = xs.length := size_of_entries he
  have l2 : kvs.length = xs.length := Paired.length pr
  refine ⟨hs, es, ep, hdt, ⟨o, hd, hx, hdt⟩, by omega, fun i k qq v e => ?_⟩
  obtain ⟨b, hb, e1, e2, e3⟩ := L2.paired_get pr e
  have q := entry_at he i
  rw [hb] at q
  exact ⟨_, q, congrArg Value.ref e2.symm, e3⟩
end
/-- the keys of the locked dict at d -/
def ItkX (d : Addr) (o : Obj) (kvs : List (List Key × Addr × V)) : It :=
  ⟨fun i H => H d = some (.frz o (DctO d kvs)) ∧ i < kvs.length, fun i H x H' => H' = H ∧ ∃ (k : List Key) (q : Addr) (v : V), kvs[i]? = some (k, q, v) ∧ x = .ref q, fun i H => H d = some (.frz o (DctO d kvs)) ∧ kvs.length ≤ i⟩
theorem turn_keysX {P : Program} {w : World} {K : PySem.W.Frag} {tg : Expr} {d : Addr} {o : Obj} {es : Array DictEntry} {ep : Nat} {kvs : List (List Key × Addr × V)} (it : Addr) (hod : o.data = .dict es ep) : Turn P w K tg (ItkX d o kvs) [it] it (fun i h => h.IsKeyIter it d i kvs.length ep) where
  mem := by simp
  obj := fun i h st b hb => by
    have e : b = it := by simpa using hb
    subst e
    obtain ⟨oi, e, c, dd⟩ := st
    exact ⟨oi, e, fun v z => by rw [dd] at z; cases z⟩
  keep := fun i h h' st k => st.at fun oi e => k it (by simp) oi e
  item := by
    intro X hP hw hK hc i pins s σ H E I hf st hg
    subst hP hw hK
    obtain ⟨hd, hi⟩ := hg
    obtain ⟨f0, f1, f2, f3, f4, f5⟩ := hf it (by simp)
    obtain ⟨hs, es', ep', hdt, hraw, hsz, ent⟩ := frzTv I hd
    obtain ⟨rfl, rfl⟩ := dict_ep hod hdt
    obtain ⟨⟨k, q, v⟩, hkv⟩ : ∃ p, kvs[i]? = some p := ⟨kvs[i], List.getElem?_eq_getElem hi⟩
    obtain ⟨en, hen, hkey, hv⟩ := ent i k q v hkv
    have hgd : s.heap.get? d = some o := (I.hok d _ hd).1
    refine next_key_item st hgd hdt hsz hen fun h' st' sb => ?_
    have I1 : Inv X pins σ H { s with heap := h' } := I.turned (t' := s.toks) (fun b ob hb e => (sb.2 b hb).trans e) f0 f1 f3 f4 f5
    obtain ⟨oi, e, c, dd⟩ := id st'
    exact ⟨en.key, rfl, go_of (s := { s with heap := h' }) e c dd (by decide) ⟨.ref q, H, I1, hkey, ⟨rfl, k, q, v, hkv, rfl⟩, st', fun b hb => (hf b hb).1⟩⟩
  done := by
    intro X hP hw hK hc i pins s σ H E I hf st hg
    subst hP hw hK
    obtain ⟨hd, hi⟩ := hg
    obtain ⟨f0, f1, f2, f3, f4, f5⟩ := hf it (by simp)
    obtain ⟨hs, es', ep', hdt, hraw, hsz, ent⟩ := frzTv I hd
    obtain ⟨rfl, rfl⟩ := dict_ep hod hdt
    have hgd : s.heap.get? d = some o := (I.hok d _ hd).1
    exact next_key_end (I.ok.hd hc) st hgd hdt hsz hi fun h' eb => ⟨rfl, I.turned (t' := s.toks) (fun b ob hb e => eb b ob hb e) f0 f1 f3 f4 f5⟩
  self := fun A i s Q E st h => by
    refine wpAny_pyIter_slot st.typeIs F.slot_dict_keyiterator_iter (wpAny_call_entry F.slot_dict_keyiterator_iter st.typeIs F.entry_dict_keyiterator_iter ?_ (F.args_dict_keyiterator_iter_1 _))
    show wpAny _ _ (ret (.ref it)) _ _ s
    exact wpAny_pure ⟨_, rfl, "dict_keyiterator", _, st.typeIs, F.slot_dict_keyiterator_next.lookup, h⟩
theorem walk_keysX {d : Addr} {o : Obj} {kvs : List (List Key × Addr × V)} : Walk (ItkX d o kvs) kvs.length (fun H => H d = some (.frz o (DctO d kvs))) (fun i H x H' => H' = H ∧ ∃ (k : List Key) (q : Addr) (v : V), kvs[i]? = some (k, q, v) ∧ x = .ref q) :=
  ⟨fun _ _ hi q => ⟨q, hi⟩, fun _ q => ⟨q, Nat.le_refl _⟩, fun _ _ _ _ _ _ y => y⟩
/-- the pairs of the locked dict at d, each in a new tuple -/
def ItiT (d : Addr) (o : Obj) (kvs : List (List Key × Addr × V)) : It :=
  ⟨fun i H => H d = some (.frz o (DctO d kvs)) ∧ i < kvs.length, fun i H x H' => ∃ (T q : Addr) (k : List Key) (v : V), kvs[i]? = some (k, q, v) ∧ x = .ref T ∧ H T = none ∧ H' = upd H T (.tup [.ref q, v]), fun i H => H d = some (.frz o (DctO d kvs)) ∧ kvs.length ≤ i⟩
theorem turn_itemsT {P : Program} {w : World} {K : PySem.W.Frag} {d : Addr} {o : Obj} {es : Array DictEntry} {ep : Nat} {kvs : List (List Key × Addr × V)} {elts : List Expr} {kk : Nat} {tpos : Pos} (it : Addr) (hod : o.data = .dict es ep) :
    Turn P w K (.Tuple elts kk tpos) (ItiT d o kvs) [it] it (fun i h => ∃ ok ov, IsItemIter h it d i kvs.length ep ok ov) where
  mem := by simp
  obj := fun i h st b hb => by
    have e : b = it := by simpa using hb
    subst e
    obtain ⟨ok, ov, e⟩ := st
    exact ⟨_, e, fun v z => nomatch z⟩
  keep := fun i h h' st k => let ⟨ok, ov, e⟩ := st; ⟨ok, ov, k it (by simp) _ e⟩
  item := by
    intro X hP hw hK hc i pins s σ H E I hf st hg
    subst hP hw hK
    obtain ⟨hd, hi⟩ := hg
    obtain ⟨hs, es', ep', hdt, hraw, hsz, ent⟩ := frzTv I hd
    obtain ⟨rfl, rfl⟩ := dict_ep hod hdt
    obtain ⟨⟨k, q, v⟩, hkv⟩ : ∃ p, kvs[i]? = some p := ⟨kvs[i], List.getElem?_eq_getElem hi⟩
    obtain ⟨en, hen, hkey, hv⟩ := ent i k q v hkv
    obtain ⟨hlt', hen'⟩ := Array.getElem?_eq_some_iff.mp hen
    obtain ⟨ok, ov, he⟩ := st
    rw [← hsz] at he
    have hlt : it < s.heap.objs.size := Heap.lt_size he
    refine wpAny_pyNext_items_item_raw he hraw hlt' fun h' ho hT hz hk => ?_
    rw [hen'] at ho hT
    refine ⟨_, rfl, wpAny_letOwnedTupleGo_items (s := { s with heap := h' }) ho fun h'' he' sb => ?_⟩
    have hT2 : h''.get? s.heap.objs.size = some { cls := .type "tuple", data := .seq #[en.key, en.val] } := (sb.2 _ (Nat.ne_of_gt hlt)).trans hT
    have new : ObjOk X.prog X.w (upd H s.heap.objs.size (.tup [.ref q, v])) h'' s.heap.objs.size (.tup [.ref q, v]) :=
      ⟨by show 2 ≤ sizeLine; decide, [en.key, en.val], .cons hkey (.cons hv .nil), ⟨_, hT2, rfl, _, rfl⟩⟩
    have I1 : Inv X pins σ (upd H s.heap.objs.size (.tup [.ref q, v])) { s with heap := h'' } :=
      I.turnedNew (t' := s.toks) (ch := [it]) (fun b ob hb e => (sb.2 b (by simpa using hb)).trans (hk b ob (by simpa using hb) e)) hf (Nat.le_refl _) new
    refine ⟨.ref s.heap.objs.size, _, I1, rfl, ⟨_, q, k, v, hkv, rfl, I.hok.fresh (Nat.le_refl _), rfl⟩, ⟨en.key, en.val, ?_⟩, fun b hb => ?_⟩
    · rw [← hsz]; exact he'
    · have e : b = it := by simpa using hb
      rw [e, upd_ne (Nat.ne_of_lt hlt)]
      exact (hf it (by simp)).1
  done := by
    intro X hP hw hK hc i pins s σ H E I hf st hg
    subst hP hw hK
    obtain ⟨hd, hi⟩ := hg
    obtain ⟨f0, f1, f2, f3, f4, f5⟩ := hf it (by simp)
    obtain ⟨hs, es', ep', hdt, hraw, hsz, ent⟩ := frzTv I hd
    obtain ⟨rfl, rfl⟩ := dict_ep hod hdt
    obtain ⟨ok, ov, he⟩ := st
    rw [← hsz] at he
    exact wpAny_pyNext_items_end_raw (I.ok.hd hc) he hraw (by omega) fun h' eb => ⟨rfl, I.turned (t' := s.toks) (fun b o hb e => eb b o hb e) f0 f1 f3 f4 f5⟩
  self := fun A i s Q E st h => let ⟨_, _, e⟩ := st; PySem.W.kcp_self e h
def iItemsT (td : TE) : TI := fun σ H R => td σ H fun x H1 => ∃ d o kvs, x = .ref d ∧ H1 d = some (.frz o (DctO d kvs)) ∧ R (ItiT d o kvs) H1
theorem pi_itemsT {X : Cx} {e : Expr} {td : TE} {apos cpos : Pos} {elts : List Expr} {kk : Nat} {tpos : Pos} (he : PE X e td) (hbase : attributeBase e "items" X.env (eval e X.env) = eval e X.env := by rfl) (hline : (apos.endLine == cpos.line) = true := by rfl) :
    PI X (.Tuple elts kk tpos) (.Call (.Attribute e "items" apos) [] [] cpos) (iItemsT td) := by
  refine ⟨fun pins s σ H R I h => ?_⟩
  refine wpAny_Call_method (T := "dict") (id := "dict.items") hbase rfl hline F.plainAttrs_dict F.slot_dict_items F.type_dict_items (thn (he.run pins s σ H _ I h) fun u s1 ⟨x, H1, I1, rx, d, o, kvs, ex, hd, q⟩ => ?_)
  subst ex
  obtain rfl : u = Value.ref d := rx
  obtain ⟨hs, es, ep, hdt, hraw, hsz, ent⟩ := frzTv I1 hd
  have hraw' := hraw
  obtain ⟨oo, hoo, hex, hdd⟩ := hraw'
  refine ⟨hraw.typeIs, fun b eb => by cases eb; exact ⟨oo, hoo, hex.2.1⟩, ?_⟩
  have I2 : Inv X pins σ H1 { s1 with heap := s1.heap.push { cls := .type "dict_items", data := .fields #[.ref d] } } := I1.kept (t' := s1.toks) fun b ob q => Heap.get?_push_of_some _ q
  have fin : wpAny (model X.prog X.w) X.A (pyIter (.ref s1.heap.objs.size)) (PIE X pins σ (.Tuple elts kk tpos) R) X.xe { s1 with heap := s1.heap.push { cls := .type "dict_items", data := .fields #[.ref d] } } := by
    refine wpAny_pyIter_items_raw (d := d) ⟨_, Heap.get?_push_size _ rfl, rfl, rfl⟩ (hraw.at fun ob q => Heap.get?_push_of_some _ q) (pi_one (tk := s1.toks) I2 _ (turn_itemsT _ hdt) ⟨.none, .none, ?_⟩ q)
    rw [← hsz]
    exact Heap.get?_push_size _ rfl
  show wpAny _ _ (callWith cpos (.builtin "dict.items") [.ref d] [] []) _ X.xe s1
  exact method_meetsIn F.slot_dict_items F.entry_dict_items rfl (PySem.evalArgs_none ⟨rfl, hraw.typeIs, F.args_dict_items_1 _, _, meets_dict_items_raw d hs, ⟨_, _, hraw⟩, fin⟩)
theorem walk_itemsT {d : Addr} {o : Obj} {kvs : List (List Key × Addr × V)} : Walk (ItiT d o kvs) kvs.length (fun H => H d = some (.frz o (DctO d kvs)))
    (fun i H x H' => ∃ (T q : Addr) (k : List Key) (v : V), kvs[i]? = some (k, q, v) ∧ x = .ref T ∧ H T = none ∧ H' = upd H T (.tup [.ref q, v])) :=
  ⟨fun _ _ hi q => ⟨q, hi⟩, fun _ q => ⟨q, Nat.le_refl _⟩, fun _ _ _ _ _ _ y => y⟩
theorem walk_zipT {K : PySem.W.Frag} {a b : Addr} {xs ys : List V} {n : Nat} (hn : n = min xs.length ys.length) : Walk (RZ.ItzT K a b) n (fun H => SqT K H a xs ∧ SqT K H b ys) (YPair (fun i => xs[i]?) (fun i => ys[i]?)) := by
  subst hn
  refine ⟨fun i _ hi q => ?_, fun _ q => ⟨xs, ys, q.1, q.2, by omega⟩, fun i H v H' _ q y => ?_⟩
  · have h1 : i < xs.length := by omega
    have h2 : i < ys.length := by omega
    exact ⟨xs, ys, xs[i], ys[i], q.1, q.2, by simp [h1], by simp [h2]⟩
  · obtain ⟨T, x, z, h1, h2, h3, h4, h5⟩ := y
    exact ⟨T, x, z, h1, h2, h3, h4 xs q.1, h5 ys q.2⟩

/-! ### Walks -/
theorem RepK.getV {Z : Zs} {H : Hp} : ∀ {kvs : List (List Key × Addr × V)} {kds : List (PyData × PyData)} {i : Nat} {k : List Key} {q : Addr} {v : V}, RepK Z H kvs kds → kvs[i]? = some (k, q, v) → ∃ d, kds[i]? = some (keyD k, d) ∧ Rep Z H (.ref q) (keyD k) ∧ Rep Z H v d
  | _, _, _, _, _, _, .nil, h => by simp at h
  | _, _, 0, _, _, _, .cons e0 q0 h _, e => by simp at e; obtain ⟨rfl, rfl, rfl⟩ := e; exact ⟨_, rfl, q0, h⟩
  | _, _, i + 1, _, _, _, .cons _ _ _ t, e => by
    obtain ⟨v, h1, h2⟩ := RepK.getV (i := i) t (by simpa using e)
    exact ⟨v, by simpa using h1, h2⟩
section
variable {X : Cx} {W : Wd} {tg e a b c : Expr} {es : List Expr} {pos p tpos : Pos}
theorem walks_list {Z : Zs} {H : Hp} {K : PySem.W.Frag} {a : Addr} {xs : List V} {ds : List PyData} (h : H a = some (.lst xs)) (nz : ¬ Z a) (r : RepL Z H xs ds) : Walks Z H (Itl K a) (ds.map .d) :=
  ⟨xs.length, _, _, walk_list (xs := xs), by rw [List.length_map]; exact r.length, fun Z1 H1 f => .of (f.lst _ _ h nz).1, fun Z1 i H1 x H2 f hi y => by
    obtain ⟨rfl, hx⟩ := y
    obtain ⟨d, hd, rd⟩ := r.getV hx
    exact ⟨.d d, by rw [List.getElem?_map, hd]; rfl, .refl _, rd.mono f⟩⟩
theorem walks_tup {Z : Zs} {H : Hp} {K : PySem.W.Frag} {a : Addr} {xs : List V} {ds : List PyData} (h : IsT H a xs) (r : RepL Z H xs ds) : Walks Z H (Itt K a) (ds.map .d) :=
  ⟨xs.length, _, _, walk_tup (xs := xs), by rw [List.length_map]; exact r.length, fun Z1 H1 f => (h.mono f).sq, fun Z1 i H1 x H2 f hi y => by
    obtain ⟨rfl, hx⟩ := y
    obtain ⟨d, hd, rd⟩ := r.getV hx
    exact ⟨.d d, by rw [List.getElem?_map, hd]; rfl, .refl _, rd.mono f⟩⟩
theorem walks_keys {Z : Zs} {H : Hp} {a : Addr} {o : Obj} {kvs : List (List Key × Addr × V)} {kds : List (PyData × PyData)} (h : H a = some (.frz o (DctO a kvs))) (r : RepK Z H kvs kds) : Walks Z H (ItkX a o kvs) (kds.map fun p => .d p.1) :=
  ⟨kvs.length, _, _, walk_keysX, by rw [List.length_map]; exact r.length, fun Z1 H1 f => f.frz _ _ _ h, fun Z1 i H1 x H2 f hi y => by
    obtain ⟨rfl, k, q, v, hk, rfl⟩ := y
    obtain ⟨d, hd, rq, rd⟩ := r.getV hk
    exact ⟨.d (keyD k), by rw [List.getElem?_map, hd]; rfl, .refl _, rq.mono f⟩⟩
def itemsD (kds : List (PyData × PyData)) : List DV := kds.map fun p => .p [p.1, p.2]
theorem pairR_new {Z : Zs} {H : Hp} {T : Addr} {xs : List V} {ds : List PyData} (r : RepL Z H xs ds) (hT : H T = none) : PairR Z (upd H T (.tup xs)) (.ref T) ds := ⟨T, xs, rfl, upd_same, r.mono ((Ext.new hT).fr _)⟩
theorem walks_items {Z : Zs} {H : Hp} {a : Addr} {o : Obj} {kvs : List (List Key × Addr × V)} {kds : List (PyData × PyData)} (h : H a = some (.frz o (DctO a kvs))) (r : RepK Z H kvs kds) : Walks Z H (ItiT a o kvs) (itemsD kds) :=
  ⟨kvs.length, _, _, walk_itemsT, by rw [itemsD, List.length_map]; exact r.length, fun Z1 H1 f => f.frz _ _ _ h, fun Z1 i H1 x H2 f hi y => by
    obtain ⟨T, q, k, v, hk, rfl, hT, rfl⟩ := y
    obtain ⟨d, hd, rq, rd⟩ := r.getV hk
    exact ⟨.p [keyD k, d], by rw [itemsD, List.getElem?_map, hd]; rfl, .new hT, pairR_new (.cons (rq.mono f) (.cons (rd.mono f) .nil)) hT⟩⟩
theorem walks_str {Z : Zs} {H : Hp} {z : Str} (hz : PyData.strOk z = true) : Walks Z H (Its z) (z.cps.toList.map fun c => .d (.str ⟨#[c]⟩)) :=
  ⟨z.cps.size, _, _, walk_str, by rw [List.length_map, Array.length_toList], fun Z1 H1 f => trivial, fun Z1 i H1 x H2 f hi y => by
    obtain ⟨rfl, c, hc, rfl⟩ := y
    have hc' : z.cps.toList[i]? = some c := by rw [Array.getElem?_toList]; exact hc
    exact ⟨.d (.str ⟨#[c]⟩), by rw [List.getElem?_map, hc']; rfl, .refl _, Rep.str _ (strOk_get hz (List.mem_of_getElem? hc'))⟩⟩
def enumD (ds : List PyData) : List DV := ds.zipIdx.map fun p => .p [.int (p.2 : Nat), p.1]
theorem walks_enum {Z : Zs} {H : Hp} {J : It} {xs : List V} {ds : List PyData} {G0 : Hp → Prop} (w : Walk J xs.length G0 (YPair (fun i => some (.int (i : Nat))) (fun i => xs[i]?))) (hg : ∀ Z1 H1, Fr Z H Z1 H1 → G0 H1) (r : RepL Z H xs ds) : Walks Z H J (enumD ds) :=
  ⟨xs.length, _, _, w, by rw [enumD, List.length_map, List.length_zipIdx]; exact r.length, hg, fun Z1 i H1 x H2 f hi y => by
    obtain ⟨T, u, v, rfl, hT, rfl, hu, hv⟩ := y
    cases hu
    obtain ⟨d, hd, rd⟩ := r.getV hv
    exact ⟨.p [.int (i : Nat), d], by rw [enumD, List.getElem?_map, List.getElem?_zipIdx, hd]; simp, .new hT, pairR_new (.cons (.int _) (.cons (rd.mono f) .nil)) hT⟩⟩
def zipD (as bs : List PyData) : List DV := (as.zip bs).map fun p => .p [p.1, p.2]
theorem walks_zip {Z : Zs} {H : Hp} {J : It} {xs ys : List V} {ds es : List PyData} {G0 : Hp → Prop} (w : Walk J (min xs.length ys.length) G0 (YPair (fun i => xs[i]?) (fun i => ys[i]?))) (hg : ∀ Z1 H1, Fr Z H Z1 H1 → G0 H1) (r : RepL Z H xs ds) (r' : RepL Z H ys es) : Walks Z H J (zipD ds es) :=
  ⟨_, _, _, w, by rw [zipD, List.length_map, List.length_zip, r.length, r'.length], hg, fun Z1 i H1 x H2 f hi y => by
    obtain ⟨T, u, v, rfl, hT, rfl, hu, hv⟩ := y
    obtain ⟨d, hd, rd⟩ := r.getV hu
    obtain ⟨d', hd', rd'⟩ := r'.getV hv
    refine ⟨.p [d, d'], ?_, .new hT, pairR_new (.cons (rd.mono f) (.cons (rd'.mono f) .nil)) hT⟩
    rw [zipD, List.getElem?_map, (List.getElem?_zip_eq_some (z := (d, d'))).mpr ⟨hd, hd'⟩]
    rfl⟩
theorem walks_rangeC {Z : Zs} {H : Hp} {lo c : Int} {n : Nat} : Walks Z H (Itc lo c n) ((List.range n).map fun i => .d (.int (lo + (i : Nat) * c))) :=
  ⟨n, _, _, walk_rangeC, by simp, fun _ _ _ => trivial, fun Z1 i H1 x H2 f hi y => by
    obtain ⟨rfl, rfl⟩ := y
    exact ⟨.d (.int (lo + (i : Nat) * c)), by rw [List.getElem?_map, List.getElem?_range hi]; rfl, .refl _, Rep.int _⟩⟩
theorem walks_range {Z : Zs} {H : Hp} {lo : Int} {n : Nat} : Walks Z H (Itr lo n) ((List.range n).map fun i => .d (.int (lo + (i : Nat)))) :=
  ⟨n, _, _, walk_range, by simp, fun _ _ _ => trivial, fun Z1 i H1 x H2 f hi y => by
    obtain ⟨rfl, rfl⟩ := y
    exact ⟨.d (.int (lo + (i : Nat))), by rw [List.getElem?_map, List.getElem?_range hi]; rfl, .refl _, Rep.int _⟩⟩

/-! ### the rules -/
def seqQ (y : DV) (K : List DV → Prop) : Prop := match y with
  | .d (.list ds) => K (ds.map .d)
  | .d (.tuple ds) => K (ds.map .d)
  | .d (.dict kds) => K (kds.map fun p => .d p.1)
  | .d (.str z) => K (z.cps.toList.map fun c => .d (.str ⟨#[c]⟩))
  | _ => False
def iSeq (T : DTE) : DTI := fun s Q => T s fun x s1 => capQ x s1 fun y s2 => seqQ y fun ds => Q ds s2
theorem di_seq {T : DTE} (h : DE X W e T) : DI X W tg e (iSeq T) := by
  refine ⟨fun pins s0 σ H R I hq => ?_⟩
  obtain ⟨s, Q, E, t, k⟩ := hq
  refine thn ((cap_run h).run pins s0 σ H (fun v H1 => ∃ y s1, Stp W σ H s σ H1 s1 ∧ ShR (Zo W.Z (OwnA σ s1)) H1 v y ∧ seqQ y fun ds => Q ds s1) I ⟨s, _, E, t, fun v H1 y s1 S1 r1 t1 => ⟨y, s1, S1, r1, t1⟩⟩) fun u s1 ⟨v, H1, I1, rv, y, s2, S1, r1, t1⟩ => ?_
  cases y with
  | r _ => exact t1.elim
  | b _ => exact t1.elim
  | p _ => exact t1.elim
  | d y =>
    have r1 : Rep (Zo W.Z (OwnA σ s2)) H1 v y := r1
    cases r1 with
    | @lst a xs ds ha nz rl =>
      cases rv
      obtain ⟨its, rv, pp, hz⟩ := I1.list (.of ha)
      exact wpAny_pyIter_list pp.isList (pi_one (tk := s1.toks) I1 _ (turn_list a _) ⟨_, Heap.get?_push_size _ rfl, rfl, rfl⟩ (k _ H1 _ s2 S1 (walks_list ha nz rl) t1))
    | @tup a xs ds ha rl =>
      cases rv
      obtain ⟨its, rv, pp, hz⟩ := I1.tuple ha.sq
      exact wpAny_pyIter_tuple (show s1.heap.IsTuple a its.toArray from pp) (pi_one (tk := s1.toks) I1 _ (turn_tuple a _) ⟨_, Heap.get?_push_size _ rfl, rfl, rfl⟩ (k _ H1 _ s2 S1 (walks_tup ha rl) t1))
    | @dct a od kvs kds ha rk =>
      cases rv
      obtain ⟨hs, es, ep, hdt, ⟨oo, hgd, hx, hdd⟩, hsz, ent⟩ := frzTv I1 ha
      have hgd' : s1.heap.get? a = some od := (I1.hok a _ ha).1
      rw [hgd'] at hgd
      cases hgd
      refine iter_keys hs hgd' hx hdt (pi_one (tk := s1.toks) I1 _ (turn_keysX _ hdt) ⟨_, Heap.get?_push_size _ rfl, rfl, ?_⟩ (k _ H1 _ s2 S1 (walks_keys ha rk) t1))
      rw [hsz] <;> rfl
    | str x hx =>
      obtain ⟨t, rfl⟩ := rv
      cases ha : x.cps.all (· < 128)
      · exact wpAny_pyIter_wide ha (pi_one (tk := s1.toks) I1 _ (turn_str _ x t "str_iterator" (.inr rfl)) ⟨_, Heap.get?_push_size _ rfl, rfl, rfl⟩ (k _ H1 _ s2 S1 (walks_str hx) t1))
      · exact wpAny_pyIter_ascii ha (pi_one (tk := s1.toks) I1 _ (turn_str _ x t "str_ascii_iterator" (.inl rfl)) ⟨_, Heap.get?_push_size _ rfl, rfl, rfl⟩ (k _ H1 _ s2 S1 (walks_str hx) t1))
    | _ => exact t1.elim
theorem _root_.L2.PI.weak' {t t' : TI} (h : PI X tg e t) (w : ∀ σ H R, t' σ H R → t σ H R) : PI X tg e t' := ⟨fun pins s σ H R I q => h.run pins s σ H R I (w _ _ _ q)⟩
def iItems (T : DTE) : DTI := fun s Q => T s fun x s1 => capQ x s1 fun y s2 => match y with
  | .d (.dict kds) => Q (itemsD kds) s2
  | _ => False
theorem di_items {T : DTE} {elts : List Expr} {kk : Nat} {apos cpos : Pos} (h : DE X W e T) (hbase : attributeBase e "items" X.env (eval e X.env) = eval e X.env := by rfl) (hline : (apos.endLine == cpos.line) = true := by rfl) :
    DI X W (.Tuple elts kk tpos) (.Call (.Attribute e "items" apos) [] [] cpos) (iItems T) := by
  refine (pi_itemsT (cap_run h) hbase hline).weak fun σ H R ⟨s, Q, E, t, k⟩ => ?_
  refine ⟨s, _, E, t, fun v H1 y s1 S1 r1 t1 => ?_⟩
  split at t1
  · rename_i kds
    have r1 : Rep (Zo W.Z (OwnA σ s1)) H1 v (.dict kds) := r1
    cases r1 with
    | dct ha rk => exact ⟨_, _, _, rfl, ha, k _ H1 _ s1 S1 (walks_items ha rk) t1⟩
  · exact t1.elim
def iEnum (Ta : DTA) : DTI := fun s Q => Ta s fun xs s1 => match xs with
  | [.d (.list ds)] => Q (enumD ds) s1
  | [.d (.tuple ds)] => Q (enumD ds) s1
  | _ => False
theorem di_enum {Ta : DTA} {elts : List Expr} {kk : Nat} (hg : Gl X "enumerate") (hm : X.mg "enumerate" = none) (ha : DAC X W [e] Ta) (hs : starEach [e] X.env = [(false, eval e X.env)] := by rfl) :
    DI X W (.Tuple elts kk tpos) (.Call (.Name "enumerate" p) [e] [] pos) (iEnum Ta) := by
  refine (pi_enumT hg hm ha hs).weak fun σ H R ⟨s, Q, E, t, k⟩ => ?_
  refine ⟨s, _, E, t, fun vs H1 xs s1 S1 r1 t1 => ?_⟩
  split at t1
  · rename_i ds
    cases r1 with
    | cons r rr =>
      cases rr
      have r : Rep (Zo W.Z (OwnA σ s1)) H1 _ (.list ds) := r
      cases r with
      | lst ha nz rl => exact ⟨_, _, rfl, .inl ⟨.of ha, k _ H1 _ s1 S1 (walks_enum (walk_enum) (fun Z1 H2 f => .of (f.lst _ _ ha nz).1) rl) t1⟩⟩
  · rename_i ds
    cases r1 with
    | cons r rr =>
      cases rr
      have r : Rep (Zo W.Z (OwnA σ s1)) H1 _ (.tuple ds) := r
      cases r with
      | tup ha rl => exact ⟨_, _, rfl, .inr ⟨ha.rd, k _ H1 _ s1 S1 (walks_enum (walk_enumT) (fun Z1 H2 f => (ha.mono f).sq) rl) t1⟩⟩
  · exact t1.elim
def iZip (Ta : DTA) : DTI := fun s Q => Ta s fun xs s1 => match xs with
  | [.d (.list ds), .d (.list es)] => Q (zipD ds es) s1
  | [.d (.tuple ds), .d (.tuple es)] => Q (zipD ds es) s1
  | _ => False
theorem di_zip {Ta : DTA} {elts : List Expr} {kk : Nat} (hg : Gl X "zip") (hm : X.mg "zip" = none) (ha : DAC X W [a, b] Ta) (hs : starEach [a, b] X.env = (false, eval a X.env) :: starEach [b] X.env := by rfl) (hpl : (backTo pos (starEach [b] X.env)).any (·.1) = false := by rfl) :
    DI X W (.Tuple elts kk tpos) (.Call (.Name "zip" p) [a, b] [] pos) (iZip Ta) := by
  refine (RZ.pi_zipA hg hm ha hs hpl).weak fun σ H R ⟨s, Q, E, t, k⟩ => ?_
  refine ⟨s, _, E, t, fun vs H1 xs s1 S1 r1 t1 => ?_⟩
  split at t1
  · rename_i ds es
    cases r1 with
    | cons r rr =>
      cases rr with
      | cons r' rr =>
        cases rr
        have r : Rep (Zo W.Z (OwnA σ s1)) H1 _ (.list ds) := r
        have r' : Rep (Zo W.Z (OwnA σ s1)) H1 _ (.list es) := r'
        cases r with
        | lst ha nz rl => cases r' with
          | lst ha' nz' rl' => exact ⟨_, _, _, _, rfl, .inl ⟨.of ha, .of ha', k _ H1 _ s1 S1 (walks_zip (walk_zip rfl) (fun Z1 H2 f => ⟨.of (f.lst _ _ ha nz).1, .of (f.lst _ _ ha' nz').1⟩) rl rl') t1⟩⟩
  · rename_i ds es
    cases r1 with
    | cons r rr =>
      cases rr with
      | cons r' rr =>
        cases rr
        have r : Rep (Zo W.Z (OwnA σ s1)) H1 _ (.tuple ds) := r
        have r' : Rep (Zo W.Z (OwnA σ s1)) H1 _ (.tuple es) := r'
        cases r with
        | tup ha rl => cases r' with
          | tup ha' rl' => exact ⟨_, _, _, _, rfl, .inr ⟨ha.sq, ha'.sq, k _ H1 _ s1 S1 (walks_zip (walk_zipT rfl) (fun Z1 H2 f => ⟨(ha.mono f).sq, (ha'.mono f).sq⟩) rl rl') t1⟩⟩
  · exact t1.elim
def smallR (i : Int) : Prop := -(2 ^ 62) ≤ i ∧ i < 2 ^ 62
def rangeD (lo : Int) (n : Nat) : List DV := (List.range n).map fun i => .d (.int (lo + (i : Nat)))
def rangeDC (lo c : Int) (n : Nat) : List DV := (List.range n).map fun i => .d (.int (lo + (i : Nat) * c))
def iR1 (Ta : DTA) : DTI := fun s Q => Ta s fun xs s1 => match xs with
  | [.d (.int j)] => smallR j ∧ Q (rangeD 0 j.toNat) s1
  | _ => False
theorem di_range1 {Ta : DTA} (hg : Gl X "range") (hm : X.mg "range" = none) (ha : DAC X W [a] Ta) (hs : starEach [a] X.env = [(false, eval a X.env)] := by rfl) : DI X W tg (.Call (.Name "range" p) [a] [] pos) (iR1 Ta) := by
  refine (pi_range1 hg hm ha hs).weak fun σ H R ⟨s, Q, E, t, k⟩ => ?_
  refine ⟨s, _, E, t, fun vs H1 xs s1 S1 r1 t1 => ?_⟩
  split at t1
  · rename_i j
    cases r1 with
    | cons r rr =>
      cases rr
      have r : Rep (Zo W.Z (OwnA σ s1)) H1 _ (.int j) := r
      cases r
      exact ⟨j, rfl, t1.1.1, t1.1.2, k _ H1 _ s1 S1 (by have := walks_range (Z := Zo W.Z (OwnA σ s1)) (H := H1) (lo := 0) (n := j.toNat); exact this) t1.2⟩
  · exact t1.elim
def iR2 (Ta : DTA) : DTI := fun s Q => Ta s fun xs s1 => match xs with
  | [.d (.int i), .d (.int j)] => smallR i ∧ smallR j ∧ Q (rangeD i (j - i).toNat) s1
  | _ => False
theorem di_range2 {Ta : DTA} (hg : Gl X "range") (hm : X.mg "range" = none) (ha : DAC X W [a, b] Ta) (hs : starEach [a, b] X.env = [(false, eval a X.env), (false, eval b X.env)] := by rfl) (hs2 : starEach [b] X.env = [(false, eval b X.env)] := by rfl) :
    DI X W tg (.Call (.Name "range" p) [a, b] [] pos) (iR2 Ta) := by
  refine (pi_range2 hg hm ha hs hs2).weak fun σ H R ⟨s, Q, E, t, k⟩ => ?_
  refine ⟨s, _, E, t, fun vs H1 xs s1 S1 r1 t1 => ?_⟩
  split at t1
  · rename_i i j
    cases r1 with
    | cons r rr =>
      cases rr with
      | cons r' rr =>
        cases rr
        have r : Rep (Zo W.Z (OwnA σ s1)) H1 _ (.int i) := r
        have r' : Rep (Zo W.Z (OwnA σ s1)) H1 _ (.int j) := r'
        cases r
        cases r'
        exact ⟨i, j, rfl, ⟨t1.1.1, t1.1.2, t1.2.1.1, t1.2.1.2⟩, k _ H1 _ s1 S1 walks_range t1.2.2⟩
  · exact t1.elim
def iR3 (Ta : DTA) : DTI := fun s Q => Ta s fun xs s1 => match xs with
  | [.d (.int i), .d (.int j), .d (.int c)] => ∃ n, RgC i j c n ∧ Q (rangeDC i c n) s1
  | _ => False
theorem di_range3 {Ta : DTA} (hg : Gl X "range") (hm : X.mg "range" = none) (ha : DAC X W [a, b, c] Ta) (hs : starEach [a, b, c] X.env = (false, eval a X.env) :: starEach [b, c] X.env := by rfl) (hpl : (backTo pos (starEach [b, c] X.env)).any (·.1) = false := by rfl) :
    DI X W tg (.Call (.Name "range" p) [a, b, c] [] pos) (iR3 Ta) := by
  refine (pi_range3 hg hm ha hs hpl).weak fun σ H R ⟨s, Q, E, t, k⟩ => ?_
  refine ⟨s, _, E, t, fun vs H1 xs s1 S1 r1 t1 => ?_⟩
  split at t1
  · rename_i i j c
    obtain ⟨n, hn, t1⟩ := t1
    cases r1 with
    | cons r rr =>
      cases rr with
      | cons r' rr =>
        cases rr with
        | cons r'' rr =>
          cases rr
          have r : Rep (Zo W.Z (OwnA σ s1)) H1 _ (.int i) := r
          have r' : Rep (Zo W.Z (OwnA σ s1)) H1 _ (.int j) := r'
          have r'' : Rep (Zo W.Z (OwnA σ s1)) H1 _ (.int c) := r''
          cases r
          cases r'
          cases r''
          exact ⟨i, j, c, n, rfl, hn, k _ H1 _ s1 S1 walks_rangeC t1⟩
  · exact t1.elim
/-- reversed(range(a)), reversed(range(a, b)) -/
def iRv1 (T : DTE) : DTI := fun s Q => T s fun x s1 => match x with
  | .d (.int j) => smallR j ∧ Q (rangeDC ((j.toNat : Int) - 1) (-1) j.toNat) s1
  | _ => False
theorem di_rev1 {T : DTE} {p2 pos2 : Pos} (hg : Gl X "reversed") (hm : X.mg "reversed" = none) (hg2 : Gl X "range") (hm2 : X.mg "range" = none) (h : DE X W a T) (na : starEach [a] X.env = (false, eval a X.env) :: starEach [] X.env := by rfl)
    (hs : starEach [.Call (.Name "range" p2) [a] [] pos2] X.env = (false, eval (.Call (.Name "range" p2) [a] [] pos2) X.env) :: starEach [] X.env := by rfl) : DI X W tg (.Call (.Name "reversed" p) [.Call (.Name "range" p2) [a] [] pos2] [] pos) (iRv1 T) := by
  refine (pi_revR hg hm (prg_1 hg2 hm2 h na) hs).weak fun σ H R ⟨s, Q, E, t, k⟩ => ?_
  refine ⟨s, _, E, t, fun v H1 x s1 S1 r1 t1 => ?_⟩
  split at t1
  · rename_i j
    have r1 : Rep (Zo W.Z (OwnA σ s1)) H1 v (.int j) := r1
    cases r1
    refine ⟨j, rfl, by decide, by decide, t1.1.1, t1.1.2, ?_⟩
    rw [Int.sub_zero, Int.zero_add]
    exact k _ H1 _ s1 S1 walks_rangeC t1.2
  · exact t1.elim
def iRv2 (T U : DTE) : DTI := fun s Q => T s fun x s1 => U s1 fun y s2 => match x, y with
  | .d (.int i), .d (.int j) => smallR i ∧ smallR j ∧ Q (rangeDC (i + ((j - i).toNat : Int) - 1) (-1) (j - i).toNat) s2
  | _, _ => False
theorem di_rev2 {T U : DTE} {p2 pos2 : Pos} (hg : Gl X "reversed") (hm : X.mg "reversed" = none) (hg2 : Gl X "range") (hm2 : X.mg "range" = none) (h : DE X W a T) (h2 : DE X W b U) (na : starEach [a, b] X.env = (false, eval a X.env) :: starEach [b] X.env := by rfl)
    (nb : starEach [b] X.env = (false, eval b X.env) :: starEach [] X.env := by rfl) (hp : (backTo pos2 (starEach [b] X.env)).any (·.1) = false := by rfl)
    (hs : starEach [.Call (.Name "range" p2) [a, b] [] pos2] X.env = (false, eval (.Call (.Name "range" p2) [a, b] [] pos2) X.env) :: starEach [] X.env := by rfl) : DI X W tg (.Call (.Name "reversed" p) [.Call (.Name "range" p2) [a, b] [] pos2] [] pos) (iRv2 T U) := by
  refine (pi_revR hg hm (prg_2 hg2 hm2 h h2 na nb hp) hs).weak fun σ H R ⟨s, Q, E, t, k⟩ => ?_
  refine ⟨s, _, E, t, fun v H1 x s1 S1 r1 t1 => ⟨s1, _, S1.env, t1, fun u H2 y s2 S2 r2 t2 => ?_⟩⟩
  split at t2
  · rename_i i j
    have r1 : Rep (Zo W.Z (OwnA σ s1)) H1 v (.int i) := r1
    have r2 : Rep (Zo W.Z (OwnA σ s2)) H2 u (.int j) := r2
    cases r1
    cases r2
    exact ⟨i, j, rfl, rfl, t2.1.1, t2.1.2, t2.2.1.1, t2.2.1.2, k _ H2 _ s2 (S1.trans S2) walks_rangeC t2.2.2⟩
  · exact t2.elim
end
end DL
/-! LB3: list comprehensions over data. -/
namespace DL
open PySem L2
variable [TheW]

theorem wipe_get {σ : L2.St} {i : Nat} : ∀ {vs : List Nat}, (wipe σ vs)[i]? = if i ∈ vs ∧ i < σ.length then some none else σ[i]?
  | [] => by simp [wipe]
  | v :: vs => by
    have ih := wipe_get (σ := σ) (i := i) (vs := vs)
    unfold wipe
    by_cases h : i = v
    · subst h
      by_cases hl : i < σ.length
      · rw [List.getElem?_set_self (by rw [wipe_length]; exact hl), if_pos ⟨by simp, hl⟩]
      · rw [List.getElem?_eq_none (by rw [List.length_set, wipe_length]; omega), if_neg (by rintro ⟨_, h⟩; exact hl h), List.getElem?_eq_none (by omega)]
    · rw [List.getElem?_set_ne (Ne.symm h), ih]
      by_cases h2 : i ∈ vs ∧ i < σ.length
      · rw [if_pos h2, if_pos ⟨by simp [h2.1], h2.2⟩]
      · rw [if_neg h2, if_neg (by rintro ⟨h3, h4⟩; exact h2 ⟨by simpa [h] using h3, h4⟩)]
theorem wipe_eq {σ τ : L2.St} {vs : List Nat} (hl : σ.length = τ.length) (h : ∀ i : Nat, i ∉ vs → σ[i]? = τ[i]?) : wipe σ vs = wipe τ vs := by
  apply List.ext_getElem?
  intro i
  rw [wipe_get, wipe_get, hl]
  by_cases h2 : i ∈ vs ∧ i < τ.length
  · rw [if_pos h2, if_pos h2]
  · rw [if_neg h2, if_neg h2]
    by_cases h3 : i ∈ vs
    · have : ¬ i < τ.length := fun h4 => h2 ⟨h3, h4⟩
      rw [List.getElem?_eq_none (by omega), List.getElem?_eq_none (by omega)]
    · exact h i h3
theorem wipe_wipe {σ : L2.St} {vs : List Nat} : wipe (wipe σ vs) vs = wipe σ vs :=
  wipe_eq (wipe_length _ _) fun i hi => by rw [wipe_get, if_neg (fun h => hi h.1)]
def wipeE (e : List (Option DS)) : List Nat → List (Option DS)
  | [] => e
  | v :: vs => (wipeE e vs).set v none
def wipeD (s : DSt) (vs : List Nat) : DSt := ⟨wipeE s.e vs, s.c⟩
theorem wipeE_length {e : List (Option DS)} : ∀ vs : List Nat, (wipeE e vs).length = e.length
  | [] => rfl
  | v :: vs => by unfold wipeE; rw [List.length_set, wipeE_length vs]
theorem wipeE_some {e : List (Option DS)} {i : Nat} {x : DS} : ∀ {vs : List Nat}, (wipeE e vs)[i]? = some (some x) → e[i]? = some (some x) ∧ i ∉ vs
  | [], h => ⟨h, by simp⟩
  | v :: vs, h => by
    unfold wipeE at h
    by_cases hi : v = i
    · subst hi
      by_cases hv : v < (wipeE e vs).length
      · rw [List.getElem?_set_self hv] at h; cases h
      · rw [List.getElem?_eq_none (by simpa using hv)] at h; cases h
    · rw [List.getElem?_set_ne hi] at h
      obtain ⟨h1, h2⟩ := wipeE_some h
      exact ⟨h1, by simp only [List.mem_cons, not_or]; exact ⟨fun e => hi e.symm, h2⟩⟩
/-- none of the slots vs is told -/
def Wiped (s : DSt) (vs : List Nat) : Prop := ∀ (i : Nat) (x : DS), s.e[i]? = some (some x) → i ∉ vs
theorem wiped_of {s : DSt} {vs : List Nat} : Wiped (wipeD s vs) vs := fun i x h => (wipeE_some h).2
section
variable {W : Wd} {σ τ : L2.St} {H : Hp} {s : DSt} {vs : List Nat}
theorem ownA_of {τ : L2.St} (h : ∀ (i : Nat) (x : DS), s.e[i]? = some (some x) → τ[i]? = σ[i]?) (a : Addr) : OwnA τ s a ↔ OwnA σ s a :=
  ⟨fun ⟨i, o, h1, h2⟩ => ⟨i, o, h1, by rw [← h i _ h1]; exact h2⟩, fun ⟨i, o, h1, h2⟩ => ⟨i, o, h1, by rw [h i _ h1]; exact h2⟩⟩
theorem EnvR.swap {τ : L2.St} (E : EnvR W σ H s) (hl : τ.length = σ.length) (h : ∀ (i : Nat) (x : DS), s.e[i]? = some (some x) → τ[i]? = σ[i]?) : EnvR W τ H s := by
  have f : Fr (Zo W.Z (OwnA σ s)) H (Zo W.Z (OwnA τ s)) H := zo_less fun a => (ownA_of h a).mp
  refine ⟨hl.trans E.len, fun i x q => ?_, fun i o q => ?_, fun i j o u a h1 h2 h3 h4 => ?_, E.muz, W.stab _ _ _ _ _ E.g (fun _ _ => rfl) f⟩
  · obtain ⟨v, e1, e2⟩ := E.sh i x q
    exact ⟨v, by rw [h i _ q]; exact e1, e2.mono f⟩
  · obtain ⟨v, e1, e2, e3⟩ := E.own i o q
    exact ⟨v, by rw [h i _ q]; exact e1, e2.mono f rfl, e3⟩
  · exact E.uniq i j o u a h1 h2 (by rw [← h i _ h1]; exact h3) (by rw [← h j _ h2]; exact h4)
theorem EnvR.unwipe (E : EnvR W (wipe σ vs) H s) (w : Wiped s vs) : EnvR W σ H s :=
  E.swap (wipe_length _ _).symm fun i x h => by rw [wipe_get, if_neg (fun q => w i x h q.1)]
theorem ownA_wipe (w : Wiped s vs) (a : Addr) : OwnA (wipe σ vs) s a ↔ OwnA σ s a := (ownA_of (fun i x h => by rw [wipe_get, if_neg (fun q => w i x h q.1)]) a)
theorem ownA_wipeD (a : Addr) (h : OwnA (wipe σ vs) (wipeD s vs) a) : OwnA σ s a := by
  obtain ⟨i, o, h1, h2⟩ := h
  obtain ⟨h3, h4⟩ := wipeE_some h1
  exact ⟨i, o, h3, by rw [wipe_get, if_neg (fun q => h4 q.1)] at h2; exact h2⟩
theorem EnvR.wiped (E : EnvR W σ H s) : EnvR W (wipe σ vs) H (wipeD s vs) := by
  have f : Fr (Zo W.Z (OwnA σ s)) H (Zo W.Z (OwnA (wipe σ vs) (wipeD s vs))) H := zo_less fun a => ownA_wipeD a
  have g : ∀ (i : Nat) (x : DS), (wipeD s vs).e[i]? = some (some x) → s.e[i]? = some (some x) ∧ (wipe σ vs)[i]? = σ[i]? := fun i x h => by
    obtain ⟨h3, h4⟩ := wipeE_some h
    exact ⟨h3, by rw [wipe_get, if_neg (fun q => h4 q.1)]⟩
  refine ⟨by rw [wipe_length, E.len]; exact (wipeE_length _).symm, fun i x q => ?_, fun i o q => ?_, fun i j o u a h1 h2 h3 h4 => ?_, E.muz, W.stab _ _ _ _ _ E.g (fun _ _ => rfl) f⟩
  · obtain ⟨q1, q2⟩ := g i _ q
    obtain ⟨v, e1, e2⟩ := E.sh i x q1
    exact ⟨v, by rw [q2]; exact e1, e2.mono f⟩
  · obtain ⟨q1, q2⟩ := g i _ q
    obtain ⟨v, e1, e2, e3⟩ := E.own i o q1
    exact ⟨v, by rw [q2]; exact e1, e2.mono f rfl, e3⟩
  · obtain ⟨a1, a2⟩ := g i _ h1
    obtain ⟨b1, b2⟩ := g j _ h2
    exact E.uniq i j o u a a1 b1 (by rw [← a2]; exact h3) (by rw [← b2]; exact h4)
/-- a volatile object is written -/
theorem EnvR.volat {p : Addr} {ob : HO} (E : EnvR W σ H s) (hp : W.Z p) (nf : ¬ W.F p) (mo : Mut (some ob)) : EnvR W σ (upd H p ob) s := by
  have f : Fr (Zo W.Z (OwnA σ s)) H (Zo W.Z (OwnA σ s)) (upd H p ob) := upd_fr (.inl hp) (E.muz p hp) fun _ z => z
  refine ⟨E.len, fun i x q => ?_, fun i o q => ?_, E.uniq, fun a h => ?_, W.stab _ _ _ _ _ E.g (fun a h => upd_ne fun z => nf (by rw [← z]; exact h)) f⟩
  · obtain ⟨v, e1, e2⟩ := E.sh i x q
    exact ⟨v, e1, e2.mono f⟩
  · obtain ⟨v, e1, e2, e3⟩ := E.own i o q
    exact ⟨v, e1, e2.mono f (upd_ne fun z => e3 (by rw [z]; exact hp)), e3⟩
  · by_cases e : a = p
    · rw [e, upd_same]; exact mo
    · rw [upd_ne e]; exact E.muz a h
end

/-! ### targets of a comprehension: names of its own -/
def TgOk (vs : List Nat) (g : TG) (G : DTG) : Prop := ∀ (W : Wd) (v : V) (x : DV) (σ : L2.St) (H : Hp) (s : DSt) (Q : DSt → Prop) (Q' : L2.St → Hp → Prop), EnvR W σ H s → ShR (Zo W.Z (OwnA σ s)) H v x → (∀ i ∈ vs, i < σ.length) → G x s Q →
  (∀ σ' s', Stp W σ H s σ' H s' → σ'.length = σ.length → wipe σ' vs = wipe σ vs → Q s' → Q' σ' H) → g v σ H Q'
def TgsOk (vs : List Nat) (g : TGs) (G : DTGs) : Prop := ∀ (W : Wd) (v : List V) (x : List DV) (σ : L2.St) (H : Hp) (s : DSt) (Q : DSt → Prop) (Q' : L2.St → Hp → Prop), EnvR W σ H s → Paired (ShR (Zo W.Z (OwnA σ s)) H) v x → (∀ i ∈ vs, i < σ.length) → G x s Q →
  (∀ σ' s', Stp W σ H s σ' H s' → σ'.length = σ.length → wipe σ' vs = wipe σ vs → Q s' → Q' σ' H) → g v σ H Q'
theorem tg_name {vs : List Nat} {i : Nat} (hi : i ∈ vs) : TgOk vs (gName i) (dGName i) := fun W v x σ H s Q Q' E r hl t k =>
  k _ _ (stp_setSh E (hl i hi) r) (by simp) (wipe_eq (by simp) fun j hj => by rw [List.getElem?_set_ne (fun e => hj (by rw [← e]; exact hi))]) t
theorem tgs_nil {vs : List Nat} : TgsOk vs gNil dGNil := fun W v x σ H s Q Q' E r hl t k => by
  obtain ⟨rfl, t⟩ := t
  cases r
  exact ⟨rfl, k _ _ (.refl E) rfl rfl t⟩
theorem tgs_cons {vs : List Nat} {g : TG} {G : DTG} {u : TGs} {U : DTGs} (h1 : TgOk vs g G) (h2 : TgsOk vs u U) : TgsOk vs (gCons g u) (dGCons G U) := fun W v x σ H s Q Q' E r hl t k => by
  cases r with
  | nil => exact t.elim
  | cons r rr =>
    refine ⟨_, _, rfl, h1 W _ _ σ H s _ _ E r hl t fun σ1 s1 S1 l1 w1 t1 => ?_⟩
    exact h2 W _ _ σ1 H s1 Q Q' S1.env (Paired.mapP rr fun _ _ z => z.mono (E.fr S1.fr)) (fun i hi => by rw [l1]; exact hl i hi) t1 fun σ2 s2 S2 l2 w2 q => k _ _ (S1.trans S2) (l2.trans l1) (w2.trans w1) q
theorem tg_tup {K : PySem.W.Frag} {vs : List Nat} {n : Nat} {u : TGs} {U : DTGs} (h : TgsOk vs u U) : TgOk vs (gTup K n u) (dGTup n U) := fun W v x σ H s Q Q' E r hl t k => by
  unfold dGTup at t
  split at t
  · rename_i ds
    obtain ⟨l, t⟩ := t
    have r' : Rep (Zo W.Z (OwnA σ s)) H v (.tuple ds) := r
    cases r' with
    | tup h1 h2 => exact ⟨_, _, rfl, h1.sq, by rw [h2.length]; exact l, h W _ _ σ H s Q Q' E (repL_sh h2) hl t k⟩
  · rename_i ds
    obtain ⟨l, t⟩ := t
    obtain ⟨a, xs, rfl, h1, h2⟩ := (show PairR (Zo W.Z (OwnA σ s)) H v ds from r)
    exact ⟨_, _, rfl, .inl (.of h1), by rw [h2.length]; exact l, h W _ _ σ H s Q Q' E (repL_sh h2) hl t k⟩
  · exact t.elim

/-! ### tests -/
def dYes : DTT := fun s Q => Q true s
abbrev DTs (X : Cx) (W : Wd) (ifs : List Expr) (T : DTT) : Prop := PTs X ifs (liftT W T)
theorem dts_nil {X : Cx} {W : Wd} : DTs X W [] dYes := ⟨fun pins s σ H Q I ⟨s1, Q1, E, t, k⟩ => pts_nil.run pins s σ H Q I (k true H s1 (.refl E) t)⟩
theorem dts_one {X : Cx} {W : Wd} {c : Expr} {T : DTT} (h : DT X W c T) : DTs X W [c] T := pts_one h

def accQ (y : DV) (K : PyData → Prop) : Prop := match y with
  | .d z => K z
  | _ => False
def lcLoop (G : DTG) (Tt : DTT) (Te : DTE) (vs : List Nat) (Q : List PyData → DSt → Prop) : List DV → List PyData → DSt → Prop
  | [], acc, s => Q acc s
  | d :: ds, acc, s => G d s fun s1 => Tt s1 fun b s2 => if b = true then Te s2 fun x s3 => capQ x s3 fun y s4 => accQ y fun z => lcLoop G Tt Te vs Q ds (acc ++ [z]) (wipeD s4 vs)
    else lcLoop G Tt Te vs Q ds acc (wipeD s2 vs)
def fLc (Ti : DTI) (G : DTG) (Tt : DTT) (Te : DTE) (vs : List Nat) : DTF := fun s Q => Ti s fun ds s1 => ds.length ≤ 100000 ∧ lcLoop G Tt Te vs (fun acc s2 => Q (.lst acc) s2) ds [] (wipeD s1 vs)
theorem fr_lc {W : Wd} {O O1 O' : Zs} {H1 H : Hp} {D : Addr} (a : FrO W.F O1 H1 O' H) (less : ∀ x, O1 x → O x) (hD : H1 D = none) (mz : ∀ x, W.Z x → Mut (H1 x)) (mo : ∀ x, O x → Mut (H1 x)) : Fr (Zo W.Z O) H1 (Zo (W.add D).Z O') H where
  lst := fun x xs h n => ⟨a.keep x _ h (fun z => n (.inl (W.FZ x z))) fun z => n (.inr (less x z)), fun z => by
    rcases z with (z | z) | z
    · exact n (.inl z)
    · rw [z, hD] at h; cases h
    · rcases a.own x z with q | q
      · exact n (.inr (less x q))
      · rw [h] at q; cases q⟩
  tup := fun x xs h => a.keep x _ h (fun z => by have := mz x (W.FZ x z); rw [h] at this; exact this) fun z => by have := mo x (less x z); rw [h] at this; exact this
  frz := fun x o u h => a.keep x _ h (fun z => by have := mz x (W.FZ x z); rw [h] at this; exact this) fun z => by have := mo x (less x z); rw [h] at this; exact this
section
variable {X : Cx} {W : Wd} {elt tg iter : Expr} {ifs : List Expr} {scope : Scope} {own : List (Str × Nat)} {pos : Pos}
theorem lc_core2 {Ti : DTI} {g : TG} {G : DTG} {Tt : DTT} {Te : DTE} {vs : List Nat} (tok : TgOk vs g G) (σ : L2.St) (H : Hp) (Q' : VK) (hl : ∀ i ∈ vs, i < σ.length) (h : liftF W (fLc Ti G Tt Te vs) σ H Q') :
    tLc (liftI W Ti) g (fun σ H Q => ∃ D, liftT (W.add D) Tt σ H Q) (fun σ H Q => ∃ D, liftC (W.add D) Te σ H Q) vs σ H Q' := by
  obtain ⟨s, Q, E, t, k⟩ := h
  refine ⟨s, _, E, t, fun J H1 ds s1 S1 wk t1 => fun D hD => ?_⟩
  obtain ⟨n, Y, G0, w, rfl, hG, hY⟩ := wk
  obtain ⟨hlen, t1⟩ := t1
  have x0 : Ext H1 (upd H1 D (.lst [])) := .new hD
  have E1 : EnvR (W.add D) σ (upd H1 D (.lst [])) s1 := S1.env.add x0 hD (by rw [upd_same]; trivial)
  have nD := own_fresh S1.env hD
  have nF : ¬ (W.add D).F D := fun z => nD.1 (W.FZ D z)
  have zD : (W.add D).Z D := .inr rfl
  refine lc_it (g := g) (tt := fun σ H Q => ∃ D, liftT (W.add D) Tt σ H Q) (te := fun σ H Q => ∃ D, liftC (W.add D) Te σ H Q) (vs := vs) (σ := σ) (H1 := H1) (D := D) (Qd := fun H => Q' (.ref D) H) w (fun i H2 => ∃ acc accV sI, H2 D = some (.lst accV) ∧ RepL (Zo (W.add D).Z (OwnA (wipe σ vs) sI)) H2 accV acc ∧ acc.length ≤ i ∧ EnvR (W.add D) (wipe σ vs) H2 sI ∧ Wiped sI vs ∧
      FrO W.F (OwnA (wipe σ vs) (wipeD s1 vs)) H1 (OwnA (wipe σ vs) sI) H2 ∧ lcLoop G Tt Te vs (fun acc s2 => Q (.lst acc) s2) (ds.drop i) acc sI) ?_ ?_ ?_ ?_
  · exact ⟨[], [], wipeD s1 vs, upd_same, .nil, Nat.le_refl _, E1.wiped, wiped_of, x0.frO _ _, t1⟩
  · rintro i H2 hi ⟨acc, accV, sI, _, _, _, _, _, fo, _⟩
    exact hG _ _ (fr_lc fo (fun x => ownA_wipeD x) hD S1.env.muz fun x z => (S1.env.omut z).1)
  · rintro i x H2 H3 hlt ⟨acc, accV, sI, hDa, rA, lA, EI, wI, fo, q⟩ y
    obtain ⟨d, hd, ex, r⟩ := hY _ i H2 x H3 (fr_lc fo (fun x => ownA_wipeD x) hD S1.env.muz fun x z => (S1.env.omut z).1) hlt y
    obtain ⟨hl', he⟩ := List.getElem?_eq_some_iff.mp hd
    rw [List.drop_eq_getElem_cons hl', he] at q
    have EI3 := EI.ext ex
    have nO : ∀ {τ : L2.St} {H4 : Hp} {s4 : DSt}, EnvR (W.add D) τ H4 s4 → ¬ OwnA τ s4 D := fun e z => (e.omut z).2 zD
    -- the state of a turn's end, wiped again
    have back : ∀ {σ2 : L2.St} {H4 : Hp} {s4 : DSt}, wipe σ2 vs = wipe σ vs → Stp (W.add D) (wipe σ vs) H3 sI σ2 H4 s4 →
        EnvR (W.add D) (wipe σ vs) H4 (wipeD s4 vs) ∧ FrO W.F (OwnA (wipe σ vs) (wipeD s1 vs)) H1 (OwnA (wipe σ vs) (wipeD s4 vs)) H4 ∧ H4 D = some (.lst accV) ∧ RepL (Zo (W.add D).Z (OwnA (wipe σ vs) (wipeD s4 vs))) H4 accV acc ∧
        Fr (Zo (W.add D).Z (OwnA σ2 s4)) H4 (Zo (W.add D).Z (OwnA (wipe σ vs) (wipeD s4 vs))) H4 := fun {σ2 H4 s4} hw S => by
      have e4 := S.env.wiped (vs := vs)
      rw [hw] at e4
      have less : ∀ a, OwnA (wipe σ vs) (wipeD s4 vs) a → OwnA σ2 s4 a := fun a z => ownA_wipeD a (by rw [hw]; exact z)
      have f4 : FrO W.F (OwnA (wipe σ vs) sI) H3 (OwnA (wipe σ vs) (wipeD s4 vs)) H4 := S.fr.less less
      refine ⟨e4, (fo.trans (ex.frO _ _)).trans f4, S.fr.keep D _ (ex _ _ hDa) nF (nO EI), ?_, zo_less less⟩
      exact ((rA.mono (ex.fr _)).mono (EI3.fr S.fr)).mono (zo_less less)
    refine tok (W.add D) x d (wipe σ vs) H3 sI _ _ EI3 r (fun i hi => by rw [wipe_length]; exact hl i hi) q fun σ2 s2 S2 l2 w2 t2 => ?_
    rw [wipe_wipe] at w2
    refine ⟨w2, D, s2, _, S2.env, t2, fun b H4 s4 S4 t4 => ?_⟩
    cases b with
    | true =>
      rw [if_pos rfl]
      rw [if_pos rfl] at t4
      refine ⟨D, s4, _, S4.env, t4, fun v H5 yv s5 S5 r5 t5 => ?_⟩
      unfold accQ at t5
      split at t5
      · rename_i z
        obtain ⟨e5, f5, hD5, rA5, less5⟩ := back w2 ((S2.trans S4).trans S5)
        have r5 : Rep (Zo (W.add D).Z (OwnA σ2 s5)) H5 v z := r5
        have fu : Fr (Zo (W.add D).Z (OwnA (wipe σ vs) (wipeD s5 vs))) H5 (Zo (W.add D).Z (OwnA (wipe σ vs) (wipeD s5 vs))) (upd H5 D (.lst (accV ++ [v]))) := upd_fr (.inl zD) (e5.muz D zD) fun _ z => z
        refine ⟨accV, hD5, line5' ?_, acc ++ [z], accV ++ [v], wipeD s5 vs, upd_same, (rA5.append (.cons (r5.mono less5) .nil)).mono fu, by rw [List.length_append, List.length_singleton]; omega, e5.volat zD nF trivial, wiped_of, ?_, t5⟩
        · rw [rA.length]; omega
        · refine ⟨fun a o h1 h2 h3 => ?_, f5.own, fun a h => ?_⟩
          · rw [upd_ne (fun z => by rw [z, hD] at h1; cases h1)]; exact f5.keep a o h1 h2 h3
          · by_cases e : a = D
            · rw [e]; exact hD
            · rw [upd_ne e] at h; exact f5.dom a h
      · exact t5.elim
    | false =>
      rw [if_neg Bool.false_ne_true]
      rw [if_neg Bool.false_ne_true] at t4
      obtain ⟨e5, f5, hD5, rA5, less5⟩ := back w2 (S2.trans S4)
      exact ⟨acc, accV, _, hD5, rA5, Nat.le_succ_of_le lA, e5, wiped_of, f5, t4⟩
  · rintro H2 ⟨acc, accV, sI, hDa, rA, lA, EI, wI, fo, q⟩
    rw [List.drop_length] at q
    have oe : ∀ a, OwnA σ sI a → OwnA (wipe σ vs) sI a := fun a => (ownA_wipe wI a).mpr
    have oe2 : ∀ a, OwnA (wipe σ vs) (wipeD s1 vs) a → OwnA σ s1 a := fun a => ownA_wipeD a
    have E2 := EI.unwipe wI
    refine k D H2 (.lst acc) sI ⟨E2.drop, S1.fr.trans ⟨fun a o h1 h2 h3 => fo.keep a o h1 h2 fun z => h3 (oe2 a z), fun a h => (fo.own a (oe a h)).imp (oe2 a) id, fo.dom⟩⟩ E2 ⟨accV, hDa, rA.mono (zo_less oe)⟩ (S1.fr.dom D hD) nD.1 (fun z => (E2.omut z).2 zD) q
theorem df_lc {Ti : DTI} {g : TG} {G : DTG} {Tt : DTT} {Te : DTE} (hc : X.calm = true) (hN : X.N.Nodup) (hi : DI X W tg iter Ti) (ok : BlkOk X.N X.env.scope scope own) (tok : TgOk (own.map (·.2)) g G)
    (hg : ∀ (s : Shared) (H : Hp) (C : Addr) (cl : List (Str × Addr)) (fp : List Addr), PG (X.blk s H scope (compEnvC scope cl C X.env) fp) tg g)
    (ht : ∀ (D : Addr) (s : Shared) (H : Hp) (C : Addr) (cl : List (Str × Addr)) (fp : List Addr), DTs (X.blk s H scope (compEnvC scope cl C X.env) fp) (W.add D) ifs Tt)
    (he : ∀ (D : Addr) (s : Shared) (H : Hp) (C : Addr) (cl : List (Str × Addr)) (fp : List Addr), DE (X.blk s H scope (compEnvC scope cl C X.env) fp) (W.add D) elt Te) (hs : ∀ x, foldedSetIterable iter X.env x = pure x := by intro _; rfl) :
    DF X W (.ListComp elt [⟨tg, iter, ifs, 0⟩] scope pos) (fLc Ti G Tt Te (own.map (·.2))) := by
  have ok' := ok.ix
  have base := pe_lc hc hN hi ok hg (tt := fun σ H Q => ∃ D, liftT (W.add D) Tt σ H Q) (te := fun σ H Q => ∃ D, liftC (W.add D) Te σ H Q)
    (fun s H C cl fp => ⟨fun pins s1 σ H Q I ⟨D, q⟩ => (ht D s _ C cl fp).run pins s1 σ H Q I q⟩) (fun s H C cl fp => ⟨fun pins s1 σ H Q I ⟨D, q⟩ => (cap_run (he D s _ C cl fp)).run pins s1 σ H Q I q⟩) hs (pos := pos)
  exact ⟨fun pins s1 σ H Q I q => base.run pins s1 σ H Q I (lc_core2 tok σ H Q (fun i hi => by
    obtain ⟨p, hp, rfl⟩ := List.mem_map.mp hi
    exact ix_lt I.len (ok' p hp)) q)⟩
/-- name = [..] -/
theorem ds_setLc {Ti : DTI} {g : TG} {G : DTG} {Tt : DTT} {Te : DTE} {i : Nat} {y : Str} {py spos : Pos} (hc : X.calm = true) (hN : X.N.Nodup) (hy : X.N[i]? = some y) (hyl : X.env.scope.names.lookup y = some .local)
    (hsw : swapsWith (.ListComp elt [⟨tg, iter, ifs, 0⟩] scope pos) (some (.Name y py)) spos.line X.env = pure true) (hi : DI X W tg iter Ti) (ok : BlkOk X.N X.env.scope scope own) (tok : TgOk (own.map (·.2)) g G)
    (hg : ∀ (s : Shared) (H : Hp) (C : Addr) (cl : List (Str × Addr)) (fp : List Addr), PG (X.blk s H scope (compEnvC scope cl C X.env) fp) tg g)
    (ht : ∀ (D : Addr) (s : Shared) (H : Hp) (C : Addr) (cl : List (Str × Addr)) (fp : List Addr), DTs (X.blk s H scope (compEnvC scope cl C X.env) fp) (W.add D) ifs Tt)
    (he : ∀ (D : Addr) (s : Shared) (H : Hp) (C : Addr) (cl : List (Str × Addr)) (fp : List Addr), DE (X.blk s H scope (compEnvC scope cl C X.env) fp) (W.add D) elt Te) (hs : ∀ x, foldedSetIterable iter X.env x = pure x := by intro _; rfl) :
    DS1 X W (.Assign [.Name y py] (.ListComp elt [⟨tg, iter, ifs, 0⟩] scope pos) spos) (dOwn i (fLc Ti G Tt Te (own.map (·.2)))) := by
  have ok' := ok.ix
  have base := ps_setLc hc hN hy hyl hsw hi ok hg (tt := fun σ H Q => ∃ D, liftT (W.add D) Tt σ H Q) (te := fun σ H Q => ∃ D, liftC (W.add D) Te σ H Q)
    (fun s H C cl fp => ⟨fun pins s1 σ H Q I ⟨D, q⟩ => (ht D s _ C cl fp).run pins s1 σ H Q I q⟩) (fun s H C cl fp => ⟨fun pins s1 σ H Q I ⟨D, q⟩ => (cap_run (he D s _ C cl fp)).run pins s1 σ H Q I q⟩) hs
  refine base.weakI fun D' σ H hl ⟨s, D, E, t, kn, _⟩ => ?_
  refine lc_core2 tok σ H _ (fun j hj => by
    obtain ⟨p, hp, rfl⟩ := List.mem_map.mp hj
    exact ix_lt hl (ok' p hp)) ⟨s, _, E, t, fun p H1 o s1 S1 E1 r hp n1 n2 t1 => kn _ _ _ (stp_setOwn S1 E1 r hp n1 (ix_lt hl hy)) t1⟩
end
end DL
/-! LB4: methods of a slot's own list; stores by subscript; text methods; tuple.index. -/
namespace PySem.AutoSeq1
open Sem (wp)
theorem list_extend_tupD (l : Addr) (items : Array Value) (n : Nat) (b : Addr) (items2 : Array Value) (n2 : Nat) (dd : Option Addr) (sl) (hs0 : ¬(!items.isEmpty && Builtin.List.listTooLong (items.size + items2.size)) = true) (hs1 : items.size ≤ sizeLine) (hs2 : items.size + items2.size ≤ sizeLine + 1) :
    Meets (Builtin.«list.extend» ⟨[.ref l, .ref b], []⟩) (fun _ R s => s.heap.get? l = some { cls := .type "list", dict := none, data := .seq items n, slots := #[] } ∧ s.heap.get? b = some { cls := .type "tuple", dict := dd, data := .seq items2 n2, slots := sl } ∧ R (.ok (.ret Value.none)) { s with heap := s.heap.update l (Obj.mapSeq fun x => x ++ items2), toks := s.toks }) :=
  .of_wp fun prog w A R s h => by
    obtain ⟨hp, g, d, tk, os⟩ := s; obtain ⟨hl, hb, h⟩ := h; have f1 := idx_int; have f2 := sub_tuple_tuple; have f3 := sub_list_list; have f4 := sub_tuple_list; have f5 := sub_list_tuple;
    have hz' : (items ++ items2).size ≤ sizeLine + 1 := by rw [Array.size_append]; exact hs2
    wp_walk using (wpAny_updateSeq hl rfl (hz := hs1) (_hz' := hz')), wpAny_loadPart' hl, wpAny_loadPart' hb; exact ⟨_, rfl, h⟩
end PySem.AutoSeq1
namespace DL
open PySem PySem.Spec PyProof.Rows L2
variable [TheW]
section
variable {X : Cx}
def rExtendT (K : PySem.W.Frag) : V → List V → Hp → VK → Prop := fun x vs H Q => ∃ l b xs zs, x = .ref l ∧ vs = [.ref b] ∧ H l = some (.lst xs) ∧ SqT K H b zs ∧ xs.length + zs.length ≤ sizeLine ∧ Q .non (upd H l (.lst (xs ++ zs)))
theorem mt_extendT : MtR X "list.extend" (rExtendT X.K) := by
  intro pins s σ H x vs v us Q I rx rv h
  obtain ⟨l, b, xs, zs, rfl, rfl, hH, hB, hz, q⟩ := h
  cases rx
  obtain ⟨u, rfl, ru⟩ := rv.one
  cases ru
  obtain ⟨z, its, n, r, hl, e⟩ := I.lstM hH
  obtain ⟨its2, r2, ⟨⟨cls, dd, dt, sl⟩, e2, hc, n2, hd⟩, z2⟩ := I.tuple hB
  simp only at hc hd
  subst hc
  subst hd
  have hl2 := r2.length
  have hsz : its.toArray.size + its2.toArray.size ≤ sizeLine := by rw [List.size_toArray, List.size_toArray]; omega
  have hlong : ¬ (!its.toArray.isEmpty && Builtin.List.listTooLong (its.toArray.size + its2.toArray.size)) = true := by
    rw [notLongL hsz, Bool.and_false]
    exact Bool.false_ne_true
  refine call_meets F.slot_list_extend ⟨_, e, rfl⟩ F.entry_list_extend (F.args_list_extend_2 _ _)
    (AutoSeq1.list_extend_tupD l its.toArray n b its2.toArray n2 dd sl hlong (by rw [List.size_toArray]; omega) (by omega)) ⟨e, e2, ?_⟩
  refine ⟨.non, _, I.lset (its' := its ++ its2) hH e (by simp) (r.append r2) ?_, rfl, q⟩
  rw [List.length_append]
  omega
end

/-! ### methods of a slot's own list -/
abbrev MF := List PyData → List DV → (List PyData → DV → Prop) → Prop
def dM (i : Nat) (Ta : DTA) (f : MF) : DTE := fun s Q => (∃ ds, s.e[i]? = some (some (.own (.lst ds)))) ∧ Ta s fun xs s1 => ∃ ds, s1.e[i]? = some (some (.own (.lst ds))) ∧ f ds xs fun ds' x => Q x (s1.set i (.own (.lst ds')))
def MRel (f : MF) (r : V → List V → Hp → VK → Prop) : Prop := ∀ (Z : Zs) (H : Hp) (p : Addr) (xs : List V) (ds : List PyData) (vs : List V) (ys : List DV) (Kp : List PyData → DV → Prop) (Q' : VK), H p = some (.lst xs) → Z p → RepL Z H xs ds → Paired (ShR Z H) vs ys → f ds ys Kp →
  (∀ xs' ds' v x, RepL Z H xs' ds' → ShR Z H v x → Kp ds' x → Q' v (upd H p (.lst xs'))) → r (.ref p) vs H Q'
section
variable {X : Cx} {W : Wd} {e a b c : Expr} {es : List Expr} {pos p tpos : Pos} {k : Nat}
theorem m_core {i : Nat} {f : MF} {r : V → List V → Hp → VK → Prop} {Ta : DTA} (hr : MRel f r) (σ : L2.St) (H : Hp) (Q' : VK) (h : liftE W (dM i Ta f) σ H Q') : tBM X.K "list" r (tVar i) (liftAC W Ta) σ H Q' := by
  obtain ⟨s, Q, E, ⟨⟨ds, hds⟩, t⟩, k⟩ := h
  obtain ⟨p, e1, ⟨xs, e2, e3⟩, e4⟩ := E.own i _ hds
  refine ⟨_, e1, .inl ⟨rfl, xs, .of e2⟩, s, _, E, t, fun vs H1 ys s1 S1 r1 t1 => ?_⟩
  obtain ⟨ds1, hd1, t1⟩ := t1
  obtain ⟨p', f1, ⟨xs1, f2, f3⟩, f4⟩ := S1.env.own i _ hd1
  rw [e1] at f1
  cases f1
  have op : OwnA σ s1 p := ⟨i, _, hd1, e1⟩
  refine hr _ H1 p xs1 ds1 vs ys _ Q' f2 (.inr op) f3 r1 t1 fun xs' ds' v x rx rv kx => ?_
  have fu : Fr (Zo W.Z (OwnA σ s1)) H1 (Zo W.Z (OwnA σ (s1.set i (.own (.lst ds'))))) (upd H1 p (.lst xs')) := upd_fr (.inr op) (S1.env.omut op).1 fun a z => z.elim .inl fun q => .inr (ownA_chg hd1 q)
  have fu0 : Fr (Zo W.Z (OwnA σ s1)) H1 (Zo W.Z (OwnA σ s1)) (upd H1 p (.lst xs')) := upd_fr (.inr op) (S1.env.omut op).1 fun a z => z
  refine k v _ x _ ⟨S1.env.chg (u := .lst ds') hd1 e1 ⟨xs', upd_same, rx.mono fu0⟩, S1.fr.trans (chg_frO op (by rw [f2]; intro z; cases z) fun a => ownA_chg hd1)⟩ ?_ kx
  exact (rv.mono fu).dvr
theorem m_core0 {i : Nat} {f : MF} {r : V → List V → Hp → VK → Prop} (hr : MRel f r) (σ : L2.St) (H : Hp) (Q' : VK) (h : liftE W (dM i cNil f) σ H Q') : tBM0 X.K "list" r (tVar i) σ H Q' := by
  obtain ⟨s, Q, E, t, k⟩ := h
  obtain ⟨v, e1, ty, q⟩ := m_core (X := X) (W := W) (f := f) (Ta := cNil) hr σ H Q' ⟨s, Q, E, t, k⟩
  refine ⟨v, e1, ty, ?_⟩
  obtain ⟨s2, Q2, E2, t2, k2⟩ := q
  exact k2 [] H [] s2 (.refl E2) .nil t2
def mAppend : MF := fun ds ys K => match ys with
  | [.d y] => ds.length < 100000 ∧ K (ds ++ [y]) (.d .none)
  | _ => False
def mExtend : MF := fun ds ys K => match ys with
  | [.d (.list zs)] => ds.length + zs.length ≤ 100000 ∧ K (ds ++ zs) (.d .none)
  | _ => False
def mExtendT : MF := fun ds ys K => match ys with
  | [.d (.tuple zs)] => ds.length + zs.length ≤ 100000 ∧ K (ds ++ zs) (.d .none)
  | _ => False
def mPop : MF := fun ds ys K => match ys with
  | [] => ∃ d, ds[ds.length - 1]? = some d ∧ K ds.dropLast (.d d)
  | _ => False
def mPopAt : MF := fun ds ys K => match ys with
  | [.d (.int i)] => ∃ d, ds[i.toNat]? = some d ∧ 0 ≤ i ∧ i < 100000 ∧ K (ds.eraseIdx i.toNat) (.d d)
  | _ => False
def mReverse : MF := fun ds ys K => match ys with
  | [] => K ds.reverse (.d .none)
  | _ => False
theorem mr_append : MRel mAppend rAppend := fun Z H p xs ds vs ys K Q' hp zp r ra t k => by
  unfold mAppend at t
  split at t
  · rename_i y
    cases ra with
    | cons a rr =>
      cases rr
      have a : Rep Z H _ y := a
      exact ⟨p, xs, _, rfl, rfl, hp, line5' (by rw [r.length]; exact t.1), k _ _ .non (.d .none) (r.append (.cons a .nil)) Rep.non t.2⟩
  · exact t.elim
theorem mr_extend : MRel mExtend rExtend := fun Z H p xs ds vs ys K Q' hp zp r ra t k => by
  unfold mExtend at t
  split at t
  · rename_i zs
    cases ra with
    | cons a rr =>
      cases rr
      have a : Rep Z H _ (.list zs) := a
      cases a with
      | lst h1 h2 h3 => exact ⟨p, _, xs, _, rfl, rfl, hp, h1, line5 (by rw [r.length, h3.length]; exact t.1), k _ _ .non (.d .none) (r.append h3) Rep.non t.2⟩
  · exact t.elim
theorem mr_extendT {K0 : PySem.W.Frag} : MRel mExtendT (rExtendT K0) := fun Z H p xs ds vs ys K Q' hp zp r ra t k => by
  unfold mExtendT at t
  split at t
  · rename_i zs
    cases ra with
    | cons a rr =>
      cases rr
      have a : Rep Z H _ (.tuple zs) := a
      cases a with
      | tup h1 h3 => exact ⟨p, _, xs, _, rfl, rfl, hp, h1.sq, line5 (by rw [r.length, h3.length]; exact t.1), k _ _ .non (.d .none) (r.append h3) Rep.non t.2⟩
  · exact t.elim
theorem mr_pop : MRel mPop rPop := fun Z H p xs ds vs ys K Q' hp zp r ra t k => by
  unfold mPop at t
  split at t
  · obtain ⟨d, hd, t⟩ := t
    · cases ra
      rw [← r.length] at hd
      obtain ⟨v, hv, rv⟩ := r.get hd
      exact ⟨p, xs, v, rfl, rfl, hp, hv, k _ _ v (.d d) r.dropLast rv t⟩
  · exact t.elim
theorem mr_popAt : MRel mPopAt rPopAt := fun Z H p xs ds vs ys K Q' hp zp r ra t k => by
  unfold mPopAt at t
  split at t
  · rename_i i
    obtain ⟨d, hd, t⟩ := t
    · cases ra with
      | cons a rr =>
        cases rr
        have a : Rep Z H _ (.int i) := a
        cases a
        obtain ⟨v, hv, rv⟩ := r.get hd
        have hl : i.toNat < xs.length := (List.getElem?_eq_some_iff.mp hv).1
        exact ⟨p, xs, i, i.toNat, v, rfl, rfl, hp, by omega, by omega, seqIndex_of t.1 (by omega), hv, k _ _ v (.d d) (r.eraseIdx _) rv t.2.2⟩
  · exact t.elim
theorem mr_reverse : MRel mReverse rReverse := fun Z H p xs ds vs ys K Q' hp zp r ra t k => by
  unfold mReverse at t
  split at t
  · cases ra
    exact ⟨p, xs, rfl, rfl, hp, k _ _ .non (.d .none) r.reverse Rep.non t⟩
  · exact t.elim
variable {x : Str} {apos cpos : Pos}
theorem de_append {i : Nat} {Ta : DTA} (ha : DAC X W [e] Ta) (hN : X.N[i]? = some x := by rfl) (hv : Vis X.env.scope x := by first | exact Or.inl rfl | exact Or.inr (Or.inl rfl) | exact Or.inr (Or.inr rfl)) (hd : (x == ("__debug__" : Str)) = false := by decide) (hcd : (x == ("__classdict__" : Str)) = false := by decide)
    (hbase : attributeBase (.Name x p) "append" X.env (eval (.Name x p) X.env) = eval (.Name x p) X.env := by rfl)
    (hfew : ((backTo cpos (starEach [e] X.env)).all (fun x => !x.1) && (backToKw cpos (keywordEach [] X.env)).all (fun x => x.1.isSome) && decide ([e].length + ([] : List Keyword).length + (if ([] : List Keyword).isEmpty then 0 else 1) < 30)) = true := by rfl)
    (hline : (apos.endLine == cpos.line) = true := by rfl) (hs : starEach [e] X.env = (false, eval e X.env) :: starEach [] X.env := by rfl) (hplain : (backTo cpos (starEach [] X.env)).any (·.1) = false := by rfl) :
    DE X W (.Call (.Attribute (.Name x p) "append" apos) [e] [] cpos) (dM i Ta mAppend) :=
  (pe_bm F.plainAttrs_list F.slot_list_append F.type_list_append mt_append (pe_var hN hv hd hcd) ha hbase hfew hline hs hplain).weak fun σ H Q' h => m_core mr_append σ H Q' h
theorem de_extend {i : Nat} {Ta : DTA} (ha : DAC X W [e] Ta) (hN : X.N[i]? = some x := by rfl) (hv : Vis X.env.scope x := by first | exact Or.inl rfl | exact Or.inr (Or.inl rfl) | exact Or.inr (Or.inr rfl)) (hd : (x == ("__debug__" : Str)) = false := by decide) (hcd : (x == ("__classdict__" : Str)) = false := by decide)
    (hbase : attributeBase (.Name x p) "extend" X.env (eval (.Name x p) X.env) = eval (.Name x p) X.env := by rfl)
    (hfew : ((backTo cpos (starEach [e] X.env)).all (fun x => !x.1) && (backToKw cpos (keywordEach [] X.env)).all (fun x => x.1.isSome) && decide ([e].length + ([] : List Keyword).length + (if ([] : List Keyword).isEmpty then 0 else 1) < 30)) = true := by rfl)
    (hline : (apos.endLine == cpos.line) = true := by rfl) (hs : starEach [e] X.env = (false, eval e X.env) :: starEach [] X.env := by rfl) (hplain : (backTo cpos (starEach [] X.env)).any (·.1) = false := by rfl) :
    DE X W (.Call (.Attribute (.Name x p) "extend" apos) [e] [] cpos) (dM i Ta mExtend) :=
  (pe_bm F.plainAttrs_list F.slot_list_extend F.type_list_extend mt_extend (pe_var hN hv hd hcd) ha hbase hfew hline hs hplain).weak fun σ H Q' h => m_core mr_extend σ H Q' h
theorem de_extendT {i : Nat} {Ta : DTA} (ha : DAC X W [e] Ta) (hN : X.N[i]? = some x := by rfl) (hv : Vis X.env.scope x := by first | exact Or.inl rfl | exact Or.inr (Or.inl rfl) | exact Or.inr (Or.inr rfl)) (hd : (x == ("__debug__" : Str)) = false := by decide) (hcd : (x == ("__classdict__" : Str)) = false := by decide)
    (hbase : attributeBase (.Name x p) "extend" X.env (eval (.Name x p) X.env) = eval (.Name x p) X.env := by rfl)
    (hfew : ((backTo cpos (starEach [e] X.env)).all (fun x => !x.1) && (backToKw cpos (keywordEach [] X.env)).all (fun x => x.1.isSome) && decide ([e].length + ([] : List Keyword).length + (if ([] : List Keyword).isEmpty then 0 else 1) < 30)) = true := by rfl)
    (hline : (apos.endLine == cpos.line) = true := by rfl) (hs : starEach [e] X.env = (false, eval e X.env) :: starEach [] X.env := by rfl) (hplain : (backTo cpos (starEach [] X.env)).any (·.1) = false := by rfl) :
    DE X W (.Call (.Attribute (.Name x p) "extend" apos) [e] [] cpos) (dM i Ta mExtendT) :=
  (pe_bm F.plainAttrs_list F.slot_list_extend F.type_list_extend mt_extendT (pe_var hN hv hd hcd) ha hbase hfew hline hs hplain).weak fun σ H Q' h => m_core mr_extendT σ H Q' h
theorem de_popAt {i : Nat} {Ta : DTA} (ha : DAC X W [e] Ta) (hN : X.N[i]? = some x := by rfl) (hv : Vis X.env.scope x := by first | exact Or.inl rfl | exact Or.inr (Or.inl rfl) | exact Or.inr (Or.inr rfl)) (hd : (x == ("__debug__" : Str)) = false := by decide) (hcd : (x == ("__classdict__" : Str)) = false := by decide)
    (hbase : attributeBase (.Name x p) "pop" X.env (eval (.Name x p) X.env) = eval (.Name x p) X.env := by rfl)
    (hfew : ((backTo cpos (starEach [e] X.env)).all (fun x => !x.1) && (backToKw cpos (keywordEach [] X.env)).all (fun x => x.1.isSome) && decide ([e].length + ([] : List Keyword).length + (if ([] : List Keyword).isEmpty then 0 else 1) < 30)) = true := by rfl)
    (hline : (apos.endLine == cpos.line) = true := by rfl) (hs : starEach [e] X.env = (false, eval e X.env) :: starEach [] X.env := by rfl) (hplain : (backTo cpos (starEach [] X.env)).any (·.1) = false := by rfl) :
    DE X W (.Call (.Attribute (.Name x p) "pop" apos) [e] [] cpos) (dM i Ta mPopAt) :=
  (pe_bm F.plainAttrs_list F.slot_list_pop F.type_list_pop mt_popAt (pe_var hN hv hd hcd) ha hbase hfew hline hs hplain).weak fun σ H Q' h => m_core mr_popAt σ H Q' h
theorem de_pop {i : Nat} (hN : X.N[i]? = some x := by rfl) (hv : Vis X.env.scope x := by first | exact Or.inl rfl | exact Or.inr (Or.inl rfl) | exact Or.inr (Or.inr rfl)) (hd : (x == ("__debug__" : Str)) = false := by decide) (hcd : (x == ("__classdict__" : Str)) = false := by decide)
    (hbase : attributeBase (.Name x p) "pop" X.env (eval (.Name x p) X.env) = eval (.Name x p) X.env := by rfl) (hline : (apos.endLine == cpos.line) = true := by rfl) :
    DE X W (.Call (.Attribute (.Name x p) "pop" apos) [] [] cpos) (dM i cNil mPop) :=
  (pe_bm0 F.plainAttrs_list F.slot_list_pop F.type_list_pop mt_pop (pe_var hN hv hd hcd) hbase hline).weak fun σ H Q' h => m_core0 mr_pop σ H Q' h
theorem de_reverse {i : Nat} (hN : X.N[i]? = some x := by rfl) (hv : Vis X.env.scope x := by first | exact Or.inl rfl | exact Or.inr (Or.inl rfl) | exact Or.inr (Or.inr rfl)) (hd : (x == ("__debug__" : Str)) = false := by decide) (hcd : (x == ("__classdict__" : Str)) = false := by decide)
    (hbase : attributeBase (.Name x p) "reverse" X.env (eval (.Name x p) X.env) = eval (.Name x p) X.env := by rfl) (hline : (apos.endLine == cpos.line) = true := by rfl) :
    DE X W (.Call (.Attribute (.Name x p) "reverse" apos) [] [] cpos) (dM i cNil mReverse) :=
  (pe_bm0 F.plainAttrs_list F.slot_list_reverse F.type_list_reverse mt_reverse (pe_var hN hv hd hcd) hbase hline).weak fun σ H Q' h => m_core0 mr_reverse σ H Q' h

/-! ### x[i] = v of a slot's own list or dict -/
def putQ (i : Nat) (s : DSt) (y x : DV) (Q : DSt → Prop) : Prop := match s.e[i]?, y, x with
  | some (some (.own (.lst ds))), .d (.int j), .d v => ∃ n, ixN ds.length j = some n ∧ Q (s.set i (.own (.lst (ds.set n v))))
  | some (some (.own (.dct kds))), .d (.tuple ks), .d v => (toKs ks).isSome = true ∧ kds.length < 100000 ∧ Q (s.set i (.own (.dct (putP kds (.tuple ks) v))))
  | some (some (.own (.dK kds))), .d (.str k), .d v => kds.length < 100000 ∧ (kds.all fun p => p.1 != k) = true ∧ Q (s.set i (.own (.dK (kds ++ [(k, v)]))))
  | _, _, _ => False
def dGSub (i : Nat) (Ti : DTE) : DTG := fun x s Q => (∃ o, s.e[i]? = some (some (.own o))) ∧ Ti s fun y s1 => putQ i s1 y x Q
theorem repS_any {Z : Zs} {H : Hp} : ∀ {kvs : List (Key × V)} {kds : List (Str × PyData)} {k : Str}, RepS Z H kvs kds → (kds.all fun p => p.1 != k) = true → (kvs.any fun kv => decide (kv.1 = .inr k)) = false
  | [], [], _, _, _ => rfl
  | (_, _) :: _, (_, _) :: _, k, ⟨a, b, c⟩, h => by
    rw [List.all_cons, Bool.and_eq_true] at h
    rw [List.any_cons, repS_any c h.2, Bool.or_false, a]
    refine decide_eq_false fun e => ?_
    have := h.1
    simp at this
    exact this (Sum.inr.inj e)
  | [], _ :: _, _, h, _ => h.elim
  | _ :: _, [], _, h, _ => h.elim
theorem RepS.app {Z : Zs} {H : Hp} {k : Str} {v : V} {d : PyData} (r : Rep Z H v d) : ∀ {kvs : List (Key × V)} {kds : List (Str × PyData)}, RepS Z H kvs kds → RepS Z H (kvs ++ [(.inr k, v)]) (kds ++ [(k, d)])
  | [], [], _ => ⟨rfl, r, trivial⟩
  | (_, _) :: _, (_, _) :: _, ⟨a, b, c⟩ => ⟨a, b, RepS.app r c⟩
  | [], _ :: _, h => h.elim
  | _ :: _, [], h => h.elim
theorem RepS.length {Z : Zs} {H : Hp} : ∀ {kvs : List (Key × V)} {kds : List (Str × PyData)}, RepS Z H kvs kds → kvs.length = kds.length
  | [], [], _ => rfl
  | (_, _) :: _, (_, _) :: _, ⟨a, b, c⟩ => congrArg Nat.succ (RepS.length c)
  | [], _ :: _, h => h.elim
  | _ :: _, [], h => h.elim
def rSetX : TSet := fun o i v H Q => ∃ a ks kk b, o = .ref a ∧ i = .ref b ∧ H a = some (DctO a ks) ∧ KeyT H ks ∧ IsT H b (kk.map kV) ∧ ks.length < sizeLine ∧ Q (upd H a (DctO a (putX ks kk b v)))
theorem dg_sub {i : Nat} {ix : Expr} {Ti : DTE} (hw : Wx X) (hr : Room k X.A) (hi : DE X W ix Ti) (hN : X.N[i]? = some x := by rfl) (hv : Vis X.env.scope x := by first | exact Or.inl rfl | exact Or.inr (Or.inl rfl) | exact Or.inr (Or.inr rfl)) (hd : (x == ("__debug__" : Str)) = false := by decide) (hcd : (x == ("__classdict__" : Str)) = false := by decide)
    (ha : ∀ v, assign (.Subscript (.Name x p) ix pos) X.env v = (do
      let ov ← holding [v] (eval (.Name x p) X.env)
      let iv ← holding [v, ov] (eval ix X.env)
      standAt pos
      holding [v, ov, iv] (setItem ov iv v)
      release [v, ov, iv] []) := by intro _; rfl) : DG X W (.Subscript (.Name x p) ix pos) (dGSub i Ti) := by
  have hs : PSet X (fun o i v H Q => (rSetL o i v H Q ∨ rSetD o i v H Q) ∨ rSetX o i v H Q) := fun pins s σ H o i v ov iv u Q I ro ri rv h => by
    have hun := hr.un
    rcases h with (h | h) | h
    · exact set_list pins s σ H o i v ov iv u Q I ro ri rv h
    · exact set_dict (by omega) pins s σ H o i v ov iv u Q I ro ri rv h
    · obtain ⟨a, ks, kk, b, rfl, rfl, h1, h2, h3, h4, q⟩ := h
      cases ro
      cases ri
      exact dx_set hw (by omega) I h1 h2 h3 h4 rv fun s' I' => ⟨_, I', q⟩
  refine (pg_sub (pe_var hN hv hd hcd) hi hs ha).weak fun v σ H Q' ⟨s, y, Q, E, r, ⟨⟨o, ho⟩, t⟩, k⟩ => ?_
  obtain ⟨p, e1, _, _⟩ := E.own i _ ho
  refine ⟨_, e1, s, _, E, t, fun iv H1 y1 s1 S1 r1 t1 => ?_⟩
  have r' := r.mono (E.fr S1.fr)
  unfold putQ at t1
  split at t1
  · rename_i ds j d hds
    obtain ⟨n, hn, t1⟩ := t1
    · obtain ⟨p', f1, ⟨xs1, f2, f3⟩, f4⟩ := S1.env.own i _ hds
      rw [e1] at f1
      cases f1
      cases (show Rep _ H1 iv (.int j) from r1)
      have r' : Rep (Zo W.Z (OwnA σ s1)) H1 v d := r'
      have op : OwnA σ s1 p := ⟨i, _, hds, e1⟩
      refine .inl (.inl ⟨p, xs1, j, n, rfl, rfl, f2, by rw [f3.length]; exact hn, ?_⟩)
      have fu0 : Fr (Zo W.Z (OwnA σ s1)) H1 (Zo W.Z (OwnA σ s1)) (upd H1 p (.lst (xs1.set n v))) := upd_fr (.inr op) (S1.env.omut op).1 fun a z => z
      exact k _ _ _ (S1.trans ⟨S1.env.chg (u := .lst (ds.set n d)) hds e1 ⟨_, upd_same, (RepL.set r' n f3).mono fu0⟩, chg_frO op (by rw [f2]; intro z; cases z) fun a => ownA_chg hds⟩) t1
  · rename_i kds ks d hds
    obtain ⟨p', f1, ⟨xs1, f2, f3⟩, f4⟩ := S1.env.own i _ hds
    rw [e1] at f1
    cases f1
    obtain ⟨h1, h2, h3⟩ := t1
    obtain ⟨kk, hk⟩ := Option.isSome_iff_exists.mp h1
    obtain ⟨b, rfl, hb, hbr⟩ := key_of (Rep.view (show Rep _ H1 iv (.tuple ks) from r1)) hk
    have e : PyData.tuple ks = keyD kk := by rw [toKs_eq hk]; rfl
    have r' : Rep (Zo W.Z (OwnA σ s1)) H1 v d := r'
    have op : OwnA σ s1 p := ⟨i, _, hds, e1⟩
    refine .inr ⟨p, xs1, kk, b, rfl, rfl, f2, f3.keyT, hb, line5' (by rw [f3.length]; exact h2), ?_⟩
    have fu0 : Fr (Zo W.Z (OwnA σ s1)) H1 (Zo W.Z (OwnA σ s1)) (upd H1 p (DctO p (putX xs1 kk b v))) := upd_fr (.inr op) (S1.env.omut op).1 fun a z => z
    refine k _ _ _ (S1.trans ⟨S1.env.chg (u := .dct (putP kds (.tuple ks) d)) hds e1 ⟨_, upd_same, ?_⟩, chg_frO op (by rw [f2]; intro z; cases z) fun a => ownA_chg hds⟩) h3
    rw [e] at hbr ⊢
    exact (f3.put kk hb hbr r').mono fu0
  · rename_i kds ks d hds
    obtain ⟨p', f1, ⟨xs1, f2, f3⟩, f4⟩ := S1.env.own i _ hds
    rw [e1] at f1
    cases f1
    obtain ⟨h2, h1, h3⟩ := t1
    cases (show Rep _ H1 iv (.str ks) from r1)
    have r' : Rep (Zo W.Z (OwnA σ s1)) H1 v d := r'
    have op : OwnA σ s1 p := ⟨i, _, hds, e1⟩
    refine .inl (.inr ⟨p, _, rfl, .k (k := .inr ks) f2 (line5' (by rw [f3.length]; exact h2)), ?_⟩)
    have fu0 : Fr (Zo W.Z (OwnA σ s1)) H1 (Zo W.Z (OwnA σ s1)) (upd H1 p (.dK (putK xs1 (.inr ks) v))) := upd_fr (.inr op) (S1.env.omut op).1 fun a z => z
    refine k _ _ _ (S1.trans ⟨S1.env.chg (u := .dK (kds ++ [(ks, d)])) hds e1 ⟨_, upd_same, ?_⟩, chg_frO op (by rw [f2]; intro z; cases z) fun a => ownA_chg hds⟩) h3
    have : putK xs1 (.inr ks) v = xs1 ++ [(.inr ks, v)] := by
      unfold putK
      rw [if_neg (by rw [repS_any f3 h1]; exact Bool.false_ne_true)]
    rw [this] at fu0 ⊢
    exact (f3.app r').mono fu0
  · exact t1.elim
end
end DL
/-! LB5: sorted(..) of lists, tuples, dicts. -/
namespace DL
open PySem PySem.Spec PyProof.Rows L2
variable [TheW]
section
variable {prog : Program} {w : World} {A : Around} {E : Value → Shared → Prop} {s : Shared}
theorem collect_tupV {l : Addr} {vs : List Value} {Q : List Value → Shared → Prop} (hl : s.heap.IsTuple l vs.toArray)
    (h : Q vs { s with heap := (s.heap.push (seqObj "list" #[] 0)).update s.heap.objs.size (Obj.mapSeq (· ++ vs.toArray)) }) (hsz : vs.length ≤ sizeLine) :
    wpAny (model prog w) A (collect (.ref l)) Q E s := by
  obtain ⟨o, ho, hc, n, hd⟩ := id hl
  unfold collect
  refine wpAny_bind (wpAny_runValue (codeAny_builtin entry_proto_collect' ?_))
  show wpAny _ _ (do again (.builtin "list.__iadd__" ⟨[← newList [], .ref l], []⟩)) _ _ s
  refine wpAny_bind (wpAny_newList (wpAny_pure ⟨Code.quiet_builtin _ (by decide +kernel), codeAny_builtin entry_list_iadd' ?_⟩))
  show wpAny _ _ (Builtin.List.listExtendWith (.ref s.heap.objs.size) (.ref l) (.ref s.heap.objs.size)) _ _ { s with heap := s.heap.push (seqObj "list" #[] 0) }
  unfold Builtin.List.listExtendWith
  have ho' : (s.heap.push (seqObj "list" #[] 0)).get? l = some o := Heap.get?_push_of_some _ ho
  refine wpAny_bind (wpAny_typeOf (T := "tuple") ⟨o, ho', hc⟩ ?_)
  have ht : (Value.type "tuple" == Value.type "tuple") = true := by rfl
  rw [if_pos (by rw [ht]; simp)]
  refine wpAny_bind (listItems_at ho' hd ?_)
  refine wpAny_bind (listItems_at (xs := #[]) (n := 0) (Heap.get?_push_size _ rfl) rfl ?_)
  rw [if_neg (by simp)]
  refine wpAny_bind (listUpdate_at (xs := #[]) (n := 0) (Heap.get?_push_size _ rfl) rfl ?_ (Nat.zero_le _) (by show (#[] ++ vs.toArray).size ≤ sizeLine + 1; simp only [Array.size_append, List.size_toArray, List.length_nil]; omega))
  refine wpAny_pure ?_
  show wpAny (model prog w) A (do
      let o ← load s.heap.objs.size
      match o.data with
      | .seq xs _ => pure xs.toList
      | _ => unsupported "internal:collect") Q E { s with heap := (s.heap.push (seqObj "list" #[] 0)).update s.heap.objs.size (Obj.mapSeq (· ++ vs.toArray)) }
  refine wpAny_bind (wpAny_load (get?_update_seq (Heap.get?_push_size _ rfl) _) ?_)
  show wpAny _ _ (pure ((#[] : Array Value) ++ vs.toArray).toList) Q E _
  rw [show ((#[] : Array Value) ++ vs.toArray).toList = vs by simp]
  exact wpAny_pure h
theorem collect_keep {vs : List Value} (b : Addr) (o : Obj) (e : s.heap.get? b = some o) : ((s.heap.push (seqObj "list" #[] 0)).update s.heap.objs.size (Obj.mapSeq (· ++ vs.toArray))).get? b = some o := by
  rw [Heap.get?_update_ne _ _ _ _ (Nat.ne_of_lt (Heap.lt_size e))]
  exact Heap.get?_push_of_some _ e
end
section
variable {X : Cx}
/-- v stands for d -/
def RV (Z : Zs) (H : Hp) (v : Value) (d : PyData) : Prop := ∃ x, RelV x v ∧ Rep Z H x d
theorem each_of {Z : Zs} {H : Hp} : ∀ {xs : List V} {vs : List Value} {ds : List PyData}, Vals xs vs → RepL Z H xs ds → PySem.W.EachIs (RV Z H) vs ds
  | _, _, _, .nil, .nil => .nil
  | _, _, _, .cons r t, .cons h t' => .cons ⟨_, r, h⟩ (each_of t t')
theorem of_each {Z : Zs} {H : Hp} : ∀ {vs : List Value} {ds : List PyData}, PySem.W.EachIs (RV Z H) vs ds → ∃ xs, Vals xs vs ∧ RepL Z H xs ds
  | _, _, .nil => ⟨[], .nil, .nil⟩
  | _, _, .cons ⟨x, r, h⟩ t => let ⟨xs, a, b⟩ := of_each t; ⟨x :: xs, .cons r a, .cons h b⟩
def SrtOk (ds : List PyData) : Prop := ds.length ≤ 100000 ∧ ds.all (okD 8) = true ∧ PySem.W.AllAlike ds ∧ PySem.W.Sortable ds
def srtD (ds : List PyData) : List PyData := ds.mergeSort (PySem.W.dataLe false id)
theorem each_reads {Z : Zs} {H : Hp} {pins : List (Addr × Obj)} {σ : L2.St} {s : Shared} (I : Inv X pins σ H s) : ∀ {vs : List Value} {ds : List PyData}, PySem.W.EachIs (RV Z H) vs ds → ds.all (okD 8) = true → PySem.W.EachIs (fun v b => ∃ as, Reads s.heap v (id b) as) vs ds
  | _, _, .nil, _ => .nil
  | _, _, .cons ⟨x, r, h⟩ t, ok => by
    rw [List.all_cons, Bool.and_eq_true] at ok
    exact .cons (Dp.reads I _ x _ (h.dp (K := X.K) 8 ok.1).1 r) (each_reads I t ok.2)
theorem sorted_any {pins : List (Addr × Obj)} {σ : L2.St} {H : Hp} {s : Shared} {src : Value} {vs : List Value} {Z : Zs} {ds : List PyData} {k : Nat} {Q' : VK} (hr : Room k X.A) (I : Inv X pins σ H s)
    (col : ∀ (R : List Value → Shared → Prop), (∀ (h' : Heap) (tk : Nat), (∀ b o, s.heap.get? b = some o → h'.get? b = some o) → R vs { s with heap := h', toks := tk }) → wpAny (model X.prog X.w) X.A.in1 (collect src) R X.xe s)
    (e : PySem.W.EachIs (RV Z H) vs ds) (ok : SrtOk ds) (q : ∀ p xs, H p = none → RepL Z H xs (srtD ds) → Q' (.ref p) (upd H p (.lst xs))) :
    wpAny (model X.prog X.w) X.A (call (.builtin "sorted") [src]) (EP X pins σ Q') X.xe s := by
  obtain ⟨o1, o2, o3, o4⟩ := ok
  have hun := hr.un
  have hl := e.length
  have hz : vs.length ≤ sizeLine := by rw [hl]; exact line5 o1
  refine Calls.call_function_entry PyProof.Rows.kind_sorted PyProof.Rows.plain_sorted PyProof.Rows.entry_sorted (PyProof.Rows.args_sorted1 _) ?_
  unfold Builtin.«sorted»
  refine wpAny_bind (m := checkCount "sorted" 1 1 _) (wpAny_pure ?_)
  refine wpAny_bind (col _ fun h' tk hk => ?_)
  have I1 : Inv X pins σ H { s with heap := h', toks := tk } := I.kept hk
  refine wpAny_bind (wpAny_newList ?_ hz)
  have hoL : (h'.push (seqObj "list" vs.toArray 0)).get? h'.objs.size = some (seqObj "list" vs.toArray 0) := Heap.get?_push_size _ rfl
  show wpAny _ _ _ _ _ { s with heap := h'.push (seqObj "list" vs.toArray 0), toks := tk }
  have er := each_reads I1 e o2
  have er2 : PySem.W.EachIs (fun v b => ∃ as, Reads (h'.push (seqObj "list" vs.toArray 0)) v (id b) as ∧ h'.objs.size ∉ as) vs ds := er.mono fun v b ⟨as, r⟩ => ⟨as, PyProof.Rows.Reads.keeps (fun b o z => Heap.get?_push_of_some _ z) r, fun hm => by
    obtain ⟨o, ho⟩ := PyProof.On.reads_mem_get r _ hm
    exact Nat.lt_irrefl _ (Heap.lt_size ho)⟩
  refine wpAny_bind (wpAny_holding (PySem.W.list_sort_data (s := { s with heap := h'.push (seqObj "list" vs.toArray 0), toks := tk }) (enc := id) hoL e er2 (by rw [List.map_id]; exact o3) (by rw [List.map_id]; exact o4) (line5 o1) (fun b hb => ?_) fun out ho eo => ?_))
  · have hb8 : okD 8 b = true := List.all_eq_true.mp o2 b hb
    have hd : b.depth ≤ 8 := by
      obtain ⟨i, hi⟩ := List.mem_iff_getElem?.mp hb
      obtain ⟨xs, hv, rl⟩ := of_each e
      obtain ⟨x, hx, rx⟩ := rl.get hi
      exact (rx.dp (K := X.K) 8 hb8).2.2
    show _ + _ + b.depth < cLine
    simp only [Around.in1]
    omega
  · obtain ⟨xs, vv, rl⟩ := of_each eo
    obtain ⟨e', he'⟩ := PyProof.Rows.sortedHeap_at (vs := vs) (out := out.toArray) hoL
    refine wpAny_pure ⟨_, rfl, .ref h'.objs.size, upd H h'.objs.size (.lst xs), I1.laid (t' := tk) (fun b u e => ?_) (Nat.le_refl _) (show ObjOk X.prog X.w _ _ _ (.lst xs) from ⟨?_, out, e', vv, he'⟩), rfl, q _ xs (I1.hok.fresh (Nat.le_refl _)) rl⟩
    · have hb : b < h'.objs.size := Heap.lt_size e
      rw [PyProof.Rows.sortedHeap_old (Nat.ne_of_lt hb) (by rw [size_push']; exact Nat.lt_succ_of_lt hb)]
      exact Heap.get?_push_of_some _ e
    · rw [vv.length, ho]; exact line5 o1
def srtQ (x : PyData) (K : List PyData → Prop) : Prop := match x with
  | .list ds => SrtOk ds ∧ K (srtD ds)
  | .tuple ds => SrtOk ds ∧ K (srtD ds)
  | .dict kds => SrtOk (kds.map (·.1)) ∧ K (srtD (kds.map (·.1)))
  | _ => False
def rSrt (K0 : PySem.W.Frag) : List V → Hp → VK → Prop := fun vs H Q => ∃ (Z : Zs) (v : V) (x : PyData) (K : List PyData → Prop), vs = [v] ∧ View Z H v x ∧ srtQ x K ∧ ∀ p xs ds, H p = none → RepL Z H xs ds → K ds → Q (.ref p) (upd H p (.lst xs))
theorem cr_srt {k : Nat} (hw : Wx X) (hr : Room k X.A) (hc : X.calm = true) : CallR X (.builtin "sorted") (rSrt X.K) := by
  intro pins s σ H vs us Q I r h
  obtain ⟨Z, v, x, K, rfl, vx, t, q⟩ := h
  obtain ⟨u, rfl, ru⟩ := vals1 r
  cases x with
  | list ds =>
    obtain ⟨a, xs, rfl, ha, rl⟩ := vx
    cases ru
    obtain ⟨its, rv, pl, hz⟩ := I.list (.of ha)
    exact sorted_any hr I (fun R hR => collect_list pl.isList (hR _ s.toks fun b o e => collect_keep b o e) (by rw [← rv.length]; exact hz)) (each_of rv rl) t.1 fun p xs' hp rl' => q p xs' _ hp rl' t.2
  | tuple ds =>
    obtain ⟨a, xs, rfl, ha, rl⟩ := vTup vx
    cases ru
    obtain ⟨its, rv, pl, hz⟩ := I.tuple ha.sq
    exact sorted_any hr I (fun R hR => collect_tupV pl (hR _ s.toks fun b o e => collect_keep b o e) (by rw [← rv.length]; exact hz)) (each_of rv rl) t.1 fun p xs' hp rl' => q p xs' _ hp rl' t.2
  | dict kds =>
    obtain ⟨a, kvs, rfl, ha, rk⟩ := vx
    cases ru
    obtain ⟨t1, t2⟩ := t
    obtain ⟨z, hs, ks, pr, dd, o, es, ep, ho, hx, hdt, he⟩ := dx_rd hw I ha rk.keyT
    have l1 : es.size = ks.length := size_of_entries he
    have l2 : kvs.length = ks.length := Paired.length pr
    have e : PySem.W.EachIs (RV Z H) (ks.map fun x => Value.ref x.2.1) (kds.map (·.1)) := by
      clear he l1 l2 t1 t2 z q ha dd
      induction pr generalizing kds with
      | nil => cases rk; exact .nil
      | @cons p0 q0 ps qs h t ih =>
        obtain ⟨e1, e2, e3⟩ := h
        cases rk with
        | cons r0 rq r rr =>
          refine .cons ⟨.ref _, congrArg Value.ref e2.symm, rq⟩ (ih _ rr)
    refine sorted_any hr I (fun R hR => PySem.W.kdu_collect (kdl_raw hs hx hdt) (I.ok.hd hc) ho (by omega) fun h' tk acc kp it => ?_) e t1 fun p xs' hp rl' => q p xs' _ hp rl' t2
    have ea : acc.toList = ks.map fun x => Value.ref x.2.1 := by
      have hl : acc.toList.length = ks.length := by rw [Array.length_toList, it.1]; exact l1
      apply List.ext_getElem?
      intro j
      rw [List.getElem?_map]
      cases hj : acc.toList[j]? with
      | none =>
        have h1 := List.getElem?_eq_none_iff.mp hj
        rw [List.getElem?_eq_none (by omega)]
        rfl
      | some v =>
        obtain ⟨en, hen, hv⟩ := it.2 j v (by rw [← Array.getElem?_toList]; exact hj)
        have qe := entry_at he j
        rw [hen] at qe
        cases hb : ks[j]? with
        | none =>
          rw [hb] at qe
          exact nomatch (show some en = none from qe)
        | some b =>
          rw [hb] at qe
          have e2 : en = entryOfKey (tupleKind (mixKind X.prog X.w)) b := Option.some.inj qe
          rw [hv, e2]
          rfl
    rw [ea]
    exact hR _ tk kp
  | _ => exact t.elim
variable {W : Wd} {e a b c : Expr} {es : List Expr} {pos p : Pos} {k : Nat}
def fSrt (Ta : DTA) : DTF := fun s Q => Ta s fun xs s1 => lookA s1 xs fun ys => match ys with
  | [.d x] => srtQ x fun ds => Q (.lst ds) s1
  | _ => False
theorem df_sorted {Ta : DTA} (hw : Wx X) (hr : Room k X.A) (hc : X.calm = true) (hg : Gl X "sorted") (hm : X.mg "sorted" = none) (ha : DA X W [e] Ta) (he : starEach [e] X.env = (false, eval e X.env) :: starEach [] X.env := by rfl) (hpl : (backTo pos (starEach [] X.env)).any (·.1) = false := by rfl) :
    DF X W (.Call (.Name "sorted" p) [e] [] pos) (fSrt Ta) := by
  refine (pe_callB (cr_srt hw hr hc) hg hm (by decide +kernel) ha (by decide) (by decide) he hpl).weak fun σ H Q' ⟨s, Q, E, t, k⟩ => ?_
  refine ⟨s, _, E, t, fun vs H1 xs s1 S1 r1 t1 => ?_⟩
  obtain ⟨ys, p, t2⟩ := lookA_view S1.env r1 t1
  split at t2
  · rename_i x
    obtain ⟨v, rfl, vx⟩ := argv1 p
    refine ⟨_, v, x, _, rfl, vx, t2, fun l zs ds hl rl kk => ?_⟩
    have x : Ext H1 (upd H1 l (.lst zs)) := .new hl
    have n := own_fresh S1.env hl
    exact k l _ (.lst ds) s1 (S1.trans (.ext S1.env x)) (S1.env.add x hl (by rw [upd_same]; trivial)) ⟨_, upd_same, rl.mono (fr_add x hl)⟩ (S1.fr.dom _ hl) n.1 n.2 kk
  · exact t2.elim
end
end DL
/-! LB6: len(set(..)), text methods, tuple.index, dict displays, pairs of new lists. -/
namespace SS
open PySem PySem.Spec PyProof.Rows
section
variable {prog : Program} {w : World} {A : Around} {R : Result → Shared → Prop} {I : Addr} {fp wr : List Addr} {G : Array GenState → Array GenState → Prop} {n : Nat} {P : Nat → Value → Prop} {St : Nat → Shared → Prop}
theorem loopStrN (W : WalksS prog w A.in1 I fp wr G n P St) (S : Addr) (hSf : S ∉ fp) (xs : List Str) (hsz : xs.length = n) (hnd : xs.Nodup) (hrm : n + 1 < scanBound)
    (hval : ∀ i v, P i v → ∃ t, v = .str (xs.getD i Str.empty) t) :
    ∀ (k i : Nat) (s : Shared), n - i = k → i ≤ n → St i s →
      s.heap.SetOf (PySem.strKind prog w) S (fun k' => (xs.take i).any (· == k')) i →
      (∀ s', Moved (S :: wr) G s s' → s'.heap.SetOf (PySem.strKind prog w) S (fun k' => (xs.take n).any (· == k')) n → R (.ok (.ret .none)) s') →
      codeAny (model prog w) A (.builtin "set.update.loop" ⟨[.ref S, .ref I], []⟩) R s := by
  have hSw : S ∉ wr := fun h => hSf (W.sub _ h)
  have hsub : ∀ b ∈ wr, b ∈ S :: wr := fun b hb => List.mem_cons_of_mem _ hb
  intro k
  induction k with
  | zero =>
    intro i s hk hi hst hS hR
    have hin : i = n := by omega
    subst hin
    refine codeAny_builtin PyProof.Rows.F.entry_set_update_loop ?_
    rw [Around.under_plainId PyProof.Rows.F.plain_set_update_loop _]
    show wpAny _ A.in1 (pyNext (.ref I) >>= _) _ _ s
    refine wpAny_bind (W.done s _ _ hst fun s' hm => ?_)
    show wpAny _ A.in1 (ret Value.none) _ _ s'
    exact wpAny_pure (hR s' (hm.mono hsub) (by
      obtain ⟨o, es, ep, t, ho, rest⟩ := hS
      exact ⟨o, es, ep, t, hm.heap S _ hSw ho, rest⟩))
  | succ k ih =>
    intro i s hk hi hst hS hR
    have hlt : i < n := by omega
    refine codeAny_builtin PyProof.Rows.F.entry_set_update_loop ?_
    rw [Around.under_plainId PyProof.Rows.F.plain_set_update_loop _]
    show wpAny _ A.in1 (pyNext (.ref I) >>= _) _ _ s
    refine wpAny_bind (W.item i s _ _ hlt hst fun v s' hP hst' hm => ?_)
    obtain ⟨t, rfl⟩ := hval i v hP
    have hS' : s'.heap.SetOf (PySem.strKind prog w) S (fun k' => (xs.take i).any (· == k')) i := by
      obtain ⟨o, es, ep, tb, ho, rest⟩ := hS
      exact ⟨o, es, ep, tb, hm.heap S _ hSw ho, rest⟩
    show wpAny _ A.in1 (holding [Value.str (xs.getD i Str.empty) t] (setAdd S (.str (xs.getD i Str.empty) t)) >>= _) _ _ s'
    refine wpAny_bind (wpAny_holding ?_)
    unfold setAdd
    refine wpAny_holding ?_
    refine wpAny_bind ((PySem.strKind prog w).pyHash (k := xs.getD i Str.empty) (strKind_is _ _ _ _) ?_)
    refine wpAny_setAddHashed_of (knd := PySem.strKind prog w) (s := { s' with toks := s'.toks + 1 }) (strKind_is _ _ _ _) rfl hS' (by omega) fun h' hsb hS2 => ?_
    have hSi : h'.SetOf (PySem.strKind prog w) S (fun k' => (xs.take (i + 1)).any (· == k')) (i + 1) := by
      have hil : i < xs.length := by omega
      have eg : xs.getD i Str.empty = xs[i] := by rw [List.getD_eq_getElem?_getD, List.getElem?_eq_getElem hil]; rfl
      have et : xs.take (i + 1) = xs.take i ++ [xs[i]] := by rw [List.take_add_one, List.getElem?_eq_getElem hil]; rfl
      have no : ((xs.take i).any (· == xs.getD i Str.empty)) = false := by
        rw [eg]
        cases hb : (xs.take i).any (· == xs[i]) with
        | false => rfl
        | true =>
          obtain ⟨y, hy, ey⟩ := List.any_eq_true.mp hb
          have ey2 : y = xs[i] := eq_of_beq ey
          rw [ey2] at hy
          obtain ⟨j, hj⟩ := List.mem_iff_getElem?.mp hy
          rw [List.getElem?_take] at hj
          by_cases hji : j < i
          · rw [if_pos hji] at hj
            obtain ⟨hjl, ej⟩ := List.getElem?_eq_some_iff.mp hj
            exact absurd ej (List.pairwise_iff_getElem.mp hnd j i hjl hil hji)
          · rw [if_neg hji] at hj; cases hj
      rw [no] at hS2
      refine SetOf_congr hS2 (fun k' => ?_) (by simp)
      rw [et, List.any_append, eg]
      congr 1
      by_cases e : k' = xs[i]
      · rw [e]; simp
      · have hb : (xs[i] == k') = false := by simpa [beq_iff_eq] using (fun h' : xs[i] = k' => e h'.symm)
        simp [hb, e]
    refine wpAny_pure ⟨plainId_quiet PyProof.Rows.F.plain_set_update_loop _, ih (i + 1) _ (by omega) hlt (W.frame _ s' _ _ hst' (Nat.le_succ _) fun b hb o e => ?_) hSi fun s'' hm'' hS'' => ?_⟩
    · rw [hsb.2 b (fun h : b = S => hSf (by rw [← h]; exact hb))]; exact e
    · refine hR s'' (Moved.trans W.gtrans ((hm.mono hsub).then_heap (Nat.le_succ _) fun b o hb e => ?_) hm'') hS''
      rw [hsb.2 b (fun h : b = S => hb (by rw [h]; exact List.mem_cons_self))]; exact e
end
section
variable {prog : Program} {w : World} {A : Around} {E : Value → Shared → Prop} {s : Shared}
set_option maxHeartbeats 3200000 in
theorem call_set_tupleN {l : Addr} {items : Array Value} {xs : List Str} {Q : Value → Shared → Prop}
    (hh : A.handled = none) (hl : s.heap.IsTuple l items) (hi : PyProof.Rows.StrsAre items.toList xs) (hnd : xs.Nodup) (hrm : xs.length + 1 < scanBound)
    (h : ∀ (h' : Heap) (tk : Nat), h'.SetOf (PySem.strKind prog w) s.heap.objs.size (fun k' => (xs.take items.size).any (· == k')) items.size →
      (∀ b o, b < s.heap.objs.size → s.heap.get? b = some o → h'.get? b = some o) → Q (.ref s.heap.objs.size) { s with heap := h', toks := tk }) :
    wpAny (model prog w) A (call (.type "set") [.ref l]) Q E s := by
  obtain ⟨c, tl, hmro⟩ := PySem.F.called_set.mro
  have hmade := PySem.F.called_set.made
  have hsub := PySem.F.called_set.sub
  refine wpAny_call (codeAny_of_tree ?_)
  show wpAny _ _ (callAny (.type "set") _) _ _ _
  refine wpAny_pure ⟨Code.quiet_builtin _ (by decide +kernel), codeAny_builtin PySem.F.entry_type_call ?_⟩
  rw [Around.under_plain (weight_type_call_type "set" [.ref l] []) rfl]
  have h1 := PySem.F.called_set.notType
  have h2 := PySem.F.called_set.canCreate
  have hct := PySem.F.typeCall_set_1 (.ref l)
  repeat (any_goals (first | assumption | wp_step))

  refine codeAny_mono (code_set_new_1 (.ref l) (E := E) (Q₁ := fun obj s₁ => ∃ led : Bool, obj = .ref s.heap.objs.size ∧ s₁ = { s with heap := s.heap.push { cls := .type "set", dict := none, data := .set #[] 0 (.fresh 0 0 led) } }) fun led => ⟨led, rfl, rfl⟩) fun r s₁ hr => ?_
  cases r with
  | error e => exact hr
  | ok fl =>
    cases fl with
    | ret obj =>
      obtain ⟨led, rfl, rfl⟩ := hr
      have hS : (s.heap.push { cls := .type "set", dict := none, data := .set #[] 0 (.fresh 0 0 led) }).get? s.heap.objs.size = some { cls := .type "set", dict := none, data := .set #[] 0 (.fresh 0 0 led) } := Heap.get?_push_size _ rfl
      have hT : Shared.TypeIs { s with heap := s.heap.push { cls := .type "set", dict := none, data := .set #[] 0 (.fresh 0 0 led) } } (.ref s.heap.objs.size) "set" := ⟨_, hS, rfl⟩
      have hli := PySem.F.called_set.init.lookup
      have hbi := PySem.F.called_set.init.bind (.ref s.heap.objs.size)
      repeat (any_goals (first | assumption | wp_step))

      refine codeAny_mono (codeAny_call_builtin (R := wants (fun r s₂ => r = .none ∧ ∃ h' tk, s₂ = { s with heap := h', toks := tk } ∧
          h'.SetOf (PySem.strKind prog w) s.heap.objs.size (fun k' => (xs.take items.size).any (· == k')) items.size ∧
          (∀ b o, b < s.heap.objs.size → s.heap.get? b = some o → h'.get? b = some o)) E) PySem.F.called_set.init.plain PySem.F.entry_set_init (check_set_init_1 hT ?_)) fun r₂ s₂ hr₂ => ?_
      · obtain ⟨ol, hol, hcl, nl, hdl⟩ := hl
        obtain ⟨ocls, odict, odata, oslots⟩ := ol
        simp only at hcl hdl
        subst hcl; subst hdl
        have hol' : (s.heap.push { cls := .type "set", dict := none, data := .set #[] 0 (.fresh 0 0 led) }).get? l = some { cls := .type "tuple", dict := odict, data := .seq items nl, slots := oslots } := Heap.get?_push_of_some _ hol
        have hsls := PySem.F.sub_tuple_set
        have hslf := PySem.F.sub_tuple_frozenset
        have hne : (Value.type "tuple" == Value.type "dict") = false := by decide
        have hl1 : (s.heap.push { cls := .type "set", dict := none, data := .set #[] 0 (.fresh 0 0 led) }).IsTuple l items := ⟨_, hol', rfl, nl, rfl⟩
        unfold Builtin.«set.__init__» noKeywords Builtin.Frozenset.updateFrom
        generalize hPI : pyIter = PI
        wp_walk
        subst hPI

        refine wpAny_pyIter_tuple hl1 ?_
        refine wpAny_bind (wpAny_runValue ?_)
        have hlS : l < s.heap.objs.size := Heap.lt_size hol
        have hh3 : A.in1.in1.in1.handled = none := by simp [hh]
        have hneI : l ≠ (s.heap.push { cls := .type "set", dict := none, data := .set #[] 0 (.fresh 0 0 led) }).objs.size := by
          rw [Heap.size_push]; exact Nat.ne_of_lt (Nat.lt_succ_of_lt hlS)
        have hSf : s.heap.objs.size ∉ [(s.heap.push { cls := .type "set", dict := none, data := .set #[] 0 (.fresh 0 0 led) }).objs.size, l] := by
          rw [Heap.size_push]; simp only [List.mem_cons, List.mem_singleton, List.not_mem_nil, or_false, not_or]
          exact ⟨Nat.ne_of_lt (Nat.lt_succ_self _), Nat.ne_of_gt hlS⟩
        have hsz : xs.length = items.size := by rw [← StrsAre.len_eq hi, Array.length_toList]
        have hval : ∀ (i : Nat) (v : Value), items[i]? = some v → ∃ t, v = .str (xs.getD i Str.empty) t := fun i v hv => strs_at hi i v (by rw [Array.getElem?_toList]; exact hv)
        refine loopStrN ((Walks.tuple hh3 _ l hneI items).toS) s.heap.objs.size
          hSf xs hsz hnd (by rw [← hsz]; exact hrm) hval (items.size - 0) 0 _ (by omega) (Nat.zero_le _)
          ⟨⟨_, Heap.get?_push_size _ rfl, rfl, rfl⟩, (hl1.push _)⟩ ?hS0 ?hR
        case hS0 =>
          have hget : ((s.heap.push { cls := .type "set", dict := none, data := .set #[] 0 (.fresh 0 0 led) }).push { cls := .type "tuple_iterator", data := .fields #[.ref l, .int 0 0] }).get? s.heap.objs.size
              = some { cls := .type "set", dict := none, data := .set #[] 0 (.fresh 0 0 led) } := Heap.get?_push_of_some _ hS
          exact PyProof.Rows.SetOf_congr ((PyProof.Rows.setObjOf_fresh (knd := PySem.strKind prog w) led).setOf hget (by unfold scanBound; omega)) (fun _ => rfl) rfl
        case hR =>
          intro s' hm hS'
          obtain ⟨h', g', d', tk', os'⟩ := s'
          have eg : g' = s.gens := hm.gens
          have ed : d' = s.drawn := hm.drawn
          have eo : os' = s.os := hm.os
          subst eg; subst ed; subst eo
          show wpAny _ _ _ _ _ _
          refine wpAny_pure ?_
          show wpAny _ _ (ret Value.none) _ _ _
          refine wpAny_pure ⟨rfl, h', tk', rfl, hS', fun b o hb e => ?_⟩
          have hb1 : b ≠ s.heap.objs.size := Nat.ne_of_lt hb
          have hb2 : b ≠ (s.heap.push { cls := .type "set", dict := none, data := .set #[] 0 (.fresh 0 0 led) }).objs.size := by
            rw [Heap.size_push]; exact Nat.ne_of_lt (Nat.lt_succ_of_lt hb)
          exact hm.heap b o (by simp only [List.mem_cons, List.mem_singleton, List.not_mem_nil, or_false, not_or]; exact ⟨hb1, hb2⟩) (Heap.get?_push_of_some _ (Heap.get?_push_of_some _ e))

      · cases r₂ with
        | error e => exact hr₂
        | ok fl₂ =>
          cases fl₂ with
          | ret r =>
            obtain ⟨rfl, h', tk, rfl, hS', hk'⟩ := hr₂
            repeat (any_goals (first | assumption | wp_step))
            exact h _ _ hS' hk'
          | _ => exact hr₂.elim
    | _ => exact hr.elim
end
end SS
namespace DL
open PySem PySem.Spec PyProof.Rows L2
variable [TheW]
section
variable {X : Cx}
def tLenSetN (K : PySem.W.Frag) (ta : TE) : TE := fun σ H Q => ta σ H fun x H1 => ∃ l, ∃ xs : List Str, x = .ref l ∧ SqT K H1 l (xs.map V.str) ∧ xs.Nodup ∧ xs.length ≤ 1000 ∧ Q (.int xs.length) H1
theorem pe_lenSetN {a : Expr} {ta : TE} {p p2 q pos : Pos} (hc : X.calm = true) (hg : Gl X "len") (hm : X.mg "len" = none) (hg2 : Gl X "set") (hm2 : X.mg "set" = none) (ha : PE X a ta)
    (na : starEach [a] X.env = (false, eval a X.env) :: starEach [] X.env := by rfl) : PE X (.Call (.Name "len" p) [.Call (.Name "set" p2) [a] [] q] [] pos) (tLenSetN X.K ta) := by
  refine ⟨fun pins s σ H Q I h => ?_⟩
  refine Call_ (ld_blt I hg hm boot_len ?_)
  refine PyProof.Rows.callWith_builtin1 (PyProof.Rows.args_cons ?_ rfl) rfl rfl
  refine Call_ (ld_blt I hg2 hm2 boot_set ?_)
  refine PyProof.Rows.callWith_type1 (PyProof.Rows.args_cons (thn (ha.run pins s σ H _ I h) fun v s1 ⟨x, H1, I1, r1, q1⟩ => PyProof.Rows.args_nil ?_) na) na rfl
  obtain ⟨l, xs, rfl, hq, hnd, h1, q1⟩ := q1
  cases r1
  have sb : xs.length + 1 < scanBound := by unfold scanBound; omega
  obtain ⟨its, r, pl, hz⟩ := I1.tuple hq
  refine SS.call_set_tupleN (I1.ok.hd hc) pl (by simpa using strsAre_of r) hnd sb fun h' tk hS hk => ?_
  refine PyProof.Rows.args_nil ?_
  have hl : its.toArray.size = xs.length := by rw [List.size_toArray, ← r.length, List.length_map]
  rw [hl] at hS
  obtain ⟨o, es, ep, t, ho, hex, hd, _, _, _, hf, hn⟩ := hS
  have I2 : Inv X pins σ H1 { s1 with heap := h', toks := tk } := I1.kept fun b o e => hk b o (Heap.lt_size e) e
  exact call_len_set ho hex hd hf (by rw [hn]; omega) ⟨.int xs.length, H1, I2.tok _, ⟨_, by rw [hn]⟩, q1⟩
/-- the texts of a list of data -/
def asStrs : List PyData → Option (List Str)
  | [] => some []
  | .str i :: r => (asStrs r).map (i :: ·)
  | _ => none
theorem asStrs_map (xs : List Str) : asStrs (xs.map .str) = some xs := by
  induction xs with
  | nil => rfl
  | cons x xs ih => rw [List.map_cons, asStrs, ih]; rfl
theorem strs_rep {Z : Zs} {H : Hp} : ∀ {ds : List PyData} {ns : List Str} {vs : List V}, RepL Z H vs ds → asStrs ds = some ns → vs = ns.map V.str
  | _, _, _, .nil, h => by cases h; rfl
  | _, _, _, .cons (.str i _) t, h => by
    unfold asStrs at h
    cases q : asStrs _ with
    | none => rw [q] at h; cases h
    | some r => rw [q] at h; cases h; rw [strs_rep t q]; rfl
  | _, _, _, .cons .non t, h => by cases h
  | _, _, _, .cons (.bl _) t, h => by cases h
  | _, _, _, .cons (.int _) t, h => by cases h
  | _, _, _, .cons (.lst _ _ _) t, h => by cases h
  | _, _, _, .cons (.tup _ _) t, h => by cases h
  | _, _, _, .cons (.dct _ _) t, h => by cases h
variable {W : Wd} {e a b c o : Expr} {es : List Expr} {pos p q : Pos} {k : Nat}
def dLenSet (T : DTE) : DTE := fun s Q => T s fun x s1 => match x with
  | .d (.tuple ds) => ∃ xs, asStrs ds = some xs ∧ xs.Nodup ∧ xs.length ≤ 1000 ∧ Q (.d (.int xs.length)) s1
  | _ => False
theorem de_lenSet {T : DTE} {p2 : Pos} (hc : X.calm = true) (hg : Gl X "len") (hm : X.mg "len" = none) (hg2 : Gl X "set") (hm2 : X.mg "set" = none) (ha : DE X W a T) (na : starEach [a] X.env = (false, eval a X.env) :: starEach [] X.env := by rfl) :
    DE X W (.Call (.Name "len" p) [.Call (.Name "set" p2) [a] [] q] [] pos) (dLenSet T) := by
  refine (pe_lenSetN hc hg hm hg2 hm2 ha na).weak fun σ H Q' ⟨s, Q, E, t, k⟩ => ⟨s, _, E, t, fun v H1 x s1 S1 r1 t1 => ?_⟩
  split at t1
  · rename_i ds
    obtain ⟨xs, hx, t1⟩ := t1
    · have r1 : Rep (Zo W.Z (OwnA σ s1)) H1 v (.tuple ds) := r1
      cases r1 with
      | tup ha rl =>
        rw [strs_rep rl hx] at ha
        exact ⟨_, xs, rfl, ha.sq, t1.1, t1.2.1, k _ H1 (.d (.int xs.length)) s1 S1 (.int _) t1.2.2⟩
  · exact t1.elim
end
end DL
/-! LB7: text methods, tuple.index, dict displays, pairs of new lists. -/
namespace DL
open PySem PySem.Spec PyProof.Rows L2
variable [TheW]
section
variable {X : Cx} {W : Wd} {e a b c o : Expr} {es : List Expr} {pos p q : Pos} {k : Nat}
/-! text.strip(chars), text.join(list of texts) -/
def dStrip (To Te : DTE) : DTE := fun s Q => To s fun x s1 => Te s1 fun y s2 => match x, y with
  | .d (.str a), .d (.str b) => a.length ≤ 1000 ∧ PyData.strOk (Txt.stripChars a b) = true ∧ Q (.d (.str (Txt.stripChars a b))) s2
  | _, _ => False
theorem rep_str {Z : Zs} {H : Hp} {v : V} {a : Str} (h : Rep Z H v (.str a)) : v = .str a := by cases h; rfl
def isStrD (x : DV) : Prop := ∃ a, x = .d (.str a)
theorem de_strip {apos : Pos} {To Te : DTE} (ho : DE X W o To) (he : DE X W e Te) (hs : starEach [e] X.env = [(false, eval e X.env)] := by rfl) (hbase : attributeBase o "strip" X.env (eval o X.env) = eval o X.env := by rfl) (hline : (apos.endLine == pos.line) = true := by rfl) :
    DE X W (.Call (.Attribute o "strip" apos) [e] [] pos) (fun s Q => dStrip (fun s K => To s fun x s1 => isStrD x ∧ K x s1) Te s Q) := by
  refine (pe_m1 F.slot_str_strip F.type_str_strip mt_stripChars ho he hs hbase hline).weak fun σ H Q' ⟨s, Q, E, t, k⟩ => ?_
  refine ⟨s, _, E, t, fun v H1 x s1 S1 r1 ⟨⟨a, hx⟩, t1⟩ => ?_⟩
  subst hx
  have r1 : Rep (Zo W.Z (OwnA σ s1)) H1 v (.str a) := r1
  rw [rep_str r1]
  refine ⟨⟨a, rfl⟩, s1, _, S1.env, t1, fun u H2 y s2 S2 r2 t2 => ?_⟩
  split at t2
  · rename_i a' b e1
    cases e1
    have r2 : Rep (Zo W.Z (OwnA σ s2)) H2 u (.str b) := r2
    rw [rep_str r2]
    exact ⟨_, b, rfl, rfl, line1000 t2.1, k _ H2 (.d (.str _)) s2 (S1.trans S2) (.str _ t2.2.1) t2.2.2⟩
  · exact t2.elim
def dJoin (To Te : DTE) : DTE := fun s Q => To s fun x s1 => isStrD x ∧ Te s1 fun y s2 => match x, y with
  | .d (.str a), .d (.list ds) => ∃ ys, asStrs ds = some ys ∧ (ys.map (·.length)).sum + ys.length * a.length ≤ 1000 ∧ PyData.strOk (Txt.join a ys) = true ∧ Q (.d (.str (Txt.join a ys))) s2
  | _, _ => False
theorem de_join {apos : Pos} {To Te : DTE} (ho : DE X W o To) (he : DE X W e Te) (hs : starEach [e] X.env = [(false, eval e X.env)] := by rfl) (hbase : attributeBase o "join" X.env (eval o X.env) = eval o X.env := by rfl) (hline : (apos.endLine == pos.line) = true := by rfl) :
    DE X W (.Call (.Attribute o "join" apos) [e] [] pos) (dJoin To Te) := by
  refine (pe_join ho he hs hbase hline).weak fun σ H Q' ⟨s, Q, E, t, k⟩ => ?_
  refine ⟨s, _, E, t, fun v H1 x s1 S1 r1 ⟨⟨a, hx⟩, t1⟩ => ?_⟩
  subst hx
  have r1 : Rep (Zo W.Z (OwnA σ s1)) H1 v (.str a) := r1
  rw [rep_str r1]
  refine ⟨⟨a, rfl⟩, s1, _, S1.env, t1, fun u H2 y s2 S2 r2 t2 => ?_⟩
  split at t2
  · rename_i a' ds e1
    cases e1
    obtain ⟨ys, hy, t2⟩ := t2
    · have r2 : Rep (Zo W.Z (OwnA σ s2)) H2 u (.list ds) := r2
      cases r2 with
      | lst h1 h2 h3 =>
        rw [strs_rep h3 hy] at h1
        exact ⟨a, _, ys, rfl, rfl, .inl (.of h1), Nat.le_trans t2.1 (by decide), k _ H2 (.d (.str _)) s2 (S1.trans S2) (.str _ t2.2.1) t2.2.2⟩
  · exact t2.elim
/-! t.index(x), t a tuple of texts -/
def tTM (K : PySem.W.Frag) (r : V → List V → Hp → VK → Prop) (to te : TE) : TE := fun σ H Q => to σ H fun x H1 => (∃ a vs, x = .ref a ∧ IsT H1 a vs) ∧ te σ H1 fun y H2 => r x [y] H2 Q
theorem isT_dict {pins : List (Addr × Obj)} {σ : L2.St} {H : Hp} {s : Shared} {a : Addr} {xs : List V} (I : Inv X pins σ H s) (h : IsT H a xs) : s.TypeIs (.ref a) "tuple" ∧ ∀ b, Value.ref a = .ref b → ∃ ob, s.heap.get? b = some ob ∧ ob.dict = none := by
  obtain ⟨o, e, d⟩ := h
  obtain ⟨g, z, its, r, oo, h1, h2, n, h3⟩ := I.hok a _ e
  rw [g] at h1
  cases h1
  exact ⟨⟨o, g, h2⟩, fun b eb => by cases eb; exact ⟨o, g, d⟩⟩
theorem pe_tm {id : String} {name : Str} {apos : Pos} {r : V → List V → Hp → VK → Prop} {to te : TE} (slot : Slot "tuple" name id) (ty : typeOf (.builtin id) = pure (.type "method_descriptor")) (rule : MtR X id r) (ho : PE X o to) (he : PE X e te)
    (hs : starEach [e] X.env = [(false, eval e X.env)] := by rfl) (hbase : attributeBase o name X.env (eval o X.env) = eval o X.env := by rfl) (hline : (apos.endLine == pos.line) = true := by rfl) :
    PE X (.Call (.Attribute o name apos) [e] [] pos) (tTM X.K r to te) := by
  refine ⟨fun pins s σ H Q I h => ?_⟩
  refine PySem.Call_method1 hbase hs hline (thn (ho.run pins s σ H _ I h) fun v s1 ⟨x, H1, I1, r1, q1⟩ => ?_)
  obtain ⟨⟨a, vs, rfl, ha⟩, q1⟩ := q1
  cases r1
  obtain ⟨h1, h2⟩ := isT_dict I1 ha
  refine ⟨"tuple", _, F.plainAttrs_tuple, slot, ty, h1, h2, Calls.callWith_builtin rfl (Calls.evalArgs_plain (Calls.spliced_cons ?_))⟩
  exact thn (he.run pins s1 σ H1 _ I1 q1) fun u s2 ⟨y, H2, I2, r2, q2⟩ => Calls.spliced_nil (rule pins s2 σ H2 _ [y] _ [u] Q I2 (show RelV (.ref a) (.ref a) from rfl) (.cons r2 .nil) q2)
def isTupD (x : DV) : Prop := ∃ ds, x = .d (.tuple ds)
def firstIx (xs : List Str) (z : Str) : Option Nat := xs.findIdx? (· == z)
def dTIx (To Te : DTE) : DTE := fun s Q => To s fun x s1 => isTupD x ∧ Te s1 fun y s2 => match x, y with
  | .d (.tuple ds), .d (.str z) => ∃ xs j, asStrs ds = some xs ∧ xs.findIdx? (· == z) = some j ∧ Q (.d (.int (j : Nat))) s2
  | _, _ => False
theorem de_tindex {apos : Pos} {To Te : DTE} (ho : DE X W o To) (he : DE X W e Te) (hs : starEach [e] X.env = [(false, eval e X.env)] := by rfl) (hbase : attributeBase o "index" X.env (eval o X.env) = eval o X.env := by rfl) (hline : (apos.endLine == pos.line) = true := by rfl) :
    DE X W (.Call (.Attribute o "index" apos) [e] [] pos) (dTIx To Te) := by
  refine (pe_tm F.slot_tuple_index F.type_tuple_index mt_tup_index ho he hs hbase hline).weak fun σ H Q' ⟨s, Q, E, t, k⟩ => ?_
  refine ⟨s, _, E, t, fun v H1 x s1 S1 r1 ⟨⟨ds, hx⟩, t1⟩ => ?_⟩
  subst hx
  have r1 : Rep (Zo W.Z (OwnA σ s1)) H1 v (.tuple ds) := r1
  cases r1 with
  | @tup a vs _ ha rl =>
    refine ⟨⟨_, _, rfl, ha⟩, s1, _, S1.env, t1, fun u H2 y s2 S2 r2 t2 => ?_⟩
    have f := S1.env.fr S2.fr
    split at t2
    · rename_i ds' z e1
      cases e1
      obtain ⟨xs, j, hxs, hj, t2⟩ := t2
      · · have r2 : Rep (Zo W.Z (OwnA σ s2)) H2 u (.str z) := r2
          rw [rep_str r2]
          have ha2 := ha.mono f
          rw [strs_rep rl hxs] at ha2
          obtain ⟨h1, h2, h3⟩ := List.findIdx?_eq_some_iff_getElem.mp hj
          refine ⟨a, xs, z, j, rfl, rfl, ha2.sq, ?_, fun m hm e => ?_, k _ H2 (.d (.int (j : Nat))) s2 (S1.trans S2) (Rep.int _) t2⟩
          · rw [List.getElem?_eq_getElem h1]; exact congrArg some (eq_of_beq h2)
          · have h4 := h3 m hm
            have hm' : m < xs.length := Nat.lt_trans hm h1
            rw [List.getElem?_eq_getElem hm'] at e
            rw [Option.some.inj e] at h4
            simp at h4
    · exact t2.elim

/-! new dicts, list + list, pairs of new things -/
def fDT : DTF := fun s Q => Q (.dct []) s
def fDK : DTF := fun s Q => Q (.dK []) s
theorem fresh_core {σ : L2.St} {H H1 : Hp} {s s1 : DSt} {ob : HO} {l : Addr} {o : OD} {Q : OD → DSt → Prop} {Q' : VK} (S1 : Stp W σ H s σ H1 s1) (hl : H1 l = none) (mu : Mut (some ob)) (ro : OwnR (Zo (W.add l).Z (OwnA σ s1)) (upd H1 l ob) l o)
    (k : ∀ p H' o s', Stp W σ H s σ H' s' → EnvR (W.add p) σ H' s' → OwnR (Zo (W.add p).Z (OwnA σ s')) H' p o → H p = none → ¬ W.Z p → ¬ OwnA σ s' p → Q o s' → Q' (.ref p) H') (q : Q o s1) : Q' (.ref l) (upd H1 l ob) := by
  have x : Ext H1 (upd H1 l ob) := .new hl
  have n := own_fresh S1.env hl
  exact k l _ o s1 (S1.trans (.ext S1.env x)) (S1.env.add x hl (by rw [upd_same]; exact mu)) ro (S1.fr.dom _ hl) n.1 n.2 q
theorem df_dT : DF X W (.Dict [] [] pos) fDT := pe_dnewX.weak fun σ H Q' ⟨s, Q, E, t, k⟩ => fun p hp => fresh_core (o := .dct []) (.refl E) hp trivial ⟨[], upd_same, .nil⟩ k t
theorem df_dK : DF X W (.Dict [] [] pos) fDK := pe_dnewK.weak fun σ H Q' ⟨s, Q, E, t, k⟩ => fun p hp => fresh_core (o := .dK []) (.refl E) hp trivial ⟨[], upd_same, trivial⟩ k t
def fAdd (Ta Tb : DTE) : DTF := fun s Q => Ta s fun x s1 => Tb s1 fun y s2 => look s2 x fun dx => look s2 y fun dy => match dx, dy with
  | .list xs, .list ys => xs.length + ys.length ≤ 100000 ∧ Q (.lst (xs ++ ys)) s2
  | _, _ => False
theorem df_add {Ta Tb : DTE} (ha : DE X W a Ta) (hb : DE X W b Tb) : DF X W (.BinOp a .Add b pos) (fAdd Ta Tb) := by
  refine (pe_op op_cat ha hb).weak fun σ H Q' ⟨s, Q, E, t, k⟩ => ?_
  refine ⟨s, _, E, t, fun v H1 x s1 S1 r1 t1 => ⟨s1, _, S1.env, t1, fun u H2 y s2 S2 r2 t2 => ?_⟩⟩
  have r1' := r1.keep S1.env S2.fr
  obtain ⟨dx, v1, t3⟩ := look_view S2.env r1' t2
  obtain ⟨dy, v2, t4⟩ := look_view S2.env r2 t3
  split at t4
  · rename_i xs ys
    obtain ⟨a, vs, rfl, ha, ra⟩ := v1
    obtain ⟨b, ws, rfl, hb, rb⟩ := v2
    exact ⟨a, b, vs, ws, rfl, rfl, ha, hb, by rw [ra.length, rb.length]; exact line5 t4.1, fun p hp => fresh_core (o := .lst (xs ++ ys)) (S1.trans S2) hp trivial ⟨_, upd_same, (ra.append rb).mono (fr_add (.new hp) hp)⟩ k t4.2⟩
  · exact t4.elim
/-- a, b = new, new -/
def dParO (i j : Nat) (Ta Tb : DTF) : DTS := fun D s => Ta s fun o s1 => Tb s1 fun u s2 => D.nx ((s2.set i (.own o)).set j (.own u))
theorem ds_parO {i j : Nat} {x y : Str} {Ta Tb : DTF} {px py pt : Pos} {kt k2 : Nat} {pt2 : Pos} (hc : X.calm = true) (hN : X.N.Nodup) (hi : X.N[i]? = some x) (hj : X.N[j]? = some y) (hij : i ≠ j)
    (hx : X.env.scope.names.lookup x = some .local) (hy : X.env.scope.names.lookup y = some .local) (ha : DF X W a Ta) (hb : ∀ p, DF X (W.add p) b Tb)
    (hw : swappedStores [.Tuple [.Name x px, .Name y py] kt pt] (.Tuple [a, b] k2 pt2) X.env = pure (some [x, y]))
    (hs : swapsWithSole [.Tuple [.Name x px, .Name y py] kt pt] (.Tuple [a, b] k2 pt2) pos.line X.env = pure false := by rfl)
    (h1 : starEach [a, b] X.env = (false, eval a X.env) :: starEach [b] X.env := by rfl) (h2 : starEach [b] X.env = (false, eval b X.env) :: starEach [] X.env := by rfl) :
    DS1 X W (.Assign [.Tuple [.Name x px, .Name y py] kt pt] (.Tuple [a, b] k2 pt2) pos) (dParO i j Ta Tb) := by
  have hb' : PE X b (fun σ H Q => ∃ p, liftF (W.add p) Tb σ H Q) := ⟨fun pins s1 σ H Q I ⟨p, q⟩ => (hb p).run pins s1 σ H Q I q⟩
  refine (ps_par hc hN hi hj hij hx hy (pa_cons ha (pa_cons hb' pa_nil h2) h1) hw hs).weakI fun D' σ H hl ⟨s, D, E, t, kn, _⟩ => ?_
  refine ⟨s, _, E, t, fun p H1 o s1 S1 E1 r hp n1 n2 t1 => ⟨p, s1, _, E1, t1, fun q H2 u s2 S2 E2 r2 hq m1 m2 t2 => ?_⟩⟩
  refine ⟨_, _, rfl, ?_⟩
  have li := ix_lt hl hi
  have lj := ix_lt hl hj
  have opn : ¬ OwnA σ s1 p := n2
  have hpq : p ≠ q := fun e => m1 (.inr e.symm)
  have H2p : H2 p = H1 p := by
    cases z : H1 p with
    | none => exact absurd z (mut_ne r.isMut)
    | some ob => exact S2.fr.keep p ob z (fun f => n1 (W.FZ p f)) opn
  have r' : OwnR (Zo ((W.add p).add q).Z (OwnA σ s2)) H2 p o := by
    refine r.mono ⟨fun a xs h nn => ?_, fun a xs h => (E1.fr S2.fr).tup a xs h, fun a o u h => (E1.fr S2.fr).frz a o u h⟩ H2p
    obtain ⟨a1, a2⟩ := (E1.fr S2.fr).lst a xs h nn
    refine ⟨a1, fun z => ?_⟩
    rcases z with (z | z) | z
    · exact a2 (.inl z)
    · rw [z, hq] at h; cases h
    · exact a2 (.inr z)
  -- store q, then p
  have F2 : EnvR (W.add p) (σ.set j (some (.ref q))) H2 (s2.set j (.own u)) := E2.setOwn lj r2 m1
  have r'' : OwnR (Zo (W.add p).Z (OwnA (σ.set j (some (.ref q))) (s2.set j (.own u)))) H2 p o := by
    refine r'.mono (Fr.shrink fun a z => ?_) rfl
    rcases z with z | z
    · exact .inl (.inl z)
    · rcases ownA_setOwn z with z | z
      · exact .inr z
      · exact .inl (.inr z)
  have F3 := F2.setOwn (i := i) (by simpa using li) r'' n1
  have e1 : (σ.set j (some (V.ref q))).set i (some (V.ref p)) = (σ.set i (some (V.ref p))).set j (some (V.ref q)) := List.set_comm _ _ (Ne.symm hij)
  have e2 : (s2.set j (.own u)).set i (.own o) = (s2.set i (.own o)).set j (.own u) := by
    unfold DSt.set
    congr 1
    exact List.set_comm _ _ (Ne.symm hij)
  rw [e1, e2] at F3
  refine kn _ _ _ ⟨F3, ?_⟩ t2
  have fr2 : FrO W.F (OwnA σ s) H (OwnA σ s2) H2 := S1.fr.trans S2.fr
  refine ⟨fr2.keep, fun a h => ?_, fr2.dom⟩
  rw [← e1, ← e2] at h
  rcases ownA_setOwn h with z | z
  · rcases ownA_setOwn z with z | z
    · exact fr2.own a z
    · exact .inr (by rw [z]; exact S1.fr.dom _ hq)
  · exact .inr (by rw [z]; exact hp)
/-- {k: v} -/
def fDisp (Tk Tv : DTE) : DTF := fun s Q => Tk s fun x s1 => Tv s1 fun y s2 => match x, y with
  | .d (.tuple ks), .d v => (toKs ks).isSome = true ∧ Q (.dct [(.tuple ks, v)]) s2
  | _, _ => False
theorem df_disp {ke ve : Expr} {Tk Tv : DTE} (hw : Wx X) (hr : Room k X.A) (hk : ∀ p, DE X (W.add p) ke Tk) (hv : ∀ p, DE X (W.add p) ve Tv) : DF X W (.Dict [some ke] [ve] pos) (fDisp Tk Tv) := by
  have hun := hr.un
  have hk' : PE X ke (fun σ H Q => ∃ p, liftE (W.add p) Tk σ H Q) := ⟨fun pins s1 σ H Q I ⟨p, q⟩ => (hk p).run pins s1 σ H Q I q⟩
  have hv' : PE X ve (fun σ H Q => ∃ p, liftE (W.add p) Tv σ H Q) := ⟨fun pins s1 σ H Q I ⟨p, q⟩ => (hv p).run pins s1 σ H Q I q⟩
  refine (pe_disp1 hw (by omega) hk' hv').weak fun σ H Q' ⟨s, Q, E, t, kk⟩ => fun p hp => ?_
  have x0 : Ext H (upd H p (DctO p [])) := .new hp
  have E0 : EnvR (W.add p) σ (upd H p (DctO p [])) s := E.add x0 hp (by rw [upd_same]; trivial)
  have n := own_fresh E hp
  refine ⟨p, s, _, E0, t, fun v H1 x s1 S1 r1 t1 => ⟨p, s1, _, S1.env, t1, fun u H2 y s2 S2 r2 t2 => ?_⟩⟩
  split at t2
  · rename_i ks d
    obtain ⟨h1, t2⟩ := t2
    obtain ⟨kz, hkz⟩ := Option.isSome_iff_exists.mp h1
    have r1' := r1.keep S1.env S2.fr
    obtain ⟨b, rfl, hb, hbr⟩ := key_of (Rep.view (show Rep _ H2 v (.tuple ks) from r1')) hkz
    have e : PyData.tuple ks = keyD kz := by rw [toKs_eq hkz]; rfl
    have nF : ¬ (W.add p).F p := fun z => n.1 (W.FZ p z)
    have S := S1.trans S2
    have pd : H2 p = some (DctO p []) := S.fr.keep p _ upd_same nF n.2
    refine ⟨b, kz, rfl, hb, pd, ?_⟩
    have zp : (W.add p).Z p := .inr rfl
    have E3 : EnvR (W.add p) σ (upd H2 p (DctO p [(kz, b, u)])) s2 := S2.env.volat zp nF trivial
    have fu : Fr (Zo (W.add p).Z (OwnA σ s2)) H2 (Zo (W.add p).Z (OwnA σ s2)) (upd H2 p (DctO p [(kz, b, u)])) := upd_fr (.inl zp) (S2.env.muz p zp) fun _ z => z
    refine kk p _ (.dct [(.tuple ks, d)]) s2 ⟨E3.drop, ?_⟩ E3 ⟨_, upd_same, ?_⟩ hp n.1 (fun z => (S2.env.omut z).2 zp) t2
    · refine ⟨fun a o h nf no => ?_, fun a h => ?_, fun a h => ?_⟩
      · have ne : a ≠ p := ne_of_none h hp
        rw [upd_ne ne]
        exact S.fr.keep a o (x0 a o h) nf no
      · rcases S.fr.own a h with z | z
        · exact .inl z
        · exact .inr (x0.none z)
      · by_cases ea : a = p
        · rw [ea]; exact hp
        · rw [upd_ne ea] at h; exact x0.none (S.fr.dom a h)
    · rw [e] at hbr ⊢
      exact .cons (hb.mono fu) (hbr.mono fu) ((show Rep _ H2 u d from r2).mono fu) .nil
  · exact t2.elim
/-! x in the own dict of slot i (keys texts) -/
def dInK (i : Nat) (Ta : DTE) : DTE := fun s Q => Ta s fun x s1 => match x, s1.e[i]? with
  | .d (.str z), some (some (.own (.dK kds))) => Q (.d (.bool (kds.any fun p => p.1 == z))) s1
  | _, _ => False
theorem repS_val {Z : Zs} {H : Hp} : ∀ {kvs : List (Key × V)} {kds : List (Str × PyData)} {k : Str}, RepS Z H kvs kds → (valV kvs (.inr k)).isSome = kds.any fun p => p.1 == k
  | [], [], _, _ => rfl
  | (_, v) :: _, (x, _) :: _, k, ⟨a, b, c⟩ => by
    rw [List.any_cons, ← repS_val c, a]
    by_cases e : x = k
    · rw [valV_pos (congrArg Sum.inr e)]; simp [e]
    · rw [valV_neg (fun z => e (Sum.inr.inj z))]; simp [e]
  | [], _ :: _, _, h => h.elim
  | _ :: _, [], _, h => h.elim
def rInK : R2 := fun x y H Q => ∃ (a : Addr) (k : Str) (kvs : List (Key × V)), x = .str k ∧ y = .ref a ∧ H a = some (.dK kvs) ∧ Q (.bl (valV kvs (.inr k)).isSome) H
theorem op_inK (hr : Room k X.A) : OpR X (compareOp .In) rInK := by
  intro pins s σ H x y v u Q I rx ry ⟨a, k, kvs, ex, ey, ha, q⟩
  subst ex ey
  cases ry
  have hun := hr.un
  exact d_in (o := valV kvs (.inr k)) (by omega) I (.k ha) rx fun s' I' => ⟨.bl _, H, I', rfl, q⟩
theorem inK_core {i : Nat} {Ta : DTE} (σ : L2.St) (H : Hp) (Q' : VK) (h : liftE W (dInK i Ta) σ H Q') : tOp rInK (liftE W Ta) (tVar i) σ H Q' := by
  obtain ⟨s, Q, E, t, k⟩ := h
  refine ⟨s, _, E, t, fun v H1 x s1 S1 r1 t1 => ?_⟩
  split at t1
  · rename_i z kds hk
    have r1 : Rep (Zo W.Z (OwnA σ s1)) H1 v (.str z) := r1
    rw [rep_str r1]
    obtain ⟨p, e1, ⟨kvs, e2, e3⟩, _⟩ := S1.env.own i _ hk
    refine ⟨_, e1, p, z, kvs, rfl, rfl, e2, k _ H1 (.d (.bool _)) s1 S1 (Rep.bl _) ?_⟩
    rw [repS_val e3]; exact t1
  · exact t1.elim
theorem dt_inK {i : Nat} {x : Str} {p : Pos} {Ta : DTE} (hr : Room k X.A) (ha : DE X W a Ta) (hN : X.N[i]? = some x := by rfl) (hv : Vis X.env.scope x := by first | exact Or.inl rfl | exact Or.inr (Or.inl rfl) | exact Or.inr (Or.inr rfl)) (hd : (x == ("__debug__" : Str)) = false := by decide) (hcd : (x == ("__classdict__" : Str)) = false := by decide)
    (hm : behindInMarks .In (.Name x p) = false := by rfl) : DT X W (.Compare a [.In] [.Name x p] pos) (dTest (dInK i Ta)) :=
  (pt_cmpR (op_inK hr) ha (pe_var hN hv hd hcd) hm).weak fun σ H Q' h => test_core (fun σ H Q' h => inK_core σ H Q' h) σ H Q' h
end
end DL
/-! LB8: the frame of a def of the text; negative constants; list(range(a, b, c)). -/
namespace DL
open PySem PySem.Spec PyProof.Rows L2
variable [TheW]
section
variable {X : Cx} {W : Wd} {e a b c o : Expr} {es : List Expr} {pos p q : Pos} {k : Nat}
theorem de_neg {i : Int} {j : Nat} {p2 : Pos} : DE X W (.UnaryOp .USub (.Constant (.int i) j p2) pos) (dC (.int (-i))) :=
  (pe_un un_neg pe_int).weak fun σ H Q' ⟨s, Q, E, t, k⟩ => ⟨i, rfl, k _ H (.d (.int (-i))) s (.refl E) (Rep.int _) t⟩
theorem vals_rgC {a c : Int} {n : Nat} {acc : Array Value} (h : ItemsOf (fun i v => ∃ t, v = .int (a + i * c) t) acc n) : Vals ((List.range n).map fun i => V.int (a + (i : Nat) * c)) acc.toList := by
  have e : acc.toList.length = n := by rw [Array.length_toList]; exact h.1
  rw [← e]
  refine vals_of_get acc.toList _ fun j u hj => ?_
  obtain ⟨t, rfl⟩ := h.2 j u (by rw [← hj, Array.getElem?_toList])
  exact ⟨t, rfl⟩
/-- list(range(a, b, c)) -/
def fListR (Ta : DTA) : DTF := fun s Q => Ta s fun xs s1 => match xs with
  | [.d (.int i), .d (.int j), .d (.int c)] => ∃ n : Nat, RgC i j c n ∧ n ≤ 1000 ∧ Q (.lst ((List.range n).map fun m => .int (i + (m : Nat) * c))) s1
  | _ => False
theorem repL_range {Z : Zs} {H : Hp} (f : Nat → Int) : ∀ l : List Nat, RepL Z H (l.map fun m => V.int (f m)) (l.map fun m => .int (f m))
  | [] => .nil
  | _ :: r => .cons (.int _) (repL_range f r)
theorem df_listR {p2 pos2 : Pos} {Ta : DTA} (hc : X.calm = true) (hg : Gl X "list") (hm : X.mg "list" = none) (hg2 : Gl X "range") (hm2 : X.mg "range" = none) (ha : DAC X W [a, b, c] Ta)
    (hs : starEach [a, b, c] X.env = (false, eval a X.env) :: starEach [b, c] X.env := by rfl) (hpl : (backTo pos2 (starEach [b, c] X.env)).any (·.1) = false := by rfl)
    (na : starEach [.Call (.Name "range" p2) [a, b, c] [] pos2] X.env = (false, eval (.Call (.Name "range" p2) [a, b, c] [] pos2) X.env) :: starEach [] X.env := by rfl) :
    DF X W (.Call (.Name "list" p) [.Call (.Name "range" p2) [a, b, c] [] pos2] [] pos) (fListR Ta) := by
  refine ⟨fun pins s0 σ H Q' I ⟨s, Q, E, t, kk⟩ => ?_⟩
  refine Call_ (ld_blt I hg hm boot_list (PyProof.Rows.callWith_type1 (args_cons ?_ na) na rfl))
  refine Call_ (ld_blt I hg2 hm2 boot_range (PyProof.Rows.callWith_type1 (thn (ha.run pos2 pins s0 σ H (fun vs H1 => ∃ xs s1, Stp W σ H s σ H1 s1 ∧ Paired (ShR (Zo W.Z (OwnA σ s1)) H1) vs xs ∧ (match xs with
    | [.d (.int i), .d (.int j), .d (.int c)] => ∃ n : Nat, RgC i j c n ∧ n ≤ 1000 ∧ Q (.lst ((List.range n).map fun m => .int (i + (m : Nat) * c))) s1
    | _ => False)) I ⟨s, _, E, t, fun vs H1 xs s1 S1 r1 t1 => ⟨xs, s1, S1, r1, t1⟩⟩) fun us s1 ⟨vs, H1, I1, rv, xs, s2, S1, r1, t1⟩ => ?_) hs hpl))
  split at t1
  · rename_i i j c
    obtain ⟨n, ⟨c0, c1, c2, c3⟩, hn, t1⟩ := t1
    cases r1 with
    | cons r rr =>
      cases rr with
      | cons r' rr =>
        cases rr with
        | cons r'' rr =>
          cases rr
          cases (show Rep _ H1 _ (.int i) from r)
          cases (show Rep _ H1 _ (.int j) from r')
          cases (show Rep _ H1 _ (.int c) from r'')
          cases rv with
          | cons w rv => cases rv with
            | cons w' rv => cases rv with
              | cons w'' rv =>
                cases rv
                obtain ⟨t, rfl⟩ := w
                obtain ⟨t', rfl⟩ := w'
                obtain ⟨t'', rfl⟩ := w''
                refine call_range_3 c0 ?_ (.inl (PyProof.noPylong_small c1))
                refine args_nil ?_
                have I2 : Inv X pins σ H1 { s1 with heap := s1.heap.push { cls := .type "range", data := .fields #[.int i t, .int j t', .int c t''] } } := I1.kept (t' := s1.toks) fun b o e => Heap.get?_push_of_some _ e
                refine call_list_range (n := n) (I2.ok.hd hc) (IsRange.new ..) c2 c3 (by omega) fun h' tk acc c' hk e' hi => ?_
                have hf := I2.hok.fresh (Nat.le_refl _)
                have vv := vals_rgC hi
                have x : Ext H1 (upd H1 _ (.lst ((List.range n).map fun m => V.int (i + (m : Nat) * c)))) := .new hf
                have nn := own_fresh S1.env hf
                refine ⟨.ref _, upd H1 _ (.lst ((List.range n).map fun m => V.int (i + (m : Nat) * c))), I2.laid hk (Nat.le_refl _) (show ObjOk X.prog X.w _ _ _ (.lst _) from ⟨?_, acc.toList, c', vv, ?_⟩), rfl, ?_⟩
                · rw [List.length_map, List.length_range, sizeLine_eq]; omega
                · rw [Array.toArray_toList]; exact e'
                · exact kk _ _ (.lst _) s2 (S1.trans (.ext S1.env x)) (S1.env.add x hf (by rw [upd_same]; trivial)) ⟨_, upd_same, repL_range (fun m => i + (m : Nat) * c) _⟩ (S1.fr.dom _ hf) nn.1 nn.2 t1
  · exact t1.elim
/-- a call of a pure def, of one that writes -/
def dCallP (T : DFT) (Ta : DTA) : DTE := dCall (fun xs c K => T xs c fun x _ => K x c) Ta
theorem de_callV {k j : Nat} {x : Str} {T : DFT} {p : Pos} {Ta : DTA} {FW : Zs} {GW : Nat → Zs → Hp → Prop} (hF : W.F = FW) (hG : W.G = GW) (F : DFn X.prog X.w X.K X.mg X.base k x (spD FW GW T)) (hr : Room j X.A) (hk : k ≤ j) (hg : Gl X x) (ha : DAC X W (e :: es) Ta) (hdb : (x == ("__debug__" : Str)) = false := by decide)
    (he : starEach (e :: es) X.env = (false, eval e X.env) :: starEach es X.env := by rfl) (hpl : (backTo pos (starEach es X.env)).any (·.1) = false := by rfl) : DE X W (.Call (.Name x p) (e :: es) [] pos) (dCall T Ta) := by
  subst hF hG
  exact de_callW F hr hk hg ha hdb he hpl
end
abbrev cx (N : List Str) (qual : Str) (scope : Scope) (K : PySem.W.Frag) (mg : Str → Option Value) (base : Heap) (f : Addr) (cdv : Value) (A : Around) (outer : List Env) (s : Shared) (H : Hp) (E : XK) : Cx := (cxOf CX0 TheW.P TheW.w K mg base N qual scope f cdv A outer s H E).nox
/-- THE RULE for a def over data -/
theorem fn_dataC {K : PySem.W.Frag} {mg : Str → Option Value} {base : Heap} {k : Nat} {name qual : Str} {params : Arguments} {body : List Stmt} {scope : Scope} {f : Addr} {fd : FuncData} {N ps : List Str} {F : Zs} {G : Nat → Zs → Hp → Prop} {T : DFT} {U : DTS}
    (stab : ∀ c Z Z' H H', G c Z H → (∀ a, F a → H' a = H a) → Fr Z H Z' H' → G c Z' H')
    (D : FunD K name qual params body scope [] [] f fd) (S : FnScope N ps scope) (len : ∀ xs c K, T xs c K → xs.length = ps.length)
    (hbody : ∀ (cdv : Value) (A : Around) (outer : List Env) (s : Shared) (H : Hp) (E : XK) (W : Wd), Room k (cx N qual scope K mg base f cdv A outer s H E).A → W.F = F → W.G = G → DSs (cx N qual scope K mg base f cdv A outer s H E) W body U)
    (law : ∀ xs c K, T xs c K → U { nx := fun s => K (.d .none) s.c, rt := fun x s => K x s.c } ⟨startD N xs, c⟩) : FnOk TheW.P TheW.w K mg base CX0 (k + 1) f fd ps (spD F G T) := by
  refine D.ok S (fun vs H Q E ⟨Z, xs, c, KK, _, _, _, r, t, _⟩ => by rw [paired_len r]; exact len _ _ _ t) fun cdv A outer s H vs Q E hr h => ?_
  obtain ⟨Z, xs, c, KK, mz, fz, g, r, t, k⟩ := h
  have hU := hbody cdv A outer s H E ⟨Z, F, G, fz, stab⟩ hr rfl rfl
  refine ⟨_, hU.nox, ?_⟩
  obtain ⟨E1, no⟩ := env_start (W := ⟨Z, F, G, fz, stab⟩) (N := N) r mz g
  refine ⟨_, _, E1, law xs c KK t, fun σ' H' s' S1 q => ?_, fun v σ' H' x s' S1 r' q => ?_, fun σ' H' s' S1 q => q.elim, fun σ' H' s' S1 q => q.elim⟩
  · have f : Fr (Zo Z (OwnA σ' s')) H' Z H' := Fr.shrink fun a z => .inl z
    exact k .non H' (.d .none) s'.c ⟨fun a o h nf _ => S1.fr.keep a o h nf (no a), fun _ h => .inl h, S1.fr.dom⟩ S1.env.muz (stab _ _ _ _ _ S1.env.g (fun _ _ => rfl) f) Rep.non q
  · have f : Fr (Zo Z (OwnA σ' s')) H' Z H' := Fr.shrink fun a z => .inl z
    exact k v H' x s'.c ⟨fun a o h nf _ => S1.fr.keep a o h nf (no a), fun _ h => .inl h, S1.fr.dom⟩ S1.env.muz (stab _ _ _ _ _ S1.env.g (fun _ _ => rfl) f) (r'.mono f) q
theorem fn_dataP {K : PySem.W.Frag} {mg : Str → Option Value} {base : Heap} {k : Nat} {name qual : Str} {params : Arguments} {body : List Stmt} {scope : Scope} {f : Addr} {fd : FuncData} {N ps : List Str} {T : DFT} {U : DTS}
    (D : FunD K name qual params body scope [] [] f fd) (S : FnScope N ps scope) (len : ∀ xs c K, T xs c K → xs.length = ps.length)
    (hbody : ∀ (cdv : Value) (A : Around) (outer : List Env) (s : Shared) (H : Hp) (E : XK) (W : Wd), Room k (cx N qual scope K mg base f cdv A outer s H E).A → DSs (cx N qual scope K mg base f cdv A outer s H E) W body U)
    (law : ∀ xs c K, T xs c K → U { nx := fun s => K (.d .none) s.c, rt := fun x s => K x s.c } ⟨startD N xs, c⟩) : FnOk TheW.P TheW.w K mg base CX0 (k + 1) f fd ps (spP T) :=
  fn_dataC (fun _ _ _ _ _ g _ _ => g) D S len (fun cdv A outer s H E W hr _ _ => hbody cdv A outer s H E W hr) law
structure Mg (mg : Str → Option Value) : Prop where
  len : mg "len" = none
  isinstance : mg "isinstance" = none
  all : mg "all" = none
  any : mg "any" = none
  min : mg "min" = none
  max : mg "max" = none
  sum : mg "sum" = none
  tuple : mg "tuple" = none
  list : mg "list" = none
  sorted : mg "sorted" = none
  set : mg "set" = none
  str : mg "str" = none
  range : mg "range" = none
  reversed : mg "reversed" = none
  enumerate : mg "enumerate" = none
  zip : mg "zip" = none
  dict : mg "dict" = none
  abs : mg "abs" = none
  MOST_SIGNS : ∃ t, mg "MOST_SIGNS" = some (.int 8 t)
  MOST_BOATS : ∃ t, mg "MOST_BOATS" = some (.int 24 t)
  BOAT_SIGNS : ∃ t, mg "BOAT_SIGNS" = some (.str "abcdefghijklmnopqrstuvwxyz" t)
end DL
/-! LB9: loops and comprehensions read; lists of names. -/
namespace DL
open PySem PySem.Spec PyProof.Rows L2
variable [TheW]
theorem dLoop_inv {G : DTG} {Tb : DTS} {D : DEnds} {ds : List DV} (I : Nat → DSt → Prop)
    (step : ∀ (i : Nat) (d : DV) (s : DSt) (R : DSt → Prop), ds[i]? = some d → I i s → (∀ s', I (i + 1) s' → R s') → G d s fun s1 => Tb { nx := R, ct := R, bk := D.nx, rt := D.rt } s1)
    (hend : ∀ s, I ds.length s → D.nx s) (s : DSt) (h0 : I 0 s) : dLoop G Tb D ds s := by
  have key : ∀ (n k : Nat), k + n = ds.length → ∀ s, I k s → dLoop G Tb D (ds.drop k) s := by
    intro n
    induction n with
    | zero =>
      intro k hk s h
      rw [List.drop_of_length_le (by omega)]
      exact hend s (by rw [← hk]; exact h)
    | succ n ih =>
      intro k hk s h
      have hl : k < ds.length := by omega
      rw [List.drop_eq_getElem_cons hl]
      exact step k ds[k] s _ (List.getElem?_eq_getElem hl) h fun s' h' => ih (k + 1) (by omega) s' h'
  exact key ds.length 0 (by omega) s h0
theorem dLoop_list {α : Type} {G : DTG} {Tb : DTS} {D : DEnds} (g : α → DV) (l : List α) (I : List α → DSt → Prop)
    (step : ∀ (done : List α) (a : α) (rest : List α) (s : DSt) (R : DSt → Prop), l = done ++ a :: rest → I done s → (∀ s', I (done ++ [a]) s' → R s') → G (g a) s fun s1 => Tb { nx := R, ct := R, bk := D.nx, rt := D.rt } s1)
    (hend : ∀ s, I l s → D.nx s) (s : DSt) (h0 : I [] s) : dLoop G Tb D (l.map g) s := by
  refine dLoop_inv (fun i s => I (l.take i) s) ?_ ?_ s (by simpa using h0)
  · intro i d s R hd hI hR
    rw [List.getElem?_map] at hd
    cases q : l[i]? with
    | none => rw [q] at hd; cases hd
    | some a =>
      rw [q] at hd
      cases hd
      obtain ⟨hl, rfl⟩ := List.getElem?_eq_some_iff.mp q
      refine step (l.take i) l[i] (l.drop (i + 1)) s R ?_ hI fun s' h' => hR s' ?_
      · rw [← List.drop_eq_getElem_cons hl, List.take_append_drop]
      · rw [List.take_add_one, q]; exact h'
  · intro s h
    rw [List.length_map, List.take_length] at h
    exact hend s h
/-- one turn of a comprehension -/
def lcStep (G : DTG) (Tt : DTT) (Te : DTE) (vs : List Nat) (d : DV) (s : DSt) (Kt : PyData → DSt → Prop) (Kf : DSt → Prop) : Prop :=
  G d s fun s1 => Tt s1 fun b s2 => if b = true then Te s2 fun x s3 => capQ x s3 fun y s4 => accQ y fun z => Kt z (wipeD s4 vs) else Kf (wipeD s2 vs)
theorem lc_inv {α : Type} {G : DTG} {Tt : DTT} {Te : DTE} {vs : List Nat} {Q : List PyData → DSt → Prop} (g : α → DV) (I : List α → List PyData → DSt → Prop) (l : List α)
    (step : ∀ (done : List α) (a : α) (rest : List α) (acc : List PyData) (s : DSt) (Kt : PyData → DSt → Prop) (Kf : DSt → Prop), l = done ++ a :: rest → I done acc s → (∀ z s', I (done ++ [a]) (acc ++ [z]) s' → Kt z s') → (∀ s', I (done ++ [a]) acc s' → Kf s') → lcStep G Tt Te vs (g a) s Kt Kf)
    (hend : ∀ acc s, I l acc s → Q acc s) (acc : List PyData) (s : DSt) (h0 : I [] acc s) : lcLoop G Tt Te vs Q (l.map g) acc s := by
  have key : ∀ (rest done : List α), l = done ++ rest → ∀ acc s, I done acc s → lcLoop G Tt Te vs Q (rest.map g) acc s := by
    intro rest
    induction rest with
    | nil => intro done e acc s h; rw [List.append_nil] at e; exact hend acc s (by rw [e]; exact h)
    | cons a rest ih =>
      intro done e acc s h
      exact step done a rest acc s _ _ e h (fun z s' h' => ih (done ++ [a]) (by rw [e]; simp) _ s' h') fun s' h' => ih (done ++ [a]) (by rw [e]; simp) _ s' h'
  exact key l [] rfl acc s h0
theorem lc_map {α : Type} {G : DTG} {Tt : DTT} {Te : DTE} {vs : List Nat} {Q : List PyData → DSt → Prop} (g : α → DV) (h : α → PyData) (l : List α) (s : DSt)
    (step : ∀ (a : α) (Kt : PyData → DSt → Prop) (Kf : DSt → Prop), a ∈ l → Kt (h a) s → lcStep G Tt Te vs (g a) s Kt Kf) (q : Q (l.map h) s) : lcLoop G Tt Te vs Q (l.map g) [] s := by
  refine lc_inv g (fun done acc s' => s' = s ∧ acc = done.map h) l (fun done a rest acc s' Kt Kf e ⟨e1, e2⟩ kt kf => ?_) (fun acc s' ⟨e1, e2⟩ => by subst e1 e2; exact q) [] s ⟨rfl, rfl⟩
  subst e1 e2
  exact step a Kt Kf (by rw [e]; simp) (kt _ _ ⟨rfl, by simp⟩)
theorem lc_filter {α : Type} {G : DTG} {Tt : DTT} {Te : DTE} {vs : List Nat} {Q : List PyData → DSt → Prop} (g : α → DV) (p : α → Bool) (h : α → PyData) (l : List α) (s : DSt)
    (step : ∀ (a : α) (Kt : PyData → DSt → Prop) (Kf : DSt → Prop), a ∈ l → (p a = true → Kt (h a) s) → (p a = false → Kf s) → lcStep G Tt Te vs (g a) s Kt Kf) (q : Q ((l.filter p).map h) s) : lcLoop G Tt Te vs Q (l.map g) [] s := by
  refine lc_inv g (fun done acc s' => s' = s ∧ acc = (done.filter p).map h) l (fun done a rest acc s' Kt Kf e ⟨e1, e2⟩ kt kf => ?_) (fun acc s' ⟨e1, e2⟩ => by subst e1 e2; exact q) [] s ⟨rfl, rfl⟩
  subst e1 e2
  exact step a Kt Kf (by rw [e]; simp) (fun hp => kt _ _ ⟨rfl, by simp [List.filter_append, hp]⟩) fun hp => kf _ ⟨rfl, by simp [List.filter_append, hp]⟩
theorem kEq {K : DV → Nat → Prop} {x y : PyData} {c : Nat} (q : K (.d x) c) (h : x = y) : K (.d y) c := h ▸ q

/-! ### slices of whole indices -/
theorem sIx_nat (n d i : Nat) : HT.sIx n d (some (i : Int)) = min i n := by
  unfold HT.sIx
  simp only [show ¬ ((i : Int) < 0) by omega, if_false]
  omega
theorem cut_ij {α : Type} (xs : List α) (i j : Nat) : cutL xs (some (i : Int)) (some (j : Int)) = (xs.take j).drop i := by
  unfold cutL
  rw [sIx_nat, sIx_nat]
  rw [List.drop_take]
  by_cases h : i ≤ xs.length
  · rw [Nat.min_eq_left h]
    by_cases h2 : j ≤ xs.length
    · rw [Nat.min_eq_left h2]
    · rw [Nat.min_eq_right (show xs.length ≤ j by omega), List.take_of_length_le (show (xs.drop i).length ≤ xs.length - i by rw [List.length_drop]; exact Nat.le_refl _), List.take_of_length_le (show (xs.drop i).length ≤ j - i by rw [List.length_drop]; omega)]
  · rw [Nat.min_eq_right (show xs.length ≤ i by omega), List.drop_length, List.drop_of_length_le (show xs.length ≤ i by omega)]
    simp
theorem sIx_none (n d : Nat) : HT.sIx n d none = d := rfl
theorem cut_i {α : Type} (xs : List α) (i : Nat) : cutL xs (some (i : Int)) none = xs.drop i := by
  unfold cutL
  rw [sIx_nat, sIx_none]
  by_cases h : i ≤ xs.length
  · rw [Nat.min_eq_left h, List.take_of_length_le (by rw [List.length_drop]; exact Nat.le_refl _)]
  · rw [Nat.min_eq_right (by omega), List.drop_length, List.drop_of_length_le (by omega)]
    simp
theorem cut_j {α : Type} (xs : List α) (j : Nat) : cutL xs none (some (j : Int)) = xs.take j := by
  unfold cutL
  rw [sIx_nat, sIx_none, List.drop_zero, Nat.sub_zero]
  by_cases h : j ≤ xs.length
  · rw [Nat.min_eq_left h]
  · rw [Nat.min_eq_right (by omega), List.take_length, List.take_of_length_le (by omega)]
theorem atI_m {α β : Type} {f : α → β} {l : List α} {i : Nat} {a : α} (h : l[i]? = some a) : atI (l.map f) (i : Int) = some (f a) := atI_nat (by rw [List.getElem?_map, h]; rfl)
theorem atI_last {α : Type} {l : List α} {a : α} : atI (l ++ [a]) (-1) = some a := by
  unfold atI ixN
  rw [if_neg (by decide), if_pos (by rw [List.length_append, List.length_singleton]; omega)]
  simp only [Option.bind_some]
  have : (-1 + ((l ++ [a]).length : Int)).toNat = l.length := by rw [List.length_append, List.length_singleton]; omega
  rw [this, List.getElem?_append_right (Nat.le_refl _), Nat.sub_self]
  rfl
theorem ixN_nat {n i : Nat} (h : i < n) : ixN n (i : Int) = some i := by
  unfold ixN
  rw [if_pos (by omega), if_pos (by omega)]
  simp

/-! ### names -/
structure Nm (nm : Nat → Str) (n : Nat) : Prop where
  inj : ∀ i j, i < n → j < n → nm i = nm j → i = j
  ok : ∀ i, PyData.strOk (nm i) = true
  len : ∀ i, i < n → 1 ≤ (nm i).length ∧ (nm i).length ≤ 8
  low : ∀ i, i < n → Txt.stripChars (nm i) "abcdefghijklmnopqrstuvwxyz" = Str.empty
  le : n ≤ 5
def sB (nm : Nat → Str) (i : Nat) : PyData := .str (nm i)
def tN (nm : Nat → Str) (l : List Nat) : PyData := .tuple (l.map (sB nm))
/-- all below n -/
def Lt (n : Nat) (l : List Nat) : Prop := ∀ x ∈ l, x < n
section
variable {nm : Nat → Str} {n : Nat}
theorem Nm.eq (h : Nm nm n) {i j : Nat} (hi : i < n) (hj : j < n) : PyData.eqv (sB nm i) (sB nm j) = decide (i = j) := by
  show PyData.eqv (.str (nm i)) (.str (nm j)) = _
  rw [PyData.eqv]
  by_cases e : i = j
  · subst e; simp
  · rw [decide_eq_false e]
    simp only [beq_eq_false_iff_ne, ne_eq]
    exact fun z => e (h.inj i j hi hj z)
theorem Nm.eqAll (h : Nm nm n) : ∀ {l k : List Nat}, Lt n l → Lt n k → PyData.eqvAll (l.map (sB nm)) (k.map (sB nm)) = decide (l = k)
  | [], [], _, _ => by simp [PyData.eqvAll]
  | [], _ :: _, _, _ => by simp [PyData.eqvAll]
  | _ :: _, [], _, _ => by simp [PyData.eqvAll]
  | a :: l, b :: k, hl, hk => by
    rw [List.map_cons, List.map_cons, PyData.eqvAll, h.eq (hl a (by simp)) (hk b (by simp)), h.eqAll (fun x hx => hl x (by simp [hx])) fun x hx => hk x (by simp [hx])]
    by_cases h1 : a = b
    · by_cases h2 : l = k <;> simp [h1, h2]
    · simp [h1]
theorem Nm.eqT (h : Nm nm n) {l k : List Nat} (hl : Lt n l) (hk : Lt n k) : PyData.eqv (tN nm l) (tN nm k) = decide (l = k) := by
  show PyData.eqv (.tuple _) (.tuple _) = _
  rw [PyData.eqv]
  exact h.eqAll hl hk
theorem Nm.mem (h : Nm nm n) : ∀ {l : List Nat} {b : Nat}, Lt n l → b < n → ((l.map (sB nm)).any fun z => PyData.eqv z (sB nm b)) = decide (b ∈ l)
  | [], _, _, _ => by simp
  | a :: l, b, hl, hb => by
    rw [List.map_cons, List.any_cons, h.eq (hl a (by simp)) hb, h.mem (fun x hx => hl x (by simp [hx])) hb]
    by_cases h1 : a = b
    · simp [h1]
    · have : ¬ b = a := fun z => h1 z.symm
      simp [h1, this]
theorem Nm.ix (h : Nm nm n) : ∀ {l : List Nat} {b : Nat}, Lt n l → b ∈ l → b < n → (l.map nm).findIdx? (· == nm b) = some (l.idxOf b)
  | [], _, _, hm, _ => nomatch hm
  | a :: l, b, hl, hm, hb => by
    rw [List.map_cons, List.findIdx?_cons]
    by_cases h1 : a = b
    · subst h1; simp
    · have h2 : ¬ nm a = nm b := fun z => h1 (h.inj a b (hl a (by simp)) hb z)
      have h3 : (nm a == nm b) = false := by simpa using h2
      rw [h3]
      have hm' : b ∈ l := by
        rcases List.mem_cons.mp hm with e | e
        · exact absurd e.symm h1
        · exact e
      simp only [Bool.false_eq_true, if_false]
      rw [h.ix (fun x hx => hl x (by simp [hx])) hm' hb]
      have h4 : (a == b) = false := by simpa using h1
      simp [List.idxOf_cons, h4]
theorem asStrs_sB (l : List Nat) : asStrs (l.map (sB nm)) = some (l.map nm) := by
  have := asStrs_map (l.map nm)
  rw [List.map_map] at this
  exact this
theorem Nm.nodup (h : Nm nm n) {l : List Nat} (hl : Lt n l) (hd : l.Nodup) : (l.map nm).Nodup := by
  induction l with
  | nil => exact List.nodup_nil
  | cons a l ih =>
    rw [List.nodup_cons] at hd
    rw [List.map_cons, List.nodup_cons]
    refine ⟨fun hm => ?_, ih (fun x hx => hl x (by simp [hx])) hd.2⟩
    obtain ⟨b, hb, e⟩ := List.mem_map.mp hm
    have := h.inj b a (hl b (by simp [hb])) (hl a (by simp)) e
    exact hd.1 (this ▸ hb)
@[simp] theorem okD_sB {k i : Nat} : okD k (sB nm i) = true := okD_str
@[simp] theorem okAll_sB {k : Nat} {l : List Nat} : (l.map (sB nm)).all (okD k) = true := by
  rw [List.all_map]; exact List.all_eq_true.mpr fun _ _ => okD_sB
@[simp] theorem okD_tN {k : Nat} {l : List Nat} : okD (k + 1) (tN nm l) = true := okAll_sB
theorem tN_drop {l : List Nat} {i : Nat} : (l.map (sB nm)).drop i = (l.drop i).map (sB nm) := (List.map_drop).symm
theorem tN_take {l : List Nat} {i : Nat} : (l.map (sB nm)).take i = (l.take i).map (sB nm) := (List.map_take).symm
theorem toKs_sB (l : List Nat) : (toKs (l.map (sB nm))).isSome = true := by
  have := toKs_strs (l.map nm)
  rw [List.map_map] at this
  show (toKs (l.map (PyData.str ∘ nm))).isSome = true
  rw [this]; rfl
end
theorem ifD {p : Prop} [Decidable p] {A B : Prop} (h : p) (q : A) : if decide p = true then A else B := by rw [if_pos (decide_eq_true h)]; exact q
theorem ifN {p : Prop} [Decidable p] {A B : Prop} (h : ¬ p) (q : B) : if decide p = true then A else B := by rw [if_neg (by rw [decide_eq_false h]; exact Bool.false_ne_true)]; exact q
abbrev Law (T : DFT) (U : DTS) (N : List Str) : Prop := ∀ xs c K, T xs c K → U { nx := fun s => K (.d .none) s.c, rt := fun x s => K x s.c } ⟨startD N xs, c⟩
/-- one half of an if -/
theorem ifT {b : Bool} {A B : Prop} (h : b = true) (q : A) : if b = true then A else B := by rw [if_pos h]; exact q
theorem ifF {b : Bool} {A B : Prop} (h : b = false) (q : B) : if b = true then A else B := by rw [h, if_neg Bool.false_ne_true]; exact q
theorem ifB {b : Bool} {A B : Prop} (q1 : b = true → A) (q2 : b = false → B) : if b = true then A else B := by
  cases b
  · exact ifF rfl (q2 rfl)
  · exact ifT rfl (q1 rfl)
end DL
/-! SP: what the defs of the package do, over names told by places; their promises. -/
namespace DL
open PySem PySem.Spec PyProof.Rows L2
variable [TheW]
/-! ### plain functions over places -/
inductive Ev where
  | t (a b : Nat)
  | d (a : Nat)
deriving DecidableEq, Repr
def Ev.boats : Ev → List Nat
  | .t a b => [a, b]
  | .d a => [a]
def Ev.isT : Ev → Bool
  | .t _ _ => true
  | .d _ => false
def Ev.pair : Ev → Nat × Nat
  | .t a b => (a, b)
  | .d a => (a, a)
def iRaces (size n : Nat) : Nat := (n + size - 1) / size
def iLast (size n k : Nat) : Nat := min (k * size + size) (n - 1)
def iStart (size : Nat) (row : List Nat) (k : Nat) : List Nat := (row.take (iLast size row.length k + 1)).drop (k * size)
def iLaid (size : Nat) (row : List Nat) (k : Nat) (some : List Nat) : List Nat := row.take (k * size) ++ some ++ row.drop (iLast size row.length k + 1)
def iGoing (size n : Nat) : List Nat := (List.range (iRaces size n)).reverse
def iExch (l : List Nat) (i j : Nat) : List Nat := (l.set i (l.getD j 0)).set j (l.getD i 0)
def iBetween (start : List Nat) (a b : Nat) : List Nat := (start.take (max (start.idxOf a) (start.idxOf b))).drop (min (start.idxOf a) (start.idxOf b) + 1)
def iBehind (start : List Nat) (ts : List (Nat × Nat)) : List Nat := ts.foldl (fun row p => iExch row (start.idxOf p.1) (start.idxOf p.2)) start
def iCrossed (start : List Nat) (o p : Nat × Nat) : Bool := decide (p.1 ∈ iBetween start o.1 o.2) != decide (p.2 ∈ iBetween start o.1 o.2)
def iTouches (evs : List Ev) : List (Nat × Nat) := (evs.filter Ev.isT).map Ev.pair
/-- a sheet that the start can row -/
structure Sound (start : List Nat) (reach : Nat) (evs : List Ev) : Prop where
  nd : (evs.flatMap Ev.boats).Nodup
  sub : ∀ x ∈ evs.flatMap Ev.boats, x ∈ start
  ahead : ∀ p ∈ iTouches evs, start.idxOf p.2 < start.idxOf p.1
  near : ∀ p ∈ iTouches evs, (iBetween start p.1 p.2).length ≤ reach
  out : ∀ p ∈ iTouches evs, ∀ x ∈ iBetween start p.1 p.2, x ∈ evs.flatMap Ev.boats
  cross : ∀ o ∈ iTouches evs, ∀ p ∈ iTouches evs, iCrossed start o p = false
def iNotOf (start there : List Nat) : List Nat := (there.drop 1).filter fun b => decide (b ∉ start)
def iLeft (start there : List Nat) : List Nat := start.filter fun b => decide (b ∉ there.drop 1)
def iStrange (size : Nat) (start other : List Nat) (k : Nat) : Option Nat := if k = 0 then none else (iNotOf start (iStart size other k)).head?
def iGoal (size : Nat) (start other : List Nat) (k : Nat) : List Nat := if k = 0 then iStart size other k else (iLeft start (iStart size other k)).headD 0 :: (iStart size other k).drop 1
def iUnrL (start goal : List Nat) : List Nat := (start.zipIdx.filter fun p => decide (goal.getD p.2 0 ≠ start.getD (goal.idxOf p.1) 0)).map (·.1)
def iUnr (start goal : List Nat) : Bool := (iUnrL start goal).isEmpty
def iPairs (start goal : List Nat) : List (Nat × Nat) := start.zipIdx.filterMap fun p => if p.2 < goal.idxOf p.1 then some (p.2, goal.idxOf p.1) else none
def iCross (o p : Nat × Nat) : Bool := (decide (o.1 < p.1) && decide (p.1 < o.2)) != (decide (o.1 < p.2) && decide (p.2 < o.2))
def iFF (start goal : List Nat) (reach : Nat) : Bool := iUnr start goal && (iPairs start goal).all (fun p => decide (p.2 ≤ p.1 + 1 + reach)) && (iPairs start goal).all fun o => (iPairs start goal).all fun p => !iCross o p
def iMet (start goal : List Nat) : List Nat := (iPairs start goal).flatMap fun p => [p.1, p.2]
def iIn (pairs : List (Nat × Nat)) (p : Nat) : Bool := pairs.any fun o => decide (o.1 < p) && decide (p < o.2)
def iDrops (start goal : List Nat) : List Nat := (start.zipIdx.filter fun p => decide (p.2 ∉ iMet start goal) && iIn (iPairs start goal) p.2).map (·.1)
def iFree (start goal : List Nat) : List Nat := (start.zipIdx.filter fun p => decide (p.2 ∉ iMet start goal) && !iIn (iPairs start goal) p.2).map (·.1)
def iTouchAt (start : List Nat) (p : Nat × Nat) : Nat × Nat := (start.getD p.2 0, start.getD p.1 0)
structure Race where
  ts : List (Nat × Nat)
  drops : List Nat
  free : List Nat
deriving DecidableEq, Repr
def iRace (start goal : List Nat) : Race := ⟨(iPairs start goal).map (iTouchAt start), iDrops start goal, iFree start goal⟩
/-- the races that are told, from the last; none: untold -/
def iTold (size reach : Nat) (other : List Nat) : List Nat → List Nat → List Race → Option (List Race)
  | [], _, found => some found
  | k :: ks, row, found =>
    if (iStrange size (iStart size row k) other k).isSome = true then none
    else if iFF (iStart size row k) (iGoal size (iStart size row k) other k) reach = true then iTold size reach other ks (iLaid size row k (iGoal size (iStart size row k) other k)) (iRace (iStart size row k) (iGoal size (iStart size row k) other k) :: found)
    else none
/-- what the telling leans on, step by step -/
def permB (a b : List Nat) : Bool := decide (a.length = b.length) && a.all (fun x => decide (x ∈ b)) && b.all (fun x => decide (x ∈ a)) && decide b.Nodup && decide a.Nodup
def iToldOk (size reach : Nat) (other : List Nat) : List Nat → List Nat → Bool
  | [], _ => true
  | k :: ks, row => decide (row.length = other.length) && decide (iStart size row k ≠ []) && decide (k ≤ 5) && decide (iStart size row k).Nodup &&
    (if (iStrange size (iStart size row k) other k).isSome = true then true
    else (decide (k = 0) || decide (iLeft (iStart size row k) (iStart size other k) ≠ [])) && permB (iGoal size (iStart size row k) other k) (iStart size row k) &&
      (if iFF (iStart size row k) (iGoal size (iStart size row k) other k) reach = true then iToldOk size reach other ks (iLaid size row k (iGoal size (iStart size row k) other k)) else true))

/-! ### the data -/
def Mt (size reach : Nat) : PyData := .tuple [.int size, .int reach]
def MtOk (size reach : Nat) : Prop := 1 ≤ size ∧ size ≤ 8 ∧ reach ≤ 7
def evD (nm : Nat → Str) : Ev → PyData
  | .t a b => .tuple [.str "touch", sB nm a, sB nm b]
  | .d a => .tuple [.str "drop", sB nm a]
def shD (nm : Nat → Str) (evs : List Ev) : PyData := .tuple (evs.map (evD nm))
def ppD (p : Nat × Nat) : PyData := .tuple [.int p.1, .int p.2]
def npD (nm : Nat → Str) (p : Nat × Nat) : PyData := .tuple [sB nm p.1, sB nm p.2]
def tpD (nm : Nat → Str) (p : Nat × Nat) : PyData := evD nm (.t p.1 p.2)
def raceD (nm : Nat → Str) (r : Race) : PyData := .tuple [.tuple (srtD (r.ts.map (tpD nm))), .tuple (srtD (r.drops.map (sB nm))), .tuple (srtD (r.free.map (sB nm)))]
def EvLt (n : Nat) (e : Ev) : Prop := ∀ x ∈ e.boats, x < n
/-- a sheet as the interface has it -/
structure ShOk (nm : Nat → Str) (n : Nat) (evs : List Ev) : Prop where
  lt : ∀ e ∈ evs, EvLt n e
  ne : ∀ a b, Ev.t a b ∈ evs → a ≠ b
  asc : ∀ p ∈ (evs.zip (evs.drop 1)), PySem.W.dataLt (evD nm p.1) (evD nm p.2) = true
  len : evs.length ≤ 1000

/-! ### promises -/
def t_is_boat : DFT := fun xs c K => ∃ nm n i, Nm nm n ∧ i < n ∧ xs = [.d (sB nm i)] ∧ K (.d (.bool true)) c
def t_are_boats : DFT := fun xs c K => ∃ nm n l, Nm nm n ∧ Lt n l ∧ l.Nodup ∧ l.length ≤ 24 ∧ xs = [.d (tN nm l)] ∧ K (.d (.bool true)) c
def t_is_row : DFT := fun xs c K => ∃ nm n l, Nm nm n ∧ Lt n l ∧ l.Nodup ∧ l.length ≤ 24 ∧ l ≠ [] ∧ xs = [.d (tN nm l)] ∧ K (.d (.bool true)) c
def t_races_of : DFT := fun xs c K => ∃ size reach n : Nat, MtOk size reach ∧ 1 ≤ n ∧ xs = [.d (Mt size reach), .d (.int n)] ∧ K (.d (.int (iRaces size n : Nat))) c
def t_span : DFT := fun xs c K => ∃ size reach n k : Nat, MtOk size reach ∧ 1 ≤ n ∧ k ≤ 5 ∧ xs = [.d (Mt size reach), .d (.int n), .d (.int k)] ∧ K (.d (.tuple [.int (k * size : Nat), .int (iLast size n k : Nat)])) c
def t_exchanged : DFT := fun xs c K => ∃ (nm : Nat → Str) (l : List Nat) (i j : Nat), i < l.length ∧ j < l.length ∧ xs = [.d (tN nm l), .d (.int i), .d (.int j)] ∧ K (.d (tN nm (iExch l i j))) c
def t_is_event : DFT := fun xs c K => ∃ nm n e, Nm nm n ∧ EvLt n e ∧ (∀ a b, e = .t a b → a ≠ b) ∧ xs = [.d (evD nm e)] ∧ K (.d (.bool true)) c
def t_boats_between : DFT := fun xs c K => ∃ nm n l a b, Nm nm n ∧ Lt n l ∧ a ∈ l ∧ b ∈ l ∧ xs = [.d (tN nm l), .d (evD nm (.t a b))] ∧ K (.d (tN nm (iBetween l a b))) c
def t_goes_ahead : DFT := fun xs c K => ∃ nm n l a b, Nm nm n ∧ Lt n l ∧ a ∈ l ∧ b ∈ l ∧ xs = [.d (tN nm l), .d (evD nm (.t a b))] ∧ K (.d (.bool (decide (l.idxOf b < l.idxOf a)))) c
def t_is_sheet : DFT := fun xs c K => ∃ nm n evs, Nm nm n ∧ ShOk nm n evs ∧ xs = [.d (shD nm evs)] ∧ K (.d (.bool true)) c
def t_touches_in : DFT := fun xs c K => ∃ nm evs, evs.length ≤ 1000 ∧ xs = [.d (shD nm evs)] ∧ K (.d (.list ((iTouches evs).map (tpD nm)))) c
def t_row_behind : DFT := fun xs c K => ∃ nm n l evs, Nm nm n ∧ Lt n l ∧ evs.length ≤ 1000 ∧ (∀ p ∈ iTouches evs, p.1 ∈ l ∧ p.2 ∈ l) ∧ xs = [.d (tN nm l), .d (shD nm evs)] ∧ K (.d (tN nm (iBehind l (iTouches evs)))) c
def t_strange_or_twice : DFT := fun xs c K => ∃ nm n l evs, Nm nm n ∧ Lt n l ∧ evs.length ≤ 1000 ∧ (evs.flatMap Ev.boats).Nodup ∧ (∀ x ∈ evs.flatMap Ev.boats, x ∈ l) ∧ xs = [.d (tN nm l), .d (shD nm evs)] ∧ K (.d .none) c
def t_touch_fault : DFT := fun xs c K => ∃ nm n l evs a b, ∃ reach : Nat, Nm nm n ∧ Lt n l ∧ evs.length ≤ 1000 ∧ (∀ e ∈ evs, EvLt n e) ∧ a ∈ l ∧ b ∈ l ∧ l.idxOf b < l.idxOf a ∧ (iBetween l a b).length ≤ reach ∧ (∀ x ∈ iBetween l a b, x ∈ evs.flatMap Ev.boats) ∧
  xs = [.d (tN nm l), .d (.int reach), .d (shD nm evs), .d (evD nm (.t a b))] ∧ K (.d .none) c
def t_is_crossed : DFT := fun xs c K => ∃ nm n l, ∃ o p : Nat × Nat, Nm nm n ∧ Lt n l ∧ o.1 ∈ l ∧ o.2 ∈ l ∧ p.1 < n ∧ p.2 < n ∧ xs = [.d (tN nm l), .d (tpD nm o), .d (tpD nm p)] ∧ K (.d (.bool (iCrossed l o p))) c
def t_fault_of : DFT := fun xs c K => ∃ nm n l evs, ∃ reach : Nat, Nm nm n ∧ Lt n l ∧ evs.length ≤ 1000 ∧ Sound l reach evs ∧ xs = [.d (tN nm l), .d (.int reach), .d (shD nm evs)] ∧ K (.d .none) c
def t_length_of : DFT := fun xs c K => ∃ nm n l e, Nm nm n ∧ Lt n l ∧ (∀ x ∈ Ev.boats e, x ∈ l) ∧ xs = [.d (tN nm l), .d (evD nm e)] ∧ (∀ i : Int, K (.d (.int i)) c)
def t_order_of : DFT := fun xs c K => ∃ nm n l evs, ∃ reach : Nat, Nm nm n ∧ Lt n l ∧ evs.length ≤ 1000 ∧ Sound l reach evs ∧ xs = [.d (tN nm l), .d (.int reach), .d (shD nm evs)] ∧ (∀ y, K (.d (.tuple [.str "course", y])) c)
/-! days and tellings -/
def iDayGo (size : Nat) (day : List (List Ev)) : List Nat → List Nat → List Nat
  | [], row => row
  | k :: ks, row => iDayGo size day ks (iLaid size row k (iBehind (iStart size row k) (iTouches (day.getD k []))))
def DayOk (n size reach : Nat) (day : List (List Ev)) : List Nat → List Nat → Prop
  | [], _ => True
  | k :: ks, row => Lt n row ∧ (row ≠ [] ∧ iStart size row k ≠ []) ∧ k ≤ 5 ∧ k < day.length ∧ (day.getD k []).length ≤ 1000 ∧ Sound (iStart size row k) reach (day.getD k []) ∧ DayOk n size reach day ks (iLaid size row k (iBehind (iStart size row k) (iTouches (day.getD k []))))
def dayD (nm : Nat → Str) (day : List (List Ev)) : PyData := .tuple (day.map (shD nm))
def t_is_day : DFT := fun xs c K => ∃ nm n, ∃ day : List (List Ev), Nm nm n ∧ (∀ evs ∈ day, ShOk nm n evs) ∧ 1 ≤ day.length ∧ day.length ≤ 24 ∧ xs = [.d (dayD nm day)] ∧ K (.d (.bool true)) c
def t_start_on : DFT := fun xs c K => ∃ (nm : Nat → Str) (size reach k : Nat) (l : List Nat), MtOk size reach ∧ l ≠ [] ∧ k ≤ 5 ∧ xs = [.d (Mt size reach), .d (tN nm l), .d (.int k)] ∧ K (.d (tN nm (iStart size l k))) c
def t_laid_on : DFT := fun xs c K => ∃ (nm : Nat → Str) (size reach k : Nat) (l t : List Nat), MtOk size reach ∧ l ≠ [] ∧ k ≤ 5 ∧ l.length ≤ 1000 ∧ t.length ≤ 1000 ∧ xs = [.d (Mt size reach), .d (tN nm l), .d (.int k), .d (tN nm t)] ∧ K (.d (tN nm (iLaid size l k t))) c
def t_races_going : DFT := fun xs c K => ∃ (nm : Nat → Str) (size reach : Nat) (l : List Nat), MtOk size reach ∧ l ≠ [] ∧ l.length ≤ 500 ∧ xs = [.d (Mt size reach), .d (tN nm l)] ∧ K (.d (.list ((iGoing size l.length).map fun k => .int (k : Nat)))) c
def t_day_behind : DFT := fun xs c K => ∃ nm n size reach l, ∃ day : List (List Ev), Nm nm n ∧ MtOk size reach ∧ l ≠ [] ∧ l.length ≤ 500 ∧ day.length = iRaces size l.length ∧ DayOk n size reach day (iGoing size l.length) l ∧ xs = [.d (Mt size reach), .d (tN nm l), .d (dayD nm day)] ∧ K (.d (.tuple [.str "row", tN nm (iDayGo size day (iGoing size l.length) l)])) c
def t_not_of_start : DFT := fun xs c K => ∃ nm n l t, Nm nm n ∧ Lt n l ∧ Lt n t ∧ t.length ≤ 1000 ∧ xs = [.d (tN nm l), .d (tN nm t)] ∧ K (.d (.list ((iNotOf l t).map (sB nm)))) c
def t_goal_of : DFT := fun xs c K => ∃ nm n size reach l other k, Nm nm n ∧ MtOk size reach ∧ Lt n l ∧ Lt n other ∧ other ≠ [] ∧ other.length ≤ 500 ∧ l.length ≤ 500 ∧ k ≤ 5 ∧ (k = 0 ∨ (iStrange size l other k).isSome = true ∨ iLeft l (iStart size other k) ≠ []) ∧
  xs = [.d (Mt size reach), .d (tN nm l), .d (tN nm other), .d (.int (k : Nat))] ∧ (∀ b, iStrange size l other k = some b → K (.d (.tuple [tN nm (iStart size other k), sB nm b])) c) ∧ (iStrange size l other k = none → K (.d (.tuple [tN nm (iGoal size l other k), .none])) c)
/-- goal is a row of start's boats -/
structure Perm2 (start goal : List Nat) : Prop where
  len : goal.length = start.length
  sub : ∀ x ∈ start, x ∈ goal
  sub2 : ∀ x ∈ goal, x ∈ start
  nd : start.Nodup
  nd2 : goal.Nodup
def t_unrounded : DFT := fun xs c K => ∃ nm n l g, Nm nm n ∧ Lt n l ∧ Perm2 l g ∧ l.length ≤ 500 ∧ xs = [.d (tN nm l), .d (tN nm g)] ∧ K (.d (.list ((iUnrL l g).map (sB nm)))) c
def t_pairs_of : DFT := fun xs c K => ∃ nm n l g, Nm nm n ∧ Lt n l ∧ Perm2 l g ∧ l.length ≤ 500 ∧ xs = [.d (tN nm l), .d (tN nm g)] ∧ K (.d (.list ((iPairs l g).map ppD))) c
def t_touch_at : DFT := fun xs c K => ∃ (nm : Nat → Str) (l : List Nat) (p : Nat × Nat), p.1 < l.length ∧ p.2 < l.length ∧ xs = [.d (tN nm l), .d (ppD p)] ∧ K (.d (tpD nm (iTouchAt l p))) c
def t_cross : DFT := fun xs c K => ∃ o p : Nat × Nat, xs = [.d (ppD o), .d (ppD p)] ∧ K (.d (.bool (iCross o p))) c
def t_goal_fault : DFT := fun xs c K => ∃ nm n l g, ∃ reach : Nat, Nm nm n ∧ Lt n l ∧ Perm2 l g ∧ l.length ≤ 500 ∧ xs = [.d (tN nm l), .d (tN nm g), .d (.int reach)] ∧ (iFF l g reach = true → K (.d .none) c) ∧ (iFF l g reach = false → ∀ ys, K (.d (.tuple ys)) c)
def t_told_race : DFT := fun xs c K => ∃ nm n l g, Nm nm n ∧ Lt n l ∧ Perm2 l g ∧ l.length ≤ 500 ∧ xs = [.d (tN nm l), .d (tN nm g)] ∧ K (.d (raceD nm (iRace l g))) c
def Told (size reach : Nat) (row other : List Nat) : Option (List Race) := iTold size reach other (iGoing size row.length) row []
def t_told_by : DFT := fun xs c K => ∃ nm n size reach l other, Nm nm n ∧ MtOk size reach ∧ Lt n l ∧ Lt n other ∧ other ≠ [] ∧ l ≠ [] ∧ l.length ≤ 500 ∧ iToldOk size reach other (iGoing size l.length) l = true ∧ xs = [.d (Mt size reach), .d (tN nm l), .d (tN nm other)] ∧
  (∀ rs, Told size reach l other = some rs → K (.d (.tuple [.str "told", .tuple (rs.map (raceD nm))])) c) ∧ (Told size reach l other = none → ∀ y z, K (.d (.tuple [.str "untold", y, z])) c)
def t_days_between : DFT := fun xs c K => ∃ nm n size reach l other, Nm nm n ∧ MtOk size reach ∧ Lt n l ∧ Lt n other ∧ other ≠ [] ∧ l ≠ [] ∧ l.length ≤ 500 ∧ iToldOk size reach other (iGoing size l.length) l = true ∧ xs = [.d (Mt size reach), .d (tN nm l), .d (tN nm other)] ∧
  (∀ rs, Told size reach l other = some rs → rs.length ≤ 100 ∧ (∀ r ∈ rs, r.free.length ≤ 100) ∧ ∀ i : Int, 0 < i → K (.d (.int i)) c) ∧ (Told size reach l other = none → K (.d (.int 0)) c)
end DL
/-! DE1: defs of the text: their terms of rules, printed by gen.py. -/
namespace DL
open PySem PySem.Spec PyProof.Rows L2
variable [TheW]
abbrev st_is_boat : Stmt := top 4
abbrev sc_is_boat : Scope := defScope st_is_boat
abbrev N_is_boat : List Str := ["thing"]
theorem fs_is_boat : FnScope N_is_boat ["thing"] sc_is_boat := ⟨rfl, rfl, rfl, by decide +kernel, rfl, by decide +kernel, by decide +kernel⟩
def u_is_boat : DTS := (dRet (dAnd (dCB gIsi (dCons (dVar 0) (dCons (dR (.ty "str")) dNil))) (dAnd (dChain gLe gLe (dC (.int 1)) (dCB gLen (dCons (dVar 0) dNil)) (dC (.int 8))) (dOp gEq (dStrip (fun s K => (dVar 0) s fun x s1 => isStrD x ∧ K x s1) (dC (.str "abcdefghijklmnopqrstuvwxyz"))) (dC (.str ""))))))
theorem d_is_boat {K : PySem.W.Frag} {mg : Str → Option Value} {base : Heap} {f : Addr} {cdv : Value} {A : Around} {outer : List Env} {s : Shared} {H : Hp} {E : XK} {W : Wd} (M : Mg mg) (hr : Room 0 (cx N_is_boat "is_boat" sc_is_boat K mg base f cdv A outer s H E).A) : DSs (cx N_is_boat "is_boat" sc_is_boat K mg base f cdv A outer s H E) W (defBody st_is_boat) u_is_boat := by
  have nd := fs_is_boat.nd
  exact (dss_one (ds_ret (de_and (de_callB cr_isi rfl M.isinstance (by decide +kernel) (da_cons (dv 0) (da_cons (de_bltn rfl M.str (by decide +kernel)) da_nil))) (de_and (de_chain od_le od_le de_int (de_callB (cr_len ⟨rfl, rfl⟩) rfl M.len boot_len (da_cons (dv 0) da_nil)) (de_gint rfl M.MOST_SIGNS)) (de_one (de_cmp (od_eq hr) (de_strip (dv 0) (de_gstr (by decide +kernel) rfl M.BOAT_SIGNS)) de_str (nomark _)))))))

abbrev st_are_boats : Stmt := top 5
abbrev sc_are_boats : Scope := defScope st_are_boats
abbrev N_are_boats : List Str := ["thing", "boat"]
theorem fs_are_boats : FnScope N_are_boats ["thing"] sc_are_boats := ⟨rfl, rfl, rfl, by decide +kernel, rfl, by decide +kernel, by decide +kernel⟩
def u_are_boats : DTS := (dSeq (dIf (dOrT (dNotT (dTest (dCB gIsi (dCons (dVar 0) (dCons (dR (.ty "tuple")) dNil))))) (dNotT (dTest (dCB gAll (dCons (dOfF (fLc (iSeq (dVar 0)) (dGName 1) dYes (dCallP t_is_boat (cCons (dVar 1) cNil)) [1])) dNil))))) (dRet (dC (.bool false))) dNext)
    (dRet (dOp gEq (dLenSet (dVar 0)) (dCB gLen (dCons (dVar 0) dNil)))))
theorem d_are_boats {K : PySem.W.Frag} {mg : Str → Option Value} {base : Heap} {f : Addr} {cdv : Value} {A : Around} {outer : List Env} {s : Shared} {H : Hp} {E : XK} {W : Wd} (M : Mg mg) (Fis_boat : DFn TheW.P TheW.w K mg base 1 "is_boat" (spP t_is_boat)) (hr : Room 1 (cx N_are_boats "are_boats" sc_are_boats K mg base f cdv A outer s H E).A) : DSs (cx N_are_boats "are_boats" sc_are_boats K mg base f cdv A outer s H E) W (defBody st_are_boats) u_are_boats := by
  have nd := fs_are_boats.nd
  exact (dss_cons (ds_if (dt_w (dw_or (dt_not (dt_val (de_callB cr_isi rfl M.isinstance (by decide +kernel) (da_cons (dv 0) (da_cons (de_bltn rfl M.tuple (by decide +kernel)) da_nil))))) (dw_or1 (dt_not (dt_val (de_callB (cr_allD rfl) rfl M.all (by decide +kernel) (da_cons (de_ofF (df_lc (own := [("boat", 1)]) rfl nd (di_seq (dv 0)) (blkOk_by (N := N_are_boats) (sc := sc_are_boats) (by decide +kernel)) (tg_name (by decide)) (fun _ _ _ _ _ => (pg_name (i := 1) nd rfl (Or.inl rfl))) (fun _ _ _ _ _ _ => dts_nil) (fun _ _ _ _ _ _ => (de_call Fis_boat hr (by decide) rfl (ac_cons (dv 1) ac_nil))))) da_nil))))))) (dss_one (ds_ret de_bl)) dss_nil)
    (dss_one (ds_ret (de_cmp (od_eq hr) (de_lenSet rfl rfl M.len rfl M.set (dv 0)) (de_callB (cr_len ⟨rfl, rfl⟩) rfl M.len boot_len (da_cons (dv 0) da_nil)) (nomark _)))))

abbrev st_is_row : Stmt := top 6
abbrev sc_is_row : Scope := defScope st_is_row
abbrev N_is_row : List Str := ["thing"]
theorem fs_is_row : FnScope N_is_row ["thing"] sc_is_row := ⟨rfl, rfl, rfl, by decide +kernel, rfl, by decide +kernel, by decide +kernel⟩
def u_is_row : DTS := (dRet (dAnd (dCallP t_are_boats (cCons (dVar 0) cNil)) (dChain gLe gLe (dC (.int 1)) (dCB gLen (dCons (dVar 0) dNil)) (dC (.int 24)))))
theorem d_is_row {K : PySem.W.Frag} {mg : Str → Option Value} {base : Heap} {f : Addr} {cdv : Value} {A : Around} {outer : List Env} {s : Shared} {H : Hp} {E : XK} {W : Wd} (M : Mg mg) (Fare_boats : DFn TheW.P TheW.w K mg base 2 "are_boats" (spP t_are_boats)) (hr : Room 2 (cx N_is_row "is_row" sc_is_row K mg base f cdv A outer s H E).A) : DSs (cx N_is_row "is_row" sc_is_row K mg base f cdv A outer s H E) W (defBody st_is_row) u_is_row := by
  have nd := fs_is_row.nd
  exact (dss_one (ds_ret (de_and (de_call Fare_boats hr (by decide) rfl (ac_cons (dv 0) ac_nil)) (de_one (de_chain od_le od_le de_int (de_callB (cr_len ⟨rfl, rfl⟩) rfl M.len boot_len (da_cons (dv 0) da_nil)) (de_gint rfl M.MOST_BOATS))))))

abbrev st_races_of : Stmt := top 7
abbrev sc_races_of : Scope := defScope st_races_of
abbrev N_races_of : List Str := ["meeting", "n", "size", "reach"]
theorem fs_races_of : FnScope N_races_of ["meeting", "n"] sc_races_of := ⟨rfl, rfl, rfl, by decide +kernel, rfl, by decide +kernel, by decide +kernel⟩
def u_races_of : DTS := (dSeq (dAsg (dVar 0) (dGTup 2 (dGCons (dGName 2) (dGCons (dGName 3) dGNil))))
    (dRet (dOp gFdiv (dOp gSub (dOp gAdd (dVar 1) (dVar 2)) (dC (.int 1))) (dVar 2))))
theorem d_races_of {K : PySem.W.Frag} {mg : Str → Option Value} {base : Heap} {f : Addr} {cdv : Value} {A : Around} {outer : List Env} {s : Shared} {H : Hp} {E : XK} {W : Wd} (M : Mg mg) (hr : Room 0 (cx N_races_of "races_of" sc_races_of K mg base f cdv A outer s H E).A) : DSs (cx N_races_of "races_of" sc_races_of K mg base f cdv A outer s H E) W (defBody st_races_of) u_races_of := by
  have nd := fs_races_of.nd
  exact (dss_cons (ds_asg (dv 0) (dg_tup rfl (dgs_cons (dg_name (i := 2) nd rfl (Or.inl rfl)) (dgs_cons (dg_name (i := 3) nd rfl (Or.inl rfl)) dgs_nil))))
    (dss_one (ds_ret (de_op od_fdiv (de_op od_sub (de_op od_add (dv 1) (dv 2)) de_int) (dv 2)))))

abbrev st_span : Stmt := top 8
abbrev sc_span : Scope := defScope st_span
abbrev N_span : List Str := ["meeting", "n", "k", "size", "reach"]
theorem fs_span : FnScope N_span ["meeting", "n", "k"] sc_span := ⟨rfl, rfl, rfl, by decide +kernel, rfl, by decide +kernel, by decide +kernel⟩
def u_span : DTS := (dSeq (dAsg (dVar 0) (dGTup 2 (dGCons (dGName 3) (dGCons (dGName 4) dGNil))))
    (dRet (dTup (cCons (dOp gMul (dVar 2) (dVar 3)) (cCons (dCB gMin2 (dCons (dOp gAdd (dOp gMul (dVar 2) (dVar 3)) (dVar 3)) (dCons (dOp gSub (dVar 1) (dC (.int 1))) dNil))) cNil)))))
theorem d_span {K : PySem.W.Frag} {mg : Str → Option Value} {base : Heap} {f : Addr} {cdv : Value} {A : Around} {outer : List Env} {s : Shared} {H : Hp} {E : XK} {W : Wd} (M : Mg mg) (hr : Room 0 (cx N_span "span" sc_span K mg base f cdv A outer s H E).A) : DSs (cx N_span "span" sc_span K mg base f cdv A outer s H E) W (defBody st_span) u_span := by
  have nd := fs_span.nd
  exact (dss_cons (ds_asg (dv 0) (dg_tup rfl (dgs_cons (dg_name (i := 3) nd rfl (Or.inl rfl)) (dgs_cons (dg_name (i := 4) nd rfl (Or.inl rfl)) dgs_nil))))
    (dss_one (ds_ret (de_tup (da_of (ac_cons (de_op od_mul (dv 2) (dv 3)) (ac_cons (de_callB (cr_min2 rfl) rfl M.min (by decide +kernel) (da_cons (de_op od_add (de_op od_mul (dv 2) (dv 3)) (dv 3)) (da_cons (de_op od_sub (dv 1) de_int) da_nil))) ac_nil)))))))

abbrev st_exchanged : Stmt := top 9
abbrev sc_exchanged : Scope := defScope st_exchanged
abbrev N_exchanged : List Str := ["row", "one", "other", "boats"]
theorem fs_exchanged : FnScope N_exchanged ["row", "one", "other"] sc_exchanged := ⟨rfl, rfl, rfl, by decide +kernel, rfl, by decide +kernel, by decide +kernel⟩
def u_exchanged : DTS := (dSeq (dOwn 3 (fList (dCons (dVar 0) dNil)))
    (dSeq (dAsg (dIx (dVar 0) (dVar 2)) (dGSub 3 (dVar 1)))
    (dSeq (dAsg (dIx (dVar 0) (dVar 1)) (dGSub 3 (dVar 2)))
    (dRet (dCB gTuple (dCons (dVar 3) dNil))))))
theorem d_exchanged {K : PySem.W.Frag} {mg : Str → Option Value} {base : Heap} {f : Addr} {cdv : Value} {A : Around} {outer : List Env} {s : Shared} {H : Hp} {E : XK} {W : Wd} (M : Mg mg) (hr : Room 0 (cx N_exchanged "exchanged" sc_exchanged K mg base f cdv A outer s H E).A) : DSs (cx N_exchanged "exchanged" sc_exchanged K mg base f cdv A outer s H E) W (defBody st_exchanged) u_exchanged := by
  have nd := fs_exchanged.nd
  exact (dss_cons (ds_own (i := 3) nd rfl (Or.inl rfl) (df_list rfl M.list (da_cons (dv 0) da_nil)))
    (dss_cons (ds_asg (de_ix ⟨rfl, rfl⟩ hr (dv 0) (dv 2) (fun _ _ => rfl)) (dg_sub (i := 3) ⟨rfl, rfl⟩ hr (dv 1)))
    (dss_cons (ds_asg (de_ix ⟨rfl, rfl⟩ hr (dv 0) (dv 1) (fun _ _ => rfl)) (dg_sub (i := 3) ⟨rfl, rfl⟩ hr (dv 2)))
    (dss_one (ds_ret (de_callTy cr_tuple rfl M.tuple (by decide +kernel) (da_cons (dv 3) da_nil)))))))

abbrev st_is_event : Stmt := top 11
abbrev sc_is_event : Scope := defScope st_is_event
abbrev N_is_event : List Str := ["thing", "boat"]
theorem fs_is_event : FnScope N_is_event ["thing"] sc_is_event := ⟨rfl, rfl, rfl, by decide +kernel, rfl, by decide +kernel, by decide +kernel⟩
def u_is_event : DTS := (dSeq (dIf (dOrT (dNotT (dTest (dCB gIsi (dCons (dVar 0) (dCons (dR (.ty "tuple")) dNil))))) (dOrT (dTest (dOp gLt (dCB gLen (dCons (dVar 0) dNil)) (dC (.int 2)))) (dNotT (dTest (dCB gAll (dCons (dOfF (fLc (iSeq (dSl (dVar 0) (dPart (dC (.int 1))) dNo)) (dGName 1) dYes (dCallP t_is_boat (cCons (dVar 1) cNil)) [1])) dNil)))))) (dRet (dC (.bool false))) dNext)
    (dSeq (dIf (dTest (dOp gEq (dCB gLen (dCons (dVar 0) dNil)) (dC (.int 2)))) (dRet (dOp gEq (dIx (dVar 0) (dC (.int 0))) (dC (.str "drop")))) dNext)
    (dRet (dAnd (dOp gEq (dCB gLen (dCons (dVar 0) dNil)) (dC (.int 3))) (dAnd (dOp gEq (dIx (dVar 0) (dC (.int 0))) (dC (.str "touch"))) (dOp gNe (dIx (dVar 0) (dC (.int 1))) (dIx (dVar 0) (dC (.int 2)))))))))
theorem d_is_event {K : PySem.W.Frag} {mg : Str → Option Value} {base : Heap} {f : Addr} {cdv : Value} {A : Around} {outer : List Env} {s : Shared} {H : Hp} {E : XK} {W : Wd} (M : Mg mg) (Fis_boat : DFn TheW.P TheW.w K mg base 1 "is_boat" (spP t_is_boat)) (hr : Room 1 (cx N_is_event "is_event" sc_is_event K mg base f cdv A outer s H E).A) : DSs (cx N_is_event "is_event" sc_is_event K mg base f cdv A outer s H E) W (defBody st_is_event) u_is_event := by
  have nd := fs_is_event.nd
  exact (dss_cons (ds_if (dt_w (dw_or (dt_not (dt_val (de_callB cr_isi rfl M.isinstance (by decide +kernel) (da_cons (dv 0) (da_cons (de_bltn rfl M.tuple (by decide +kernel)) da_nil))))) (dw_or (dt_cmp (od_lt hr) (de_callB (cr_len ⟨rfl, rfl⟩) rfl M.len boot_len (da_cons (dv 0) da_nil)) de_int (nomark _)) (dw_or1 (dt_not (dt_val (de_callB (cr_allD rfl) rfl M.all (by decide +kernel) (da_cons (de_ofF (df_lc (own := [("boat", 1)]) rfl nd (di_seq (de_slice (dv 0) (do_some de_int) do_none)) (blkOk_by (N := N_is_event) (sc := sc_is_event) (by decide +kernel)) (tg_name (by decide)) (fun _ _ _ _ _ => (pg_name (i := 1) nd rfl (Or.inl rfl))) (fun _ _ _ _ _ _ => dts_nil) (fun _ _ _ _ _ _ => (de_call Fis_boat hr (by decide) rfl (ac_cons (dv 1) ac_nil))))) da_nil)))))))) (dss_one (ds_ret de_bl)) dss_nil)
    (dss_cons (ds_if (dt_cmp (od_eq hr) (de_callB (cr_len ⟨rfl, rfl⟩) rfl M.len boot_len (da_cons (dv 0) da_nil)) de_int (nomark _)) (dss_one (ds_ret (de_cmp (od_eq hr) (de_ix ⟨rfl, rfl⟩ hr (dv 0) de_int (fun _ _ => rfl)) de_str (nomark _)))) dss_nil)
    (dss_one (ds_ret (de_and (de_cmp (od_eq hr) (de_callB (cr_len ⟨rfl, rfl⟩) rfl M.len boot_len (da_cons (dv 0) da_nil)) de_int (nomark _)) (de_and (de_cmp (od_eq hr) (de_ix ⟨rfl, rfl⟩ hr (dv 0) de_int (fun _ _ => rfl)) de_str (nomark _)) (de_one (de_cmp (od_ne hr) (de_ix ⟨rfl, rfl⟩ hr (dv 0) de_int (fun _ _ => rfl)) (de_ix ⟨rfl, rfl⟩ hr (dv 0) de_int (fun _ _ => rfl)) (nomark _)))))))))

abbrev st_boats_between : Stmt := top 12
abbrev sc_boats_between : Scope := defScope st_boats_between
abbrev N_boats_between : List Str := ["start", "event", "one", "other"]
theorem fs_boats_between : FnScope N_boats_between ["start", "event"] sc_boats_between := ⟨rfl, rfl, rfl, by decide +kernel, rfl, by decide +kernel, by decide +kernel⟩
def u_boats_between : DTS := (dSeq (dPar 2 3 (cCons (dTIx (dVar 0) (dIx (dVar 1) (dC (.int 1)))) (cCons (dTIx (dVar 0) (dIx (dVar 1) (dC (.int 2)))) cNil)))
    (dRet (dSl (dVar 0) (dPart (dOp gAdd (dCB gMin2 (dCons (dVar 2) (dCons (dVar 3) dNil))) (dC (.int 1)))) (dPart (dCB gMax2 (dCons (dVar 2) (dCons (dVar 3) dNil)))))))
theorem d_boats_between {K : PySem.W.Frag} {mg : Str → Option Value} {base : Heap} {f : Addr} {cdv : Value} {A : Around} {outer : List Env} {s : Shared} {H : Hp} {E : XK} {W : Wd} (M : Mg mg) (hr : Room 0 (cx N_boats_between "boats_between" sc_boats_between K mg base f cdv A outer s H E).A) : DSs (cx N_boats_between "boats_between" sc_boats_between K mg base f cdv A outer s H E) W (defBody st_boats_between) u_boats_between := by
  have nd := fs_boats_between.nd
  exact (dss_cons (ds_par (i := 2) (j := 3) rfl nd rfl rfl (by decide) rfl rfl (ac_cons (de_tindex (dv 0) (de_ix ⟨rfl, rfl⟩ hr (dv 1) de_int (fun _ _ => rfl))) (ac_cons (de_tindex (dv 0) (de_ix ⟨rfl, rfl⟩ hr (dv 1) de_int (fun _ _ => rfl))) ac_nil)) rfl)
    (dss_one (ds_ret (de_slice (dv 0) (do_some (de_op od_add (de_callB (cr_min2 rfl) rfl M.min (by decide +kernel) (da_cons (dv 2) (da_cons (dv 3) da_nil))) de_int)) (do_some (de_callB (cr_max2 rfl) rfl M.max (by decide +kernel) (da_cons (dv 2) (da_cons (dv 3) da_nil))))))))

abbrev st_goes_ahead : Stmt := top 13
abbrev sc_goes_ahead : Scope := defScope st_goes_ahead
abbrev N_goes_ahead : List Str := ["start", "event"]
theorem fs_goes_ahead : FnScope N_goes_ahead ["start", "event"] sc_goes_ahead := ⟨rfl, rfl, rfl, by decide +kernel, rfl, by decide +kernel, by decide +kernel⟩
def u_goes_ahead : DTS := (dRet (dOp gLt (dTIx (dVar 0) (dIx (dVar 1) (dC (.int 2)))) (dTIx (dVar 0) (dIx (dVar 1) (dC (.int 1))))))
theorem d_goes_ahead {K : PySem.W.Frag} {mg : Str → Option Value} {base : Heap} {f : Addr} {cdv : Value} {A : Around} {outer : List Env} {s : Shared} {H : Hp} {E : XK} {W : Wd} (M : Mg mg) (hr : Room 0 (cx N_goes_ahead "goes_ahead" sc_goes_ahead K mg base f cdv A outer s H E).A) : DSs (cx N_goes_ahead "goes_ahead" sc_goes_ahead K mg base f cdv A outer s H E) W (defBody st_goes_ahead) u_goes_ahead := by
  have nd := fs_goes_ahead.nd
  exact (dss_one (ds_ret (de_cmp (od_lt hr) (de_tindex (dv 0) (de_ix ⟨rfl, rfl⟩ hr (dv 1) de_int (fun _ _ => rfl))) (de_tindex (dv 0) (de_ix ⟨rfl, rfl⟩ hr (dv 1) de_int (fun _ _ => rfl))) (nomark _))))

abbrev st_is_sheet : Stmt := top 14
abbrev sc_is_sheet : Scope := defScope st_is_sheet
abbrev N_is_sheet : List Str := ["thing", "event", "one", "other"]
theorem fs_is_sheet : FnScope N_is_sheet ["thing"] sc_is_sheet := ⟨rfl, rfl, rfl, by decide +kernel, rfl, by decide +kernel, by decide +kernel⟩
def u_is_sheet : DTS := (dSeq (dIf (dOrT (dNotT (dTest (dCB gIsi (dCons (dVar 0) (dCons (dR (.ty "tuple")) dNil))))) (dNotT (dTest (dCB gAll (dCons (dOfF (fLc (iSeq (dVar 0)) (dGName 1) dYes (dCallP t_is_event (cCons (dVar 1) cNil)) [1])) dNil))))) (dRet (dC (.bool false))) dNext)
    (dRet (dCB gAll (dCons (dOfF (fLc (iZip (cCons (dVar 0) (cCons (dSl (dVar 0) (dPart (dC (.int 1))) dNo) cNil))) (dGTup 2 (dGCons (dGName 2) (dGCons (dGName 3) dGNil))) dYes (dOp gLt (dVar 2) (dVar 3)) [2, 3])) dNil))))
theorem d_is_sheet {K : PySem.W.Frag} {mg : Str → Option Value} {base : Heap} {f : Addr} {cdv : Value} {A : Around} {outer : List Env} {s : Shared} {H : Hp} {E : XK} {W : Wd} (M : Mg mg) (Fis_event : DFn TheW.P TheW.w K mg base 2 "is_event" (spP t_is_event)) (hr : Room 2 (cx N_is_sheet "is_sheet" sc_is_sheet K mg base f cdv A outer s H E).A) : DSs (cx N_is_sheet "is_sheet" sc_is_sheet K mg base f cdv A outer s H E) W (defBody st_is_sheet) u_is_sheet := by
  have nd := fs_is_sheet.nd
  exact (dss_cons (ds_if (dt_w (dw_or (dt_not (dt_val (de_callB cr_isi rfl M.isinstance (by decide +kernel) (da_cons (dv 0) (da_cons (de_bltn rfl M.tuple (by decide +kernel)) da_nil))))) (dw_or1 (dt_not (dt_val (de_callB (cr_allD rfl) rfl M.all (by decide +kernel) (da_cons (de_ofF (df_lc (own := [("event", 1)]) rfl nd (di_seq (dv 0)) (blkOk_by (N := N_is_sheet) (sc := sc_is_sheet) (by decide +kernel)) (tg_name (by decide)) (fun _ _ _ _ _ => (pg_name (i := 1) nd rfl (Or.inl rfl))) (fun _ _ _ _ _ _ => dts_nil) (fun _ _ _ _ _ _ => (de_call Fis_event hr (by decide) rfl (ac_cons (dv 1) ac_nil))))) da_nil))))))) (dss_one (ds_ret de_bl)) dss_nil)
    (dss_one (ds_ret (de_callB (cr_allD rfl) rfl M.all (by decide +kernel) (da_cons (de_ofF (df_lc (own := [("one", 2), ("other", 3)]) rfl nd (di_zip rfl M.zip (ac_cons (dv 0) (ac_cons (de_slice (dv 0) (do_some de_int) do_none) ac_nil))) (blkOk_by (N := N_is_sheet) (sc := sc_is_sheet) (by decide +kernel)) (tg_tup (tgs_cons (tg_name (by decide)) (tgs_cons (tg_name (by decide)) tgs_nil))) (fun _ _ _ _ _ => (pg_tup rfl (pgs_cons (pg_name (i := 2) nd rfl (Or.inl rfl)) (pgs_cons (pg_name (i := 3) nd rfl (Or.inl rfl)) pgs_nil)))) (fun _ _ _ _ _ _ => dts_nil) (fun _ _ _ _ _ _ => (de_cmp (od_lt hr) (dv 2) (dv 3) (nomark _))))) da_nil)))))

abbrev st_touches_in : Stmt := top 15
abbrev sc_touches_in : Scope := defScope st_touches_in
abbrev N_touches_in : List Str := ["sheet", "event"]
theorem fs_touches_in : FnScope N_touches_in ["sheet"] sc_touches_in := ⟨rfl, rfl, rfl, by decide +kernel, rfl, by decide +kernel, by decide +kernel⟩
def u_touches_in : DTS := (dRet (dOfF (fLc (iSeq (dVar 0)) (dGName 1) (dTest (dOp gEq (dIx (dVar 1) (dC (.int 0))) (dC (.str "touch")))) (dVar 1) [1])))
theorem d_touches_in {K : PySem.W.Frag} {mg : Str → Option Value} {base : Heap} {f : Addr} {cdv : Value} {A : Around} {outer : List Env} {s : Shared} {H : Hp} {E : XK} {W : Wd} (M : Mg mg) (hr : Room 0 (cx N_touches_in "touches_in" sc_touches_in K mg base f cdv A outer s H E).A) : DSs (cx N_touches_in "touches_in" sc_touches_in K mg base f cdv A outer s H E) W (defBody st_touches_in) u_touches_in := by
  have nd := fs_touches_in.nd
  exact (dss_one (ds_ret (de_ofF (df_lc (own := [("event", 1)]) rfl nd (di_seq (dv 0)) (blkOk_by (N := N_touches_in) (sc := sc_touches_in) (by decide +kernel)) (tg_name (by decide)) (fun _ _ _ _ _ => (pg_name (i := 1) nd rfl (Or.inl rfl))) (fun _ _ _ _ _ _ => (dts_one (dt_cmp (od_eq hr) (de_ix ⟨rfl, rfl⟩ hr (dv 1) de_int (fun _ _ => rfl)) de_str (nomark _)))) (fun _ _ _ _ _ _ => (dv 1))))))

abbrev st_row_behind : Stmt := top 16
abbrev sc_row_behind : Scope := defScope st_row_behind
abbrev N_row_behind : List Str := ["start", "sheet", "row", "event"]
theorem fs_row_behind : FnScope N_row_behind ["start", "sheet"] sc_row_behind := ⟨rfl, rfl, rfl, by decide +kernel, rfl, by decide +kernel, by decide +kernel⟩
def u_row_behind : DTS := (dSeq (dSet 2 (dVar 0))
    (dSeq (dFor (iSeq (dCallP t_touches_in (cCons (dVar 1) cNil))) (dGName 3) (dSet 2 (dCallP t_exchanged (cCons (dVar 2) (cCons (dTIx (dVar 0) (dIx (dVar 3) (dC (.int 1)))) (cCons (dTIx (dVar 0) (dIx (dVar 3) (dC (.int 2)))) cNil))))))
    (dRet (dVar 2))))
theorem d_row_behind {K : PySem.W.Frag} {mg : Str → Option Value} {base : Heap} {f : Addr} {cdv : Value} {A : Around} {outer : List Env} {s : Shared} {H : Hp} {E : XK} {W : Wd} (M : Mg mg) (Ftouches_in : DFn TheW.P TheW.w K mg base 1 "touches_in" (spP t_touches_in)) (Fexchanged : DFn TheW.P TheW.w K mg base 1 "exchanged" (spP t_exchanged)) (hr : Room 1 (cx N_row_behind "row_behind" sc_row_behind K mg base f cdv A outer s H E).A) : DSs (cx N_row_behind "row_behind" sc_row_behind K mg base f cdv A outer s H E) W (defBody st_row_behind) u_row_behind := by
  have nd := fs_row_behind.nd
  exact (dss_cons (ds_set (i := 2) nd rfl (Or.inl rfl) (dv 0))
    (dss_cons (ds_for PassesOwn.never rfl (di_seq (de_call Ftouches_in hr (by decide) rfl (ac_cons (dv 1) ac_nil))) (dg_name (i := 3) nd rfl (Or.inl rfl)) (dss_one (ds_set (i := 2) nd rfl (Or.inl rfl) (de_call Fexchanged hr (by decide) rfl (ac_cons (dv 2) (ac_cons (de_tindex (dv 0) (de_ix ⟨rfl, rfl⟩ hr (dv 3) de_int (fun _ _ => rfl))) (ac_cons (de_tindex (dv 0) (de_ix ⟨rfl, rfl⟩ hr (dv 3) de_int (fun _ _ => rfl))) ac_nil)))))))
    (dss_one (ds_ret (dv 2)))))

abbrev st_strange_or_twice : Stmt := top 17
abbrev sc_strange_or_twice : Scope := defScope st_strange_or_twice
abbrev N_strange_or_twice : List Str := ["start", "sheet", "met", "event", "boat"]
theorem fs_strange_or_twice : FnScope N_strange_or_twice ["start", "sheet"] sc_strange_or_twice := ⟨rfl, rfl, rfl, by decide +kernel, rfl, by decide +kernel, by decide +kernel⟩
def u_strange_or_twice : DTS := (dSeq (dOwn 2 fDK)
    (dSeq (dFor (iSeq (dVar 1)) (dGName 3) (dFor (iSeq (dSl (dVar 3) (dPart (dC (.int 1))) dNo)) (dGName 4) (dSeq (dIf (dTest (dOp gNotIn (dVar 4) (dVar 0))) (dRet (dTup (cCons (dC (.str "strange")) (cCons (dVar 4) cNil)))) dNext)
    (dSeq (dIf (dTest (dInK 2 (dVar 4))) (dRet (dTup (cCons (dC (.str "twice")) (cCons (dVar 4) cNil)))) dNext)
    (dAsg (dC (.bool true)) (dGSub 2 (dVar 4)))))))
    (dRet (dC .none))))
theorem d_strange_or_twice {K : PySem.W.Frag} {mg : Str → Option Value} {base : Heap} {f : Addr} {cdv : Value} {A : Around} {outer : List Env} {s : Shared} {H : Hp} {E : XK} {W : Wd} (M : Mg mg) (hr : Room 0 (cx N_strange_or_twice "strange_or_twice" sc_strange_or_twice K mg base f cdv A outer s H E).A) : DSs (cx N_strange_or_twice "strange_or_twice" sc_strange_or_twice K mg base f cdv A outer s H E) W (defBody st_strange_or_twice) u_strange_or_twice := by
  have nd := fs_strange_or_twice.nd
  exact (dss_cons (ds_own (i := 2) nd rfl (Or.inl rfl) df_dK)
    (dss_cons (ds_for PassesOwn.never rfl (di_seq (dv 1)) (dg_name (i := 3) nd rfl (Or.inl rfl)) (dss_one (ds_for PassesOwn.never rfl (di_seq (de_slice (dv 3) (do_some de_int) do_none)) (dg_name (i := 4) nd rfl (Or.inl rfl)) (dss_cons (ds_if (dt_cmp (od_notIn ⟨rfl, rfl⟩ hr) (dv 4) (dv 0) (by with_unfolding_all rfl)) (dss_one (ds_ret (de_tup (da_of (ac_cons de_str (ac_cons (dv 4) ac_nil)))))) dss_nil)
    (dss_cons (ds_if (dt_inK (i := 2) hr (dv 4)) (dss_one (ds_ret (de_tup (da_of (ac_cons de_str (ac_cons (dv 4) ac_nil)))))) dss_nil)
    (dss_one (ds_asg de_bl (dg_sub (i := 2) ⟨rfl, rfl⟩ hr (dv 4)))))))))
    (dss_one (ds_ret de_non))))

abbrev st_touch_fault : Stmt := top 18
abbrev sc_touch_fault : Scope := defScope st_touch_fault
abbrev N_touch_fault : List Str := ["start", "reach", "sheet", "event", "between", "boat", "other"]
theorem fs_touch_fault : FnScope N_touch_fault ["start", "reach", "sheet", "event"] sc_touch_fault := ⟨rfl, rfl, rfl, by decide +kernel, rfl, by decide +kernel, by decide +kernel⟩
def u_touch_fault : DTS := (dSeq (dIf (dNotT (dTest (dCallP t_goes_ahead (cCons (dVar 0) (cCons (dVar 3) cNil))))) (dRet (dTup (cCons (dC (.str "wrong")) (cCons (dVar 3) cNil)))) dNext)
    (dSeq (dSet 4 (dCallP t_boats_between (cCons (dVar 0) (cCons (dVar 3) cNil))))
    (dSeq (dIf (dTest (dOp gGt (dCB gLen (dCons (dVar 4) dNil)) (dVar 1))) (dRet (dTup (cCons (dC (.str "far")) (cCons (dVar 3) cNil)))) dNext)
    (dSeq (dFor (iSeq (dVar 4)) (dGName 5) (dIf (dNotT (dTest (dCB gAny (dCons (dOfF (fLc (iSeq (dVar 2)) (dGName 6) dYes (dOp gIn (dVar 5) (dSl (dVar 6) (dPart (dC (.int 1))) dNo)) [6])) dNil)))) (dRet (dTup (cCons (dC (.str "stays")) (cCons (dVar 3) (cCons (dVar 5) cNil))))) dNext))
    (dRet (dC .none))))))
theorem d_touch_fault {K : PySem.W.Frag} {mg : Str → Option Value} {base : Heap} {f : Addr} {cdv : Value} {A : Around} {outer : List Env} {s : Shared} {H : Hp} {E : XK} {W : Wd} (M : Mg mg) (Fboats_between : DFn TheW.P TheW.w K mg base 1 "boats_between" (spP t_boats_between)) (Fgoes_ahead : DFn TheW.P TheW.w K mg base 1 "goes_ahead" (spP t_goes_ahead)) (hr : Room 1 (cx N_touch_fault "touch_fault" sc_touch_fault K mg base f cdv A outer s H E).A) : DSs (cx N_touch_fault "touch_fault" sc_touch_fault K mg base f cdv A outer s H E) W (defBody st_touch_fault) u_touch_fault := by
  have nd := fs_touch_fault.nd
  exact (dss_cons (ds_if (dt_not (dt_val (de_call Fgoes_ahead hr (by decide) rfl (ac_cons (dv 0) (ac_cons (dv 3) ac_nil))))) (dss_one (ds_ret (de_tup (da_of (ac_cons de_str (ac_cons (dv 3) ac_nil)))))) dss_nil)
    (dss_cons (ds_set (i := 4) nd rfl (Or.inl rfl) (de_call Fboats_between hr (by decide) rfl (ac_cons (dv 0) (ac_cons (dv 3) ac_nil))))
    (dss_cons (ds_if (dt_cmp od_gt (de_callB (cr_len ⟨rfl, rfl⟩) rfl M.len boot_len (da_cons (dv 4) da_nil)) (dv 1) (nomark _)) (dss_one (ds_ret (de_tup (da_of (ac_cons de_str (ac_cons (dv 3) ac_nil)))))) dss_nil)
    (dss_cons (ds_for PassesOwn.never rfl (di_seq (dv 4)) (dg_name (i := 5) nd rfl (Or.inr rfl)) (dss_one (ds_if (dt_not (dt_val (de_callB (cr_anyD rfl) rfl M.any (by decide +kernel) (da_cons (de_ofF (df_lc (own := [("other", 6)]) rfl nd (di_seq (dv 2)) (blkOk_by (N := N_touch_fault) (sc := sc_touch_fault) (by decide +kernel)) (tg_name (by decide)) (fun _ _ _ _ _ => (pg_name (i := 6) nd rfl (Or.inl rfl))) (fun _ _ _ _ _ _ => dts_nil) (fun _ _ _ _ _ _ => (de_cmp (od_in ⟨rfl, rfl⟩ hr) (dv 5) (de_slice (dv 6) (do_some de_int) do_none) (by with_unfolding_all rfl))))) da_nil)))) (dss_one (ds_ret (de_tup (da_of (ac_cons de_str (ac_cons (dv 3) (ac_cons (dv 5) ac_nil))))))) dss_nil)))
    (dss_one (ds_ret de_non))))))

abbrev st_is_crossed : Stmt := top 19
abbrev sc_is_crossed : Scope := defScope st_is_crossed
abbrev N_is_crossed : List Str := ["start", "one", "other", "between"]
theorem fs_is_crossed : FnScope N_is_crossed ["start", "one", "other"] sc_is_crossed := ⟨rfl, rfl, rfl, by decide +kernel, rfl, by decide +kernel, by decide +kernel⟩
def u_is_crossed : DTS := (dSeq (dSet 3 (dCallP t_boats_between (cCons (dVar 0) (cCons (dVar 1) cNil))))
    (dRet (dOp gNe (dOp gIn (dIx (dVar 2) (dC (.int 1))) (dVar 3)) (dOp gIn (dIx (dVar 2) (dC (.int 2))) (dVar 3)))))
theorem d_is_crossed {K : PySem.W.Frag} {mg : Str → Option Value} {base : Heap} {f : Addr} {cdv : Value} {A : Around} {outer : List Env} {s : Shared} {H : Hp} {E : XK} {W : Wd} (M : Mg mg) (Fboats_between : DFn TheW.P TheW.w K mg base 1 "boats_between" (spP t_boats_between)) (hr : Room 1 (cx N_is_crossed "is_crossed" sc_is_crossed K mg base f cdv A outer s H E).A) : DSs (cx N_is_crossed "is_crossed" sc_is_crossed K mg base f cdv A outer s H E) W (defBody st_is_crossed) u_is_crossed := by
  have nd := fs_is_crossed.nd
  exact (dss_cons (ds_set (i := 3) nd rfl (Or.inl rfl) (de_call Fboats_between hr (by decide) rfl (ac_cons (dv 0) (ac_cons (dv 1) ac_nil))))
    (dss_one (ds_ret (de_cmp (od_ne hr) (de_cmp (od_in ⟨rfl, rfl⟩ hr) (de_ix ⟨rfl, rfl⟩ hr (dv 2) de_int (fun _ _ => rfl)) (dv 3) (by with_unfolding_all rfl)) (de_cmp (od_in ⟨rfl, rfl⟩ hr) (de_ix ⟨rfl, rfl⟩ hr (dv 2) de_int (fun _ _ => rfl)) (dv 3) (by with_unfolding_all rfl)) (nomark _)))))

abbrev st_fault_of : Stmt := top 20
abbrev sc_fault_of : Scope := defScope st_fault_of
abbrev N_fault_of : List Str := ["start", "reach", "sheet", "fault", "touches", "event", "number", "one", "other"]
theorem fs_fault_of : FnScope N_fault_of ["start", "reach", "sheet"] sc_fault_of := ⟨rfl, rfl, rfl, by decide +kernel, rfl, by decide +kernel, by decide +kernel⟩
def u_fault_of : DTS := (dSeq (dSet 3 (dCallP t_strange_or_twice (cCons (dVar 0) (cCons (dVar 2) cNil))))
    (dSeq (dIf (dTest (dOp gIsNot (dVar 3) (dC .none))) (dRet (dVar 3)) dNext)
    (dSeq (dSet 4 (dCallP t_touches_in (cCons (dVar 2) cNil)))
    (dSeq (dFor (iSeq (dVar 4)) (dGName 5) (dSeq (dSet 3 (dCallP t_touch_fault (cCons (dVar 0) (cCons (dVar 1) (cCons (dVar 2) (cCons (dVar 5) cNil))))))
    (dIf (dTest (dOp gIsNot (dVar 3) (dC .none))) (dRet (dVar 3)) dNext)))
    (dSeq (dFor (iEnum (cCons (dVar 4) cNil)) (dGTup 2 (dGCons (dGName 6) (dGCons (dGName 7) dGNil))) (dFor (iSeq (dSl (dVar 4) dNo (dPart (dVar 6)))) (dGName 8) (dIf (dTest (dCallP t_is_crossed (cCons (dVar 0) (cCons (dVar 7) (cCons (dVar 8) cNil))))) (dRet (dTup (cCons (dC (.str "cross")) (cCons (dVar 7) (cCons (dVar 8) cNil))))) dNext)))
    (dRet (dC .none)))))))
theorem d_fault_of {K : PySem.W.Frag} {mg : Str → Option Value} {base : Heap} {f : Addr} {cdv : Value} {A : Around} {outer : List Env} {s : Shared} {H : Hp} {E : XK} {W : Wd} (M : Mg mg) (Fis_crossed : DFn TheW.P TheW.w K mg base 2 "is_crossed" (spP t_is_crossed)) (Ftouch_fault : DFn TheW.P TheW.w K mg base 2 "touch_fault" (spP t_touch_fault)) (Ftouches_in : DFn TheW.P TheW.w K mg base 1 "touches_in" (spP t_touches_in)) (Fstrange_or_twice : DFn TheW.P TheW.w K mg base 1 "strange_or_twice" (spP t_strange_or_twice)) (hr : Room 2 (cx N_fault_of "fault_of" sc_fault_of K mg base f cdv A outer s H E).A) : DSs (cx N_fault_of "fault_of" sc_fault_of K mg base f cdv A outer s H E) W (defBody st_fault_of) u_fault_of := by
  have nd := fs_fault_of.nd
  exact (dss_cons (ds_set (i := 3) nd rfl (Or.inl rfl) (de_call Fstrange_or_twice hr (by decide) rfl (ac_cons (dv 0) (ac_cons (dv 2) ac_nil))))
    (dss_cons (ds_if (dt_cmp od_isNot (dv 3) de_non (nomark _)) (dss_one (ds_ret (dv 3))) dss_nil)
    (dss_cons (ds_set (i := 4) nd rfl (Or.inl rfl) (de_call Ftouches_in hr (by decide) rfl (ac_cons (dv 2) ac_nil)))
    (dss_cons (ds_for PassesOwn.never rfl (di_seq (dv 4)) (dg_name (i := 5) nd rfl (Or.inl rfl)) (dss_cons (ds_set (i := 3) nd rfl (Or.inl rfl) (de_call Ftouch_fault hr (by decide) rfl (ac_cons (dv 0) (ac_cons (dv 1) (ac_cons (dv 2) (ac_cons (dv 5) ac_nil))))))
    (dss_one (ds_if (dt_cmp od_isNot (dv 3) de_non (nomark _)) (dss_one (ds_ret (dv 3))) dss_nil))))
    (dss_cons (ds_for PassesOwn.never rfl (di_enum rfl M.enumerate (ac_cons (dv 4) ac_nil)) (dg_tup rfl (dgs_cons (dg_name (i := 6) nd rfl (Or.inl rfl)) (dgs_cons (dg_name (i := 7) nd rfl (Or.inl rfl)) dgs_nil))) (dss_one (ds_for PassesOwn.never rfl (di_seq (de_slice (dv 4) do_none (do_some (dv 6)))) (dg_name (i := 8) nd rfl (Or.inl rfl)) (dss_one (ds_if (dt_val (de_call Fis_crossed hr (by decide) rfl (ac_cons (dv 0) (ac_cons (dv 7) (ac_cons (dv 8) ac_nil))))) (dss_one (ds_ret (de_tup (da_of (ac_cons de_str (ac_cons (dv 7) (ac_cons (dv 8) ac_nil))))))) dss_nil)))))
    (dss_one (ds_ret de_non)))))))

abbrev st_length_of : Stmt := top 21
abbrev sc_length_of : Scope := defScope st_length_of
abbrev N_length_of : List Str := ["start", "event"]
theorem fs_length_of : FnScope N_length_of ["start", "event"] sc_length_of := ⟨rfl, rfl, rfl, by decide +kernel, rfl, by decide +kernel, by decide +kernel⟩
def u_length_of : DTS := (dSeq (dIf (dTest (dOp gEq (dIx (dVar 1) (dC (.int 0))) (dC (.str "drop")))) (dRet (dC (.int 1))) dNext)
    (dRet (dOp gAdd (dCB gLen (dCons (dCallP t_boats_between (cCons (dVar 0) (cCons (dVar 1) cNil))) dNil)) (dC (.int 2)))))
theorem d_length_of {K : PySem.W.Frag} {mg : Str → Option Value} {base : Heap} {f : Addr} {cdv : Value} {A : Around} {outer : List Env} {s : Shared} {H : Hp} {E : XK} {W : Wd} (M : Mg mg) (Fboats_between : DFn TheW.P TheW.w K mg base 1 "boats_between" (spP t_boats_between)) (hr : Room 1 (cx N_length_of "length_of" sc_length_of K mg base f cdv A outer s H E).A) : DSs (cx N_length_of "length_of" sc_length_of K mg base f cdv A outer s H E) W (defBody st_length_of) u_length_of := by
  have nd := fs_length_of.nd
  exact (dss_cons (ds_if (dt_cmp (od_eq hr) (de_ix ⟨rfl, rfl⟩ hr (dv 1) de_int (fun _ _ => rfl)) de_str (nomark _)) (dss_one (ds_ret de_int)) dss_nil)
    (dss_one (ds_ret (de_op od_add (de_callB (cr_len ⟨rfl, rfl⟩) rfl M.len boot_len (da_cons (de_call Fboats_between hr (by decide) rfl (ac_cons (dv 0) (ac_cons (dv 1) ac_nil))) da_nil)) de_int))))

abbrev st_order_of : Stmt := top 22
abbrev sc_order_of : Scope := defScope st_order_of
abbrev N_order_of : List Str := ["start", "reach", "sheet", "fault", "order", "event", "length"]
theorem fs_order_of : FnScope N_order_of ["start", "reach", "sheet"] sc_order_of := ⟨rfl, rfl, rfl, by decide +kernel, rfl, by decide +kernel, by decide +kernel⟩
def u_order_of : DTS := (dSeq (dSet 3 (dCallP t_fault_of (cCons (dVar 0) (cCons (dVar 1) (cCons (dVar 2) cNil)))))
    (dSeq (dIf (dTest (dOp gIsNot (dVar 3) (dC .none))) (dRet (dTup (cCons (dC (.str "unsound")) (cCons (dVar 3) cNil)))) dNext)
    (dSeq (dOwn 4 (fSrt (dCons (dOfF (fLc (iSeq (dVar 2)) (dGName 5) dYes (dTup (cCons (dCallP t_length_of (cCons (dVar 0) (cCons (dVar 5) cNil))) (cCons (dVar 5) cNil))) [5])) dNil)))
    (dRet (dTup (cCons (dC (.str "course")) (cCons (dCB gTuple (dCons (dOfF (fLc (iSeq (dVar 4)) (dGTup 2 (dGCons (dGName 6) (dGCons (dGName 5) dGNil))) dYes (dVar 5) [6, 5])) dNil)) cNil)))))))
theorem d_order_of {K : PySem.W.Frag} {mg : Str → Option Value} {base : Heap} {f : Addr} {cdv : Value} {A : Around} {outer : List Env} {s : Shared} {H : Hp} {E : XK} {W : Wd} (M : Mg mg) (Flength_of : DFn TheW.P TheW.w K mg base 2 "length_of" (spP t_length_of)) (Ffault_of : DFn TheW.P TheW.w K mg base 3 "fault_of" (spP t_fault_of)) (hr : Room 3 (cx N_order_of "order_of" sc_order_of K mg base f cdv A outer s H E).A) : DSs (cx N_order_of "order_of" sc_order_of K mg base f cdv A outer s H E) W (defBody st_order_of) u_order_of := by
  have nd := fs_order_of.nd
  exact (dss_cons (ds_set (i := 3) nd rfl (Or.inl rfl) (de_call Ffault_of hr (by decide) rfl (ac_cons (dv 0) (ac_cons (dv 1) (ac_cons (dv 2) ac_nil)))))
    (dss_cons (ds_if (dt_cmp od_isNot (dv 3) de_non (nomark _)) (dss_one (ds_ret (de_tup (da_of (ac_cons de_str (ac_cons (dv 3) ac_nil)))))) dss_nil)
    (dss_cons (ds_own (i := 4) nd rfl (Or.inl rfl) (df_sorted ⟨rfl, rfl⟩ hr rfl rfl M.sorted (da_cons (de_ofF (df_lc (own := [("event", 5)]) rfl nd (di_seq (dv 2)) (blkOk_by (N := N_order_of) (sc := sc_order_of) (by decide +kernel)) (tg_name (by decide)) (fun _ _ _ _ _ => (pg_name (i := 5) nd rfl (Or.inl rfl))) (fun _ _ _ _ _ _ => dts_nil) (fun _ _ _ _ _ _ => (de_tup (da_of (ac_cons (de_call Flength_of hr (by decide) rfl (ac_cons (dv 0) (ac_cons (dv 5) ac_nil))) (ac_cons (dv 5) ac_nil))))))) da_nil)))
    (dss_one (ds_ret (de_tup (da_of (ac_cons de_str (ac_cons (de_callTy cr_tuple rfl M.tuple (by decide +kernel) (da_cons (de_ofF (df_lc (own := [("length", 6), ("event", 5)]) rfl nd (di_seq (dv 4)) (blkOk_by (N := N_order_of) (sc := sc_order_of) (by decide +kernel)) (tg_tup (tgs_cons (tg_name (by decide)) (tgs_cons (tg_name (by decide)) tgs_nil))) (fun _ _ _ _ _ => (pg_tup rfl (pgs_cons (pg_name (i := 6) nd rfl (Or.inl rfl)) (pgs_cons (pg_name (i := 5) nd rfl (Or.inl rfl)) pgs_nil)))) (fun _ _ _ _ _ _ => dts_nil) (fun _ _ _ _ _ _ => (dv 5)))) da_nil)) ac_nil)))))))))

end DL
/-! L1: rows and races keep their promises. -/
namespace DL
open PySem PySem.Spec PyProof.Rows L2
variable [TheW]
theorem l_is_boat : Law t_is_boat u_is_boat N_is_boat := by
  rintro xs c K ⟨nm, n, i, hn, hi, rfl, q⟩
  have hl := hn.len i hi
  refine ⟨_, _, rfl, rfl, ifT (by decide) ⟨by omega, ⟨trivial, ifD (by omega) ⟨trivial, ifD (by omega) ⟨⟨_, rfl⟩, by omega, ?_, okD_str, okD_str, ?_⟩⟩⟩⟩⟩
  · rw [hn.low i hi]; decide +kernel
  · refine kEq q ?_
    rw [hn.low i hi]
    exact congrArg PyData.bool (by decide +kernel)
theorem l_are_boats : Law t_are_boats u_are_boats N_are_boats := by
  rintro xs c K ⟨nm, n, l, hn, hl, hd, hlen, rfl, q⟩
  refine ⟨_, _, rfl, rfl, ifF (by decide) ⟨by simp; omega, ?_⟩⟩
  rw [List.map_map]
  refine lc_map (fun i => .d (sB nm i)) (fun _ => .bool true) l _ (fun a Kt Kf ha h => ?_) ?_
  · exact ⟨nm, n, a, hn, hl a ha, rfl, h⟩
  · refine ⟨l.map fun _ => true, by rw [← asBools_map, List.map_map]; rfl, ?_⟩
    refine ifF (by simp) ⟨_, asStrs_sB l, hn.nodup hl hd, by simp; omega, okD_int, okD_int, kEq q ?_⟩
    simp [PyData.eqv]
theorem l_is_row : Law t_is_row u_is_row N_is_row := by
  rintro xs c K ⟨nm, n, l, hn, hl, hd, hlen, hne, rfl, q⟩
  have h1 : 1 ≤ l.length := List.length_pos_iff.mpr hne
  refine ⟨nm, n, l, hn, hl, hd, hlen, rfl, ifT rfl ⟨trivial, ifD (by simp; omega) ⟨trivial, kEq q ?_⟩⟩⟩
  exact congrArg PyData.bool (decide_eq_true (by simp; omega)).symm
theorem l_races_of : Law t_races_of u_races_of N_races_of := by
  rintro xs c K ⟨size, reach, n, ⟨h1, h2, h3⟩, h4, rfl, q⟩
  refine ⟨rfl, rfl, trivial, ⟨by omega, by omega⟩, kEq q ?_⟩
  unfold iRaces
  congr 1
  rw [Int.natCast_ediv]
  congr 1
  omega
theorem l_span : Law t_span u_span N_span := by
  rintro xs c K ⟨size, reach, n, k, ⟨h1, h2, h3⟩, h5, h6, rfl, q⟩
  refine ⟨rfl, rfl, ⟨by omega, by omega⟩, ⟨by omega, by omega⟩, trivial, by simp, kEq q ?_⟩
  have e : ((n - 1 : Nat) : Int) = (n : Int) - 1 := by omega
  have e2 : ((k * size : Nat) : Int) = (k : Int) * size := by simp
  have e3 : ((iLast size n k : Nat) : Int) = if (n : Int) - 1 < (k : Int) * size + size then (n : Int) - 1 else (k : Int) * size + size := by
    unfold iLast
    rw [← e, ← e2]
    split <;> omega
  rw [e2, e3]
theorem getD_some {l : List Nat} {i : Nat} (h : i < l.length) : l[i]? = some (l.getD i 0) := by
  rw [List.getD_eq_getElem?_getD, List.getElem?_eq_getElem h]; rfl
theorem l_exchanged : Law t_exchanged u_exchanged N_exchanged := by
  rintro xs c K ⟨nm, l, i, j, hi, hj, rfl, q⟩
  refine ⟨_, atI_m (getD_some hj), ⟨_, rfl⟩, i, ixN_nat (by simpa using hi), _, atI_m (getD_some hi), ⟨_, rfl⟩, j, ixN_nat (by simpa using hj), kEq q ?_⟩
  unfold tN iExch
  simp [List.map_set]
theorem l_is_event : Law t_is_event u_is_event N_is_event := by
  rintro xs c K ⟨nm, n, e, hn, he, hne, rfl, q⟩
  cases e with
  | t a b =>
    have ha : a < n := he a (by simp [Ev.boats])
    have hb : b < n := he b (by simp [Ev.boats])
    refine ⟨_, _, rfl, rfl, ifF (by decide) ⟨(by show (2 : Nat) ≤ 100000; decide), ?_⟩⟩
    refine lc_map (l := [a, b]) (fun i => .d (sB nm i)) (fun _ => .bool true) _ (fun x Kt Kf hx h => ?_) ?_
    · exact ⟨nm, n, x, hn, he x hx, rfl, h⟩
    · refine ⟨[true, true], rfl, ifF (by decide) ⟨okD_int, okD_int, ifF (by simp [PyData.eqv]) ⟨okD_int, okD_int, ifT (by simp [PyData.eqv]) ⟨_, rfl, okD_str, okD_str, ifT (by decide +kernel) ⟨_, rfl, _, rfl, okD_sB, okD_sB, kEq q ?_⟩⟩⟩⟩⟩
      rw [hn.eq ha hb, decide_eq_false (hne a b rfl)]
      rfl
  | d a =>
    have ha : a < n := he a (by simp [Ev.boats])
    refine ⟨_, _, rfl, rfl, ifF (by decide) ⟨(by show (1 : Nat) ≤ 100000; decide), ?_⟩⟩
    refine lc_map (l := [a]) (fun i => .d (sB nm i)) (fun _ => .bool true) _ (fun x Kt Kf hx h => ?_) ?_
    · exact ⟨nm, n, x, hn, he x hx, rfl, h⟩
    · refine ⟨[true], rfl, ifF (by decide) ⟨okD_int, okD_int, ifT (by simp [PyData.eqv]) ⟨_, rfl, okD_str, okD_str, kEq q ?_⟩⟩⟩
      exact congrArg PyData.bool (by decide +kernel)
theorem l_boats_between : Law t_boats_between u_boats_between N_boats_between := by
  rintro xs c K ⟨nm, n, l, a, b, hn, hl, ha, hb, rfl, q⟩
  refine ⟨⟨_, rfl⟩, _, rfl, _, _, asStrs_sB l, hn.ix hl ha (hl a ha), ⟨_, rfl⟩, _, rfl, _, _, asStrs_sB l, hn.ix hl hb (hl b hb), kEq q ?_⟩
  have e1 : (if ((l.idxOf b : Nat) : Int) < (l.idxOf a : Nat) then ((l.idxOf b : Nat) : Int) else (l.idxOf a : Nat)) + 1 = ((min (l.idxOf a) (l.idxOf b) + 1 : Nat) : Int) := by split <;> omega
  have e2 : (if ((l.idxOf b : Nat) : Int) > (l.idxOf a : Nat) then ((l.idxOf b : Nat) : Int) else (l.idxOf a : Nat)) = ((max (l.idxOf a) (l.idxOf b) : Nat) : Int) := by split <;> omega
  rw [e1, e2, cut_ij, tN_take, tN_drop]
  rfl
theorem l_goes_ahead : Law t_goes_ahead u_goes_ahead N_goes_ahead := by
  rintro xs c K ⟨nm, n, l, a, b, hn, hl, ha, hb, rfl, q⟩
  refine ⟨⟨_, rfl⟩, _, rfl, _, _, asStrs_sB l, hn.ix hl hb (hl b hb), ⟨_, rfl⟩, _, rfl, _, _, asStrs_sB l, hn.ix hl ha (hl a ha), kEq q ?_⟩
  congr 1
  exact decide_eq_decide.mpr (by omega)
theorem l_touches_in : Law t_touches_in u_touches_in N_touches_in := by
  rintro xs c K ⟨nm, evs, hlen, rfl, q⟩
  refine ⟨by simp; omega, ?_⟩
  rw [List.map_map]
  refine lc_filter (fun e => .d (evD nm e)) Ev.isT (evD nm) evs _ (fun e Kt Kf he h1 h2 => ?_) ?_
  · cases e with
    | t a b => exact ⟨_, rfl, okD_str, okD_str, ifT (by decide +kernel) (h1 rfl)⟩
    | d a => exact ⟨_, rfl, okD_str, okD_str, ifF (by decide +kernel) (h2 rfl)⟩
  · refine kEq q ?_
    congr 1
    unfold iTouches
    rw [List.map_map]
    refine List.map_congr_left fun e he => ?_
    have := (List.mem_filter.mp he).2
    cases e with
    | t a b => rfl
    | d a => cases this
theorem l_is_sheet : Law t_is_sheet u_is_sheet N_is_sheet := by
  rintro xs c K ⟨nm, n, evs, hn, h, rfl, q⟩
  have hlen := h.len
  refine ⟨_, _, rfl, rfl, ifF (by decide) ⟨by simp; omega, ?_⟩⟩
  rw [List.map_map]
  refine lc_map (fun e => .d (evD nm e)) (fun _ => .bool true) evs _ (fun e Kt Kf he hk => ?_) ?_
  · exact ⟨nm, n, e, hn, h.lt e he, fun a b z => h.ne a b (z ▸ he), rfl, hk⟩
  refine ⟨evs.map fun _ => true, by rw [← asBools_map, List.map_map]; rfl, ifF (by simp) ⟨by simp [zipD]; omega, ?_⟩⟩
  have e1 : zipD (evs.map (evD nm)) (cutL (evs.map (evD nm)) (some ((1 : Nat) : Int)) none) = (evs.zip (evs.drop 1)).map fun p => .p [evD nm p.1, evD nm p.2] := by
    rw [cut_i, ← List.map_drop]
    unfold zipD
    rw [List.zip_map, List.map_map]
    rfl
  refine Eq.mp (congrArg (fun z => lcLoop _ _ _ _ _ z _ _) e1.symm) ?_
  refine lc_map (fun p : Ev × Ev => .p [evD nm p.1, evD nm p.2]) (fun _ => .bool true) _ _ (fun p Kt Kf hp hk => ?_) ?_
  · have asc := h.asc p hp
    obtain ⟨p1, p2⟩ := p
    have ok : ∀ e, okD 8 (evD nm e) = true := fun e => by cases e <;> simp [evD]
    have al : ∀ e e', PySem.W.alike (evD nm e) (evD nm e') = true := fun e e' => by cases e <;> cases e' <;> rfl
    have nn : ∀ e, evD nm e ≠ .none := fun e => by cases e <;> (intro z; cases z)
    cases p1 <;> cases p2 <;> exact ⟨rfl, rfl, ok _, ok _, al _ _, nn _, by first | exact (congrArg (fun b => Kt (.bool b) _) asc.symm).mp hk⟩
  · refine ⟨(evs.zip (evs.drop 1)).map fun _ => true, by rw [← asBools_map, List.map_map]; rfl, kEq q ?_⟩
    simp
theorem l_row_behind : Law t_row_behind u_row_behind N_row_behind := by
  rintro xs c K ⟨nm, n, l, evs, hn, hl, hlen, hin, rfl, q⟩
  refine ⟨nm, evs, hlen, rfl, ?_⟩
  have hl2 : ∀ ts : List (Nat × Nat), (iBehind l ts).length = l.length := by
    intro ts
    unfold iBehind
    suffices h : ∀ (r : List Nat), (ts.foldl (fun row p => iExch row (l.idxOf p.1) (l.idxOf p.2)) r).length = r.length from h l
    induction ts with
    | nil => intro r; rfl
    | cons t ts ih => intro r; rw [List.foldl_cons, ih]; simp [iExch]
  refine Eq.mp (congrArg (fun z => dLoop _ _ _ z _) (List.map_map ..).symm) ?_
  refine dLoop_list (fun p => .d (tpD nm p)) (iTouches evs) (fun done s => ∃ x : Option DS, s = ⟨[some (.sh (.d (tN nm l))), some (.sh (.d (shD nm evs))), some (.sh (.d (tN nm (iBehind l done)))), x], c⟩) ?_ ?_ _ ⟨none, rfl⟩
  · rintro done a rest s R e ⟨x, rfl⟩ hR
    have ha := hin a (by rw [e]; simp)
    refine ⟨⟨_, rfl⟩, _, rfl, _, _, asStrs_sB l, hn.ix hl ha.1 (hl _ ha.1), ⟨_, rfl⟩, _, rfl, _, _, asStrs_sB l, hn.ix hl ha.2 (hl _ ha.2), nm, iBehind l done, _, _, ?_, ?_, rfl, hR _ ⟨some (.sh (.d (tpD nm a))), ?_⟩⟩
    · rw [hl2]; exact List.idxOf_lt_length_iff.mpr ha.1
    · rw [hl2]; exact List.idxOf_lt_length_iff.mpr ha.2
    · unfold iBehind
      rw [List.foldl_append]
      rfl
  · rintro s ⟨x, rfl⟩
    exact q
theorem l_length_of : Law t_length_of u_length_of N_length_of := by
  rintro xs c K ⟨nm, n, l, e, hn, hl, he, rfl, q⟩
  cases e with
  | t a b =>
    refine ⟨_, rfl, okD_str, okD_str, ifF (by decide +kernel) ⟨nm, n, l, a, b, hn, hl, he a (by simp [Ev.boats]), he b (by simp [Ev.boats]), rfl, ?_⟩⟩
    exact q _
  | d a => exact ⟨_, rfl, okD_str, okD_str, ifT (by decide +kernel) (q _)⟩
theorem l_is_crossed : Law t_is_crossed u_is_crossed N_is_crossed := by
  rintro xs c K ⟨nm, n, l, o, p, hn, hl, ho1, ho2, hp1, hp2, rfl, q⟩
  have hb : Lt n (iBetween l o.1 o.2) := fun x hx => hl x (List.mem_of_mem_take (List.mem_of_mem_drop hx))
  refine ⟨nm, n, l, o.1, o.2, hn, hl, ho1, ho2, rfl, _, rfl, okD_sB, okAll_sB, _, rfl, okD_sB, okAll_sB, okD_bool, okD_bool, kEq q ?_⟩
  rw [hn.mem hb hp1, hn.mem hb hp2]
  unfold iCrossed
  simp [PyData.eqv, bne]
end DL
/-! L2: faults and orders of races. -/
namespace DL
open PySem PySem.Spec PyProof.Rows L2
variable [TheW]
theorem ktEq {Kt : PyData → DSt → Prop} {x y : PyData} {s : DSt} (q : Kt x s) (h : x = y) : Kt y s := h ▸ q
theorem okD_ev {nm : Nat → Str} {e : Ev} {k : Nat} : okD (k + 1) (evD nm e) = true := by cases e <;> simp [evD]
theorem cut1_ev (nm : Nat → Str) (e : Ev) : (match evD nm e with | .tuple ds => cutL ds (some ((1 : Nat) : Int)) none | _ => []) = e.boats.map (sB nm) := by cases e <;> rfl
theorem mem_touch {evs : List Ev} {p : Nat × Nat} (h : p ∈ iTouches evs) : Ev.t p.1 p.2 ∈ evs := by
  obtain ⟨e, he, rfl⟩ := List.mem_map.mp h
  have := List.mem_filter.mp he
  cases e with
  | t a b => exact this.1
  | d a => cases this.2
theorem touch_mem {evs : List Ev} {a b : Nat} (h : Ev.t a b ∈ evs) : (a, b) ∈ iTouches evs := List.mem_map.mpr ⟨.t a b, List.mem_filter.mpr ⟨h, rfl⟩, rfl⟩
theorem boats_mem {evs : List Ev} {e : Ev} {x : Nat} (h : e ∈ evs) (hx : x ∈ e.boats) : x ∈ evs.flatMap Ev.boats := List.mem_flatMap.mpr ⟨e, h, hx⟩
theorem touches_len (evs : List Ev) : (iTouches evs).length ≤ evs.length := by unfold iTouches; rw [List.length_map]; exact List.length_filter_le ..
theorem flat_len (l : List Ev) : (l.flatMap Ev.boats).length ≤ 2 * l.length := by
  induction l with
  | nil => simp
  | cons e l ih =>
    rw [List.flatMap_cons, List.length_append, List.length_cons]
    have : e.boats.length ≤ 2 := by cases e <;> simp [Ev.boats]
    omega
theorem l_strange_or_twice : Law t_strange_or_twice u_strange_or_twice N_strange_or_twice := by
  rintro xs c K ⟨nm, n, l, evs, hn, hl, hlen, hnd, hin, rfl, q⟩
  have hx : ∀ x ∈ evs.flatMap Ev.boats, x < n := fun x h => hl x (hin x h)
  -- met after the boats m
  let st (m : List Nat) (x y : Option DS) : DSt := ⟨[some (.sh (.d (tN nm l))), some (.sh (.d (shD nm evs))), some (.own (.dK (m.map fun b => (nm b, .bool true)))), x, y], c⟩
  refine Eq.mp (congrArg (fun z => dLoop _ _ _ z _) (List.map_map ..).symm) ?_
  refine dLoop_list (fun e => .d (evD nm e)) evs (fun done s => ∃ x y, s = st (done.flatMap Ev.boats) x y) ?_ ?_ _ ⟨none, none, rfl⟩
  · rintro done a rest s R e ⟨x, y, rfl⟩ hR
    have inner : dLoop (dGName 4) (dSeq (dIf (dTest (dOp gNotIn (dVar 4) (dVar 0))) (dRet (dTup (cCons (dC (.str "strange")) (cCons (dVar 4) cNil)))) dNext)
      (dSeq (dIf (dTest (dInK 2 (dVar 4))) (dRet (dTup (cCons (dC (.str "twice")) (cCons (dVar 4) cNil)))) dNext)
      (dAsg (dC (.bool true)) (dGSub 2 (dVar 4))))) { nx := R, rt := fun x s => K x s.c, bk := fun s => K (.d .none) s.c, ct := R } (a.boats.map fun b => .d (sB nm b)) (st (done.flatMap Ev.boats) (some (.sh (.d (evD nm a)))) y) := by
      refine dLoop_list (fun b => .d (sB nm b)) a.boats (fun dn s => ∃ y, s = st (done.flatMap Ev.boats ++ dn) (some (.sh (.d (evD nm a)))) y) ?_ ?_ _ ⟨y, by rw [List.append_nil]⟩
      · rintro dn b rs s R2 e2 ⟨y, rfl⟩ hR2
        have hb : b ∈ evs.flatMap Ev.boats := boats_mem (e := a) (by rw [e]; simp) (by rw [e2]; simp)
        have hbn := hx b hb
        have hnot : b ∉ done.flatMap Ev.boats ++ dn := by
          have h2 : evs.flatMap Ev.boats = (done.flatMap Ev.boats ++ dn) ++ b :: (rs ++ rest.flatMap Ev.boats) := by
            rw [e, List.flatMap_append, List.flatMap_cons, e2]; simp
          rw [h2, List.nodup_append] at hnd
          intro hm
          exact hnd.2.2 b hm b (by simp) rfl
        have hsm : ∀ z ∈ done.flatMap Ev.boats ++ dn, z < n := fun z hz => hx z (by
          rw [e, List.flatMap_append, List.flatMap_cons, e2]
          rcases List.mem_append.mp hz with h | h
          · simp [h]
          · simp [h])
        have hall : ∀ z ∈ done.flatMap Ev.boats ++ dn, nm z ≠ nm b := fun z hz h => hnot (hn.inj z b (hsm z hz) hbn h ▸ hz)
        refine ⟨okD_sB, okAll_sB, ifF ?_ ?_⟩
        · rw [hn.mem hl hbn, decide_eq_true (hin b hb)]; rfl
        conv => whnf
        refine ifF ?_ ⟨⟨_, rfl⟩, ?_, ?_, hR2 _ ⟨some (.sh (.d (sB nm b))), ?_⟩⟩
        · rw [List.any_eq_false]
          intro p hp
          obtain ⟨z, hz, rfl⟩ := List.mem_map.mp hp
          simpa using hall z hz
        · have h2 : (done.flatMap Ev.boats ++ dn).length ≤ (evs.flatMap Ev.boats).length := by
            rw [e, List.flatMap_append, List.flatMap_cons, e2]; simp only [List.length_append]; omega
          have := flat_len evs
          rw [List.length_map]; omega
        · rw [List.all_eq_true]
          intro p hp
          obtain ⟨z, hz, rfl⟩ := List.mem_map.mp hp
          simpa using hall z hz
        · show _ = st _ _ _
          simp only [st, List.map_append, List.append_assoc]
          rfl
      · rintro s ⟨y, rfl⟩
        exact hR _ ⟨_, y, by rw [List.flatMap_append, List.flatMap_singleton]⟩
    cases a with
    | t a b => exact inner
    | d a => exact inner
  · rintro s ⟨x, y, rfl⟩
    exact q
theorem l_touch_fault : Law t_touch_fault u_touch_fault N_touch_fault := by
  rintro xs c K ⟨nm, n, l, evs, a, b, reach, hn, hl, hlen, hlt, ha, hb, hab, hnear, hout, rfl, q⟩
  have hbt : Lt n (iBetween l a b) := fun x hx => hl x (List.mem_of_mem_take (List.mem_of_mem_drop hx))
  refine ⟨nm, n, l, a, b, hn, hl, ha, hb, rfl, ?_⟩
  refine ifF (by simp [hab]) ⟨nm, n, l, a, b, hn, hl, ha, hb, rfl, trivial, ifN ?_ ?_⟩
  · simp; omega
  refine Eq.mp (congrArg (fun z => dLoop _ _ _ z _) (List.map_map ..).symm) ?_
  refine dLoop_list (fun x => .d (sB nm x)) (iBetween l a b) (fun done s => ∃ x : Option DS, s = ⟨[some (.sh (.d (tN nm l))), some (.sh (.d (.int reach))), some (.sh (.d (shD nm evs))), some (.sh (.d (evD nm (.t a b)))), some (.sh (.d (tN nm (iBetween l a b)))), x, none], c⟩) ?_ ?_ _ ⟨none, rfl⟩
  · rintro done x rest s R e ⟨y, rfl⟩ hR
    have hx : x ∈ iBetween l a b := by rw [e]; simp
    have hxn := hbt x hx
    refine ⟨by simp; omega, ?_⟩
    refine Eq.mp (congrArg (fun z => lcLoop _ _ _ _ _ z _ _) (List.map_map ..).symm) ?_
    refine lc_map (fun e => .d (evD nm e)) (fun e => .bool (decide (x ∈ e.boats))) evs _ (fun e' Kt Kf he' hk => ?_) ?_
    · have hb' : Lt n e'.boats := hlt e' he'
      have h2 := hn.mem hb' hxn
      cases e' with
      | t u v => exact ⟨okD_sB, okAll_sB (l := [u, v]), ktEq hk (congrArg PyData.bool (by rw [Bool.false_xor]; exact h2.symm))⟩
      | d u => exact ⟨okD_sB, okAll_sB (l := [u]), ktEq hk (congrArg PyData.bool (by rw [Bool.false_xor]; exact h2.symm))⟩
    · refine ⟨evs.map fun e => decide (x ∈ e.boats), by rw [← asBools_map, List.map_map]; rfl, ifF ?_ (hR _ ⟨_, rfl⟩)⟩
      have : (List.map (fun e => decide (x ∈ e.boats)) evs).any id = true := by
        obtain ⟨e', h1, h2⟩ := List.mem_flatMap.mp (hout x hx)
        rw [List.any_map, List.any_eq_true]
        exact ⟨e', h1, by simpa using h2⟩
      rw [this]; rfl
  · rintro s ⟨x, rfl⟩
    exact q
theorem l_fault_of : Law t_fault_of u_fault_of N_fault_of := by
  rintro xs c K ⟨nm, n, l, evs, reach, hn, hl, hlen, so, rfl, q⟩
  have hlt : ∀ e ∈ evs, EvLt n e := fun e he x hx => hl x (so.sub x (boats_mem he hx))
  have hin : ∀ p ∈ iTouches evs, p.1 ∈ l ∧ p.2 ∈ l := fun p hp => ⟨so.sub _ (boats_mem (mem_touch hp) (by simp [Ev.boats])), so.sub _ (boats_mem (mem_touch hp) (by simp [Ev.boats]))⟩
  have tl := touches_len evs
  refine ⟨nm, n, l, evs, hn, hl, hlen, so.nd, so.sub, rfl, nm, evs, hlen, rfl, ?_⟩
  refine Eq.mp (congrArg (fun z => dLoop _ _ _ z _) (List.map_map ..).symm) ?_
  refine dLoop_list (fun p => .d (tpD nm p)) (iTouches evs) (fun done s => ∃ x : Option DS, s = ⟨[some (.sh (.d (tN nm l))), some (.sh (.d (.int reach))), some (.sh (.d (shD nm evs))), some (.sh (.d .none)), some (.sh (.d (.list ((iTouches evs).map (tpD nm))))), x, none, none, none], c⟩) ?_ ?_ _ ⟨none, rfl⟩
  · rintro done p rest s R e ⟨x, rfl⟩ hR
    have hp : p ∈ iTouches evs := by rw [e]; simp
    exact ⟨nm, n, l, evs, p.1, p.2, reach, hn, hl, hlen, hlt, (hin p hp).1, (hin p hp).2, so.ahead p hp, so.near p hp, so.out p hp, rfl, hR _ ⟨_, rfl⟩⟩
  · rintro s ⟨x, rfl⟩
    conv => whnf
    have e1 : enumD ((iTouches evs).map (tpD nm)) = ((iTouches evs).zipIdx).map fun p => .p [.int (p.2 : Nat), tpD nm p.1] := by
      unfold enumD
      rw [List.zipIdx_map, List.map_map]
      rfl
    refine Eq.mp (congrArg (fun z => dLoop _ _ _ z _) e1.symm) ?_
    refine dLoop_list (fun p : (Nat × Nat) × Nat => .p [.int (p.2 : Nat), tpD nm p.1]) (iTouches evs).zipIdx (fun done s => ∃ y z w : Option DS, s = ⟨[some (.sh (.d (tN nm l))), some (.sh (.d (.int reach))), some (.sh (.d (shD nm evs))), some (.sh (.d .none)), some (.sh (.d (.list ((iTouches evs).map (tpD nm))))), x, y, z, w], c⟩) ?_ ?_ _ ⟨none, none, none, rfl⟩
    · rintro done p rest s R e ⟨y, z, w, rfl⟩ hR
      have hp : p.1 ∈ iTouches evs := by
        have : p ∈ (iTouches evs).zipIdx := by rw [e]; simp
        exact (List.mem_zipIdx this).2.2 ▸ List.getElem_mem _
      refine ⟨rfl, rfl, ?_⟩
      have e2 : (cutL ((iTouches evs).map (tpD nm)) none (some (p.2 : Int))).map DV.d = ((iTouches evs).take p.2).map fun o => .d (tpD nm o) := by
        rw [cut_j, ← List.map_take, List.map_map]; rfl
      refine Eq.mp (congrArg (fun z => dLoop _ _ _ z _) e2.symm) ?_
      refine dLoop_list (fun o => .d (tpD nm o)) ((iTouches evs).take p.2) (fun done s => ∃ w : Option DS, s = ⟨[some (.sh (.d (tN nm l))), some (.sh (.d (.int reach))), some (.sh (.d (shD nm evs))), some (.sh (.d .none)), some (.sh (.d (.list ((iTouches evs).map (tpD nm))))), x, some (.sh (.d (.int (p.2 : Nat)))), some (.sh (.d (tpD nm p.1))), w], c⟩) ?_ ?_ _ ⟨w, rfl⟩
      · rintro dn o rs s R2 e3 ⟨w, rfl⟩ hR2
        have ho : o ∈ iTouches evs := List.mem_of_mem_take (by rw [e3]; simp)
        exact ⟨nm, n, l, p.1, o, hn, hl, (hin _ hp).1, (hin _ hp).2, hl _ (hin _ ho).1, hl _ (hin _ ho).2, rfl, ifF (so.cross _ hp _ ho) (hR2 _ ⟨_, rfl⟩)⟩
      · rintro s ⟨w, rfl⟩
        exact hR _ ⟨_, _, w, rfl⟩
    · rintro s ⟨y, z, w, rfl⟩
      exact q
/-! sorting: pairs (int, event), events, texts -/
theorem alike_ev (nm : Nat → Str) (e e' : Ev) : PySem.W.alike (evD nm e) (evD nm e') = true := by cases e <;> cases e' <;> rfl
theorem l_order_of : Law t_order_of u_order_of N_order_of := by
  rintro xs c K ⟨nm, n, l, evs, reach, hn, hl, hlen, so, rfl, q⟩
  refine ⟨nm, n, l, evs, reach, hn, hl, hlen, so, rfl, by simp; omega, ?_⟩
  refine Eq.mp (congrArg (fun z => lcLoop _ _ _ _ _ z _ _) (List.map_map ..).symm) ?_
  refine lc_inv (fun e => .d (evD nm e)) (fun done acc s => s = ⟨[some (.sh (.d (tN nm l))), some (.sh (.d (.int reach))), some (.sh (.d (shD nm evs))), some (.sh (.d .none)), none, none, none], c⟩ ∧ acc.length = done.length ∧ ∀ z ∈ acc, ∃ (i : Int) (e : Ev), z = .tuple [.int i, evD nm e]) evs ?_ ?_ [] _ ⟨rfl, rfl, by simp⟩
  · rintro done e rest acc s Kt Kf ee ⟨rfl, h1, h2⟩ hT hF
    have he : e ∈ evs := by rw [ee]; simp
    refine ⟨nm, n, l, e, hn, hl, fun x hx => so.sub x (boats_mem he hx), rfl, fun i => ⟨by simp, hT _ _ ⟨rfl, by simp [h1], ?_⟩⟩⟩
    intro z hz
    rcases List.mem_append.mp hz with h | h
    · exact h2 z h
    · rw [List.mem_singleton] at h
      exact ⟨i, e, h⟩
  · rintro acc s ⟨rfl, h1, h2⟩
    have srt : SrtOk acc := by
      refine ⟨by omega, ?_, ?_, .inl fun d hd => ?_⟩
      · rw [List.all_eq_true]
        intro z hz
        obtain ⟨i, e, rfl⟩ := h2 z hz
        simp [okD_ev]
      · intro d hd d' hd'
        obtain ⟨i, e, rfl⟩ := h2 d hd
        obtain ⟨i', e', rfl⟩ := h2 d' hd'
        simp [PySem.W.alike, PySem.W.alikeAll, alike_ev]
      · obtain ⟨i, e, rfl⟩ := h2 d hd
        exact ⟨_, _, rfl⟩
    refine ⟨srt, ?_⟩
    conv => whnf
    have hs : ∀ z ∈ srtD acc, ∃ (i : Int) (e : Ev), z = .tuple [.int i, evD nm e] := fun z hz => h2 z ((List.mergeSort_perm acc _).mem_iff.mp hz)
    have hsl : (srtD acc).length = acc.length := (List.mergeSort_perm acc _).length_eq
    refine ⟨by rw [List.length_map, hsl]; omega, ?_⟩
    refine lc_inv (fun z => .d z) (fun done _ s => s = ⟨[some (.sh (.d (tN nm l))), some (.sh (.d (.int reach))), some (.sh (.d (shD nm evs))), some (.sh (.d .none)), some (.sh (.d (.list (srtD acc)))), none, none], c⟩) (srtD acc) ?_ ?_ [] _ rfl
    · rintro done z rest acc2 s Kt Kf ee rfl hT hF
      obtain ⟨i, e, rfl⟩ := hs z (by rw [ee]; simp)
      exact ⟨rfl, rfl, hT _ _ rfl⟩
    · rintro acc2 s rfl
      exact ⟨by simp, q _⟩
end DL
/-! DE2: defs of the text: their terms of rules, printed by gen.py. -/
namespace DL
open PySem PySem.Spec PyProof.Rows L2
variable [TheW]
abbrev st_is_day : Stmt := top 24
abbrev sc_is_day : Scope := defScope st_is_day
abbrev N_is_day : List Str := ["thing", "sheet"]
theorem fs_is_day : FnScope N_is_day ["thing"] sc_is_day := ⟨rfl, rfl, rfl, by decide +kernel, rfl, by decide +kernel, by decide +kernel⟩
def u_is_day : DTS := (dSeq (dIf (dOrT (dNotT (dTest (dCB gIsi (dCons (dVar 0) (dCons (dR (.ty "tuple")) dNil))))) (dNotT (dTest (dChain gLe gLe (dC (.int 1)) (dCB gLen (dCons (dVar 0) dNil)) (dC (.int 24)))))) (dRet (dC (.bool false))) dNext)
    (dRet (dCB gAll (dCons (dOfF (fLc (iSeq (dVar 0)) (dGName 1) dYes (dCallP t_is_sheet (cCons (dVar 1) cNil)) [1])) dNil))))
theorem d_is_day {K : PySem.W.Frag} {mg : Str → Option Value} {base : Heap} {f : Addr} {cdv : Value} {A : Around} {outer : List Env} {s : Shared} {H : Hp} {E : XK} {W : Wd} (M : Mg mg) (Fis_sheet : DFn TheW.P TheW.w K mg base 3 "is_sheet" (spP t_is_sheet)) (hr : Room 3 (cx N_is_day "is_day" sc_is_day K mg base f cdv A outer s H E).A) : DSs (cx N_is_day "is_day" sc_is_day K mg base f cdv A outer s H E) W (defBody st_is_day) u_is_day := by
  have nd := fs_is_day.nd
  exact (dss_cons (ds_if (dt_w (dw_or (dt_not (dt_val (de_callB cr_isi rfl M.isinstance (by decide +kernel) (da_cons (dv 0) (da_cons (de_bltn rfl M.tuple (by decide +kernel)) da_nil))))) (dw_or1 (dt_not (dt_chain od_le od_le de_int (de_callB (cr_len ⟨rfl, rfl⟩) rfl M.len boot_len (da_cons (dv 0) da_nil)) (de_gint rfl M.MOST_BOATS)))))) (dss_one (ds_ret de_bl)) dss_nil)
    (dss_one (ds_ret (de_callB (cr_allD rfl) rfl M.all (by decide +kernel) (da_cons (de_ofF (df_lc (own := [("sheet", 1)]) rfl nd (di_seq (dv 0)) (blkOk_by (N := N_is_day) (sc := sc_is_day) (by decide +kernel)) (tg_name (by decide)) (fun _ _ _ _ _ => (pg_name (i := 1) nd rfl (Or.inl rfl))) (fun _ _ _ _ _ _ => dts_nil) (fun _ _ _ _ _ _ => (de_call Fis_sheet hr (by decide) rfl (ac_cons (dv 1) ac_nil))))) da_nil)))))

abbrev st_start_on : Stmt := top 25
abbrev sc_start_on : Scope := defScope st_start_on
abbrev N_start_on : List Str := ["meeting", "row", "k", "first", "last"]
theorem fs_start_on : FnScope N_start_on ["meeting", "row", "k"] sc_start_on := ⟨rfl, rfl, rfl, by decide +kernel, rfl, by decide +kernel, by decide +kernel⟩
def u_start_on : DTS := (dSeq (dAsg (dCallP t_span (cCons (dVar 0) (cCons (dCB gLen (dCons (dVar 1) dNil)) (cCons (dVar 2) cNil)))) (dGTup 2 (dGCons (dGName 3) (dGCons (dGName 4) dGNil))))
    (dRet (dSl (dVar 1) (dPart (dVar 3)) (dPart (dOp gAdd (dVar 4) (dC (.int 1)))))))
theorem d_start_on {K : PySem.W.Frag} {mg : Str → Option Value} {base : Heap} {f : Addr} {cdv : Value} {A : Around} {outer : List Env} {s : Shared} {H : Hp} {E : XK} {W : Wd} (M : Mg mg) (Fspan : DFn TheW.P TheW.w K mg base 1 "span" (spP t_span)) (hr : Room 1 (cx N_start_on "start_on" sc_start_on K mg base f cdv A outer s H E).A) : DSs (cx N_start_on "start_on" sc_start_on K mg base f cdv A outer s H E) W (defBody st_start_on) u_start_on := by
  have nd := fs_start_on.nd
  exact (dss_cons (ds_asg (de_call Fspan hr (by decide) rfl (ac_cons (dv 0) (ac_cons (de_callB (cr_len ⟨rfl, rfl⟩) rfl M.len boot_len (da_cons (dv 1) da_nil)) (ac_cons (dv 2) ac_nil)))) (dg_tup rfl (dgs_cons (dg_name (i := 3) nd rfl (Or.inl rfl)) (dgs_cons (dg_name (i := 4) nd rfl (Or.inl rfl)) dgs_nil))))
    (dss_one (ds_ret (de_slice (dv 1) (do_some (dv 3)) (do_some (de_op od_add (dv 4) de_int))))))

abbrev st_laid_on : Stmt := top 26
abbrev sc_laid_on : Scope := defScope st_laid_on
abbrev N_laid_on : List Str := ["meeting", "row", "k", "some", "first", "last"]
theorem fs_laid_on : FnScope N_laid_on ["meeting", "row", "k", "some"] sc_laid_on := ⟨rfl, rfl, rfl, by decide +kernel, rfl, by decide +kernel, by decide +kernel⟩
def u_laid_on : DTS := (dSeq (dAsg (dCallP t_span (cCons (dVar 0) (cCons (dCB gLen (dCons (dVar 1) dNil)) (cCons (dVar 2) cNil)))) (dGTup 2 (dGCons (dGName 4) (dGCons (dGName 5) dGNil))))
    (dRet (dOp gAdd (dOp gAdd (dSl (dVar 1) dNo (dPart (dVar 4))) (dVar 3)) (dSl (dVar 1) (dPart (dOp gAdd (dVar 5) (dC (.int 1)))) dNo))))
theorem d_laid_on {K : PySem.W.Frag} {mg : Str → Option Value} {base : Heap} {f : Addr} {cdv : Value} {A : Around} {outer : List Env} {s : Shared} {H : Hp} {E : XK} {W : Wd} (M : Mg mg) (Fspan : DFn TheW.P TheW.w K mg base 1 "span" (spP t_span)) (hr : Room 1 (cx N_laid_on "laid_on" sc_laid_on K mg base f cdv A outer s H E).A) : DSs (cx N_laid_on "laid_on" sc_laid_on K mg base f cdv A outer s H E) W (defBody st_laid_on) u_laid_on := by
  have nd := fs_laid_on.nd
  exact (dss_cons (ds_asg (de_call Fspan hr (by decide) rfl (ac_cons (dv 0) (ac_cons (de_callB (cr_len ⟨rfl, rfl⟩) rfl M.len boot_len (da_cons (dv 1) da_nil)) (ac_cons (dv 2) ac_nil)))) (dg_tup rfl (dgs_cons (dg_name (i := 4) nd rfl (Or.inl rfl)) (dgs_cons (dg_name (i := 5) nd rfl (Or.inl rfl)) dgs_nil))))
    (dss_one (ds_ret (de_op od_add (de_op od_add (de_slice (dv 1) do_none (do_some (dv 4))) (dv 3)) (de_slice (dv 1) (do_some (de_op od_add (dv 5) de_int)) do_none)))))

abbrev st_races_going : Stmt := top 27
abbrev sc_races_going : Scope := defScope st_races_going
abbrev N_races_going : List Str := ["meeting", "row"]
theorem fs_races_going : FnScope N_races_going ["meeting", "row"] sc_races_going := ⟨rfl, rfl, rfl, by decide +kernel, rfl, by decide +kernel, by decide +kernel⟩
def u_races_going : DTS := (dRet (dOfF (fListR (cCons (dOp gSub (dCallP t_races_of (cCons (dVar 0) (cCons (dCB gLen (dCons (dVar 1) dNil)) cNil))) (dC (.int 1))) (cCons (dC (.int (-1))) (cCons (dC (.int (-1))) cNil))))))
theorem d_races_going {K : PySem.W.Frag} {mg : Str → Option Value} {base : Heap} {f : Addr} {cdv : Value} {A : Around} {outer : List Env} {s : Shared} {H : Hp} {E : XK} {W : Wd} (M : Mg mg) (Fraces_of : DFn TheW.P TheW.w K mg base 1 "races_of" (spP t_races_of)) (hr : Room 1 (cx N_races_going "races_going" sc_races_going K mg base f cdv A outer s H E).A) : DSs (cx N_races_going "races_going" sc_races_going K mg base f cdv A outer s H E) W (defBody st_races_going) u_races_going := by
  have nd := fs_races_going.nd
  exact (dss_one (ds_ret (de_ofF (df_listR rfl rfl M.list rfl M.range (ac_cons (de_op od_sub (de_call Fraces_of hr (by decide) rfl (ac_cons (dv 0) (ac_cons (de_callB (cr_len ⟨rfl, rfl⟩) rfl M.len boot_len (da_cons (dv 1) da_nil)) ac_nil))) de_int) (ac_cons (de_neg) (ac_cons (de_neg) ac_nil)))))))

abbrev st_day_behind : Stmt := top 28
abbrev sc_day_behind : Scope := defScope st_day_behind
abbrev N_day_behind : List Str := ["meeting", "row", "day", "many", "k", "start", "word", "thing"]
theorem fs_day_behind : FnScope N_day_behind ["meeting", "row", "day"] sc_day_behind := ⟨rfl, rfl, rfl, by decide +kernel, rfl, by decide +kernel, by decide +kernel⟩
def u_day_behind : DTS := (dSeq (dSet 3 (dCallP t_races_of (cCons (dVar 0) (cCons (dCB gLen (dCons (dVar 1) dNil)) cNil))))
    (dSeq (dIf (dTest (dOp gNe (dCB gLen (dCons (dVar 2) dNil)) (dVar 3))) (dRet (dTup (cCons (dC (.str "unsound")) (cCons (dC .none) (cCons (dTup (cCons (dC (.str "races")) (cCons (dVar 3) cNil))) cNil))))) dNext)
    (dSeq (dFor (iSeq (dCallP t_races_going (cCons (dVar 0) (cCons (dVar 1) cNil)))) (dGName 4) (dSeq (dSet 5 (dCallP t_start_on (cCons (dVar 0) (cCons (dVar 1) (cCons (dVar 4) cNil)))))
    (dSeq (dAsg (dCallP t_order_of (cCons (dVar 5) (cCons (dIx (dVar 0) (dC (.int 1))) (cCons (dIx (dVar 2) (dVar 4)) cNil)))) (dGTup 2 (dGCons (dGName 6) (dGCons (dGName 7) dGNil))))
    (dSeq (dIf (dTest (dOp gEq (dVar 6) (dC (.str "unsound")))) (dRet (dTup (cCons (dVar 6) (cCons (dVar 4) (cCons (dVar 7) cNil))))) dNext)
    (dSet 1 (dCallP t_laid_on (cCons (dVar 0) (cCons (dVar 1) (cCons (dVar 4) (cCons (dCallP t_row_behind (cCons (dVar 5) (cCons (dIx (dVar 2) (dVar 4)) cNil))) cNil))))))))))
    (dRet (dTup (cCons (dC (.str "row")) (cCons (dVar 1) cNil)))))))
theorem d_day_behind {K : PySem.W.Frag} {mg : Str → Option Value} {base : Heap} {f : Addr} {cdv : Value} {A : Around} {outer : List Env} {s : Shared} {H : Hp} {E : XK} {W : Wd} (M : Mg mg) (Fraces_going : DFn TheW.P TheW.w K mg base 2 "races_going" (spP t_races_going)) (Flaid_on : DFn TheW.P TheW.w K mg base 2 "laid_on" (spP t_laid_on)) (Frow_behind : DFn TheW.P TheW.w K mg base 2 "row_behind" (spP t_row_behind)) (Forder_of : DFn TheW.P TheW.w K mg base 4 "order_of" (spP t_order_of)) (Fstart_on : DFn TheW.P TheW.w K mg base 2 "start_on" (spP t_start_on)) (Fraces_of : DFn TheW.P TheW.w K mg base 1 "races_of" (spP t_races_of)) (hr : Room 4 (cx N_day_behind "day_behind" sc_day_behind K mg base f cdv A outer s H E).A) : DSs (cx N_day_behind "day_behind" sc_day_behind K mg base f cdv A outer s H E) W (defBody st_day_behind) u_day_behind := by
  have nd := fs_day_behind.nd
  exact (dss_cons (ds_set (i := 3) nd rfl (Or.inl rfl) (de_call Fraces_of hr (by decide) rfl (ac_cons (dv 0) (ac_cons (de_callB (cr_len ⟨rfl, rfl⟩) rfl M.len boot_len (da_cons (dv 1) da_nil)) ac_nil))))
    (dss_cons (ds_if (dt_cmp (od_ne hr) (de_callB (cr_len ⟨rfl, rfl⟩) rfl M.len boot_len (da_cons (dv 2) da_nil)) (dv 3) (nomark _)) (dss_one (ds_ret (de_tup (da_of (ac_cons de_str (ac_cons de_non (ac_cons (de_tup (da_of (ac_cons de_str (ac_cons (dv 3) ac_nil)))) ac_nil))))))) dss_nil)
    (dss_cons (ds_for PassesOwn.never rfl (di_seq (de_call Fraces_going hr (by decide) rfl (ac_cons (dv 0) (ac_cons (dv 1) ac_nil)))) (dg_name (i := 4) nd rfl (Or.inl rfl)) (dss_cons (ds_set (i := 5) nd rfl (Or.inl rfl) (de_call Fstart_on hr (by decide) rfl (ac_cons (dv 0) (ac_cons (dv 1) (ac_cons (dv 4) ac_nil)))))
    (dss_cons (ds_asg (de_call Forder_of hr (by decide) rfl (ac_cons (dv 5) (ac_cons (de_ix ⟨rfl, rfl⟩ hr (dv 0) de_int (fun _ _ => rfl)) (ac_cons (de_ix ⟨rfl, rfl⟩ hr (dv 2) (dv 4) (fun _ _ => rfl)) ac_nil)))) (dg_tup rfl (dgs_cons (dg_name (i := 6) nd rfl (Or.inl rfl)) (dgs_cons (dg_name (i := 7) nd rfl (Or.inl rfl)) dgs_nil))))
    (dss_cons (ds_if (dt_cmp (od_eq hr) (dv 6) de_str (nomark _)) (dss_one (ds_ret (de_tup (da_of (ac_cons (dv 6) (ac_cons (dv 4) (ac_cons (dv 7) ac_nil))))))) dss_nil)
    (dss_one (ds_set (i := 1) nd rfl (Or.inl rfl) (de_call Flaid_on hr (by decide) rfl (ac_cons (dv 0) (ac_cons (dv 1) (ac_cons (dv 4) (ac_cons (de_call Frow_behind hr (by decide) rfl (ac_cons (dv 5) (ac_cons (de_ix ⟨rfl, rfl⟩ hr (dv 2) (dv 4) (fun _ _ => rfl)) ac_nil))) ac_nil)))))))))))
    (dss_one (ds_ret (de_tup (da_of (ac_cons de_str (ac_cons (dv 1) ac_nil)))))))))

abbrev st_not_of_start : Stmt := top 30
abbrev sc_not_of_start : Scope := defScope st_not_of_start
abbrev N_not_of_start : List Str := ["start", "there", "boat"]
theorem fs_not_of_start : FnScope N_not_of_start ["start", "there"] sc_not_of_start := ⟨rfl, rfl, rfl, by decide +kernel, rfl, by decide +kernel, by decide +kernel⟩
def u_not_of_start : DTS := (dRet (dOfF (fLc (iSeq (dSl (dVar 1) (dPart (dC (.int 1))) dNo)) (dGName 2) (dTest (dOp gNotIn (dVar 2) (dVar 0))) (dVar 2) [2])))
theorem d_not_of_start {K : PySem.W.Frag} {mg : Str → Option Value} {base : Heap} {f : Addr} {cdv : Value} {A : Around} {outer : List Env} {s : Shared} {H : Hp} {E : XK} {W : Wd} (M : Mg mg) (hr : Room 0 (cx N_not_of_start "not_of_start" sc_not_of_start K mg base f cdv A outer s H E).A) : DSs (cx N_not_of_start "not_of_start" sc_not_of_start K mg base f cdv A outer s H E) W (defBody st_not_of_start) u_not_of_start := by
  have nd := fs_not_of_start.nd
  exact (dss_one (ds_ret (de_ofF (df_lc (own := [("boat", 2)]) rfl nd (di_seq (de_slice (dv 1) (do_some de_int) do_none)) (blkOk_by (N := N_not_of_start) (sc := sc_not_of_start) (by decide +kernel)) (tg_name (by decide)) (fun _ _ _ _ _ => (pg_name (i := 2) nd rfl (Or.inl rfl))) (fun _ _ _ _ _ _ => (dts_one (dt_cmp (od_notIn ⟨rfl, rfl⟩ hr) (dv 2) (dv 0) (by with_unfolding_all rfl)))) (fun _ _ _ _ _ _ => (dv 2))))))

abbrev st_goal_of : Stmt := top 31
abbrev sc_goal_of : Scope := defScope st_goal_of
abbrev N_goal_of : List Str := ["meeting", "start", "other", "k", "first", "last", "there", "strange", "left", "boat"]
theorem fs_goal_of : FnScope N_goal_of ["meeting", "start", "other", "k"] sc_goal_of := ⟨rfl, rfl, rfl, by decide +kernel, rfl, by decide +kernel, by decide +kernel⟩
def u_goal_of : DTS := (dSeq (dAsg (dCallP t_span (cCons (dVar 0) (cCons (dCB gLen (dCons (dVar 2) dNil)) (cCons (dVar 3) cNil)))) (dGTup 2 (dGCons (dGName 4) (dGCons (dGName 5) dGNil))))
    (dSeq (dSet 6 (dSl (dVar 2) (dPart (dVar 4)) (dPart (dOp gAdd (dVar 5) (dC (.int 1))))))
    (dSeq (dIf (dTest (dOp gEq (dVar 3) (dC (.int 0)))) (dRet (dTup (cCons (dVar 6) (cCons (dC .none) cNil)))) dNext)
    (dSeq (dSet 7 (dCallP t_not_of_start (cCons (dVar 1) (cCons (dVar 6) cNil))))
    (dSeq (dIf (dTest (dOp gNe (dVar 7) (dOfF (fLst cNil)))) (dRet (dTup (cCons (dVar 6) (cCons (dIx (dVar 7) (dC (.int 0))) cNil)))) dNext)
    (dSeq (dOwn 8 (fLc (iSeq (dVar 1)) (dGName 9) (dTest (dOp gNotIn (dVar 9) (dSl (dVar 6) (dPart (dC (.int 1))) dNo))) (dVar 9) [9]))
    (dRet (dTup (cCons (dOp gAdd (dTup (cCons (dIx (dVar 8) (dC (.int 0))) cNil)) (dSl (dVar 6) (dPart (dC (.int 1))) dNo)) (cCons (dC .none) cNil))))))))))
theorem d_goal_of {K : PySem.W.Frag} {mg : Str → Option Value} {base : Heap} {f : Addr} {cdv : Value} {A : Around} {outer : List Env} {s : Shared} {H : Hp} {E : XK} {W : Wd} (M : Mg mg) (Fnot_of_start : DFn TheW.P TheW.w K mg base 1 "not_of_start" (spP t_not_of_start)) (Fspan : DFn TheW.P TheW.w K mg base 1 "span" (spP t_span)) (hr : Room 1 (cx N_goal_of "goal_of" sc_goal_of K mg base f cdv A outer s H E).A) : DSs (cx N_goal_of "goal_of" sc_goal_of K mg base f cdv A outer s H E) W (defBody st_goal_of) u_goal_of := by
  have nd := fs_goal_of.nd
  exact (dss_cons (ds_asg (de_call Fspan hr (by decide) rfl (ac_cons (dv 0) (ac_cons (de_callB (cr_len ⟨rfl, rfl⟩) rfl M.len boot_len (da_cons (dv 2) da_nil)) (ac_cons (dv 3) ac_nil)))) (dg_tup rfl (dgs_cons (dg_name (i := 4) nd rfl (Or.inl rfl)) (dgs_cons (dg_name (i := 5) nd rfl (Or.inl rfl)) dgs_nil))))
    (dss_cons (ds_set (i := 6) nd rfl (Or.inr rfl) (de_slice (dv 2) (do_some (dv 4)) (do_some (de_op od_add (dv 5) de_int))))
    (dss_cons (ds_if (dt_cmp (od_eq hr) (dv 3) de_int (nomark _)) (dss_one (ds_ret (de_tup (da_of (ac_cons (dv 6) (ac_cons de_non ac_nil)))))) dss_nil)
    (dss_cons (ds_set (i := 7) nd rfl (Or.inl rfl) (de_call Fnot_of_start hr (by decide) rfl (ac_cons (dv 1) (ac_cons (dv 6) ac_nil))))
    (dss_cons (ds_if (dt_cmp (od_ne hr) (dv 7) (de_ofF (df_lst (da_of ac_nil))) (nomark _)) (dss_one (ds_ret (de_tup (da_of (ac_cons (dv 6) (ac_cons (de_ix ⟨rfl, rfl⟩ hr (dv 7) de_int (fun _ _ => rfl)) ac_nil)))))) dss_nil)
    (dss_cons (ds_setLc (i := 8) (own := [("boat", 9)]) rfl nd rfl rfl (sw_true rfl rfl rfl (by decide +kernel)) (di_seq (dv 1)) (blkOk_by (N := N_goal_of) (sc := sc_goal_of) (by decide +kernel)) (tg_name (by decide)) (fun _ _ _ _ _ => (pg_name (i := 9) nd rfl (Or.inl rfl))) (fun _ _ _ _ _ _ => (dts_one (dt_cmp (od_notIn ⟨rfl, rfl⟩ hr) (dv 9) (de_slice (dv 6) (do_some de_int) do_none) (by with_unfolding_all rfl)))) (fun _ _ _ _ _ _ => (dv 9)))
    (dss_one (ds_ret (de_tup (da_of (ac_cons (de_op od_add (de_tup (da_of (ac_cons (de_ix ⟨rfl, rfl⟩ hr (dv 8) de_int (fun _ _ => rfl)) ac_nil))) (de_slice (dv 6) (do_some de_int) do_none)) (ac_cons de_non ac_nil))))))))))))

abbrev st_unrounded : Stmt := top 32
abbrev sc_unrounded : Scope := defScope st_unrounded
abbrev N_unrounded : List Str := ["start", "goal", "found", "p", "boat"]
theorem fs_unrounded : FnScope N_unrounded ["start", "goal"] sc_unrounded := ⟨rfl, rfl, rfl, by decide +kernel, rfl, by decide +kernel, by decide +kernel⟩
def u_unrounded : DTS := (dSeq (dOwn 2 (fLst cNil))
    (dSeq (dFor (iEnum (cCons (dVar 0) cNil)) (dGTup 2 (dGCons (dGName 3) (dGCons (dGName 4) dGNil))) (dIf (dTest (dOp gNe (dIx (dVar 1) (dVar 3)) (dIx (dVar 0) (dTIx (dVar 1) (dVar 4))))) (dDrop (dM 2 (cCons (dVar 4) cNil) mAppend)) dNext))
    (dRet (dVar 2))))
theorem d_unrounded {K : PySem.W.Frag} {mg : Str → Option Value} {base : Heap} {f : Addr} {cdv : Value} {A : Around} {outer : List Env} {s : Shared} {H : Hp} {E : XK} {W : Wd} (M : Mg mg) (hr : Room 0 (cx N_unrounded "unrounded" sc_unrounded K mg base f cdv A outer s H E).A) : DSs (cx N_unrounded "unrounded" sc_unrounded K mg base f cdv A outer s H E) W (defBody st_unrounded) u_unrounded := by
  have nd := fs_unrounded.nd
  exact (dss_cons (ds_own (i := 2) nd rfl (Or.inl rfl) (df_lst (da_of ac_nil)))
    (dss_cons (ds_for PassesOwn.never rfl (di_enum rfl M.enumerate (ac_cons (dv 0) ac_nil)) (dg_tup rfl (dgs_cons (dg_name (i := 3) nd rfl (Or.inl rfl)) (dgs_cons (dg_name (i := 4) nd rfl (Or.inl rfl)) dgs_nil))) (dss_one (ds_if (dt_cmp (od_ne hr) (de_ix ⟨rfl, rfl⟩ hr (dv 1) (dv 3) (fun _ _ => rfl)) (de_ix ⟨rfl, rfl⟩ hr (dv 0) (de_tindex (dv 1) (dv 4)) (fun _ _ => rfl)) (nomark _)) (dss_one (ds_expr (de_append (i := 2) (ac_cons (dv 4) ac_nil)))) dss_nil)))
    (dss_one (ds_ret (dv 2)))))

abbrev st_pairs_of : Stmt := top 33
abbrev sc_pairs_of : Scope := defScope st_pairs_of
abbrev N_pairs_of : List Str := ["start", "goal", "found", "p", "boat", "q"]
theorem fs_pairs_of : FnScope N_pairs_of ["start", "goal"] sc_pairs_of := ⟨rfl, rfl, rfl, by decide +kernel, rfl, by decide +kernel, by decide +kernel⟩
def u_pairs_of : DTS := (dSeq (dOwn 2 (fLst cNil))
    (dSeq (dFor (iEnum (cCons (dVar 0) cNil)) (dGTup 2 (dGCons (dGName 3) (dGCons (dGName 4) dGNil))) (dSeq (dSet 5 (dTIx (dVar 1) (dVar 4)))
    (dIf (dTest (dOp gLt (dVar 3) (dVar 5))) (dDrop (dM 2 (cCons (dTup (cCons (dVar 3) (cCons (dVar 5) cNil))) cNil) mAppend)) dNext)))
    (dRet (dVar 2))))
theorem d_pairs_of {K : PySem.W.Frag} {mg : Str → Option Value} {base : Heap} {f : Addr} {cdv : Value} {A : Around} {outer : List Env} {s : Shared} {H : Hp} {E : XK} {W : Wd} (M : Mg mg) (hr : Room 0 (cx N_pairs_of "pairs_of" sc_pairs_of K mg base f cdv A outer s H E).A) : DSs (cx N_pairs_of "pairs_of" sc_pairs_of K mg base f cdv A outer s H E) W (defBody st_pairs_of) u_pairs_of := by
  have nd := fs_pairs_of.nd
  exact (dss_cons (ds_own (i := 2) nd rfl (Or.inl rfl) (df_lst (da_of ac_nil)))
    (dss_cons (ds_for PassesOwn.never rfl (di_enum rfl M.enumerate (ac_cons (dv 0) ac_nil)) (dg_tup rfl (dgs_cons (dg_name (i := 3) nd rfl (Or.inl rfl)) (dgs_cons (dg_name (i := 4) nd rfl (Or.inl rfl)) dgs_nil))) (dss_cons (ds_set (i := 5) nd rfl (Or.inl rfl) (de_tindex (dv 1) (dv 4)))
    (dss_one (ds_if (dt_cmp (od_lt hr) (dv 3) (dv 5) (nomark _)) (dss_one (ds_expr (de_append (i := 2) (ac_cons (de_tup (da_of (ac_cons (dv 3) (ac_cons (dv 5) ac_nil)))) ac_nil)))) dss_nil))))
    (dss_one (ds_ret (dv 2)))))

abbrev st_touch_at : Stmt := top 34
abbrev sc_touch_at : Scope := defScope st_touch_at
abbrev N_touch_at : List Str := ["start", "pair"]
theorem fs_touch_at : FnScope N_touch_at ["start", "pair"] sc_touch_at := ⟨rfl, rfl, rfl, by decide +kernel, rfl, by decide +kernel, by decide +kernel⟩
def u_touch_at : DTS := (dRet (dTup (cCons (dC (.str "touch")) (cCons (dIx (dVar 0) (dIx (dVar 1) (dC (.int 1)))) (cCons (dIx (dVar 0) (dIx (dVar 1) (dC (.int 0)))) cNil)))))
theorem d_touch_at {K : PySem.W.Frag} {mg : Str → Option Value} {base : Heap} {f : Addr} {cdv : Value} {A : Around} {outer : List Env} {s : Shared} {H : Hp} {E : XK} {W : Wd} (M : Mg mg) (hr : Room 0 (cx N_touch_at "touch_at" sc_touch_at K mg base f cdv A outer s H E).A) : DSs (cx N_touch_at "touch_at" sc_touch_at K mg base f cdv A outer s H E) W (defBody st_touch_at) u_touch_at := by
  have nd := fs_touch_at.nd
  exact (dss_one (ds_ret (de_tup (da_of (ac_cons de_str (ac_cons (de_ix ⟨rfl, rfl⟩ hr (dv 0) (de_ix ⟨rfl, rfl⟩ hr (dv 1) de_int (fun _ _ => rfl)) (fun _ _ => rfl)) (ac_cons (de_ix ⟨rfl, rfl⟩ hr (dv 0) (de_ix ⟨rfl, rfl⟩ hr (dv 1) de_int (fun _ _ => rfl)) (fun _ _ => rfl)) ac_nil)))))))

abbrev st_cross : Stmt := top 35
abbrev sc_cross : Scope := defScope st_cross
abbrev N_cross : List Str := ["one", "other"]
theorem fs_cross : FnScope N_cross ["one", "other"] sc_cross := ⟨rfl, rfl, rfl, by decide +kernel, rfl, by decide +kernel, by decide +kernel⟩
def u_cross : DTS := (dRet (dOp gNe (dChain gLt gLt (dIx (dVar 0) (dC (.int 0))) (dIx (dVar 1) (dC (.int 0))) (dIx (dVar 0) (dC (.int 1)))) (dChain gLt gLt (dIx (dVar 0) (dC (.int 0))) (dIx (dVar 1) (dC (.int 1))) (dIx (dVar 0) (dC (.int 1))))))
theorem d_cross {K : PySem.W.Frag} {mg : Str → Option Value} {base : Heap} {f : Addr} {cdv : Value} {A : Around} {outer : List Env} {s : Shared} {H : Hp} {E : XK} {W : Wd} (M : Mg mg) (hr : Room 0 (cx N_cross "cross" sc_cross K mg base f cdv A outer s H E).A) : DSs (cx N_cross "cross" sc_cross K mg base f cdv A outer s H E) W (defBody st_cross) u_cross := by
  have nd := fs_cross.nd
  exact (dss_one (ds_ret (de_cmp (od_ne hr) (de_chain (od_lt hr) (od_lt hr) (de_ix ⟨rfl, rfl⟩ hr (dv 0) de_int (fun _ _ => rfl)) (de_ix ⟨rfl, rfl⟩ hr (dv 1) de_int (fun _ _ => rfl)) (de_ix ⟨rfl, rfl⟩ hr (dv 0) de_int (fun _ _ => rfl))) (de_chain (od_lt hr) (od_lt hr) (de_ix ⟨rfl, rfl⟩ hr (dv 0) de_int (fun _ _ => rfl)) (de_ix ⟨rfl, rfl⟩ hr (dv 1) de_int (fun _ _ => rfl)) (de_ix ⟨rfl, rfl⟩ hr (dv 0) de_int (fun _ _ => rfl))) (nomark _))))

abbrev st_goal_fault : Stmt := top 36
abbrev sc_goal_fault : Scope := defScope st_goal_fault
abbrev N_goal_fault : List Str := ["start", "goal", "reach", "boat", "pairs", "pair", "one", "other"]
theorem fs_goal_fault : FnScope N_goal_fault ["start", "goal", "reach"] sc_goal_fault := ⟨rfl, rfl, rfl, by decide +kernel, rfl, by decide +kernel, by decide +kernel⟩
def u_goal_fault : DTS := (dSeq (dFor (iSeq (dCallP t_unrounded (cCons (dVar 0) (cCons (dVar 1) cNil)))) (dGName 3) (dRet (dTup (cCons (dC (.str "round")) (cCons (dVar 3) cNil)))))
    (dSeq (dSet 4 (dCallP t_pairs_of (cCons (dVar 0) (cCons (dVar 1) cNil))))
    (dSeq (dFor (iSeq (dVar 4)) (dGName 5) (dIf (dTest (dOp gGt (dOp gSub (dOp gSub (dIx (dVar 5) (dC (.int 1))) (dIx (dVar 5) (dC (.int 0)))) (dC (.int 1))) (dVar 2))) (dRet (dTup (cCons (dC (.str "far")) (cCons (dCallP t_touch_at (cCons (dVar 0) (cCons (dVar 5) cNil))) cNil)))) dNext))
    (dSeq (dFor (iSeq (dVar 4)) (dGName 6) (dFor (iSeq (dVar 4)) (dGName 7) (dIf (dTest (dCallP t_cross (cCons (dVar 6) (cCons (dVar 7) cNil)))) (dRet (dTup (cCons (dC (.str "cross")) (cCons (dCallP t_touch_at (cCons (dVar 0) (cCons (dVar 6) cNil))) (cCons (dCallP t_touch_at (cCons (dVar 0) (cCons (dVar 7) cNil))) cNil))))) dNext)))
    (dRet (dC .none))))))
theorem d_goal_fault {K : PySem.W.Frag} {mg : Str → Option Value} {base : Heap} {f : Addr} {cdv : Value} {A : Around} {outer : List Env} {s : Shared} {H : Hp} {E : XK} {W : Wd} (M : Mg mg) (Fcross : DFn TheW.P TheW.w K mg base 1 "cross" (spP t_cross)) (Ftouch_at : DFn TheW.P TheW.w K mg base 1 "touch_at" (spP t_touch_at)) (Fpairs_of : DFn TheW.P TheW.w K mg base 1 "pairs_of" (spP t_pairs_of)) (Funrounded : DFn TheW.P TheW.w K mg base 1 "unrounded" (spP t_unrounded)) (hr : Room 1 (cx N_goal_fault "goal_fault" sc_goal_fault K mg base f cdv A outer s H E).A) : DSs (cx N_goal_fault "goal_fault" sc_goal_fault K mg base f cdv A outer s H E) W (defBody st_goal_fault) u_goal_fault := by
  have nd := fs_goal_fault.nd
  exact (dss_cons (ds_for PassesOwn.never rfl (di_seq (de_call Funrounded hr (by decide) rfl (ac_cons (dv 0) (ac_cons (dv 1) ac_nil)))) (dg_name (i := 3) nd rfl (Or.inl rfl)) (dss_one (ds_ret (de_tup (da_of (ac_cons de_str (ac_cons (dv 3) ac_nil)))))))
    (dss_cons (ds_set (i := 4) nd rfl (Or.inl rfl) (de_call Fpairs_of hr (by decide) rfl (ac_cons (dv 0) (ac_cons (dv 1) ac_nil))))
    (dss_cons (ds_for PassesOwn.never rfl (di_seq (dv 4)) (dg_name (i := 5) nd rfl (Or.inl rfl)) (dss_one (ds_if (dt_cmp od_gt (de_op od_sub (de_op od_sub (de_ix ⟨rfl, rfl⟩ hr (dv 5) de_int (fun _ _ => rfl)) (de_ix ⟨rfl, rfl⟩ hr (dv 5) de_int (fun _ _ => rfl))) de_int) (dv 2) (nomark _)) (dss_one (ds_ret (de_tup (da_of (ac_cons de_str (ac_cons (de_call Ftouch_at hr (by decide) rfl (ac_cons (dv 0) (ac_cons (dv 5) ac_nil))) ac_nil)))))) dss_nil)))
    (dss_cons (ds_for PassesOwn.never rfl (di_seq (dv 4)) (dg_name (i := 6) nd rfl (Or.inl rfl)) (dss_one (ds_for PassesOwn.never rfl (di_seq (dv 4)) (dg_name (i := 7) nd rfl (Or.inl rfl)) (dss_one (ds_if (dt_val (de_call Fcross hr (by decide) rfl (ac_cons (dv 6) (ac_cons (dv 7) ac_nil)))) (dss_one (ds_ret (de_tup (da_of (ac_cons de_str (ac_cons (de_call Ftouch_at hr (by decide) rfl (ac_cons (dv 0) (ac_cons (dv 6) ac_nil))) (ac_cons (de_call Ftouch_at hr (by decide) rfl (ac_cons (dv 0) (ac_cons (dv 7) ac_nil))) ac_nil))))))) dss_nil)))))
    (dss_one (ds_ret de_non))))))

abbrev st_told_race : Stmt := top 37
abbrev sc_told_race : Scope := defScope st_told_race
abbrev N_told_race : List Str := ["start", "goal", "pairs", "met", "pair", "drops", "free", "p", "boat", "touches", "one", "other"]
theorem fs_told_race : FnScope N_told_race ["start", "goal"] sc_told_race := ⟨rfl, rfl, rfl, by decide +kernel, rfl, by decide +kernel, by decide +kernel⟩
def u_told_race : DTS := (dSeq (dSet 2 (dCallP t_pairs_of (cCons (dVar 0) (cCons (dVar 1) cNil))))
    (dSeq (dOwn 3 (fLst cNil))
    (dSeq (dFor (iSeq (dVar 2)) (dGName 4) (dDrop (dM 3 (cCons (dVar 4) cNil) mExtendT)))
    (dSeq (dOwn 5 (fLst cNil))
    (dSeq (dOwn 6 (fLst cNil))
    (dSeq (dFor (iEnum (cCons (dVar 0) cNil)) (dGTup 2 (dGCons (dGName 7) (dGCons (dGName 8) dGNil))) (dIf (dTest (dOp gNotIn (dVar 7) (dVar 3))) (dIf (dTest (dCB gAny (dCons (dOfF (fLc (iSeq (dVar 2)) (dGTup 2 (dGCons (dGName 10) (dGCons (dGName 11) dGNil))) dYes (dChain gLt gLt (dVar 10) (dVar 7) (dVar 11)) [10, 11])) dNil))) (dDrop (dM 5 (cCons (dVar 8) cNil) mAppend)) (dDrop (dM 6 (cCons (dVar 8) cNil) mAppend))) dNext))
    (dSeq (dOwn 9 (fSrt (dCons (dOfF (fLc (iSeq (dVar 2)) (dGName 4) dYes (dCallP t_touch_at (cCons (dVar 0) (cCons (dVar 4) cNil))) [4])) dNil)))
    (dRet (dTup (cCons (dCB gTuple (dCons (dVar 9) dNil)) (cCons (dCB gTuple (dCons (dOfF (fSrt (dCons (dVar 5) dNil))) dNil)) (cCons (dCB gTuple (dCons (dOfF (fSrt (dCons (dVar 6) dNil))) dNil)) cNil))))))))))))
theorem d_told_race {K : PySem.W.Frag} {mg : Str → Option Value} {base : Heap} {f : Addr} {cdv : Value} {A : Around} {outer : List Env} {s : Shared} {H : Hp} {E : XK} {W : Wd} (M : Mg mg) (Ftouch_at : DFn TheW.P TheW.w K mg base 1 "touch_at" (spP t_touch_at)) (Fpairs_of : DFn TheW.P TheW.w K mg base 1 "pairs_of" (spP t_pairs_of)) (hr : Room 1 (cx N_told_race "told_race" sc_told_race K mg base f cdv A outer s H E).A) : DSs (cx N_told_race "told_race" sc_told_race K mg base f cdv A outer s H E) W (defBody st_told_race) u_told_race := by
  have nd := fs_told_race.nd
  exact (dss_cons (ds_set (i := 2) nd rfl (Or.inl rfl) (de_call Fpairs_of hr (by decide) rfl (ac_cons (dv 0) (ac_cons (dv 1) ac_nil))))
    (dss_cons (ds_own (i := 3) nd rfl (Or.inl rfl) (df_lst (da_of ac_nil)))
    (dss_cons (ds_for PassesOwn.never rfl (di_seq (dv 2)) (dg_name (i := 4) nd rfl (Or.inl rfl)) (dss_one (ds_expr (de_extendT (i := 3) (ac_cons (dv 4) ac_nil)))))
    (dss_cons (ds_own (i := 5) nd rfl (Or.inl rfl) (df_lst (da_of ac_nil)))
    (dss_cons (ds_own (i := 6) nd rfl (Or.inl rfl) (df_lst (da_of ac_nil)))
    (dss_cons (ds_for PassesOwn.never rfl (di_enum rfl M.enumerate (ac_cons (dv 0) ac_nil)) (dg_tup rfl (dgs_cons (dg_name (i := 7) nd rfl (Or.inr rfl)) (dgs_cons (dg_name (i := 8) nd rfl (Or.inl rfl)) dgs_nil))) (dss_one (ds_if (dt_cmp (od_notIn ⟨rfl, rfl⟩ hr) (dv 7) (dv 3) (by with_unfolding_all rfl)) (dss_one (ds_if (dt_val (de_callB (cr_anyD rfl) rfl M.any (by decide +kernel) (da_cons (de_ofF (df_lc (own := [("one", 10), ("other", 11)]) rfl nd (di_seq (dv 2)) (blkOk_by (N := N_told_race) (sc := sc_told_race) (by decide +kernel)) (tg_tup (tgs_cons (tg_name (by decide)) (tgs_cons (tg_name (by decide)) tgs_nil))) (fun _ _ _ _ _ => (pg_tup rfl (pgs_cons (pg_name (i := 10) nd rfl (Or.inl rfl)) (pgs_cons (pg_name (i := 11) nd rfl (Or.inl rfl)) pgs_nil)))) (fun _ _ _ _ _ _ => dts_nil) (fun _ _ _ _ _ _ => (de_chain (od_lt hr) (od_lt hr) (dv 10) (dv 7) (dv 11))))) da_nil))) (dss_one (ds_expr (de_append (i := 5) (ac_cons (dv 8) ac_nil)))) (dss_one (ds_expr (de_append (i := 6) (ac_cons (dv 8) ac_nil)))))) dss_nil)))
    (dss_cons (ds_own (i := 9) nd rfl (Or.inl rfl) (df_sorted ⟨rfl, rfl⟩ hr rfl rfl M.sorted (da_cons (de_ofF (df_lc (own := [("pair", 4)]) rfl nd (di_seq (dv 2)) (blkOk_by (N := N_told_race) (sc := sc_told_race) (by decide +kernel)) (tg_name (by decide)) (fun _ _ _ _ _ => (pg_name (i := 4) nd rfl (Or.inl rfl))) (fun _ _ _ _ _ _ => dts_nil) (fun _ _ _ _ _ _ => (de_call Ftouch_at hr (by decide) rfl (ac_cons (dv 0) (ac_cons (dv 4) ac_nil)))))) da_nil)))
    (dss_one (ds_ret (de_tup (da_of (ac_cons (de_callTy cr_tuple rfl M.tuple (by decide +kernel) (da_cons (dv 9) da_nil)) (ac_cons (de_callTy cr_tuple rfl M.tuple (by decide +kernel) (da_cons (de_ofF (df_sorted ⟨rfl, rfl⟩ hr rfl rfl M.sorted (da_cons (dv 5) da_nil))) da_nil)) (ac_cons (de_callTy cr_tuple rfl M.tuple (by decide +kernel) (da_cons (de_ofF (df_sorted ⟨rfl, rfl⟩ hr rfl rfl M.sorted (da_cons (dv 6) da_nil))) da_nil)) ac_nil))))))))))))))

abbrev st_told_by : Stmt := top 38
abbrev sc_told_by : Scope := defScope st_told_by
abbrev N_told_by : List Str := ["meeting", "row", "other", "found", "k", "start", "goal", "strange", "fault"]
theorem fs_told_by : FnScope N_told_by ["meeting", "row", "other"] sc_told_by := ⟨rfl, rfl, rfl, by decide +kernel, rfl, by decide +kernel, by decide +kernel⟩
def u_told_by : DTS := (dSeq (dOwn 3 (fLst cNil))
    (dSeq (dFor (iSeq (dCallP t_races_going (cCons (dVar 0) (cCons (dVar 1) cNil)))) (dGName 4) (dSeq (dSet 5 (dCallP t_start_on (cCons (dVar 0) (cCons (dVar 1) (cCons (dVar 4) cNil)))))
    (dSeq (dAsg (dCallP t_goal_of (cCons (dVar 0) (cCons (dVar 5) (cCons (dVar 2) (cCons (dVar 4) cNil))))) (dGTup 2 (dGCons (dGName 6) (dGCons (dGName 7) dGNil))))
    (dSeq (dIf (dTest (dOp gIsNot (dVar 7) (dC .none))) (dRet (dTup (cCons (dC (.str "untold")) (cCons (dVar 4) (cCons (dTup (cCons (dC (.str "from")) (cCons (dVar 7) cNil))) cNil))))) dNext)
    (dSeq (dSet 8 (dCallP t_goal_fault (cCons (dVar 5) (cCons (dVar 6) (cCons (dIx (dVar 0) (dC (.int 1))) cNil)))))
    (dSeq (dIf (dTest (dOp gIsNot (dVar 8) (dC .none))) (dRet (dTup (cCons (dC (.str "untold")) (cCons (dVar 4) (cCons (dVar 8) cNil))))) dNext)
    (dSeq (dDrop (dM 3 (cCons (dCallP t_told_race (cCons (dVar 5) (cCons (dVar 6) cNil))) cNil) mAppend))
    (dSet 1 (dCallP t_laid_on (cCons (dVar 0) (cCons (dVar 1) (cCons (dVar 4) (cCons (dVar 6) cNil)))))))))))))
    (dSeq (dDrop (dM 3 cNil mReverse))
    (dRet (dTup (cCons (dC (.str "told")) (cCons (dCB gTuple (dCons (dVar 3) dNil)) cNil)))))))
theorem d_told_by {K : PySem.W.Frag} {mg : Str → Option Value} {base : Heap} {f : Addr} {cdv : Value} {A : Around} {outer : List Env} {s : Shared} {H : Hp} {E : XK} {W : Wd} (M : Mg mg) (Fraces_going : DFn TheW.P TheW.w K mg base 2 "races_going" (spP t_races_going)) (Flaid_on : DFn TheW.P TheW.w K mg base 2 "laid_on" (spP t_laid_on)) (Ftold_race : DFn TheW.P TheW.w K mg base 2 "told_race" (spP t_told_race)) (Fgoal_fault : DFn TheW.P TheW.w K mg base 2 "goal_fault" (spP t_goal_fault)) (Fgoal_of : DFn TheW.P TheW.w K mg base 2 "goal_of" (spP t_goal_of)) (Fstart_on : DFn TheW.P TheW.w K mg base 2 "start_on" (spP t_start_on)) (hr : Room 2 (cx N_told_by "told_by" sc_told_by K mg base f cdv A outer s H E).A) : DSs (cx N_told_by "told_by" sc_told_by K mg base f cdv A outer s H E) W (defBody st_told_by) u_told_by := by
  have nd := fs_told_by.nd
  exact (dss_cons (ds_own (i := 3) nd rfl (Or.inl rfl) (df_lst (da_of ac_nil)))
    (dss_cons (ds_for PassesOwn.never rfl (di_seq (de_call Fraces_going hr (by decide) rfl (ac_cons (dv 0) (ac_cons (dv 1) ac_nil)))) (dg_name (i := 4) nd rfl (Or.inl rfl)) (dss_cons (ds_set (i := 5) nd rfl (Or.inl rfl) (de_call Fstart_on hr (by decide) rfl (ac_cons (dv 0) (ac_cons (dv 1) (ac_cons (dv 4) ac_nil)))))
    (dss_cons (ds_asg (de_call Fgoal_of hr (by decide) rfl (ac_cons (dv 0) (ac_cons (dv 5) (ac_cons (dv 2) (ac_cons (dv 4) ac_nil))))) (dg_tup rfl (dgs_cons (dg_name (i := 6) nd rfl (Or.inl rfl)) (dgs_cons (dg_name (i := 7) nd rfl (Or.inl rfl)) dgs_nil))))
    (dss_cons (ds_if (dt_cmp od_isNot (dv 7) de_non (nomark _)) (dss_one (ds_ret (de_tup (da_of (ac_cons de_str (ac_cons (dv 4) (ac_cons (de_tup (da_of (ac_cons de_str (ac_cons (dv 7) ac_nil)))) ac_nil))))))) dss_nil)
    (dss_cons (ds_set (i := 8) nd rfl (Or.inl rfl) (de_call Fgoal_fault hr (by decide) rfl (ac_cons (dv 5) (ac_cons (dv 6) (ac_cons (de_ix ⟨rfl, rfl⟩ hr (dv 0) de_int (fun _ _ => rfl)) ac_nil)))))
    (dss_cons (ds_if (dt_cmp od_isNot (dv 8) de_non (nomark _)) (dss_one (ds_ret (de_tup (da_of (ac_cons de_str (ac_cons (dv 4) (ac_cons (dv 8) ac_nil))))))) dss_nil)
    (dss_cons (ds_expr (de_append (i := 3) (ac_cons (de_call Ftold_race hr (by decide) rfl (ac_cons (dv 5) (ac_cons (dv 6) ac_nil))) ac_nil)))
    (dss_one (ds_set (i := 1) nd rfl (Or.inl rfl) (de_call Flaid_on hr (by decide) rfl (ac_cons (dv 0) (ac_cons (dv 1) (ac_cons (dv 4) (ac_cons (dv 6) ac_nil))))))))))))))
    (dss_cons (ds_expr (de_reverse (i := 3)))
    (dss_one (ds_ret (de_tup (da_of (ac_cons de_str (ac_cons (de_callTy cr_tuple rfl M.tuple (by decide +kernel) (da_cons (dv 3) da_nil)) ac_nil)))))))))

abbrev st_days_between : Stmt := top 39
abbrev sc_days_between : Scope := defScope st_days_between
abbrev N_days_between : List Str := ["meeting", "row", "other", "found", "touches", "drops", "free"]
theorem fs_days_between : FnScope N_days_between ["meeting", "row", "other"] sc_days_between := ⟨rfl, rfl, rfl, by decide +kernel, rfl, by decide +kernel, by decide +kernel⟩
def u_days_between : DTS := (dSeq (dSet 3 (dCallP t_told_by (cCons (dVar 0) (cCons (dVar 1) (cCons (dVar 2) cNil)))))
    (dSeq (dIf (dTest (dOp gEq (dIx (dVar 3) (dC (.int 0))) (dC (.str "untold")))) (dRet (dC (.int 0))) dNext)
    (dRet (dOp gShl (dC (.int 1)) (dCB gSum (dCons (dOfF (fLc (iSeq (dIx (dVar 3) (dC (.int 1)))) (dGTup 3 (dGCons (dGName 4) (dGCons (dGName 5) (dGCons (dGName 6) dGNil)))) dYes (dCB gLen (dCons (dVar 6) dNil)) [4, 5, 6])) dNil))))))
theorem d_days_between {K : PySem.W.Frag} {mg : Str → Option Value} {base : Heap} {f : Addr} {cdv : Value} {A : Around} {outer : List Env} {s : Shared} {H : Hp} {E : XK} {W : Wd} (M : Mg mg) (Ftold_by : DFn TheW.P TheW.w K mg base 3 "told_by" (spP t_told_by)) (hr : Room 3 (cx N_days_between "days_between" sc_days_between K mg base f cdv A outer s H E).A) : DSs (cx N_days_between "days_between" sc_days_between K mg base f cdv A outer s H E) W (defBody st_days_between) u_days_between := by
  have nd := fs_days_between.nd
  exact (dss_cons (ds_set (i := 3) nd rfl (Or.inl rfl) (de_call Ftold_by hr (by decide) rfl (ac_cons (dv 0) (ac_cons (dv 1) (ac_cons (dv 2) ac_nil)))))
    (dss_cons (ds_if (dt_cmp (od_eq hr) (de_ix ⟨rfl, rfl⟩ hr (dv 3) de_int (fun _ _ => rfl)) de_str (nomark _)) (dss_one (ds_ret de_int)) dss_nil)
    (dss_one (ds_ret (de_op od_shl de_int (de_callB (cr_sumD rfl) rfl M.sum (by decide +kernel) (da_cons (de_ofF (df_lc (own := [("touches", 4), ("drops", 5), ("free", 6)]) rfl nd (di_seq (de_ix ⟨rfl, rfl⟩ hr (dv 3) de_int (fun _ _ => rfl))) (blkOk_by (N := N_days_between) (sc := sc_days_between) (by decide +kernel)) (tg_tup (tgs_cons (tg_name (by decide)) (tgs_cons (tg_name (by decide)) (tgs_cons (tg_name (by decide)) tgs_nil)))) (fun _ _ _ _ _ => (pg_tup rfl (pgs_cons (pg_name (i := 4) nd rfl (Or.inl rfl)) (pgs_cons (pg_name (i := 5) nd rfl (Or.inl rfl)) (pgs_cons (pg_name (i := 6) nd rfl (Or.inl rfl)) pgs_nil))))) (fun _ _ _ _ _ _ => dts_nil) (fun _ _ _ _ _ _ => (de_callB (cr_len ⟨rfl, rfl⟩) rfl M.len boot_len (da_cons (dv 6) da_nil))))) da_nil)))))))

end DL
/-! L3: days and tellings keep their promises. -/
namespace DL
open PySem PySem.Spec PyProof.Rows L2
variable [TheW]
theorem dl_map {α : Type} {G : DTG} {Tb : DTS} {D : DEnds} {f : α → PyData} {l : List α} {s : DSt} (h : dLoop G Tb D (l.map fun a => .d (f a)) s) : dLoop G Tb D ((l.map f).map .d) s := by rw [List.map_map]; exact h
theorem lc_mm {α : Type} {G : DTG} {Tt : DTT} {Te : DTE} {vs : List Nat} {Q : List PyData → DSt → Prop} {f : α → PyData} {l : List α} {acc : List PyData} {s : DSt} (h : lcLoop G Tt Te vs Q (l.map fun a => .d (f a)) acc s) : lcLoop G Tt Te vs Q ((l.map f).map .d) acc s := by rw [List.map_map]; exact h
theorem dl_enum {α : Type} {G : DTG} {Tb : DTS} {D : DEnds} {f : α → PyData} {l : List α} {s : DSt} (h : dLoop G Tb D (l.zipIdx.map fun p => .p [.int (p.2 : Nat), f p.1]) s) : dLoop G Tb D (enumD (l.map f)) s := by
  have e1 : enumD (l.map f) = l.zipIdx.map fun p => .p [.int (p.2 : Nat), f p.1] := by
    unfold enumD
    rw [List.zipIdx_map, List.map_map]
    rfl
  rw [e1]; exact h
theorem l_is_day : Law t_is_day u_is_day N_is_day := by
  rintro xs c K ⟨nm, n, day, hn, hd, h1, h2, rfl, q⟩
  refine ⟨_, _, rfl, rfl, trivial, ifD (by simp; omega) ⟨trivial, ?_⟩⟩
  conv => whnf
  refine ifF ?_ ?_
  · simp; omega
  refine ⟨by simp; omega, lc_mm (lc_map (fun e => .d (shD nm e)) (fun _ => .bool true) day _ (fun e Kt Kf he hk => ⟨nm, n, e, hn, hd e he, rfl, hk⟩) ⟨day.map fun _ => true, by rw [← asBools_map, List.map_map]; rfl, kEq q ?_⟩)⟩
  simp
theorem lenN (nm : Nat → Str) (l : List Nat) : ((l.map (sB nm)).length : Int) = (l.length : Nat) := by rw [List.length_map]
theorem one_le {l : List Nat} (h : l ≠ []) : 1 ≤ l.length := List.length_pos_iff.mpr h
theorem l_start_on : Law t_start_on u_start_on N_start_on := by
  rintro xs c K ⟨nm, size, reach, k, l, hm, hl, hk, rfl, q⟩
  refine ⟨size, reach, l.length, k, hm, one_le hl, hk, by rw [← lenN nm], rfl, rfl, kEq q ?_⟩
  have e : ((iLast size l.length k : Nat) : Int) + 1 = ((iLast size l.length k + 1 : Nat) : Int) := by omega
  rw [e, cut_ij, tN_take, tN_drop]
  rfl
theorem l_laid_on : Law t_laid_on u_laid_on N_laid_on := by
  rintro xs c K ⟨nm, size, reach, k, l, t, hm, hl, hk, hll, htl, rfl, q⟩
  have e : ((iLast size l.length k : Nat) : Int) + 1 = ((iLast size l.length k + 1 : Nat) : Int) := by omega
  have e1 : cutL (l.map (sB nm)) none (some ((k * size : Nat) : Int)) = (l.take (k * size)).map (sB nm) := by rw [cut_j, tN_take]
  have e2 : cutL (l.map (sB nm)) (some (((iLast size l.length k : Nat) : Int) + 1)) none = (l.drop (iLast size l.length k + 1)).map (sB nm) := by rw [e, cut_i, tN_drop]
  refine ⟨size, reach, l.length, k, hm, one_le hl, hk, by rw [← lenN nm], rfl, rfl, ?_, ?_, kEq q ?_⟩
  · rw [e1]; simp; omega
  · rw [e1, e2]; simp; omega
  · rw [e1, e2]; unfold iLaid tN; rw [List.map_append, List.map_append]
theorem going_ints (m : Nat) : ((List.range m).map fun i => PyData.int (((m : Int) - 1) + (i : Nat) * (-1))) = ((List.range m).reverse).map fun k => .int (k : Nat) := by
  apply List.ext_getElem
  · simp
  · intro i h1 h2
    simp only [List.length_map, List.length_range] at h1
    simp only [List.getElem_map, List.getElem_range, List.getElem_reverse, List.length_range]
    congr 1
    omega
theorem l_races_going : Law t_races_going u_races_going N_races_going := by
  rintro xs c K ⟨nm, size, reach, l, hm, hl, hll, rfl, q⟩
  have hb : iRaces size l.length ≤ 507 := by
    unfold iRaces
    have h1 := hm.1
    have h2 := hm.2.1
    exact Nat.le_trans (Nat.div_le_self _ _) (by omega)
  refine ⟨size, reach, l.length, hm, one_le hl, by rw [← lenN nm], trivial, iRaces size l.length, ?_, by omega, kEq q ?_⟩
  · have := RgC.neg (i := (iRaces size l.length : Int) - 1) (j := -1) (by omega) (by omega) (by decide) (by decide)
    have e : (((iRaces size l.length : Nat) : Int) - 1 - -1).toNat = iRaces size l.length := by omega
    rw [e] at this
    exact this
  · exact congrArg PyData.list (going_ints _).symm
theorem iStart_sub {size k : Nat} {row : List Nat} {x : Nat} (h : x ∈ iStart size row k) : x ∈ row := List.mem_of_mem_take (List.mem_of_mem_drop h)
theorem iStart_len (size k : Nat) (row : List Nat) : (iStart size row k).length ≤ row.length := by unfold iStart; simp; omega
theorem iBehind_len (l : List Nat) (ts : List (Nat × Nat)) : (iBehind l ts).length = l.length := by
  unfold iBehind
  suffices h : ∀ (r : List Nat), (ts.foldl (fun row p => iExch row (l.idxOf p.1) (l.idxOf p.2)) r).length = r.length from h l
  induction ts with
  | nil => intro r; rfl
  | cons t ts ih => intro r; rw [List.foldl_cons, ih]; simp [iExch]
theorem iLaid_len {size k : Nat} {row t : List Nat} (h : t.length = (iStart size row k).length) (hne : iStart size row k ≠ []) : (iLaid size row k t).length = row.length := by
  have h1 := one_le hne
  unfold iLaid
  unfold iStart at h h1
  simp only [List.length_append, List.length_take, List.length_drop] at h h1 ⊢
  omega
theorem atI_day {nm : Nat → Str} {day : List (List Ev)} {k : Nat} (h : k < day.length) : atI (day.map (shD nm)) (k : Int) = some (shD nm (day.getD k [])) := by
  refine atI_m ?_
  rw [List.getD_eq_getElem?_getD, List.getElem?_eq_getElem h]; rfl
theorem l_day_behind : Law t_day_behind u_day_behind N_day_behind := by
  rintro xs c K ⟨nm, n, size, reach, l, day, hn, hm, hl, hll, hdl, hd, rfl, q⟩
  refine ⟨size, reach, l.length, hm, one_le hl, by rw [← lenN nm], okD_int, okD_int, ?_⟩
  refine ifF ?_ ?_
  · rw [List.length_map, hdl, PyData.eqv]; simp
  refine ⟨nm, size, reach, l, hm, hl, hll, rfl, dl_map ?_⟩
  -- the races that are left
  have key : ∀ (ks : List Nat) (row : List Nat), row.length = l.length → DayOk n size reach day ks row → iDayGo size day ks row = iDayGo size day (iGoing size l.length) l → ∀ (a b d e : Option DS),
      dLoop (dGName 4) (dSeq (dSet 5 (dCallP t_start_on (cCons (dVar 0) (cCons (dVar 1) (cCons (dVar 4) cNil)))))
        (dSeq (dAsg (dCallP t_order_of (cCons (dVar 5) (cCons (dIx (dVar 0) (dC (.int 1))) (cCons (dIx (dVar 2) (dVar 4)) cNil)))) (dGTup 2 (dGCons (dGName 6) (dGCons (dGName 7) dGNil))))
        (dSeq (dIf (dTest (dOp gEq (dVar 6) (dC (.str "unsound")))) (dRet (dTup (cCons (dVar 6) (cCons (dVar 4) (cCons (dVar 7) cNil))))) dNext)
        (dSet 1 (dCallP t_laid_on (cCons (dVar 0) (cCons (dVar 1) (cCons (dVar 4) (cCons (dCallP t_row_behind (cCons (dVar 5) (cCons (dIx (dVar 2) (dVar 4)) cNil))) cNil)))))))))
        { nx := dRet (dTup (cCons (dC (.str "row")) (cCons (dVar 1) cNil))) { nx := fun s => K (.d .none) s.c, rt := fun x s => K x s.c }, rt := fun x s => K x s.c }
        (ks.map fun k => .d (.int (k : Nat))) ⟨[some (.sh (.d (Mt size reach))), some (.sh (.d (tN nm row))), some (.sh (.d (dayD nm day))), some (.sh (.d (.int (iRaces size l.length : Nat)))), a, b, d, e], c⟩ := by
    intro ks
    induction ks with
    | nil =>
      intro row hrl hok hres a b d e
      refine ⟨by simp, kEq q ?_⟩
      rw [← hres]; rfl
    | cons k ks ih =>
      intro row hrl ⟨h1, ⟨h2, h2'⟩, h3, h4, h5, h6, h7⟩ hres a b d e
      have hin : ∀ p ∈ iTouches (day.getD k []), p.1 ∈ iStart size row k ∧ p.2 ∈ iStart size row k := fun p hp => ⟨h6.sub _ (boats_mem (mem_touch hp) (by simp [Ev.boats])), h6.sub _ (boats_mem (mem_touch hp) (by simp [Ev.boats]))⟩
      have hls : Lt n (iStart size row k) := fun x hx => h1 x (iStart_sub hx)
      have hsl := iStart_len size k row
      refine ⟨nm, size, reach, k, row, hm, h2, h3, rfl, _, rfl, _, atI_day h4, nm, n, iStart size row k, day.getD k [], reach, hn, hls, h5, h6, rfl, fun y => ⟨rfl, rfl, okD_str, okD_str, ?_⟩⟩
      refine ifF (by decide +kernel) ⟨_, atI_day h4, nm, n, iStart size row k, day.getD k [], hn, hls, h5, hin, rfl, nm, size, reach, k, row, iBehind (iStart size row k) (iTouches (day.getD k [])), hm, h2, h3, by omega, by rw [iBehind_len]; omega, rfl, ?_⟩
      exact ih _ (by rw [iLaid_len (iBehind_len _ _) h2', hrl]) h7 hres _ _ _ _
  exact key _ l rfl hd rfl _ _ _ _
theorem l_not_of_start : Law t_not_of_start u_not_of_start N_not_of_start := by
  rintro xs c K ⟨nm, n, l, t, hn, hl, ht, htl, rfl, q⟩
  have e1 : cutL (t.map (sB nm)) (some ((1 : Nat) : Int)) none = (t.drop 1).map (sB nm) := by rw [cut_i, tN_drop]
  refine ⟨by simp [cutL]; omega, Eq.mp (congrArg (fun z => lcLoop _ _ _ _ _ (List.map _ z) _ _) e1.symm) (lc_mm (lc_filter (fun i => .d (sB nm i)) (fun b => decide (b ∉ l)) (sB nm) _ _ (fun b Kt Kf hb h1 h2 => ?_) q))⟩
  have hbn : b < n := ht b (List.mem_of_mem_drop hb)
  refine ⟨okD_sB, okAll_sB, ?_⟩
  conv => whnf
  rw [hn.mem hl hbn]
  by_cases h : b ∈ l
  · exact ifF (by simp [h]) (h2 (by simp [h]))
  · exact ifT (by simp [h]) (h1 (by simp [h]))
end DL
/-! L4: tellings keep their promises. -/
namespace DL
open PySem PySem.Spec PyProof.Rows L2
variable [TheW]
theorem cut_1 {α : Type} (xs : List α) : cutL xs (some 1) none = xs.drop 1 := cut_i xs 1
theorem l_goal_of : Law t_goal_of u_goal_of N_goal_of := by
  rintro xs c K ⟨nm, n, size, reach, l, other, k, hn, hm, hl, ho, hone, hol, hll, hk, hleft, rfl, q1, q2⟩
  have e : ((iLast size other.length k : Nat) : Int) + 1 = ((iLast size other.length k + 1 : Nat) : Int) := by omega
  have e1 : cutL (other.map (sB nm)) (some ((k * size : Nat) : Int)) (some (((iLast size other.length k : Nat) : Int) + 1)) = (iStart size other k).map (sB nm) := by rw [e, cut_ij, tN_take, tN_drop]; rfl
  refine ⟨size, reach, other.length, k, hm, one_le hone, hk, by rw [← lenN nm], rfl, rfl, ?_⟩
  conv => whnf
  rw [e1]
  refine ⟨okD_int, okD_int, ?_⟩
  by_cases hk0 : k = 0
  · refine ifT (by subst hk0; simp [PyData.eqv]) ⟨by simp, kEq (q2 (by unfold iStrange; rw [if_pos hk0])) ?_⟩
    unfold iGoal; rw [if_pos hk0]; rfl
  refine ifF (by rw [PyData.eqv]; simp; omega) ?_
  have hst : Lt n (iStart size other k) := fun x hx => ho x (iStart_sub hx)
  have hsl := iStart_len size k other
  refine ⟨nm, n, l, iStart size other k, hn, hl, hst, by omega, rfl, ?_⟩
  conv => whnf
  refine ⟨by simp, okAll_sB, rfl, ?_⟩
  have est : iStrange size l other k = (iNotOf l (iStart size other k)).head? := by unfold iStrange; rw [if_neg hk0]
  cases hno : iNotOf l (iStart size other k) with
  | cons b r =>
    refine ifT ?_ ⟨_, atI_m (i := 0) rfl, by simp, kEq (q1 b (by rw [est, hno]; rfl)) rfl⟩
    simp [PyData.eqv, PyData.eqvAll]
  | nil =>
    have hs0 : iStrange size l other k = none := by rw [est, hno]; rfl
    refine ifF (by simp [PyData.eqv, PyData.eqvAll]) ⟨by simp; omega, ?_⟩
    refine lc_mm (lc_filter (fun i => .d (sB nm i)) (fun b => decide (b ∉ (iStart size other k).drop 1)) (sB nm) l _ (fun b Kt Kf hb h1 h2 => ?_) ?_)
    · have e2 : cutL ((iStart size other k).map (sB nm)) (some ((1 : Nat) : Int)) none = ((iStart size other k).drop 1).map (sB nm) := by rw [cut_i, tN_drop]
      conv => whnf
      refine ⟨okD_sB, ?_⟩
      conv => whnf
      refine Eq.mp (congrArg (fun z => z.all (okD 8) = true ∧ (if (true ^^ z.any fun y => PyData.eqv y (sB nm b)) = true then Kt (sB nm b) _ else Kf _)) e2.symm) ⟨okAll_sB, ?_⟩
      rw [hn.mem (fun x hx => hst x (List.mem_of_mem_drop hx)) (hl b hb)]
      by_cases h : b ∈ (iStart size other k).drop 1
      · exact ifF (by rw [decide_eq_true h]; rfl) (h2 (decide_eq_false fun z => z h))
      · exact ifT (by rw [decide_eq_false h]; rfl) (h1 (decide_eq_true h))
    · have hl0 : iLeft l (iStart size other k) ≠ [] := by
        rcases hleft with h | h | h
        · exact absurd h hk0
        · rw [hs0] at h; cases h
        · exact h
      have hq := q2 hs0
      unfold iGoal at hq
      rw [if_neg hk0] at hq
      change K _ _ at hq
      have e2 : cutL ((iStart size other k).map (sB nm)) (some 1) none = ((iStart size other k).drop 1).map (sB nm) := by rw [cut_1, tN_drop]
      unfold iLeft at hl0 hq
      cases hlf : l.filter (fun b => decide (b ∉ (iStart size other k).drop 1)) with
      | nil => exact absurd hlf hl0
      | cons b r =>
        rw [hlf] at hq
        refine ⟨_, atI_m (i := 0) rfl, by simp, ?_⟩
        conv => whnf
        rw [e2]
        refine ⟨by simp; omega, by simp, kEq hq rfl⟩
theorem zip_mem {α : Type} {l : List α} {p : α × Nat} (h : p ∈ l.zipIdx) : p.2 < l.length ∧ l[p.2]? = some p.1 := by
  obtain ⟨h1, h2, h3⟩ := List.mem_zipIdx h
  refine ⟨by omega, ?_⟩
  rw [List.getElem?_eq_getElem (by omega)]
  simp at h3
  rw [h3]
theorem idx_lt {l g : List Nat} (h : Perm2 l g) {b : Nat} (hb : b ∈ l) : g.idxOf b < l.length := by rw [← h.len]; exact List.idxOf_lt_length_iff.mpr (h.sub b hb)
theorem Perm2.lt {l g : List Nat} {n : Nat} (h : Perm2 l g) (hl : Lt n l) : Lt n g := fun x hx => hl x (h.sub2 x hx)
theorem l_unrounded : Law t_unrounded u_unrounded N_unrounded := by
  rintro xs c K ⟨nm, n, l, g, hn, hl, hp, hll, rfl, q⟩
  refine ⟨by simp, dl_enum ?_⟩
  refine dLoop_list (fun p : Nat × Nat => .p [.int (p.2 : Nat), sB nm p.1]) l.zipIdx (fun done s => ∃ x y : Option DS, s = ⟨[some (.sh (.d (tN nm l))), some (.sh (.d (tN nm g))), some (.own (.lst (((done.filter fun p => decide (g.getD p.2 0 ≠ l.getD (g.idxOf p.1) 0)).map (·.1)).map (sB nm)))), x, y], c⟩) ?_ ?_ _ ⟨none, none, rfl⟩
  · rintro done p rest s R e ⟨x, y, rfl⟩ hR
    have hpm : p ∈ l.zipIdx := by rw [e]; simp
    obtain ⟨h1, h2⟩ := zip_mem hpm
    have hb : p.1 ∈ l := List.mem_of_getElem? h2
    have hgl : g.length = l.length := hp.len
    have hlen : done.length ≤ l.length := by
      have := congrArg List.length e
      simp at this; omega
    refine ⟨rfl, rfl, _, atI_m (getD_some (l := g) (by omega)), ⟨_, rfl⟩, _, _, asStrs_sB g, hn.ix (hp.lt hl) (hp.sub _ hb) (hl _ hb), _, atI_m (getD_some (idx_lt hp hb)), okD_sB, okD_sB, ?_⟩
    conv => whnf
    have hv1 : g.getD p.2 0 < n := by
      refine hp.lt hl _ ?_
      rw [List.getD_eq_getElem?_getD, List.getElem?_eq_getElem (by omega)]
      exact List.getElem_mem _
    have hv2 : l.getD (g.idxOf p.1) 0 < n := by
      refine hl _ ?_
      rw [List.getD_eq_getElem?_getD, List.getElem?_eq_getElem (idx_lt hp hb)]
      exact List.getElem_mem _
    rw [hn.eq hv1 hv2]
    by_cases h : g.getD p.2 0 = l.getD (g.idxOf p.1) 0
    · refine ifF (by rw [decide_eq_true h]; rfl) (hR _ ⟨some (.sh (.d (.int (p.2 : Nat)))), some (.sh (.d (sB nm p.1))), ?_⟩)
      rw [List.filter_append]
      simp only [List.filter_cons, List.filter_nil, ne_eq, h, not_true_eq_false, decide_false, Bool.false_eq_true, if_false, List.append_nil]
      rfl
    · refine ifT (by rw [decide_eq_false h]; rfl) ⟨⟨_, rfl⟩, _, rfl, ?_, hR _ ⟨some (.sh (.d (.int (p.2 : Nat)))), some (.sh (.d (sB nm p.1))), ?_⟩⟩
      · have := List.length_filter_le (fun p : Nat × Nat => decide (g.getD p.2 0 ≠ l.getD (g.idxOf p.1) 0)) done
        rw [List.length_map, List.length_map]; omega
      · rw [List.filter_append]
        simp only [List.filter_cons, List.filter_nil, ne_eq, h, not_false_eq_true, decide_true, if_true, List.map_append]
        rfl
  · rintro s ⟨x, y, rfl⟩
    exact q
theorem l_pairs_of : Law t_pairs_of u_pairs_of N_pairs_of := by
  rintro xs c K ⟨nm, n, l, g, hn, hl, hp, hll, rfl, q⟩
  refine ⟨by simp, dl_enum ?_⟩
  refine dLoop_list (fun p : Nat × Nat => .p [.int (p.2 : Nat), sB nm p.1]) l.zipIdx (fun done s => ∃ x y z : Option DS, s = ⟨[some (.sh (.d (tN nm l))), some (.sh (.d (tN nm g))), some (.own (.lst ((done.filterMap fun p => if p.2 < g.idxOf p.1 then some (p.2, g.idxOf p.1) else none).map ppD))), x, y, z], c⟩) ?_ ?_ _ ⟨none, none, none, rfl⟩
  · rintro done p rest s R e ⟨x, y, z, rfl⟩ hR
    have hpm : p ∈ l.zipIdx := by rw [e]; simp
    obtain ⟨h1, h2⟩ := zip_mem hpm
    have hb : p.1 ∈ l := List.mem_of_getElem? h2
    have hlen : done.length ≤ l.length := by
      have := congrArg List.length e
      simp at this; omega
    refine ⟨rfl, rfl, ⟨_, rfl⟩, _, _, asStrs_sB g, hn.ix (hp.lt hl) (hp.sub _ hb) (hl _ hb), ?_⟩
    conv => whnf
    by_cases h : p.2 < g.idxOf p.1
    · refine ifD (by omega) ⟨⟨_, rfl⟩, by simp, _, rfl, ?_, hR _ ⟨some (.sh (.d (.int (p.2 : Nat)))), some (.sh (.d (sB nm p.1))), some (.sh (.d (.int (g.idxOf p.1 : Nat)))), ?_⟩⟩
      · have := List.length_filterMap_le (fun p : Nat × Nat => if p.2 < g.idxOf p.1 then some (p.2, g.idxOf p.1) else none) done
        rw [List.length_map]; omega
      · rw [List.filterMap_append]
        simp only [List.filterMap_cons, List.filterMap_nil, h, if_true, List.map_append]
        rfl
    · refine ifN (by omega) (hR _ ⟨some (.sh (.d (.int (p.2 : Nat)))), some (.sh (.d (sB nm p.1))), some (.sh (.d (.int (g.idxOf p.1 : Nat)))), ?_⟩)
      rw [List.filterMap_append]
      simp only [List.filterMap_cons, List.filterMap_nil, h, if_false, List.append_nil]
      rfl
  · rintro s ⟨x, y, z, rfl⟩
    exact q
theorem l_touch_at : Law t_touch_at u_touch_at N_touch_at := by
  rintro xs c K ⟨nm, l, p, h1, h2, rfl, q⟩
  exact ⟨_, rfl, _, atI_m (getD_some h2), _, rfl, _, atI_m (getD_some h1), by simp, q⟩
theorem chain_lt {K : PyData → Prop} {a b c : Int} (q : K (.bool (decide (a < b) && decide (b < c)))) : if decide (a < b) = true then K (.bool (decide (b < c))) else K (.bool false) := by
  by_cases h : a < b
  · refine ifD h ?_
    rw [decide_eq_true h, Bool.true_and] at q; exact q
  · refine ifN h ?_
    rw [decide_eq_false h, Bool.false_and] at q; exact q
theorem l_cross : Law t_cross u_cross N_cross := by
  rintro xs c K ⟨o, p, rfl, q⟩
  refine ⟨_, rfl, _, rfl, ?_⟩
  conv => whnf
  have fin : ∀ b1 b2 : Bool, b1 = (decide (o.1 < p.1) && decide (p.1 < o.2)) → b2 = (decide (o.1 < p.2) && decide (p.2 < o.2)) → K (.d (.bool (!PyData.eqv (.bool b1) (.bool b2)))) c := fun b1 b2 h1 h2 => kEq q (by
    unfold iCross
    rw [← h1, ← h2]
    simp [PyData.eqv, bne])
  have second : ∀ b1 : Bool, b1 = (decide (o.1 < p.1) && decide (p.1 < o.2)) → dChain gLt gLt (dIx (dVar 0) (dC (.int 0))) (dIx (dVar 1) (dC (.int 1))) (dIx (dVar 0) (dC (.int 1))) ⟨startD N_cross [.d (ppD o), .d (ppD p)], c⟩ (fun y s2 => look s2 (.d (.bool b1)) fun dx => look s2 y fun dy => gNe dx dy fun d => capQ (.d d) s2 fun x s => K x s.c) := by
    intro b1 h1
    refine ⟨_, rfl, _, rfl, ?_⟩
    conv => whnf
    by_cases h : o.1 < p.2
    · refine ifD (by omega) ⟨_, rfl, ?_⟩
      refine ⟨okD_bool, okD_bool, fin b1 _ h1 ?_⟩
      rw [decide_eq_true h, Bool.true_and]
      exact decide_eq_decide.mpr (by omega)
    · refine ifN (by omega) ⟨okD_bool, okD_bool, fin b1 _ h1 ?_⟩
      rw [decide_eq_false h, Bool.false_and]
  by_cases h : o.1 < p.1
  · refine ifD (by omega) ⟨_, rfl, ?_⟩
    refine second _ ?_
    rw [decide_eq_true h, Bool.true_and]
    exact decide_eq_decide.mpr (by omega)
  · refine ifN (by omega) (second _ ?_)
    rw [decide_eq_false h, Bool.false_and]
end DL
/-! L5: tellings, the rest. -/
namespace DL
open PySem PySem.Spec PyProof.Rows L2
variable [TheW]
theorem pair_lt {l g : List Nat} (hp : Perm2 l g) {p : Nat × Nat} (h : p ∈ iPairs l g) : p.1 < p.2 ∧ p.2 < l.length := by
  obtain ⟨x, hx, he⟩ := List.mem_filterMap.mp h
  split at he
  · rename_i hlt
    cases he
    obtain ⟨h1, h2⟩ := zip_mem hx
    exact ⟨hlt, idx_lt hp (List.mem_of_getElem? h2)⟩
  · cases he
theorem pairs_len (l g : List Nat) : (iPairs l g).length ≤ l.length := by
  have := List.length_filterMap_le (fun p : Nat × Nat => if p.2 < g.idxOf p.1 then some (p.2, g.idxOf p.1) else none) l.zipIdx
  rw [List.length_zipIdx] at this
  exact this
theorem l_goal_fault : Law t_goal_fault u_goal_fault N_goal_fault := by
  rintro xs c K ⟨nm, n, l, g, reach, hn, hl, hp, hll, rfl, q1, q2⟩
  refine ⟨nm, n, l, g, hn, hl, hp, hll, rfl, dl_map ?_⟩
  cases hu : iUnrL l g with
  | cons b r =>
    have hf : iFF l g reach = false := by unfold iFF iUnr; rw [hu]; rfl
    exact ⟨by simp, q2 hf _⟩
  | nil =>
  have hu' : iUnr l g = true := by unfold iUnr; rw [hu]; rfl
  have pl := pairs_len l g
  refine ⟨nm, n, l, g, hn, hl, hp, hll, rfl, dl_map ?_⟩
  -- far
  by_cases hfar : (iPairs l g).all (fun p => decide (p.2 ≤ p.1 + 1 + reach)) = true
  rotate_left
  · have hf : iFF l g reach = false := by unfold iFF; rw [Bool.eq_false_iff.mpr hfar]; simp
    obtain ⟨i, hi, hbad⟩ : ∃ i, ∃ h : i < (iPairs l g).length, ¬ ((iPairs l g)[i]'h).2 ≤ ((iPairs l g)[i]'h).1 + 1 + reach := by
      rw [List.all_eq_true] at hfar
      obtain ⟨p, hp2⟩ := Classical.not_forall.mp hfar
      obtain ⟨hm, hb⟩ := Classical.not_imp.mp hp2
      obtain ⟨i, hi, e⟩ := List.mem_iff_getElem.mp hm
      exact ⟨i, hi, by rw [e]; simpa using hb⟩
    -- the loop comes to it, or stops ahead of it
    refine dLoop_list (fun p => .d (ppD p)) (iPairs l g) (fun done s => (∀ p ∈ done, p.2 ≤ p.1 + 1 + reach) ∧ ∃ x : Option DS, s = ⟨[some (.sh (.d (tN nm l))), some (.sh (.d (tN nm g))), some (.sh (.d (.int reach))), none, some (.sh (.d (.list ((iPairs l g).map ppD)))), x, none, none], c⟩) ?_ ?_ _ ⟨by simp, none, rfl⟩
    · rintro done p rest s R e ⟨hd, x, rfl⟩ hR
      have hpm : p ∈ iPairs l g := by rw [e]; simp
      obtain ⟨h1, h2⟩ := pair_lt hp hpm
      refine ⟨_, rfl, _, rfl, trivial, trivial, trivial, ?_⟩
      conv => whnf
      by_cases h : p.2 ≤ p.1 + 1 + reach
      · refine ifN (by omega) (hR _ ⟨fun z hz => ?_, some (.sh (.d (ppD p))), rfl⟩)
        rcases List.mem_append.mp hz with hz | hz
        · exact hd z hz
        · rw [List.mem_singleton] at hz; rw [hz]; exact h
      · refine ifD (by omega) ⟨nm, l, p, by omega, h2, rfl, by simp, q2 hf _⟩
    · rintro s ⟨hd, x, rfl⟩
      exact absurd (hd _ (List.getElem_mem hi)) hbad
  refine dLoop_list (fun p => .d (ppD p)) (iPairs l g) (fun done s => ∃ x : Option DS, s = ⟨[some (.sh (.d (tN nm l))), some (.sh (.d (tN nm g))), some (.sh (.d (.int reach))), none, some (.sh (.d (.list ((iPairs l g).map ppD)))), x, none, none], c⟩) ?_ ?_ _ ⟨none, rfl⟩
  · rintro done p rest s R e ⟨x, rfl⟩ hR
    have hpm : p ∈ iPairs l g := by rw [e]; simp
    have h : p.2 ≤ p.1 + 1 + reach := by simpa using List.all_eq_true.mp hfar p hpm
    refine ⟨_, rfl, _, rfl, trivial, trivial, trivial, ?_⟩
    conv => whnf
    exact ifN (by omega) (hR _ ⟨some (.sh (.d (ppD p))), rfl⟩)
  rintro s ⟨x, rfl⟩
  conv => whnf
  refine dl_map ?_
  by_cases hcr : ((iPairs l g).all fun o => (iPairs l g).all fun p => !iCross o p) = true
  · have hf : iFF l g reach = true := by unfold iFF; rw [hu', hfar, hcr]; rfl
    refine dLoop_list (fun p => .d (ppD p)) (iPairs l g) (fun done s => ∃ y z : Option DS, s = ⟨[some (.sh (.d (tN nm l))), some (.sh (.d (tN nm g))), some (.sh (.d (.int reach))), none, some (.sh (.d (.list ((iPairs l g).map ppD)))), x, y, z], c⟩) ?_ ?_ _ ⟨none, none, rfl⟩
    · rintro done o rest s R e ⟨y, z, rfl⟩ hR
      have hom : o ∈ iPairs l g := by rw [e]; simp
      conv => whnf
      refine dl_map (dLoop_list (fun p => .d (ppD p)) (iPairs l g) (fun done s => ∃ z : Option DS, s = ⟨[some (.sh (.d (tN nm l))), some (.sh (.d (tN nm g))), some (.sh (.d (.int reach))), none, some (.sh (.d (.list ((iPairs l g).map ppD)))), x, some (.sh (.d (ppD o))), z], c⟩) ?_ ?_ _ ⟨z, rfl⟩)
      · rintro dn p rs s R2 e2 ⟨z, rfl⟩ hR2
        have hpm : p ∈ iPairs l g := by rw [e2]; simp
        have h := List.all_eq_true.mp (List.all_eq_true.mp hcr o hom) p hpm
        exact ⟨o, p, rfl, ifF (by simpa using h) (hR2 _ ⟨some (.sh (.d (ppD p))), rfl⟩)⟩
      · rintro s ⟨z, rfl⟩
        exact hR _ ⟨some (.sh (.d (ppD o))), z, rfl⟩
    · rintro s ⟨y, z, rfl⟩
      exact q1 hf
  · have hf : iFF l g reach = false := by unfold iFF; rw [Bool.eq_false_iff.mpr hcr]; simp
    refine dLoop_list (fun p => .d (ppD p)) (iPairs l g) (fun done s => (∀ o ∈ done, ∀ p ∈ iPairs l g, iCross o p = false) ∧ ∃ y z : Option DS, s = ⟨[some (.sh (.d (tN nm l))), some (.sh (.d (tN nm g))), some (.sh (.d (.int reach))), none, some (.sh (.d (.list ((iPairs l g).map ppD)))), x, y, z], c⟩) ?_ ?_ _ ⟨by simp, none, none, rfl⟩
    · rintro done o rest s R e ⟨hd, y, z, rfl⟩ hR
      have hom : o ∈ iPairs l g := by rw [e]; simp
      conv => whnf
      refine dl_map (dLoop_list (fun p => .d (ppD p)) (iPairs l g) (fun done s => (∀ p ∈ done, iCross o p = false) ∧ ∃ z : Option DS, s = ⟨[some (.sh (.d (tN nm l))), some (.sh (.d (tN nm g))), some (.sh (.d (.int reach))), none, some (.sh (.d (.list ((iPairs l g).map ppD)))), x, some (.sh (.d (ppD o))), z], c⟩) ?_ ?_ _ ⟨by simp, z, rfl⟩)
      · rintro dn p rs s R2 e2 ⟨hd2, z, rfl⟩ hR2
        have hpm : p ∈ iPairs l g := by rw [e2]; simp
        obtain ⟨h1, h2⟩ := pair_lt hp hpm
        obtain ⟨h3, h4⟩ := pair_lt hp hom
        refine ⟨o, p, rfl, ifB (fun h => ?_) fun h => hR2 _ ⟨fun z hz => ?_, some (.sh (.d (ppD p))), rfl⟩⟩
        · exact ⟨nm, l, o, by omega, h4, rfl, nm, l, p, by omega, h2, rfl, by simp, q2 hf _⟩
        · rcases List.mem_append.mp hz with hz | hz
          · exact hd2 z hz
          · rw [List.mem_singleton] at hz; rw [hz]; exact h
      · rintro s ⟨hd2, z, rfl⟩
        refine hR _ ⟨fun z hz => ?_, some (.sh (.d (ppD o))), z, rfl⟩
        rcases List.mem_append.mp hz with hz | hz
        · exact hd z hz
        · rw [List.mem_singleton] at hz; rw [hz]; exact hd2
    · rintro s ⟨hd, y, z, rfl⟩
      refine absurd ?_ hcr
      rw [List.all_eq_true]
      intro o ho
      rw [List.all_eq_true]
      intro p hp'
      rw [hd o ho p hp']; rfl
end DL
/-! L6: told_race, told_by, days_between. -/
namespace DL
open PySem PySem.Spec PyProof.Rows L2
variable [TheW]
theorem srtOk_strs (nm : Nat → Str) (l : List Nat) (h : l.length ≤ 1000) : SrtOk (l.map (sB nm)) := by
  refine ⟨by rw [List.length_map]; omega, okAll_sB, ?_, .inr fun d hd => ?_⟩
  · intro d hd d' hd'
    obtain ⟨i, _, rfl⟩ := List.mem_map.mp hd
    obtain ⟨j, _, rfl⟩ := List.mem_map.mp hd'
    rfl
  · obtain ⟨i, _, rfl⟩ := List.mem_map.mp hd
    exact ⟨(by intro z; cases z), fun xs z => by cases z⟩
theorem srtOk_evs (nm : Nat → Str) (l : List Ev) (h : l.length ≤ 1000) : SrtOk (l.map (evD nm)) := by
  refine ⟨by rw [List.length_map]; omega, ?_, ?_, .inl fun d hd => ?_⟩
  · rw [List.all_map]; exact List.all_eq_true.mpr fun e _ => okD_ev
  · intro d hd d' hd'
    obtain ⟨i, _, rfl⟩ := List.mem_map.mp hd
    obtain ⟨j, _, rfl⟩ := List.mem_map.mp hd'
    exact alike_ev nm i j
  · obtain ⟨i, _, rfl⟩ := List.mem_map.mp hd
    cases i with
    | t a b => exact ⟨_, _, rfl⟩
    | d a => exact ⟨_, _, rfl⟩
theorem srtOk_tps (nm : Nat → Str) (l : List (Nat × Nat)) (h : l.length ≤ 1000) : SrtOk (l.map (tpD nm)) := by
  have := srtOk_evs nm (l.map fun p => Ev.t p.1 p.2) (by rw [List.length_map]; exact h)
  rw [List.map_map] at this
  exact this
theorem mem_ints (l : List Nat) (p : Nat) : ((l.map fun i => PyData.int (i : Nat)).any fun z => PyData.eqv z (.int (p : Nat))) = decide (p ∈ l) := by
  induction l with
  | nil => simp
  | cons a l ih =>
    rw [List.map_cons, List.any_cons, ih, PyData.eqv]
    by_cases h : a = p
    · subst h; simp
    · have h2 : ((a : Int) == (p : Int)) = false := by simp; omega
      have h3 : ¬ p = a := fun z => h z.symm
      simp [h2, h3]
theorem ok_ints (l : List Nat) : (l.map fun i => PyData.int (i : Nat)).all (okD 8) = true := by rw [List.all_map]; exact List.all_eq_true.mpr fun _ _ => okD_int
theorem l_told_race : Law t_told_race u_told_race N_told_race := by
  rintro xs c K ⟨nm, n, l, g, hn, hl, hp, hll, rfl, q⟩
  have pl := pairs_len l g
  have metl : ∀ t : List (Nat × Nat), (t.flatMap fun p => [p.1, p.2]).length = 2 * t.length := fun t => by
    induction t with
    | nil => rfl
    | cons a t ih => rw [List.flatMap_cons, List.length_append, ih]; simp; omega
  refine ⟨nm, n, l, g, hn, hl, hp, hll, rfl, by simp, dl_map ?_⟩
  refine dLoop_list (fun p => .d (ppD p)) (iPairs l g) (fun done s => ∃ x : Option DS, s = ⟨[some (.sh (.d (tN nm l))), some (.sh (.d (tN nm g))), some (.sh (.d (.list ((iPairs l g).map ppD)))), some (.own (.lst ((done.flatMap fun p => [p.1, p.2]).map fun i => .int (i : Nat)))), x, none, none, none, none, none, none, none], c⟩) ?_ ?_ _ ⟨none, rfl⟩
  · rintro done p rest s R e ⟨x, rfl⟩ hR
    have hlen : done.length ≤ (iPairs l g).length := by rw [e]; simp
    refine ⟨⟨_, rfl⟩, _, rfl, ?_, hR _ ⟨some (.sh (.d (ppD p))), ?_⟩⟩
    · rw [List.length_map, metl]; simp; omega
    · rw [List.flatMap_append, List.map_append, List.flatMap_singleton]
      rfl
  rintro s ⟨x, rfl⟩
  refine ⟨by simp, by simp, dl_enum ?_⟩
  let cd (p : Nat × Nat) : Bool := decide (p.2 ∉ iMet l g) && iIn (iPairs l g) p.2
  let cf (p : Nat × Nat) : Bool := decide (p.2 ∉ iMet l g) && !iIn (iPairs l g) p.2
  let st (dn : List (Nat × Nat)) (y z : Option DS) : DSt := ⟨[some (.sh (.d (tN nm l))), some (.sh (.d (tN nm g))), some (.sh (.d (.list ((iPairs l g).map ppD)))), some (.own (.lst ((iMet l g).map fun i => .int (i : Nat)))), x, some (.own (.lst (((dn.filter cd).map (·.1)).map (sB nm)))), some (.own (.lst (((dn.filter cf).map (·.1)).map (sB nm)))), y, z, none, none, none], c⟩
  refine dLoop_list (fun p : Nat × Nat => .p [.int (p.2 : Nat), sB nm p.1]) l.zipIdx (fun done s => ∃ y z : Option DS, s = st done y z) ?_ ?_ _ ⟨none, none, rfl⟩
  · rintro done p rest s R e ⟨y, z, rfl⟩ hR
    have hpm : p ∈ l.zipIdx := by rw [e]; simp
    have hlen : done.length ≤ l.length := by
      have := congrArg List.length e
      simp at this; omega
    have st0 : ∀ b1 b2 : Bool, cd p = b1 → cf p = b2 → st (done ++ [p]) (some (.sh (.d (.int (p.2 : Nat))))) (some (.sh (.d (sB nm p.1)))) = ⟨[some (.sh (.d (tN nm l))), some (.sh (.d (tN nm g))), some (.sh (.d (.list ((iPairs l g).map ppD)))), some (.own (.lst ((iMet l g).map fun i => .int (i : Nat)))), x,
        some (.own (.lst (((done.filter cd).map (·.1)).map (sB nm) ++ if b1 then [sB nm p.1] else []))), some (.own (.lst (((done.filter cf).map (·.1)).map (sB nm) ++ if b2 then [sB nm p.1] else []))), some (.sh (.d (.int (p.2 : Nat)))), some (.sh (.d (sB nm p.1))), none, none, none], c⟩ := by
      intro b1 b2 h1 h2
      simp only [st, List.filter_append, List.map_append, List.filter_cons, List.filter_nil, h1, h2]
      cases b1 <;> cases b2 <;> rfl
    refine ⟨rfl, rfl, okD_int, ok_ints _, ?_⟩
    conv => whnf
    rw [mem_ints]
    by_cases hm : p.2 ∈ iMet l g
    · refine ifF (by rw [decide_eq_true hm]; rfl) (hR _ ⟨some (.sh (.d (.int (p.2 : Nat)))), some (.sh (.d (sB nm p.1))), ?_⟩)
      rw [st0 false false (by simp [cd, hm]) (by simp [cf, hm])]
      simp only [Bool.false_eq_true, if_false, List.append_nil]
      rfl
    refine ifT (by rw [decide_eq_false hm]; rfl) ⟨by simp; omega, lc_mm ?_⟩
    refine lc_map (fun o => .d (ppD o)) (fun o => .bool (decide (o.1 < p.2) && decide (p.2 < o.2))) (iPairs l g) _ (fun o Kt Kf ho hk => ⟨rfl, rfl, ?_⟩) ?_
    · conv => whnf
      by_cases h : o.1 < p.2
      · refine ifD (by omega) (ktEq hk (congrArg PyData.bool ?_))
        rw [decide_eq_true h, Bool.true_and]
        exact decide_eq_decide.mpr (by omega)
      · refine ifN (by omega) (ktEq hk (congrArg PyData.bool ?_))
        rw [decide_eq_false h, Bool.false_and]
    refine ⟨(iPairs l g).map fun o => decide (o.1 < p.2) && decide (p.2 < o.2), by rw [← asBools_map, List.map_map]; rfl, ?_⟩
    have eany : ((iPairs l g).map fun o => decide (o.1 < p.2) && decide (p.2 < o.2)).any id = iIn (iPairs l g) p.2 := by
      unfold iIn
      rw [List.any_map]; rfl
    conv => whnf
    rw [eany]
    refine ifB (fun h => ⟨⟨_, rfl⟩, _, rfl, ?_, hR _ ⟨some (.sh (.d (.int (p.2 : Nat)))), some (.sh (.d (sB nm p.1))), ?_⟩⟩) fun h => ⟨⟨_, rfl⟩, _, rfl, ?_, hR _ ⟨some (.sh (.d (.int (p.2 : Nat)))), some (.sh (.d (sB nm p.1))), ?_⟩⟩
    · have := List.length_filter_le cd done
      rw [List.length_map, List.length_map]; omega
    · rw [st0 true false (by simp [cd, hm, h]) (by simp [cf, h])]
      simp only [if_true, Bool.false_eq_true, if_false, List.append_nil]
      rfl
    · have := List.length_filter_le cf done
      rw [List.length_map, List.length_map]; omega
    · rw [st0 false true (by simp [cd, h]) (by simp [cf, hm, h])]
      simp only [if_true, Bool.false_eq_true, if_false, List.append_nil]
      rfl
  rintro s ⟨y, z, rfl⟩
  refine ⟨by simp; omega, lc_mm ?_⟩
  refine lc_map (fun p => .d (ppD p)) (fun p => tpD nm (iTouchAt l p)) (iPairs l g) _ (fun p Kt Kf hpm hk => ?_) ?_
  · obtain ⟨h1, h2⟩ := pair_lt hp hpm
    exact ⟨nm, l, p, by omega, h2, rfl, hk⟩
  have e1 : (iPairs l g).map (fun p => tpD nm (iTouchAt l p)) = ((iPairs l g).map (iTouchAt l)).map (tpD nm) := by rw [List.map_map]; rfl
  have hd1 : (l.zipIdx.filter cd).length ≤ l.length := by
    have := List.length_filter_le cd l.zipIdx
    rw [List.length_zipIdx] at this; exact this
  have hf1 : (l.zipIdx.filter cf).length ≤ l.length := by
    have := List.length_filter_le cf l.zipIdx
    rw [List.length_zipIdx] at this; exact this
  refine ⟨by rw [e1]; exact srtOk_tps nm _ (by rw [List.length_map]; omega), ?_⟩
  refine ⟨srtOk_strs nm _ (by rw [List.length_map]; omega), srtOk_strs nm _ (by rw [List.length_map]; omega), by simp, kEq q ?_⟩
  unfold raceD iRace
  rw [e1]
  rfl
theorem perm2_of {a b : List Nat} (h : permB a b = true) : Perm2 b a := by
  unfold permB at h
  simp only [Bool.and_eq_true, decide_eq_true_eq, List.all_eq_true] at h
  obtain ⟨⟨⟨⟨h1, h2⟩, h5⟩, h3⟩, h4⟩ := h
  exact ⟨h1, h5, h2, h3, h4⟩
theorem l_told_by : Law t_told_by u_told_by N_told_by := by
  rintro xs c K ⟨nm, n, size, reach, l, other, hn, hm, hl, ho, hone, hlne, hll, hok, rfl, q1, q2⟩
  refine ⟨by simp, nm, size, reach, l, hm, hlne, hll, rfl, dl_map ?_⟩
  have key : ∀ (ks : List Nat) (row : List Nat) (found : List Race), Lt n row → row.length = l.length → found.length + ks.length ≤ 600 → iToldOk size reach other ks row = true → iTold size reach other ks row found = Told size reach l other → ∀ (a b d e f : Option DS),
      dLoop (dGName 4) (dSeq (dSet 5 (dCallP t_start_on (cCons (dVar 0) (cCons (dVar 1) (cCons (dVar 4) cNil)))))
        (dSeq (dAsg (dCallP t_goal_of (cCons (dVar 0) (cCons (dVar 5) (cCons (dVar 2) (cCons (dVar 4) cNil))))) (dGTup 2 (dGCons (dGName 6) (dGCons (dGName 7) dGNil))))
        (dSeq (dIf (dTest (dOp gIsNot (dVar 7) (dC .none))) (dRet (dTup (cCons (dC (.str "untold")) (cCons (dVar 4) (cCons (dTup (cCons (dC (.str "from")) (cCons (dVar 7) cNil))) cNil))))) dNext)
        (dSeq (dSet 8 (dCallP t_goal_fault (cCons (dVar 5) (cCons (dVar 6) (cCons (dIx (dVar 0) (dC (.int 1))) cNil)))))
        (dSeq (dIf (dTest (dOp gIsNot (dVar 8) (dC .none))) (dRet (dTup (cCons (dC (.str "untold")) (cCons (dVar 4) (cCons (dVar 8) cNil))))) dNext)
        (dSeq (dDrop (dM 3 (cCons (dCallP t_told_race (cCons (dVar 5) (cCons (dVar 6) cNil))) cNil) mAppend))
        (dSet 1 (dCallP t_laid_on (cCons (dVar 0) (cCons (dVar 1) (cCons (dVar 4) (cCons (dVar 6) cNil))))))))))))
        { nx := dSeq (dDrop (dM 3 cNil mReverse)) (dRet (dTup (cCons (dC (.str "told")) (cCons (dCB gTuple (dCons (dVar 3) dNil)) cNil)))) { nx := fun s => K (.d .none) s.c, rt := fun x s => K x s.c }, rt := fun x s => K x s.c }
        (ks.map fun k => .d (.int (k : Nat))) ⟨[some (.sh (.d (Mt size reach))), some (.sh (.d (tN nm row))), some (.sh (.d (tN nm other))), some (.own (.lst ((found.reverse).map (raceD nm)))), a, b, d, e, f], c⟩ := by
    intro ks
    induction ks with
    | nil =>
      intro row found hlr hrl hfl hok hres a b d e f
      refine ⟨⟨_, rfl⟩, _, rfl, by simp, kEq (q1 found hres.symm) ?_⟩
      rw [← List.map_reverse, List.reverse_reverse]
    | cons k ks ih =>
      intro row found hlr hrl hfl hok hres a b d e f
      unfold iToldOk at hok
      simp only [Bool.and_eq_true, decide_eq_true_eq] at hok
      obtain ⟨⟨⟨⟨o1, o2⟩, o3⟩, o4⟩, o5⟩ := hok
      have hrne : row ≠ [] := fun z => by rw [z] at hrl; exact hlne (List.length_eq_zero_iff.mp hrl.symm)
      have hsl := iStart_len size k row
      have hls : Lt n (iStart size row k) := fun x hx => hlr x (iStart_sub hx)
      unfold iTold at hres
      have hleft : k = 0 ∨ (iStrange size (iStart size row k) other k).isSome = true ∨ iLeft (iStart size row k) (iStart size other k) ≠ [] := by
        by_cases hs : (iStrange size (iStart size row k) other k).isSome = true
        · exact .inr (.inl hs)
        · rw [if_neg hs] at o5
          simp only [Bool.and_eq_true, Bool.or_eq_true, decide_eq_true_eq] at o5
          rcases o5.1.1 with h | h
          · exact .inl h
          · exact .inr (.inr h)
      refine ⟨nm, size, reach, k, row, hm, hrne, o3, rfl, nm, n, size, reach, iStart size row k, other, k, hn, hm, hls, ho, hone, by omega, by omega, o3, hleft, rfl, fun s hs => ⟨rfl, rfl, ?_⟩, fun hs => ⟨rfl, rfl, ?_⟩⟩
      · rw [if_pos (by rw [hs]; rfl)] at hres
        exact ⟨by simp, by simp, q2 hres.symm _ _⟩
      · rw [if_neg (by rw [hs]; exact Bool.false_ne_true)] at hres o5
        simp only [Bool.and_eq_true] at o5
        obtain ⟨⟨_, o6⟩, o7⟩ := o5
        have hp := perm2_of o6
        refine ⟨_, rfl, nm, n, iStart size row k, iGoal size (iStart size row k) other k, reach, hn, hls, hp, by omega, rfl, fun hf => ?_, fun hf ys => ?_⟩
        · rw [if_pos hf] at hres o7
          have hg := hp.len
          have hlg : Lt n (iGoal size (iStart size row k) other k) := hp.lt hls
          refine ⟨⟨_, rfl⟩, nm, n, iStart size row k, iGoal size (iStart size row k) other k, hn, hls, hp, by omega, rfl, _, rfl, by simp at hfl ⊢; omega, nm, size, reach, k, row, iGoal size (iStart size row k) other k, hm, hrne, o3, by omega, by omega, rfl, ?_⟩
          have e9 : (found.reverse).map (raceD nm) ++ [raceD nm (iRace (iStart size row k) (iGoal size (iStart size row k) other k))] = ((iRace (iStart size row k) (iGoal size (iStart size row k) other k) :: found).reverse).map (raceD nm) := by simp
          conv => whnf
          have goal := ih (iLaid size row k (iGoal size (iStart size row k) other k)) (iRace (iStart size row k) (iGoal size (iStart size row k) other k) :: found) (fun x hx => ?_) (by rw [iLaid_len hg o2, hrl]) (by simp at hfl ⊢; omega) o7 hres (some (.sh (.d (.int (k : Nat))))) (some (.sh (.d (tN nm (iStart size row k))))) (some (.sh (.d (tN nm (iGoal size (iStart size row k) other k))))) (some (.sh (.d .none))) (some (.sh (.d .none)))
          · rw [← e9] at goal
            exact goal
          · unfold iLaid at hx
            rcases List.mem_append.mp hx with hx | hx
            · rcases List.mem_append.mp hx with hx | hx
              · exact hlr x (List.mem_of_mem_take hx)
              · exact hlg x hx
            · exact hlr x (List.mem_of_mem_drop hx)
        · rw [if_neg (by rw [hf]; exact Bool.false_ne_true)] at hres
          exact ⟨by simp, q2 hres.symm _ _⟩
  have hgl : (iGoing size l.length).length ≤ 600 := by
    unfold iGoing iRaces
    have h1 := hm.1
    have h2 := hm.2.1
    have := Nat.div_le_self (l.length + size - 1) size
    simp; omega
  exact key _ l [] hl rfl (by simpa using hgl) hok rfl _ _ _ _ _
theorem srt_len (l : List PyData) : (srtD l).length = l.length := (List.mergeSort_perm l _).length_eq
theorem l_days_between : Law t_days_between u_days_between N_days_between := by
  rintro xs c K ⟨nm, n, size, reach, l, other, hn, hm, hl, ho, hone, hlne, hll, hok, rfl, q1, q2⟩
  refine ⟨nm, n, size, reach, l, other, hn, hm, hl, ho, hone, hlne, hll, hok, rfl, fun rs hrs => ?_, fun hrs y z => ?_⟩
  · obtain ⟨b1, b2, q⟩ := q1 rs hrs
    refine ⟨_, rfl, okD_str, okD_str, ifF (by decide +kernel) ?_⟩
    refine ⟨_, rfl, by simp; omega, lc_mm ?_⟩
    refine lc_map (fun r => .d (raceD nm r)) (fun r => .int (r.free.length : Nat)) rs _ (fun r Kt Kf hr hk => ⟨rfl, rfl, ktEq hk ?_⟩) ?_
    · rw [srt_len, List.length_map]
    have e1 : ∀ t : List Race, (∀ r ∈ t, r.free.length ≤ 100) → 0 ≤ (t.map fun r => (r.free.length : Int)).sum ∧ (t.map fun r => (r.free.length : Int)).sum ≤ 100 * t.length := by
      intro t
      induction t with
      | nil => intro _; simp
      | cons r t ih =>
        intro h
        have h1 := ih fun x hx => h x (List.mem_cons_of_mem _ hx)
        have h2 := h r (by simp)
        rw [List.map_cons, List.sum_cons, List.length_cons]
        omega
    have e2 := e1 rs b2
    refine ⟨rs.map fun r => (r.free.length : Int), by rw [← asInts_map, List.map_map]; rfl, ⟨e2.1, by omega, by decide⟩, q _ ?_⟩
    rw [Int.one_mul]
    exact Int.pow_pos (by decide)
  · exact ⟨_, rfl, okD_str, okD_str, ifT (by decide +kernel) (q2 hrs)⟩
end DL
/-! SQ: what the charts' defs do, over names told by places; their promises. -/
namespace DL
open PySem PySem.Spec PyProof.Rows L2
variable [TheW]
inductive Ban where
  | no
  | nt (m p b : Nat)
  | lk (m a b : Nat)
def banD (nm : Nat → Str) : Ban → PyData
  | .no => .none
  | .nt m p b => .tuple [.str "not", .int m, .int p, sB nm b]
  | .lk m a b => .tuple [.str "lacks", .int m, sB nm a, sB nm b]
def BanOk (n : Nat) (len : Nat) : Ban → Prop
  | .no => True
  | .nt _ p b => p < len ∧ b < n
  | .lk _ a b => a < n ∧ b < n
def iBanRow (ban : Ban) (m : Nat) (row : List Nat) : Bool := match ban with
  | .nt m' p b => decide (m' ≠ m) || decide (row.getD p 0 ≠ b)
  | _ => true
def iBanDay (ban : Ban) (m : Nat) (met : List (Nat × Nat)) : Bool := match ban with
  | .lk m' a b => decide (m' ≠ m) || decide ((a, b) ∉ met)
  | _ => true
def iFits (t r : List Nat) : Bool := (t.zip r).all fun p => decide (p.1 = p.2)
def iExt (bs : List Nat) (rows : List (List Nat)) : List (List Nat) := rows.flatMap fun row => (bs.filter fun b => decide (b ∉ row)).map fun b => row ++ [b]
def iRows (bs : List Nat) : Nat → List (List Nat)
  | 0 => [[]]
  | k + 1 => iExt bs (iRows bs k)
def iArcs (reach : Nat) : Nat → Nat → Nat → List (List (Nat × Nat))
  | 0, _, _ => [[]]
  | m + 1, first, last => if last ≤ first then [[]] else
    iArcs reach m (first + 1) last ++ (List.range (min last (first + 1 + reach) - first)).flatMap fun i => (iArcs reach m (first + 1) (first + i)).flatMap fun inner => (iArcs reach m (first + i + 2) last).map fun s => (first, first + 1 + i) :: inner ++ s
def arcD (arcs : List (Nat × Nat)) : PyData := .tuple (arcs.map ppD)
def iTouched (row : List Nat) (arcs : List (Nat × Nat)) : List Nat := arcs.foldl (fun b p => (b.set p.1 (row.getD p.2 0)).set p.2 (row.getD p.1 0)) row
def iMetOf (row : List Nat) (arcs : List (Nat × Nat)) : List (Nat × Nat) := arcs.map fun p => (row.getD p.2 0, row.getD p.1 0)
def metD (nm : Nat → Str) (met : List (Nat × Nat)) : PyData := .tuple (met.map (npD nm))
def LtP (n : Nat) (met : List (Nat × Nat)) : Prop := ∀ p ∈ met, p.1 < n ∧ p.2 < n
/-- a dict of rows -/
def rowsK (nm : Nat → Str) (R : List (List Nat × PyData)) : List (PyData × PyData) := R.map fun p => (tN nm p.1, p.2)
def srtE (nm : Nat → Str) (evs : List Ev) : List Ev := evs.mergeSort fun a b => PySem.W.dataLe false id (evD nm a) (evD nm b)
def srtP (nm : Nat → Str) (ts : List (Nat × Nat)) : List (Nat × Nat) := ts.mergeSort fun a b => PySem.W.dataLe false id (tpD nm a) (tpD nm b)
def srtS (nm : Nat → Str) (l : List Nat) : List Nat := l.mergeSort fun a b => PySem.W.dataLe false id (sB nm a) (sB nm b)
theorem srtE_eq (nm : Nat → Str) (evs : List Ev) : srtD (evs.map (evD nm)) = (srtE nm evs).map (evD nm) := (List.map_mergeSort (s := PySem.W.dataLe false id) fun _ _ _ _ => rfl).symm
theorem srtP_eq (nm : Nat → Str) (ts : List (Nat × Nat)) : srtD (ts.map (tpD nm)) = (srtP nm ts).map (tpD nm) := (List.map_mergeSort (s := PySem.W.dataLe false id) fun _ _ _ _ => rfl).symm
theorem srtS_eq (nm : Nat → Str) (l : List Nat) : srtD (l.map (sB nm)) = (srtS nm l).map (sB nm) := (List.map_mergeSort (s := PySem.W.dataLe false id) fun _ _ _ _ => rfl).symm
/-- the sheet that a chart's day has for a race that is told -/
def iSheet (nm : Nat → Str) (r : Race) : List Ev := srtE nm ((srtP nm r.ts).map (fun p => Ev.t p.1 p.2) ++ (srtS nm r.drops).map Ev.d)
def iDay (nm : Nat → Str) (rs : List Race) : List (List Ev) := rs.map (iSheet nm)
/-- how a chart of one day goes -/
def iGoes (size : Nat) (t0 t1 : List Nat) (ban : Ban) (row : List Nat) (day : List (List Ev)) : Bool :=
  iFits t0 row && iBanRow ban 0 row && iBanDay ban 0 (day.flatMap iTouches) && iFits t1 (iDayGo size day (iGoing size row.length) row) && iBanRow ban 1 (iDayGo size day (iGoing size row.length) row)
def FullRow (nm : Nat → Str) (n : Nat) (bs r : List Nat) : Prop := Lt n r ∧ r.Nodup ∧ r ≠ [] ∧ r.length ≤ 24 ∧ srtS nm r = bs

def t_all_rows : DFT := fun xs c K => ∃ nm n bs, Nm nm n ∧ Lt n bs ∧ bs.length ≤ 5 ∧ xs = [.d (tN nm bs)] ∧ K (.d (.list ((iRows bs bs.length).map (tN nm)))) c
def t_row_fits : DFT := fun xs c K => ∃ nm n t r, Nm nm n ∧ Lt n t ∧ Lt n r ∧ t.length ≤ 1000 ∧ xs = [.d (tN nm t), .d (tN nm r)] ∧ K (.d (.bool (iFits t r))) c
def t_ban_lets_row : DFT := fun xs c K => ∃ nm n ban r, ∃ m : Nat, Nm nm n ∧ Lt n r ∧ BanOk n r.length ban ∧ xs = [.d (banD nm ban), .d (.int m), .d (tN nm r)] ∧ K (.d (.bool (iBanRow ban m r))) c
def t_ban_lets_day : DFT := fun xs c K => ∃ nm n len ban met, ∃ m : Nat, Nm nm n ∧ LtP n met ∧ BanOk n len ban ∧ (xs = [.d (banD nm ban), .d (.int m), .d (metD nm met)] ∨ xs = [.d (banD nm ban), .d (.int m), .d (.list (met.map (npD nm)))]) ∧ K (.d (.bool (iBanDay ban m met))) c
def ArcOk (reach first last m : Nat) : Prop := reach ≤ 7 ∧ first ≤ 6 ∧ last ≤ 4 ∧ last + 1 ≤ first + m ∧ m ≤ 6
def t_arc (m0 : Nat) : DFT := fun xs c K => ∃ m reach first last : Nat, m < m0 ∧ ArcOk reach first last m ∧ xs = [.d (.int first), .d (.int last), .d (.int reach)] ∧ K (.d (.list ((iArcs reach m first last).map arcD))) c
abbrev t_arc_sets : DFT := t_arc 7
def t_touched : DFT := fun xs c K => ∃ nm r arcs, (∀ p ∈ arcs, p.1 < r.length ∧ p.2 < r.length) ∧ arcs.length ≤ 1000 ∧ xs = [.d (tN nm r), .d (arcD arcs)] ∧ K (.d (.tuple [tN nm (iTouched r arcs), metD nm (iMetOf r arcs)])) c
def t_stop_of : DFT := fun xs c K => ∃ nm, ∃ sets : List (List (List Nat × PyData)), sets.length ≤ 100 ∧ (∀ s ∈ sets, s.length ≤ 1 ∧ ∀ p ∈ s, p.1 ≠ []) ∧ xs = [.d (.list (sets.map fun s => .dict (rowsK nm s)))] ∧ K (.d (.tuple (sets.map fun s => .tuple (s.map fun p => tN nm p.1)))) c
def t_rows_back : DFT := fun xs c K => ∃ nm n d0 r0 r1, Nm nm n ∧ Lt n r1 ∧ xs = [.d (.list [d0, .dict [(tN nm r1, tN nm r0)]]), .d (.int 1), .d (tN nm r1)] ∧ K (.d (.list [tN nm r0, tN nm r1])) c
def ToldPre (nm : Nat → Str) (n size reach : Nat) (l other : List Nat) : Prop := Nm nm n ∧ MtOk size reach ∧ Lt n l ∧ Lt n other ∧ other ≠ [] ∧ l ≠ [] ∧ l.length ≤ 500 ∧ iToldOk size reach other (iGoing size l.length) l = true
def RsOk (rs : List Race) : Prop := rs.length ≤ 100 ∧ ∀ r ∈ rs, r.ts.length ≤ 100 ∧ r.drops.length ≤ 100
def t_day_between : DFT := fun xs c K => ∃ nm n size reach l other rs, ToldPre nm n size reach l other ∧ Told size reach l other = some rs ∧ RsOk rs ∧ xs = [.d (Mt size reach), .d (tN nm l), .d (tN nm other)] ∧ K (.d (dayD nm (iDay nm rs))) c
def t_chart_of : DFT := fun xs c K => ∃ nm n size reach l other rs, ToldPre nm n size reach l other ∧ Told size reach l other = some rs ∧ RsOk rs ∧ xs = [.d (Mt size reach), .d (.list [tN nm l, tN nm other])] ∧ K (.d (.tuple [tN nm l, .tuple [dayD nm (iDay nm rs)]])) c
def t_chart_to_end : DFT := fun xs c K => ∃ nm n size reach l other rs d0, ToldPre nm n size reach l other ∧ Told size reach l other = some rs ∧ RsOk rs ∧ xs = [.d (Mt size reach), .d (.list [d0, .dict [(tN nm other, tN nm l)]])] ∧ K (.d (.tuple [tN nm l, .tuple [dayD nm (iDay nm rs)]])) c
def t_is_full_row : DFT := fun xs c K => ∃ nm n bs r, Nm nm n ∧ FullRow nm n bs r ∧ xs = [.d (tN nm bs), .d (tN nm r)] ∧ K (.d (.bool true)) c
def t_touches_on : DFT := fun xs c K => ∃ nm, ∃ day : List (List Ev), day.length ≤ 100 ∧ (∀ evs ∈ day, evs.length ≤ 100) ∧ xs = [.d (dayD nm day)] ∧ K (.d (.list ((day.flatMap iTouches).map (npD nm)))) c
structure GoPre (nm : Nat → Str) (n size reach : Nat) (t0 t1 : List Nat) (ban : Ban) (r : List Nat) (day : List (List Ev)) : Prop where
  hnm : Nm nm n
  hmt : MtOk size reach
  ht0 : Lt n t0
  ht1 : Lt n t1
  hr : Lt n r
  hrne : r ≠ []
  hrl : r.length ≤ 24
  ht0l : t0.length ≤ 24
  ht1l : t1.length ≤ 24
  hban : BanOk n r.length ban
  hdl : day.length = iRaces size r.length
  hdl2 : 1 ≤ day.length ∧ day.length ≤ 24
  hdok : DayOk n size reach day (iGoing size r.length) r
  hsh : ∀ evs ∈ day, ShOk nm n evs
  hshl : ∀ evs ∈ day, evs.length ≤ 100
  hr2 : Lt n (iDayGo size day (iGoing size r.length) r)
  hr2l : (iDayGo size day (iGoing size r.length) r).length = r.length
def t_goes_so : DFT := fun xs c K => ∃ nm n size reach t0 t1 ban r day, GoPre nm n size reach t0 t1 ban r day ∧ xs = [.d (Mt size reach), .d (.tuple [tN nm t0, tN nm t1]), .d (banD nm ban), .d (tN nm r), .d (.tuple [dayD nm day])] ∧ K (.d (.bool (iGoes size t0 t1 ban r day))) c
def t_shows_chart : DFT := fun xs c K => ∃ nm n size reach t0 t1 ban r day bs, GoPre nm n size reach t0 t1 ban r day ∧ FullRow nm n bs r ∧ xs = [.d (Mt size reach), .d (.tuple [tN nm bs, .tuple [tN nm t0, tN nm t1]]), .d (banD nm ban), .d (.tuple [tN nm r, .tuple [dayD nm day]])] ∧ K (.d (.bool (iGoes size t0 t1 ban r day))) c
def t_is_row_set : DFT := fun xs c K => ∃ nm n bs, ∃ R : List (List Nat), Nm nm n ∧ R.length ≤ 1 ∧ (∀ r ∈ R, FullRow nm n bs r) ∧ xs = [.d (tN nm bs), .d (.tuple (R.map (tN nm)))] ∧ K (.d (.bool true)) c
def iFirst (t0 : List Nat) (ban : Ban) (R rows : List (List Nat)) : Bool := rows.all fun row => !(iFits t0 row && iBanRow ban 0 row && decide (row ∉ R))
def t_has_first_rows : DFT := fun xs c K => ∃ nm n bs t0 t1 ban, ∃ R : List (List Nat), Nm nm n ∧ Lt n bs ∧ bs.length ≤ 5 ∧ Lt n t0 ∧ t0.length ≤ 24 ∧ BanOk n bs.length ban ∧ (∀ r ∈ R, Lt n r) ∧ xs = [.d (.tuple [tN nm bs, .tuple [tN nm t0, t1]]), .d (banD nm ban), .d (.tuple (R.map (tN nm)))] ∧ K (.d (.bool (iFirst t0 ban R (iRows bs bs.length)))) c
end DL
/-! DE3: defs of the text: their terms of rules, printed by gen.py. -/
namespace DL
open PySem PySem.Spec PyProof.Rows L2
variable [TheW]
abbrev st_all_rows : Stmt := top 41
abbrev sc_all_rows : Scope := defScope st_all_rows
abbrev N_all_rows : List Str := ["boats", "rows", "turn", "longer", "row", "boat"]
theorem fs_all_rows : FnScope N_all_rows ["boats"] sc_all_rows := ⟨rfl, rfl, rfl, by decide +kernel, rfl, by decide +kernel, by decide +kernel⟩
def u_all_rows : DTS := (dSeq (dOwn 1 (fLst (cCons (dTup cNil) cNil)))
    (dSeq (dFor (iR1 (cCons (dCB gLen (dCons (dVar 0) dNil)) cNil)) (dGName 2) (dSeq (dOwn 3 (fLst cNil))
    (dSeq (dFor (iSeq (dVar 1)) (dGName 4) (dDrop (dM 3 (cCons (dOfF (fLc (iSeq (dVar 0)) (dGName 5) (dTest (dOp gNotIn (dVar 5) (dVar 4))) (dOp gAdd (dVar 4) (dTup (cCons (dVar 5) cNil))) [5])) cNil) mExtend)))
    (dSet 1 (dVar 3)))))
    (dRet (dVar 1))))
theorem d_all_rows {K : PySem.W.Frag} {mg : Str → Option Value} {base : Heap} {f : Addr} {cdv : Value} {A : Around} {outer : List Env} {s : Shared} {H : Hp} {E : XK} {W : Wd} (M : Mg mg) (hr : Room 0 (cx N_all_rows "all_rows" sc_all_rows K mg base f cdv A outer s H E).A) : DSs (cx N_all_rows "all_rows" sc_all_rows K mg base f cdv A outer s H E) W (defBody st_all_rows) u_all_rows := by
  have nd := fs_all_rows.nd
  exact (dss_cons (ds_own (i := 1) nd rfl (Or.inl rfl) (df_lst (da_of (ac_cons (de_tup (da_of ac_nil)) ac_nil))))
    (dss_cons (ds_for PassesOwn.never rfl (di_range1 rfl M.range (ac_cons (de_callB (cr_len ⟨rfl, rfl⟩) rfl M.len boot_len (da_cons (dv 0) da_nil)) ac_nil)) (dg_name (i := 2) nd rfl (Or.inl rfl)) (dss_cons (ds_own (i := 3) nd rfl (Or.inl rfl) (df_lst (da_of ac_nil)))
    (dss_cons (ds_for PassesOwn.never rfl (di_seq (dv 1)) (dg_name (i := 4) nd rfl (Or.inr rfl)) (dss_one (ds_expr (de_extend (i := 3) (ac_cons (de_ofF (df_lc (own := [("boat", 5)]) rfl nd (di_seq (dv 0)) (blkOk_by (N := N_all_rows) (sc := sc_all_rows) (by decide +kernel)) (tg_name (by decide)) (fun _ _ _ _ _ => (pg_name (i := 5) nd rfl (Or.inl rfl))) (fun _ _ _ _ _ _ => (dts_one (dt_cmp (od_notIn ⟨rfl, rfl⟩ hr) (dv 5) (dv 4) (by with_unfolding_all rfl)))) (fun _ _ _ _ _ _ => (de_op od_add (dv 4) (de_tup (da_of (ac_cons (dv 5) ac_nil))))))) ac_nil)))))
    (dss_one (ds_set (i := 1) nd rfl (Or.inl rfl) (dv 3))))))
    (dss_one (ds_ret (dv 1)))))

abbrev st_row_fits : Stmt := top 42
abbrev sc_row_fits : Scope := defScope st_row_fits
abbrev N_row_fits : List Str := ["torn", "row", "told", "boat"]
theorem fs_row_fits : FnScope N_row_fits ["torn", "row"] sc_row_fits := ⟨rfl, rfl, rfl, by decide +kernel, rfl, by decide +kernel, by decide +kernel⟩
def u_row_fits : DTS := (dRet (dCB gAll (dCons (dOfF (fLc (iZip (cCons (dVar 0) (cCons (dVar 1) cNil))) (dGTup 2 (dGCons (dGName 2) (dGCons (dGName 3) dGNil))) dYes (dOr (dOp gIs (dVar 2) (dC .none)) (dOp gEq (dVar 2) (dVar 3))) [2, 3])) dNil)))
theorem d_row_fits {K : PySem.W.Frag} {mg : Str → Option Value} {base : Heap} {f : Addr} {cdv : Value} {A : Around} {outer : List Env} {s : Shared} {H : Hp} {E : XK} {W : Wd} (M : Mg mg) (hr : Room 0 (cx N_row_fits "row_fits" sc_row_fits K mg base f cdv A outer s H E).A) : DSs (cx N_row_fits "row_fits" sc_row_fits K mg base f cdv A outer s H E) W (defBody st_row_fits) u_row_fits := by
  have nd := fs_row_fits.nd
  exact (dss_one (ds_ret (de_callB (cr_allD rfl) rfl M.all (by decide +kernel) (da_cons (de_ofF (df_lc (own := [("told", 2), ("boat", 3)]) rfl nd (di_zip rfl M.zip (ac_cons (dv 0) (ac_cons (dv 1) ac_nil))) (blkOk_by (N := N_row_fits) (sc := sc_row_fits) (by decide +kernel)) (tg_tup (tgs_cons (tg_name (by decide)) (tgs_cons (tg_name (by decide)) tgs_nil))) (fun _ _ _ _ _ => (pg_tup rfl (pgs_cons (pg_name (i := 2) nd rfl (Or.inl rfl)) (pgs_cons (pg_name (i := 3) nd rfl (Or.inl rfl)) pgs_nil)))) (fun _ _ _ _ _ _ => dts_nil) (fun _ _ _ _ _ _ => (de_or (de_cmp od_is (dv 2) de_non (nomark _)) (de_one (de_cmp (od_eq hr) (dv 2) (dv 3) (nomark _))))))) da_nil))))

abbrev st_ban_lets_row : Stmt := top 43
abbrev sc_ban_lets_row : Scope := defScope st_ban_lets_row
abbrev N_ban_lets_row : List Str := ["ban", "m", "row"]
theorem fs_ban_lets_row : FnScope N_ban_lets_row ["ban", "m", "row"] sc_ban_lets_row := ⟨rfl, rfl, rfl, by decide +kernel, rfl, by decide +kernel, by decide +kernel⟩
def u_ban_lets_row : DTS := (dRet (dOr (dOp gIs (dVar 0) (dC .none)) (dOr (dOp gNe (dIx (dVar 0) (dC (.int 0))) (dC (.str "not"))) (dOr (dOp gNe (dIx (dVar 0) (dC (.int 1))) (dVar 1)) (dOp gNe (dIx (dVar 2) (dIx (dVar 0) (dC (.int 2)))) (dIx (dVar 0) (dC (.int 3))))))))
theorem d_ban_lets_row {K : PySem.W.Frag} {mg : Str → Option Value} {base : Heap} {f : Addr} {cdv : Value} {A : Around} {outer : List Env} {s : Shared} {H : Hp} {E : XK} {W : Wd} (M : Mg mg) (hr : Room 0 (cx N_ban_lets_row "ban_lets_row" sc_ban_lets_row K mg base f cdv A outer s H E).A) : DSs (cx N_ban_lets_row "ban_lets_row" sc_ban_lets_row K mg base f cdv A outer s H E) W (defBody st_ban_lets_row) u_ban_lets_row := by
  have nd := fs_ban_lets_row.nd
  exact (dss_one (ds_ret (de_or (de_cmp od_is (dv 0) de_non (nomark _)) (de_or (de_cmp (od_ne hr) (de_ix ⟨rfl, rfl⟩ hr (dv 0) de_int (fun _ _ => rfl)) de_str (nomark _)) (de_or (de_cmp (od_ne hr) (de_ix ⟨rfl, rfl⟩ hr (dv 0) de_int (fun _ _ => rfl)) (dv 1) (nomark _)) (de_one (de_cmp (od_ne hr) (de_ix ⟨rfl, rfl⟩ hr (dv 2) (de_ix ⟨rfl, rfl⟩ hr (dv 0) de_int (fun _ _ => rfl)) (fun _ _ => rfl)) (de_ix ⟨rfl, rfl⟩ hr (dv 0) de_int (fun _ _ => rfl)) (nomark _))))))))

abbrev st_ban_lets_day : Stmt := top 44
abbrev sc_ban_lets_day : Scope := defScope st_ban_lets_day
abbrev N_ban_lets_day : List Str := ["ban", "m", "met"]
theorem fs_ban_lets_day : FnScope N_ban_lets_day ["ban", "m", "met"] sc_ban_lets_day := ⟨rfl, rfl, rfl, by decide +kernel, rfl, by decide +kernel, by decide +kernel⟩
def u_ban_lets_day : DTS := (dRet (dOr (dOp gIs (dVar 0) (dC .none)) (dOr (dOp gNe (dIx (dVar 0) (dC (.int 0))) (dC (.str "lacks"))) (dOr (dOp gNe (dIx (dVar 0) (dC (.int 1))) (dVar 1)) (dOp gNotIn (dTup (cCons (dIx (dVar 0) (dC (.int 2))) (cCons (dIx (dVar 0) (dC (.int 3))) cNil))) (dVar 2))))))
theorem d_ban_lets_day {K : PySem.W.Frag} {mg : Str → Option Value} {base : Heap} {f : Addr} {cdv : Value} {A : Around} {outer : List Env} {s : Shared} {H : Hp} {E : XK} {W : Wd} (M : Mg mg) (hr : Room 0 (cx N_ban_lets_day "ban_lets_day" sc_ban_lets_day K mg base f cdv A outer s H E).A) : DSs (cx N_ban_lets_day "ban_lets_day" sc_ban_lets_day K mg base f cdv A outer s H E) W (defBody st_ban_lets_day) u_ban_lets_day := by
  have nd := fs_ban_lets_day.nd
  exact (dss_one (ds_ret (de_or (de_cmp od_is (dv 0) de_non (nomark _)) (de_or (de_cmp (od_ne hr) (de_ix ⟨rfl, rfl⟩ hr (dv 0) de_int (fun _ _ => rfl)) de_str (nomark _)) (de_or (de_cmp (od_ne hr) (de_ix ⟨rfl, rfl⟩ hr (dv 0) de_int (fun _ _ => rfl)) (dv 1) (nomark _)) (de_one (de_cmp (od_notIn ⟨rfl, rfl⟩ hr) (de_tup (da_of (ac_cons (de_ix ⟨rfl, rfl⟩ hr (dv 0) de_int (fun _ _ => rfl)) (ac_cons (de_ix ⟨rfl, rfl⟩ hr (dv 0) de_int (fun _ _ => rfl)) ac_nil)))) (dv 2) (by with_unfolding_all rfl))))))))

abbrev st_touched : Stmt := top 46
abbrev sc_touched : Scope := defScope st_touched
abbrev N_touched : List Str := ["row", "arcs", "boats", "met", "ahead", "behind"]
theorem fs_touched : FnScope N_touched ["row", "arcs"] sc_touched := ⟨rfl, rfl, rfl, by decide +kernel, rfl, by decide +kernel, by decide +kernel⟩
def u_touched : DTS := (dSeq (dOwn 2 (fList (dCons (dVar 0) dNil)))
    (dSeq (dOwn 3 (fLst cNil))
    (dSeq (dFor (iSeq (dVar 1)) (dGTup 2 (dGCons (dGName 4) (dGCons (dGName 5) dGNil))) (dSeq (dAsg (dTup (cCons (dIx (dVar 0) (dVar 5)) (cCons (dIx (dVar 0) (dVar 4)) cNil))) (dGTup 2 (dGCons (dGSub 2 (dVar 4)) (dGCons (dGSub 2 (dVar 5)) dGNil))))
    (dDrop (dM 3 (cCons (dTup (cCons (dIx (dVar 0) (dVar 5)) (cCons (dIx (dVar 0) (dVar 4)) cNil))) cNil) mAppend))))
    (dRet (dTup (cCons (dCB gTuple (dCons (dVar 2) dNil)) (cCons (dCB gTuple (dCons (dVar 3) dNil)) cNil)))))))
theorem d_touched {K : PySem.W.Frag} {mg : Str → Option Value} {base : Heap} {f : Addr} {cdv : Value} {A : Around} {outer : List Env} {s : Shared} {H : Hp} {E : XK} {W : Wd} (M : Mg mg) (hr : Room 0 (cx N_touched "touched" sc_touched K mg base f cdv A outer s H E).A) : DSs (cx N_touched "touched" sc_touched K mg base f cdv A outer s H E) W (defBody st_touched) u_touched := by
  have nd := fs_touched.nd
  exact (dss_cons (ds_own (i := 2) nd rfl (Or.inl rfl) (df_list rfl M.list (da_cons (dv 0) da_nil)))
    (dss_cons (ds_own (i := 3) nd rfl (Or.inl rfl) (df_lst (da_of ac_nil)))
    (dss_cons (ds_for PassesOwn.never rfl (di_seq (dv 1)) (dg_tup rfl (dgs_cons (dg_name (i := 4) nd rfl (Or.inl rfl)) (dgs_cons (dg_name (i := 5) nd rfl (Or.inl rfl)) dgs_nil))) (dss_cons (ds_asg (de_tup (da_of (ac_cons (de_ix ⟨rfl, rfl⟩ hr (dv 0) (dv 5) (fun _ _ => rfl)) (ac_cons (de_ix ⟨rfl, rfl⟩ hr (dv 0) (dv 4) (fun _ _ => rfl)) ac_nil)))) (dg_tup rfl (dgs_cons (dg_sub (i := 2) ⟨rfl, rfl⟩ hr (dv 4)) (dgs_cons (dg_sub (i := 2) ⟨rfl, rfl⟩ hr (dv 5)) dgs_nil))))
    (dss_one (ds_expr (de_append (i := 3) (ac_cons (de_tup (da_of (ac_cons (de_ix ⟨rfl, rfl⟩ hr (dv 0) (dv 5) (fun _ _ => rfl)) (ac_cons (de_ix ⟨rfl, rfl⟩ hr (dv 0) (dv 4) (fun _ _ => rfl)) ac_nil)))) ac_nil))))))
    (dss_one (ds_ret (de_tup (da_of (ac_cons (de_callTy cr_tuple rfl M.tuple (by decide +kernel) (da_cons (dv 2) da_nil)) (ac_cons (de_callTy cr_tuple rfl M.tuple (by decide +kernel) (da_cons (dv 3) da_nil)) ac_nil)))))))))

abbrev st_stop_of : Stmt := top 50
abbrev sc_stop_of : Scope := defScope st_stop_of
abbrev N_stop_of : List Str := ["sets", "some"]
theorem fs_stop_of : FnScope N_stop_of ["sets"] sc_stop_of := ⟨rfl, rfl, rfl, by decide +kernel, rfl, by decide +kernel, by decide +kernel⟩
def u_stop_of : DTS := (dRet (dCB gTuple (dCons (dOfF (fLc (iSeq (dVar 0)) (dGName 1) dYes (dCB gTuple (dCons (dOfF (fSrt (dCons (dVar 1) dNil))) dNil)) [1])) dNil)))
theorem d_stop_of {K : PySem.W.Frag} {mg : Str → Option Value} {base : Heap} {f : Addr} {cdv : Value} {A : Around} {outer : List Env} {s : Shared} {H : Hp} {E : XK} {W : Wd} (M : Mg mg) (hr : Room 0 (cx N_stop_of "stop_of" sc_stop_of K mg base f cdv A outer s H E).A) : DSs (cx N_stop_of "stop_of" sc_stop_of K mg base f cdv A outer s H E) W (defBody st_stop_of) u_stop_of := by
  have nd := fs_stop_of.nd
  exact (dss_one (ds_ret (de_callTy cr_tuple rfl M.tuple (by decide +kernel) (da_cons (de_ofF (df_lc (own := [("some", 1)]) rfl nd (di_seq (dv 0)) (blkOk_by (N := N_stop_of) (sc := sc_stop_of) (by decide +kernel)) (tg_name (by decide)) (fun _ _ _ _ _ => (pg_name (i := 1) nd rfl (Or.inl rfl))) (fun _ _ _ _ _ _ => dts_nil) (fun _ _ _ _ _ _ => (de_callTy cr_tuple rfl M.tuple (by decide +kernel) (da_cons (de_ofF (df_sorted ⟨rfl, rfl⟩ hr rfl rfl M.sorted (da_cons (dv 1) da_nil))) da_nil))))) da_nil))))

abbrev st_rows_back : Stmt := top 51
abbrev sc_rows_back : Scope := defScope st_rows_back
abbrev N_rows_back : List Str := ["sets", "m", "row", "rows", "at"]
theorem fs_rows_back : FnScope N_rows_back ["sets", "m", "row"] sc_rows_back := ⟨rfl, rfl, rfl, by decide +kernel, rfl, by decide +kernel, by decide +kernel⟩
def u_rows_back : DTS := (dSeq (dOwn 3 (fLst (cCons (dVar 2) cNil)))
    (dSeq (dFor (iRv2 (dC (.int 1)) (dOp gAdd (dVar 1) (dC (.int 1)))) (dGName 4) (dDrop (dM 3 (cCons (dIx (dIx (dVar 0) (dVar 4)) (dIx (dVar 3) (dC (.int (-1))))) cNil) mAppend)))
    (dSeq (dDrop (dM 3 cNil mReverse))
    (dRet (dVar 3)))))
theorem d_rows_back {K : PySem.W.Frag} {mg : Str → Option Value} {base : Heap} {f : Addr} {cdv : Value} {A : Around} {outer : List Env} {s : Shared} {H : Hp} {E : XK} {W : Wd} (M : Mg mg) (hr : Room 0 (cx N_rows_back "rows_back" sc_rows_back K mg base f cdv A outer s H E).A) : DSs (cx N_rows_back "rows_back" sc_rows_back K mg base f cdv A outer s H E) W (defBody st_rows_back) u_rows_back := by
  have nd := fs_rows_back.nd
  exact (dss_cons (ds_own (i := 3) nd rfl (Or.inl rfl) (df_lst (da_of (ac_cons (dv 2) ac_nil))))
    (dss_cons (ds_for PassesOwn.never rfl (di_rev2 rfl M.reversed rfl M.range de_int (de_op od_add (dv 1) de_int)) (dg_name (i := 4) nd rfl (Or.inl rfl)) (dss_one (ds_expr (de_append (i := 3) (ac_cons (de_ix ⟨rfl, rfl⟩ hr (de_ix ⟨rfl, rfl⟩ hr (dv 0) (dv 4) (fun _ _ => rfl)) (de_ix ⟨rfl, rfl⟩ hr (dv 3) (de_neg) (fun _ _ => rfl)) (fun _ _ => rfl)) ac_nil)))))
    (dss_cons (ds_expr (de_reverse (i := 3)))
    (dss_one (ds_ret (dv 3))))))

abbrev st_day_between : Stmt := top 52
abbrev sc_day_between : Scope := defScope st_day_between
abbrev N_day_between : List Str := ["meeting", "row", "other", "sheets", "touches", "drops", "free", "boat"]
theorem fs_day_between : FnScope N_day_between ["meeting", "row", "other"] sc_day_between := ⟨rfl, rfl, rfl, by decide +kernel, rfl, by decide +kernel, by decide +kernel⟩
def u_day_between : DTS := (dSeq (dOwn 3 (fLst cNil))
    (dSeq (dFor (iSeq (dIx (dCallP t_told_by (cCons (dVar 0) (cCons (dVar 1) (cCons (dVar 2) cNil)))) (dC (.int 1)))) (dGTup 3 (dGCons (dGName 4) (dGCons (dGName 5) (dGCons (dGName 6) dGNil)))) (dDrop (dM 3 (cCons (dCB gTuple (dCons (dOfF (fSrt (dCons (dOp gAdd (dOfF (fList (dCons (dVar 4) dNil))) (dOfF (fLc (iSeq (dVar 5)) (dGName 7) dYes (dTup (cCons (dC (.str "drop")) (cCons (dVar 7) cNil))) [7]))) dNil))) dNil)) cNil) mAppend)))
    (dRet (dCB gTuple (dCons (dVar 3) dNil)))))
theorem d_day_between {K : PySem.W.Frag} {mg : Str → Option Value} {base : Heap} {f : Addr} {cdv : Value} {A : Around} {outer : List Env} {s : Shared} {H : Hp} {E : XK} {W : Wd} (M : Mg mg) (Ftold_by : DFn TheW.P TheW.w K mg base 3 "told_by" (spP t_told_by)) (hr : Room 3 (cx N_day_between "day_between" sc_day_between K mg base f cdv A outer s H E).A) : DSs (cx N_day_between "day_between" sc_day_between K mg base f cdv A outer s H E) W (defBody st_day_between) u_day_between := by
  have nd := fs_day_between.nd
  exact (dss_cons (ds_own (i := 3) nd rfl (Or.inl rfl) (df_lst (da_of ac_nil)))
    (dss_cons (ds_for PassesOwn.never rfl (di_seq (de_ix ⟨rfl, rfl⟩ hr (de_call Ftold_by hr (by decide) rfl (ac_cons (dv 0) (ac_cons (dv 1) (ac_cons (dv 2) ac_nil)))) de_int (fun _ _ => rfl))) (dg_tup rfl (dgs_cons (dg_name (i := 4) nd rfl (Or.inl rfl)) (dgs_cons (dg_name (i := 5) nd rfl (Or.inl rfl)) (dgs_cons (dg_name (i := 6) nd rfl (Or.inl rfl)) dgs_nil)))) (dss_one (ds_expr (de_append (i := 3) (ac_cons (de_callTy cr_tuple rfl M.tuple (by decide +kernel) (da_cons (de_ofF (df_sorted ⟨rfl, rfl⟩ hr rfl rfl M.sorted (da_cons (de_op od_add (de_ofF (df_list rfl M.list (da_cons (dv 4) da_nil))) (de_ofF (df_lc (own := [("boat", 7)]) rfl nd (di_seq (dv 5)) (blkOk_by (N := N_day_between) (sc := sc_day_between) (by decide +kernel)) (tg_name (by decide)) (fun _ _ _ _ _ => (pg_name (i := 7) nd rfl (Or.inl rfl))) (fun _ _ _ _ _ _ => dts_nil) (fun _ _ _ _ _ _ => (de_tup (da_of (ac_cons de_str (ac_cons (dv 7) ac_nil)))))))) da_nil))) da_nil)) ac_nil)))))
    (dss_one (ds_ret (de_callTy cr_tuple rfl M.tuple (by decide +kernel) (da_cons (dv 3) da_nil))))))

abbrev st_chart_of : Stmt := top 53
abbrev sc_chart_of : Scope := defScope st_chart_of
abbrev N_chart_of : List Str := ["meeting", "rows", "one", "other"]
theorem fs_chart_of : FnScope N_chart_of ["meeting", "rows"] sc_chart_of := ⟨rfl, rfl, rfl, by decide +kernel, rfl, by decide +kernel, by decide +kernel⟩
def u_chart_of : DTS := (dRet (dTup (cCons (dIx (dVar 1) (dC (.int 0))) (cCons (dCB gTuple (dCons (dOfF (fLc (iZip (cCons (dVar 1) (cCons (dSl (dVar 1) (dPart (dC (.int 1))) dNo) cNil))) (dGTup 2 (dGCons (dGName 2) (dGCons (dGName 3) dGNil))) dYes (dCallP t_day_between (cCons (dVar 0) (cCons (dVar 2) (cCons (dVar 3) cNil)))) [2, 3])) dNil)) cNil))))
theorem d_chart_of {K : PySem.W.Frag} {mg : Str → Option Value} {base : Heap} {f : Addr} {cdv : Value} {A : Around} {outer : List Env} {s : Shared} {H : Hp} {E : XK} {W : Wd} (M : Mg mg) (Fday_between : DFn TheW.P TheW.w K mg base 4 "day_between" (spP t_day_between)) (hr : Room 4 (cx N_chart_of "chart_of" sc_chart_of K mg base f cdv A outer s H E).A) : DSs (cx N_chart_of "chart_of" sc_chart_of K mg base f cdv A outer s H E) W (defBody st_chart_of) u_chart_of := by
  have nd := fs_chart_of.nd
  exact (dss_one (ds_ret (de_tup (da_of (ac_cons (de_ix ⟨rfl, rfl⟩ hr (dv 1) de_int (fun _ _ => rfl)) (ac_cons (de_callTy cr_tuple rfl M.tuple (by decide +kernel) (da_cons (de_ofF (df_lc (own := [("one", 2), ("other", 3)]) rfl nd (di_zip rfl M.zip (ac_cons (dv 1) (ac_cons (de_slice (dv 1) (do_some de_int) do_none) ac_nil))) (blkOk_by (N := N_chart_of) (sc := sc_chart_of) (by decide +kernel)) (tg_tup (tgs_cons (tg_name (by decide)) (tgs_cons (tg_name (by decide)) tgs_nil))) (fun _ _ _ _ _ => (pg_tup rfl (pgs_cons (pg_name (i := 2) nd rfl (Or.inl rfl)) (pgs_cons (pg_name (i := 3) nd rfl (Or.inl rfl)) pgs_nil)))) (fun _ _ _ _ _ _ => dts_nil) (fun _ _ _ _ _ _ => (de_call Fday_between hr (by decide) rfl (ac_cons (dv 0) (ac_cons (dv 2) (ac_cons (dv 3) ac_nil))))))) da_nil)) ac_nil))))))

abbrev st_chart_to_end : Stmt := top 54
abbrev sc_chart_to_end : Scope := defScope st_chart_to_end
abbrev N_chart_to_end : List Str := ["meeting", "sets", "last"]
theorem fs_chart_to_end : FnScope N_chart_to_end ["meeting", "sets"] sc_chart_to_end := ⟨rfl, rfl, rfl, by decide +kernel, rfl, by decide +kernel, by decide +kernel⟩
def u_chart_to_end : DTS := (dSeq (dSet 2 (dOp gSub (dCB gLen (dCons (dVar 1) dNil)) (dC (.int 1))))
    (dRet (dCallP t_chart_of (cCons (dVar 0) (cCons (dCallP t_rows_back (cCons (dVar 1) (cCons (dVar 2) (cCons (dIx (dOfF (fSrt (dCons (dIx (dVar 1) (dVar 2)) dNil))) (dC (.int 0))) cNil)))) cNil)))))
theorem d_chart_to_end {K : PySem.W.Frag} {mg : Str → Option Value} {base : Heap} {f : Addr} {cdv : Value} {A : Around} {outer : List Env} {s : Shared} {H : Hp} {E : XK} {W : Wd} (M : Mg mg) (Fchart_of : DFn TheW.P TheW.w K mg base 5 "chart_of" (spP t_chart_of)) (Frows_back : DFn TheW.P TheW.w K mg base 1 "rows_back" (spP t_rows_back)) (hr : Room 5 (cx N_chart_to_end "chart_to_end" sc_chart_to_end K mg base f cdv A outer s H E).A) : DSs (cx N_chart_to_end "chart_to_end" sc_chart_to_end K mg base f cdv A outer s H E) W (defBody st_chart_to_end) u_chart_to_end := by
  have nd := fs_chart_to_end.nd
  exact (dss_cons (ds_set (i := 2) nd rfl (Or.inl rfl) (de_op od_sub (de_callB (cr_len ⟨rfl, rfl⟩) rfl M.len boot_len (da_cons (dv 1) da_nil)) de_int))
    (dss_one (ds_ret (de_call Fchart_of hr (by decide) rfl (ac_cons (dv 0) (ac_cons (de_call Frows_back hr (by decide) rfl (ac_cons (dv 1) (ac_cons (dv 2) (ac_cons (de_ix ⟨rfl, rfl⟩ hr (de_ofF (df_sorted ⟨rfl, rfl⟩ hr rfl rfl M.sorted (da_cons (de_ix ⟨rfl, rfl⟩ hr (dv 1) (dv 2) (fun _ _ => rfl)) da_nil))) de_int (fun _ _ => rfl)) ac_nil)))) ac_nil))))))

abbrev st_is_full_row : Stmt := top 57
abbrev sc_is_full_row : Scope := defScope st_is_full_row
abbrev N_is_full_row : List Str := ["boats", "thing"]
theorem fs_is_full_row : FnScope N_is_full_row ["boats", "thing"] sc_is_full_row := ⟨rfl, rfl, rfl, by decide +kernel, rfl, by decide +kernel, by decide +kernel⟩
def u_is_full_row : DTS := (dRet (dAnd (dCallP t_is_row (cCons (dVar 1) cNil)) (dOp gEq (dOfF (fSrt (dCons (dVar 1) dNil))) (dOfF (fList (dCons (dVar 0) dNil))))))
theorem d_is_full_row {K : PySem.W.Frag} {mg : Str → Option Value} {base : Heap} {f : Addr} {cdv : Value} {A : Around} {outer : List Env} {s : Shared} {H : Hp} {E : XK} {W : Wd} (M : Mg mg) (Fis_row : DFn TheW.P TheW.w K mg base 3 "is_row" (spP t_is_row)) (hr : Room 3 (cx N_is_full_row "is_full_row" sc_is_full_row K mg base f cdv A outer s H E).A) : DSs (cx N_is_full_row "is_full_row" sc_is_full_row K mg base f cdv A outer s H E) W (defBody st_is_full_row) u_is_full_row := by
  have nd := fs_is_full_row.nd
  exact (dss_one (ds_ret (de_and (de_call Fis_row hr (by decide) rfl (ac_cons (dv 1) ac_nil)) (de_one (de_cmp (od_eq hr) (de_ofF (df_sorted ⟨rfl, rfl⟩ hr rfl rfl M.sorted (da_cons (dv 1) da_nil))) (de_ofF (df_list rfl M.list (da_cons (dv 0) da_nil))) (nomark _))))))

abbrev st_touches_on : Stmt := top 58
abbrev sc_touches_on : Scope := defScope st_touches_on
abbrev N_touches_on : List Str := ["day", "found", "sheet", "event"]
theorem fs_touches_on : FnScope N_touches_on ["day"] sc_touches_on := ⟨rfl, rfl, rfl, by decide +kernel, rfl, by decide +kernel, by decide +kernel⟩
def u_touches_on : DTS := (dSeq (dOwn 1 (fLst cNil))
    (dSeq (dFor (iSeq (dVar 0)) (dGName 2) (dDrop (dM 1 (cCons (dOfF (fLc (iSeq (dVar 2)) (dGName 3) (dTest (dOp gEq (dIx (dVar 3) (dC (.int 0))) (dC (.str "touch")))) (dTup (cCons (dIx (dVar 3) (dC (.int 1))) (cCons (dIx (dVar 3) (dC (.int 2))) cNil))) [3])) cNil) mExtend)))
    (dRet (dVar 1))))
theorem d_touches_on {K : PySem.W.Frag} {mg : Str → Option Value} {base : Heap} {f : Addr} {cdv : Value} {A : Around} {outer : List Env} {s : Shared} {H : Hp} {E : XK} {W : Wd} (M : Mg mg) (hr : Room 0 (cx N_touches_on "touches_on" sc_touches_on K mg base f cdv A outer s H E).A) : DSs (cx N_touches_on "touches_on" sc_touches_on K mg base f cdv A outer s H E) W (defBody st_touches_on) u_touches_on := by
  have nd := fs_touches_on.nd
  exact (dss_cons (ds_own (i := 1) nd rfl (Or.inl rfl) (df_lst (da_of ac_nil)))
    (dss_cons (ds_for PassesOwn.never rfl (di_seq (dv 0)) (dg_name (i := 2) nd rfl (Or.inl rfl)) (dss_one (ds_expr (de_extend (i := 1) (ac_cons (de_ofF (df_lc (own := [("event", 3)]) rfl nd (di_seq (dv 2)) (blkOk_by (N := N_touches_on) (sc := sc_touches_on) (by decide +kernel)) (tg_name (by decide)) (fun _ _ _ _ _ => (pg_name (i := 3) nd rfl (Or.inl rfl))) (fun _ _ _ _ _ _ => (dts_one (dt_cmp (od_eq hr) (de_ix ⟨rfl, rfl⟩ hr (dv 3) de_int (fun _ _ => rfl)) de_str (nomark _)))) (fun _ _ _ _ _ _ => (de_tup (da_of (ac_cons (de_ix ⟨rfl, rfl⟩ hr (dv 3) de_int (fun _ _ => rfl)) (ac_cons (de_ix ⟨rfl, rfl⟩ hr (dv 3) de_int (fun _ _ => rfl)) ac_nil))))))) ac_nil)))))
    (dss_one (ds_ret (dv 1)))))

abbrev st_goes_so : Stmt := top 59
abbrev sc_goes_so : Scope := defScope st_goes_so
abbrev N_goes_so : List Str := ["meeting", "torns", "ban", "row", "days", "m", "day", "come"]
theorem fs_goes_so : FnScope N_goes_so ["meeting", "torns", "ban", "row", "days"] sc_goes_so := ⟨rfl, rfl, rfl, by decide +kernel, rfl, by decide +kernel, by decide +kernel⟩
def u_goes_so : DTS := (dSeq (dFor (iEnum (cCons (dVar 4) cNil)) (dGTup 2 (dGCons (dGName 5) (dGCons (dGName 6) dGNil))) (dSeq (dIf (dOrT (dNotT (dTest (dCallP t_row_fits (cCons (dIx (dVar 1) (dVar 5)) (cCons (dVar 3) cNil))))) (dOrT (dNotT (dTest (dCallP t_ban_lets_row (cCons (dVar 2) (cCons (dVar 5) (cCons (dVar 3) cNil)))))) (dNotT (dTest (dCallP t_ban_lets_day (cCons (dVar 2) (cCons (dVar 5) (cCons (dCallP t_touches_on (cCons (dVar 6) cNil)) cNil)))))))) (dRet (dC (.bool false))) dNext)
    (dSeq (dSet 7 (dCallP t_day_behind (cCons (dVar 0) (cCons (dVar 3) (cCons (dVar 6) cNil)))))
    (dSeq (dIf (dTest (dOp gNe (dIx (dVar 7) (dC (.int 0))) (dC (.str "row")))) (dRet (dC (.bool false))) dNext)
    (dSet 3 (dIx (dVar 7) (dC (.int 1))))))))
    (dRet (dAnd (dCallP t_row_fits (cCons (dIx (dVar 1) (dCB gLen (dCons (dVar 4) dNil))) (cCons (dVar 3) cNil))) (dCallP t_ban_lets_row (cCons (dVar 2) (cCons (dCB gLen (dCons (dVar 4) dNil)) (cCons (dVar 3) cNil)))))))
theorem d_goes_so {K : PySem.W.Frag} {mg : Str → Option Value} {base : Heap} {f : Addr} {cdv : Value} {A : Around} {outer : List Env} {s : Shared} {H : Hp} {E : XK} {W : Wd} (M : Mg mg) (Frow_fits : DFn TheW.P TheW.w K mg base 1 "row_fits" (spP t_row_fits)) (Fban_lets_row : DFn TheW.P TheW.w K mg base 1 "ban_lets_row" (spP t_ban_lets_row)) (Fday_behind : DFn TheW.P TheW.w K mg base 5 "day_behind" (spP t_day_behind)) (Fban_lets_day : DFn TheW.P TheW.w K mg base 1 "ban_lets_day" (spP t_ban_lets_day)) (Ftouches_on : DFn TheW.P TheW.w K mg base 1 "touches_on" (spP t_touches_on)) (hr : Room 5 (cx N_goes_so "goes_so" sc_goes_so K mg base f cdv A outer s H E).A) : DSs (cx N_goes_so "goes_so" sc_goes_so K mg base f cdv A outer s H E) W (defBody st_goes_so) u_goes_so := by
  have nd := fs_goes_so.nd
  exact (dss_cons (ds_for PassesOwn.never rfl (di_enum rfl M.enumerate (ac_cons (dv 4) ac_nil)) (dg_tup rfl (dgs_cons (dg_name (i := 5) nd rfl (Or.inl rfl)) (dgs_cons (dg_name (i := 6) nd rfl (Or.inl rfl)) dgs_nil))) (dss_cons (ds_if (dt_w (dw_or (dt_not (dt_val (de_call Frow_fits hr (by decide) rfl (ac_cons (de_ix ⟨rfl, rfl⟩ hr (dv 1) (dv 5) (fun _ _ => rfl)) (ac_cons (dv 3) ac_nil))))) (dw_or (dt_not (dt_val (de_call Fban_lets_row hr (by decide) rfl (ac_cons (dv 2) (ac_cons (dv 5) (ac_cons (dv 3) ac_nil)))))) (dw_or1 (dt_not (dt_val (de_call Fban_lets_day hr (by decide) rfl (ac_cons (dv 2) (ac_cons (dv 5) (ac_cons (de_call Ftouches_on hr (by decide) rfl (ac_cons (dv 6) ac_nil)) ac_nil)))))))))) (dss_one (ds_ret de_bl)) dss_nil)
    (dss_cons (ds_set (i := 7) nd rfl (Or.inl rfl) (de_call Fday_behind hr (by decide) rfl (ac_cons (dv 0) (ac_cons (dv 3) (ac_cons (dv 6) ac_nil)))))
    (dss_cons (ds_if (dt_cmp (od_ne hr) (de_ix ⟨rfl, rfl⟩ hr (dv 7) de_int (fun _ _ => rfl)) de_str (nomark _)) (dss_one (ds_ret de_bl)) dss_nil)
    (dss_one (ds_set (i := 3) nd rfl (Or.inl rfl) (de_ix ⟨rfl, rfl⟩ hr (dv 7) de_int (fun _ _ => rfl))))))))
    (dss_one (ds_ret (de_and (de_call Frow_fits hr (by decide) rfl (ac_cons (de_ix ⟨rfl, rfl⟩ hr (dv 1) (de_callB (cr_len ⟨rfl, rfl⟩) rfl M.len boot_len (da_cons (dv 4) da_nil)) (fun _ _ => rfl)) (ac_cons (dv 3) ac_nil))) (de_one (de_call Fban_lets_row hr (by decide) rfl (ac_cons (dv 2) (ac_cons (de_callB (cr_len ⟨rfl, rfl⟩) rfl M.len boot_len (da_cons (dv 4) da_nil)) (ac_cons (dv 3) ac_nil)))))))))

abbrev st_shows_chart : Stmt := top 60
abbrev sc_shows_chart : Scope := defScope st_shows_chart
abbrev N_shows_chart : List Str := ["meeting", "mornings", "ban", "thing", "boats", "torns", "row", "days", "day"]
theorem fs_shows_chart : FnScope N_shows_chart ["meeting", "mornings", "ban", "thing"] sc_shows_chart := ⟨rfl, rfl, rfl, by decide +kernel, rfl, by decide +kernel, by decide +kernel⟩
def u_shows_chart : DTS := (dSeq (dAsg (dVar 1) (dGTup 2 (dGCons (dGName 4) (dGCons (dGName 5) dGNil))))
    (dSeq (dIf (dOrT (dNotT (dTest (dCB gIsi (dCons (dVar 3) (dCons (dR (.ty "tuple")) dNil))))) (dOrT (dTest (dOp gNe (dCB gLen (dCons (dVar 3) dNil)) (dC (.int 2)))) (dNotT (dTest (dCallP t_is_full_row (cCons (dVar 4) (cCons (dIx (dVar 3) (dC (.int 0))) cNil))))))) (dRet (dC (.bool false))) dNext)
    (dSeq (dAsg (dVar 3) (dGTup 2 (dGCons (dGName 6) (dGCons (dGName 7) dGNil))))
    (dSeq (dIf (dOrT (dNotT (dTest (dCB gIsi (dCons (dVar 7) (dCons (dR (.ty "tuple")) dNil))))) (dOrT (dTest (dOp gNe (dCB gLen (dCons (dVar 7) dNil)) (dOp gSub (dCB gLen (dCons (dVar 5) dNil)) (dC (.int 1))))) (dNotT (dTest (dCB gAll (dCons (dOfF (fLc (iSeq (dVar 7)) (dGName 8) dYes (dCallP t_is_day (cCons (dVar 8) cNil)) [8])) dNil)))))) (dRet (dC (.bool false))) dNext)
    (dRet (dCallP t_goes_so (cCons (dVar 0) (cCons (dVar 5) (cCons (dVar 2) (cCons (dVar 6) (cCons (dVar 7) cNil)))))))))))
theorem d_shows_chart {K : PySem.W.Frag} {mg : Str → Option Value} {base : Heap} {f : Addr} {cdv : Value} {A : Around} {outer : List Env} {s : Shared} {H : Hp} {E : XK} {W : Wd} (M : Mg mg) (Fgoes_so : DFn TheW.P TheW.w K mg base 6 "goes_so" (spP t_goes_so)) (Fis_day : DFn TheW.P TheW.w K mg base 4 "is_day" (spP t_is_day)) (Fis_full_row : DFn TheW.P TheW.w K mg base 4 "is_full_row" (spP t_is_full_row)) (hr : Room 6 (cx N_shows_chart "shows_chart" sc_shows_chart K mg base f cdv A outer s H E).A) : DSs (cx N_shows_chart "shows_chart" sc_shows_chart K mg base f cdv A outer s H E) W (defBody st_shows_chart) u_shows_chart := by
  have nd := fs_shows_chart.nd
  exact (dss_cons (ds_asg (dv 1) (dg_tup rfl (dgs_cons (dg_name (i := 4) nd rfl (Or.inl rfl)) (dgs_cons (dg_name (i := 5) nd rfl (Or.inl rfl)) dgs_nil))))
    (dss_cons (ds_if (dt_w (dw_or (dt_not (dt_val (de_callB cr_isi rfl M.isinstance (by decide +kernel) (da_cons (dv 3) (da_cons (de_bltn rfl M.tuple (by decide +kernel)) da_nil))))) (dw_or (dt_cmp (od_ne hr) (de_callB (cr_len ⟨rfl, rfl⟩) rfl M.len boot_len (da_cons (dv 3) da_nil)) de_int (nomark _)) (dw_or1 (dt_not (dt_val (de_call Fis_full_row hr (by decide) rfl (ac_cons (dv 4) (ac_cons (de_ix ⟨rfl, rfl⟩ hr (dv 3) de_int (fun _ _ => rfl)) ac_nil))))))))) (dss_one (ds_ret de_bl)) dss_nil)
    (dss_cons (ds_asg (dv 3) (dg_tup rfl (dgs_cons (dg_name (i := 6) nd rfl (Or.inl rfl)) (dgs_cons (dg_name (i := 7) nd rfl (Or.inl rfl)) dgs_nil))))
    (dss_cons (ds_if (dt_w (dw_or (dt_not (dt_val (de_callB cr_isi rfl M.isinstance (by decide +kernel) (da_cons (dv 7) (da_cons (de_bltn rfl M.tuple (by decide +kernel)) da_nil))))) (dw_or (dt_cmp (od_ne hr) (de_callB (cr_len ⟨rfl, rfl⟩) rfl M.len boot_len (da_cons (dv 7) da_nil)) (de_op od_sub (de_callB (cr_len ⟨rfl, rfl⟩) rfl M.len boot_len (da_cons (dv 5) da_nil)) de_int) (nomark _)) (dw_or1 (dt_not (dt_val (de_callB (cr_allD rfl) rfl M.all (by decide +kernel) (da_cons (de_ofF (df_lc (own := [("day", 8)]) rfl nd (di_seq (dv 7)) (blkOk_by (N := N_shows_chart) (sc := sc_shows_chart) (by decide +kernel)) (tg_name (by decide)) (fun _ _ _ _ _ => (pg_name (i := 8) nd rfl (Or.inl rfl))) (fun _ _ _ _ _ _ => dts_nil) (fun _ _ _ _ _ _ => (de_call Fis_day hr (by decide) rfl (ac_cons (dv 8) ac_nil))))) da_nil)))))))) (dss_one (ds_ret de_bl)) dss_nil)
    (dss_one (ds_ret (de_call Fgoes_so hr (by decide) rfl (ac_cons (dv 0) (ac_cons (dv 5) (ac_cons (dv 2) (ac_cons (dv 6) (ac_cons (dv 7) ac_nil))))))))))))

abbrev st_is_row_set : Stmt := top 61
abbrev sc_is_row_set : Scope := defScope st_is_row_set
abbrev N_is_row_set : List Str := ["boats", "thing", "one", "other"]
theorem fs_is_row_set : FnScope N_is_row_set ["boats", "thing"] sc_is_row_set := ⟨rfl, rfl, rfl, by decide +kernel, rfl, by decide +kernel, by decide +kernel⟩
def u_is_row_set : DTS := (dSeq (dIf (dOrT (dNotT (dTest (dCB gIsi (dCons (dVar 1) (dCons (dR (.ty "tuple")) dNil))))) (dNotT (dTest (dCB gAll (dCons (dOfF (fLc (iSeq (dVar 1)) (dGName 2) dYes (dCallP t_is_full_row (cCons (dVar 0) (cCons (dVar 2) cNil))) [2])) dNil))))) (dRet (dC (.bool false))) dNext)
    (dRet (dCB gAll (dCons (dOfF (fLc (iZip (cCons (dVar 1) (cCons (dSl (dVar 1) (dPart (dC (.int 1))) dNo) cNil))) (dGTup 2 (dGCons (dGName 2) (dGCons (dGName 3) dGNil))) dYes (dOp gLt (dVar 2) (dVar 3)) [2, 3])) dNil))))
theorem d_is_row_set {K : PySem.W.Frag} {mg : Str → Option Value} {base : Heap} {f : Addr} {cdv : Value} {A : Around} {outer : List Env} {s : Shared} {H : Hp} {E : XK} {W : Wd} (M : Mg mg) (Fis_full_row : DFn TheW.P TheW.w K mg base 4 "is_full_row" (spP t_is_full_row)) (hr : Room 4 (cx N_is_row_set "is_row_set" sc_is_row_set K mg base f cdv A outer s H E).A) : DSs (cx N_is_row_set "is_row_set" sc_is_row_set K mg base f cdv A outer s H E) W (defBody st_is_row_set) u_is_row_set := by
  have nd := fs_is_row_set.nd
  exact (dss_cons (ds_if (dt_w (dw_or (dt_not (dt_val (de_callB cr_isi rfl M.isinstance (by decide +kernel) (da_cons (dv 1) (da_cons (de_bltn rfl M.tuple (by decide +kernel)) da_nil))))) (dw_or1 (dt_not (dt_val (de_callB (cr_allD rfl) rfl M.all (by decide +kernel) (da_cons (de_ofF (df_lc (own := [("one", 2)]) rfl nd (di_seq (dv 1)) (blkOk_by (N := N_is_row_set) (sc := sc_is_row_set) (by decide +kernel)) (tg_name (by decide)) (fun _ _ _ _ _ => (pg_name (i := 2) nd rfl (Or.inl rfl))) (fun _ _ _ _ _ _ => dts_nil) (fun _ _ _ _ _ _ => (de_call Fis_full_row hr (by decide) rfl (ac_cons (dv 0) (ac_cons (dv 2) ac_nil)))))) da_nil))))))) (dss_one (ds_ret de_bl)) dss_nil)
    (dss_one (ds_ret (de_callB (cr_allD rfl) rfl M.all (by decide +kernel) (da_cons (de_ofF (df_lc (own := [("one", 2), ("other", 3)]) rfl nd (di_zip rfl M.zip (ac_cons (dv 1) (ac_cons (de_slice (dv 1) (do_some de_int) do_none) ac_nil))) (blkOk_by (N := N_is_row_set) (sc := sc_is_row_set) (by decide +kernel)) (tg_tup (tgs_cons (tg_name (by decide)) (tgs_cons (tg_name (by decide)) tgs_nil))) (fun _ _ _ _ _ => (pg_tup rfl (pgs_cons (pg_name (i := 2) nd rfl (Or.inl rfl)) (pgs_cons (pg_name (i := 3) nd rfl (Or.inl rfl)) pgs_nil)))) (fun _ _ _ _ _ _ => dts_nil) (fun _ _ _ _ _ _ => (de_cmp (od_lt hr) (dv 2) (dv 3) (nomark _))))) da_nil)))))

abbrev st_has_first_rows : Stmt := top 62
abbrev sc_has_first_rows : Scope := defScope st_has_first_rows
abbrev N_has_first_rows : List Str := ["mornings", "ban", "some", "boats", "torns", "row"]
theorem fs_has_first_rows : FnScope N_has_first_rows ["mornings", "ban", "some"] sc_has_first_rows := ⟨rfl, rfl, rfl, by decide +kernel, rfl, by decide +kernel, by decide +kernel⟩
def u_has_first_rows : DTS := (dSeq (dAsg (dVar 0) (dGTup 2 (dGCons (dGName 3) (dGCons (dGName 4) dGNil))))
    (dSeq (dFor (iSeq (dCallP t_all_rows (cCons (dVar 3) cNil))) (dGName 5) (dIf (dAndT (dTest (dCallP t_row_fits (cCons (dIx (dVar 4) (dC (.int 0))) (cCons (dVar 5) cNil)))) (dAndT (dTest (dCallP t_ban_lets_row (cCons (dVar 1) (cCons (dC (.int 0)) (cCons (dVar 5) cNil))))) (dTest (dOp gNotIn (dVar 5) (dVar 2))))) (dRet (dC (.bool false))) dNext))
    (dRet (dC (.bool true)))))
theorem d_has_first_rows {K : PySem.W.Frag} {mg : Str → Option Value} {base : Heap} {f : Addr} {cdv : Value} {A : Around} {outer : List Env} {s : Shared} {H : Hp} {E : XK} {W : Wd} (M : Mg mg) (Fall_rows : DFn TheW.P TheW.w K mg base 1 "all_rows" (spP t_all_rows)) (Frow_fits : DFn TheW.P TheW.w K mg base 1 "row_fits" (spP t_row_fits)) (Fban_lets_row : DFn TheW.P TheW.w K mg base 1 "ban_lets_row" (spP t_ban_lets_row)) (hr : Room 1 (cx N_has_first_rows "has_first_rows" sc_has_first_rows K mg base f cdv A outer s H E).A) : DSs (cx N_has_first_rows "has_first_rows" sc_has_first_rows K mg base f cdv A outer s H E) W (defBody st_has_first_rows) u_has_first_rows := by
  have nd := fs_has_first_rows.nd
  exact (dss_cons (ds_asg (dv 0) (dg_tup rfl (dgs_cons (dg_name (i := 3) nd rfl (Or.inl rfl)) (dgs_cons (dg_name (i := 4) nd rfl (Or.inl rfl)) dgs_nil))))
    (dss_cons (ds_for PassesOwn.never rfl (di_seq (de_call Fall_rows hr (by decide) rfl (ac_cons (dv 3) ac_nil))) (dg_name (i := 5) nd rfl (Or.inl rfl)) (dss_one (ds_if (dt_w (dw_and (dt_val (de_call Frow_fits hr (by decide) rfl (ac_cons (de_ix ⟨rfl, rfl⟩ hr (dv 4) de_int (fun _ _ => rfl)) (ac_cons (dv 5) ac_nil)))) (dw_and (dt_val (de_call Fban_lets_row hr (by decide) rfl (ac_cons (dv 1) (ac_cons de_int (ac_cons (dv 5) ac_nil))))) (dw_and1 (dt_cmp (od_notIn ⟨rfl, rfl⟩ hr) (dv 5) (dv 2) (by with_unfolding_all rfl)))))) (dss_one (ds_ret de_bl)) dss_nil)))
    (dss_one (ds_ret de_bl))))

end DL
/-! L7: charts' small defs. -/
namespace DL
open PySem PySem.Spec PyProof.Rows L2
variable [TheW]
theorem l_row_fits : Law t_row_fits u_row_fits N_row_fits := by
  rintro xs c K ⟨nm, n, t, r, hn, ht, hr, htl, rfl, q⟩
  have e1 : zipD (t.map (sB nm)) (r.map (sB nm)) = (t.zip r).map fun p => .p [sB nm p.1, sB nm p.2] := by
    unfold zipD
    rw [List.zip_map, List.map_map]
    rfl
  refine ⟨by simp [zipD]; omega, ?_⟩
  rw [e1]
  refine lc_map (fun p : Nat × Nat => .p [sB nm p.1, sB nm p.2]) (fun p => .bool (decide (p.1 = p.2))) (t.zip r) _ (fun p Kt Kf hp hk => ⟨rfl, rfl, ?_⟩) ?_
  · have h1 := List.of_mem_zip hp
    exact ⟨okD_sB, okD_sB, ktEq hk (congrArg PyData.bool (hn.eq (ht _ h1.1) (hr _ h1.2)).symm)⟩
  · refine ⟨(t.zip r).map fun p => decide (p.1 = p.2), by rw [← asBools_map, List.map_map]; rfl, kEq q ?_⟩
    unfold iFits
    rw [List.all_map]
    rfl
theorem l_ban_lets_row : Law t_ban_lets_row u_ban_lets_row N_ban_lets_row := by
  rintro xs c K ⟨nm, n, ban, r, m, hn, hr, hb, rfl, q⟩
  cases ban with
  | no => exact q
  | lk m' a b => exact ⟨_, rfl, okD_str, okD_str, ifT (by decide +kernel) q⟩
  | nt m' p b =>
    have hv : r.getD p 0 < n := by
      refine hr _ ?_
      rw [List.getD_eq_getElem?_getD, List.getElem?_eq_getElem hb.1]
      exact List.getElem_mem _
    refine ⟨_, rfl, okD_str, okD_str, ifF (by decide +kernel) ⟨_, rfl, okD_int, okD_int, ?_⟩⟩
    by_cases h : m' = m
    · refine ifF (by simp [PyData.eqv, h]) ⟨_, rfl, _, atI_m (getD_some hb.1), _, rfl, okD_sB, okD_sB, kEq q ?_⟩
      rw [hn.eq hv hb.2]
      unfold iBanRow
      simp [h]
    · have h2 : ((m' : Int) == (m : Int)) = false := by simp; omega
      refine ifT (by simp [PyData.eqv, h2]) (kEq q ?_)
      unfold iBanRow
      simp [h]
theorem Nm.eqP {nm : Nat → Str} {n : Nat} (hn : Nm nm n) {p q : Nat × Nat} (hp : p.1 < n ∧ p.2 < n) (hq : q.1 < n ∧ q.2 < n) : PyData.eqv (npD nm p) (npD nm q) = decide (p = q) := by
  show PyData.eqv (.tuple [sB nm p.1, sB nm p.2]) (.tuple [sB nm q.1, sB nm q.2]) = _
  rw [PyData.eqv, PyData.eqvAll, PyData.eqvAll, PyData.eqvAll, hn.eq hp.1 hq.1, hn.eq hp.2 hq.2]
  obtain ⟨a, b⟩ := p
  obtain ⟨x, y⟩ := q
  by_cases h1 : a = x <;> by_cases h2 : b = y <;> simp [h1, h2]
theorem Nm.memP {nm : Nat → Str} {n : Nat} (hn : Nm nm n) : ∀ {met : List (Nat × Nat)} {q : Nat × Nat}, LtP n met → q.1 < n ∧ q.2 < n → ((met.map (npD nm)).any fun z => PyData.eqv z (npD nm q)) = decide (q ∈ met)
  | [], _, _, _ => by simp
  | a :: l, q, hl, hq => by
    rw [List.map_cons, List.any_cons, hn.eqP (hl a (by simp)) hq, hn.memP (fun x hx => hl x (by simp [hx])) hq]
    by_cases h1 : a = q
    · simp [h1]
    · have : ¬ q = a := fun z => h1 z.symm
      simp [h1, this]
theorem okAll_np {nm : Nat → Str} {k : Nat} {l : List (Nat × Nat)} : (l.map (npD nm)).all (okD (k + 1)) = true := by
  rw [List.all_map]; exact List.all_eq_true.mpr fun p _ => by simp [npD]
theorem l_ban_lets_day : Law t_ban_lets_day u_ban_lets_day N_ban_lets_day := by
  rintro xs c K ⟨nm, n, len, ban, met, m, hn, hmet, hb, hx, q⟩
  have body : ∀ y : PyData, (y = metD nm met ∨ y = .list (met.map (npD nm))) → u_ban_lets_day { nx := fun s => K (.d .none) s.c, rt := fun x s => K x s.c } ⟨startD N_ban_lets_day [.d (banD nm ban), .d (.int m), .d y], c⟩ := by
    intro y hy
    cases ban with
    | no => exact q
    | nt m' a b => exact ⟨_, rfl, okD_str, okD_str, ifT (by decide +kernel) q⟩
    | lk m' a b =>
      refine ⟨_, rfl, okD_str, okD_str, ifF (by decide +kernel) ⟨_, rfl, okD_int, okD_int, ?_⟩⟩
      by_cases h : m' = m
      · refine ifF (by simp [PyData.eqv, h]) ⟨_, rfl, _, rfl, by simp, ?_⟩
        have hm := hn.memP (q := (a, b)) hmet hb
        have fin : K (.d (.bool (true ^^ (met.map (npD nm)).any fun z => PyData.eqv z (npD nm (a, b))))) c := kEq q (by
          rw [hm]
          unfold iBanDay
          simp [h])
        rcases hy with rfl | rfl
        · exact ⟨by simp, okAll_np, fin⟩
        · exact ⟨by simp, okAll_np, fin⟩
      · have h2 : ((m' : Int) == (m : Int)) = false := by simp; omega
        refine ifT (by simp [PyData.eqv, h2]) (kEq q ?_)
        unfold iBanDay
        simp [h]
  rcases hx with rfl | rfl
  · exact body _ (.inl rfl)
  · exact body _ (.inr rfl)
theorem l_touched : Law t_touched u_touched N_touched := by
  rintro xs c K ⟨nm, r, arcs, hin, hlen, rfl, q⟩
  refine ⟨by simp, dl_map ?_⟩
  let bt (dn : List (Nat × Nat)) : List Nat := dn.foldl (fun b p => (b.set p.1 (r.getD p.2 0)).set p.2 (r.getD p.1 0)) r
  have btl : ∀ dn, (bt dn).length = r.length := fun dn => by
    suffices h : ∀ (b : List Nat), (dn.foldl (fun b p => (b.set p.1 (r.getD p.2 0)).set p.2 (r.getD p.1 0)) b).length = b.length from h r
    induction dn with
    | nil => intro b; rfl
    | cons t ts ih => intro b; rw [List.foldl_cons, ih]; simp
  refine dLoop_list (fun p => .d (ppD p)) arcs (fun done s => ∃ x y : Option DS, s = ⟨[some (.sh (.d (tN nm r))), some (.sh (.d (arcD arcs))), some (.own (.lst ((bt done).map (sB nm)))), some (.own (.lst ((iMetOf r done).map (npD nm)))), x, y], c⟩) ?_ ?_ _ ⟨none, none, rfl⟩
  · rintro done p rest s R e ⟨x, y, rfl⟩ hR
    obtain ⟨h1, h2⟩ := hin p (by rw [e]; simp)
    have hdl : done.length ≤ arcs.length := by rw [e]; simp
    refine ⟨rfl, rfl, _, atI_m (getD_some h2), _, atI_m (getD_some h1), by simp, rfl, ⟨_, rfl⟩, p.1, ixN_nat (by rw [List.length_map, btl]; exact h1), ⟨_, rfl⟩, p.2, ixN_nat (by rw [List.length_set, List.length_map, btl]; exact h2), rfl, ⟨_, rfl⟩, _, atI_m (getD_some h2), _, atI_m (getD_some h1), by simp, _, rfl, ?_, hR _ ⟨some (.sh (.d (.int (p.1 : Nat)))), some (.sh (.d (.int (p.2 : Nat)))), ?_⟩⟩
    · unfold iMetOf; rw [List.length_map, List.length_map]; omega
    · have e1 : (bt (done ++ [p])).map (sB nm) = (((bt done).map (sB nm)).set p.1 (sB nm (r.getD p.2 0))).set p.2 (sB nm (r.getD p.1 0)) := by
        simp only [bt]
        rw [List.foldl_append]
        simp [List.map_set]
      have e2 : (iMetOf r (done ++ [p])).map (npD nm) = (iMetOf r done).map (npD nm) ++ [.tuple [sB nm (r.getD p.2 0), sB nm (r.getD p.1 0)]] := by
        unfold iMetOf
        rw [List.map_append, List.map_append]
        rfl
      rw [e1, e2]
      rfl
  · rintro s ⟨x, y, rfl⟩
    exact ⟨by simp, q⟩
end DL
/-! L8: charts. -/
namespace DL
open PySem PySem.Spec PyProof.Rows L2
variable [TheW]
theorem srtOk_le1 {l : List (List Nat)} {nm : Nat → Str} (h : l.length ≤ 1) (hne : ∀ r ∈ l, r ≠ []) : SrtOk (l.map (tN nm)) ∧ srtD (l.map (tN nm)) = l.map (tN nm) := by
  match l, h with
  | [], _ => exact ⟨⟨by simp, rfl, fun d hd => (by cases hd), .inr fun d hd => (by cases hd)⟩, by simp [srtD]⟩
  | [r], _ =>
    refine ⟨⟨by simp, by simp, ?_, .inl fun d hd => ?_⟩, by simp [srtD]⟩
    · intro d hd d' hd'
      rw [List.map_cons, List.map_nil, List.mem_singleton] at hd hd'
      subst hd hd'
      have : ∀ l : List Nat, PySem.W.alikeAll (l.map (sB nm)) (l.map (sB nm)) = true := fun l => by
        induction l with
        | nil => simp [PySem.W.alikeAll]
        | cons a l ih => rw [List.map_cons, PySem.W.alikeAll, ih]; simp [sB, PySem.W.alike]
      show PySem.W.alike (.tuple _) (.tuple _) = true
      rw [PySem.W.alike]; exact this r
    · rw [List.map_cons, List.map_nil, List.mem_singleton] at hd
      subst hd
      cases r with
      | nil => exact absurd rfl (hne [] (by simp))
      | cons a t => exact ⟨_, _, rfl⟩
theorem l_stop_of : Law t_stop_of u_stop_of N_stop_of := by
  rintro xs c K ⟨nm, sets, hl, h1, rfl, q⟩
  refine ⟨by simp; omega, lc_mm ?_⟩
  refine lc_map (fun s => .d (.dict (rowsK nm s))) (fun s : List (List Nat × PyData) => .tuple (s.map fun p => tN nm p.1)) sets _ (fun s Kt Kf hs hk => ?_) ?_
  rotate_left
  · exact q
  have e1 : (rowsK nm s).map (·.1) = (s.map (·.1)).map (tN nm) := by
    unfold rowsK
    rw [List.map_map, List.map_map]; rfl
  have e2 : (s.map fun p => tN nm p.1) = (s.map (·.1)).map (tN nm) := by rw [List.map_map]; rfl
  obtain ⟨o1, o2⟩ := srtOk_le1 (nm := nm) (l := s.map (·.1)) (by rw [List.length_map]; exact (h1 s hs).1) fun r hr => by
    obtain ⟨p, hp, rfl⟩ := List.mem_map.mp hr
    exact (h1 s hs).2 p hp
  refine ⟨by rw [e1]; exact o1, ktEq hk ?_⟩
  rw [e1, o2, e2]
theorem l_rows_back : Law t_rows_back u_rows_back N_rows_back := by
  rintro xs c K ⟨nm, n, d0, r0, r1, hn, hr1, rfl, q⟩
  have hv : valP [(tN nm r1, tN nm r0)] (tN nm r1) = some (tN nm r0) := by
    have : PyData.eqv (tN nm r1) (tN nm r1) = true := by rw [hn.eqT hr1 hr1]; simp
    simp [valP, this]
  refine ⟨by simp, ⟨by decide, by decide⟩, ⟨by decide, by decide⟩, ⟨_, rfl⟩, _, rfl, _, rfl, toKs_sB r1, _, hv, _, rfl, by simp, ⟨_, rfl⟩, _, rfl, q⟩
theorem l_touches_on : Law t_touches_on u_touches_on N_touches_on := by
  rintro xs c K ⟨nm, day, hl, hs, rfl, q⟩
  have tl : ∀ dn : List (List Ev), (∀ evs ∈ dn, evs.length ≤ 100) → (dn.flatMap iTouches).length ≤ 100 * dn.length := by
    intro dn
    induction dn with
    | nil => intro _; simp
    | cons a t ih =>
      intro h
      have h1 := ih fun x hx => h x (List.mem_cons_of_mem _ hx)
      have h2 := touches_len a
      have h3 := h a (by simp)
      rw [List.flatMap_cons, List.length_append, List.length_cons]
      omega
  refine ⟨by simp, dl_map ?_⟩
  refine dLoop_list (fun evs => .d (shD nm evs)) day (fun done s => ∃ x : Option DS, s = ⟨[some (.sh (.d (dayD nm day))), some (.own (.lst ((done.flatMap iTouches).map (npD nm)))), x, none], c⟩) ?_ ?_ _ ⟨none, rfl⟩
  · rintro done evs rest s R e ⟨x, rfl⟩ hR
    have he : evs ∈ day := by rw [e]; simp
    have hel := hs evs he
    have htl := touches_len evs
    have hdl := tl done fun z hz => hs z (by rw [e]; simp [hz])
    have hdn : done.length ≤ day.length := by rw [e]; simp
    refine ⟨⟨_, rfl⟩, by simp; omega, lc_mm ?_⟩
    refine lc_filter (fun e => .d (evD nm e)) Ev.isT (fun e => npD nm e.pair) evs _ (fun e' Kt Kf he' h1 h2 => ?_) ?_
    · cases e' with
      | t a b => exact ⟨_, rfl, okD_str, okD_str, ifT (by decide +kernel) ⟨_, rfl, _, rfl, by simp, h1 rfl⟩⟩
      | d a => exact ⟨_, rfl, okD_str, okD_str, ifF (by decide +kernel) (h2 rfl)⟩
    · have e1 : (evs.filter Ev.isT).map (fun e => npD nm e.pair) = (iTouches evs).map (npD nm) := by unfold iTouches; rw [List.map_map]; rfl
      conv => whnf
      rw [e1]
      refine ⟨_, rfl, by rw [List.length_map, List.length_map]; omega, hR _ ⟨some (.sh (.d (shD nm evs))), ?_⟩⟩
      rw [List.flatMap_append, List.flatMap_singleton, List.map_append]
      rfl
  · rintro s ⟨x, rfl⟩
    exact q
theorem l_is_full_row : Law t_is_full_row u_is_full_row N_is_full_row := by
  rintro xs c K ⟨nm, n, bs, r, hn, ⟨h1, h2, h3, h4, h5⟩, rfl, q⟩
  refine ⟨nm, n, r, hn, h1, h2, h4, h3, rfl, srtOk_strs nm r (by omega), ?_⟩
  have e1 : srtD (r.map (sB nm)) = bs.map (sB nm) := by rw [srtS_eq, h5]
  conv => whnf
  rw [e1]
  refine ⟨okAll_sB, okAll_sB, kEq q (congrArg PyData.bool ?_)⟩
  have : ∀ l : List PyData, PyData.eqvAll (l.map id) (l.map id) = true → True := fun _ _ => trivial
  rw [PyData.eqv]
  clear e1 h5 q this
  induction bs with
  | nil => simp [PyData.eqvAll]
  | cons a t ih => rw [List.map_cons, PyData.eqvAll, ← ih]; simp [sB, PyData.eqv]
theorem l_is_row_set : Law t_is_row_set u_is_row_set N_is_row_set := by
  rintro xs c K ⟨nm, n, bs, R, hn, h1, h2, rfl, q⟩
  refine ⟨_, _, rfl, rfl, ?_⟩
  conv => whnf
  refine ⟨by simp; omega, lc_mm ?_⟩
  refine lc_map (fun r => .d (tN nm r)) (fun _ => .bool true) R _ (fun r Kt Kf hr hk => ⟨nm, n, bs, r, hn, h2 r hr, rfl, hk⟩) ?_
  refine ⟨R.map fun _ => true, by rw [← asBools_map, List.map_map]; rfl, ifF (by simp) ?_⟩
  conv => whnf
  match R, h1 with
  | [], _ => exact ⟨by simp [zipD], [], rfl, q⟩
  | [r], _ => exact ⟨by simp [zipD]; omega, [], rfl, q⟩
theorem smallR_nat {m : Nat} (h : m ≤ 100000) : smallR (m : Int) := ⟨by omega, by omega⟩
theorem l_all_rows : Law t_all_rows u_all_rows N_all_rows := by
  rintro xs c K ⟨nm, n, bs, hn, hb, hl, rfl, q⟩
  have extl : ∀ rows : List (List Nat), (iExt bs rows).length ≤ 5 * rows.length := by
    intro rows
    unfold iExt
    induction rows with
    | nil => simp
    | cons r t ih =>
      have h1 : ((bs.filter fun b => decide (b ∉ r)).map fun b => r ++ [b]).length ≤ 5 := by
        have := List.length_filter_le (fun b => decide (b ∉ r)) bs
        rw [List.length_map]; omega
      rw [List.flatMap_cons, List.length_append, List.length_cons]
      omega
  have rowl : ∀ k, k ≤ 5 → (iRows bs k).length ≤ 3125 := by
    have : ∀ k, (iRows bs k).length ≤ 5 ^ k := fun k => by
      induction k with
      | zero => simp [iRows]
      | succ k ih =>
        have := extl (iRows bs k)
        show (iExt bs (iRows bs k)).length ≤ _
        rw [Nat.pow_succ]; omega
    intro k hk
    exact Nat.le_trans (this k) (Nat.pow_le_pow_right (by decide) hk)
  have rlt : ∀ k, ∀ r ∈ iRows bs k, Lt n r ∧ r.length = k := fun k => by
    induction k with
    | zero => intro r hr; simp [iRows] at hr; subst hr; exact ⟨fun x hx => (by cases hx), rfl⟩
    | succ k ih =>
      intro r hr
      obtain ⟨r0, h0, h1⟩ := List.mem_flatMap.mp (show r ∈ iExt bs (iRows bs k) from hr)
      obtain ⟨b, hb', rfl⟩ := List.mem_map.mp h1
      obtain ⟨i1, i2⟩ := ih r0 h0
      refine ⟨fun x hx => ?_, by simp [i2]⟩
      rcases List.mem_append.mp hx with h | h
      · exact i1 x h
      · rw [List.mem_singleton] at h; rw [h]; exact hb b (List.mem_filter.mp hb').1
  refine ⟨by simp, by simp, by rw [List.length_map]; exact smallR_nat (by omega), ?_⟩
  have e0 : rangeD 0 ((bs.map (sB nm)).length : Int).toNat = (List.range bs.length).map fun i => .d (.int ((0 : Int) + (i : Nat))) := by
    rw [List.length_map]; rfl
  rw [e0]
  refine dLoop_list (fun i : Nat => .d (.int ((0 : Int) + (i : Nat)))) (List.range bs.length) (fun done s => ∃ (o : OD) (x y z : Option DS) (b : Bool), (o = .lst ((iRows bs done.length).map (tN nm))) ∧ s = ⟨[some (.sh (.d (tN nm bs))), some (if b = true then .own o else .sh (.d o.data)), x, y, z, none], c⟩) ?_ ?_ _ ⟨_, none, none, none, true, rfl, rfl⟩
  · rintro done i rest s R e ⟨o, x, y, z, b, rfl, rfl⟩ hR
    have hdl : done.length + 1 ≤ bs.length := by
      have := congrArg List.length e
      simp at this; omega
    have rl := rowl done.length (by omega)
    have inner : ∀ (w : Option DS), dLoop (dGName 4) (dDrop (dM 3 (cCons (dOfF (fLc (iSeq (dVar 0)) (dGName 5) (dTest (dOp gNotIn (dVar 5) (dVar 4))) (dOp gAdd (dVar 4) (dTup (cCons (dVar 5) cNil))) [5])) cNil) mExtend))
        { nx := dSet 1 (dVar 3) { nx := R, ct := R, bk := dRet (dVar 1) { nx := fun s => K (.d .none) s.c, rt := fun x s => K x s.c }, rt := fun x s => K x s.c }, rt := fun x s => K x s.c, bk := dRet (dVar 1) { nx := fun s => K (.d .none) s.c, rt := fun x s => K x s.c }, ct := R } ((iRows bs done.length).map fun r => .d (tN nm r))
        ⟨[some (.sh (.d (tN nm bs))), some (.sh (.d (.list ((iRows bs done.length).map (tN nm))))), some (.sh (.d (.int ((0 : Int) + (i : Nat))))), some (.own (.lst [])), w, none], c⟩ := by
      intro w
      refine dLoop_list (fun r => .d (tN nm r)) (iRows bs done.length) (fun dn s => ∃ w : Option DS, s = ⟨[some (.sh (.d (tN nm bs))), some (.sh (.d (.list ((iRows bs done.length).map (tN nm))))), some (.sh (.d (.int ((0 : Int) + (i : Nat))))), some (.own (.lst ((iExt bs dn).map (tN nm)))), w, none], c⟩) ?_ ?_ _ ⟨w, rfl⟩
      · rintro dn r rs s R2 e2 ⟨w, rfl⟩ hR2
        have hrm : r ∈ iRows bs done.length := by rw [e2]; simp
        obtain ⟨hr1, hr2⟩ := rlt _ r hrm
        have hdn : dn.length ≤ (iRows bs done.length).length := by rw [e2]; simp
        have hel := extl dn
        refine ⟨⟨_, rfl⟩, by simp; omega, lc_mm ?_⟩
        refine lc_filter (fun b => .d (sB nm b)) (fun b => decide (b ∉ r)) (fun b => tN nm (r ++ [b])) bs _ (fun b Kt Kf hb' h1 h2 => ⟨okD_sB, okAll_sB, ?_⟩) ?_
        · conv => whnf
          rw [hn.mem hr1 (hb b hb')]
          by_cases h : b ∈ r
          · exact ifF (by rw [decide_eq_true h]; rfl) (h2 (decide_eq_false fun z => z h))
          · refine ifT (by rw [decide_eq_false h]; rfl) ⟨by simp, by simp; omega, ktEq (h1 (decide_eq_true h)) ?_⟩
            unfold tN; rw [List.map_append]; rfl
        · have hfl := List.length_filter_le (fun b => decide (b ∉ r)) bs
          refine ⟨_, rfl, by rw [List.length_map, List.length_map]; omega, hR2 _ ⟨some (.sh (.d (tN nm r))), ?_⟩⟩
          have e3 : (iExt bs (dn ++ [r])).map (tN nm) = (iExt bs dn).map (tN nm) ++ (bs.filter fun b => decide (b ∉ r)).map fun b => tN nm (r ++ [b]) := by
            unfold iExt
            rw [List.flatMap_append, List.flatMap_singleton, List.map_append, List.map_map]
            rfl
          rw [e3]
          rfl
      · rintro s ⟨w, rfl⟩
        refine hR _ ⟨.lst ((iExt bs (iRows bs done.length)).map (tN nm)), some (.sh (.d (.int ((0 : Int) + (i : Nat))))), some (.sh (.d (.list ((iExt bs (iRows bs done.length)).map (tN nm))))), w, false, ?_, rfl⟩
        rw [List.length_append]; rfl
    cases b with
    | true => exact ⟨by simp, dl_map (inner _)⟩
    | false => exact ⟨by simp, dl_map (inner _)⟩
  · rintro s ⟨o, x, y, z, b, rfl, rfl⟩
    have q' : K (.d (.list ((iRows bs (List.range bs.length).length).map (tN nm)))) c := by rw [List.length_range]; exact q
    cases b with
    | true => exact q'
    | false => exact q'
end DL
/-! L9: charts, the rest. -/
namespace DL
open PySem PySem.Spec PyProof.Rows L2
variable [TheW]
theorem l_day_between : Law t_day_between u_day_between N_day_between := by
  rintro xs c K ⟨nm, n, size, reach, l, other, rs, hp, ht, hrs, rfl, q⟩
  obtain ⟨hn, hm, hl, ho, hone, hlne, hll, hok⟩ := hp
  refine ⟨by simp, nm, n, size, reach, l, other, hn, hm, hl, ho, hone, hlne, hll, hok, rfl, fun rs' hrs' => ?_, fun h => by rw [ht] at h; cases h⟩
  rw [ht] at hrs'
  cases hrs'
  refine ⟨_, rfl, dl_map ?_⟩
  refine dLoop_list (fun r => .d (raceD nm r)) rs (fun done s => ∃ x y z : Option DS, s = ⟨[some (.sh (.d (Mt size reach))), some (.sh (.d (tN nm l))), some (.sh (.d (tN nm other))), some (.own (.lst ((iDay nm done).map (shD nm)))), x, y, z, none], c⟩) ?_ ?_ _ ⟨none, none, none, rfl⟩
  · rintro done r rest s R e ⟨x, y, z, rfl⟩ hR
    have hr : r ∈ rs := by rw [e]; simp
    obtain ⟨b1, b2⟩ := hrs.2 r hr
    have hdn : done.length ≤ rs.length := by rw [e]; simp
    have b0 := hrs.1
    have l1 : (srtD (r.drops.map (sB nm))).length = r.drops.length := by rw [srt_len, List.length_map]
    refine ⟨rfl, rfl, ⟨_, rfl⟩, by rw [List.length_map, l1]; omega, ?_⟩
    have e1 : srtD (r.drops.map (sB nm)) = (srtS nm r.drops).map (sB nm) := srtS_eq nm r.drops
    have e2 : srtD (r.ts.map (tpD nm)) = (srtP nm r.ts).map (tpD nm) := srtP_eq nm r.ts
    rw [e1]
    refine lc_mm (lc_map (fun i => .d (sB nm i)) (fun i => evD nm (.d i)) (srtS nm r.drops) _ (fun i Kt Kf hi hk => ⟨by simp, hk⟩) ?_)
    have l2 : (srtS nm r.drops).length = r.drops.length := (List.mergeSort_perm _ _).length_eq
    have l3 : (srtP nm r.ts).length = r.ts.length := (List.mergeSort_perm _ _).length_eq
    conv => whnf
    rw [e2]
    have e3 : (srtP nm r.ts).map (tpD nm) ++ (srtS nm r.drops).map (fun i => evD nm (.d i)) = ((srtP nm r.ts).map (fun p => Ev.t p.1 p.2) ++ (srtS nm r.drops).map Ev.d).map (evD nm) := by
      rw [List.map_append, List.map_map, List.map_map]; rfl
    refine ⟨by simp; omega, ?_⟩
    conv => whnf
    rw [e3]
    refine ⟨srtOk_evs nm _ (by simp; omega), _, rfl, by unfold iDay; rw [List.length_map, List.length_map]; omega, hR _ ⟨some (.sh (.d (.tuple ((srtP nm r.ts).map (tpD nm))))), some (.sh (.d (.tuple ((srtS nm r.drops).map (sB nm))))), some (.sh (.d (.tuple (srtD (r.free.map (sB nm)))))), ?_⟩⟩
    rw [srtE_eq]
    unfold iDay
    rw [List.map_append, List.map_append]
    rfl
  · rintro s ⟨x, y, z, rfl⟩
    exact q
theorem l_chart_of : Law t_chart_of u_chart_of N_chart_of := by
  rintro xs c K ⟨nm, n, size, reach, l, other, rs, hp, ht, hrs, rfl, q⟩
  refine ⟨_, rfl, by simp [zipD]; omega, ?_⟩
  have e1 : zipD [tN nm l, tN nm other] (cutL [tN nm l, tN nm other] (some 1) none) = [.p [tN nm l, tN nm other]] := by rw [cut_1]; rfl
  rw [e1]
  exact ⟨rfl, rfl, nm, n, size, reach, l, other, rs, hp, ht, hrs, rfl, by simp, q⟩
theorem l_chart_to_end : Law t_chart_to_end u_chart_to_end N_chart_to_end := by
  rintro xs c K ⟨nm, n, size, reach, l, other, rs, d0, hp, ht, hrs, rfl, q⟩
  obtain ⟨o1, o2⟩ := srtOk_le1 (nm := nm) (l := [other]) (by simp) fun r hr => by
    rw [List.mem_singleton] at hr; rw [hr]; exact hp.2.2.2.2.1
  have e1 : atI (srtD [tN nm other]) 0 = some (tN nm other) := by
    have : srtD [tN nm other] = [tN nm other] := o2
    rw [this]; rfl
  exact ⟨trivial, _, rfl, o1, _, e1, nm, n, d0, l, other, hp.1, hp.2.2.2.1, rfl, nm, n, size, reach, l, other, rs, hp, ht, hrs, rfl, q⟩
theorem l_has_first_rows : Law t_has_first_rows u_has_first_rows N_has_first_rows := by
  rintro xs c K ⟨nm, n, bs, t0, t1, ban, R, hn, hb, hbl, ht0, ht0l, hban, hR0, rfl, q⟩
  have rlt : ∀ k, ∀ r ∈ iRows bs k, Lt n r ∧ r.length = k := fun k => by
    induction k with
    | zero => intro r hr; simp [iRows] at hr; subst hr; exact ⟨fun x hx => (by cases hx), rfl⟩
    | succ k ih =>
      intro r hr
      obtain ⟨r0, h0, h1⟩ := List.mem_flatMap.mp (show r ∈ iExt bs (iRows bs k) from hr)
      obtain ⟨b, hb', rfl⟩ := List.mem_map.mp h1
      obtain ⟨i1, i2⟩ := ih r0 h0
      refine ⟨fun x hx => ?_, by simp [i2]⟩
      rcases List.mem_append.mp hx with h | h
      · exact i1 x h
      · rw [List.mem_singleton] at h; rw [h]; exact hb b (List.mem_filter.mp hb').1
  have memT : ∀ {R : List (List Nat)} {r : List Nat}, (∀ x ∈ R, Lt n x) → Lt n r → ((R.map (tN nm)).any fun z => PyData.eqv z (tN nm r)) = decide (r ∈ R) := by
    intro R
    induction R with
    | nil => intro r _ _; simp
    | cons a t ih =>
      intro r h1 h2
      rw [List.map_cons, List.any_cons, hn.eqT (h1 a (by simp)) h2, ih (fun x hx => h1 x (by simp [hx])) h2]
      by_cases h : a = r
      · simp [h]
      · have : ¬ r = a := fun z => h z.symm
        simp [h, this]
  refine ⟨rfl, rfl, nm, n, bs, hn, hb, hbl, rfl, dl_map ?_⟩
  cases hf : iFirst t0 ban R (iRows bs bs.length) with
  | true =>
    rw [hf] at q
    refine dLoop_list (fun r => .d (tN nm r)) (iRows bs bs.length) (fun done s => ∃ x : Option DS, s = ⟨[some (.sh (.d (.tuple [tN nm bs, .tuple [tN nm t0, t1]]))), some (.sh (.d (banD nm ban))), some (.sh (.d (.tuple (R.map (tN nm))))), some (.sh (.d (tN nm bs))), some (.sh (.d (.tuple [tN nm t0, t1]))), x], c⟩) ?_ ?_ _ ⟨none, rfl⟩
    · rintro done r rest s R2 e ⟨x, rfl⟩ hR2
      have hrm : r ∈ iRows bs bs.length := by rw [e]; simp
      obtain ⟨h1, h2⟩ := rlt _ r hrm
      have hh := List.all_eq_true.mp hf r hrm
      refine ⟨_, rfl, nm, n, t0, r, hn, ht0, h1, by omega, rfl, ifB (fun c1 => ⟨nm, n, ban, r, 0, hn, h1, by rw [h2]; exact hban, rfl, ifB (fun c2 => ⟨by simp, by rw [List.all_map]; exact List.all_eq_true.mpr fun _ _ => okD_tN, ?_⟩) fun c2 => ?_⟩) fun c1 => ?_⟩
      · conv => whnf
        rw [memT hR0 h1]
        rw [c1, c2] at hh
        refine ifF ?_ (hR2 _ ⟨some (.sh (.d (tN nm r))), rfl⟩)
        simp at hh
        simp [hh]
      · exact hR2 _ ⟨some (.sh (.d (tN nm r))), rfl⟩
      · exact hR2 _ ⟨some (.sh (.d (tN nm r))), rfl⟩
    · rintro s ⟨x, rfl⟩
      exact q
  | false =>
    rw [hf] at q
    refine dLoop_list (fun r => .d (tN nm r)) (iRows bs bs.length) (fun done s => (iFirst t0 ban R done = true) ∧ ∃ x : Option DS, s = ⟨[some (.sh (.d (.tuple [tN nm bs, .tuple [tN nm t0, t1]]))), some (.sh (.d (banD nm ban))), some (.sh (.d (.tuple (R.map (tN nm))))), some (.sh (.d (tN nm bs))), some (.sh (.d (.tuple [tN nm t0, t1]))), x], c⟩) ?_ ?_ _ ⟨rfl, none, rfl⟩
    · rintro done r rest s R2 e ⟨hd, x, rfl⟩ hR2
      have hrm : r ∈ iRows bs bs.length := by rw [e]; simp
      obtain ⟨h1, h2⟩ := rlt _ r hrm
      have go : (iFits t0 r && iBanRow ban 0 r && decide (r ∉ R)) = false → R2 ⟨[some (.sh (.d (.tuple [tN nm bs, .tuple [tN nm t0, t1]]))), some (.sh (.d (banD nm ban))), some (.sh (.d (.tuple (R.map (tN nm))))), some (.sh (.d (tN nm bs))), some (.sh (.d (.tuple [tN nm t0, t1]))), some (.sh (.d (tN nm r)))], c⟩ := fun h => by
        refine hR2 _ ⟨?_, some (.sh (.d (tN nm r))), rfl⟩
        unfold iFirst at hd ⊢
        rw [List.all_append, hd, List.all_cons, h]; rfl
      refine ⟨_, rfl, nm, n, t0, r, hn, ht0, h1, by omega, rfl, ifB (fun c1 => ⟨nm, n, ban, r, 0, hn, h1, by rw [h2]; exact hban, rfl, ifB (fun c2 => ⟨by simp, by rw [List.all_map]; exact List.all_eq_true.mpr fun _ _ => okD_tN, ?_⟩) fun c2 => ?_⟩) fun c1 => ?_⟩
      · conv => whnf
        rw [memT hR0 h1]
        by_cases h : r ∈ R
        · exact ifF (by rw [decide_eq_true h]; rfl) (go (by simp [h]))
        · exact ifT (by rw [decide_eq_false h]; rfl) q
      · exact go (by rw [c2]; simp)
      · exact go (by rw [c1]; simp)
    · rintro s ⟨hd, x, rfl⟩
      rw [hd] at hf; cases hf
end DL
/-! L10: charts looked at. -/
namespace DL
open PySem PySem.Spec PyProof.Rows L2
variable [TheW]
theorem ltP_touch {nm : Nat → Str} {n : Nat} {day : List (List Ev)} (h : ∀ evs ∈ day, ShOk nm n evs) : LtP n (day.flatMap iTouches) := by
  intro p hp
  obtain ⟨evs, he, h1⟩ := List.mem_flatMap.mp hp
  have := (h evs he).lt _ (mem_touch h1)
  exact ⟨this _ (by simp [Ev.boats]), this _ (by simp [Ev.boats])⟩
theorem l_goes_so : Law t_goes_so u_goes_so N_goes_so := by
  rintro xs c K ⟨nm, n, size, reach, t0, t1, ban, r, day, P, rfl, q⟩
  have hd := P.hdl2
  unfold iGoes at q
  refine ⟨rfl, rfl, _, rfl, nm, n, t0, r, P.hnm, P.ht0, P.hr, by have := P.ht0l; omega, rfl, ?_⟩
  conv => whnf
  by_cases c1 : iFits t0 r = true
  rotate_left
  · rw [Bool.eq_false_iff.mpr c1] at q ⊢
    exact ifT rfl q
  rw [c1] at q ⊢

  conv => whnf
  refine ⟨nm, n, ban, r, 0, P.hnm, P.hr, P.hban, rfl, ?_⟩
  conv => whnf
  by_cases c2 : iBanRow ban 0 r = true
  rotate_left
  · rw [Bool.eq_false_iff.mpr c2] at q ⊢
    exact ifT rfl q
  rw [c2] at q ⊢

  conv => whnf
  refine ⟨nm, day, by omega, P.hshl, rfl, nm, n, r.length, ban, day.flatMap iTouches, 0, P.hnm, ltP_touch P.hsh, P.hban, .inr rfl, ?_⟩
  conv => whnf
  by_cases c3 : iBanDay ban 0 (day.flatMap iTouches) = true
  rotate_left
  · rw [Bool.eq_false_iff.mpr c3] at q ⊢
    (conv => whnf); exact q
  rw [c3] at q ⊢

  conv => whnf
  refine ⟨nm, n, size, reach, r, day, P.hnm, P.hmt, P.hrne, by have := P.hrl; omega, P.hdl, P.hdok, rfl, _, rfl, okD_str, okD_str, ?_⟩
  refine ifF (by decide +kernel) ⟨_, rfl, _, rfl, nm, n, t1, iDayGo size day (iGoing size r.length) r, P.hnm, P.ht1, P.hr2, by have := P.ht1l; omega, rfl, ?_⟩
  conv => whnf
  have hb2 : BanOk n (iDayGo size day (iGoing size r.length) r).length ban := by rw [P.hr2l]; exact P.hban
  by_cases c4 : iFits t1 (iDayGo size day (iGoing size r.length) r) = true
  rotate_left
  · rw [Bool.eq_false_iff.mpr c4] at q ⊢
    exact q
  rw [c4] at q ⊢
  exact ⟨nm, n, ban, iDayGo size day (iGoing size r.length) r, 1, P.hnm, P.hr2, hb2, rfl, q⟩
theorem l_shows_chart : Law t_shows_chart u_shows_chart N_shows_chart := by
  rintro xs c K ⟨nm, n, size, reach, t0, t1, ban, r, day, bs, P, hf, rfl, q⟩
  have hd := P.hdl2
  refine ⟨rfl, rfl, _, _, rfl, rfl, ?_⟩
  conv => whnf
  refine ⟨okD_int, okD_int, ifF (by simp [PyData.eqv]) ?_⟩
  conv => whnf
  refine ⟨_, rfl, nm, n, bs, r, P.hnm, hf, rfl, ?_⟩
  conv => whnf
  refine ⟨rfl, rfl, _, _, rfl, rfl, ?_⟩
  conv => whnf
  refine ⟨trivial, okD_int, okD_int, ifF (by simp [PyData.eqv]) ?_⟩
  conv => whnf
  refine ⟨by simp, nm, n, day, P.hnm, P.hsh, hd.1, hd.2, rfl, [true], rfl, ?_⟩
  conv => whnf
  exact ⟨nm, n, size, reach, t0, t1, ban, r, day, P, rfl, q⟩
end DL
/-! DE4: defs of the text: their terms of rules, printed by gen.py. -/
namespace DL
open PySem PySem.Spec PyProof.Rows L2
variable [TheW]
abbrev st_arc_sets : Stmt := top 45
abbrev sc_arc_sets : Scope := defScope st_arc_sets
abbrev N_arc_sets : List Str := ["first", "last", "reach", "found", "other", "beyond", "inner", "some"]
theorem fs_arc_sets : FnScope N_arc_sets ["first", "last", "reach"] sc_arc_sets := ⟨rfl, rfl, rfl, by decide +kernel, rfl, by decide +kernel, by decide +kernel⟩
def u_arc_sets (m0 : Nat) : DTS := (dSeq (dIf (dTest (dOp gLe (dVar 1) (dVar 0))) (dRet (dOfF (fLst (cCons (dTup cNil) cNil)))) dNext)
    (dSeq (dSet 3 (dCallP (t_arc m0) (cCons (dOp gAdd (dVar 0) (dC (.int 1))) (cCons (dVar 1) (cCons (dVar 2) cNil)))))
    (dSeq (dFor (iR2 (cCons (dOp gAdd (dVar 0) (dC (.int 1))) (cCons (dOp gAdd (dCB gMin2 (dCons (dVar 1) (dCons (dOp gAdd (dOp gAdd (dVar 0) (dC (.int 1))) (dVar 2)) dNil))) (dC (.int 1))) cNil))) (dGName 4) (dSeq (dSet 5 (dCallP (t_arc m0) (cCons (dOp gAdd (dVar 4) (dC (.int 1))) (cCons (dVar 1) (cCons (dVar 2) cNil)))))
    (dFor (iSeq (dCallP (t_arc m0) (cCons (dOp gAdd (dVar 0) (dC (.int 1))) (cCons (dOp gSub (dVar 4) (dC (.int 1))) (cCons (dVar 2) cNil))))) (dGName 6) (dSet 3 (dOp gAdd (dVar 3) (dOfF (fLc (iSeq (dVar 5)) (dGName 7) dYes (dOp gAdd (dOp gAdd (dTup (cCons (dTup (cCons (dVar 0) (cCons (dVar 4) cNil))) cNil)) (dVar 6)) (dVar 7)) [7])))))))
    (dRet (dVar 3)))))
theorem d_arc_sets {m0 k : Nat} {K : PySem.W.Frag} {mg : Str → Option Value} {base : Heap} {f : Addr} {cdv : Value} {A : Around} {outer : List Env} {s : Shared} {H : Hp} {E : XK} {W : Wd} (M : Mg mg) (Farc_sets : DFn TheW.P TheW.w K mg base k "arc_sets" (spP (t_arc m0))) (hr : Room k (cx N_arc_sets "arc_sets" sc_arc_sets K mg base f cdv A outer s H E).A) : DSs (cx N_arc_sets "arc_sets" sc_arc_sets K mg base f cdv A outer s H E) W (defBody st_arc_sets) (u_arc_sets m0) := by
  have nd := fs_arc_sets.nd
  exact (dss_cons (ds_if (dt_cmp od_le (dv 1) (dv 0) (nomark _)) (dss_one (ds_ret (de_ofF (df_lst (da_of (ac_cons (de_tup (da_of ac_nil)) ac_nil)))))) dss_nil)
    (dss_cons (ds_set (i := 3) nd rfl (Or.inl rfl) (de_call Farc_sets hr (Nat.le_refl _) rfl (ac_cons (de_op od_add (dv 0) de_int) (ac_cons (dv 1) (ac_cons (dv 2) ac_nil)))))
    (dss_cons (ds_for PassesOwn.never rfl (di_range2 rfl M.range (ac_cons (de_op od_add (dv 0) de_int) (ac_cons (de_op od_add (de_callB (cr_min2 rfl) rfl M.min (by decide +kernel) (da_cons (dv 1) (da_cons (de_op od_add (de_op od_add (dv 0) de_int) (dv 2)) da_nil))) de_int) ac_nil))) (dg_name (i := 4) nd rfl (Or.inr rfl)) (dss_cons (ds_set (i := 5) nd rfl (Or.inl rfl) (de_call Farc_sets hr (Nat.le_refl _) rfl (ac_cons (de_op od_add (dv 4) de_int) (ac_cons (dv 1) (ac_cons (dv 2) ac_nil)))))
    (dss_one (ds_for PassesOwn.never rfl (di_seq (de_call Farc_sets hr (Nat.le_refl _) rfl (ac_cons (de_op od_add (dv 0) de_int) (ac_cons (de_op od_sub (dv 4) de_int) (ac_cons (dv 2) ac_nil))))) (dg_name (i := 6) nd rfl (Or.inr rfl)) (dss_one (ds_set (i := 3) nd rfl (Or.inl rfl) (de_op od_add (dv 3) (de_ofF (df_lc (own := [("some", 7)]) rfl nd (di_seq (dv 5)) (blkOk_by (N := N_arc_sets) (sc := sc_arc_sets) (by decide +kernel)) (tg_name (by decide)) (fun _ _ _ _ _ => (pg_name (i := 7) nd rfl (Or.inl rfl))) (fun _ _ _ _ _ _ => dts_nil) (fun _ _ _ _ _ _ => (de_op od_add (de_op od_add (de_tup (da_of (ac_cons (de_tup (da_of (ac_cons (dv 0) (ac_cons (dv 4) ac_nil)))) ac_nil))) (dv 6)) (dv 7))))))))))))
    (dss_one (ds_ret (dv 3))))))

end DL
/-! L11: arc_sets. -/
namespace DL
open PySem PySem.Spec PyProof.Rows L2
variable [TheW]
theorem arcs_small {reach first last m : Nat} (h : ArcOk reach first last m) : (iArcs reach m first last).length ≤ 30 ∧ ∀ a ∈ iArcs reach m first last, a.length ≤ 3 := by
  obtain ⟨h1, h2, h3, h4, h5⟩ := h
  have key : ((List.range 8).all fun reach => (List.range 7).all fun first => (List.range 5).all fun last => (List.range 7).all fun m => !decide (last + 1 ≤ first + m) || (decide ((iArcs reach m first last).length ≤ 30) && (iArcs reach m first last).all fun a => decide (a.length ≤ 3))) = true := by decide +kernel
  have k1 := List.all_eq_true.mp key reach (List.mem_range.mpr (by omega))
  have k2 := List.all_eq_true.mp k1 first (List.mem_range.mpr (by omega))
  have k3 := List.all_eq_true.mp k2 last (List.mem_range.mpr (by omega))
  have k4 := List.all_eq_true.mp k3 m (List.mem_range.mpr (by omega))
  rw [decide_eq_true h4, Bool.not_true, Bool.false_or, Bool.and_eq_true] at k4
  exact ⟨of_decide_eq_true k4.1, fun a ha => of_decide_eq_true (List.all_eq_true.mp k4.2 a ha)⟩
theorem rangeD_eq (i : Nat) (n : Nat) : rangeD (i : Int) n = (List.range n).map fun k => .d (.int ((i + k : Nat) : Int)) := by
  unfold rangeD
  refine List.map_congr_left fun k _ => ?_
  push_cast
  rfl
/-- what the two loops have found -/
def iFound (reach m first last : Nat) (is : List Nat) : List (List (Nat × Nat)) := iArcs reach m (first + 1) last ++ is.flatMap fun i => (iArcs reach m (first + 1) (first + i)).flatMap fun inner => (iArcs reach m (first + i + 2) last).map fun s => (first, first + 1 + i) :: inner ++ s
theorem l_arc_sets (m0 : Nat) : Law (t_arc (m0 + 1)) (u_arc_sets m0) N_arc_sets := by
  rintro xs c K ⟨m, reach, first, last, hm, hok, rfl, q⟩
  have hall := arcs_small hok
  have ⟨h1, h2, h3, h4, h5⟩ := hok
  by_cases hl : last ≤ first
  · refine ⟨trivial, ?_⟩
    conv => whnf
    refine ifT (decide_eq_true (by omega)) ?_
    have e : iArcs reach m first last = [[]] := by
      cases m with
      | zero => rfl
      | succ m => unfold iArcs; rw [if_pos hl]
    rw [e] at q
    conv => whnf
    exact ⟨by simp, by simp, q⟩
  · obtain ⟨m, rfl⟩ : ∃ m', m = m' + 1 := ⟨m - 1, by omega⟩
    have e : iArcs reach (m + 1) first last = iFound reach m first last (List.range (min last (first + 1 + reach) - first)) := by
      unfold iFound
      rw [iArcs, if_neg hl]
    rw [e] at q hall
    refine ⟨trivial, ?_⟩
    conv => whnf
    refine ifF (decide_eq_false (by omega)) ⟨m, reach, first + 1, last, by omega, ⟨h1, by omega, h3, by omega, by omega⟩, ?_, ?_⟩
    · simp
    conv => whnf
    have e2 : ((if (first : Int) + 1 + (reach : Int) < (last : Int) then (first : Int) + 1 + (reach : Int) else (last : Int)) + 1 - ((first : Int) + 1)).toNat = min last (first + 1 + reach) - first := by
      split <;> omega
    have e3 : rangeD ((first : Int) + 1) ((if (first : Int) + 1 + (reach : Int) < (last : Int) then (first : Int) + 1 + (reach : Int) else (last : Int)) + 1 - ((first : Int) + 1)).toNat = (List.range (min last (first + 1 + reach) - first)).map fun i => .d (.int ((first + 1 + i : Nat) : Int)) := by
      rw [e2]; exact rangeD_eq (first + 1) _
    refine ⟨⟨by omega, by omega⟩, ⟨by split <;> omega, by split <;> omega⟩, ?_⟩
    rw [e3]
    have hsub : ∀ is : List Nat, is <+: List.range (min last (first + 1 + reach) - first) → (iFound reach m first last is).length ≤ 30 := by
      intro is ⟨t, ht⟩
      have := hall.1
      unfold iFound at this ⊢
      rw [← ht, List.flatMap_append, ← List.append_assoc, List.length_append] at this
      omega
    refine dLoop_list (fun i : Nat => .d (.int ((first + 1 + i : Nat) : Int))) _ (fun done s => ∃ (x y z : Option DS), s = ⟨[some (.sh (.d (.int first))), some (.sh (.d (.int last))), some (.sh (.d (.int reach))), some (.sh (.d (.list ((iFound reach m first last done).map arcD)))), x, y, z, none], c⟩) ?_ ?_ _ ⟨none, none, none, ?_⟩
    · rintro done i rest s R ee ⟨x, y, z, rfl⟩ hR
      have hi : i < min last (first + 1 + reach) - first := by
        refine List.mem_range.mp ?_
        rw [ee]; simp
      have okb : ArcOk reach (first + i + 2) last m := ⟨h1, by omega, h3, by omega, by omega⟩
      have oki : ArcOk reach (first + 1) (first + i) m := ⟨h1, by omega, by omega, by omega, by omega⟩
      have hb := arcs_small okb
      have hin := arcs_small oki
      have tot := hsub (done ++ [i]) ⟨rest, by rw [ee]; simp⟩
      refine ⟨m, reach, first + i + 2, last, by omega, okb, ?_, ?_⟩
      · conv => lhs; whnf
        simp; omega
      conv => whnf
      refine ⟨trivial, m, reach, first + 1, first + i, by omega, oki, ?_, ?_⟩
      · simp; omega
      refine dl_map ?_
      have part : ∀ dn : List (List (Nat × Nat)), dn <+: iArcs reach m (first + 1) (first + i) → (iFound reach m first last done ++ dn.flatMap fun inner => (iArcs reach m (first + i + 2) last).map fun s => (first, first + 1 + i) :: inner ++ s).length ≤ 30 := by
        intro dn ⟨t, ht⟩
        unfold iFound at tot ⊢
        rw [List.flatMap_append, List.flatMap_singleton, ← ht, List.flatMap_append, ← List.append_assoc, ← List.append_assoc, List.length_append] at tot
        omega
      refine dLoop_list (fun inner => .d (arcD inner)) _ (fun dn s => ∃ z : Option DS, s = ⟨[some (.sh (.d (.int first))), some (.sh (.d (.int last))), some (.sh (.d (.int reach))), some (.sh (.d (.list ((iFound reach m first last done ++ dn.flatMap fun inner => (iArcs reach m (first + i + 2) last).map fun s => (first, first + 1 + i) :: inner ++ s).map arcD)))), some (.sh (.d (.int ((first + 1 + i : Nat) : Int)))), some (.sh (.d (.list ((iArcs reach m (first + i + 2) last).map arcD)))), z, none], c⟩) ?_ ?_ _ ⟨z, ?_⟩
      · rintro dn inner rs s R2 e4 ⟨z, rfl⟩ hR2
        have hil := hin.2 inner (by rw [e4]; simp)
        have hp := part (dn ++ [inner]) ⟨rs, by rw [e4]; simp⟩
        refine ⟨by simp; omega, lc_mm ?_⟩
        refine lc_map (fun a => .d (arcD a)) (fun s => arcD ((first, first + 1 + i) :: inner ++ s)) _ _ (fun a Kt Kf ha hk => ?_) ?_
        · have hal := hb.2 a ha
          refine ⟨by simp, by simp, by simp; omega, by simp; omega, ktEq hk ?_⟩
          unfold arcD
          rw [List.map_append]
          rfl
        · rw [List.flatMap_append, List.flatMap_singleton, ← List.append_assoc] at hp
          refine ⟨?_, hR2 _ ⟨some (.sh (.d (arcD inner))), ?_⟩⟩
          · simp only [List.length_append, List.length_map] at hp ⊢
            omega
          · rw [List.flatMap_append, List.flatMap_singleton, ← List.append_assoc, List.map_append (f := arcD) (l₂ := (iArcs reach m (first + i + 2) last).map _), List.map_map (g := arcD)]
            rfl
      · rintro s ⟨z, rfl⟩
        refine hR _ ⟨some (.sh (.d (.int ((first + 1 + i : Nat) : Int)))), some (.sh (.d (.list ((iArcs reach m (first + i + 2) last).map arcD)))), z, ?_⟩
        unfold iFound
        rw [List.flatMap_append, List.flatMap_singleton, ← List.append_assoc]
      · simp only [List.flatMap_nil, List.append_nil]
        rfl
    · rintro s ⟨x, y, z, rfl⟩
      exact q
    · simp [iFound]
      rfl
/-- arc_sets, level for level -/
theorem arc_levels {K : PySem.W.Frag} {mg : Str → Option Value} {base : Heap} {f : Addr} {fd : FuncData} (M : Mg mg) {params : Arguments} (D : FunD K "arc_sets" "arc_sets" params (defBody st_arc_sets) sc_arc_sets [] [] f fd) (mf : mg "arc_sets" = some (.ref f)) (b : Binds K fd ["first", "last", "reach"] []) :
    ∀ m, DFn TheW.P TheW.w K mg base m "arc_sets" (spP (t_arc m))
  | 0 => ⟨f, fd, _, ⟨fun _ _ _ _ ⟨_, _, _, _, _, _, _, _, ⟨_, _, _, _, h, _⟩, _⟩ => absurd h (Nat.not_lt_zero _), fun _ _ _ _ _ _ _ _ _ _ _ _ _ ⟨_, _, _, _, _, _, _, _, ⟨_, _, _, _, h, _⟩, _⟩ => absurd h (Nat.not_lt_zero _)⟩, mf, D.kp, b⟩
  | m + 1 => ⟨f, fd, _, fn_dataP D fs_arc_sets (fun _ _ _ ⟨_, _, _, _, _, _, e, _⟩ => by rw [e]; rfl) (fun _ _ _ _ _ _ _ hr => d_arc_sets M (arc_levels M D mf b m) hr) (l_arc_sets m), mf, D.kp, b⟩
end DL
/-! LW1: the ways object: what stands at it, how it is read, how its methods are called. -/
namespace DL
open PySem PySem.Spec PyProof.Rows L2
variable [TheW]
/-- an own ways object: its address, its class, its dict, its dict of known rows, its list of arcs; the names; the meeting; the one row it is asked for -/
structure WayP where
  wa : Addr
  C : Addr
  dx : Addr
  kd : Addr
  la : Addr
  nm : Nat → Str
  size : Nat
  reach : Nat
  r0 : List Nat
  c0 : Nat
def rowKey (nm : Nat → Str) (r : List Nat) : List Key := r.map fun i => .inr (nm i)
theorem rowKey_eq (nm : Nat → Str) (r : List Nat) : keyD (rowKey nm r) = tN nm r := by
  show PyData.tuple ((r.map fun i => (.inr (nm i) : Key)).map keyD1) = _
  rw [List.map_map]
  rfl
theorem toKs_row (nm : Nat → Str) (r : List Nat) : toKs (r.map (sB nm)) = some (rowKey nm r) := by
  have h := toKs_strs (r.map nm)
  rw [List.map_map, List.map_map] at h
  exact h
def iWays (size reach N : Nat) : List (List (List (Nat × Nat))) := (iGoing size N).map fun k => iArcs reach 6 (k * size) (iLast size N k)
def waysD (l : List (List (List (Nat × Nat)))) : PyData := .list (l.map fun a => .list (a.map arcD))
/-- a dict of rows and of what met on the way there -/
def putM (l : List (List Nat × List (Nat × Nat))) (r : List Nat) (m : List (Nat × Nat)) : List (List Nat × List (Nat × Nat)) :=
  if (l.any fun p => decide (p.1 = r)) = true then l.map (fun p => if p.1 = r then (p.1, m) else p) else l ++ [(r, m)]
def iLater (some : List (List (Nat × Nat))) (ways : List (List Nat × List (Nat × Nat))) : List (List Nat × List (Nat × Nat)) :=
  ways.foldl (fun later p => some.foldl (fun l arcs => putM l (iTouched p.1 arcs) (p.2 ++ iMetOf p.1 arcs)) later) []
def iGone (ws : List (List (List (Nat × Nat)))) (r : List Nat) : List (List Nat × List (Nat × Nat)) := ws.foldl (fun ways some => iLater some ways) [(r, [])]
def goneD (nm : Nat → Str) (g : List (List Nat × List (Nat × Nat))) : PyData := .dict (g.map fun p => (tN nm p.1, metD nm p.2))
namespace WayP
def ws (p : WayP) : List (List (List (Nat × Nat))) := iWays p.size p.reach p.r0.length
def gone (p : WayP) : List (List Nat × List (Nat × Nat)) := iGone p.ws p.r0
def key (p : WayP) : List Key := rowKey p.nm p.r0
def F (p : WayP) : Zs := fun a => a = p.wa ∨ a = p.kd
def fs (p : WayP) : List (Str × V) := [("arcs", .ref p.la), ("known", .ref p.kd)]
def G (p : WayP) : Nat → Zs → Hp → Prop := fun c Z H => c = p.c0 ∧ p.kd ≠ p.wa ∧ H p.wa = some (.ins p.C p.dx p.fs) ∧ Rep Z H (.ref p.la) (waysD p.ws) ∧
  ∃ kvs kds, H p.kd = some (DctO p.kd kvs) ∧ RepK Z H kvs kds ∧ (kds = [] ∨ kds = [(keyD p.key, goneD p.nm p.gone)])
theorem stab (p : WayP) : ∀ c Z Z' H H', p.G c Z H → (∀ a, p.F a → H' a = H a) → Fr Z H Z' H' → p.G c Z' H' := by
  rintro c Z Z' H H' ⟨hc, n, h1, h2, h3⟩ hf f
  obtain ⟨kvs, kds, h3, h4, h5⟩ := h3
  exact ⟨hc, n, (hf _ (.inl rfl)).trans h1, h2.mono f, kvs, kds, (hf _ (.inr rfl)).trans h3, h4.mono f, h5⟩
def self (p : WayP) : DV := .r (.ref p.wa)
end WayP
/-- the class -/
structure WayC (K : PySem.W.Frag) (C fg fn : Addr) : Prop where
  cls : Cls K C
  arcs : NoAttr K C "arcs"
  known : NoAttr K C "known"
  gone : Meth K C "gone_through" fg
  nexts : Meth K C "nexts" fn
section
variable {X : Cx} {W : Wd} {e : Expr} {es : List Expr} {pos apos : Pos} {p : WayP} {fg fn : Addr} {k : Nat}
/-- self.arcs -/
def dArcs (p : WayP) (i : Nat) : DTE := fun s Q => s.e[i]? = some (some (.sh p.self)) ∧ Q (.d (waysD p.ws)) s
theorem de_arcs {i : Nat} {x : Str} {pos' : Pos} (c : WayC X.K p.C fg fn) (hG : W.G = p.G) (hN : X.N[i]? = some x := by rfl) (hv : Vis X.env.scope x := by first | exact Or.inl rfl | exact Or.inr (Or.inl rfl) | exact Or.inr (Or.inr rfl)) (hd : (x == ("__debug__" : Str)) = false := by decide)
    (hcd : (x == ("__classdict__" : Str)) = false := by decide) (hb : attributeBase (.Name x pos') "arcs" X.env (eval (.Name x pos') X.env) = eval (.Name x pos') X.env := by rfl) : DE X W (.Attribute (.Name x pos') "arcs" pos) (dArcs p i) := by
  refine (pe_fld (pe_var hN hv hd hcd) hb).weak fun σ H Q' ⟨s, Q, E, ⟨h, t⟩, kk⟩ => ?_
  obtain ⟨v, e1, e2⟩ := E.sh i _ h
  cases (show v = V.ref p.wa from e2)
  have g := E.g
  rw [hG] at g
  exact ⟨_, e1, p.wa, p.C, p.dx, p.fs, .ref p.la, rfl, g.2.2.1, c.cls, c.arcs, rfl, kk _ H (.d (waysD p.ws)) s (.refl E) g.2.2.2.1 t⟩
/-- a method's call on the ways object -/
def dWay (p : WayP) (i : Nat) (T : DFT) (Ta : DTA) : DTE := fun s Q => s.e[i]? = some (some (.sh p.self)) ∧ Ta s fun xs s1 => T (p.self :: xs) s1.c fun x c => Q x ⟨s1.e, c⟩
theorem de_way {i j : Nat} {x m : Str} {pos' : Pos} {T : DFT} {Ta : DTA} {f : Addr} {fd : FuncData} {ps : List Str} {pl : Sem Bool} (c : Cls X.K p.C) (hm : Meth X.K p.C m f) (hl : p.fs.lookup m = none) (hF : W.F = p.F) (hG : W.G = p.G)
    (F : FnOk X.prog X.w X.K X.mg X.base CX0 k f fd ps (spD p.F p.G T)) (hr : Room j X.A) (hk : k ≤ j) (b : Binds X.K fd ps []) (ha : DAC X W (e :: es) Ta)
    (hN : X.N[i]? = some x := by rfl) (hv : Vis X.env.scope x := by first | exact Or.inl rfl | exact Or.inr (Or.inl rfl) | exact Or.inr (Or.inr rfl)) (hd : (x == ("__debug__" : Str)) = false := by decide) (hcd : (x == ("__classdict__" : Str)) = false := by decide)
    (hst : starEach (e :: es) X.env = (false, eval e X.env) :: starEach es X.env := by rfl) (hpl : (backTo pos (starEach es X.env)).any (·.1) = false := by rfl)
    (ht : eval (.Call (.Attribute (.Name x pos') m apos) (e :: es) [] pos) X.env = (do
      let ov ← eval (.Name x pos') X.env
      standAt apos.atName
      let (f, first) ← holding [ov] (getMethod ov m pl)
      callWith pos f first (backTo pos (starEach (e :: es) X.env)) (backToKw pos (keywordEach [] X.env))) := by rfl) :
    DE X W (.Call (.Attribute (.Name x pos') m apos) (e :: es) [] pos) (dWay p i T Ta) := by
  refine (pe_meth (pl := pl) (pe_var hN hv hd hcd) c hm F (hr.mono hk) b .nil pass0 ha hst hpl ht).weak fun σ H Q' ⟨s, Q, E, ⟨h, t⟩, kk⟩ => ?_
  obtain ⟨v, e1, e2⟩ := E.sh i _ h
  cases (show v = V.ref p.wa from e2)
  have g := E.g
  rw [hG] at g
  refine ⟨_, e1, p.wa, p.dx, p.fs, rfl, g.2.2.1, hl, s, _, E, t, fun vs H1 xs s1 S1 r1 t1 => ?_⟩
  show spD p.F p.G T (V.ref p.wa :: (vs ++ [])) H1 Q' E0
  rw [List.append_nil, ← hF, ← hG]
  exact call_w (W := W) (Q := Q) S1.env (.cons (show ShR _ _ (V.ref p.wa) p.self from rfl) (Paired.mapP r1 fun _ _ z => z)) t1 fun v H2 x s2 S2 r q => kk v H2 x s2 (S1.trans S2) r.dvr q
end
end DL
/-! LW2: nexts. -/
namespace DL
open PySem PySem.Spec PyProof.Rows L2
variable [TheW]
def t_gone (p : WayP) : DFT := fun xs c K => xs = [p.self, .d (tN p.nm p.r0)] ∧ K (.d (goneD p.nm p.gone)) c
abbrev st_nexts : Stmt := inClass (top 47) 2
abbrev sc_nexts : Scope := defScope st_nexts
abbrev N_nexts : List Str := ["self", "row"]
theorem fs_nexts : FnScope N_nexts ["self", "row"] sc_nexts := ⟨rfl, rfl, rfl, by decide +kernel, rfl, by decide +kernel, by decide +kernel⟩
section
variable {X : Cx} {k : Nat}
theorem set_x (hw : Wx X) (hr : Room k X.A) : PSet X rSetX := fun pins s σ H o i v ov iv u Q I ro ri rv h => by
  have hun := hr.un
  obtain ⟨a, ks, kk, b, rfl, rfl, h1, h2, h3, h4, q⟩ := h
  cases ro
  cases ri
  exact dx_set hw (by omega) I h1 h2 h3 h4 rv fun s' I' => ⟨_, I', q⟩
end
theorem fn_nexts {K : PySem.W.Frag} {mg : Str → Option Value} {base : Heap} {k : Nat} {params : Arguments} {p : WayP} {fg fn : Addr} {fdg fd : FuncData} (c : WayC K p.C fg fn) (Fg : FnOk TheW.P TheW.w K mg base CX0 k fg fdg ["self", "row"] (spD p.F p.G (t_gone p)))
    (bg : L2.Binds K fdg ["self", "row"] []) (D : FunD K "nexts" "Ways.nexts" params (defBody st_nexts) sc_nexts [] [] fn fd) : FnOk TheW.P TheW.w K mg base CX0 (k + 1) fn fd ["self", "row"] (spD p.F p.G (t_gone p)) := by
  refine D.ok fs_nexts (fun vs H Q E ⟨Z, xs, c, KK, _, _, _, r, t, _⟩ => by rw [paired_len r, t.1]; rfl) fun cdv A outer s H vs Q E hr h => ?_
  have nd := fs_nexts.nd
  let X := (cxOf CX0 TheW.P TheW.w K mg base N_nexts "Ways.nexts" sc_nexts fn cdv A outer s H E)
  refine ⟨_, pss_cons (ps_if (pt_cmpR (X := X) (od_notIn ⟨rfl, rfl⟩ hr) (pe_var (i := 1) rfl (Or.inl rfl)) (pe_fld (pe_var (i := 0) rfl (Or.inl rfl)) rfl) (by with_unfolding_all rfl))
    (pss_one (ps_asg (pe_meth (pe_var (i := 0) rfl (Or.inl rfl)) c.cls c.gone Fg hr bg .nil pass0 (pa_cons (pe_var (i := 1) rfl (Or.inl rfl)) pa_nil)) (pg_sub (pe_fld (pe_var (i := 0) rfl (Or.inl rfl)) rfl) (pe_var (i := 1) rfl (Or.inl rfl)) (set_x ⟨rfl, rfl⟩ hr) (by intro _; rfl)))) pss_nil)
    (pss_one (ps_ret (pe_ix (ixd_any ⟨rfl, rfl⟩ hr) (pe_fld (pe_var (i := 0) rfl (Or.inl rfl)) rfl) (pe_var (i := 1) rfl (Or.inl rfl)) (fun _ _ => rfl)))), ?_⟩
  obtain ⟨Z, xs, c0, KK, mz, fz, g, r, ⟨rfl, q⟩, kk⟩ := h
  obtain ⟨hc, n, h1, h2, kvs, kds, h3, h4, h5⟩ := g
  cases r with
  | cons rs r =>
  cases r with
  | cons rr r =>
  cases r
  cases (show _ = V.ref p.wa from rs)
  obtain ⟨b, rfl, hb, hbr⟩ := key_of (Rep.view (show Rep Z H _ (.tuple (p.r0.map (sB p.nm))) from rr)) (toKs_row p.nm p.r0)
  have hkey : keyD p.key = .tuple (p.r0.map (sB p.nm)) := rowKey_eq _ _
  have zk : Z p.kd := fz _ (.inr rfl)
  have hself : PyData.eqv (keyD p.key) (keyD p.key) = true := by rw [eqv_key]; simp
  -- the end: the row is known
  have fin : ∀ H2 kvs2, H2 p.wa = some (.ins p.C p.dx p.fs) → Rep Z H2 (.ref p.la) (waysD p.ws) → H2 p.kd = some (DctO p.kd kvs2) → RepK Z H2 kvs2 [(keyD p.key, goneD p.nm p.gone)] → Rep Z H2 (.ref b) (.tuple (p.r0.map (sB p.nm))) →
      FrO p.F (fun _ => False) H (fun _ => False) H2 → (∀ a, Z a → Mut (H2 a)) →
      tRet (tOp (opRel gIx) (tFld K (tVar 0) "known") (tVar 1)) { nx := fun _ H' => Q .non H', rt := Q } (L2.start N_nexts [V.ref p.wa, V.ref b]) H2 := by
    intro H2 kvs2 a1 a2 a3 a4 a5 a6 a7
    refine ⟨_, rfl, p.wa, p.C, p.dx, p.fs, .ref p.kd, rfl, a1, c.cls, c.known, rfl, _, rfl, Z, .dict [(keyD p.key, goneD p.nm p.gone)], .tuple (p.r0.map (sB p.nm)), fun d => d = goneD p.nm p.gone, a7, ⟨p.kd, kvs2, rfl, .inl a3, a4⟩, a5.view, ⟨?_, ?_⟩, ?_⟩
    · rw [toKs_row]; rfl
    · refine ⟨goneD p.nm p.gone, ?_, rfl⟩
      rw [← hkey]
      simp [valP, List.find?_cons, hself]
    · rintro v H3 d x3 r3 rfl
      have f3 : FrO p.F (fun _ => False) H2 (fun _ => False) H3 := x3.frO _ _
      have m3 : ∀ a, Z a → Mut (H3 a) := fun a z => by rw [x3.eq (mut_ne (a7 a z))]; exact a7 a z
      exact kk v H3 (.d (goneD p.nm p.gone)) c0 (a6.trans f3) m3 ⟨hc, n, x3 _ _ a1, a2.mono (x3.fr _), kvs2, _, x3 _ _ a3, a4.mono (x3.fr _), .inr rfl⟩ r3 q
  refine ⟨_, rfl, _, rfl, p.wa, p.C, p.dx, p.fs, .ref p.kd, rfl, h1, c.cls, c.known, rfl, Z, .tuple (p.r0.map (sB p.nm)), .dict kds, fun d => d = .bool (true ^^ (valP kds (.tuple (p.r0.map (sB p.nm)))).isSome), mz, hbr.view, ⟨p.kd, kvs, rfl, .inl h3, h4⟩, ⟨?_, rfl⟩, ?_⟩
  · rw [toKs_row]; rfl
  rintro v H2 d x2 r2 rfl
  have m2 : ∀ a, Z a → Mut (H2 a) := fun a z => by rw [x2.eq (mut_ne (mz a z))]; exact mz a z
  have f2 : FrO p.F (fun _ => False) H (fun _ => False) H2 := x2.frO _ _
  rcases h5 with rfl | rfl
  · cases (show Rep Z H2 v (.bool true) from r2)
    refine ⟨true, rfl, ?_⟩
    refine ⟨_, rfl, p.wa, p.dx, p.fs, rfl, x2 _ _ h1, rfl, _, rfl, Z, [p.self, .d (tN p.nm p.r0)], c0, fun x _ => x = .d (goneD p.nm p.gone), m2, fz, ⟨hc, n, x2 _ _ h1, h2.mono (x2.fr _), kvs, _, x2 _ _ h3, h4.mono (x2.fr _), .inl rfl⟩, .cons rfl (.cons (hbr.mono (x2.fr _)) .nil), ⟨rfl, rfl⟩, ?_⟩
    rintro v H3 x c' f m3 ⟨_, _, g1, g2, kvs3, kds3, g3, g4, g5⟩ r3 rfl
    have f23 : Fr Z H2 Z H3 := FrO.fr (Z := Z) (O := fun _ => False) (O' := fun _ => False) f fz m2 (fun _ z => z.elim) |> fun h => ⟨fun a xs e nz => let ⟨q1, q2⟩ := h.lst a xs e (fun z => z.elim nz id); ⟨q1, fun z => q2 (.inl z)⟩, h.tup, h.frz⟩
    have b3 : IsT H3 b (p.key.map kV) := (hb.mono (x2.fr Z)).mono f23
    have br3 : Rep Z H3 (.ref b) (keyD p.key) := by rw [hkey]; exact (hbr.mono (x2.fr _)).mono f23
    have hlen : kvs3.length < sizeLine := by
      rw [g4.length, sizeLine_eq]
      rcases g5 with rfl | rfl <;> simp
    have hu : Fr Z H3 Z (upd H3 p.kd (DctO p.kd (putX kvs3 p.key b v))) := upd_fr zk (m3 _ zk) fun a z => z
    refine ⟨_, rfl, p.wa, p.C, p.dx, p.fs, .ref p.kd, rfl, g1, c.cls, c.known, rfl, _, rfl, p.kd, kvs3, p.key, b, rfl, rfl, g3, g4.keyT, b3, hlen, ?_⟩
    refine fin _ (putX kvs3 p.key b v) ?_ (g2.mono hu) upd_same ?_ ?_ ?_ ?_
    · rw [upd_ne (Ne.symm n)]; exact g1
    · have := g4.put p.key b3 br3 (show Rep Z H3 v (goneD p.nm p.gone) from r3)
      have e : putP kds3 (keyD p.key) (goneD p.nm p.gone) = [(keyD p.key, goneD p.nm p.gone)] := by
        rcases g5 with rfl | rfl
        · rfl
        · simp [putP, hself]
      rw [e] at this
      exact this.mono hu
    · rw [← hkey]; exact br3.mono hu
    · refine (f2.trans f).trans ⟨fun a o h nf _ => ?_, fun _ z => z.elim, fun a h => ?_⟩
      · rw [upd_ne (fun z => nf (.inr z))]; exact h
      · by_cases z : a = p.kd
        · rw [z, upd_same] at h; cases h
        · rw [upd_ne z] at h; exact h
    · intro a z
      by_cases e : a = p.kd
      · rw [e, upd_same]; trivial
      · rw [upd_ne e]; exact m3 a z
  · have e1 : (valP [(keyD p.key, goneD p.nm p.gone)] (.tuple (p.r0.map (sB p.nm)))).isSome = true := by
      rw [← hkey]
      simp [valP, List.find?_cons, hself]
    rw [e1] at r2
    cases (show Rep Z H2 v (.bool false) from r2)
    refine ⟨false, rfl, ?_⟩
    exact fin H2 kvs (x2 _ _ h1) (h2.mono (x2.fr _)) (x2 _ _ h3) (h4.mono (x2.fr _)) (hbr.mono (x2.fr _)) f2 m2
end DL
/-! DE5: defs of the text: their terms of rules, printed by gen.py. -/
namespace DL
open PySem PySem.Spec PyProof.Rows L2
variable [TheW]
abbrev st_gone : Stmt := inClass (top 47) 1
abbrev sc_gone : Scope := defScope st_gone
abbrev N_gone : List Str := ["self", "row", "ways", "some", "later", "here", "met", "arcs", "there", "more"]
theorem fs_gone : FnScope N_gone ["self", "row"] sc_gone := ⟨rfl, rfl, rfl, by decide +kernel, rfl, by decide +kernel, by decide +kernel⟩
def u_gone (p : WayP) : DTS := (dSeq (dOwn 2 (fDisp (dVar 1) (dTup cNil)))
    (dSeq (dFor (iSeq (dArcs p 0)) (dGName 3) (dSeq (dOwn 4 fDT)
    (dSeq (dFor (iItems (dVar 2)) (dGTup 2 (dGCons (dGName 5) (dGCons (dGName 6) dGNil))) (dFor (iSeq (dVar 3)) (dGName 7) (dSeq (dAsg (dCallP t_touched (cCons (dVar 5) (cCons (dVar 7) cNil))) (dGTup 2 (dGCons (dGName 8) (dGCons (dGName 9) dGNil))))
    (dAsg (dOp gAdd (dVar 6) (dVar 9)) (dGSub 4 (dVar 8))))))
    (dSet 2 (dVar 4)))))
    (dRet (dVar 2))))
theorem d_gone {K : PySem.W.Frag} {mg : Str → Option Value} {base : Heap} {f : Addr} {cdv : Value} {A : Around} {outer : List Env} {s : Shared} {H : Hp} {E : XK} {W : Wd} {p : WayP} {fg fn : Addr} (c : WayC K p.C fg fn) (hG : W.G = p.G) (M : Mg mg) (Ftouched : DFn TheW.P TheW.w K mg base 1 "touched" (spP t_touched)) (hr : Room 1 (cx N_gone "Ways.gone_through" sc_gone K mg base f cdv A outer s H E).A) : DSs (cx N_gone "Ways.gone_through" sc_gone K mg base f cdv A outer s H E) W (defBody st_gone) (u_gone p) := by
  have nd := fs_gone.nd
  exact (dss_cons (ds_own (i := 2) nd rfl (Or.inl rfl) (df_disp ⟨rfl, rfl⟩ hr (fun _ => (dv 1)) (fun _ => (de_tup (da_of ac_nil)))))
    (dss_cons (ds_for PassesOwn.never rfl (di_seq (de_arcs (i := 0) c hG)) (dg_name (i := 3) nd rfl (Or.inl rfl)) (dss_cons (ds_own (i := 4) nd rfl (Or.inl rfl) df_dT)
    (dss_cons (ds_for PassesOwn.never rfl (di_items (dv 2)) (dg_tup rfl (dgs_cons (dg_name (i := 5) nd rfl (Or.inl rfl)) (dgs_cons (dg_name (i := 6) nd rfl (Or.inl rfl)) dgs_nil))) (dss_one (ds_for PassesOwn.never rfl (di_seq (dv 3)) (dg_name (i := 7) nd rfl (Or.inl rfl)) (dss_cons (ds_asg (de_call Ftouched hr (by decide) rfl (ac_cons (dv 5) (ac_cons (dv 7) ac_nil))) (dg_tup rfl (dgs_cons (dg_name (i := 8) nd rfl (Or.inl rfl)) (dgs_cons (dg_name (i := 9) nd rfl (Or.inl rfl)) dgs_nil))))
    (dss_one (ds_asg (de_op od_add (dv 6) (dv 9)) (dg_sub (i := 4) ⟨rfl, rfl⟩ hr (dv 8))))))))
    (dss_one (ds_set (i := 2) nd rfl (Or.inl rfl) (dv 4))))))
    (dss_one (ds_ret (dv 2)))))

end DL
/-! L12: gone_through. -/
namespace DL
open PySem PySem.Spec PyProof.Rows L2
variable [TheW]
structure WayOk (p : WayP) (n : Nat) : Prop where
  nm : Nm p.nm n
  lt : Lt n p.r0
  mt : MtOk p.size p.reach
  l1 : 1 ≤ p.r0.length
  l5 : p.r0.length ≤ 5
/-- an arc inside a row of N -/
def arcIn (N : Nat) (a : List (Nat × Nat)) : Bool := a.all fun q => decide (q.1 < N) && decide (q.2 < N)
def waysOk (size reach N : Nat) : Bool := decide ((iWays size reach N).length ≤ 6) && ((List.range 7).all fun i => decide ((((iWays size reach N).take i).map List.length).foldl (· * ·) 1 ≤ 100)) && (iWays size reach N).all fun s => decide (s.length ≤ 30) && s.all fun a => arcIn N a && decide (a.length ≤ 3)
theorem ways_all : ((List.range 9).all fun size => (List.range 8).all fun reach => (List.range 6).all fun N => decide (size = 0) || decide (N = 0) || waysOk size reach N) = true := by decide +kernel
def gk (nm : Nat → Str) (g : List (List Nat × List (Nat × Nat))) : List (PyData × PyData) := g.map fun p => (tN nm p.1, metD nm p.2)
def RowsOk (n N b : Nat) (g : List (List Nat × List (Nat × Nat))) : Prop := ∀ e ∈ g, Lt n e.1 ∧ e.1.length = N ∧ e.2.length ≤ b ∧ LtP n e.2
omit [TheW] in
theorem putM_len (l : List (List Nat × List (Nat × Nat))) (r : List Nat) (m : List (Nat × Nat)) : (putM l r m).length ≤ l.length + 1 := by
  unfold putM
  split <;> simp
omit [TheW] in
theorem putM_ok {n N b : Nat} {l : List (List Nat × List (Nat × Nat))} {r : List Nat} {m : List (Nat × Nat)} (h : RowsOk n N b l) (hr : Lt n r) (hl : r.length = N) (hm : m.length ≤ b ∧ LtP n m) : RowsOk n N b (putM l r m) := by
  unfold putM
  split
  · intro e he
    obtain ⟨e', h1, rfl⟩ := List.mem_map.mp he
    split
    · exact ⟨(h e' h1).1, (h e' h1).2.1, hm⟩
    · exact h e' h1
  · intro e he
    rcases List.mem_append.mp he with h1 | h1
    · exact h e h1
    · rw [List.mem_singleton.mp h1]; exact ⟨hr, hl, hm⟩
theorem put_eq {nm : Nat → Str} {n N b : Nat} {l : List (List Nat × List (Nat × Nat))} {r : List Nat} {m : List (Nat × Nat)} (hn : Nm nm n) (h : RowsOk n N b l) (hr : Lt n r) : putP (gk nm l) (tN nm r) (metD nm m) = gk nm (putM l r m) := by
  have e1 : ((gk nm l).any fun p => PyData.eqv p.1 (tN nm r)) = l.any fun p => decide (p.1 = r) := by
    unfold gk
    rw [List.any_map]
    induction l with
    | nil => rfl
    | cons a l ih =>
      rw [List.any_cons, List.any_cons, ih fun e he => h e (by simp [he])]
      show (PyData.eqv (tN nm a.1) (tN nm r) || _) = _
      rw [hn.eqT (h a (by simp)).1 hr]
  unfold putP putM
  rw [e1]
  split
  · unfold gk
    rw [List.map_map, List.map_map]
    refine List.map_congr_left fun e he => ?_
    show (if PyData.eqv (tN nm e.1) (tN nm r) = true then _ else _) = _
    rw [hn.eqT (h e he).1 hr]
    by_cases q : e.1 = r
    · simp [q]
    · simp [q]
  · unfold gk
    rw [List.map_append]
    rfl
omit [TheW] in
theorem touched_ok {n N : Nat} : ∀ {a : List (Nat × Nat)} {r : List Nat} (_ : arcIn N a = true) (_ : Lt n r) (_ : r.length = N), Lt n (iTouched r a) ∧ (iTouched r a).length = N := by
  intro a r ha hr hl
  unfold iTouched
  have key : ∀ (a : List (Nat × Nat)) (b : List Nat), arcIn N a = true → Lt n b → b.length = N → Lt n (a.foldl (fun b p => (b.set p.1 (r.getD p.2 0)).set p.2 (r.getD p.1 0)) b) ∧ (a.foldl (fun b p => (b.set p.1 (r.getD p.2 0)).set p.2 (r.getD p.1 0)) b).length = N := by
    intro a
    induction a with
    | nil => intro b _ h1 h2; exact ⟨h1, h2⟩
    | cons p a ih =>
      intro b h h1 h2
      unfold arcIn at h
      rw [List.all_cons, Bool.and_eq_true, Bool.and_eq_true] at h
      obtain ⟨⟨c1, c2⟩, h⟩ := h
      have c1 := of_decide_eq_true c1
      have c2 := of_decide_eq_true c2
      have gl : ∀ i, i < N → r.getD i 0 < n := fun i hi => by
        refine hr _ ?_
        rw [List.getD_eq_getElem?_getD, List.getElem?_eq_getElem (by omega)]
        exact List.getElem_mem _
      refine ih _ h ?_ (by simpa using h2)
      intro x hx
      rcases List.mem_or_eq_of_mem_set hx with hx | rfl
      · rcases List.mem_or_eq_of_mem_set hx with hx | rfl
        · exact h1 x hx
        · exact gl _ c2
      · exact gl _ c1
  exact key a r ha hr hl
def inner (e : List Nat × List (Nat × Nat)) (later : List (List Nat × List (Nat × Nat))) (some : List (List (Nat × Nat))) : List (List Nat × List (Nat × Nat)) := some.foldl (fun l arcs => putM l (iTouched e.1 arcs) (e.2 ++ iMetOf e.1 arcs)) later
omit [TheW] in
theorem inner_len (e : List Nat × List (Nat × Nat)) : ∀ (some : List (List (Nat × Nat))) (later : List (List Nat × List (Nat × Nat))), (inner e later some).length ≤ later.length + some.length
  | [], _ => Nat.le_refl _
  | a :: l, later => by
    have h1 := inner_len e l (putM later (iTouched e.1 a) (e.2 ++ iMetOf e.1 a))
    have h2 := putM_len later (iTouched e.1 a) (e.2 ++ iMetOf e.1 a)
    show (inner e (putM later (iTouched e.1 a) (e.2 ++ iMetOf e.1 a)) l).length ≤ _
    rw [List.length_cons]
    omega
omit [TheW] in
theorem inner_ok {n N b : Nat} {e : List Nat × List (Nat × Nat)} (h1 : Lt n e.1) (h2 : e.1.length = N) (h3 : e.2.length ≤ b ∧ LtP n e.2) : ∀ (some : List (List (Nat × Nat))) (later : List (List Nat × List (Nat × Nat))), (∀ a ∈ some, arcIn N a = true ∧ a.length ≤ 3) → RowsOk n N (b + 3) later → RowsOk n N (b + 3) (inner e later some)
  | [], _, _, h => h
  | a :: l, later, hs, h => by
    have ha := hs a (by simp)
    have ht := touched_ok ha.1 h1 h2
    refine inner_ok h1 h2 h3 l _ (fun x hx => hs x (by simp [hx])) (putM_ok h ht.1 ht.2 ?_)
    refine ⟨?_, fun q hq => ?_⟩
    · rw [List.length_append]
      have : (iMetOf e.1 a).length = a.length := by unfold iMetOf; rw [List.length_map]
      have := h3.1
      omega
    · rcases List.mem_append.mp hq with hq | hq
      · exact h3.2 q hq
      · obtain ⟨x, hx, rfl⟩ := List.mem_map.mp hq
        have gl : ∀ i, i < N → e.1.getD i 0 < n := fun i hi => by
          refine h1 _ ?_
          rw [List.getD_eq_getElem?_getD, List.getElem?_eq_getElem (by omega)]
          exact List.getElem_mem _
        have hx2 := List.all_eq_true.mp ha.1 x hx
        rw [Bool.and_eq_true] at hx2
        exact ⟨gl _ (of_decide_eq_true hx2.2), gl _ (of_decide_eq_true hx2.1)⟩
def middle (some : List (List (Nat × Nat))) (dn : List (List Nat × List (Nat × Nat))) : List (List Nat × List (Nat × Nat)) := dn.foldl (fun later e => inner e later some) []
omit [TheW] in
theorem middle_snoc (some : List (List (Nat × Nat))) (dn : List (List Nat × List (Nat × Nat))) (e : List Nat × List (Nat × Nat)) : middle some (dn ++ [e]) = inner e (middle some dn) some := by
  unfold middle; rw [List.foldl_append]; rfl
omit [TheW] in
theorem middle_fold {n N b : Nat} (some : List (List (Nat × Nat))) (hs : ∀ a ∈ some, arcIn N a = true ∧ a.length ≤ 3) : ∀ (dn acc : List (List Nat × List (Nat × Nat))), RowsOk n N b dn → RowsOk n N (b + 3) acc → RowsOk n N (b + 3) (dn.foldl (fun later e => inner e later some) acc) ∧ (dn.foldl (fun later e => inner e later some) acc).length ≤ acc.length + dn.length * some.length
  | [], acc, _, h => ⟨h, by simp⟩
  | e :: dn, acc, hd, h => by
    have h1 := hd e (by simp)
    have h2 := inner_ok h1.1 h1.2.1 h1.2.2 some acc hs h
    have h3 := inner_len e some acc
    have h4 := middle_fold some hs dn (inner e acc some) (fun x hx => hd x (by simp [hx])) h2
    refine ⟨h4.1, ?_⟩
    have h5 := h4.2
    rw [List.length_cons, Nat.add_mul, Nat.one_mul]
    show ((dn.foldl (fun later e => inner e later some) (inner e acc some))).length ≤ _
    omega
omit [TheW] in
theorem middle_ok {n N b : Nat} {some : List (List (Nat × Nat))} (hs : ∀ a ∈ some, arcIn N a = true ∧ a.length ≤ 3) {dn : List (List Nat × List (Nat × Nat))} (h : RowsOk n N b dn) : RowsOk n N (b + 3) (middle some dn) ∧ (middle some dn).length ≤ dn.length * some.length := by
  have := middle_fold (b := b) some hs dn [] h fun e he => nomatch he
  simpa [middle] using this
def outer (r0 : List Nat) (done : List (List (List (Nat × Nat)))) : List (List Nat × List (Nat × Nat)) := done.foldl (fun ways some => middle some ways) [(r0, [])]
omit [TheW] in
theorem outer_snoc (r0 : List Nat) (done : List (List (List (Nat × Nat)))) (s : List (List (Nat × Nat))) : outer r0 (done ++ [s]) = middle s (outer r0 done) := by
  unfold outer; rw [List.foldl_append]; rfl
omit [TheW] in
theorem outer_ok {n : Nat} {r0 : List Nat} (hr : Lt n r0) (done : List (List (List (Nat × Nat)))) (hs : ∀ s ∈ done, ∀ a ∈ s, arcIn r0.length a = true ∧ a.length ≤ 3) : RowsOk n r0.length (3 * done.length) (outer r0 done) ∧ (outer r0 done).length ≤ (done.map List.length).foldl (· * ·) 1 := by
  have key : ∀ (done : List (List (List (Nat × Nat)))) (ways : List (List Nat × List (Nat × Nat))) (b m : Nat), (∀ s ∈ done, ∀ a ∈ s, arcIn r0.length a = true ∧ a.length ≤ 3) → RowsOk n r0.length b ways → ways.length ≤ m →
      RowsOk n r0.length (b + 3 * done.length) (done.foldl (fun ways some => middle some ways) ways) ∧ (done.foldl (fun ways some => middle some ways) ways).length ≤ (done.map List.length).foldl (· * ·) m := by
    intro done
    induction done with
    | nil => intro ways b m _ h1 h2; exact ⟨by simpa using h1, by simpa using h2⟩
    | cons s done ih =>
      intro ways b m hs h1 h2
      have h3 := middle_ok (hs s (by simp)) h1
      have h4 := ih (middle s ways) (b + 3) (m * s.length) (fun x hx => hs x (by simp [hx])) h3.1 (Nat.le_trans h3.2 (Nat.mul_le_mul_right _ h2))
      refine ⟨?_, by simpa using h4.2⟩
      have e : b + 3 + 3 * done.length = b + 3 * (s :: done).length := by rw [List.length_cons]; omega
      rw [e] at h4
      exact h4.1
  have := key done [(r0, [])] 0 1 hs (fun e he => by rw [List.mem_singleton.mp he]; exact ⟨hr, rfl, Nat.le_refl _, fun q hq => nomatch hq⟩) (Nat.le_refl _)
  simpa [outer] using this
end DL
/-! L13: gone_through. -/
namespace DL
open PySem PySem.Spec PyProof.Rows L2
variable [TheW]
structure WsOk (p : WayP) : Prop where
  len : p.ws.length ≤ 6
  pr : ∀ i, i ≤ 6 → ((p.ws.take i).map List.length).foldl (· * ·) 1 ≤ 100
  s30 : ∀ s ∈ p.ws, s.length ≤ 30
  arc : ∀ s ∈ p.ws, ∀ a ∈ s, arcIn p.r0.length a = true ∧ a.length ≤ 3
theorem WayOk.ws {p : WayP} {n : Nat} (h : WayOk p n) : WsOk p := by
  have ⟨m1, m2, m3⟩ := h.mt
  have k1 := List.all_eq_true.mp ways_all p.size (List.mem_range.mpr (by omega))
  have k2 := List.all_eq_true.mp k1 p.reach (List.mem_range.mpr (by omega))
  have k3 := List.all_eq_true.mp k2 p.r0.length (List.mem_range.mpr (by have := h.l5; omega))
  have l1 := h.l1
  rw [decide_eq_false (by omega : ¬ p.size = 0), decide_eq_false (by omega : ¬ p.r0.length = 0), Bool.false_or, Bool.false_or] at k3
  unfold waysOk at k3
  rw [Bool.and_eq_true, Bool.and_eq_true] at k3
  obtain ⟨⟨a1, a2⟩, a3⟩ := k3
  refine ⟨of_decide_eq_true a1, fun i hi => of_decide_eq_true (List.all_eq_true.mp a2 i (List.mem_range.mpr (by omega))), fun s hs => ?_, fun s hs a ha => ?_⟩
  · have := List.all_eq_true.mp a3 s hs
    rw [Bool.and_eq_true] at this
    exact of_decide_eq_true this.1
  · have := List.all_eq_true.mp a3 s hs
    rw [Bool.and_eq_true] at this
    have := List.all_eq_true.mp this.2 a ha
    rw [Bool.and_eq_true] at this
    exact ⟨this.1, of_decide_eq_true this.2⟩
theorem arc_len {N : Nat} {a : List (Nat × Nat)} (h : arcIn N a = true) : ∀ q ∈ a, q.1 < N ∧ q.2 < N := fun q hq => by
  have := List.all_eq_true.mp h q hq
  rw [Bool.and_eq_true] at this
  exact ⟨of_decide_eq_true this.1, of_decide_eq_true this.2⟩
theorem dl_gk {G : DTG} {Tb : DTS} {D : DEnds} {nm : Nat → Str} {g : List (List Nat × List (Nat × Nat))} {s : DSt} (h : dLoop G Tb D (g.map fun e => .p [tN nm e.1, metD nm e.2]) s) : dLoop G Tb D (itemsD (gk nm g)) s := by
  unfold itemsD gk
  rw [List.map_map]
  exact h
theorem l_gone {p : WayP} {n : Nat} (ok : WayOk p n) : Law (t_gone p) (u_gone p) N_gone := by
  rintro xs c K ⟨rfl, q⟩
  have hn := ok.nm
  have w := ok.ws
  refine ⟨by simp, ?_⟩
  refine ⟨by rw [toKs_row]; rfl, ?_⟩
  refine ⟨rfl, ?_⟩
  refine dl_map ?_
  have wsb : ∀ done rest, p.ws = done ++ rest → RowsOk n p.r0.length 18 (outer p.r0 done) ∧ (outer p.r0 done).length ≤ 100 := by
    intro done rest e
    have h := outer_ok ok.lt done fun s hs => w.arc s (by rw [e]; simp [hs])
    have l := w.len
    rw [e, List.length_append] at l
    have l2 := w.pr done.length (by omega)
    rw [e, List.take_left] at l2
    refine ⟨fun x hx => ?_, Nat.le_trans h.2 l2⟩
    have := h.1 x hx
    have t3 := this.2.2.1
    exact ⟨this.1, this.2.1, by omega, this.2.2.2⟩
  refine dLoop_list (fun a => .d (.list (a.map arcD))) p.ws (fun done s => ∃ (b : Bool) (x3 x4 x5 x6 x7 x8 x9 : Option DS), s = ⟨[some (.sh p.self), some (.sh (.d (tN p.nm p.r0))), some (if b = true then .own (.dct (gk p.nm (outer p.r0 done))) else .sh (.d (.dict (gk p.nm (outer p.r0 done))))), x3, x4, x5, x6, x7, x8, x9], c⟩) ?_ ?_ _ ⟨true, none, none, none, none, none, none, none, rfl⟩
  · rintro done some rest s R e ⟨b, x3, x4, x5, x6, x7, x8, x9, rfl⟩ hR
    have hsm : some ∈ p.ws := by rw [e]; simp
    have h30 := w.s30 some hsm
    have harc := w.arc some hsm
    have ⟨o1, o2⟩ := wsb done _ e
    have mm : middle some (outer p.r0 done) = outer p.r0 (done ++ [some]) := (outer_snoc _ _ _).symm
    cases b
    all_goals
      conv => whnf
      refine dl_gk ?_
      refine dLoop_list (fun e => .p [tN p.nm e.1, metD p.nm e.2]) (outer p.r0 done) (fun dn s => ∃ (x5 x6 x7 x8 x9 : Option DS), s = ⟨[.some (.sh p.self), .some (.sh (.d (tN p.nm p.r0))), .some (.sh (.d (.dict (gk p.nm (outer p.r0 done))))), .some (.sh (.d (.list (some.map arcD)))), .some (.own (.dct (gk p.nm (middle some dn)))), x5, x6, x7, x8, x9], c⟩) ?_ ?_ _ ⟨x5, x6, x7, x8, x9, rfl⟩
      · rintro dn e' rs s R2 e2 ⟨y5, y6, y7, y8, y9, rfl⟩ hR2
        have hem : e' ∈ outer p.r0 done := by rw [e2]; simp
        have he' := o1 e' hem
        have odn : RowsOk n p.r0.length 18 dn := fun x hx => o1 x (by rw [e2]; simp [hx])
        have hdl : dn.length ≤ 100 := by rw [e2, List.length_append] at o2; omega
        have ⟨m1, m2⟩ := middle_ok harc odn
        have m3 : dn.length * some.length ≤ 100 * 30 := Nat.mul_le_mul hdl h30
        refine ⟨rfl, rfl, ?_⟩
        conv => whnf
        refine dl_map ?_
        refine dLoop_list (fun a => .d (arcD a)) some (fun ar s => ∃ (x7 x8 x9 : Option DS), s = ⟨[.some (.sh p.self), .some (.sh (.d (tN p.nm p.r0))), .some (.sh (.d (.dict (gk p.nm (outer p.r0 done))))), .some (.sh (.d (.list (some.map arcD)))), .some (.own (.dct (gk p.nm (inner e' (middle some dn) ar)))), .some (.sh (.d (tN p.nm e'.1))), .some (.sh (.d (metD p.nm e'.2))), x7, x8, x9], c⟩) ?_ ?_ _ ⟨y7, y8, y9, rfl⟩
        · rintro ar a as s R3 e3 ⟨z7, z8, z9, rfl⟩ hR3
          have ha := harc a (by rw [e3]; simp)
          have arc := arc_len ha.1
          have har : ar.length ≤ 30 := by rw [e3, List.length_append] at h30; omega
          have i1 := inner_ok he'.1 he'.2.1 he'.2.2 ar (middle some dn) (fun x hx => harc x (by rw [e3]; simp [hx])) m1
          have i2 := inner_len e' ar (middle some dn)
          have tk := touched_ok ha.1 he'.1 he'.2.1
          refine ⟨p.nm, e'.1, a, by rw [he'.2.1]; exact arc, by omega, rfl, ?_⟩
          refine ⟨rfl, rfl, ?_⟩
          have h22 := he'.2.2.1
          refine ⟨by simp [iMetOf]; omega, ?_⟩
          refine ⟨⟨_, rfl⟩, ?_⟩
          refine ⟨by rw [toKs_row]; rfl, by simp [gk]; omega, ?_⟩
          refine hR3 _ ⟨.some (.sh (.d (arcD a))), .some (.sh (.d (tN p.nm (iTouched e'.1 a)))), .some (.sh (.d (metD p.nm (iMetOf e'.1 a)))), ?_⟩
          have pe := put_eq (m := e'.2 ++ iMetOf e'.1 a) hn i1 tk.1
          have ie : inner e' (middle some dn) (ar ++ [a]) = putM (inner e' (middle some dn) ar) (iTouched e'.1 a) (e'.2 ++ iMetOf e'.1 a) := by
            unfold inner; rw [List.foldl_append]; rfl
          rw [ie, ← pe]
          unfold metD
          rw [List.map_append]
          rfl
        · rintro s ⟨z7, z8, z9, rfl⟩
          refine hR2 _ ⟨.some (.sh (.d (tN p.nm e'.1))), .some (.sh (.d (metD p.nm e'.2))), z7, z8, z9, ?_⟩
          rw [middle_snoc]
      · rintro s ⟨y5, y6, y7, y8, y9, rfl⟩
        refine hR _ ⟨false, .some (.sh (.d (.list (some.map arcD)))), .some (.sh (.d (.dict (gk p.nm (middle some (outer p.r0 done)))))), y5, y6, y7, y8, y9, ?_⟩
        rw [← mm]
        rfl
  · rintro s ⟨b, x3, x4, x5, x6, x7, x8, x9, rfl⟩
    have e : gk p.nm (outer p.r0 p.ws) = p.gone.map fun p' => (tN p.nm p'.1, metD p.nm p'.2) := rfl
    cases b
    · exact q
    · exact q
end DL
/-! LW3: the making of a ways object: its loop's own world. -/
namespace DL
open PySem PySem.Spec PyProof.Rows L2
variable [TheW]
structure IniP where
  wa : Addr
  C : Addr
  dx : Addr
  la : Addr
  acc : List PyData
structure IniC (K : PySem.W.Frag) (C : Addr) : Prop where
  cls : Cls K C
  arcs : NoAttr K C "arcs"
namespace IniP
def F (p : IniP) : Zs := fun a => a = p.wa ∨ a = p.la
def G (p : IniP) : Nat → Zs → Hp → Prop := fun c Z H => p.la ≠ p.wa ∧ H p.wa = some (.ins p.C p.dx [("arcs", .ref p.la)]) ∧ c ≤ p.acc.length ∧ p.acc.length ≤ 1000 ∧ ∃ xs, H p.la = some (.lst xs) ∧ RepL Z H xs (p.acc.take c)
theorem stab (p : IniP) : ∀ c Z Z' H H', p.G c Z H → (∀ a, p.F a → H' a = H a) → Fr Z H Z' H' → p.G c Z' H' := by
  rintro c Z Z' H H' ⟨n, h1, h2, h3, xs, h4, h5⟩ hf f
  exact ⟨n, (hf _ (.inl rfl)).trans h1, h2, h3, xs, (hf _ (.inr rfl)).trans h4, h5.mono f⟩
end IniP
section
variable {X : Cx} {W : Wd} {e : Expr} {pos apos apos2 cpos : Pos} {p : IniP}
def dApp (p : IniP) (i : Nat) (Ta : DTA) : DTE := fun s Q => s.e[i]? = some (some (.sh (.r (.ref p.wa)))) ∧ Ta s fun xs s1 => ∃ y, xs = [.d y] ∧ p.acc[s1.c]? = some y ∧ Q (.d .none) ⟨s1.e, s1.c + 1⟩
theorem de_app {i : Nat} {x : Str} {pos' : Pos} {Ta : DTA} (c : IniC X.K p.C) (hG : W.G = p.G) (hF : W.F = p.F) (ha : DAC X W [e] Ta) (hN : X.N[i]? = some x := by rfl) (hv : Vis X.env.scope x := by first | exact Or.inl rfl | exact Or.inr (Or.inl rfl) | exact Or.inr (Or.inr rfl)) (hd : (x == ("__debug__" : Str)) = false := by decide)
    (hcd : (x == ("__classdict__" : Str)) = false := by decide) (hb : attributeBase (.Name x pos') "arcs" X.env (eval (.Name x pos') X.env) = eval (.Name x pos') X.env := by rfl)
    (hbase : attributeBase (.Attribute (.Name x pos') "arcs" apos2) "append" X.env (eval (.Attribute (.Name x pos') "arcs" apos2) X.env) = eval (.Attribute (.Name x pos') "arcs" apos2) X.env := by rfl)
    (hfew : ((backTo cpos (starEach [e] X.env)).all (fun x => !x.1) && (backToKw cpos (keywordEach [] X.env)).all (fun x => x.1.isSome) && decide ([e].length + ([] : List Keyword).length + (if ([] : List Keyword).isEmpty then 0 else 1) < 30)) = true := by rfl)
    (hline : (apos.endLine == cpos.line) = true := by rfl) (hs : starEach [e] X.env = (false, eval e X.env) :: starEach [] X.env := by rfl) (hplain : (backTo cpos (starEach [] X.env)).any (·.1) = false := by rfl) :
    DE X W (.Call (.Attribute (.Attribute (.Name x pos') "arcs" apos2) "append" apos) [e] [] cpos) (dApp p i Ta) := by
  refine (pe_bm F.plainAttrs_list F.slot_list_append F.type_list_append mt_append (pe_fld (pe_var hN hv hd hcd) hb) ha hbase hfew hline hs hplain).weak fun σ H Q' ⟨s, Q, E, ⟨h, t⟩, kk⟩ => ?_
  obtain ⟨v, e1, e2⟩ := E.sh i _ h
  cases (show v = V.ref p.wa from e2)
  have g := E.g
  rw [hG] at g
  obtain ⟨n, g1, g2, g3, xs, g4, g5⟩ := g
  refine ⟨_, e1, p.wa, p.C, p.dx, _, .ref p.la, rfl, g1, c.cls, c.arcs, rfl, .inl ⟨rfl, xs, .of g4⟩, s, _, E, t, fun vs H1 ys s1 S1 r1 t1 => ?_⟩
  obtain ⟨y, rfl, hy, t1⟩ := t1
  have g' := S1.env.g
  rw [hG] at g'
  obtain ⟨_, a1, a2, a3, xs1, a4, a5⟩ := g'
  obtain ⟨vy, rfl, r⟩ : ∃ vy, vs = [vy] ∧ Rep (Zo W.Z (OwnA σ s1)) H1 vy y := by
    cases r1 with
    | cons r rr =>
    cases rr
    exact ⟨_, rfl, r⟩
  have hl : s1.c < p.acc.length := (List.getElem?_eq_some_iff.mp hy).1
  have lz : W.F p.la := by rw [hF]; exact .inr rfl
  have zz : Zo W.Z (OwnA σ s1) p.la := .inl (W.FZ _ lz)
  have hu : Fr (Zo W.Z (OwnA σ s1)) H1 (Zo W.Z (OwnA σ s1)) (upd H1 p.la (.lst (xs1 ++ [vy]))) := upd_fr zz (by rw [a4]; trivial) fun a z => z
  refine ⟨p.la, xs1, _, rfl, rfl, a4, ?_, ?_⟩
  · rw [a5.length, List.length_take, sizeLine_eq]; omega
  · have fo : FrO W.F (fun _ => False) H1 (fun _ => False) (upd H1 p.la (.lst (xs1 ++ [vy]))) := ⟨fun a o ha nf _ => by rw [upd_ne (fun z => nf (by rw [z]; exact lz))]; exact ha, fun _ z => z.elim, fun a ha => by
      by_cases z : a = p.la
      · rw [z, upd_same] at ha; cases ha
      · rw [upd_ne z] at ha; exact ha⟩
    have E2 := S1.env.ghost (c := s1.c + 1) fo (fun a z => by
      by_cases q : a = p.la
      · rw [q, upd_same]; trivial
      · rw [upd_ne q]; exact S1.env.muz a z) (by
      rw [hG]
      refine ⟨n, by rw [upd_ne (Ne.symm n)]; exact a1, hl, a3, _, upd_same, ?_⟩
      have := (a5.append (.cons r .nil)).mono hu
      rw [List.take_add_one, hy]
      exact this)
    exact kk .non _ (.d .none) ⟨s1.e, s1.c + 1⟩ ⟨E2, S1.fr.trans ⟨fun a o h nf _ => fo.keep a o h nf (fun z => z), fun _ h => .inl h, fo.dom⟩⟩ Rep.non t1
theorem ps_ex {α : Type} {st : Stmt} {t : α → TS} (h : ∀ a, PS X st (t a)) : PS X st (fun D σ H => ∃ a, t a D σ H) := ⟨fun pins s σ H D I ⟨a, q⟩ => (h a).run pins s σ H D I q⟩
end
end DL
/-! DE6: defs of the text: their terms of rules, printed by gen.py. -/
namespace DL
open PySem PySem.Spec PyProof.Rows L2
variable [TheW]
abbrev st_init : Stmt := inClass (top 47) 0
abbrev sc_init : Scope := defScope st_init
abbrev N_init : List Str := ["self", "meeting", "many", "k", "first", "last"]
theorem fs_init : FnScope N_init ["self", "meeting", "many"] sc_init := ⟨rfl, rfl, rfl, by decide +kernel, rfl, by decide +kernel, by decide +kernel⟩
abbrev st_iloop : Stmt := (defBody st_init).getD 1 (.Pass ⟨0, 0, 0, 0⟩)
def u_iloop (p : IniP) : DTS := (dFor (iRv1 (dCallP t_races_of (cCons (dVar 1) (cCons (dVar 2) cNil)))) (dGName 3) (dSeq (dAsg (dCallP t_span (cCons (dVar 1) (cCons (dVar 2) (cCons (dVar 3) cNil)))) (dGTup 2 (dGCons (dGName 4) (dGCons (dGName 5) dGNil))))
    (dDrop (dApp p 0 (cCons (dCallP t_arc_sets (cCons (dVar 4) (cCons (dVar 5) (cCons (dIx (dVar 1) (dC (.int 1))) cNil)))) cNil)))))
theorem d_iloop {K : PySem.W.Frag} {mg : Str → Option Value} {base : Heap} {f : Addr} {cdv : Value} {A : Around} {outer : List Env} {s : Shared} {H : Hp} {E : XK} {W : Wd} {p : IniP} (c : IniC K p.C) (hF : W.F = p.F) (hG : W.G = p.G) (M : Mg mg) (Fraces_of : DFn TheW.P TheW.w K mg base 1 "races_of" (spP t_races_of)) (Fspan : DFn TheW.P TheW.w K mg base 1 "span" (spP t_span)) (Farc_sets : DFn TheW.P TheW.w K mg base 7 "arc_sets" (spP t_arc_sets)) (hr : Room 7 (cx N_init "Ways.__init__" sc_init K mg base f cdv A outer s H E).A) : DS1 (cx N_init "Ways.__init__" sc_init K mg base f cdv A outer s H E) W st_iloop (u_iloop p) := by
  have nd := fs_init.nd
  exact (ds_for PassesOwn.never rfl (di_rev1 rfl M.reversed rfl M.range (de_call Fraces_of hr (by decide) rfl (ac_cons (dv 1) (ac_cons (dv 2) ac_nil)))) (dg_name (i := 3) nd rfl (Or.inl rfl)) (dss_cons (ds_asg (de_call Fspan hr (by decide) rfl (ac_cons (dv 1) (ac_cons (dv 2) (ac_cons (dv 3) ac_nil)))) (dg_tup rfl (dgs_cons (dg_name (i := 4) nd rfl (Or.inl rfl)) (dgs_cons (dg_name (i := 5) nd rfl (Or.inl rfl)) dgs_nil))))
    (dss_one (ds_expr (de_app c hG hF (ac_cons (de_call Farc_sets hr (by decide) rfl (ac_cons (dv 4) (ac_cons (dv 5) (ac_cons (de_ix ⟨rfl, rfl⟩ hr (dv 1) de_int (fun _ _ => rfl)) ac_nil)))) ac_nil))))))

end DL
/-! LW4: __init__. -/
namespace DL
open PySem PySem.Spec PyProof.Rows L2
variable [TheW]
def spIni (C : Addr) : Sp := fun vs H Q _ => ∃ (Z : Zs) (wa dx : Addr) (vm : V) (size reach N : Nat), (∀ a, Z a → Mut (H a)) ∧ ¬ Z wa ∧ MtOk size reach ∧ 1 ≤ N ∧ N ≤ 5 ∧ vs = [.ref wa, vm, .int N] ∧ Rep Z H vm (Mt size reach) ∧ H wa = some (.ins C dx []) ∧
  ∀ la kd H', kd ≠ wa → H la = none → H kd = none → (∀ a o, H a = some o → a ≠ wa → H' a = some o) → (∀ a, H' a = none → H a = none) → H' wa = some (.ins C dx [("arcs", .ref la), ("known", .ref kd)]) → H' kd = some (DctO kd []) →
    Rep (fun a => Z a ∨ a = wa ∨ a = kd) H' (.ref la) (waysD (iWays size reach N)) → Q .non H'
def accW (size reach N : Nat) : List PyData := (iWays size reach N).map fun a => .list (a.map arcD)
theorem going_dv (n : Nat) : rangeDC ((n : Int) - 1) (-1) n = (List.range n).reverse.map fun k => .d (.int (k : Nat)) := by
  have h := congrArg (List.map DV.d) (going_ints n)
  rw [List.map_map, List.map_map] at h
  exact h
/-- all that arc_sets is asked for has its sizes -/
def accOk (size reach N : Nat) : Bool := decide (iRaces size N ≤ 6) && (List.range (iRaces size N)).all fun k => decide (k ≤ 5) && decide (k * size ≤ 6) && decide (iLast size N k ≤ 4)
theorem acc_all : ((List.range 9).all fun size => (List.range 6).all fun N => decide (size = 0) || decide (N = 0) || accOk size 0 N) = true := by decide +kernel
/-- the loop -/
theorem l_iloop {p : IniP} {size reach N : Nat} (hm : MtOk size reach) (h1 : 1 ≤ N) (h5 : N ≤ 5) (hacc : p.acc = accW size reach N) (D : DEnds)
    (q : ∀ x3 x4 x5, D.nx ⟨[some (.sh (.r (.ref p.wa))), some (.sh (.d (Mt size reach))), some (.sh (.d (.int N))), x3, x4, x5], p.acc.length⟩) :
    u_iloop p D ⟨startD N_init [.r (.ref p.wa), .d (Mt size reach), .d (.int N)], 0⟩ := by
  have ⟨m1, m2, m3⟩ := hm
  have k1 := List.all_eq_true.mp acc_all size (List.mem_range.mpr (by omega))
  have k2 := List.all_eq_true.mp k1 N (List.mem_range.mpr (by omega))
  rw [decide_eq_false (by omega : ¬ size = 0), decide_eq_false (by omega : ¬ N = 0), Bool.false_or, Bool.false_or] at k2
  unfold accOk at k2
  rw [Bool.and_eq_true] at k2
  have ks := of_decide_eq_true k2.1
  have kk : ∀ k < iRaces size N, k ≤ 5 ∧ k * size ≤ 6 ∧ iLast size N k ≤ 4 := fun k hk => by
    have := List.all_eq_true.mp k2.2 k (List.mem_range.mpr hk)
    rw [Bool.and_eq_true, Bool.and_eq_true] at this
    exact ⟨of_decide_eq_true this.1.1, of_decide_eq_true this.1.2, of_decide_eq_true this.2⟩
  have hlen : p.acc.length = (iGoing size N).length := by rw [hacc]; unfold accW iWays; simp
  refine ⟨size, reach, N, hm, h1, rfl, ?_⟩
  refine ⟨smallR_nat (by omega), ?_⟩
  have e : rangeDC (((iRaces size N : Nat) : Int).toNat - 1) (-1) ((iRaces size N : Nat) : Int).toNat = (iGoing size N).map fun k => .d (.int (k : Nat)) := by
    rw [Int.toNat_natCast]
    exact going_dv _
  rw [e]
  refine dLoop_list (fun k : Nat => .d (.int (k : Nat))) (iGoing size N) (fun done s => ∃ x3 x4 x5, s = ⟨[some (.sh (.r (.ref p.wa))), some (.sh (.d (Mt size reach))), some (.sh (.d (.int N))), x3, x4, x5], done.length⟩) ?_ ?_ _ ⟨none, none, none, rfl⟩
  · rintro done k rest s R ee ⟨x3, x4, x5, rfl⟩ hR
    have hk : k < iRaces size N := by
      have : k ∈ iGoing size N := by rw [ee]; simp
      exact List.mem_range.mp (List.mem_reverse.mp this)
    have ⟨b1, b2, b3⟩ := kk k hk
    refine ⟨size, reach, N, k, hm, h1, b1, rfl, ?_⟩
    refine ⟨rfl, rfl, ?_⟩
    refine ⟨rfl, ?_⟩
    refine ⟨_, rfl, 6, reach, k * size, iLast size N k, by decide, ⟨by omega, b2, b3, by omega, by omega⟩, rfl, ?_⟩
    refine ⟨_, rfl, ?_, hR _ ⟨some (.sh (.d (.int (k : Nat)))), some (.sh (.d (.int ((k * size : Nat) : Int)))), some (.sh (.d (.int ((iLast size N k : Nat) : Int)))), ?_⟩⟩
    · have hg : (iGoing size N)[done.length]? = some k := by rw [ee]; simp
      rw [hacc]
      show (List.map _ (List.map _ (iGoing size N)))[done.length]? = _
      rw [List.getElem?_map, List.getElem?_map, hg]
      rfl
    · rw [List.length_append]
      rfl
  · rintro s ⟨x3, x4, x5, rfl⟩
    rw [← hlen]
    exact q x3 x4 x5
theorem fn_init {K : PySem.W.Frag} {mg : Str → Option Value} {base : Heap} {params : Arguments} {C fi : Addr} {fd : FuncData} (c : IniC K C) (kn : NoAttr K C "known") (M : Mg mg) (Fraces_of : DFn TheW.P TheW.w K mg base 1 "races_of" (spP t_races_of)) (Fspan : DFn TheW.P TheW.w K mg base 1 "span" (spP t_span)) (Farc_sets : DFn TheW.P TheW.w K mg base 7 "arc_sets" (spP t_arc_sets))
    (D : FunD K "__init__" "Ways.__init__" params (defBody st_init) sc_init [] [] fi fd) : FnOk TheW.P TheW.w K mg base CX0 8 fi fd ["self", "meeting", "many"] (spIni C) := by
  refine D.ok fs_init (fun vs H Q E ⟨Z, wa, dx, vm, size, reach, N, _, _, _, _, _, e, _⟩ => by rw [e]; rfl) fun cdv A outer s H vs Q E hr h => ?_
  have nd := fs_init.nd
  obtain ⟨Z, wa, dx, vm, size, reach, N, mz, nz, hm, h1, h5, rfl, rm, hwa, kk⟩ := h
  let ip : Addr → IniP := fun la => ⟨wa, C, dx, la, accW size reach N⟩
  let W : Addr → Wd := fun la => ⟨fun a => Z a ∨ a = wa ∨ a = la, (ip la).F, (ip la).G, fun a h => .inr h, (ip la).stab⟩
  let X := cx N_init "Ways.__init__" sc_init K mg base fi cdv A outer s H E
  have L : ∀ la, DS1 X (W la) st_iloop (u_iloop (ip la)) := fun la => d_iloop (p := ip la) c rfl rfl M Fraces_of Fspan Farc_sets hr
  have B := pss_cons (X := X) (st := (defBody st_init).getD 0 (.Pass ⟨0, 0, 0, 0⟩)) (ps_fld (pe_var (i := 0) rfl (Or.inl rfl)) (pe_lst pa_nil) rfl) (pss_cons (ps_ex L) (pss_one (st := (defBody st_init).getD 2 (.Pass ⟨0, 0, 0, 0⟩)) (ps_fld (pe_var (i := 0) rfl (Or.inl rfl)) pe_dnewX rfl)))
  refine ⟨_, PSs.nox (st := defBody st_init) B, ?_⟩
  refine ⟨Nat.zero_le _, fun la hla => ⟨_, rfl, wa, C, dx, [], rfl, ?_, c.cls, c.arcs, by simp, ?_⟩⟩
  · rw [upd_ne (ne_of_none hwa hla)]; exact hwa
  have nwl : la ≠ wa := fun z => by rw [z, hwa] at hla; cases hla
  have f1 : Fr Z H (W la).Z (upd (upd H la (.lst [])) wa (.ins C dx [("arcs", .ref la)])) := by
    refine ⟨fun a xs h n => ?_, fun a xs h => ?_, fun a o u h => ?_⟩
    all_goals
      have na : a ≠ wa := fun z => by rw [z, hwa] at h; cases h
      have nl : a ≠ la := fun z => by rw [z, hla] at h; cases h
    · rw [upd_ne na, upd_ne nl]
      exact ⟨h, fun z => by rcases z with z | z | z; exact n z; exact na z; exact nl z⟩
    · rw [upd_ne na, upd_ne nl]; exact h
    · rw [upd_ne na, upd_ne nl]; exact h
  have m1 : ∀ a, (W la).Z a → Mut ((upd (upd H la (.lst [])) wa (.ins C dx [("arcs", .ref la)])) a) := fun a z => by
    by_cases q1 : a = wa
    · rw [q1, upd_same]; trivial
    · rw [upd_ne q1]
      by_cases q2 : a = la
      · rw [q2, upd_same]; trivial
      · rw [upd_ne q2]
        rcases z with z | z | z
        · exact mz a z
        · exact absurd z q1
        · exact absurd z q2
  have hlen : (accW size reach N).length ≤ 1000 := by
    unfold accW iWays iGoing iRaces
    have ⟨m1, m2, m3⟩ := hm
    have := Nat.div_le_self (N + size - 1) size
    simp
    omega
  have E1 := env_start (W := W la) (N := N_init) (vs := [.ref wa, vm, .int N]) (xs := [.r (.ref wa), .d (Mt size reach), .d (.int N)]) (c := 0) (H := upd (upd H la (.lst [])) wa (.ins C dx [("arcs", .ref la)])) (.cons rfl (.cons (rm.mono f1) (.cons (Rep.int _) .nil))) m1
    ⟨nwl, upd_same, Nat.zero_le _, hlen, [], by rw [upd_ne nwl]; exact upd_same, .nil⟩
  refine ⟨la, _, ⟨fun s => ∃ x3 x4 x5, s = ⟨[some (.sh (.r (.ref wa))), some (.sh (.d (Mt size reach))), some (.sh (.d (.int N))), x3, x4, x5], (accW size reach N).length⟩, fun _ _ => False, fun _ => False, fun _ => False⟩, E1.1, l_iloop hm h1 h5 rfl _ fun x3 x4 x5 => ⟨x3, x4, x5, rfl⟩, ?_, fun v σ' H' x s' S1 r q => q.elim, fun σ' H' s' S1 q => q.elim, fun σ' H' s' S1 q => q.elim⟩
  rintro σ' H2 s' S ⟨x3, x4, x5, rfl⟩
  obtain ⟨_, g1, _, _, xs, g2, g3⟩ := S.env.g
  have g3 : RepL _ H2 xs ((accW size reach N).take (accW size reach N).length) := g3
  rw [List.take_length] at g3
  obtain ⟨v0, e0, r0⟩ := S.env.sh 0 _ rfl
  cases (show v0 = V.ref wa from r0)
  intro kd hkd
  have nkw : kd ≠ wa := fun z => by rw [z, show H2 wa = _ from g1] at hkd; cases hkd
  have nkl : kd ≠ la := fun z => by rw [z, show H2 la = _ from g2] at hkd; cases hkd
  refine ⟨_, e0, wa, C, dx, [("arcs", .ref la)], rfl, ?_, c.cls, kn, by simp, ?_⟩
  · rw [upd_ne (Ne.symm nkw)]; exact g1
  have dom2 : ∀ a, H2 a = none → H a = none := fun a h => by
    have := S.fr.dom a h
    by_cases q1 : a = wa
    · rw [q1, upd_same] at this; cases this
    · rw [upd_ne q1] at this
      by_cases q2 : a = la
      · rw [q2]; exact hla
      · rw [upd_ne q2] at this; exact this
  have keep2 : ∀ a o, H a = some o → a ≠ wa → H2 a = some o := fun a o h n => by
    have nl : a ≠ la := fun z => by rw [z, hla] at h; cases h
    refine S.fr.keep a o ?_ (fun z => z.elim n nl) (E1.2 a)
    rw [upd_ne n, upd_ne nl]; exact h
  refine kk la kd _ nkw hla (dom2 kd hkd) (fun a o h n => ?_) (fun a h => ?_) upd_same ?_ ?_
  · have nk : a ≠ kd := fun z => by rw [z, dom2 kd hkd] at h; cases h
    rw [upd_ne n, upd_ne nk]; exact keep2 a o h n
  · by_cases q1 : a = wa
    · rw [q1, upd_same] at h; cases h
    · rw [upd_ne q1] at h
      by_cases q2 : a = kd
      · rw [q2, upd_same] at h; cases h
      · rw [upd_ne q2] at h; exact dom2 a h
  · rw [upd_ne nkw]; exact upd_same
  · have f3 : Fr (Zo (W la).Z (OwnA σ' ⟨[some (.sh (.r (.ref wa))), some (.sh (.d (Mt size reach))), some (.sh (.d (.int N))), x3, x4, x5], (accW size reach N).length⟩)) H2 (fun a => Z a ∨ a = wa ∨ a = kd) (upd (upd H2 kd (DctO kd [])) wa (.ins C dx (putF "known" (.ref kd) [("arcs", .ref la)]))) := by
      refine ⟨fun a xs h n => ?_, fun a xs h => ?_, fun a o u h => ?_⟩
      all_goals
        have na : a ≠ wa := fun z => by rw [z, show H2 wa = _ from g1] at h; cases h
        have nl : a ≠ kd := fun z => by rw [z, hkd] at h; cases h
      · rw [upd_ne na, upd_ne nl]
        exact ⟨h, fun z => by rcases z with z | z | z; exact n (.inl (.inl z)); exact na z; exact nl z⟩
      · rw [upd_ne na, upd_ne nl]; exact h
      · rw [upd_ne na, upd_ne nl]; exact h
    have hl : H2 la = some (.lst xs) := g2
    refine .lst (xs := xs) ?_ (fun z => ?_) (g3.mono f3)
    · rw [upd_ne nwl, upd_ne (Ne.symm nkl)]; exact hl
    · rcases z with z | z | z
      · exact mut_ne (mz la z) hla
      · exact nwl z
      · exact nkl z.symm
end DL
/-! LW5: a ways object made, for one call or for the rest of a body. -/
namespace DL
open PySem PySem.Spec PyProof.Rows L2
variable [TheW]
/-- what is known of a ways object just made -/
structure Made (C : Addr) (nm : Nat → Str) (size reach : Nat) (r0 : List Nat) (c : Nat) (Z : Zs) (H H2 : Hp) (p : WayP) : Prop where
  C : p.C = C
  nm : p.nm = nm
  size : p.size = size
  reach : p.reach = reach
  r0 : p.r0 = r0
  c0 : p.c0 = c
  nwa : H p.wa = none
  nkd : H p.kd = none
  ext : Ext H H2
  dom : ∀ a, H2 a = none → H a = none
  g : p.G p.c0 (fun a => Z a ∨ p.F a) H2
theorem make_way {C : Addr} {Z : Zs} {H : Hp} {vm : V} {size reach : Nat} {nm : Nat → Str} {r0 : List Nat} {c : Nat} {Q : VK} (mz : ∀ a, Z a → Mut (H a)) (hm : MtOk size reach) (h1 : 1 ≤ r0.length) (h5 : r0.length ≤ 5) (rm : Rep Z H vm (Mt size reach))
    (hQ : ∀ p H2, Made C nm size reach r0 c Z H H2 p → Q (.ref p.wa) H2) :
    ∀ x dx, H x = none → H dx = none → dx ≠ x → spIni C (.ref x :: ([vm, .int r0.length] ++ [])) (upd (upd H dx (.own x)) x (.ins C dx [])) (fun v H2 => v = .non ∧ Q (.ref x) H2) E0 := by
  intro x dx hx hdx hne
  have ext0 : Ext H (upd (upd H dx (.own x)) x (.ins C dx [])) := fun a o h => by
    rw [upd_ne (fun z => by rw [z, hx] at h; cases h), upd_ne (fun z => by rw [z, hdx] at h; cases h)]; exact h
  refine ⟨Z, x, dx, vm, size, reach, r0.length, fun a z => by rw [ext0.eq (mut_ne (mz a z))]; exact mz a z, fun z => mut_ne (mz x z) hx, hm, h1, h5, rfl, rm.mono (ext0.fr Z), upd_same, ?_⟩
  intro la kd H' nkw nla nkd keep dom hwa hkd hrep
  refine ⟨rfl, hQ ⟨x, C, dx, kd, la, nm, size, reach, r0, c⟩ H' ⟨rfl, rfl, rfl, rfl, rfl, rfl, hx, ?_, ?_, ?_, ?_⟩⟩
  · exact ext0.none nkd
  · exact fun a o h => keep a o (ext0 a o h) fun z => by rw [z, hx] at h; cases h
  · exact fun a h => ext0.none (dom a h)
  · exact ⟨rfl, nkw, hwa, hrep, [], [], hkd, .nil, .inl rfl⟩
/-- a state seen again after a call that wrote only what is new -/
theorem EnvR.keepF {W : Wd} {σ : L2.St} {H H' : Hp} {s : DSt} (E : EnvR W σ H s) (f : Fr (Zo W.Z (OwnA σ s)) H (Zo W.Z (OwnA σ s)) H') (ho : ∀ a, Zo W.Z (OwnA σ s) a → H' a = H a) : EnvR W σ H' s := by
  refine ⟨E.len, fun i x h => ?_, fun i o h => ?_, E.uniq, fun a z => by rw [ho a (.inl z)]; exact E.muz a z, W.stab _ _ _ _ _ E.g (fun a h => ho a (.inl (W.FZ a h))) f⟩
  · obtain ⟨v, a, b⟩ := E.sh i x h
    exact ⟨v, a, b.mono f⟩
  · obtain ⟨a, e1, e2, e3⟩ := E.own i o h
    exact ⟨a, e1, e2.mono f (ho a (.inr ⟨i, o, h, e1⟩)), e3⟩
/-- the class as a call makes it -/
structure WayK (K : PySem.W.Frag) (mg : Str → Option Value) (base : Heap) (C fi : Addr) (fdi : FuncData) : Prop where
  made : Mk K C fi
  init : FnOk TheW.P TheW.w K mg base CX0 8 fi fdi ["self", "meeting", "many"] (spIni C)
  mg : mg "Ways" = some (.ref C)
  b : L2.Binds K fdi ["self", "meeting", "many"] []
section
variable {X : Cx} {W : Wd} {e a b : Expr} {es : List Expr} {pos p1 p2 pos2 : Pos} {k j : Nat} {C fi : Addr} {fdi : FuncData}
/-- x(Ways(meeting, many), ..) -/
def dWays (T : WayP → DFT) (Ta Tc : DTA) : DTE := fun s Q => Ta s fun xs s1 => ∃ nm size reach r0, MtOk size reach ∧ 1 ≤ r0.length ∧ r0.length ≤ 5 ∧ xs = [.d (Mt size reach), .d (.int (r0.length : Nat))] ∧
  Tc s1 fun ys s2 => ∀ p : WayP, p.nm = nm → p.size = size → p.reach = reach → p.r0 = r0 → T p (p.self :: ys) p.c0 fun x _ => Q x s2
theorem de_ways {x : Str} {T : WayP → DFT} {Ta Tc : DTA} (hP : X.prog = TheW.P ∧ X.w = TheW.w) (hCX : FnOk X.prog X.w X.K X.mg X.base CX0 8 fi fdi ["self", "meeting", "many"] (spIni C)) (M : Mk X.K C fi) (hmg : X.mg "Ways" = some (.ref C)) (hb : L2.Binds X.K fdi ["self", "meeting", "many"] [])
    (F : DFn X.prog X.w X.K X.mg X.base k x (fun vs H Q E => ∃ p : WayP, p.C = C ∧ spD p.F p.G (T p) vs H Q E)) (hr : Room j X.A) (hk : k ≤ j) (hj : 9 ≤ j) (hg : Gl X x) (hgW : Gl X "Ways") (ha : DAC X W [a, b] Ta) (hc : DAC X W (e :: es) Tc)
    (hdb : (x == ("__debug__" : Str)) = false := by decide)
    (hstW : starEach [a, b] X.env = (false, eval a X.env) :: starEach [b] X.env := by rfl) (hplW : (backTo pos2 (starEach [b] X.env)).any (·.1) = false := by rfl)
    (hs0 : starEach (.Call (.Name "Ways" p2) [a, b] [] pos2 :: e :: es) X.env = (false, eval (.Call (.Name "Ways" p2) [a, b] [] pos2) X.env) :: starEach (e :: es) X.env := by rfl)
    (hpl : (backTo pos (starEach (e :: es) X.env)).any (·.1) = false := by rfl) :
    DE X W (.Call (.Name x p1) (.Call (.Name "Ways" p2) [a, b] [] pos2 :: e :: es) [] pos) (dWays T Ta Tc) := by
  refine (pe_def F hr hk hg (pa_cons (pe_make M hCX (hr.mono hj) hgW hmg hb .nil pass0 ha (by decide) hstW hplW) hc hs0) hdb hs0 hpl).weak fun σ H Q' ⟨s, Q, E, t, kk⟩ => ?_
  refine ⟨s, _, E, t, fun vs H1 xs s1 S1 r1 t1 => ?_⟩
  obtain ⟨nm, size, reach, r0, hm, h1, h5, rfl, t1⟩ := t1
  obtain ⟨vm, rfl, rm⟩ : ∃ vm, vs = [vm, .int (r0.length : Nat)] ∧ Rep (Zo W.Z (OwnA σ s1)) H1 vm (Mt size reach) := by
    cases r1 with
    | cons r rr =>
    cases rr with
    | cons r' rr =>
    cases rr
    cases (show Rep _ H1 _ (.int (r0.length : Nat)) from r')
    exact ⟨_, rfl, r⟩
  have mz1 := S1.env.mzo
  refine make_way (C := C) (c := s1.c) (nm := nm) (Q := fun x H1 => liftAC W Tc σ H1 fun xs H2 => ∃ p : WayP, p.C = C ∧ spD p.F p.G (T p) ((x :: xs) ++ []) H2 Q' E0) mz1 hm h1 h5 rm fun p H2 md => ?_
  have E2 : EnvR W σ H2 s1 := S1.env.ext md.ext
  refine ⟨s1, _, E2, t1, fun ys H3 zs s2 S2 r2 t2 => ?_⟩
  have t2 := t2 p md.nm md.size md.reach md.r0
  show ∃ p' : WayP, p'.C = C ∧ spD p'.F p'.G (T p') ((V.ref p.wa :: ys) ++ []) H3 Q' E0
  rw [List.append_nil]
  have z1 : ∀ q, p.F q → ¬ Zo W.Z (OwnA σ s1) q := fun q hq z => by
    have m := mz1 q z
    rcases hq with hq | hq
    · rw [hq, md.nwa] at m; exact m
    · rw [hq, md.nkd] at m; exact m
  obtain ⟨gc, gn, g1, g2, kvs, kds, g3, g4, g5⟩ := md.g
  have keepF : ∀ q, p.F q → H3 q = H2 q ∧ ¬ Zo W.Z (OwnA σ s2) q := fun q hq => by
    have nn : H2 q ≠ none := by
      rcases hq with hq | hq
      · rw [hq, g1]; exact fun z => by cases z
      · rw [hq, g3]; exact fun z => by cases z
    have no1 : ¬ OwnA σ s1 q := fun z => z1 q hq (.inr z)
    have no2 : ¬ OwnA σ s2 q := fun z => by
      rcases S2.fr.own q z with z | z
      · exact no1 z
      · exact nn z
    have nz : ¬ W.Z q := fun z => z1 q hq (.inl z)
    refine ⟨?_, fun z => z.elim nz no2⟩
    cases e0 : H2 q with
    | none => exact absurd e0 nn
    | some o => exact S2.fr.keep q o e0 (fun z => nz (W.FZ q z)) no1
  let Z3 : Zs := fun a => Zo W.Z (OwnA σ s2) a ∨ p.F a
  have f23 : Fr (fun a => Zo W.Z (OwnA σ s1) a ∨ p.F a) H2 Z3 H3 := by
    have f := E2.fr S2.fr
    exact ⟨fun a xs h n => let ⟨q1, q2⟩ := f.lst a xs h fun z => n (.inl z); ⟨q1, fun z => z.elim q2 fun z => n (.inr z)⟩, f.tup, f.frz⟩
  have g3' : p.G p.c0 Z3 H3 := p.stab _ _ _ _ _ md.g (fun a h => (keepF a h).1) f23
  have f3 : Fr (Zo W.Z (OwnA σ s2)) H3 Z3 H3 := ⟨fun a xs h n => ⟨h, fun z => z.elim n fun z => by
    have hm2 : H2 a ≠ none ∧ H3 a = H2 a := by
      refine ⟨?_, (keepF a z).1⟩
      rcases z with z | z
      · rw [z, g1]; exact fun z => by cases z
      · rw [z, g3]; exact fun z => by cases z
    rw [hm2.2] at h
    rcases z with z | z
    · rw [z, g1] at h; cases h
    · rw [z, g3] at h; cases h⟩, fun _ _ h => h, fun _ _ _ h => h⟩
  have m3 : ∀ a, Z3 a → Mut (H3 a) := fun a z => z.elim (S2.env.mzo a) fun z => by
    rw [(keepF a z).1]
    rcases z with z | z
    · rw [z, g1]; trivial
    · rw [z, g3]; trivial
  refine ⟨p, md.C, Z3, p.self :: zs, p.c0, _, m3, fun a h => .inr h, g3', .cons (show ShR Z3 H3 (V.ref p.wa) p.self from rfl) (Paired.mapP r2 fun _ _ z => z.mono f3), t2, ?_⟩
  intro v H4 x c' f m4 g4 r4 q
  have ho : ∀ a, Zo W.Z (OwnA σ s2) a → H4 a = H3 a := fun a z => by
    have m := S2.env.mzo a z
    cases e0 : H3 a with
    | none => rw [e0] at m; exact m.elim
    | some o => exact f.keep a o e0 (fun h => (keepF a h).2 z) (fun h => h)
  have f34 : Fr (Zo W.Z (OwnA σ s2)) H3 (Zo W.Z (OwnA σ s2)) H4 := by
    have nF : ∀ a o, H3 a = some o → ¬ Mut (some o) → ¬ p.F a := fun a o h n hf => by
      have := m3 a (.inr hf)
      rw [h] at this
      exact n this
    refine ⟨fun a xs h n => ⟨f.keep a _ h (fun hf => ?_) (fun h => h), n⟩, fun a xs h => f.keep a _ h (nF a _ h fun z => z) (fun h => h), fun a o u h => f.keep a _ h (nF a _ h fun z => z) (fun h => h)⟩
    rw [(keepF a hf).1] at h
    rcases hf with z | z
    · rw [z, g1] at h; cases h
    · rw [z, g3] at h; cases h
  have E4 := S2.env.keepF f34 ho
  have S4 : Stp W σ H s σ H4 s2 := by
    refine ⟨E4, ?_⟩
    have fa : FrO W.F (OwnA σ s) H (OwnA σ s2) H3 := (S1.fr.trans (md.ext.frO _ _)).trans S2.fr
    refine ⟨fun a o h nf no => ?_, fun a h => fa.own a h, fun a h => fa.dom a (f.dom a h)⟩
    refine f.keep a o (fa.keep a o h nf no) (fun hf => ?_) (fun h => h)
    have : H a = none := S1.fr.dom a (by
      rcases hf with z | z
      · rw [z]; exact md.nwa
      · rw [z]; exact md.nkd)
    rw [this] at h; cases h
  exact kk v H4 x s2 S4 ((r4.mono (Fr.shrink fun a z => .inl z)).dvr) q
end
end DL
/-! LW6: a ways object made for the rest of a body. -/
namespace DL
open PySem PySem.Spec PyProof.Rows L2
variable [TheW]
def WayW (W : Wd) (p : WayP) : Wd := ⟨fun a => W.Z a ∨ p.F a, p.F, p.G, fun a h => .inr h, p.stab⟩
theorem pss_ex {X : Cx} {α : Type} {st : List Stmt} {t : α → TS} (h : ∀ a, PSs X st (t a)) : PSs X st (fun D σ H => ∃ a, t a D σ H) := ⟨fun pins s σ H D I ⟨a, q⟩ => (h a).run pins s σ H D I q⟩
theorem way_env {W : Wd} {σ : L2.St} {H1 H2 : Hp} {s1 : DSt} {C : Addr} {nm : Nat → Str} {size reach : Nat} {r0 : List Nat} {p : WayP} (E : EnvR W σ H1 s1) (md : Made C nm size reach r0 s1.c (Zo W.Z (OwnA σ s1)) H1 H2 p) : EnvR (WayW W p) σ H2 s1 := by
  have E2 := E.ext md.ext
  obtain ⟨gc, gn, g1, g2, kvs, kds, g3, g4, g5⟩ := md.g
  have f3 : Fr (Zo W.Z (OwnA σ s1)) H2 (Zo (WayW W p).Z (OwnA σ s1)) H2 := ⟨fun a xs h n => ⟨h, fun z => by
    rcases z with (z | z) | z
    · exact n (.inl z)
    · rcases z with z | z
      · rw [z, g1] at h; cases h
      · rw [z, g3] at h; cases h
    · exact n (.inr z)⟩, fun _ _ h => h, fun _ _ _ h => h⟩
  refine ⟨E2.len, fun i x h => ?_, fun i o h => ?_, E2.uniq, fun a z => ?_, ?_⟩
  · obtain ⟨v, a, b⟩ := E2.sh i x h
    exact ⟨v, a, b.mono f3⟩
  · obtain ⟨a, e1, e2, e3⟩ := E2.own i o h
    refine ⟨a, e1, e2.mono f3 rfl, fun z => z.elim e3 fun z => ?_⟩
    have m := (E.omut (a := a) ⟨i, o, h, e1⟩).1
    rcases z with z | z
    · rw [z, md.nwa] at m; exact m
    · rw [z, md.nkd] at m; exact m
  · rcases z with z | z
    · exact E2.muz a z
    · rcases z with z | z
      · rw [z, g1]; trivial
      · rw [z, g3]; trivial
  · show p.G s1.c _ H2
    rw [← md.c0]
    refine p.stab _ _ _ _ _ md.g (fun _ _ => rfl) (Fr.shrink fun a z => ?_)
    rcases z with (z | z) | z
    · exact .inl (.inl z)
    · exact .inr z
    · exact .inl (.inr z)
theorem way_back {W : Wd} {σ σ' : L2.St} {H H1 H2 H' : Hp} {s s1 s' : DSt} {C : Addr} {nm : Nat → Str} {size reach : Nat} {r0 : List Nat} {p : WayP} {i : Nat} {v : V} {x : DV} (S1 : Stp W σ H s σ H1 s1) (md : Made C nm size reach r0 s1.c (Zo W.Z (OwnA σ s1)) H1 H2 p)
    (S : Stp (WayW W p) (σ.set i (some v)) H2 (s1.set i (.sh x)) σ' H' s') : Stp W σ H s σ' H' s' := by
  have nF : ∀ a o, H1 a = some o → ¬ p.F a := fun a o h z => by
    rcases z with z | z
    · rw [z, md.nwa] at h; cases h
    · rw [z, md.nkd] at h; cases h
  have fo1 : FrO W.F (OwnA σ s1) H1 (OwnA σ' s') H' := by
    refine ⟨fun a o h nf no => S.fr.keep a o (md.ext _ _ h) (nF a o h) fun z => no (ownA_setSh z), fun a h => ?_, fun a h => md.dom a (S.fr.dom a h)⟩
    rcases S.fr.own a h with z | z
    · exact .inl (ownA_setSh z)
    · exact .inr (md.dom a z)
  refine ⟨?_, S1.fr.trans fo1⟩
  have fs : Fr (Zo (WayW W p).Z (OwnA σ' s')) H' (Zo W.Z (OwnA σ' s')) H' := Fr.shrink fun a z => z.elim (fun z => .inl (.inl z)) .inr
  refine ⟨S.env.len, fun i x h => ?_, fun i o h => ?_, S.env.uniq, fun a z => S.env.muz a (.inl z), ?_⟩
  · obtain ⟨v, a, b⟩ := S.env.sh i x h
    exact ⟨v, a, b.mono fs⟩
  · obtain ⟨a, e1, e2, e3⟩ := S.env.own i o h
    exact ⟨a, e1, e2.mono fs rfl, fun z => e3 (.inl z)⟩
  · have hc : s'.c = s1.c := by
      have := S.env.g.1
      rw [this, md.c0]
    rw [hc]
    refine W.stab _ _ _ _ _ S1.env.g (fun a h => ?_) (S1.env.fr fo1)
    have m := S1.env.muz a (W.FZ a h)
    cases e0 : H1 a with
    | none => rw [e0] at m; exact m.elim
    | some o =>
      refine S.fr.keep a o (md.ext _ _ e0) (nF a o e0) fun z => ?_
      exact (S1.env.omut (ownA_setSh z)).2 (W.FZ a h)
section
variable {X : Cx} {W : Wd} {e a b : Expr} {rest : List Stmt} {pos p2 pos2 pos' : Pos} {j : Nat} {C fi : Addr} {fdi : FuncData}
/-- ways = Ways(meeting, many), and the rest of the body -/
def dWayS (i : Nat) (Ta : DTA) (U : WayP → DTS) : DTS := fun D s => Ta s fun xs s1 => i < s1.e.length ∧ ∃ nm size reach r0, MtOk size reach ∧ 1 ≤ r0.length ∧ r0.length ≤ 5 ∧ xs = [.d (Mt size reach), .d (.int (r0.length : Nat))] ∧
  ∀ p : WayP, p.nm = nm → p.size = size → p.reach = reach → p.r0 = r0 → U p D (s1.set i (.sh p.self))
theorem dss_ways {i : Nat} {x : Str} {Ta : DTA} {U : WayP → DTS} (hCX : FnOk X.prog X.w X.K X.mg X.base CX0 8 fi fdi ["self", "meeting", "many"] (spIni C)) (M : Mk X.K C fi) (hmg : X.mg "Ways" = some (.ref C)) (hb : L2.Binds X.K fdi ["self", "meeting", "many"] [])
    (hr : Room j X.A) (hj : 9 ≤ j) (hgW : Gl X "Ways") (ha : DAC X W [a, b] Ta) (hN : X.N.Nodup) (hi : X.N[i]? = some x) (hx : Loc X.env.scope x)
    (hrest : ∀ p : WayP, p.C = C → DSs X (WayW W p) rest (U p))
    (hs : swapsWith (.Call (.Name "Ways" p2) [a, b] [] pos2) (some (.Name x pos')) pos.line X.env = pure false := by rfl)
    (hf : X.fn x = true ∨ X.env.scope.names.lookup x = some .local := by first | exact .inl rfl | exact .inr rfl | assumption)
    (hstW : starEach [a, b] X.env = (false, eval a X.env) :: starEach [b] X.env := by rfl) (hplW : (backTo pos2 (starEach [b] X.env)).any (·.1) = false := by rfl) :
    DSs X W (.Assign [.Name x pos'] (.Call (.Name "Ways" p2) [a, b] [] pos2) pos :: rest) (dWayS i Ta U) := by
  refine (pss_cons (ps_set hN hi hx (pe_make M hCX (hr.mono hj) hgW hmg hb .nil pass0 ha (by decide) hstW hplW) hs hf) (pss_ex (α := {p : WayP // p.C = C}) (t := fun p => liftS (WayW W p.1) (U p.1)) fun p => hrest p.1 p.2)).weak fun D' σ H ⟨s, D, E, t, kn, kr, kb, kc⟩ => ?_
  refine ⟨s, _, E, t, fun vs H1 xs s1 S1 r1 t1 => ?_⟩
  obtain ⟨hil, nm, size, reach, r0, hm, h1, h5, rfl, t1⟩ := t1
  obtain ⟨vm, rfl, rm⟩ : ∃ vm, vs = [vm, .int (r0.length : Nat)] ∧ Rep (Zo W.Z (OwnA σ s1)) H1 vm (Mt size reach) := by
    cases r1 with
    | cons r rr =>
    cases rr with
    | cons r' rr =>
    cases rr
    cases (show Rep _ H1 _ (.int (r0.length : Nat)) from r')
    exact ⟨_, rfl, r⟩
  refine make_way (C := C) (c := s1.c) (nm := nm) (Q := fun v H2 => ∃ p : {p : WayP // p.C = C}, liftS (WayW W p.1) (U p.1) D' (σ.set i (some v)) H2) S1.env.mzo hm h1 h5 rm fun p H2 md => ?_
  have E2 := way_env S1.env md
  refine ⟨⟨p, md.C⟩, s1.set i (.sh p.self), D, E2.setSh (by rw [E2.len]; exact hil) rfl, t1 p md.nm md.size md.reach md.r0, ?_, ?_, ?_, ?_⟩
  · exact fun σ' H' s' S q => kn _ _ _ (way_back S1 md S) q
  · exact fun v σ' H' x s' S r q => kr _ _ _ _ _ (way_back S1 md S) (r.mono (Fr.shrink fun a z => z.elim (fun z => .inl (.inl z)) .inr)) q
  · exact fun σ' H' s' S q => kb _ _ _ (way_back S1 md S) q
  · exact fun σ' H' s' S q => kc _ _ _ (way_back S1 md S) q
end
end DL
/-! SW: specs of the defs that use a ways object. -/
namespace DL
open PySem PySem.Spec PyProof.Rows L2
variable [TheW]
/-- the rows that come behind r0 and fit -/
def iCome (gone : List (List Nat × List (Nat × Nat))) (t : List Nat) (ban : Ban) : List (List Nat) := (gone.filter fun e => iFits t e.1 && iBanRow ban 1 e.1 && iBanDay ban 0 e.2).map (·.1)
def iComeR (R : Bool) (gone : List (List Nat × List (Nat × Nat))) (t : List Nat) (ban : Ban) : List (List Nat) := if R = true then iCome gone t ban else []
/-- what is asked of the row -/
structure PreW (p : WayP) (n : Nat) : Prop where
  ok : WayOk p n
  nd : (p.gone.map (·.1)).Nodup
def aheadD (p : WayP) (R : Bool) : PyData := .dict (if R = true then [(tN p.nm p.r0, .none)] else [])
def comeD (nm : Nat → Str) (r0 : List Nat) (come : List (List Nat)) : PyData := .dict (come.map fun r => (tN nm r, tN nm r0))
def t_rows_come (p : WayP) : DFT := fun xs c K => ∃ n t ban, ∃ R : Bool, PreW p n ∧ Lt n t ∧ t.length ≤ 24 ∧ BanOk n p.r0.length ban ∧ xs = [p.self, .d (aheadD p R), .d (tN p.nm t), .d (banD p.nm ban), .d (.int 1)] ∧ K (.d (comeD p.nm p.r0 (iComeR R p.gone t ban))) c
def iHere (bs t0 : List Nat) (ban : Ban) : List (List Nat) := (iRows bs bs.length).filter fun row => iFits t0 row && iBanRow ban 0 row
def t_row_sets (p : WayP) : DFT := fun xs c K => ∃ n bs t1 ban, ∃ R : Bool, PreW p n ∧ Lt n bs ∧ bs.length = p.r0.length ∧ Lt n t1 ∧ t1.length ≤ 24 ∧ BanOk n p.r0.length ban ∧ iHere bs p.r0 ban = (if R = true then [p.r0] else []) ∧
  xs = [p.self, .d (.tuple [tN p.nm bs, .tuple [tN p.nm p.r0, tN p.nm t1]]), .d (banD p.nm ban)] ∧ K (.d (.list [aheadD p R, comeD p.nm p.r0 (iComeR R p.gone t1 ban)])) c
def t_has_next_rows (p : WayP) : DFT := fun xs c K => ∃ n t ban, ∃ R : Bool, PreW p n ∧ Lt n t ∧ t.length ≤ 24 ∧ BanOk n p.r0.length ban ∧ iComeR R p.gone t ban = [] ∧
  xs = [p.self, .d (.tuple (if R = true then [tN p.nm p.r0] else [])), .d (tN p.nm t), .d (banD p.nm ban), .d (.int 1), .d (.tuple [])] ∧ K (.d (.bool true)) c
/-- how the two mornings stand: the first row is r0 -/
structure MorP (nm : Nat → Str) (n size reach : Nat) (bs r0 t1 : List Nat) (ban : Ban) (R : Bool) : Prop where
  pre : ∀ p : WayP, p.nm = nm → p.size = size → p.reach = reach → p.r0 = r0 → PreW p n
  mt : MtOk size reach
  l1 : 1 ≤ r0.length
  l5 : r0.length ≤ 5
  hbs : Lt n bs
  bl : bs.length = r0.length
  ht1 : Lt n t1
  tl : t1.length = r0.length
  hban : BanOk n r0.length ban
  here : iHere bs r0 ban = (if R = true then [r0] else [])
def iGoneP (size reach : Nat) (r0 : List Nat) : List (List Nat × List (Nat × Nat)) := iGone (iWays size reach r0.length) r0
def morD (nm : Nat → Str) (bs r0 t1 : List Nat) : PyData := .tuple [tN nm bs, .tuple [tN nm r0, tN nm t1]]
def stopD (nm : Nat → Str) (r0 : List Nat) (R : Bool) : PyData := .tuple [.tuple (if R = true then [tN nm r0] else []), .tuple []]
def t_chart_by : DFT := fun xs c K => ∃ nm n size reach bs r0 t1 ban, ∃ R : Bool, MorP nm n size reach bs r0 t1 ban R ∧ xs = [.d (Mt size reach), .d (morD nm bs r0 t1), .d (banD nm ban)] ∧
  ((iComeR R (iGoneP size reach r0) t1 ban = [] ∧ K (.d (.tuple [.str "wall", stopD nm r0 R])) c) ∨
   (∃ rs, iComeR R (iGoneP size reach r0) t1 ban = [t1] ∧ ToldPre nm n size reach r0 t1 ∧ Told size reach r0 t1 = some rs ∧ RsOk rs ∧ K (.d (.tuple [.str "chart", .tuple [tN nm r0, .tuple [dayD nm (iDay nm rs)]]])) c))
def t_shows_stop : DFT := fun xs c K => ∃ nm n size reach bs r0 t1 ban, ∃ R : Bool, MorP nm n size reach bs r0 t1 ban R ∧ FullRow nm n bs r0 ∧ iComeR R (iGoneP size reach r0) t1 ban = [] ∧
  xs = [.d (Mt size reach), .d (morD nm bs r0 t1), .d (banD nm ban), .d (stopD nm r0 R)] ∧ K (.d (.bool true)) c
end DL
/-! DE7: defs of the text: their terms of rules, printed by gen.py. -/
namespace DL
open PySem PySem.Spec PyProof.Rows L2
variable [TheW]
abbrev st_rows_come : Stmt := top 48
abbrev sc_rows_come : Scope := defScope st_rows_come
abbrev N_rows_come : List Str := ["ways", "ahead", "torn", "ban", "m", "later", "row", "there", "met"]
theorem fs_rows_come : FnScope N_rows_come ["ways", "ahead", "torn", "ban", "m"] sc_rows_come := ⟨rfl, rfl, rfl, by decide +kernel, rfl, by decide +kernel, by decide +kernel⟩
def u_rows_come (p : WayP) : DTS := (dSeq (dOwn 5 fDT)
    (dSeq (dFor (iSeq (dVar 1)) (dGName 6) (dFor (iItems (dWay p 0 (t_gone p) (cCons (dVar 6) cNil))) (dGTup 2 (dGCons (dGName 7) (dGCons (dGName 8) dGNil))) (dIf (dAndT (dTest (dCallP t_row_fits (cCons (dVar 2) (cCons (dVar 7) cNil)))) (dAndT (dTest (dCallP t_ban_lets_row (cCons (dVar 3) (cCons (dVar 4) (cCons (dVar 7) cNil))))) (dTest (dCallP t_ban_lets_day (cCons (dVar 3) (cCons (dOp gSub (dVar 4) (dC (.int 1))) (cCons (dVar 8) cNil))))))) (dAsg (dVar 6) (dGSub 5 (dVar 7))) dNext)))
    (dRet (dVar 5))))
theorem d_rows_come {K : PySem.W.Frag} {mg : Str → Option Value} {base : Heap} {f : Addr} {cdv : Value} {A : Around} {outer : List Env} {s : Shared} {H : Hp} {E : XK} {W : Wd} {p : WayP} {fg fn : Addr} {fdn : FuncData} (c : WayC K p.C fg fn) (Fn : FnOk TheW.P TheW.w K mg base CX0 3 fn fdn ["self", "row"] (spD p.F p.G (t_gone p))) (bn : L2.Binds K fdn ["self", "row"] []) (hF : W.F = p.F) (hG : W.G = p.G) (M : Mg mg) (Frow_fits : DFn TheW.P TheW.w K mg base 1 "row_fits" (spP t_row_fits)) (Fban_lets_row : DFn TheW.P TheW.w K mg base 1 "ban_lets_row" (spP t_ban_lets_row)) (Fban_lets_day : DFn TheW.P TheW.w K mg base 1 "ban_lets_day" (spP t_ban_lets_day)) (hr : Room 3 (cx N_rows_come "rows_come" sc_rows_come K mg base f cdv A outer s H E).A) : DSs (cx N_rows_come "rows_come" sc_rows_come K mg base f cdv A outer s H E) W (defBody st_rows_come) (u_rows_come p) := by
  have nd := fs_rows_come.nd
  exact (dss_cons (ds_own (i := 5) nd rfl (Or.inl rfl) df_dT)
    (dss_cons (ds_for PassesOwn.never rfl (di_seq (dv 1)) (dg_name (i := 6) nd rfl (Or.inl rfl)) (dss_one (ds_for PassesOwn.never rfl (di_items (de_way (i := 0) c.cls c.nexts rfl hF hG Fn hr (by decide) bn (ac_cons (dv 6) ac_nil))) (dg_tup rfl (dgs_cons (dg_name (i := 7) nd rfl (Or.inl rfl)) (dgs_cons (dg_name (i := 8) nd rfl (Or.inl rfl)) dgs_nil))) (dss_one (ds_if (dt_w (dw_and (dt_val (de_call Frow_fits hr (by decide) rfl (ac_cons (dv 2) (ac_cons (dv 7) ac_nil)))) (dw_and (dt_val (de_call Fban_lets_row hr (by decide) rfl (ac_cons (dv 3) (ac_cons (dv 4) (ac_cons (dv 7) ac_nil))))) (dw_and1 (dt_val (de_call Fban_lets_day hr (by decide) rfl (ac_cons (dv 3) (ac_cons (de_op od_sub (dv 4) de_int) (ac_cons (dv 8) ac_nil))))))))) (dss_one (ds_asg (dv 6) (dg_sub (i := 5) ⟨rfl, rfl⟩ hr (dv 7)))) dss_nil)))))
    (dss_one (ds_ret (dv 5)))))

abbrev st_row_sets : Stmt := top 49
abbrev sc_row_sets : Scope := defScope st_row_sets
abbrev N_row_sets : List Str := ["ways", "mornings", "ban", "boats", "torns", "here", "row", "sets", "m"]
theorem fs_row_sets : FnScope N_row_sets ["ways", "mornings", "ban"] sc_row_sets := ⟨rfl, rfl, rfl, by decide +kernel, rfl, by decide +kernel, by decide +kernel⟩
def u_row_sets (p : WayP) : DTS := (dSeq (dAsg (dVar 1) (dGTup 2 (dGCons (dGName 3) (dGCons (dGName 4) dGNil))))
    (dSeq (dOwn 5 fDT)
    (dSeq (dFor (iSeq (dCallP t_all_rows (cCons (dVar 3) cNil))) (dGName 6) (dIf (dAndT (dTest (dCallP t_row_fits (cCons (dIx (dVar 4) (dC (.int 0))) (cCons (dVar 6) cNil)))) (dTest (dCallP t_ban_lets_row (cCons (dVar 2) (cCons (dC (.int 0)) (cCons (dVar 6) cNil)))))) (dAsg (dC .none) (dGSub 5 (dVar 6))) dNext))
    (dSeq (dOwn 7 (fLst (cCons (dVar 5) cNil)))
    (dSeq (dFor (iR2 (cCons (dC (.int 1)) (cCons (dCB gLen (dCons (dVar 4) dNil)) cNil))) (dGName 8) (dSeq (dSet 5 (dCall (t_rows_come p) (cCons (dVar 0) (cCons (dVar 5) (cCons (dIx (dVar 4) (dVar 8)) (cCons (dVar 2) (cCons (dVar 8) cNil)))))))
    (dDrop (dM 7 (cCons (dVar 5) cNil) mAppend))))
    (dRet (dVar 7)))))))
theorem d_row_sets {K : PySem.W.Frag} {mg : Str → Option Value} {base : Heap} {f : Addr} {cdv : Value} {A : Around} {outer : List Env} {s : Shared} {H : Hp} {E : XK} {W : Wd} {p : WayP} {fg fn : Addr} {fdn : FuncData} (c : WayC K p.C fg fn) (Fn : FnOk TheW.P TheW.w K mg base CX0 3 fn fdn ["self", "row"] (spD p.F p.G (t_gone p))) (bn : L2.Binds K fdn ["self", "row"] []) (hF : W.F = p.F) (hG : W.G = p.G) (M : Mg mg) (Frows_come : DFn TheW.P TheW.w K mg base 4 "rows_come" (spD p.F p.G (t_rows_come p))) (Fall_rows : DFn TheW.P TheW.w K mg base 1 "all_rows" (spP t_all_rows)) (Frow_fits : DFn TheW.P TheW.w K mg base 1 "row_fits" (spP t_row_fits)) (Fban_lets_row : DFn TheW.P TheW.w K mg base 1 "ban_lets_row" (spP t_ban_lets_row)) (hr : Room 4 (cx N_row_sets "row_sets" sc_row_sets K mg base f cdv A outer s H E).A) : DSs (cx N_row_sets "row_sets" sc_row_sets K mg base f cdv A outer s H E) W (defBody st_row_sets) (u_row_sets p) := by
  have nd := fs_row_sets.nd
  exact (dss_cons (ds_asg (dv 1) (dg_tup rfl (dgs_cons (dg_name (i := 3) nd rfl (Or.inl rfl)) (dgs_cons (dg_name (i := 4) nd rfl (Or.inl rfl)) dgs_nil))))
    (dss_cons (ds_own (i := 5) nd rfl (Or.inl rfl) df_dT)
    (dss_cons (ds_for PassesOwn.never rfl (di_seq (de_call Fall_rows hr (by decide) rfl (ac_cons (dv 3) ac_nil))) (dg_name (i := 6) nd rfl (Or.inl rfl)) (dss_one (ds_if (dt_w (dw_and (dt_val (de_call Frow_fits hr (by decide) rfl (ac_cons (de_ix ⟨rfl, rfl⟩ hr (dv 4) de_int (fun _ _ => rfl)) (ac_cons (dv 6) ac_nil)))) (dw_and1 (dt_val (de_call Fban_lets_row hr (by decide) rfl (ac_cons (dv 2) (ac_cons de_int (ac_cons (dv 6) ac_nil)))))))) (dss_one (ds_asg de_non (dg_sub (i := 5) ⟨rfl, rfl⟩ hr (dv 6)))) dss_nil)))
    (dss_cons (ds_own (i := 7) nd rfl (Or.inl rfl) (df_lst (da_of (ac_cons (dv 5) ac_nil))))
    (dss_cons (ds_for PassesOwn.never rfl (di_range2 rfl M.range (ac_cons de_int (ac_cons (de_callB (cr_len ⟨rfl, rfl⟩) rfl M.len boot_len (da_cons (dv 4) da_nil)) ac_nil))) (dg_name (i := 8) nd rfl (Or.inl rfl)) (dss_cons (ds_set (i := 5) nd rfl (Or.inl rfl) (de_callV hF hG Frows_come hr (by decide) rfl (ac_cons (dv 0) (ac_cons (dv 5) (ac_cons (de_ix ⟨rfl, rfl⟩ hr (dv 4) (dv 8) (fun _ _ => rfl)) (ac_cons (dv 2) (ac_cons (dv 8) ac_nil)))))))
    (dss_one (ds_expr (de_append (i := 7) (ac_cons (dv 5) ac_nil))))))
    (dss_one (ds_ret (dv 7))))))))

end DL
/-! L14: rows_come. -/
namespace DL
open PySem PySem.Spec PyProof.Rows L2
variable [TheW]
theorem PreW.rows {p : WayP} {n : Nat} (h : PreW p n) : RowsOk n p.r0.length 18 p.gone ∧ p.gone.length ≤ 100 := by
  have w := h.ok.ws
  have o := outer_ok h.ok.lt p.ws fun s hs => w.arc s hs
  have l := w.len
  have l2 := w.pr p.ws.length l
  rw [List.take_length] at l2
  refine ⟨fun x hx => ?_, Nat.le_trans o.2 l2⟩
  have := o.1 x hx
  have t3 := this.2.2.1
  exact ⟨this.1, this.2.1, by omega, this.2.2.2⟩
def passE (t : List Nat) (ban : Ban) (e : List Nat × List (Nat × Nat)) : Bool := iFits t e.1 && iBanRow ban 1 e.1 && iBanDay ban 0 e.2
def comeK (nm : Nat → Str) (r0 : List Nat) (come : List (List Nat)) : List (PyData × PyData) := come.map fun r => (tN nm r, tN nm r0)
theorem put_come {nm : Nat → Str} {n : Nat} {r0 r : List Nat} {come : List (List Nat)} (hn : Nm nm n) (hc : ∀ x ∈ come, Lt n x) (hr : Lt n r) (nm1 : r ∉ come) : putP (comeK nm r0 come) (tN nm r) (tN nm r0) = comeK nm r0 (come ++ [r]) := by
  have e1 : ((comeK nm r0 come).any fun p => PyData.eqv p.1 (tN nm r)) = false := by
    unfold comeK
    rw [List.any_map]
    refine List.any_eq_false.mpr fun x hx => ?_
    show ¬ PyData.eqv (tN nm x) (tN nm r) = true
    rw [hn.eqT (hc x hx) hr, decide_eq_true_eq]
    exact fun z => nm1 (z ▸ hx)
  unfold putP
  rw [e1, if_neg Bool.false_ne_true]
  unfold comeK
  rw [List.map_append]
  rfl
theorem l_rows_come (p : WayP) : Law (t_rows_come p) (u_rows_come p) N_rows_come := by
  rintro xs c K ⟨n, t, ban, R, pre, ht, htl, hban, rfl, q⟩
  have hn := pre.ok.nm
  have ⟨ro, rl⟩ := pre.rows
  cases R
  · exact q
  refine ⟨rfl, rfl, ?_⟩
  conv => whnf
  refine dl_gk ?_
  refine dLoop_list (fun e => .p [tN p.nm e.1, metD p.nm e.2]) p.gone (fun dn s => ∃ (x7 x8 : Option DS), s = ⟨[some (.sh p.self), some (.sh (.d (aheadD p true))), some (.sh (.d (tN p.nm t))), some (.sh (.d (banD p.nm ban))), some (.sh (.d (.int 1))), some (.own (.dct (comeK p.nm p.r0 ((dn.filter (passE t ban)).map (·.1))))), some (.sh (.d (tN p.nm p.r0))), x7, x8], c⟩) ?_ ?_ _ ⟨none, none, rfl⟩
  · rintro dn e rs s R2 e2 ⟨x7, x8, rfl⟩ hR
    have hem : e ∈ p.gone := by rw [e2]; simp
    have he := ro e hem
    have hdl : dn.length ≤ 100 := by rw [e2, List.length_append] at rl; omega
    have hfl := List.length_filter_le (passE t ban) dn
    have h5 := pre.ok.l5
    have hskip : passE t ban e = false → R2 ⟨[some (.sh p.self), some (.sh (.d (aheadD p true))), some (.sh (.d (tN p.nm t))), some (.sh (.d (banD p.nm ban))), some (.sh (.d (.int 1))), some (.own (.dct (comeK p.nm p.r0 ((dn.filter (passE t ban)).map (·.1))))), some (.sh (.d (tN p.nm p.r0))), some (.sh (.d (tN p.nm e.1))), some (.sh (.d (metD p.nm e.2)))], c⟩ := fun hp => by
      refine hR _ ⟨some (.sh (.d (tN p.nm e.1))), some (.sh (.d (metD p.nm e.2))), ?_⟩
      rw [List.filter_append, List.filter_cons, hp]
      simp
    refine ⟨rfl, rfl, ?_⟩
    refine ⟨p.nm, n, t, e.1, hn, ht, he.1, by omega, rfl, ?_⟩
    conv => whnf
    refine ifB (fun c1 => ?_) (fun c1 => hskip (by unfold passE; rw [c1]; rfl))
    refine ⟨p.nm, n, ban, e.1, 1, hn, he.1, by rw [he.2.1]; exact hban, rfl, ?_⟩
    conv => whnf
    refine ifB (fun c2 => ?_) (fun c2 => hskip (by unfold passE; rw [c1, c2]; rfl))
    refine ⟨trivial, p.nm, n, p.r0.length, ban, e.2, 0, hn, he.2.2.2, hban, .inl rfl, ?_⟩
    conv => whnf
    refine ifB (fun c3 => ?_) (fun c3 => hskip (by unfold passE; rw [c1, c2, c3]; rfl))
    have hp : passE t ban e = true := by unfold passE; rw [c1, c2, c3]; rfl
    refine ⟨⟨_, rfl⟩, ?_⟩
    refine ⟨by rw [toKs_row]; rfl, by simp [comeK]; omega, ?_⟩
    refine hR _ ⟨some (.sh (.d (tN p.nm e.1))), some (.sh (.d (metD p.nm e.2))), ?_⟩
    have hnot : e.1 ∉ (dn.filter (passE t ban)).map (·.1) := fun z => by
      obtain ⟨x, hx, hxe⟩ := List.mem_map.mp z
      have hx := (List.mem_filter.mp hx).1
      have nd := pre.nd
      rw [e2, List.map_append, List.map_cons] at nd
      have := (List.nodup_append.mp nd).2.2 x.1 (List.mem_map_of_mem hx) e.1 (by simp)
      exact this hxe
    have hput := put_come (r0 := p.r0) hn (come := (dn.filter (passE t ban)).map (·.1)) (fun x hx => by
      obtain ⟨y, hy, rfl⟩ := List.mem_map.mp hx
      exact (ro y (by rw [e2]; simp [(List.mem_filter.mp hy).1])).1) he.1 hnot
    rw [List.filter_append, List.filter_cons, hp, if_pos rfl, List.filter_nil, List.map_append, List.map_cons, List.map_nil, ← hput]
    rfl
  · rintro s ⟨x7, x8, rfl⟩
    exact q
end DL
/-! L15: row_sets. -/
namespace DL
open PySem PySem.Spec PyProof.Rows L2
variable [TheW]
def okH (t0 : List Nat) (ban : Ban) (row : List Nat) : Bool := iFits t0 row && iBanRow ban 0 row
def hereK (nm : Nat → Str) (rows : List (List Nat)) : List (PyData × PyData) := rows.map fun r => (tN nm r, .none)
theorem iRows_facts {n : Nat} {bs : List Nat} (hb : Lt n bs) : ∀ k, ∀ r ∈ iRows bs k, Lt n r ∧ r.length = k := fun k => by
  induction k with
  | zero => intro r hr; simp [iRows] at hr; subst hr; exact ⟨fun x hx => (by cases hx), rfl⟩
  | succ k ih =>
    intro r hr
    obtain ⟨r0, h0, h1⟩ := List.mem_flatMap.mp (show r ∈ iExt bs (iRows bs k) from hr)
    obtain ⟨b, hb1, rfl⟩ := List.mem_map.mp h1
    have hi := ih r0 h0
    refine ⟨fun x hx => ?_, by rw [List.length_append, hi.2]; rfl⟩
    rcases List.mem_append.mp hx with h | h
    · exact hi.1 x h
    · rw [List.mem_singleton.mp h]; exact hb _ (List.mem_filter.mp hb1).1
theorem l_row_sets (p : WayP) : Law (t_row_sets p) (u_row_sets p) N_row_sets := by
  rintro xs c K ⟨n, bs, t1, ban, R, pre, hbs, hbl, ht1, htl, hban, hhere, rfl, q⟩
  have hn := pre.ok.nm
  have h5 := pre.ok.l5
  have rl := iRows_facts hbs bs.length
  refine ⟨rfl, rfl, ?_⟩
  refine ⟨p.nm, n, bs, hn, hbs, by omega, rfl, ?_⟩
  conv => whnf
  refine dl_map ?_
  have hpre : ∀ done row rest, iRows bs bs.length = done ++ row :: rest → okH p.r0 ban row = true → done.filter (okH p.r0 ban) = [] := fun done row rest e hr => by
    have h1 : (iRows bs bs.length).filter (okH p.r0 ban) = (if R = true then [p.r0] else []) := hhere
    rw [e, List.filter_append, List.filter_cons, hr, if_pos rfl] at h1
    have := congrArg List.length h1
    rw [List.length_append, List.length_cons] at this
    refine List.eq_nil_of_length_eq_zero ?_
    cases R <;> simp at this <;> omega
  refine dLoop_list (fun r => .d (tN p.nm r)) (iRows bs bs.length) (fun done s => ∃ x6 : Option DS, s = ⟨[some (.sh p.self), some (.sh (.d (.tuple [tN p.nm bs, .tuple [tN p.nm p.r0, tN p.nm t1]]))), some (.sh (.d (banD p.nm ban))), some (.sh (.d (tN p.nm bs))), some (.sh (.d (.tuple [tN p.nm p.r0, tN p.nm t1]))), some (.own (.dct (hereK p.nm (done.filter (okH p.r0 ban))))), x6, none, none], c⟩) ?_ ?_ _ ⟨none, rfl⟩
  · rintro done row rest s R2 e ⟨x6, rfl⟩ hR
    have hrow := rl row (by rw [e]; simp)
    have hskip : okH p.r0 ban row = false → R2 ⟨[some (.sh p.self), some (.sh (.d (.tuple [tN p.nm bs, .tuple [tN p.nm p.r0, tN p.nm t1]]))), some (.sh (.d (banD p.nm ban))), some (.sh (.d (tN p.nm bs))), some (.sh (.d (.tuple [tN p.nm p.r0, tN p.nm t1]))), some (.own (.dct (hereK p.nm (done.filter (okH p.r0 ban))))), some (.sh (.d (tN p.nm row))), none, none], c⟩ := fun hp => by
      refine hR _ ⟨some (.sh (.d (tN p.nm row))), ?_⟩
      rw [List.filter_append, List.filter_cons, hp]
      simp
    refine ⟨_, rfl, p.nm, n, p.r0, row, hn, pre.ok.lt, hrow.1, by omega, rfl, ?_⟩
    conv => whnf
    refine ifB (fun c1 => ?_) (fun c1 => hskip (by unfold okH; rw [c1]; rfl))
    refine ⟨p.nm, n, ban, row, 0, hn, hrow.1, by rw [hrow.2, hbl]; exact hban, rfl, ?_⟩
    conv => whnf
    refine ifB (fun c2 => ?_) (fun c2 => hskip (by unfold okH; rw [c1, c2]; rfl))
    have hp : okH p.r0 ban row = true := by unfold okH; rw [c1, c2]; rfl
    have hnil := hpre done row rest e hp
    refine ⟨⟨_, rfl⟩, ?_⟩
    refine ⟨by rw [toKs_row]; rfl, by rw [hnil]; simp [hereK], ?_⟩
    refine hR _ ⟨some (.sh (.d (tN p.nm row))), ?_⟩
    rw [List.filter_append, List.filter_cons, hp, if_pos rfl, hnil]
    rfl
  · rintro s ⟨x6, rfl⟩
    have h1 : (iRows bs bs.length).filter (okH p.r0 ban) = (if R = true then [p.r0] else []) := hhere
    rw [h1]
    have h2 : hereK p.nm (if R = true then [p.r0] else []) = (if R = true then [(tN p.nm p.r0, .none)] else []) := by cases R <;> rfl
    rw [h2]
    refine ⟨by simp, ?_⟩
    refine ⟨⟨by omega, by omega⟩, ⟨by simp, by simp⟩, ?_⟩
    refine ⟨_, rfl, n, t1, ban, R, pre, ht1, htl, hban, rfl, ?_⟩
    refine ⟨⟨_, rfl⟩, ?_⟩
    refine ⟨_, rfl, by simp, ?_⟩
    exact q
end DL
/-! DE8: defs of the text: their terms of rules, printed by gen.py. -/
namespace DL
open PySem PySem.Spec PyProof.Rows L2
variable [TheW]
section
variable {X : Cx} {W : Wd}
def dFalse : DTS := fun _ _ => False
theorem ds_false {st : Stmt} : DS1 X W st dFalse := ⟨fun pins s σ H D I ⟨_, _, _, h, _⟩ => h.elim⟩
end
abbrev st_chart_by : Stmt := top 55
abbrev sc_chart_by : Scope := defScope st_chart_by
abbrev N_chart_by : List Str := ["meeting", "mornings", "ban", "sets"]
theorem fs_chart_by : FnScope N_chart_by ["meeting", "mornings", "ban"] sc_chart_by := ⟨rfl, rfl, rfl, by decide +kernel, rfl, by decide +kernel, by decide +kernel⟩
def u_chart_by : DTS := (dSeq (dSet 3 (dWays t_row_sets (cCons (dVar 0) (cCons (dCB gLen (dCons (dIx (dVar 1) (dC (.int 0))) dNil)) cNil)) (cCons (dVar 1) (cCons (dVar 2) cNil))))
    (dSeq (dIf (dTest (dOp gEq (dCB gLen (dCons (dIx (dVar 3) (dC (.int (-1)))) dNil)) (dC (.int 0)))) (dRet (dTup (cCons (dC (.str "wall")) (cCons (dCallP t_stop_of (cCons (dVar 3) cNil)) cNil)))) dNext)
    (dRet (dTup (cCons (dC (.str "chart")) (cCons (dCallP t_chart_to_end (cCons (dVar 0) (cCons (dVar 3) cNil))) cNil))))))
theorem d_chart_by {K : PySem.W.Frag} {mg : Str → Option Value} {base : Heap} {f : Addr} {cdv : Value} {A : Around} {outer : List Env} {s : Shared} {H : Hp} {E : XK} {W : Wd} {C fi : Addr} {fdi : FuncData} (wk : WayK K mg base C fi fdi) (Frow_sets : DFn TheW.P TheW.w K mg base 5 "row_sets" (fun vs H Q E => ∃ p : WayP, p.C = C ∧ spD p.F p.G (t_row_sets p) vs H Q E)) (M : Mg mg) (Fchart_to_end : DFn TheW.P TheW.w K mg base 6 "chart_to_end" (spP t_chart_to_end)) (Fstop_of : DFn TheW.P TheW.w K mg base 1 "stop_of" (spP t_stop_of)) (hr : Room 9 (cx N_chart_by "chart_by" sc_chart_by K mg base f cdv A outer s H E).A) : DSs (cx N_chart_by "chart_by" sc_chart_by K mg base f cdv A outer s H E) W (defBody st_chart_by) u_chart_by := by
  have nd := fs_chart_by.nd
  exact (dss_cons (ds_set (i := 3) nd rfl (Or.inl rfl) (de_ways ⟨rfl, rfl⟩ wk.init wk.made wk.mg wk.b Frow_sets hr (by decide) (by decide) rfl rfl (ac_cons (dv 0) (ac_cons (de_callB (cr_len ⟨rfl, rfl⟩) rfl M.len boot_len (da_cons (de_ix ⟨rfl, rfl⟩ hr (dv 1) de_int (fun _ _ => rfl)) da_nil)) ac_nil)) (ac_cons (dv 1) (ac_cons (dv 2) ac_nil))))
    (dss_cons (ds_if (dt_cmp (od_eq hr) (de_callB (cr_len ⟨rfl, rfl⟩) rfl M.len boot_len (da_cons (de_ix ⟨rfl, rfl⟩ hr (dv 3) (de_neg) (fun _ _ => rfl)) da_nil)) de_int (nomark _)) (dss_one (ds_ret (de_tup (da_of (ac_cons de_str (ac_cons (de_call Fstop_of hr (by decide) rfl (ac_cons (dv 3) ac_nil)) ac_nil)))))) dss_nil)
    (dss_one (ds_ret (de_tup (da_of (ac_cons de_str (ac_cons (de_call Fchart_to_end hr (by decide) rfl (ac_cons (dv 0) (ac_cons (dv 3) ac_nil))) ac_nil))))))))

end DL
/-! L16: chart_by. -/
namespace DL
open PySem PySem.Spec PyProof.Rows L2
variable [TheW]
theorem l_chart_by : Law t_chart_by u_chart_by N_chart_by := by
  rintro xs c K ⟨nm, n, size, reach, bs, r0, t1, ban, R, P, rfl, q⟩
  refine ⟨_, rfl, ?_⟩
  refine ⟨nm, size, reach, r0, P.mt, P.l1, P.l5, by simp [tN, P.bl], ?_⟩
  intro p e1 e2 e3 e4
  have pre := P.pre p e1 e2 e3 e4
  subst e1 e2 e3 e4
  refine ⟨n, bs, t1, ban, R, pre, P.hbs, P.bl, P.ht1, by have := P.tl; have := P.l5; omega, P.hban, P.here, rfl, ?_⟩
  have hg : p.gone = iGoneP p.size p.reach p.r0 := rfl
  rw [hg]
  rcases q with ⟨hc, q⟩ | ⟨rs, hc, tp, told, rso, q⟩
  · rw [hc]
    refine ⟨_, rfl, ?_⟩
    refine ⟨okD_int, okD_int, ?_⟩
    conv => whnf
    refine ⟨p.nm, [if R = true then [(p.r0, .none)] else [], []], by simp, ?_, ?_, ?_⟩
    · intro s hs
      have hne : p.r0 ≠ [] := fun z => by have := P.l1; rw [z] at this; simp at this
      rcases List.mem_cons.mp hs with rfl | hs
      · cases R
        · exact ⟨by simp, fun _ h => nomatch h⟩
        · exact ⟨by simp, fun x hx => by rw [List.mem_singleton.mp hx]; exact hne⟩
      · rw [List.mem_singleton.mp hs]
        exact ⟨by simp, fun _ h => nomatch h⟩
    · cases R <;> rfl
    · refine ⟨by simp, ?_⟩
      cases R
      · exact q
      · exact q
  · rw [hc]
    refine ⟨_, rfl, ?_⟩
    refine ⟨okD_int, okD_int, ?_⟩
    conv => whnf
    refine ⟨p.nm, n, p.size, p.reach, p.r0, t1, rs, aheadD p R, tp, told, rso, rfl, ?_⟩
    exact ⟨by simp, q⟩
end DL
/-! LW7: dict([]). -/
namespace DL
open PySem PySem.Spec PyProof.Rows L2
variable [TheW]
section
variable {X : Cx} {W : Wd} {e : Expr} {es : List Expr} {pos p : Pos}
/-- dict of an empty list: something that nobody looks at -/
def dDict0 (Ta : DTA) : DTE := fun s Q => Ta s fun xs s1 => xs = [.d (.list [])] ∧ ∀ v, Q (.r v) s1
theorem de_dict0 {Ta : DTA} (hc : X.calm = true) (hg : Gl X "dict") (hm : X.mg "dict" = none) (ha : DAC X W (e :: es) Ta)
    (he : starEach (e :: es) X.env = (false, eval e X.env) :: starEach es X.env := by rfl) (hpl : (backTo pos (starEach es X.env)).any (·.1) = false := by rfl) : DE X W (.Call (.Name "dict" p) (e :: es) [] pos) (dDict0 Ta) := by
  refine (pe_callTy (call_dictP hc) hg hm (by decide +kernel) ha (by decide) (by decide) he hpl).weak fun σ H Q' ⟨s, Q, E, t, k⟩ => ?_
  refine ⟨s, _, E, t, fun vs H1 xs s1 S1 r1 t1 => ?_⟩
  obtain ⟨rfl, t1⟩ := t1
  cases r1 with
  | cons r rr =>
  cases rr
  have r : Rep _ H1 _ (.list []) := r
  cases r with
  | lst h1 nz rl =>
  cases rl
  refine ⟨_, [], [], rfl, .of h1, .nil, fun q hq => ?_⟩
  exact k (.ref q) _ (.r (.ref q)) s1 (S1.trans (.ext S1.env (.new hq))) rfl (t1 _)
end
end DL
/-! DE9: defs of the text: their terms of rules, printed by gen.py. -/
namespace DL
open PySem PySem.Spec PyProof.Rows L2
variable [TheW]
abbrev st_has_next_rows : Stmt := top 63
abbrev sc_has_next_rows : Scope := defScope st_has_next_rows
abbrev N_has_next_rows : List Str := ["ways", "ahead", "torn", "ban", "m", "some", "held", "row", "there", "met"]
theorem fs_has_next_rows : FnScope N_has_next_rows ["ways", "ahead", "torn", "ban", "m", "some"] sc_has_next_rows := ⟨rfl, rfl, rfl, by decide +kernel, rfl, by decide +kernel, by decide +kernel⟩
def u_has_next_rows (p : WayP) : DTS := (dSeq (dSet 6 (dDict0 (cCons (dOfF (fLc (iSeq (dVar 5)) (dGName 7) dYes (dTup (cCons (dVar 7) (cCons (dC (.bool true)) cNil))) [7])) cNil)))
    (dSeq (dFor (iSeq (dVar 1)) (dGName 7) (dFor (iItems (dWay p 0 (t_gone p) (cCons (dVar 7) cNil))) (dGTup 2 (dGCons (dGName 8) (dGCons (dGName 9) dGNil))) (dIf (dAndT (dTest (dCallP t_row_fits (cCons (dVar 2) (cCons (dVar 8) cNil)))) (dAndT (dTest (dCallP t_ban_lets_row (cCons (dVar 3) (cCons (dVar 4) (cCons (dVar 8) cNil))))) (dTest (dCallP t_ban_lets_day (cCons (dVar 3) (cCons (dOp gSub (dVar 4) (dC (.int 1))) (cCons (dVar 9) cNil))))))) dFalse dNext)))
    (dRet (dC (.bool true)))))
theorem d_has_next_rows {K : PySem.W.Frag} {mg : Str → Option Value} {base : Heap} {f : Addr} {cdv : Value} {A : Around} {outer : List Env} {s : Shared} {H : Hp} {E : XK} {W : Wd} {p : WayP} {fg fn : Addr} {fdn : FuncData} (c : WayC K p.C fg fn) (Fn : FnOk TheW.P TheW.w K mg base CX0 3 fn fdn ["self", "row"] (spD p.F p.G (t_gone p))) (bn : L2.Binds K fdn ["self", "row"] []) (hF : W.F = p.F) (hG : W.G = p.G) (M : Mg mg) (Frow_fits : DFn TheW.P TheW.w K mg base 1 "row_fits" (spP t_row_fits)) (Fban_lets_row : DFn TheW.P TheW.w K mg base 1 "ban_lets_row" (spP t_ban_lets_row)) (Fban_lets_day : DFn TheW.P TheW.w K mg base 1 "ban_lets_day" (spP t_ban_lets_day)) (hr : Room 3 (cx N_has_next_rows "has_next_rows" sc_has_next_rows K mg base f cdv A outer s H E).A) : DSs (cx N_has_next_rows "has_next_rows" sc_has_next_rows K mg base f cdv A outer s H E) W (defBody st_has_next_rows) (u_has_next_rows p) := by
  have nd := fs_has_next_rows.nd
  exact (dss_cons (ds_set (i := 6) nd rfl (Or.inl rfl) (de_dict0 rfl rfl M.dict (ac_cons (de_ofF (df_lc (own := [("row", 7)]) rfl nd (di_seq (dv 5)) (blkOk_by (N := N_has_next_rows) (sc := sc_has_next_rows) (by decide +kernel)) (tg_name (by decide)) (fun _ _ _ _ _ => (pg_name (i := 7) nd rfl (Or.inl rfl))) (fun _ _ _ _ _ _ => dts_nil) (fun _ _ _ _ _ _ => (de_tup (da_of (ac_cons (dv 7) (ac_cons de_bl ac_nil))))))) ac_nil)))
    (dss_cons (ds_for PassesOwn.never rfl (di_seq (dv 1)) (dg_name (i := 7) nd rfl (Or.inl rfl)) (dss_one (ds_for PassesOwn.never rfl (di_items (de_way (i := 0) c.cls c.nexts rfl hF hG Fn hr (by decide) bn (ac_cons (dv 7) ac_nil))) (dg_tup rfl (dgs_cons (dg_name (i := 8) nd rfl (Or.inl rfl)) (dgs_cons (dg_name (i := 9) nd rfl (Or.inl rfl)) dgs_nil))) (dss_one (ds_if (dt_w (dw_and (dt_val (de_call Frow_fits hr (by decide) rfl (ac_cons (dv 2) (ac_cons (dv 8) ac_nil)))) (dw_and (dt_val (de_call Fban_lets_row hr (by decide) rfl (ac_cons (dv 3) (ac_cons (dv 4) (ac_cons (dv 8) ac_nil))))) (dw_and1 (dt_val (de_call Fban_lets_day hr (by decide) rfl (ac_cons (dv 3) (ac_cons (de_op od_sub (dv 4) de_int) (ac_cons (dv 9) ac_nil))))))))) (dss_one ds_false) dss_nil)))))
    (dss_one (ds_ret de_bl))))

abbrev st_shows_stop : Stmt := top 64
abbrev sc_shows_stop : Scope := defScope st_shows_stop
abbrev N_shows_stop : List Str := ["meeting", "mornings", "ban", "thing", "boats", "torns", "ways", "m", "one"]
theorem fs_shows_stop : FnScope N_shows_stop ["meeting", "mornings", "ban", "thing"] sc_shows_stop := ⟨rfl, rfl, rfl, by decide +kernel, rfl, by decide +kernel, by decide +kernel⟩
def u_shows_stop : DTS := (dSeq (dAsg (dVar 1) (dGTup 2 (dGCons (dGName 4) (dGCons (dGName 5) dGNil))))
    (dSeq (dIf (dOrT (dNotT (dTest (dCB gIsi (dCons (dVar 3) (dCons (dR (.ty "tuple")) dNil))))) (dOrT (dTest (dOp gNe (dCB gLen (dCons (dVar 3) dNil)) (dCB gLen (dCons (dVar 5) dNil)))) (dNotT (dTest (dCB gAll (dCons (dOfF (fLc (iSeq (dVar 3)) (dGName 8) dYes (dCallP t_is_row_set (cCons (dVar 4) (cCons (dVar 8) cNil))) [8])) dNil)))))) (dRet (dC (.bool false))) dNext)
    (dSeq (dIf (dOrT (dTest (dOp gNe (dIx (dVar 3) (dC (.int (-1)))) (dTup cNil))) (dNotT (dTest (dCallP t_has_first_rows (cCons (dVar 1) (cCons (dVar 2) (cCons (dIx (dVar 3) (dC (.int 0))) cNil))))))) (dRet (dC (.bool false))) dNext)
    (dWayS 6 (cCons (dVar 0) (cCons (dCB gLen (dCons (dVar 4) dNil)) cNil)) (fun p => (dSeq (dFor (iR2 (cCons (dC (.int 1)) (cCons (dCB gLen (dCons (dVar 5) dNil)) cNil))) (dGName 7) (dIf (dNotT (dTest (dCall (t_has_next_rows p) (cCons (dVar 6) (cCons (dIx (dVar 3) (dOp gSub (dVar 7) (dC (.int 1)))) (cCons (dIx (dVar 5) (dVar 7)) (cCons (dVar 2) (cCons (dVar 7) (cCons (dIx (dVar 3) (dVar 7)) cNil))))))))) (dRet (dC (.bool false))) dNext))
    (dRet (dC (.bool true)))))))))
theorem d_shows_stop {K : PySem.W.Frag} {mg : Str → Option Value} {base : Heap} {f : Addr} {cdv : Value} {A : Around} {outer : List Env} {s : Shared} {H : Hp} {E : XK} {W : Wd} {C fi : Addr} {fdi : FuncData} (wk : WayK K mg base C fi fdi) (M : Mg mg) (Fhas_first_rows : DFn TheW.P TheW.w K mg base 2 "has_first_rows" (spP t_has_first_rows)) (Fis_row_set : DFn TheW.P TheW.w K mg base 5 "is_row_set" (spP t_is_row_set)) (Fhas_next_rows : ∀ p : WayP, p.C = C → DFn TheW.P TheW.w K mg base 4 "has_next_rows" (spD p.F p.G (t_has_next_rows p))) (hr : Room 9 (cx N_shows_stop "shows_stop" sc_shows_stop K mg base f cdv A outer s H E).A) : DSs (cx N_shows_stop "shows_stop" sc_shows_stop K mg base f cdv A outer s H E) W (defBody st_shows_stop) u_shows_stop := by
  have nd := fs_shows_stop.nd
  exact (dss_cons (ds_asg (dv 1) (dg_tup rfl (dgs_cons (dg_name (i := 4) nd rfl (Or.inr rfl)) (dgs_cons (dg_name (i := 5) nd rfl (Or.inl rfl)) dgs_nil))))
    (dss_cons (ds_if (dt_w (dw_or (dt_not (dt_val (de_callB cr_isi rfl M.isinstance (by decide +kernel) (da_cons (dv 3) (da_cons (de_bltn rfl M.tuple (by decide +kernel)) da_nil))))) (dw_or (dt_cmp (od_ne hr) (de_callB (cr_len ⟨rfl, rfl⟩) rfl M.len boot_len (da_cons (dv 3) da_nil)) (de_callB (cr_len ⟨rfl, rfl⟩) rfl M.len boot_len (da_cons (dv 5) da_nil)) (nomark _)) (dw_or1 (dt_not (dt_val (de_callB (cr_allD rfl) rfl M.all (by decide +kernel) (da_cons (de_ofF (df_lc (own := [("one", 8)]) rfl nd (di_seq (dv 3)) (blkOk_by (N := N_shows_stop) (sc := sc_shows_stop) (by decide +kernel)) (tg_name (by decide)) (fun _ _ _ _ _ => (pg_name (i := 8) nd rfl (Or.inl rfl))) (fun _ _ _ _ _ _ => dts_nil) (fun _ _ _ _ _ _ => (de_call Fis_row_set hr (by decide) rfl (ac_cons (dv 4) (ac_cons (dv 8) ac_nil)))))) da_nil)))))))) (dss_one (ds_ret de_bl)) dss_nil)
    (dss_cons (ds_if (dt_w (dw_or (dt_cmp (od_ne hr) (de_ix ⟨rfl, rfl⟩ hr (dv 3) (de_neg) (fun _ _ => rfl)) (de_tup (da_of ac_nil)) (nomark _)) (dw_or1 (dt_not (dt_val (de_call Fhas_first_rows hr (by decide) rfl (ac_cons (dv 1) (ac_cons (dv 2) (ac_cons (de_ix ⟨rfl, rfl⟩ hr (dv 3) de_int (fun _ _ => rfl)) ac_nil))))))))) (dss_one (ds_ret de_bl)) dss_nil)
    (dss_ways (i := 6) wk.init wk.made wk.mg wk.b hr (by decide) rfl (ac_cons (dv 0) (ac_cons (de_callB (cr_len ⟨rfl, rfl⟩) rfl M.len boot_len (da_cons (dv 4) da_nil)) ac_nil)) nd rfl (Or.inl rfl) (fun p hp => (dss_cons (ds_for PassesOwn.never rfl (di_range2 rfl M.range (ac_cons de_int (ac_cons (de_callB (cr_len ⟨rfl, rfl⟩) rfl M.len boot_len (da_cons (dv 5) da_nil)) ac_nil))) (dg_name (i := 7) nd rfl (Or.inl rfl)) (dss_one (ds_if (dt_not (dt_val (de_callV rfl rfl (Fhas_next_rows p hp) hr (by decide) rfl (ac_cons (dv 6) (ac_cons (de_ix ⟨rfl, rfl⟩ hr (dv 3) (de_op od_sub (dv 7) de_int) (fun _ _ => rfl)) (ac_cons (de_ix ⟨rfl, rfl⟩ hr (dv 5) (dv 7) (fun _ _ => rfl)) (ac_cons (dv 2) (ac_cons (dv 7) (ac_cons (de_ix ⟨rfl, rfl⟩ hr (dv 3) (dv 7) (fun _ _ => rfl)) ac_nil))))))))) (dss_one (ds_ret de_bl)) dss_nil)))
    (dss_one (ds_ret de_bl))))))))
end DL
/-! L17: has_next_rows. -/
namespace DL
open PySem PySem.Spec PyProof.Rows L2
variable [TheW]
theorem l_has_next_rows (p : WayP) : Law (t_has_next_rows p) (u_has_next_rows p) N_has_next_rows := by
  rintro xs c K ⟨n, t, ban, R, pre, ht, htl, hban, hcome, rfl, q⟩
  have hn := pre.ok.nm
  have ⟨ro, rl⟩ := pre.rows
  have h5 := pre.ok.l5
  refine ⟨by simp, ?_⟩
  refine ⟨rfl, fun v => ?_⟩
  cases R
  · exact q
  have hno : ∀ e ∈ p.gone, passE t ban e = false := fun e he => by
    have h1 : (p.gone.filter (passE t ban)).map (·.1) = [] := hcome
    have h2 := List.map_eq_nil_iff.mp h1
    have := List.filter_eq_nil_iff.mp h2 e he
    exact Bool.eq_false_iff.mpr this
  refine ⟨rfl, rfl, ?_⟩
  conv => whnf
  refine dl_gk ?_
  refine dLoop_list (fun e => .p [tN p.nm e.1, metD p.nm e.2]) p.gone (fun dn s => ∃ (x8 x9 : Option DS), s = ⟨[some (.sh p.self), some (.sh (.d (.tuple [tN p.nm p.r0]))), some (.sh (.d (tN p.nm t))), some (.sh (.d (banD p.nm ban))), some (.sh (.d (.int 1))), some (.sh (.d (.tuple []))), some (.sh (.r v)), some (.sh (.d (tN p.nm p.r0))), x8, x9], c⟩) ?_ ?_ _ ⟨none, none, rfl⟩
  · rintro dn e rs s R2 e2 ⟨x8, x9, rfl⟩ hR
    have hem : e ∈ p.gone := by rw [e2]; simp
    have he := ro e hem
    have hf := hno e hem
    have hskip : R2 ⟨[some (.sh p.self), some (.sh (.d (.tuple [tN p.nm p.r0]))), some (.sh (.d (tN p.nm t))), some (.sh (.d (banD p.nm ban))), some (.sh (.d (.int 1))), some (.sh (.d (.tuple []))), some (.sh (.r v)), some (.sh (.d (tN p.nm p.r0))), some (.sh (.d (tN p.nm e.1))), some (.sh (.d (metD p.nm e.2)))], c⟩ :=
      hR _ ⟨some (.sh (.d (tN p.nm e.1))), some (.sh (.d (metD p.nm e.2))), rfl⟩
    refine ⟨rfl, rfl, ?_⟩
    refine ⟨p.nm, n, t, e.1, hn, ht, he.1, by omega, rfl, ?_⟩
    conv => whnf
    refine ifB (fun c1 => ?_) (fun c1 => hskip)
    refine ⟨p.nm, n, ban, e.1, 1, hn, he.1, by rw [he.2.1]; exact hban, rfl, ?_⟩
    conv => whnf
    refine ifB (fun c2 => ?_) (fun c2 => hskip)
    refine ⟨trivial, p.nm, n, p.r0.length, ban, e.2, 0, hn, he.2.2.2, hban, .inl rfl, ?_⟩
    conv => whnf
    refine ifB (fun c3 => ?_) (fun c3 => hskip)
    unfold passE at hf
    rw [c1, c2, c3] at hf
    cases hf
  · rintro s ⟨x8, x9, rfl⟩
    exact q
end DL
set_option maxHeartbeats 2000000
/-! L18: shows_stop. -/
namespace DL
open PySem PySem.Spec PyProof.Rows L2
variable [TheW]
theorem full_nm {nm : Nat → Str} {n size reach : Nat} {bs r0 t1 : List Nat} {ban : Ban} {R : Bool} (P : MorP nm n size reach bs r0 t1 ban R) : Nm nm n := (P.pre ⟨0, 0, 0, 0, 0, nm, size, reach, r0, 0⟩ rfl rfl rfl rfl).ok.nm
theorem l_shows_stop : Law t_shows_stop u_shows_stop N_shows_stop := by
  rintro xs c K ⟨nm, n, size, reach, bs, r0, t1, ban, R, P, full, hcome, rfl, q⟩
  refine ⟨rfl, rfl, _, _, rfl, rfl, ?_⟩
  conv => whnf
  have hn : Nm nm n := full_nm P
  refine ⟨okD_int, okD_int, ifF (by simp [PyData.eqv]) ?_⟩
  have hr : (if R = true then [tN nm r0] else []) = (if R = true then [r0] else []).map (tN nm) := by cases R <;> rfl
  conv => whnf
  refine ⟨by simp, ?_⟩
  refine ⟨nm, n, bs, if R = true then [r0] else [], hn, by cases R <;> simp, fun r h => ?_, by rw [hr], ?_⟩
  · cases R
    · exact nomatch h
    · rw [List.mem_singleton.mp h]; exact full
  conv => whnf
  refine ⟨nm, n, bs, [], hn, by simp, (fun r h => nomatch h), rfl, ?_⟩
  conv => whnf
  refine ⟨[true, true], rfl, ?_⟩
  have hlt : Lt n r0 := (P.pre ⟨0, 0, 0, 0, 0, nm, size, reach, r0, 0⟩ rfl rfl rfl rfl).ok.lt
  have l5 := P.l5
  have tl := P.tl
  have bl := P.bl
  conv => whnf
  refine ⟨_, rfl, ?_⟩
  refine ⟨by simp, ?_⟩
  refine ⟨rfl, rfl, ifF (by simp [PyData.eqv, PyData.eqvAll]) ?_⟩
  conv => whnf
  have hfirst : iFirst r0 ban (if R = true then [r0] else []) (iRows bs bs.length) = true := by
    refine List.all_eq_true.mpr fun row hrow => ?_
    cases h : iFits r0 row && iBanRow ban 0 row
    · rfl
    · have : row ∈ iHere bs r0 ban := List.mem_filter.mpr ⟨hrow, h⟩
      rw [P.here] at this
      simp [this]
  refine ⟨_, rfl, nm, n, bs, r0, tN nm t1, ban, if R = true then [r0] else [], hn, P.hbs, by omega, hlt, by omega, by rw [bl]; exact P.hban, fun r h => ?_, by rw [hr]; rfl, ?_⟩
  · cases R
    · exact nomatch h
    · rw [List.mem_singleton.mp h]; exact hlt
  rw [hfirst]
  conv => whnf
  refine ⟨(show 6 < 9 by decide), nm, size, reach, r0, P.mt, P.l1, P.l5, by simp [bl], ?_⟩
  intro p e1 e2 e3 e4
  have pre := P.pre p e1 e2 e3 e4
  subst e1 e2 e3 e4
  refine ⟨⟨by omega, by omega⟩, ⟨by simp, by simp⟩, ?_⟩
  conv => whnf
  refine ⟨trivial, _, rfl, _, rfl, _, rfl, n, t1, ban, R, pre, P.ht1, by omega, P.hban, hcome, rfl, ?_⟩
  exact q
end DL
/-! LV1: the law's well: what stands at it; a taking from it. -/
namespace DL
open PySem PySem.Spec PyProof.Rows L2
variable [TheW]
structure WelP where
  da : Addr
  la : Addr
namespace WelP
def F (p : WelP) : Zs := fun a => a = p.da ∨ a = p.la
def kv (p : WelP) (seed turn : Int) : List (Key × V) := [(.inr "own", .ref p.la), (.inr "seed", .int seed), (.inr "turn", .int turn)]
def at_ (p : WelP) (H : Hp) (ns : List Int) (seed turn : Int) : Prop := H p.da = some (.dK (p.kv seed turn)) ∧ H p.la = some (.lst (ns.map V.int))
def G (p : WelP) : Nat → Zs → Hp → Prop := fun c _ H => p.la ≠ p.da ∧ ∃ ns seed turn, p.at_ H ns seed turn ∧ ns.length ≤ 63 ∧ (∀ n ∈ ns, 0 ≤ n) ∧ 0 ≤ seed ∧ seed < 2 ^ 61 ∧ 0 ≤ turn ∧ turn ≤ c
theorem stab (p : WelP) : ∀ c Z Z' H H', p.G c Z H → (∀ a, p.F a → H' a = H a) → Fr Z H Z' H' → p.G c Z' H' := by
  rintro c Z Z' H H' ⟨n, ns, seed, turn, ⟨h1, h2⟩, r⟩ hf f
  exact ⟨n, ns, seed, turn, ⟨(hf _ (.inl rfl)).trans h1, (hf _ (.inr rfl)).trans h2⟩, r⟩
def self (p : WelP) : DV := .r (.ref p.da)
end WelP
def t_take (p : WelP) : DFT := fun xs c K => ∃ many : Nat, 1 ≤ many ∧ many ≤ 1000 ∧ c < 1000000 ∧ xs = [p.self, .d (.int many)] ∧ ∀ d c', d < many → c' ≤ c + 1 → K (.d (.int (d : Nat))) c'
abbrev st_take : Stmt := top 67
abbrev sc_take : Scope := defScope st_take
abbrev N_take : List Str := ["_law_well_here", "_law_many", "_law_digit", "_law_turn", "_law_once"]
theorem fs_take : FnScope N_take ["_law_well_here", "_law_many"] sc_take := ⟨rfl, rfl, rfl, by decide +kernel, rfl, by decide +kernel, by decide +kernel⟩
end DL
set_option maxHeartbeats 2000000
/-! LV1b: what the well's reads give. -/
namespace DL
open PySem PySem.Spec PyProof.Rows L2
variable [TheW]
section
variable {p : WelP} {σ : L2.St} {H : Hp} {ns : List Int} {s t : Int} {Q : VK}
theorem w_own (h0 : σ[0]? = some (some (.ref p.da))) (h : p.at_ H ns s t) (q : Q (.ref p.la) H) : tDGet (tVar 0) (tC (.str "own")) σ H Q := ⟨_, h0, p.da, .ref p.la, rfl, (show DGet H p.da (kV (.inr "own")) (valV (p.kv s t) (.inr "own")) from .k h.1), q⟩
theorem w_seed (h0 : σ[0]? = some (some (.ref p.da))) (h : p.at_ H ns s t) (q : Q (.int s) H) : tDGet (tVar 0) (tC (.str "seed")) σ H Q := ⟨_, h0, p.da, .int s, rfl, (show DGet H p.da (kV (.inr "seed")) (valV (p.kv s t) (.inr "seed")) from .k h.1), q⟩
theorem w_turn (h0 : σ[0]? = some (some (.ref p.da))) (h : p.at_ H ns s t) (q : Q (.int t) H) : tDGet (tVar 0) (tC (.str "turn")) σ H Q := ⟨_, h0, p.da, .int t, rfl, (show DGet H p.da (kV (.inr "turn")) (valV (p.kv s t) (.inr "turn")) from .k h.1), q⟩
theorem repL_ints {Z : Zs} {H : Hp} : ∀ ns : List Int, RepL Z H (ns.map V.int) (ns.map PyData.int)
  | [] => .nil
  | n :: r => .cons (.int n) (repL_ints r)
theorem w_ne {Z : Zs} (mz : ∀ a, Z a → Mut (H a)) (h0 : σ[0]? = some (some (.ref p.da))) (h : p.at_ H ns s t) (q : ∀ H', Ext H H' → Q (.bl (!ns.isEmpty)) H') : tOp (opRel gNe) (tDGet (tVar 0) (tC (.str "own"))) (tLst tNil) σ H Q := by
  refine w_own h0 h ⟨Nat.zero_le _, fun l hl => ?_⟩
  have x : Ext H (upd H l (.lst [])) := .new hl
  refine ⟨Z, .list (ns.map .int), .list [], fun d => d = .bool (!ns.isEmpty), fun a z => by rw [x.eq (mut_ne (mz a z))]; exact mz a z, ⟨p.la, _, rfl, x _ _ h.2, repL_ints ns⟩, ⟨l, [], rfl, upd_same, .nil⟩, ⟨?_, rfl, ?_⟩, ?_⟩
  · show (ns.map PyData.int).all (okD 7) = true
    rw [List.all_map]
    exact List.all_eq_true.mpr fun _ _ => okD_int
  · cases ns <;> simp [PyData.eqv, PyData.eqvAll]
  · rintro v H' d x2 r rfl
    cases (show Rep Z H' v (.bool (!ns.isEmpty)) from r)
    exact q H' (x.trans x2)
end
end DL
set_option maxHeartbeats 2000000
/-! LV2: a taking from the well (under way). -/
namespace DL
open PySem PySem.Spec PyProof.Rows L2
variable [TheW]
section
variable {X : Cx} {k : Nat} {x : Str} {i : Nat}
structure TakI (p : WelP) (Z : Zs) (H : Hp) (ns : List Int) (seed turn : Int) (H' : Hp) : Prop where
  hat : p.at_ H' ns seed turn
  len : ns.length ≤ 63
  nn : ∀ n ∈ ns, 0 ≤ n
  fr : FrO p.F (fun _ => False) H (fun _ => False) H'
  mz : ∀ a, Z a → Mut (H' a)
theorem TakI.ext {p : WelP} {Z : Zs} {H H1 H2 : Hp} {ns : List Int} {seed turn : Int} (h : TakI p Z H ns seed turn H1) (x : Ext H1 H2) : TakI p Z H ns seed turn H2 :=
  ⟨⟨x _ _ h.hat.1, x _ _ h.hat.2⟩, h.len, h.nn, h.fr.trans (x.frO _ _), fun a z => by rw [x.eq (mut_ne (h.mz a z))]; exact h.mz a z⟩
theorem TakI.setL {p : WelP} {Z : Zs} {H H1 : Hp} {ns ns2 : List Int} {seed turn : Int} (fz : ∀ a, p.F a → Z a) (nla : p.la ≠ p.da) (h : TakI p Z H ns seed turn H1) (hl : ns2.length ≤ 63) (hn : ∀ n ∈ ns2, 0 ≤ n) : TakI p Z H ns2 seed turn (upd H1 p.la (.lst (ns2.map V.int))) := by
  refine ⟨⟨by rw [upd_ne (Ne.symm nla)]; exact h.hat.1, upd_same⟩, hl, hn, h.fr.trans ⟨fun a o e nf _ => by rw [upd_ne (fun z => nf (.inr z))]; exact e, fun _ z => z.elim, fun a e => ?_⟩, fun a z => ?_⟩
  · by_cases q : a = p.la
    · rw [q, upd_same] at e; cases e
    · rw [upd_ne q] at e; exact e
  · by_cases q : a = p.la
    · rw [q, upd_same]; trivial
    · rw [upd_ne q]; exact h.mz a z
theorem TakI.setD {p : WelP} {Z : Zs} {H H1 : Hp} {ns : List Int} {seed turn t2 : Int} (fz : ∀ a, p.F a → Z a) (nla : p.la ≠ p.da) (h : TakI p Z H ns seed turn H1) : TakI p Z H ns seed t2 (upd H1 p.da (.dK (p.kv seed t2))) := by
  refine ⟨⟨upd_same, by rw [upd_ne nla]; exact h.hat.2⟩, h.len, h.nn, h.fr.trans ⟨fun a o e nf _ => by rw [upd_ne (fun z => nf (.inl z))]; exact e, fun _ z => z.elim, fun a e => ?_⟩, fun a z => ?_⟩
  · by_cases q : a = p.da
    · rw [q, upd_same] at e; cases e
    · rw [upd_ne q] at e; exact e
  · by_cases q : a = p.da
    · rw [q, upd_same]; trivial
    · rw [upd_ne q]; exact h.mz a z
abbrev wOwn : TE := tDGet (tVar 0) (tC (V.str "own"))
theorem take_while {K : PySem.W.Frag} {p : WelP} {Z : Zs} {H : Hp} {ns : List Int} {seed turn : Int} {many : Nat} {D : Ends} (fz : ∀ a, p.F a → Z a) (nla : p.la ≠ p.da) (h0 : TakI p Z H ns seed turn H)
    (q : ∀ ns' H', TakI p Z H ns' seed turn H' → D.nx (L2.start N_take [V.ref p.da, V.int many]) H') :
    tWhile (tAnd (tTest (tOp (opRel gNe) wOwn (tLst tNil))) (tTest (tOp (opRel gEq) (tOp (rIxL K) wOwn (tC (V.int 0))) (tC (V.int 0)))))
      (tDrop (tBM K "list" rPopAt wOwn (tCons (tC (V.int 0)) tNil))) D (L2.start N_take [V.ref p.da, V.int many]) H := by
  refine ⟨fun m σ H' => ∃ ns', ns'.length = m ∧ σ = L2.start N_take [V.ref p.da, V.int many] ∧ TakI p Z H ns' seed turn H', ⟨_, ns, rfl, rfl, h0⟩, ?_⟩
  rintro m σ H1 ⟨ns', rfl, rfl, hI⟩
  refine w_ne hI.mz rfl hI.hat fun H2 x2 => ⟨_, rfl, ?_⟩
  have hI2 := hI.ext x2
  cases ns' with
  | nil => exact q [] H2 hI2
  | cons n rest =>
    refine w_own rfl hI2.hat ⟨p.la, _, 0, .int n, rfl, rfl, .of hI2.hat.2, atI_nat (j := 0) rfl, ?_⟩
    refine ⟨Z, .int n, .int 0, fun d => d = .bool (PyData.eqv (.int n) (.int 0)), hI2.mz, Rep.int n, Rep.int 0, ⟨okD_int, okD_int, rfl⟩, ?_⟩
    rintro v H3 d x3 r rfl
    cases (show Rep Z H3 v (.bool (PyData.eqv (.int n) (.int 0))) from r)
    have hI3 := hI2.ext x3
    refine ⟨_, rfl, ?_⟩
    cases PyData.eqv (.int n) (.int 0)
    · exact q _ H3 hI3
    · refine ⟨fun σ' H' => σ' = L2.start N_take [V.ref p.da, V.int many] ∧ TakI p Z H rest seed turn H', fun σ' H' h => ⟨rest.length, by simp, rest, rfl, h.1, h.2⟩, ?_⟩
      refine w_own rfl hI3.hat ⟨.inl ⟨rfl, _, .of hI3.hat.2⟩, ?_⟩
      refine ⟨p.la, _, 0, 0, .int n, rfl, rfl, hI3.hat.2, by decide, by decide, ?_, rfl, rfl, ?_⟩
      · exact seqIndex_of (by simp) (by simp)
      · exact hI3.setL fz nla (ns2 := rest) (by have := hI3.len; simp at this; omega) fun x hx => hI3.nn x (by simp [hx])
theorem fn_take {K : PySem.W.Frag} {mg : Str → Option Value} {base : Heap} {params : Arguments} {f : Addr} {fd : FuncData} (p : WelP) (D : FunD K "_law_take" "_law_take" params (defBody st_take) sc_take [] [] f fd) :
    FnOk TheW.P TheW.w K mg base CX0 1 f fd ["_law_well_here", "_law_many"] (spD p.F p.G (t_take p)) := by
  refine D.ok fs_take (fun vs H Q E ⟨Z, xs, c, KK, _, _, _, r, ⟨_, _, _, _, e, _⟩, _⟩ => by rw [paired_len r, e]; rfl) fun cdv A outer s H vs Q E hr h => ?_
  have nd := fs_take.nd
  let X := cx N_take "_law_take" sc_take K mg base f cdv A outer s H E
  have hr : Room 0 X.A := hr
  have hu : X.A.units + 1 < cLine := by have := hr.un; omega
  have W : ∀ {q : Pos}, PE X (.Name "_law_well_here" q) (tVar 0) := pe_var (i := 0) rfl (Or.inl rfl)
  have M : ∀ {q : Pos}, PE X (.Name "_law_many" q) (tVar 1) := pe_var (i := 1) rfl (Or.inl rfl)
  have own : ∀ {q q2 q3 : Pos} {j : Nat}, PE X (.Subscript (.Name "_law_well_here" q) (.Constant (.str "own") j q2) q3) (tDGet (tVar 0) (tC (.str "own"))) := pe_dget hu W pe_str (by intro _ _; rfl)
  have B1 : PS X ((defBody st_take).getD 0 (.Pass ⟨0, 0, 0, 0⟩)) _ := ps_while PassesOwn.never (PW.pt (pw_and (pt_cmpR (od_ne hr) own (pe_lst pa_nil) (nomark _)) (pw_and1 (pt_cmpR (od_eq hr) (pe_ix ix_list own pe_int (fun _ _ => rfl)) pe_int (nomark _)))))
    (pss_one (ps_expr (pe_bm F.plainAttrs_list F.slot_list_pop F.type_list_pop mt_popAt own (pa_cons pe_int pa_nil) rfl rfl rfl rfl rfl) rfl))
  have B2 : PS X ((defBody st_take).getD 1 (.Pass ⟨0, 0, 0, 0⟩)) _ := ps_if (pt_cmpR (od_ne hr) own (pe_lst pa_nil) (nomark _))
    (pss_cons (ps_set (i := 2) nd rfl (Or.inl rfl) (pe_op op_mod (pe_ix ix_list own pe_int (fun _ _ => rfl)) M))
      (pss_cons (ps_asg (pe_op op_fdiv (pe_ix ix_list own pe_int (fun _ _ => rfl)) M) (pg_sub own pe_int set_list (by intro _; rfl)))
        (pss_one (ps_ret (pe_var (i := 2) rfl (Or.inl rfl)))))) pss_nil
  have fld : ∀ {z : Str} {q q2 q3 : Pos} {j : Nat}, PE X (.Subscript (.Name "_law_well_here" q) (.Constant (.str z) j q2) q3) (tDGet (tVar 0) (tC (.str z))) := pe_dget hu W pe_str (by intro _ _; rfl)
  have B3 : PS X ((defBody st_take).getD 2 (.Pass ⟨0, 0, 0, 0⟩)) _ := ps_asg (pe_op op_add fld pe_int) (pg_sub W pe_str (set_dict hu) (by intro _; rfl))
  have B4 : PS X ((defBody st_take).getD 3 (.Pass ⟨0, 0, 0, 0⟩)) _ := ps_set (i := 3) nd rfl (Or.inl rfl) fld
  have B5 : PS X ((defBody st_take).getD 4 (.Pass ⟨0, 0, 0, 0⟩)) _ := ps_set (i := 4) nd rfl (Or.inl rfl) (pe_op op_mod (pe_op op_mul (pe_op op_add fld (pe_op op_mul (pe_op op_mul pe_int (pe_var (i := 3) rfl (Or.inl rfl))) (pe_var (i := 3) rfl (Or.inl rfl)))) pe_int) pe_int)
  have B6 : PS X ((defBody st_take).getD 5 (.Pass ⟨0, 0, 0, 0⟩)) _ := ps_set (i := 4) nd rfl (Or.inl rfl) (pe_op op_mod (pe_op op_mul (pe_var (i := 4) rfl (Or.inl rfl)) (pe_op op_add (pe_op op_add (pe_op op_mod (pe_var (i := 4) rfl (Or.inl rfl)) pe_int) (pe_op op_mul pe_int (pe_var (i := 3) rfl (Or.inl rfl)))) pe_int)) pe_int)
  have B7 : PS X ((defBody st_take).getD 6 (.Pass ⟨0, 0, 0, 0⟩)) _ := ps_ret (pe_op op_mod (pe_op op_add (pe_op op_fdiv (pe_var (i := 4) rfl (Or.inl rfl)) pe_int) (pe_op op_fdiv (pe_var (i := 4) rfl (Or.inl rfl)) pe_int)) M)
  refine ⟨_, PSs.nox (st := defBody st_take) (pss_cons B1 (pss_cons B2 (pss_cons B3 (pss_cons B4 (pss_cons B5 (pss_cons B6 (pss_one B7))))))), ?_⟩
  obtain ⟨Z, xs, c, KK, mz, fz, g, r, ⟨many, h1, h2, h3, rfl, hq⟩, kk⟩ := h
  obtain ⟨nla, ns, seed, turn, hat, hl, hns, s0, s1, t0, t1⟩ := g
  obtain rfl : vs = [V.ref p.da, V.int many] := by
    cases r with
    | cons a r =>
    cases r with
    | cons b r =>
    cases r
    cases (show _ = V.ref p.da from a)
    cases (show Rep Z H _ (.int many) from b)
    rfl
  have hm : (0 : Int) < many := by omega
  have fin : ∀ ns' seed' turn' H' (d c' : Nat), TakI p Z H ns' seed' turn' H' → 0 ≤ seed' → seed' < 2 ^ 61 → 0 ≤ turn' → turn' ≤ c' → d < many → c' ≤ c + 1 → Q (.int d) H' := fun ns' seed' turn' H' d c' hI a1 a2 a3 a4 hd hc =>
    kk (.int d) H' (.d (.int d)) c' hI.fr hI.mz ⟨nla, ns', seed', turn', hI.hat, hI.len, hI.nn, a1, a2, a3, a4⟩ (Rep.int _) (hq d c' hd hc)
  refine take_while fz nla ⟨hat, hl, hns, .refl _ _ _, mz⟩ fun ns' H1 hI => ?_
  refine w_ne hI.mz rfl hI.hat fun H2 x2 => ⟨_, rfl, ?_⟩
  have hI2 := hI.ext x2
  cases ns' with
  | cons n rest =>
    have hn := hI2.nn n (by simp)
    refine w_own rfl hI2.hat ⟨p.la, _, 0, .int n, rfl, rfl, .of hI2.hat.2, atI_nat (j := 0) rfl, _, rfl, n, many, rfl, rfl, hm, ?_⟩
    refine w_own rfl hI2.hat ⟨p.la, _, 0, .int n, rfl, rfl, .of hI2.hat.2, atI_nat (j := 0) rfl, _, rfl, n, many, rfl, rfl, ⟨hm, by omega⟩, ?_⟩
    refine w_own rfl hI2.hat ⟨p.la, _, 0, 0, rfl, rfl, hI2.hat.2, by simp [ixN], ?_⟩
    have hI3 := hI2.setL fz nla (ns2 := n / many :: rest) (by have := hI2.len; simpa using this) (fun x hx => by
      rcases List.mem_cons.mp hx with rfl | hx
      · exact Int.ediv_nonneg hn (by omega)
      · exact hI2.nn x (by simp [hx]))
    have h0 : 0 ≤ n % (many : Int) := Int.emod_nonneg n (by omega)
    have h1 : n % (many : Int) < many := Int.emod_lt_of_pos n hm
    have e : n % (many : Int) = ((n % (many : Int)).toNat : Int) := (Int.toNat_of_nonneg h0).symm
    refine ⟨V.int (n % many), rfl, ?_⟩
    rw [e]
    exact fin (n / many :: rest) seed turn _ (n % (many : Int)).toNat c hI3 s0 s1 t0 t1 (by omega) (by omega)
  | nil =>
    refine w_turn rfl hI2.hat ⟨turn, 1, rfl, rfl, ?_⟩
    refine ⟨_, rfl, p.da, _, rfl, .inl ⟨_, .inr "turn", hI2.hat.1, rfl, (show 3 < sizeLine by rw [sizeLine_eq]; decide), rfl⟩, ?_⟩
    have hI3 : TakI p Z H [] seed (turn + 1) (upd H2 p.da (.dK (p.kv seed (turn + 1)))) := hI2.setD fz nla
    refine w_turn (t := turn + 1) rfl hI3.hat ?_
    refine w_seed rfl hI3.hat ⟨_, rfl, 7919, turn + 1, rfl, rfl, .inl ⟨by decide, by decide⟩, _, rfl, _, turn + 1, rfl, rfl, .inr ⟨by omega, by omega⟩, _, _, rfl, rfl, _, _, rfl, rfl, .inr ⟨by decide, by decide⟩, _, _, rfl, rfl, (show (0 : Int) < 2305843009213693907 by decide), ?_⟩
    generalize ((seed + 7919 * (turn + 1) * (turn + 1)) * 48271) = z1
    have a0 : 0 ≤ z1 % 2305843009213693907 := Int.emod_nonneg _ (by decide)
    have a1 : z1 % 2305843009213693907 < 2305843009213693907 := Int.emod_lt_of_pos _ (by decide)
    refine ⟨_, rfl, _, rfl, _, _, rfl, rfl, (show (0 : Int) < 999983 by decide), _, rfl, _, _, rfl, rfl, .inl ⟨by decide, by decide⟩, _, _, rfl, rfl, _, _, rfl, rfl, _, _, rfl, rfl, .inl ⟨by omega, by omega⟩, _, _, rfl, rfl, (show (0 : Int) < 2305843009213693921 by decide), ?_⟩
    generalize (z1 % 2305843009213693907 * (z1 % 2305843009213693907 % 999983 + 131 * (turn + 1) + 3)) = z2
    refine ⟨_, rfl, _, _, rfl, rfl, ⟨by decide, by decide⟩, _, rfl, _, _, rfl, rfl, ⟨by decide, by decide⟩, _, _, rfl, rfl, _, rfl, _, _, rfl, rfl, hm, ?_⟩
    generalize (z2 % 2305843009213693921 / 89 + z2 % 2305843009213693921 / 1000033) = z3
    have b0 : 0 ≤ z3 % (many : Int) := Int.emod_nonneg _ (by omega)
    have b1 : z3 % (many : Int) < many := Int.emod_lt_of_pos _ hm
    have e : z3 % (many : Int) = ((z3 % (many : Int)).toNat : Int) := (Int.toNat_of_nonneg b0).symm
    show Q (.int (z3 % (many : Int))) _
    rw [e]
    exact fin [] seed (turn + 1) _ (z3 % (many : Int)).toNat (c + 1) hI3 s0 s1 (by omega) (by omega) (by omega) (Nat.le_refl _)
end
end DL
set_option maxHeartbeats 2000000
/-! LV3: an own list lent to a def that gives a text. -/
namespace DL
open PySem PySem.Spec PyProof.Rows L2
variable [TheW]
section
variable {X : Cx} {W : Wd} {pos p1 p2 p3 : Pos} {k j : Nat}
def dLend (i m : Nat) (y : DV) (T : DFT) : DTE := fun s Q => s.e[i]? = some (some (.sh y)) ∧ (∃ v, y = .r v) ∧ ∃ ds, s.e[m]? = some (some (.own (.lst ds))) ∧ T [y, .d (.list ds)] s.c fun x c => ∃ z, x = .d (.str z) ∧ Q (.d (.str z)) ⟨s.e, c⟩
theorem de_lend {x a b : Str} {i m : Nat} {y : DV} {T : DFT} (hGZ : ∀ c Z Z' H, W.G c Z H → W.G c Z' H) (F : DFn X.prog X.w X.K X.mg X.base k x (spD W.F W.G T)) (hr : Room j X.A) (hk : k ≤ j) (hg : Gl X x)
    (hN : X.N[i]? = some a) (hv : Vis X.env.scope a) (hN2 : X.N[m]? = some b) (hv2 : Vis X.env.scope b) (hd : (a == ("__debug__" : Str)) = false := by decide) (hcd : (a == ("__classdict__" : Str)) = false := by decide) (hd2 : (b == ("__debug__" : Str)) = false := by decide) (hcd2 : (b == ("__classdict__" : Str)) = false := by decide)
    (hdb : (x == ("__debug__" : Str)) = false := by decide)
    (hs2 : starEach [.Name b p2] X.env = (false, eval (.Name b p2) X.env) :: starEach [] X.env := by rfl)
    (he : starEach [.Name a p1, .Name b p2] X.env = (false, eval (.Name a p1) X.env) :: starEach [.Name b p2] X.env := by rfl) (hpl : (backTo pos (starEach [.Name b p2] X.env)).any (·.1) = false := by rfl) :
    DE X W (.Call (.Name x p3) [.Name a p1, .Name b p2] [] pos) (dLend i m y T) := by
  refine (pe_def F hr hk hg (pa_cons (pe_var hN hv hd hcd) (pa_cons (pe_var hN2 hv2 hd2 hcd2) pa_nil hs2) he) hdb he hpl).weak fun σ H Q' ⟨s, Q, E, ⟨h1, ⟨v0, hy⟩, ds, h2, t⟩, kk⟩ => ?_
  obtain ⟨v, e1, r1⟩ := E.sh i _ h1
  obtain ⟨la, e2, ⟨xs, e3, e4⟩, e5⟩ := E.own m _ h2
  subst hy
  cases (show v = v0 from r1)
  refine ⟨_, e1, _, e2, ?_⟩
  let Z2 : Zs := fun q => Zo W.Z (OwnA σ s) q ∧ q ≠ la
  have fs : Fr (Zo W.Z (OwnA σ s)) H Z2 H := Fr.shrink fun q z => z.1
  refine ⟨Z2, [.r v0, .d (.list ds)], s.c, _, fun q z => E.mzo q z.1, fun q z => ⟨.inl (W.FZ q z), fun w => e5 (by rw [← w]; exact W.FZ q z)⟩, hGZ _ _ _ _ E.g, .cons rfl (.cons (Rep.lst e3 (fun z => z.2 rfl) (e4.mono fs)) .nil), t, ?_⟩
  rintro w H' x c' f mz g r ⟨z, rfl, q⟩
  have mz' : ∀ q, W.Z q → Mut (H' q) := fun q z => mz q ⟨.inl z, fun w => e5 (by rw [← w]; exact z)⟩
  have E2 := E.ghost f mz' (hGZ _ _ Z2 _ g |> hGZ _ _ _ _)
  refine kk w H' (.d (.str z)) ⟨s.e, c'⟩ ⟨E2, fun a o h nf _ => f.keep a o h nf (fun z => z), fun _ h => .inl h, f.dom⟩ ?_ q
  cases (show Rep Z2 H' w (.str z) from r) with
  | str _ h => exact Rep.str _ h
end
end DL
/-! SV: specs of the law's own small defs. -/
namespace DL
open PySem PySem.Spec PyProof.Rows L2
variable [TheW]
def charsD (z : Str) : List PyData := z.cps.toList.map fun c => .str ⟨#[c]⟩
/-- one of a list, a tuple or a text -/
def t_of (p : WelP) : DFT := fun xs c K => ∃ (y : PyData) (ds : List PyData), (y = .list ds ∨ y = .tuple ds ∨ (∃ z, y = .str z ∧ ds = charsD z ∧ z.length ≤ 1000)) ∧ 1 ≤ ds.length ∧ ds.length ≤ 1000 ∧ c < 1000000 ∧ xs = [p.self, .d y] ∧ ∀ d ∈ ds, ∀ c', c' ≤ c + 1 → K (.d d) c'
abbrev t__law_take (p : WelP) : DFT := t_take p
abbrev t__law_of (p : WelP) : DFT := t_of p
def sizesL : List Nat := [1, 2, 2, 3, 3, 4, 5, 8]
def reachL : List Nat := [0, 1, 1, 2, 2, 3, 7]
def t__law_meeting (p : WelP) : DFT := fun xs c K => c + 2 ≤ 1000000 ∧ xs = [p.self] ∧ ∀ size ∈ sizesL, ∀ reach ∈ reachL, ∀ c', c' ≤ c + 2 → K (.d (Mt size reach)) c'
end DL
/-! DEV1: defs of the text: their terms of rules, printed by gen.py. -/
namespace DL
open PySem PySem.Spec PyProof.Rows L2
variable [TheW]
abbrev st__law_of : Stmt := top 68
abbrev sc__law_of : Scope := defScope st__law_of
abbrev N__law_of : List Str := ["_law_well_here", "_law_some"]
theorem fs__law_of : FnScope N__law_of ["_law_well_here", "_law_some"] sc__law_of := ⟨rfl, rfl, rfl, by decide +kernel, rfl, by decide +kernel, by decide +kernel⟩
def u__law_of (p : WelP) : DTS := (dRet (dIx (dVar 1) (dCall (t__law_take p) (cCons (dVar 0) (cCons (dCB gLen (dCons (dVar 1) dNil)) cNil)))))
theorem d__law_of {K : PySem.W.Frag} {mg : Str → Option Value} {base : Heap} {f : Addr} {cdv : Value} {A : Around} {outer : List Env} {s : Shared} {H : Hp} {E : XK} {W : Wd} {p : WelP} (hF : W.F = p.F) (hG : W.G = p.G) (M : Mg mg) (F_law_take : DFn TheW.P TheW.w K mg base 1 "_law_take" (spD p.F p.G (t__law_take p))) (hr : Room 1 (cx N__law_of "_law_of" sc__law_of K mg base f cdv A outer s H E).A) : DSs (cx N__law_of "_law_of" sc__law_of K mg base f cdv A outer s H E) W (defBody st__law_of) (u__law_of p) := by
  have nd := fs__law_of.nd
  exact (dss_one (ds_ret (de_ix ⟨rfl, rfl⟩ hr (dv 1) (de_callV hF hG F_law_take hr (by decide) rfl (ac_cons (dv 0) (ac_cons (de_callB (cr_len ⟨rfl, rfl⟩) rfl M.len boot_len (da_cons (dv 1) da_nil)) ac_nil))) (fun _ _ => rfl))))

abbrev st__law_meeting : Stmt := top 70
abbrev sc__law_meeting : Scope := defScope st__law_meeting
abbrev N__law_meeting : List Str := ["_law_well_here"]
theorem fs__law_meeting : FnScope N__law_meeting ["_law_well_here"] sc__law_meeting := ⟨rfl, rfl, rfl, by decide +kernel, rfl, by decide +kernel, by decide +kernel⟩
def u__law_meeting (p : WelP) : DTS := (dRet (dTup (cCons (dCall (t__law_of p) (cCons (dVar 0) (cCons (dOfF (fLst (cCons (dC (.int 1)) (cCons (dC (.int 2)) (cCons (dC (.int 2)) (cCons (dC (.int 3)) (cCons (dC (.int 3)) (cCons (dC (.int 4)) (cCons (dC (.int 5)) (cCons (dC (.int 8)) cNil)))))))))) cNil))) (cCons (dCall (t__law_of p) (cCons (dVar 0) (cCons (dOfF (fLst (cCons (dC (.int 0)) (cCons (dC (.int 1)) (cCons (dC (.int 1)) (cCons (dC (.int 2)) (cCons (dC (.int 2)) (cCons (dC (.int 3)) (cCons (dC (.int 7)) cNil))))))))) cNil))) cNil))))
theorem d__law_meeting {K : PySem.W.Frag} {mg : Str → Option Value} {base : Heap} {f : Addr} {cdv : Value} {A : Around} {outer : List Env} {s : Shared} {H : Hp} {E : XK} {W : Wd} {p : WelP} (hF : W.F = p.F) (hG : W.G = p.G) (M : Mg mg) (F_law_of : DFn TheW.P TheW.w K mg base 2 "_law_of" (spD p.F p.G (t__law_of p))) (hr : Room 2 (cx N__law_meeting "_law_meeting" sc__law_meeting K mg base f cdv A outer s H E).A) : DSs (cx N__law_meeting "_law_meeting" sc__law_meeting K mg base f cdv A outer s H E) W (defBody st__law_meeting) (u__law_meeting p) := by
  have nd := fs__law_meeting.nd
  exact (dss_one (ds_ret (de_tup (da_of (ac_cons (de_callV hF hG F_law_of hr (by decide) rfl (ac_cons (dv 0) (ac_cons (de_ofF (df_lst (da_of (ac_cons de_int (ac_cons de_int (ac_cons de_int (ac_cons de_int (ac_cons de_int (ac_cons de_int (ac_cons de_int (ac_cons de_int ac_nil))))))))))) ac_nil))) (ac_cons (de_callV hF hG F_law_of hr (by decide) rfl (ac_cons (dv 0) (ac_cons (de_ofF (df_lst (da_of (ac_cons de_int (ac_cons de_int (ac_cons de_int (ac_cons de_int (ac_cons de_int (ac_cons de_int (ac_cons de_int ac_nil)))))))))) ac_nil))) ac_nil))))))

end DL
/-! L19: _law_of, _law_meeting. -/
namespace DL
open PySem PySem.Spec PyProof.Rows L2
variable [TheW]
theorem l__law_meeting (p : WelP) : Law (t__law_meeting p) (u__law_meeting p) N__law_meeting := by
  rintro xs c K ⟨hc, rfl, q⟩
  refine ⟨by simp, _, _, .inl rfl, by simp, by simp, (show c < 1000000 by omega), rfl, fun d hd c1 h1 => ?_⟩
  have h1 : c1 ≤ c + 1 := h1
  refine ⟨by simp, _, _, .inl rfl, by simp, by simp, (show c1 < 1000000 by omega), rfl, fun d2 hd2 c2 h2 => ?_⟩
  have h2 : c2 ≤ c1 + 1 := h2
  obtain ⟨size, hs, rfl⟩ : ∃ size ∈ sizesL, d = .int (size : Nat) := by
    simp at hd
    rcases hd with h | h | h | h | h | h <;> subst h
    · exact ⟨1, by decide, rfl⟩
    · exact ⟨2, by decide, rfl⟩
    · exact ⟨3, by decide, rfl⟩
    · exact ⟨4, by decide, rfl⟩
    · exact ⟨5, by decide, rfl⟩
    · exact ⟨8, by decide, rfl⟩
  obtain ⟨reach, hs2, rfl⟩ : ∃ reach ∈ reachL, d2 = .int (reach : Nat) := by
    simp at hd2
    rcases hd2 with h | h | h | h | h <;> subst h
    · exact ⟨0, by decide, rfl⟩
    · exact ⟨1, by decide, rfl⟩
    · exact ⟨2, by decide, rfl⟩
    · exact ⟨3, by decide, rfl⟩
    · exact ⟨7, by decide, rfl⟩
  exact ⟨by simp, q size hs reach hs2 c2 (by omega)⟩
theorem l__law_of (p : WelP) : Law (t__law_of p) (u__law_of p) N__law_of := by
  rintro xs c K ⟨y, ds, hy, h1, h2, hc, rfl, q⟩
  rcases hy with rfl | rfl | ⟨z, rfl, rfl, hz⟩
  · refine ⟨ds.length, h1, h2, hc, rfl, fun d c' hd hc' => ?_⟩
    exact ⟨ds[d], atI_nat (List.getElem?_eq_getElem hd), q _ (List.getElem_mem _) c' hc'⟩
  · refine ⟨ds.length, h1, h2, hc, rfl, fun d c' hd hc' => ?_⟩
    exact ⟨ds[d], atI_nat (List.getElem?_eq_getElem hd), q _ (List.getElem_mem _) c' hc'⟩
  · have hl : (charsD z).length = z.length := by unfold charsD; rw [List.length_map, Array.length_toList]; rfl
    refine ⟨hz, z.length, by omega, by omega, hc, rfl, fun d c' hd hc' => ?_⟩
    have hd2 : d < z.cps.toList.length := by rw [Array.length_toList]; exact hd
    exact ⟨hz, z.cps.toList[d], atI_nat (List.getElem?_eq_getElem hd2), q _ (List.mem_map.mpr ⟨_, List.getElem_mem _, rfl⟩) c' hc'⟩
end DL
namespace DL
open PySem PySem.Spec PyProof.Rows L2
/-! MA: the mathematics over places: what was looked at case by case, and what follows. -/
/-- a sheet as told, ahead of its sorting -/
def evs0 (r : Race) : List Ev := r.ts.map (fun p => Ev.t p.1 p.2) ++ r.drops.map Ev.d
def soundB (start : List Nat) (reach : Nat) (r : Race) : Bool :=
  decide ((evs0 r).flatMap Ev.boats).Nodup && ((evs0 r).flatMap Ev.boats).all (fun x => decide (x ∈ start)) &&
  r.ts.all (fun p => decide (start.idxOf p.2 < start.idxOf p.1) && decide ((iBetween start p.1 p.2).length ≤ reach) && (iBetween start p.1 p.2).all fun x => decide (x ∈ (evs0 r).flatMap Ev.boats)) &&
  r.ts.all (fun o => r.ts.all fun p => !iCrossed start o p)
def dayB (n size reach : Nat) (rs : List Race) (other : List Nat) : List Nat → List Nat → Bool
  | [], row => decide (row = other)
  | k :: ks, row => row.all (fun x => decide (x < n)) && decide (row ≠ []) && decide (iStart size row k ≠ []) && decide (k ≤ 5) &&
    (match rs[k]? with
    | none => false
    | some r => soundB (iStart size row k) reach r && decide (r.ts.length ≤ 2) && decide (iBehind (iStart size row k) r.ts.reverse = iBehind (iStart size row k) r.ts) &&
      dayB n size reach rs other ks (iLaid size row k (iBehind (iStart size row k) r.ts)))
def raceB (n : Nat) (r : Race) : Bool := decide (r.ts.length ≤ 2) && decide (r.drops.length ≤ 5) && decide (r.free.length ≤ 5) && r.ts.all (fun p => decide (p.1 < n) && decide (p.2 < n)) && r.drops.all (fun x => decide (x < n)) && r.free.all (fun x => decide (x < n)) && decide ((evs0 r).flatMap Ev.boats).Nodup
def rsB (n size : Nat) (rs : List Race) : Bool := decide (rs.length = iRaces size n) && decide (1 ≤ rs.length) && decide (rs.length ≤ 5) && rs.all (raceB n)
def chk1 (size reach n : Nat) (g : List (List Nat × List (Nat × Nat))) (t1 : List Nat) : Bool :=
  iToldOk size reach t1 (iGoing size n) (List.range n) &&
  match iTold size reach t1 (iGoing size n) (List.range n) [] with
  | none => g.all fun e => decide (e.1 ≠ t1)
  | some rs => rsB n size rs && dayB n size reach rs t1 (iGoing size n) (List.range n) &&
    g.any fun e => decide (e.1 = t1) && e.2.all (fun p => rs.any fun r => decide (p ∈ r.ts)) && rs.all fun r => r.ts.all fun p => decide (p ∈ e.2)
def chkG (size reach n : Nat) (g : List (List Nat × List (Nat × Nat))) : Bool := decide (g.map (·.1)).Nodup && (iRows (List.range n) n).all (chk1 size reach n g)
def chk (size reach n : Nat) : Bool := chkG size reach n (iGone (iWays size reach n) (List.range n))
theorem chk_all : ([1, 2, 3, 4, 5, 8].all fun size => [0, 1, 2, 3, 7].all fun reach => [1, 2, 3, 4, 5].all fun n => chk size reach n) = true := by decide +kernel
theorem chk_of {size reach n : Nat} (hs : size ∈ [1, 2, 3, 4, 5, 8]) (hr : reach ∈ [0, 1, 2, 3, 7]) (h1 : 1 ≤ n) (h5 : n ≤ 5) : chk size reach n = true := by
  have h := List.all_eq_true.mp (List.all_eq_true.mp (List.all_eq_true.mp chk_all size hs) reach hr) n (by
    have : n = 1 ∨ n = 2 ∨ n = 3 ∨ n = 4 ∨ n = 5 := by omega
    rcases this with h | h | h | h | h <;> subst h <;> simp)
  exact h

/-! rows -/
theorem mem_iRows {bs : List Nat} : ∀ (k : Nat) (r : List Nat), r.Nodup → (∀ x ∈ r, x ∈ bs) → r.length = k → r ∈ iRows bs k := by
  intro k
  induction k with
  | zero => intro r _ _ h; rw [List.eq_nil_of_length_eq_zero h]; exact List.mem_singleton.mpr rfl
  | succ k ih =>
    intro r hn hs hl
    have hne : r ≠ [] := fun z => by rw [z] at hl; cases hl
    have e : r = r.dropLast ++ [r.getLast hne] := (List.dropLast_concat_getLast hne).symm
    have hn2 := hn
    rw [e] at hn2
    obtain ⟨a1, _, a3⟩ := List.nodup_append.mp hn2
    refine List.mem_flatMap.mpr ⟨r.dropLast, ih _ a1 (fun x hx => hs x (List.dropLast_subset _ hx)) (by rw [List.length_dropLast, hl]; rfl), ?_⟩
    refine List.mem_map.mpr ⟨r.getLast hne, List.mem_filter.mpr ⟨hs _ (List.getLast_mem hne), ?_⟩, e.symm⟩
    exact decide_eq_true fun z => a3 _ z _ (List.mem_singleton.mpr rfl) rfl
theorem nodup_iRows {bs : List Nat} (hb : bs.Nodup) : ∀ k, (iRows bs k).Nodup := by
  intro k
  induction k with
  | zero => simp [iRows]
  | succ k ih =>
    refine List.pairwise_flatMap.mpr ⟨fun row _ => ?_, ?_⟩
    · refine List.Pairwise.map _ ?_ (List.Pairwise.filter _ hb)
      intro a b hab z
      exact hab (by simpa using z)
    · refine List.Pairwise.imp ?_ ih
      intro a b hab x hx y hy z
      obtain ⟨p, _, rfl⟩ := List.mem_map.mp hx
      obtain ⟨q, _, rfl⟩ := List.mem_map.mp hy
      exact hab (List.append_inj_left' z rfl)
theorem filter_one {α : Type} [DecidableEq α] {l : List α} {a : α} {p : α → Bool} (hn : l.Nodup) (ha : a ∈ l) (hp : ∀ x ∈ l, p x = decide (x = a)) : l.filter p = [a] := by
  induction l with
  | nil => cases ha
  | cons x t ih =>
    have hn' := List.nodup_cons.mp hn
    rw [List.filter_cons, hp x (by simp)]
    by_cases e : x = a
    · subst e
      rw [decide_eq_true rfl, if_pos rfl]
      congr 1
      refine List.filter_eq_nil_iff.mpr fun y hy => ?_
      rw [hp y (by simp [hy]), decide_eq_true_eq]
      exact fun z => hn'.1 (z ▸ hy)
    · rw [decide_eq_false e, if_neg Bool.false_ne_true]
      exact ih hn'.2 (by rcases List.mem_cons.mp ha with h | h; exact absurd h.symm e; exact h) fun y hy => hp y (by simp [hy])
theorem iFits_iff : ∀ (t r : List Nat), t.length = r.length → (iFits t r = decide (r = t))
  | [], [], _ => by simp [iFits]
  | a :: t, b :: r, h => by
    have ih := iFits_iff t r (by simpa using h)
    unfold iFits at ih ⊢
    rw [List.zip_cons_cons, List.all_cons, ih]
    by_cases e : a = b
    · subst e; simp
    · have : ¬ b :: r = a :: t := fun z => e (List.cons.inj z).1.symm
      rw [decide_eq_false this]; simp [e]
  | [], _ :: _, h => by cases h
  | _ :: _, [], h => by cases h
theorem iRows_len {bs : List Nat} : ∀ k, ∀ r ∈ iRows bs k, r.length = k := fun k => by
  induction k with
  | zero => intro r hr; simp [iRows] at hr; subst hr; rfl
  | succ k ih =>
    intro r hr
    obtain ⟨r0, h0, h1⟩ := List.mem_flatMap.mp (show r ∈ iExt bs (iRows bs k) from hr)
    obtain ⟨b, _, rfl⟩ := List.mem_map.mp h1
    rw [List.length_append, ih r0 h0]; rfl
theorem here_eq {bs r0 : List Nat} {ban : Ban} (hb : bs.Nodup) (hn : r0.Nodup) (hs : ∀ x ∈ r0, x ∈ bs) (hl : bs.length = r0.length) : iHere bs r0 ban = if iBanRow ban 0 r0 = true then [r0] else [] := by
  have hm : r0 ∈ iRows bs bs.length := mem_iRows _ _ hn hs hl.symm
  unfold iHere
  by_cases c : iBanRow ban 0 r0 = true
  · rw [if_pos c]
    refine filter_one (nodup_iRows hb _) hm fun x hx => ?_
    rw [iFits_iff _ _ (by rw [iRows_len _ x hx, hl])]
    by_cases e : x = r0
    · subst e; rw [c]; simp
    · rw [decide_eq_false e]; rfl
  · rw [if_neg c]
    refine List.filter_eq_nil_iff.mpr fun x hx => ?_
    rw [iFits_iff _ _ (by rw [iRows_len _ x hx, hl])]
    by_cases e : x = r0
    · subst e; rw [Bool.eq_false_iff.mpr c]; simp
    · rw [decide_eq_false e]; simp
theorem come_eq {gone : List (List Nat × List (Nat × Nat))} {t : List Nat} {met : List (Nat × Nat)} {ban : Ban} (hn : (gone.map (·.1)).Nodup) (hl : ∀ e ∈ gone, e.1.length = t.length) (he : (t, met) ∈ gone) :
    iCome gone t ban = if (iBanRow ban 1 t && iBanDay ban 0 met) = true then [t] else [] := by
  unfold iCome
  induction gone with
  | nil => cases he
  | cons x g ih =>
    have hn' := List.nodup_cons.mp (show (x.1 :: g.map (·.1)).Nodup from hn)
    rw [List.filter_cons, iFits_iff _ _ (hl x (by simp)).symm]
    by_cases e : x.1 = t
    · have ex : x = (t, met) := by
        rcases List.mem_cons.mp he with h | h
        · exact h.symm
        · exact absurd (List.mem_map_of_mem h) (e ▸ hn'.1)
      have hz : g.filter (fun e => iFits t e.1 && iBanRow ban 1 e.1 && iBanDay ban 0 e.2) = [] := by
        refine List.filter_eq_nil_iff.mpr fun y hy => ?_
        rw [iFits_iff _ _ (hl y (by simp [hy])).symm, decide_eq_false fun z => hn'.1 (by rw [e, ← z]; exact List.mem_map_of_mem hy)]
        simp
      rw [hz, ex]
      simp only [decide_true, Bool.true_and]
      split <;> rfl
    · rw [decide_eq_false e]
      simp only [Bool.false_and, Bool.false_eq_true, if_false]
      refine ih hn'.2 (fun e he => hl e (by simp [he])) ?_
      rcases List.mem_cons.mp he with h | h
      · exact absurd (by rw [← h]) e
      · exact h
theorem come_nil {gone : List (List Nat × List (Nat × Nat))} {t : List Nat} {ban : Ban} (hl : ∀ e ∈ gone, e.1.length = t.length) (he : ∀ e ∈ gone, e.1 ≠ t) : iCome gone t ban = [] := by
  unfold iCome
  rw [List.map_eq_nil_iff]
  refine List.filter_eq_nil_iff.mpr fun y hy => ?_
  rw [iFits_iff _ _ (hl y hy).symm, decide_eq_false (he y hy)]
  simp

/-! sheets in any order -/
theorem touches0 (r : Race) : iTouches (evs0 r) = r.ts := by
  have h1 : (r.ts.map fun p => Ev.t p.1 p.2).filter Ev.isT = r.ts.map fun p => Ev.t p.1 p.2 := List.filter_eq_self.mpr fun e he => by
    obtain ⟨p, _, rfl⟩ := List.mem_map.mp he; rfl
  have h2 : (r.drops.map Ev.d).filter Ev.isT = [] := List.filter_eq_nil_iff.mpr fun e he => by
    obtain ⟨p, _, rfl⟩ := List.mem_map.mp he; exact Bool.false_ne_true
  unfold iTouches evs0
  rw [List.filter_append, h1, h2, List.append_nil, List.map_map]
  exact (List.map_congr_left fun p _ => rfl).trans (List.map_id _)
theorem touches_perm {a b : List Ev} (h : a.Perm b) : (iTouches a).Perm (iTouches b) := (h.filter _).map _
theorem soundB_of {start : List Nat} {reach : Nat} {r : Race} {evs : List Ev} (h : soundB start reach r = true) (p : evs.Perm (evs0 r)) : Sound start reach evs := by
  unfold soundB at h
  simp only [Bool.and_eq_true, decide_eq_true_eq, List.all_eq_true] at h
  obtain ⟨⟨⟨h1, h2⟩, h3⟩, h4⟩ := h
  have pb := p.flatMap_right Ev.boats
  have pt : (iTouches evs).Perm r.ts := touches0 r ▸ touches_perm p
  refine ⟨pb.nodup_iff.mpr h1, fun x hx => h2 x (pb.mem_iff.mp hx), fun q hq => (h3 q (pt.mem_iff.mp hq)).1.1, fun q hq => (h3 q (pt.mem_iff.mp hq)).1.2, fun q hq x hx => pb.mem_iff.mpr ((h3 q (pt.mem_iff.mp hq)).2 x hx), fun o ho q hq => ?_⟩
  have := h4 o (pt.mem_iff.mp ho) q (pt.mem_iff.mp hq)
  simpa using this
theorem perm2 {α : Type} {l m : List α} (h : l.Perm m) (hm : m.length ≤ 2) : l = m ∨ l = m.reverse := by
  match m, hm with
  | [], _ => exact .inl h.eq_nil
  | [a], _ => exact .inl (List.perm_singleton.mp h)
  | [a, b], _ =>
    have hl := h.length_eq
    match l, hl with
    | [c, d], _ =>
      have hc : c = a ∨ c = b := by simpa using h.mem_iff.mp (show c ∈ [c, d] by simp)
      rcases hc with rfl | rfl
      · have := List.Perm.cons_inv h
        rw [List.perm_singleton.mp this]; exact .inl rfl
      · have h2 : [c, d].Perm [c, a] := h.trans (List.Perm.swap c a [])
        have := List.Perm.cons_inv h2
        rw [List.perm_singleton.mp this]; exact .inr rfl
theorem behind_perm {start : List Nat} {ts us : List (Nat × Nat)} (p : us.Perm ts) (h2 : ts.length ≤ 2) (h : iBehind start ts.reverse = iBehind start ts) : iBehind start us = iBehind start ts := by
  rcases perm2 p h2 with rfl | rfl
  · rfl
  · exact h
theorem day_ok {n size reach : Nat} {rs : List Race} {other : List Nat} {day : List (List Ev)} (hl : day.length = rs.length) (hp : ∀ (k : Nat) (r : Race), rs[k]? = some r → (day.getD k []).Perm (evs0 r)) (hlen : ∀ (k : Nat) (r : Race), rs[k]? = some r → (day.getD k []).length ≤ 1000) :
    ∀ (ks row : List Nat), dayB n size reach rs other ks row = true → DayOk n size reach day ks row ∧ iDayGo size day ks row = other
  | [], row, h => ⟨trivial, of_decide_eq_true h⟩
  | k :: ks, row, h => by
    unfold dayB at h
    cases hk : rs[k]? with
    | none => rw [hk] at h; simp at h
    | some r =>
      rw [hk] at h
      simp only [Bool.and_eq_true, decide_eq_true_eq, List.all_eq_true] at h
      obtain ⟨⟨⟨⟨h1, h2⟩, h3⟩, h4⟩, ⟨⟨h5, h6⟩, h7⟩, h8⟩ := h
      have P := hp k r hk
      have pt : (iTouches (day.getD k [])).Perm r.ts := touches0 r ▸ touches_perm P
      have hb := behind_perm pt h6 h7
      have hkl : k < rs.length := (List.getElem?_eq_some_iff.mp hk).1
      rw [← hb] at h8
      have ih := day_ok hl hp hlen ks _ h8
      exact ⟨⟨h1, ⟨h2, h3⟩, h4, by omega, hlen k r hk, soundB_of h5 P, ih.1⟩, ih.2⟩
end DL
/-! MB: sorted data; the sheets of a chart's day. -/
namespace DL
open PySem PySem.Spec PyProof.Rows L2
open PySem.W (dataLt dataLe alike alikeAll)
theorem lt_asym {x y : PyData} (h : dataLt x y = true) : dataLt y x = false := by
  cases h2 : dataLt y x with
  | false => rfl
  | true =>
    have a := lex_trans _ _ _ h h2
    rw [lex_irrefl] at a
    cases a
theorem lt_or {x y : PyData} (h : alike x y = true) (e : PyData.eqv x y = false) : dataLt x y = true ∨ dataLt y x = true := by
  cases h1 : dataLt x y with
  | true => exact .inl rfl
  | false =>
    cases h2 : dataLt y x with
    | true => exact .inr rfl
    | false =>
      have k := lex_total _ _ h1 h2
      have a := (PySem.W.toks_eqv x y h).2 e [] [.inl 0]
      rw [k, PySem.W.lex_pre, lex_irrefl] at a
      cases (show true = false from a)
abbrev LeF {α : Type} (f : α → PyData) : α → α → Bool := fun a b => dataLe false id (f a) (f b)
theorem leF_iff {α : Type} {f : α → PyData} {a b : α} : LeF f a b = true ↔ dataLt (f b) (f a) = false := by
  show (!dataLt (f b) (f a)) = true ↔ _
  cases dataLt (f b) (f a) <;> simp
theorem leF_tr {α : Type} (f : α → PyData) : ∀ a b c, LeF f a b = true → LeF f b c = true → LeF f a c = true := by
  intro a b c h1 h2
  rw [leF_iff] at h1 h2 ⊢
  cases h : dataLt (f c) (f a) with
  | false => rfl
  | true =>
    rcases lex_negTrans _ (PySem.W.keyToks (f b)) _ h with q | q
    · rw [← h2]; exact q.symm
    · rw [← h1]; exact q.symm
theorem leF_tot {α : Type} (f : α → PyData) : ∀ a b, (LeF f a b || LeF f b a) = true := by
  intro a b
  rw [Bool.or_eq_true, leF_iff, leF_iff]
  cases h : dataLt (f b) (f a) with
  | false => exact .inl rfl
  | true => exact .inr (lt_asym h)
theorem srt_pw {α : Type} (f : α → PyData) (l : List α) : (l.mergeSort (LeF f)).Pairwise fun a b => LeF f a b = true := List.pairwise_mergeSort (leF_tr f) (leF_tot f) l
def Apart {α : Type} (f : α → PyData) (a b : α) : Prop := alike (f a) (f b) = true ∧ PyData.eqv (f a) (f b) = false
theorem asc_of {α : Type} {f : α → PyData} {l : List α} (hp : l.Pairwise fun a b => LeF f a b = true) (hd : l.Pairwise (Apart f)) : l.Pairwise fun a b => dataLt (f a) (f b) = true := by
  refine List.Pairwise.imp₂ ?_ hp hd
  intro a b h1 ⟨h2, h3⟩
  rcases lt_or h2 h3 with h | h
  · exact h
  · rw [leF_iff.mp h1] at h; cases h
theorem zip_asc {α : Type} {R : α → α → Prop} : ∀ {l : List α}, l.Pairwise R → ∀ p ∈ l.zip (l.drop 1), R p.1 p.2
  | [], _, p, h => by simp at h
  | [a], _, p, h => by simp at h
  | a :: b :: t, hp, p, h => by
    rw [List.drop_succ_cons, List.drop_zero, List.zip_cons_cons] at h
    have hc := List.pairwise_cons.mp hp
    rcases List.mem_cons.mp h with rfl | h
    · exact hc.1 b (by simp)
    · exact zip_asc hc.2 p (by simpa using h)
theorem srt_uniq {α : Type} {f : α → PyData} {l m : List α} (h : ∀ a ∈ l, ∀ b ∈ l, a ≠ b → Apart f a b) (hl : l.Pairwise fun a b => LeF f a b = true) (hm : m.Pairwise fun a b => LeF f a b = true) (p : l.Perm m) : l = m := by
  refine List.Perm.eq_of_pairwise (le := fun a b => LeF f a b = true) ?_ hl hm p
  intro a b ha hb h1 h2
  rw [leF_iff] at h1 h2
  refine Classical.byContradiction fun ne => ?_
  rcases (fun ⟨u, v⟩ => lt_or u v : Apart f a b → _) (h a ha b (p.mem_iff.mpr hb) ne) with q | q
  · rw [h2] at q; cases q
  · rw [h1] at q; cases q

/-! events -/
section
variable [TheW]
theorem sB_apart {nm : Nat → Str} {n i j : Nat} (h : Nm nm n) (hi : i < n) (hj : j < n) (ne : i ≠ j) : Apart (sB nm) i j := ⟨rfl, by rw [h.eq hi hj, decide_eq_false ne]⟩
theorem evD_alike (nm : Nat → Str) (a b : Ev) : alike (evD nm a) (evD nm b) = true := by
  cases a <;> cases b <;> simp [evD, alike, alikeAll, sB]
theorem evD_eqv {nm : Nat → Str} {n : Nat} (h : Nm nm n) {a b : Ev} (ha : EvLt n a) (hb : EvLt n b) : PyData.eqv (evD nm a) (evD nm b) = decide (a = b) := by
  cases a with
  | t x y =>
    cases b with
    | t u v =>
      have e1 := h.eq (ha x (by simp [Ev.boats])) (hb u (by simp [Ev.boats]))
      have e2 := h.eq (ha y (by simp [Ev.boats])) (hb v (by simp [Ev.boats]))
      simp [evD, PyData.eqv, PyData.eqvAll, e1, e2]
    | d u => simp [evD, PyData.eqv, PyData.eqvAll]
  | d x =>
    cases b with
    | t u v => simp [evD, PyData.eqv, PyData.eqvAll]
    | d u =>
      have e1 := h.eq (ha x (by simp [Ev.boats])) (hb u (by simp [Ev.boats]))
      simp [evD, PyData.eqv, PyData.eqvAll, e1]
theorem evD_apart {nm : Nat → Str} {n : Nat} (h : Nm nm n) {a b : Ev} (ha : EvLt n a) (hb : EvLt n b) (ne : a ≠ b) : Apart (evD nm) a b := ⟨evD_alike nm a b, by rw [evD_eqv h ha hb, decide_eq_false ne]⟩
end
theorem evs_nodup {evs : List Ev} (h : (evs.flatMap Ev.boats).Nodup) : evs.Nodup := by
  have := (List.pairwise_flatMap.mp h).2
  refine List.Pairwise.imp ?_ this
  intro a b hab z
  subst z
  cases a with
  | t x y => exact hab x (by simp [Ev.boats]) x (by simp [Ev.boats]) rfl
  | d x => exact hab x (by simp [Ev.boats]) x (by simp [Ev.boats]) rfl
/-- what is known of a race that is told -/
structure RaceOk (n : Nat) (r : Race) : Prop where
  ts2 : r.ts.length ≤ 2
  d5 : r.drops.length ≤ 5
  f5 : r.free.length ≤ 5
  tlt : ∀ p ∈ r.ts, p.1 < n ∧ p.2 < n
  dlt : Lt n r.drops
  flt : Lt n r.free
  nd : ((evs0 r).flatMap Ev.boats).Nodup
theorem raceOk_of {n : Nat} {r : Race} (h : raceB n r = true) : RaceOk n r := by
  unfold raceB at h
  simp only [Bool.and_eq_true, decide_eq_true_eq, List.all_eq_true] at h
  obtain ⟨⟨⟨⟨⟨⟨h1, h2⟩, h3⟩, h4⟩, h5⟩, h6⟩, h7⟩ := h
  exact ⟨h1, h2, h3, h4, h5, h6, h7⟩
section
variable [TheW] {nm : Nat → Str} {n : Nat} {r : Race}
theorem sheet_perm (nm : Nat → Str) (r : Race) : (iSheet nm r).Perm (evs0 r) :=
  (List.mergeSort_perm _ _).trans (List.Perm.append ((List.mergeSort_perm _ _).map _) ((List.mergeSort_perm _ _).map _))
theorem evs0_lt (h : RaceOk n r) : ∀ e ∈ evs0 r, EvLt n e := by
  intro e he x hx
  rcases List.mem_append.mp he with he | he
  · obtain ⟨p, hp, rfl⟩ := List.mem_map.mp he
    have := h.tlt p hp
    simp [Ev.boats] at hx
    rcases hx with rfl | rfl
    · exact this.1
    · exact this.2
  · obtain ⟨p, hp, rfl⟩ := List.mem_map.mp he
    simp [Ev.boats] at hx
    subst hx
    exact h.dlt _ hp
theorem sheet_nodup (h : RaceOk n r) : ((iSheet nm r).flatMap Ev.boats).Nodup := ((sheet_perm nm r).flatMap_right Ev.boats).nodup_iff.mpr h.nd
theorem sheet_len (h : RaceOk n r) : (iSheet nm r).length ≤ 7 := by
  rw [(sheet_perm nm r).length_eq]
  have := h.ts2
  have := h.d5
  simp [evs0]; omega
theorem sheet_ok (hn : Nm nm n) (h : RaceOk n r) : ShOk nm n (iSheet nm r) where
  lt := fun e he => evs0_lt h e ((sheet_perm nm r).mem_iff.mp he)
  ne := fun a b he z => by
    subst z
    have h1 := sheet_nodup (nm := nm) h
    have := (List.pairwise_flatMap.mp h1).1 _ he
    simp [Ev.boats] at this
  asc := by
    refine zip_asc (R := fun a b => dataLt (evD nm a) (evD nm b) = true) (asc_of (srt_pw (evD nm) _) ?_)
    refine List.Pairwise.imp_of_mem ?_ (evs_nodup (sheet_nodup (nm := nm) h))
    intro a b ha hb ne
    exact evD_apart hn (evs0_lt h a ((sheet_perm nm r).mem_iff.mp ha)) (evs0_lt h b ((sheet_perm nm r).mem_iff.mp hb)) ne
  len := by have := sheet_len (nm := nm) h; omega
theorem touchP (e : Ev) (h : e.isT = true) (nm : Nat → Str) : tpD nm e.pair = evD nm e := by
  cases e with
  | t a b => rfl
  | d a => cases h
theorem sheet_touches (hn : Nm nm n) (h : RaceOk n r) : iTouches (iSheet nm r) = srtP nm r.ts := by
  have p : (iTouches (iSheet nm r)).Perm r.ts := touches0 r ▸ touches_perm (sheet_perm nm r)
  refine srt_uniq (f := tpD nm) ?_ ?_ (srt_pw (tpD nm) _) (p.trans (List.mergeSort_perm _ _).symm)
  · intro a ha b hb ne
    have h1 := h.tlt a (p.mem_iff.mp ha)
    have h2 := h.tlt b (p.mem_iff.mp hb)
    refine evD_apart hn (a := .t a.1 a.2) (b := .t b.1 b.2) ?_ ?_ ?_
    · intro x hx; simp [Ev.boats] at hx; rcases hx with rfl | rfl; exact h1.1; exact h1.2
    · intro x hx; simp [Ev.boats] at hx; rcases hx with rfl | rfl; exact h2.1; exact h2.2
    · intro z; injection z with z1 z2; exact ne (Prod.ext z1 z2)
  · have hs : (iSheet nm r).Pairwise fun a b => LeF (evD nm) a b = true := srt_pw (evD nm) _
    unfold iTouches
    rw [List.pairwise_map]
    refine List.Pairwise.imp_of_mem ?_ (List.Pairwise.filter Ev.isT hs)
    intro a b ha hb hab
    show dataLe false id (tpD nm a.pair) (tpD nm b.pair) = true
    rw [touchP a (List.mem_filter.mp ha).2, touchP b (List.mem_filter.mp hb).2]
    exact hab
end
end DL
/-! MC: two mornings, names told by the places of the first one: all that the charts' defs lean on. -/
namespace DL
open PySem PySem.Spec PyProof.Rows L2
variable [TheW]
/-- two whole mornings -/
structure Two (nm : Nat → Str) (n size reach : Nat) (bs t1 : List Nat) : Prop where
  hnm : Nm nm n
  n1 : 1 ≤ n
  sz : size ∈ [1, 2, 3, 4, 5, 8]
  rc : reach ∈ [0, 1, 2, 3, 7]
  hbs : bs.Perm (List.range n)
  srt : srtS nm (List.range n) = bs
  ht1 : t1.Perm (List.range n)
/-- what is told of them -/
structure TelOk (nm : Nat → Str) (n size reach : Nat) (l other : List Nat) (rs : List Race) : Prop where
  pre : ToldPre nm n size reach l other
  told : Told size reach l other = some rs
  rl : rs.length ≤ 5
  rl1 : 1 ≤ rs.length
  race : ∀ r ∈ rs, RaceOk n r
  len : rs.length = iRaces size l.length
  dok : DayOk n size reach (iDay nm rs) (iGoing size l.length) l
  go : iDayGo size (iDay nm rs) (iGoing size l.length) l = other
section
variable {nm : Nat → Str} {n size reach : Nat} {bs t1 : List Nat} {rs : List Race}
theorem range_lt (n : Nat) : Lt n (List.range n) := fun x hx => List.mem_range.mp hx
theorem range_nd (n : Nat) : (List.range n).Nodup := List.nodup_range
namespace Two
variable (h : Two nm n size reach bs t1)
include h
theorem n5 : n ≤ 5 := h.hnm.le
theorem mt : MtOk size reach := by
  have h1 := h.sz
  have h2 := h.rc
  simp at h1 h2
  exact ⟨by omega, by omega, by omega⟩
theorem t1l : t1.length = n := by rw [h.ht1.length_eq, List.length_range]
theorem bl : bs.length = n := by rw [h.hbs.length_eq, List.length_range]
theorem t1lt : Lt n t1 := fun x hx => range_lt n x (h.ht1.mem_iff.mp hx)
theorem bslt : Lt n bs := fun x hx => range_lt n x (h.hbs.mem_iff.mp hx)
theorem chk : chkG size reach n (iGoneP size reach (List.range n)) = true := by
  have := chk_of h.sz h.rc h.n1 h.n5
  unfold iGoneP
  rw [List.length_range]
  exact this
theorem gnd : ((iGoneP size reach (List.range n)).map (·.1)).Nodup := by
  have := h.chk
  unfold chkG at this
  rw [Bool.and_eq_true, decide_eq_true_eq] at this
  exact this.1
theorem one : chk1 size reach n (iGoneP size reach (List.range n)) t1 = true := by
  have := h.chk
  unfold chkG at this
  rw [Bool.and_eq_true] at this
  refine List.all_eq_true.mp this.2 t1 (mem_iRows n t1 (h.ht1.nodup_iff.mpr (range_nd n)) (fun x hx => h.ht1.mem_iff.mp hx) h.t1l)
theorem prew (p : WayP) (e1 : p.nm = nm) (e2 : p.size = size) (e3 : p.reach = reach) (e4 : p.r0 = List.range n) : PreW p n := by
  subst e1 e2 e3
  refine ⟨⟨h.hnm, by rw [e4]; exact range_lt n, h.mt, by rw [e4, List.length_range]; exact h.n1, by rw [e4, List.length_range]; exact h.n5⟩, ?_⟩
  have : p.gone = iGoneP p.size p.reach (List.range n) := by
    rw [← e4]; rfl
  rw [this]
  exact h.gnd
theorem glen : ∀ e ∈ iGoneP size reach (List.range n), e.1.length = t1.length := by
  intro e he
  have := (h.prew ⟨0, 0, 0, 0, 0, nm, size, reach, List.range n, 0⟩ rfl rfl rfl rfl).rows.1 e he
  rw [this.2.1, h.t1l, List.length_range]
theorem mor (ban : Ban) (hb : BanOk n n ban) : MorP nm n size reach bs (List.range n) t1 ban (iBanRow ban 0 (List.range n)) where
  pre := h.prew
  mt := h.mt
  l1 := by rw [List.length_range]; exact h.n1
  l5 := by rw [List.length_range]; exact h.n5
  hbs := h.bslt
  bl := by rw [h.bl, List.length_range]
  ht1 := h.t1lt
  tl := by rw [h.t1l, List.length_range]
  hban := by rw [List.length_range]; exact hb
  here := here_eq (h.hbs.nodup_iff.mpr (range_nd n)) (range_nd n) (fun x hx => h.hbs.mem_iff.mpr hx) (by rw [h.bl, List.length_range])
theorem full : FullRow nm n bs (List.range n) := ⟨range_lt n, range_nd n, fun z => by have := congrArg List.length z; rw [List.length_range] at this; have := h.n1; simp at *; omega, by rw [List.length_range]; have := h.n5; omega, h.srt⟩
theorem tpre : ToldPre nm n size reach (List.range n) t1 := by
  have h1 := h.one
  unfold chk1 at h1
  rw [Bool.and_eq_true] at h1
  have n1 := h.n1
  have n5 := h.n5
  refine ⟨h.hnm, h.mt, range_lt n, h.t1lt, fun z => ?_, fun z => ?_, by rw [List.length_range]; omega, by rw [List.length_range]; exact h1.1⟩
  · have := h.t1l; rw [z] at this; simp at this; omega
  · have := congrArg List.length z; rw [List.length_range] at this; simp at this; omega
theorem none_come (hT : Told size reach (List.range n) t1 = none) (ban : Ban) (R : Bool) : iComeR R (iGoneP size reach (List.range n)) t1 ban = [] := by
  have h1 := h.one
  unfold chk1 at h1
  rw [Bool.and_eq_true] at h1
  have hT : iTold size reach t1 (iGoing size n) (List.range n) [] = none := by
    unfold Told at hT
    rw [List.length_range] at hT
    exact hT
  rw [hT] at h1
  unfold iComeR
  rw [come_nil h.glen fun e he => of_decide_eq_true (List.all_eq_true.mp h1.2 e he)]
  split <;> rfl
theorem some_facts (hT : Told size reach (List.range n) t1 = some rs) : TelOk nm n size reach (List.range n) t1 rs ∧ ∃ met, (t1, met) ∈ iGoneP size reach (List.range n) ∧ ∀ p, p ∈ met ↔ ∃ r ∈ rs, p ∈ r.ts := by
  have h1 := h.one
  unfold chk1 at h1
  rw [Bool.and_eq_true] at h1
  have hT' : iTold size reach t1 (iGoing size n) (List.range n) [] = some rs := by
    unfold Told at hT
    rw [List.length_range] at hT
    exact hT
  rw [hT'] at h1
  obtain ⟨_, h1⟩ := h1
  dsimp only at h1
  rw [Bool.and_eq_true, Bool.and_eq_true] at h1
  obtain ⟨⟨h2, h3⟩, h4⟩ := h1
  unfold rsB at h2
  simp only [Bool.and_eq_true, decide_eq_true_eq, List.all_eq_true] at h2
  obtain ⟨⟨⟨l1, l2⟩, l3⟩, l4⟩ := h2
  have race : ∀ r ∈ rs, RaceOk n r := fun r hr => raceOk_of (l4 r hr)
  have get : ∀ (k : Nat) (r : Race), rs[k]? = some r → (iDay nm rs).getD k [] = iSheet nm r := fun k r hk => by
    unfold iDay
    rw [List.getD_eq_getElem?_getD, List.getElem?_map, hk]; rfl
  have D := day_ok (day := iDay nm rs) (n := n) (size := size) (reach := reach) (rs := rs) (other := t1) (by simp [iDay]) (fun k r hk => by rw [get k r hk]; exact sheet_perm nm r)
    (fun k r hk => by rw [get k r hk]; have := sheet_len (nm := nm) (race r (List.mem_of_getElem? hk)); omega) _ _ h3
  refine ⟨⟨h.tpre, hT, l3, l2, race, by rw [List.length_range]; exact l1, by rw [List.length_range]; exact D.1, by rw [List.length_range]; exact D.2⟩, ?_⟩
  obtain ⟨e, he, h5⟩ := List.any_eq_true.mp h4
  simp only [Bool.and_eq_true, decide_eq_true_eq, List.all_eq_true, List.any_eq_true] at h5
  obtain ⟨⟨e1, e2⟩, e3⟩ := h5
  refine ⟨e.2, by rw [← e1]; exact he, fun p => ⟨fun hp => ?_, fun ⟨r, hr, hp⟩ => e3 r hr p hp⟩⟩
  obtain ⟨r, hr, hq⟩ := e2 p hp
  exact ⟨r, hr, hq⟩
end Two
theorem TelOk.rso {l other : List Nat} (h : TelOk nm n size reach l other rs) : RsOk rs := ⟨by have := h.rl; omega, fun r hr => by have := (h.race r hr).ts2; have := (h.race r hr).d5; omega⟩
theorem day_touches (hn : Nm nm n) (h : ∀ r ∈ rs, RaceOk n r) (p : Nat × Nat) : p ∈ (iDay nm rs).flatMap iTouches ↔ ∃ r ∈ rs, p ∈ r.ts := by
  unfold iDay
  rw [List.mem_flatMap]
  constructor
  · rintro ⟨evs, he, hp⟩
    obtain ⟨r, hr, rfl⟩ := List.mem_map.mp he
    refine ⟨r, hr, ?_⟩
    have q : (iTouches (iSheet nm r)).Perm r.ts := touches0 r ▸ touches_perm (sheet_perm nm r)
    exact q.mem_iff.mp hp
  · rintro ⟨r, hr, hp⟩
    refine ⟨iSheet nm r, List.mem_map_of_mem hr, ?_⟩
    have q : (iTouches (iSheet nm r)).Perm r.ts := touches0 r ▸ touches_perm (sheet_perm nm r)
    exact q.mem_iff.mpr hp
theorem Two.gopre (h : Two nm n size reach bs t1) (T : TelOk nm n size reach (List.range n) t1 rs) (ban : Ban) (hb : BanOk n n ban) : GoPre nm n size reach (List.range n) t1 ban (List.range n) (iDay nm rs) where
  hnm := h.hnm
  hmt := h.mt
  ht0 := range_lt n
  ht1 := h.t1lt
  hr := range_lt n
  hrne := T.pre.2.2.2.2.2.1
  hrl := by rw [List.length_range]; have := h.n5; omega
  ht0l := by rw [List.length_range]; have := h.n5; omega
  ht1l := by rw [h.t1l]; have := h.n5; omega
  hban := by rw [List.length_range]; exact hb
  hdl := by rw [← T.len]; simp [iDay]
  hdl2 := by have := T.rl; have := T.rl1; simp [iDay]; omega
  hdok := T.dok
  hsh := fun evs he => by
    obtain ⟨r, hr, rfl⟩ := List.mem_map.mp he
    exact sheet_ok h.hnm (T.race r hr)
  hshl := fun evs he => by
    obtain ⟨r, hr, rfl⟩ := List.mem_map.mp he
    have := sheet_len (nm := nm) (T.race r hr); omega
  hr2 := by rw [T.go]; exact h.t1lt
  hr2l := by rw [T.go, h.t1l, List.length_range]
theorem Two.goes (h : Two nm n size reach bs t1) (T : TelOk nm n size reach (List.range n) t1 rs) (ban : Ban) :
    iGoes size (List.range n) t1 ban (List.range n) (iDay nm rs) = (iBanRow ban 0 (List.range n) && iBanDay ban 0 ((iDay nm rs).flatMap iTouches) && iBanRow ban 1 t1) := by
  unfold iGoes
  rw [T.go, iFits_iff _ _ rfl, iFits_iff _ _ rfl, decide_eq_true rfl, decide_eq_true rfl]
  simp
end
end DL
/-! SV2: specs of the law's own defs; an own list lent. -/
namespace DL
open PySem PySem.Spec PyProof.Rows L2
variable [TheW]
def t__law_spans : DFT := fun xs c K => ∃ size reach n : Nat, MtOk size reach ∧ 1 ≤ n ∧ n ≤ 5 ∧ xs = [.d (Mt size reach), .d (.int n)] ∧ K (.d (.list ((iGoing size n).map fun k => ppD (k * size, iLast size n k)))) c
def t__law_sheet (p : WelP) : DFT := fun xs c K => ∃ nm n l, ∃ reach : Nat, Nm nm n ∧ Lt n l ∧ l.Nodup ∧ l.length ≤ 5 ∧ c + 10 ≤ 1000000 ∧ xs = [p.self, .d (tN nm l), .d (.int reach)] ∧
  ∀ evs c', (evs.flatMap Ev.boats).Nodup → (∀ x ∈ evs.flatMap Ev.boats, x ∈ l) → c' ≤ c + 10 → K (.d (shD nm evs)) c'
def t__law_after : DFT := fun xs c K => ∃ nm n l evs, Nm nm n ∧ Lt n l ∧ l.Nodup ∧ l.length ≤ 5 ∧ (evs.flatMap Ev.boats).Nodup ∧ (∀ x ∈ evs.flatMap Ev.boats, x ∈ l) ∧ xs = [.d (tN nm l), .d (shD nm evs)] ∧ ∀ l' : List Nat, l'.Perm l → K (.d (tN nm l')) c
def t__law_day (p : WelP) : DFT := fun xs c K => ∃ nm n l size reach, Nm nm n ∧ MtOk size reach ∧ Lt n l ∧ l.Nodup ∧ 1 ≤ l.length ∧ l.length ≤ 5 ∧ c + 50 ≤ 1000000 ∧ xs = [p.self, .d (Mt size reach), .d (tN nm l)] ∧
  ∀ (day : List (List Ev)) (l' : List Nat) c', l'.Perm l → c' ≤ c + 50 → K (.d (.tuple [dayD nm day, tN nm l'])) c'
def t__law_chart (p : WelP) : DFT := fun xs c K => ∃ nm n l size reach, Nm nm n ∧ MtOk size reach ∧ Lt n l ∧ l.Nodup ∧ 1 ≤ l.length ∧ l.length ≤ 5 ∧ c + 60 ≤ 1000000 ∧ xs = [p.self, .d (Mt size reach), .d (tN nm l), .d (.int 2)] ∧
  ∀ (day : List (List Ev)) (l0 l1 : List Nat) c', l0.Perm l → l1.Perm l → c' ≤ c + 60 → K (.d (.tuple [.tuple [tN nm l0, .tuple [dayD nm day]], .list [tN nm l0, tN nm l1]])) c'
def t__law_boats (p : WelP) : DFT := fun xs c K => ∃ many : Nat, 1 ≤ many ∧ many ≤ 5 ∧ c + 100 ≤ 1000000 ∧ xs = [p.self, .d (.int many)] ∧
  ∀ nm c', Nm nm many → srtS nm (List.range many) = List.range many → c' ≤ c + 100 → K (.d (tN nm (List.range many))) c'
def t__law_told_right : DFT := fun xs c K => ∃ nm n size reach l other rs, TelOk nm n size reach l other rs ∧ xs = [.d (Mt size reach), .d (tN nm l), .d (tN nm other), .d (dayD nm (iDay nm rs))] ∧ K (.d (.bool true)) c
def t__law_bans_right (p : WelP) : DFT := fun xs c K => ∃ nm n size reach bs t1 rs, Two nm n size reach bs t1 ∧ Told size reach (List.range n) t1 = some rs ∧ c + 5 ≤ 1000000 ∧
  xs = [p.self, .d (Mt size reach), .d (morD nm bs (List.range n) t1), .d (.tuple [tN nm (List.range n), .tuple [dayD nm (iDay nm rs)]])] ∧ ∀ c', c' ≤ c + 5 → K (.d (.bool true)) c'
section
variable {X : Cx} {W : Wd} {pos p1 p2 p3 : Pos} {k j : Nat}
theorem de_lendV {x a b : Str} {i m : Nat} {y : DV} {T : DFT} {FW : Zs} {GW : Nat → Zs → Hp → Prop} (hF : W.F = FW) (hG : W.G = GW) (hGZ : ∀ c Z Z' H, GW c Z H → GW c Z' H) (F : DFn X.prog X.w X.K X.mg X.base k x (spD FW GW T)) (hr : Room j X.A) (hk : k ≤ j) (hg : Gl X x)
    (hN : X.N[i]? = some a := by rfl) (hv : Vis X.env.scope a := by first | exact Or.inl rfl | exact Or.inr (Or.inl rfl) | exact Or.inr (Or.inr rfl)) (hN2 : X.N[m]? = some b := by rfl) (hv2 : Vis X.env.scope b := by first | exact Or.inl rfl | exact Or.inr (Or.inl rfl) | exact Or.inr (Or.inr rfl)) (hd : (a == ("__debug__" : Str)) = false := by decide) (hcd : (a == ("__classdict__" : Str)) = false := by decide) (hd2 : (b == ("__debug__" : Str)) = false := by decide) (hcd2 : (b == ("__classdict__" : Str)) = false := by decide)
    (hdb : (x == ("__debug__" : Str)) = false := by decide)
    (hs2 : starEach [.Name b p2] X.env = (false, eval (.Name b p2) X.env) :: starEach [] X.env := by rfl)
    (he : starEach [.Name a p1, .Name b p2] X.env = (false, eval (.Name a p1) X.env) :: starEach [.Name b p2] X.env := by rfl) (hpl : (backTo pos (starEach [.Name b p2] X.env)).any (·.1) = false := by rfl) :
    DE X W (.Call (.Name x p3) [.Name a p1, .Name b p2] [] pos) (dLend i m y T) := by
  subst hF hG
  exact de_lend hGZ F hr hk hg hN hv hN2 hv2 hd hcd hd2 hcd2 hdb hs2 he hpl
end
end DL
/-! DEV2: defs of the text: their terms of rules, printed by gen.py. -/
namespace DL
open PySem PySem.Spec PyProof.Rows L2
variable [TheW]
abbrev st__law_spans : Stmt := top 71
abbrev sc__law_spans : Scope := defScope st__law_spans
abbrev N__law_spans : List Str := ["_law_meeting_here", "_law_many", "_law_found", "_law_first"]
theorem fs__law_spans : FnScope N__law_spans ["_law_meeting_here", "_law_many"] sc__law_spans := ⟨rfl, rfl, rfl, by decide +kernel, rfl, by decide +kernel, by decide +kernel⟩
def u__law_spans : DTS := (dSeq (dOwn 2 (fLst cNil))
    (dSeq (dFor (iR3 (cCons (dC (.int 0)) (cCons (dVar 1) (cCons (dIx (dVar 0) (dC (.int 0))) cNil)))) (dGName 3) (dDrop (dM 2 (cCons (dTup (cCons (dVar 3) (cCons (dCB gMin2 (dCons (dOp gSub (dVar 1) (dC (.int 1))) (dCons (dOp gAdd (dVar 3) (dIx (dVar 0) (dC (.int 0)))) dNil))) cNil))) cNil) mAppend)))
    (dRet (dOfF (fRev (dVar 2))))))
theorem d__law_spans {K : PySem.W.Frag} {mg : Str → Option Value} {base : Heap} {f : Addr} {cdv : Value} {A : Around} {outer : List Env} {s : Shared} {H : Hp} {E : XK} {W : Wd} (M : Mg mg) (hr : Room 0 (cx N__law_spans "_law_spans" sc__law_spans K mg base f cdv A outer s H E).A) : DSs (cx N__law_spans "_law_spans" sc__law_spans K mg base f cdv A outer s H E) W (defBody st__law_spans) u__law_spans := by
  have nd := fs__law_spans.nd
  exact (dss_cons (ds_own (i := 2) nd rfl (Or.inl rfl) (df_lst (da_of ac_nil)))
    (dss_cons (ds_for PassesOwn.never rfl (di_range3 rfl M.range (ac_cons de_int (ac_cons (dv 1) (ac_cons (de_ix ⟨rfl, rfl⟩ hr (dv 0) de_int (fun _ _ => rfl)) ac_nil)))) (dg_name (i := 3) nd rfl (Or.inl rfl)) (dss_one (ds_expr (de_append (i := 2) (ac_cons (de_tup (da_of (ac_cons (dv 3) (ac_cons (de_callB (cr_min2 rfl) rfl M.min (by decide +kernel) (da_cons (de_op od_sub (dv 1) de_int) (da_cons (de_op od_add (dv 3) (de_ix ⟨rfl, rfl⟩ hr (dv 0) de_int (fun _ _ => rfl))) da_nil))) ac_nil)))) ac_nil)))))
    (dss_one (ds_ret (de_ofF (df_rev (dv 2)))))))

abbrev st__law_sheet : Stmt := top 72
abbrev sc__law_sheet : Scope := defScope st__law_sheet
abbrev N__law_sheet : List Str := ["_law_well_here", "_law_start", "_law_reach", "_law_opened", "_law_events", "_law_p", "_law_boat", "_law_lot"]
theorem fs__law_sheet : FnScope N__law_sheet ["_law_well_here", "_law_start", "_law_reach"] sc__law_sheet := ⟨rfl, rfl, rfl, by decide +kernel, rfl, by decide +kernel, by decide +kernel⟩
def u__law_sheet (p : WelP) : DTS := (dSeq (dParO 3 4 (fLst cNil) (fLst cNil))
    (dSeq (dFor (iEnum (cCons (dVar 1) cNil)) (dGTup 2 (dGCons (dGName 5) (dGCons (dGName 6) dGNil))) (dSeq (dSet 7 (dCall (t__law_take p) (cCons (dVar 0) (cCons (dC (.int 5)) cNil))))
    (dIf (dAndT (dTest (dOp gLt (dVar 7) (dC (.int 2)))) (dAndT (dTest (dOp gNe (dVar 3) (dOfF (fLst cNil)))) (dTest (dOp gLe (dOp gSub (dOp gSub (dVar 5) (dIx (dVar 3) (dC (.int (-1))))) (dC (.int 1))) (dVar 2))))) (dDrop (dM 4 (cCons (dTup (cCons (dC (.str "touch")) (cCons (dVar 6) (cCons (dIx (dVar 1) (dM 3 cNil mPop)) cNil)))) cNil) mAppend)) (dIf (dTest (dOp gLt (dVar 7) (dC (.int 4)))) (dDrop (dM 3 (cCons (dVar 5) cNil) mAppend)) (dIf (dOrT (dTest (dOp gNe (dVar 3) (dOfF (fLst cNil)))) (dTest (dOp gEq (dCall (t__law_take p) (cCons (dVar 0) (cCons (dC (.int 2)) cNil))) (dC (.int 0))))) (dDrop (dM 4 (cCons (dTup (cCons (dC (.str "drop")) (cCons (dVar 6) cNil))) cNil) mAppend)) dNext)))))
    (dRet (dCB gTuple (dCons (dOfF (fSrt (dCons (dOp gAdd (dVar 4) (dOfF (fLc (iSeq (dVar 3)) (dGName 5) dYes (dTup (cCons (dC (.str "drop")) (cCons (dIx (dVar 1) (dVar 5)) cNil))) [5]))) dNil))) dNil)))))
theorem d__law_sheet {K : PySem.W.Frag} {mg : Str → Option Value} {base : Heap} {f : Addr} {cdv : Value} {A : Around} {outer : List Env} {s : Shared} {H : Hp} {E : XK} {W : Wd} {p : WelP} (hF : W.F = p.F) (hG : W.G = p.G) (M : Mg mg) (F_law_take : DFn TheW.P TheW.w K mg base 1 "_law_take" (spD p.F p.G (t__law_take p))) (hr : Room 1 (cx N__law_sheet "_law_sheet" sc__law_sheet K mg base f cdv A outer s H E).A) : DSs (cx N__law_sheet "_law_sheet" sc__law_sheet K mg base f cdv A outer s H E) W (defBody st__law_sheet) (u__law_sheet p) := by
  have nd := fs__law_sheet.nd
  exact (dss_cons (ds_parO (i := 3) (j := 4) rfl nd rfl rfl (by decide) rfl rfl (df_lst (da_of ac_nil)) (fun _ => (df_lst (da_of ac_nil))) rfl)
    (dss_cons (ds_for PassesOwn.never rfl (di_enum rfl M.enumerate (ac_cons (dv 1) ac_nil)) (dg_tup rfl (dgs_cons (dg_name (i := 5) nd rfl (Or.inl rfl)) (dgs_cons (dg_name (i := 6) nd rfl (Or.inl rfl)) dgs_nil))) (dss_cons (ds_set (i := 7) nd rfl (Or.inl rfl) (de_callV hF hG F_law_take hr (by decide) rfl (ac_cons (dv 0) (ac_cons de_int ac_nil))))
    (dss_one (ds_if (dt_w (dw_and (dt_cmp (od_lt hr) (dv 7) de_int (nomark _)) (dw_and (dt_cmp (od_ne hr) (dv 3) (de_ofF (df_lst (da_of ac_nil))) (nomark _)) (dw_and1 (dt_cmp od_le (de_op od_sub (de_op od_sub (dv 5) (de_ix ⟨rfl, rfl⟩ hr (dv 3) (de_neg) (fun _ _ => rfl))) de_int) (dv 2) (nomark _)))))) (dss_one (ds_expr (de_append (i := 4) (ac_cons (de_tup (da_of (ac_cons de_str (ac_cons (dv 6) (ac_cons (de_ix ⟨rfl, rfl⟩ hr (dv 1) (de_pop (i := 3)) (fun _ _ => rfl)) ac_nil))))) ac_nil)))) (dss_one (ds_if (dt_cmp (od_lt hr) (dv 7) de_int (nomark _)) (dss_one (ds_expr (de_append (i := 3) (ac_cons (dv 5) ac_nil)))) (dss_one (ds_if (dt_w (dw_or (dt_cmp (od_ne hr) (dv 3) (de_ofF (df_lst (da_of ac_nil))) (nomark _)) (dw_or1 (dt_cmp (od_eq hr) (de_callV hF hG F_law_take hr (by decide) rfl (ac_cons (dv 0) (ac_cons de_int ac_nil))) de_int (nomark _))))) (dss_one (ds_expr (de_append (i := 4) (ac_cons (de_tup (da_of (ac_cons de_str (ac_cons (dv 6) ac_nil)))) ac_nil)))) dss_nil))))))))
    (dss_one (ds_ret (de_callTy cr_tuple rfl M.tuple (by decide +kernel) (da_cons (de_ofF (df_sorted ⟨rfl, rfl⟩ hr rfl rfl M.sorted (da_cons (de_op od_add (dv 4) (de_ofF (df_lc (own := [("_law_p", 5)]) rfl nd (di_seq (dv 3)) (blkOk_by (N := N__law_sheet) (sc := sc__law_sheet) (by decide +kernel)) (tg_name (by decide)) (fun _ _ _ _ _ => (pg_name (i := 5) nd rfl (Or.inl rfl))) (fun _ _ _ _ _ _ => dts_nil) (fun _ _ _ _ _ _ => (de_tup (da_of (ac_cons de_str (ac_cons (de_ix ⟨rfl, rfl⟩ hr (dv 1) (dv 5) (fun _ _ => rfl)) ac_nil)))))))) da_nil))) da_nil))))))

abbrev st__law_after : Stmt := top 73
abbrev sc__law_after : Scope := defScope st__law_after
abbrev N__law_after : List Str := ["_law_start", "_law_sheet_here", "_law_row", "_law_event", "_law_p", "_law_q"]
theorem fs__law_after : FnScope N__law_after ["_law_start", "_law_sheet_here"] sc__law_after := ⟨rfl, rfl, rfl, by decide +kernel, rfl, by decide +kernel, by decide +kernel⟩
def u__law_after : DTS := (dSeq (dOwn 2 (fList (dCons (dVar 0) dNil)))
    (dSeq (dFor (iSeq (dVar 1)) (dGName 3) (dIf (dTest (dOp gEq (dIx (dVar 3) (dC (.int 0))) (dC (.str "touch")))) (dSeq (dPar 4 5 (cCons (dTIx (dVar 0) (dIx (dVar 3) (dC (.int 1)))) (cCons (dTIx (dVar 0) (dIx (dVar 3) (dC (.int 2)))) cNil)))
    (dAsg (dTup (cCons (dIx (dVar 3) (dC (.int 2))) (cCons (dIx (dVar 3) (dC (.int 1))) cNil))) (dGTup 2 (dGCons (dGSub 2 (dVar 4)) (dGCons (dGSub 2 (dVar 5)) dGNil))))) dNext))
    (dRet (dCB gTuple (dCons (dVar 2) dNil)))))
theorem d__law_after {K : PySem.W.Frag} {mg : Str → Option Value} {base : Heap} {f : Addr} {cdv : Value} {A : Around} {outer : List Env} {s : Shared} {H : Hp} {E : XK} {W : Wd} (M : Mg mg) (hr : Room 0 (cx N__law_after "_law_after" sc__law_after K mg base f cdv A outer s H E).A) : DSs (cx N__law_after "_law_after" sc__law_after K mg base f cdv A outer s H E) W (defBody st__law_after) u__law_after := by
  have nd := fs__law_after.nd
  exact (dss_cons (ds_own (i := 2) nd rfl (Or.inl rfl) (df_list rfl M.list (da_cons (dv 0) da_nil)))
    (dss_cons (ds_for PassesOwn.never rfl (di_seq (dv 1)) (dg_name (i := 3) nd rfl (Or.inl rfl)) (dss_one (ds_if (dt_cmp (od_eq hr) (de_ix ⟨rfl, rfl⟩ hr (dv 3) de_int (fun _ _ => rfl)) de_str (nomark _)) (dss_cons (ds_par (i := 4) (j := 5) rfl nd rfl rfl (by decide) rfl rfl (ac_cons (de_tindex (dv 0) (de_ix ⟨rfl, rfl⟩ hr (dv 3) de_int (fun _ _ => rfl))) (ac_cons (de_tindex (dv 0) (de_ix ⟨rfl, rfl⟩ hr (dv 3) de_int (fun _ _ => rfl))) ac_nil)) rfl)
    (dss_one (ds_asg (de_tup (da_of (ac_cons (de_ix ⟨rfl, rfl⟩ hr (dv 3) de_int (fun _ _ => rfl)) (ac_cons (de_ix ⟨rfl, rfl⟩ hr (dv 3) de_int (fun _ _ => rfl)) ac_nil)))) (dg_tup rfl (dgs_cons (dg_sub (i := 2) ⟨rfl, rfl⟩ hr (dv 4)) (dgs_cons (dg_sub (i := 2) ⟨rfl, rfl⟩ hr (dv 5)) dgs_nil)))))) dss_nil)))
    (dss_one (ds_ret (de_callTy cr_tuple rfl M.tuple (by decide +kernel) (da_cons (dv 2) da_nil))))))

abbrev st__law_day : Stmt := top 74
abbrev sc__law_day : Scope := defScope st__law_day
abbrev N__law_day : List Str := ["_law_well_here", "_law_meeting_here", "_law_row", "_law_sheets", "_law_first", "_law_last", "_law_start"]
theorem fs__law_day : FnScope N__law_day ["_law_well_here", "_law_meeting_here", "_law_row"] sc__law_day := ⟨rfl, rfl, rfl, by decide +kernel, rfl, by decide +kernel, by decide +kernel⟩
def u__law_day (p : WelP) : DTS := (dSeq (dOwn 3 (fLst cNil))
    (dSeq (dFor (iSeq (dCallP t__law_spans (cCons (dVar 1) (cCons (dCB gLen (dCons (dVar 2) dNil)) cNil)))) (dGTup 2 (dGCons (dGName 4) (dGCons (dGName 5) dGNil))) (dSeq (dSet 6 (dSl (dVar 2) (dPart (dVar 4)) (dPart (dOp gAdd (dVar 5) (dC (.int 1))))))
    (dSeq (dDrop (dM 3 (cCons (dCall (t__law_sheet p) (cCons (dVar 0) (cCons (dVar 6) (cCons (dIx (dVar 1) (dC (.int 1))) cNil)))) cNil) mAppend))
    (dSet 2 (dOp gAdd (dOp gAdd (dSl (dVar 2) dNo (dPart (dVar 4))) (dCallP t__law_after (cCons (dVar 6) (cCons (dIx (dVar 3) (dC (.int (-1)))) cNil)))) (dSl (dVar 2) (dPart (dOp gAdd (dVar 5) (dC (.int 1)))) dNo))))))
    (dRet (dTup (cCons (dCB gTuple (dCons (dOfF (fRev (dVar 3))) dNil)) (cCons (dVar 2) cNil))))))
theorem d__law_day {K : PySem.W.Frag} {mg : Str → Option Value} {base : Heap} {f : Addr} {cdv : Value} {A : Around} {outer : List Env} {s : Shared} {H : Hp} {E : XK} {W : Wd} {p : WelP} (hF : W.F = p.F) (hG : W.G = p.G) (M : Mg mg) (F_law_spans : DFn TheW.P TheW.w K mg base 1 "_law_spans" (spP t__law_spans)) (F_law_after : DFn TheW.P TheW.w K mg base 1 "_law_after" (spP t__law_after)) (F_law_sheet : DFn TheW.P TheW.w K mg base 2 "_law_sheet" (spD p.F p.G (t__law_sheet p))) (hr : Room 2 (cx N__law_day "_law_day" sc__law_day K mg base f cdv A outer s H E).A) : DSs (cx N__law_day "_law_day" sc__law_day K mg base f cdv A outer s H E) W (defBody st__law_day) (u__law_day p) := by
  have nd := fs__law_day.nd
  exact (dss_cons (ds_own (i := 3) nd rfl (Or.inl rfl) (df_lst (da_of ac_nil)))
    (dss_cons (ds_for PassesOwn.never rfl (di_seq (de_call F_law_spans hr (by decide) rfl (ac_cons (dv 1) (ac_cons (de_callB (cr_len ⟨rfl, rfl⟩) rfl M.len boot_len (da_cons (dv 2) da_nil)) ac_nil)))) (dg_tup rfl (dgs_cons (dg_name (i := 4) nd rfl (Or.inl rfl)) (dgs_cons (dg_name (i := 5) nd rfl (Or.inl rfl)) dgs_nil))) (dss_cons (ds_set (i := 6) nd rfl (Or.inl rfl) (de_slice (dv 2) (do_some (dv 4)) (do_some (de_op od_add (dv 5) de_int))))
    (dss_cons (ds_expr (de_append (i := 3) (ac_cons (de_callV hF hG F_law_sheet hr (by decide) rfl (ac_cons (dv 0) (ac_cons (dv 6) (ac_cons (de_ix ⟨rfl, rfl⟩ hr (dv 1) de_int (fun _ _ => rfl)) ac_nil)))) ac_nil)))
    (dss_one (ds_set (i := 2) nd rfl (Or.inl rfl) (de_op od_add (de_op od_add (de_slice (dv 2) do_none (do_some (dv 4))) (de_call F_law_after hr (by decide) rfl (ac_cons (dv 6) (ac_cons (de_ix ⟨rfl, rfl⟩ hr (dv 3) (de_neg) (fun _ _ => rfl)) ac_nil)))) (de_slice (dv 2) (do_some (de_op od_add (dv 5) de_int)) do_none)))))))
    (dss_one (ds_ret (de_tup (da_of (ac_cons (de_callTy cr_tuple rfl M.tuple (by decide +kernel) (da_cons (de_ofF (df_rev (dv 3))) da_nil)) (ac_cons (dv 2) ac_nil))))))))


end DL
/-! DEV3: defs of the text: their terms of rules, printed by gen.py. -/
namespace DL
open PySem PySem.Spec PyProof.Rows L2
variable [TheW]
abbrev st__law_chart : Stmt := top 75
abbrev sc__law_chart : Scope := defScope st__law_chart
abbrev N__law_chart : List Str := ["_law_well_here", "_law_meeting_here", "_law_boats_here", "_law_many", "_law_left", "_law_row", "_law_k", "_law_rows", "_law_days", "_law_m", "_law_day_here"]
theorem fs__law_chart : FnScope N__law_chart ["_law_well_here", "_law_meeting_here", "_law_boats_here", "_law_many"] sc__law_chart := ⟨rfl, rfl, rfl, by decide +kernel, rfl, by decide +kernel, by decide +kernel⟩
def u__law_chart (p : WelP) : DTS := (dSeq (dParO 4 5 (fList (dCons (dVar 2) dNil)) (fLst cNil))
    (dSeq (dFor (iR1 (cCons (dCB gLen (dCons (dVar 2) dNil)) cNil)) (dGName 6) (dDrop (dM 5 (cCons (dM 4 (cCons (dCall (t__law_take p) (cCons (dVar 0) (cCons (dCB gLen (dCons (dVar 4) dNil)) cNil))) cNil) mPopAt) cNil) mAppend)))
    (dSeq (dParO 7 8 (fLst (cCons (dCB gTuple (dCons (dVar 5) dNil)) cNil)) (fLst cNil))
    (dSeq (dFor (iR1 (cCons (dOp gSub (dVar 3) (dC (.int 1))) cNil)) (dGName 9) (dSeq (dAsg (dCall (t__law_day p) (cCons (dVar 0) (cCons (dVar 1) (cCons (dIx (dVar 7) (dC (.int (-1)))) cNil)))) (dGTup 2 (dGCons (dGName 10) (dGCons (dGName 5) dGNil))))
    (dSeq (dDrop (dM 8 (cCons (dVar 10) cNil) mAppend))
    (dDrop (dM 7 (cCons (dVar 5) cNil) mAppend)))))
    (dRet (dTup (cCons (dTup (cCons (dIx (dVar 7) (dC (.int 0))) (cCons (dCB gTuple (dCons (dVar 8) dNil)) cNil))) (cCons (dVar 7) cNil))))))))
theorem d__law_chart {K : PySem.W.Frag} {mg : Str → Option Value} {base : Heap} {f : Addr} {cdv : Value} {A : Around} {outer : List Env} {s : Shared} {H : Hp} {E : XK} {W : Wd} {p : WelP} (hF : W.F = p.F) (hG : W.G = p.G) (M : Mg mg) (F_law_day : DFn TheW.P TheW.w K mg base 3 "_law_day" (spD p.F p.G (t__law_day p))) (F_law_take : DFn TheW.P TheW.w K mg base 1 "_law_take" (spD p.F p.G (t__law_take p))) (hr : Room 3 (cx N__law_chart "_law_chart" sc__law_chart K mg base f cdv A outer s H E).A) : DSs (cx N__law_chart "_law_chart" sc__law_chart K mg base f cdv A outer s H E) W (defBody st__law_chart) (u__law_chart p) := by
  have nd := fs__law_chart.nd
  exact (dss_cons (ds_parO (i := 4) (j := 5) rfl nd rfl rfl (by decide) rfl rfl (df_list rfl M.list (da_cons (dv 2) da_nil)) (fun _ => (df_lst (da_of ac_nil))) rfl)
    (dss_cons (ds_for PassesOwn.never rfl (di_range1 rfl M.range (ac_cons (de_callB (cr_len ⟨rfl, rfl⟩) rfl M.len boot_len (da_cons (dv 2) da_nil)) ac_nil)) (dg_name (i := 6) nd rfl (Or.inl rfl)) (dss_one (ds_expr (de_append (i := 5) (ac_cons (de_popAt (i := 4) (ac_cons (de_callV hF hG F_law_take hr (by decide) rfl (ac_cons (dv 0) (ac_cons (de_callB (cr_len ⟨rfl, rfl⟩) rfl M.len boot_len (da_cons (dv 4) da_nil)) ac_nil))) ac_nil)) ac_nil)))))
    (dss_cons (ds_parO (i := 7) (j := 8) rfl nd rfl rfl (by decide) rfl rfl (df_lst (da_of (ac_cons (de_callTy cr_tuple rfl M.tuple (by decide +kernel) (da_cons (dv 5) da_nil)) ac_nil))) (fun _ => (df_lst (da_of ac_nil))) rfl)
    (dss_cons (ds_for PassesOwn.never rfl (di_range1 rfl M.range (ac_cons (de_op od_sub (dv 3) de_int) ac_nil)) (dg_name (i := 9) nd rfl (Or.inl rfl)) (dss_cons (ds_asg (de_callV hF hG F_law_day hr (by decide) rfl (ac_cons (dv 0) (ac_cons (dv 1) (ac_cons (de_ix ⟨rfl, rfl⟩ hr (dv 7) (de_neg) (fun _ _ => rfl)) ac_nil)))) (dg_tup rfl (dgs_cons (dg_name (i := 10) nd rfl (Or.inl rfl)) (dgs_cons (dg_name (i := 5) nd rfl (Or.inl rfl)) dgs_nil))))
    (dss_cons (ds_expr (de_append (i := 8) (ac_cons (dv 10) ac_nil)))
    (dss_one (ds_expr (de_append (i := 7) (ac_cons (dv 5) ac_nil)))))))
    (dss_one (ds_ret (de_tup (da_of (ac_cons (de_tup (da_of (ac_cons (de_ix ⟨rfl, rfl⟩ hr (dv 7) de_int (fun _ _ => rfl)) (ac_cons (de_callTy cr_tuple rfl M.tuple (by decide +kernel) (da_cons (dv 8) da_nil)) ac_nil)))) (ac_cons (dv 7) ac_nil))))))))))

abbrev st__law_told_right : Stmt := top 77
abbrev sc__law_told_right : Scope := defScope st__law_told_right
abbrev N__law_told_right : List Str := ["_law_meeting_here", "_law_row", "_law_other", "_law_day_here", "_law_word", "_law_races", "_law_sheet_here", "_law_touches", "_law_drops", "_law_free", "_law_dropped", "_law_event", "_law_boat"]
theorem fs__law_told_right : FnScope N__law_told_right ["_law_meeting_here", "_law_row", "_law_other", "_law_day_here"] sc__law_told_right := ⟨rfl, rfl, rfl, by decide +kernel, rfl, by decide +kernel, by decide +kernel⟩
def u__law_told_right : DTS := (dSeq (dAsg (dCallP t_told_by (cCons (dVar 0) (cCons (dVar 1) (cCons (dVar 2) cNil)))) (dGTup 2 (dGCons (dGName 4) (dGCons (dGName 5) dGNil))))
    (dSeq (dIf (dOrT (dTest (dOp gNe (dVar 4) (dC (.str "told")))) (dOrT (dTest (dOp gNe (dCB gLen (dCons (dVar 3) dNil)) (dCB gLen (dCons (dVar 5) dNil)))) (dTest (dOp gNe (dCallP t_day_behind (cCons (dVar 0) (cCons (dVar 1) (cCons (dVar 3) cNil)))) (dTup (cCons (dC (.str "row")) (cCons (dVar 2) cNil))))))) (dRet (dC (.bool false))) dNext)
    (dSeq (dFor (iZip (cCons (dVar 3) (cCons (dVar 5) cNil))) (dGTup 2 (dGCons (dGName 6) (dGCons (dGTup 3 (dGCons (dGName 7) (dGCons (dGName 8) (dGCons (dGName 9) dGNil)))) dGNil))) (dSeq (dOwn 10 (fLc (iSeq (dVar 6)) (dGName 11) (dTest (dOp gEq (dIx (dVar 11) (dC (.int 0))) (dC (.str "drop")))) (dIx (dVar 11) (dC (.int 1))) [11]))
    (dSeq (dIf (dTest (dOp gNe (dOfF (fLc (iSeq (dVar 6)) (dGName 11) (dTest (dOp gEq (dIx (dVar 11) (dC (.int 0))) (dC (.str "touch")))) (dVar 11) [11])) (dOfF (fList (dCons (dVar 7) dNil))))) (dRet (dC (.bool false))) dNext)
    (dIf (dOrT (dNotT (dTest (dCB gAll (dCons (dOfF (fLc (iSeq (dVar 8)) (dGName 12) dYes (dOp gIn (dVar 12) (dVar 10)) [12])) dNil)))) (dNotT (dTest (dCB gAll (dCons (dOfF (fLc (iSeq (dVar 10)) (dGName 12) dYes (dOp gIn (dVar 12) (dOp gAdd (dVar 8) (dVar 9))) [12])) dNil))))) (dRet (dC (.bool false))) dNext))))
    (dRet (dOp gGt (dCallP t_days_between (cCons (dVar 0) (cCons (dVar 1) (cCons (dVar 2) cNil)))) (dC (.int 0)))))))
theorem d__law_told_right {K : PySem.W.Frag} {mg : Str → Option Value} {base : Heap} {f : Addr} {cdv : Value} {A : Around} {outer : List Env} {s : Shared} {H : Hp} {E : XK} {W : Wd} (M : Mg mg) (Fdays_between : DFn TheW.P TheW.w K mg base 4 "days_between" (spP t_days_between)) (Fday_behind : DFn TheW.P TheW.w K mg base 5 "day_behind" (spP t_day_behind)) (Ftold_by : DFn TheW.P TheW.w K mg base 3 "told_by" (spP t_told_by)) (hr : Room 5 (cx N__law_told_right "_law_told_right" sc__law_told_right K mg base f cdv A outer s H E).A) : DSs (cx N__law_told_right "_law_told_right" sc__law_told_right K mg base f cdv A outer s H E) W (defBody st__law_told_right) u__law_told_right := by
  have nd := fs__law_told_right.nd
  exact (dss_cons (ds_asg (de_call Ftold_by hr (by decide) rfl (ac_cons (dv 0) (ac_cons (dv 1) (ac_cons (dv 2) ac_nil)))) (dg_tup rfl (dgs_cons (dg_name (i := 4) nd rfl (Or.inl rfl)) (dgs_cons (dg_name (i := 5) nd rfl (Or.inl rfl)) dgs_nil))))
    (dss_cons (ds_if (dt_w (dw_or (dt_cmp (od_ne hr) (dv 4) de_str (nomark _)) (dw_or (dt_cmp (od_ne hr) (de_callB (cr_len ⟨rfl, rfl⟩) rfl M.len boot_len (da_cons (dv 3) da_nil)) (de_callB (cr_len ⟨rfl, rfl⟩) rfl M.len boot_len (da_cons (dv 5) da_nil)) (nomark _)) (dw_or1 (dt_cmp (od_ne hr) (de_call Fday_behind hr (by decide) rfl (ac_cons (dv 0) (ac_cons (dv 1) (ac_cons (dv 3) ac_nil)))) (de_tup (da_of (ac_cons de_str (ac_cons (dv 2) ac_nil)))) (nomark _)))))) (dss_one (ds_ret de_bl)) dss_nil)
    (dss_cons (ds_for PassesOwn.never rfl (di_zip rfl M.zip (ac_cons (dv 3) (ac_cons (dv 5) ac_nil))) (dg_tup rfl (dgs_cons (dg_name (i := 6) nd rfl (Or.inl rfl)) (dgs_cons (dg_tup rfl (dgs_cons (dg_name (i := 7) nd rfl (Or.inl rfl)) (dgs_cons (dg_name (i := 8) nd rfl (Or.inr rfl)) (dgs_cons (dg_name (i := 9) nd rfl (Or.inr rfl)) dgs_nil)))) dgs_nil))) (dss_cons (ds_own (i := 10) nd rfl (Or.inr rfl) (df_lc (own := [("_law_event", 11)]) rfl nd (di_seq (dv 6)) (blkOk_by (N := N__law_told_right) (sc := sc__law_told_right) (by decide +kernel)) (tg_name (by decide)) (fun _ _ _ _ _ => (pg_name (i := 11) nd rfl (Or.inl rfl))) (fun _ _ _ _ _ _ => (dts_one (dt_cmp (od_eq hr) (de_ix ⟨rfl, rfl⟩ hr (dv 11) de_int (fun _ _ => rfl)) de_str (nomark _)))) (fun _ _ _ _ _ _ => (de_ix ⟨rfl, rfl⟩ hr (dv 11) de_int (fun _ _ => rfl)))))
    (dss_cons (ds_if (dt_cmp (od_ne hr) (de_ofF (df_lc (own := [("_law_event", 11)]) rfl nd (di_seq (dv 6)) (blkOk_by (N := N__law_told_right) (sc := sc__law_told_right) (by decide +kernel)) (tg_name (by decide)) (fun _ _ _ _ _ => (pg_name (i := 11) nd rfl (Or.inl rfl))) (fun _ _ _ _ _ _ => (dts_one (dt_cmp (od_eq hr) (de_ix ⟨rfl, rfl⟩ hr (dv 11) de_int (fun _ _ => rfl)) de_str (nomark _)))) (fun _ _ _ _ _ _ => (dv 11)))) (de_ofF (df_list rfl M.list (da_cons (dv 7) da_nil))) (nomark _)) (dss_one (ds_ret de_bl)) dss_nil)
    (dss_one (ds_if (dt_w (dw_or (dt_not (dt_val (de_callB (cr_allD rfl) rfl M.all (by decide +kernel) (da_cons (de_ofF (df_lc (own := [("_law_boat", 12)]) rfl nd (di_seq (dv 8)) (blkOk_by (N := N__law_told_right) (sc := sc__law_told_right) (by decide +kernel)) (tg_name (by decide)) (fun _ _ _ _ _ => (pg_name (i := 12) nd rfl (Or.inl rfl))) (fun _ _ _ _ _ _ => dts_nil) (fun _ _ _ _ _ _ => (de_cmp (od_in ⟨rfl, rfl⟩ hr) (dv 12) (dv 10) (by with_unfolding_all rfl))))) da_nil)))) (dw_or1 (dt_not (dt_val (de_callB (cr_allD rfl) rfl M.all (by decide +kernel) (da_cons (de_ofF (df_lc (own := [("_law_boat", 12)]) rfl nd (di_seq (dv 10)) (blkOk_by (N := N__law_told_right) (sc := sc__law_told_right) (by decide +kernel)) (tg_name (by decide)) (fun _ _ _ _ _ => (pg_name (i := 12) nd rfl (Or.inl rfl))) (fun _ _ _ _ _ _ => dts_nil) (fun _ _ _ _ _ _ => (de_cmp (od_in ⟨rfl, rfl⟩ hr) (dv 12) (de_op od_add (dv 8) (dv 9)) (by with_unfolding_all rfl))))) da_nil))))))) (dss_one (ds_ret de_bl)) dss_nil)))))
    (dss_one (ds_ret (de_cmp od_gt (de_call Fdays_between hr (by decide) rfl (ac_cons (dv 0) (ac_cons (dv 1) (ac_cons (dv 2) ac_nil)))) de_int (nomark _)))))))

abbrev st__law_boats : Stmt := top 69
abbrev sc__law_boats : Scope := defScope st__law_boats
abbrev N__law_boats : List Str := ["_law_well_here", "_law_many", "_law_names", "_law_k", "_law_word", "_law_way", "_law_letter", "_law_place"]
theorem fs__law_boats : FnScope N__law_boats ["_law_well_here", "_law_many"] sc__law_boats := ⟨rfl, rfl, rfl, by decide +kernel, rfl, by decide +kernel, by decide +kernel⟩
def u__law_boats (p : WelP) : DTS := (dSeq (dOwn 2 (fLst cNil))
    (dSeq (dFor (iR1 (cCons (dVar 1) cNil)) (dGName 3) (dSeq (dSet 4 (dJoin (dC (.str "")) (dOfF (fLc (iR1 (cCons (dOp gAdd (dC (.int 1)) (dCall (t__law_take p) (cCons (dVar 0) (cCons (dC (.int 8)) cNil)))) cNil)) (dGName 7) dYes (dCall (t__law_of p) (cCons (dVar 0) (cCons (dC (.str "abcdefghijklmnopqrstuvwxyz")) cNil))) [7]))))
    (dSeq (dSet 5 (dCall (t__law_take p) (cCons (dVar 0) (cCons (dC (.int 6)) cNil))))
    (dSeq (dIf (dAndT (dTest (dOp gNe (dVar 2) (dOfF (fLst cNil)))) (dTest (dOp gLt (dVar 5) (dC (.int 2))))) (dSet 4 (dSl (dOp gAdd (dLend 0 2 p.self (t__law_of p)) (dVar 4)) dNo (dPart (dC (.int 8))))) dNext)
    (dSeq (dIf (dTest (dOp gEq (dVar 5) (dC (.int 2)))) (dSet 4 (dCall (t__law_of p) (cCons (dVar 0) (cCons (dOfF (fLst (cCons (dC (.str "drop")) (cCons (dC (.str "touch")) (cCons (dC (.str "none")) (cCons (dC (.str "wall")) (cCons (dC (.str "d")) (cCons (dC (.str "u")) (cCons (dC (.str "t")) (cCons (dC (.str "o")) cNil)))))))))) cNil)))) dNext)
    (dSeq (dFor (iSeq (dC (.str "abcdefgh"))) (dGName 6) (dIf (dTest (dOp gIn (dVar 4) (dVar 2))) (dSet 4 (dOp gAdd (dSl (dVar 4) dNo (dPart (dC (.int 6)))) (dVar 6))) dNext))
    (dDrop (dM 2 (cCons (dVar 4) cNil) mAppend))))))))
    (dRet (dCB gTuple (dCons (dOfF (fSrt (dCons (dVar 2) dNil))) dNil)))))
theorem d__law_boats {K : PySem.W.Frag} {mg : Str → Option Value} {base : Heap} {f : Addr} {cdv : Value} {A : Around} {outer : List Env} {s : Shared} {H : Hp} {E : XK} {W : Wd} {p : WelP} (hF : W.F = p.F) (hG : W.G = p.G) (M : Mg mg) (F_law_of : DFn TheW.P TheW.w K mg base 2 "_law_of" (spD p.F p.G (t__law_of p))) (F_law_take : DFn TheW.P TheW.w K mg base 1 "_law_take" (spD p.F p.G (t__law_take p))) (hr : Room 2 (cx N__law_boats "_law_boats" sc__law_boats K mg base f cdv A outer s H E).A) : DSs (cx N__law_boats "_law_boats" sc__law_boats K mg base f cdv A outer s H E) W (defBody st__law_boats) (u__law_boats p) := by
  have nd := fs__law_boats.nd
  exact (dss_cons (ds_own (i := 2) nd rfl (Or.inl rfl) (df_lst (da_of ac_nil)))
    (dss_cons (ds_for PassesOwn.never rfl (di_range1 rfl M.range (ac_cons (dv 1) ac_nil)) (dg_name (i := 3) nd rfl (Or.inl rfl)) (dss_cons (ds_set (i := 4) nd rfl (Or.inl rfl) (de_join de_str (de_ofF (df_lc (own := [("_law_place", 7)]) rfl nd (di_range1 rfl M.range (ac_cons (de_op od_add de_int (de_callV hF hG F_law_take hr (by decide) rfl (ac_cons (dv 0) (ac_cons de_int ac_nil)))) ac_nil)) (blkOk_by (N := N__law_boats) (sc := sc__law_boats) (by decide +kernel)) (tg_name (by decide)) (fun _ _ _ _ _ => (pg_name (i := 7) nd rfl (Or.inl rfl))) (fun _ _ _ _ _ _ => dts_nil) (fun _ _ _ _ _ _ => (de_callV hF hG F_law_of hr (by decide) rfl (ac_cons (dv 0) (ac_cons de_str ac_nil))))))))
    (dss_cons (ds_set (i := 5) nd rfl (Or.inl rfl) (de_callV hF hG F_law_take hr (by decide) rfl (ac_cons (dv 0) (ac_cons de_int ac_nil))))
    (dss_cons (ds_if (dt_w (dw_and (dt_cmp (od_ne hr) (dv 2) (de_ofF (df_lst (da_of ac_nil))) (nomark _)) (dw_and1 (dt_cmp (od_lt hr) (dv 5) de_int (nomark _))))) (dss_one (ds_set (i := 4) nd rfl (Or.inl rfl) (de_slice (de_op od_add (de_lendV (i := 0) (m := 2) hF hG (fun _ _ _ _ g => g) F_law_of hr (by decide) rfl) (dv 4)) do_none (do_some de_int)))) dss_nil)
    (dss_cons (ds_if (dt_cmp (od_eq hr) (dv 5) de_int (nomark _)) (dss_one (ds_set (i := 4) nd rfl (Or.inl rfl) (de_callV hF hG F_law_of hr (by decide) rfl (ac_cons (dv 0) (ac_cons (de_ofF (df_lst (da_of (ac_cons de_str (ac_cons de_str (ac_cons de_str (ac_cons de_str (ac_cons de_str (ac_cons de_str (ac_cons de_str (ac_cons de_str ac_nil))))))))))) ac_nil))))) dss_nil)
    (dss_cons (ds_for PassesOwn.never rfl (di_seq de_str) (dg_name (i := 6) nd rfl (Or.inl rfl)) (dss_one (ds_if (dt_cmp (od_in ⟨rfl, rfl⟩ hr) (dv 4) (dv 2) (by with_unfolding_all rfl)) (dss_one (ds_set (i := 4) nd rfl (Or.inl rfl) (de_op od_add (de_slice (dv 4) do_none (do_some de_int)) (dv 6)))) dss_nil)))
    (dss_one (ds_expr (de_append (i := 2) (ac_cons (dv 4) ac_nil))))))))))
    (dss_one (ds_ret (de_callTy cr_tuple rfl M.tuple (by decide +kernel) (da_cons (de_ofF (df_sorted ⟨rfl, rfl⟩ hr rfl rfl M.sorted (da_cons (dv 2) da_nil))) da_nil))))))


end DL
/-! DEV4: defs of the text: their terms of rules, printed by gen.py. -/
namespace DL
open PySem PySem.Spec PyProof.Rows L2
variable [TheW]
abbrev st__law_bans_right : Stmt := top 76
abbrev sc__law_bans_right : Scope := defScope st__law_bans_right
abbrev N__law_bans_right : List Str := ["_law_well_here", "_law_meeting_here", "_law_mornings", "_law_chart_here", "_law_boats_here", "_law_row", "_law_other", "_law_had", "_law_sheet_here", "_law_bans", "_law_pair", "_law_ban", "_law_word", "_law_thing", "_law_one", "_law_event", "_law_p", "_law_boat"]
theorem fs__law_bans_right : FnScope N__law_bans_right ["_law_well_here", "_law_meeting_here", "_law_mornings", "_law_chart_here"] sc__law_bans_right := ⟨rfl, rfl, rfl, by decide +kernel, rfl, by decide +kernel, by decide +kernel⟩
def u__law_bans_right (p : WelP) : DTS := (dSeq (dAsg (dVar 2) (dGTup 2 (dGCons (dGName 4) (dGCons (dGTup 2 (dGCons (dGName 5) (dGCons (dGName 6) dGNil))) dGNil))))
    (dSeq (dOwn 7 (fLst cNil))
    (dSeq (dFor (iSeq (dIx (dIx (dVar 3) (dC (.int 1))) (dC (.int 0)))) (dGName 8) (dDrop (dM 7 (cCons (dOfF (fLc (iSeq (dVar 8)) (dGName 15) (dTest (dOp gEq (dIx (dVar 15) (dC (.int 0))) (dC (.str "touch")))) (dSl (dVar 15) (dPart (dC (.int 1))) dNo) [15])) cNil) mExtend)))
    (dSeq (dOwn 9 (fAdd (dOfF (fLc (iSeq (dVar 7)) (dGName 10) dYes (dOp gAdd (dTup (cCons (dC (.str "lacks")) (cCons (dC (.int 0)) cNil))) (dVar 10)) [10])) (dOfF (fLc (iEnum (cCons (dVar 6) cNil)) (dGTup 2 (dGCons (dGName 16) (dGCons (dGName 17) dGNil))) dYes (dTup (cCons (dC (.str "not")) (cCons (dC (.int 1)) (cCons (dVar 16) (cCons (dVar 17) cNil))))) [16, 17]))))
    (dSeq (dDrop (dM 9 (cCons (dTup (cCons (dC (.str "not")) (cCons (dC (.int 0)) (cCons (dC (.int 0)) (cCons (dIx (dVar 5) (dC (.int 0))) cNil))))) cNil) mAppend))
    (dSeq (dFor (iSeq (dVar 9)) (dGName 11) (dSeq (dAsg (dCallP t_chart_by (cCons (dVar 1) (cCons (dVar 2) (cCons (dVar 11) cNil)))) (dGTup 2 (dGCons (dGName 12) (dGCons (dGName 13) dGNil))))
    (dSeq (dIf (dOrT (dTest (dOp gNe (dVar 12) (dC (.str "wall")))) (dTest (dOp gIsNot (dCallP t_shows_stop (cCons (dVar 1) (cCons (dVar 2) (cCons (dVar 11) (cCons (dVar 13) cNil))))) (dC (.bool true))))) (dRet (dC (.bool false))) dNext)
    (dIf (dTest (dOp gIsNot (dCallP t_shows_chart (cCons (dVar 1) (cCons (dVar 2) (cCons (dVar 11) (cCons (dVar 3) cNil))))) (dC (.bool false)))) (dRet (dC (.bool false))) dNext))))
    (dSeq (dFor (iSeq (dVar 4)) (dGName 14) (dSeq (dSet 10 (dTup (cCons (dVar 14) (cCons (dCall (t__law_of p) (cCons (dVar 0) (cCons (dVar 4) cNil))) cNil))))
    (dIf (dAndT (dTest (dOp gNotIn (dVar 10) (dVar 7))) (dAndT (dTest (dOp gNe (dIx (dVar 10) (dC (.int 0))) (dIx (dVar 10) (dC (.int 1))))) (dNotT (dTest (dCallP t_shows_chart (cCons (dVar 1) (cCons (dVar 2) (cCons (dOp gAdd (dTup (cCons (dC (.str "lacks")) (cCons (dC (.int 0)) cNil))) (dVar 10)) (cCons (dVar 3) cNil))))))))) (dRet (dC (.bool false))) dNext)))
    (dRet (dC (.bool true))))))))))
theorem d__law_bans_right {K : PySem.W.Frag} {mg : Str → Option Value} {base : Heap} {f : Addr} {cdv : Value} {A : Around} {outer : List Env} {s : Shared} {H : Hp} {E : XK} {W : Wd} {p : WelP} (hF : W.F = p.F) (hG : W.G = p.G) (M : Mg mg) (Fshows_chart : DFn TheW.P TheW.w K mg base 7 "shows_chart" (spP t_shows_chart)) (F_law_of : DFn TheW.P TheW.w K mg base 2 "_law_of" (spD p.F p.G (t__law_of p))) (Fshows_stop : DFn TheW.P TheW.w K mg base 10 "shows_stop" (spP t_shows_stop)) (Fchart_by : DFn TheW.P TheW.w K mg base 10 "chart_by" (spP t_chart_by)) (hr : Room 10 (cx N__law_bans_right "_law_bans_right" sc__law_bans_right K mg base f cdv A outer s H E).A) : DSs (cx N__law_bans_right "_law_bans_right" sc__law_bans_right K mg base f cdv A outer s H E) W (defBody st__law_bans_right) (u__law_bans_right p) := by
  have nd := fs__law_bans_right.nd
  exact (dss_cons (ds_asg (dv 2) (dg_tup rfl (dgs_cons (dg_name (i := 4) nd rfl (Or.inl rfl)) (dgs_cons (dg_tup rfl (dgs_cons (dg_name (i := 5) nd rfl (Or.inl rfl)) (dgs_cons (dg_name (i := 6) nd rfl (Or.inl rfl)) dgs_nil))) dgs_nil))))
    (dss_cons (ds_own (i := 7) nd rfl (Or.inl rfl) (df_lst (da_of ac_nil)))
    (dss_cons (ds_for PassesOwn.never rfl (di_seq (de_ix ⟨rfl, rfl⟩ hr (de_ix ⟨rfl, rfl⟩ hr (dv 3) de_int (fun _ _ => rfl)) de_int (fun _ _ => rfl))) (dg_name (i := 8) nd rfl (Or.inl rfl)) (dss_one (ds_expr (de_extend (i := 7) (ac_cons (de_ofF (df_lc (own := [("_law_event", 15)]) rfl nd (di_seq (dv 8)) (blkOk_by (N := N__law_bans_right) (sc := sc__law_bans_right) (by decide +kernel)) (tg_name (by decide)) (fun _ _ _ _ _ => (pg_name (i := 15) nd rfl (Or.inl rfl))) (fun _ _ _ _ _ _ => (dts_one (dt_cmp (od_eq hr) (de_ix ⟨rfl, rfl⟩ hr (dv 15) de_int (fun _ _ => rfl)) de_str (nomark _)))) (fun _ _ _ _ _ _ => (de_slice (dv 15) (do_some de_int) do_none)))) ac_nil)))))
    (dss_cons (ds_own (i := 9) nd rfl (Or.inl rfl) (df_add (de_ofF (df_lc (own := [("_law_pair", 10)]) rfl nd (di_seq (dv 7)) (blkOk_by (N := N__law_bans_right) (sc := sc__law_bans_right) (by decide +kernel)) (tg_name (by decide)) (fun _ _ _ _ _ => (pg_name (i := 10) nd rfl (Or.inl rfl))) (fun _ _ _ _ _ _ => dts_nil) (fun _ _ _ _ _ _ => (de_op od_add (de_tup (da_of (ac_cons de_str (ac_cons de_int ac_nil)))) (dv 10))))) (de_ofF (df_lc (own := [("_law_p", 16), ("_law_boat", 17)]) rfl nd (di_enum rfl M.enumerate (ac_cons (dv 6) ac_nil)) (blkOk_by (N := N__law_bans_right) (sc := sc__law_bans_right) (by decide +kernel)) (tg_tup (tgs_cons (tg_name (by decide)) (tgs_cons (tg_name (by decide)) tgs_nil))) (fun _ _ _ _ _ => (pg_tup rfl (pgs_cons (pg_name (i := 16) nd rfl (Or.inl rfl)) (pgs_cons (pg_name (i := 17) nd rfl (Or.inl rfl)) pgs_nil)))) (fun _ _ _ _ _ _ => dts_nil) (fun _ _ _ _ _ _ => (de_tup (da_of (ac_cons de_str (ac_cons de_int (ac_cons (dv 16) (ac_cons (dv 17) ac_nil)))))))))))
    (dss_cons (ds_expr (de_append (i := 9) (ac_cons (de_tup (da_of (ac_cons de_str (ac_cons de_int (ac_cons de_int (ac_cons (de_ix ⟨rfl, rfl⟩ hr (dv 5) de_int (fun _ _ => rfl)) ac_nil)))))) ac_nil)))
    (dss_cons (ds_for PassesOwn.never rfl (di_seq (dv 9)) (dg_name (i := 11) nd rfl (Or.inl rfl)) (dss_cons (ds_asg (de_call Fchart_by hr (by decide) rfl (ac_cons (dv 1) (ac_cons (dv 2) (ac_cons (dv 11) ac_nil)))) (dg_tup rfl (dgs_cons (dg_name (i := 12) nd rfl (Or.inl rfl)) (dgs_cons (dg_name (i := 13) nd rfl (Or.inl rfl)) dgs_nil))))
    (dss_cons (ds_if (dt_w (dw_or (dt_cmp (od_ne hr) (dv 12) de_str (nomark _)) (dw_or1 (dt_cmp od_isNot (de_call Fshows_stop hr (by decide) rfl (ac_cons (dv 1) (ac_cons (dv 2) (ac_cons (dv 11) (ac_cons (dv 13) ac_nil))))) de_bl (nomark _))))) (dss_one (ds_ret de_bl)) dss_nil)
    (dss_one (ds_if (dt_cmp od_isNot (de_call Fshows_chart hr (by decide) rfl (ac_cons (dv 1) (ac_cons (dv 2) (ac_cons (dv 11) (ac_cons (dv 3) ac_nil))))) de_bl (nomark _)) (dss_one (ds_ret de_bl)) dss_nil)))))
    (dss_cons (ds_for PassesOwn.never rfl (di_seq (dv 4)) (dg_name (i := 14) nd rfl (Or.inl rfl)) (dss_cons (ds_set (i := 10) nd rfl (Or.inl rfl) (de_tup (da_of (ac_cons (dv 14) (ac_cons (de_callV hF hG F_law_of hr (by decide) rfl (ac_cons (dv 0) (ac_cons (dv 4) ac_nil))) ac_nil)))))
    (dss_one (ds_if (dt_w (dw_and (dt_cmp (od_notIn ⟨rfl, rfl⟩ hr) (dv 10) (dv 7) (by with_unfolding_all rfl)) (dw_and (dt_cmp (od_ne hr) (de_ix ⟨rfl, rfl⟩ hr (dv 10) de_int (fun _ _ => rfl)) (de_ix ⟨rfl, rfl⟩ hr (dv 10) de_int (fun _ _ => rfl)) (nomark _)) (dw_and1 (dt_not (dt_val (de_call Fshows_chart hr (by decide) rfl (ac_cons (dv 1) (ac_cons (dv 2) (ac_cons (de_op od_add (de_tup (da_of (ac_cons de_str (ac_cons de_int ac_nil)))) (dv 10)) (ac_cons (dv 3) ac_nil))))))))))) (dss_one (ds_ret de_bl)) dss_nil))))
    (dss_one (ds_ret de_bl)))))))))


end DL
/-! L20: _law_spans. -/
namespace DL
open PySem PySem.Spec PyProof.Rows L2
variable [TheW]
def rgcB (size n : Nat) : Bool := decide ((size : Int) ≠ 0) && decide ((size : Int).natAbs < 1073741824) && Builtin.Range.small 0 n size && decide (Builtin.Range.rangeSize 0 n size = (iRaces size n : Nat))
theorem rgc_all : ((List.range 9).all fun size => (List.range 6).all fun n => decide (size = 0) || decide (n = 0) || rgcB size n) = true := by decide +kernel
theorem rgc_of {size n : Nat} (h0 : 1 ≤ size) (h8 : size ≤ 8) (h1 : 1 ≤ n) (h5 : n ≤ 5) : RgC 0 n size (iRaces size n) := by
  have h := List.all_eq_true.mp (List.all_eq_true.mp rgc_all size (List.mem_range.mpr (by omega))) n (List.mem_range.mpr (by omega))
  rw [decide_eq_false (by omega), decide_eq_false (by omega), Bool.false_or, Bool.false_or] at h
  unfold rgcB at h
  simp only [Bool.and_eq_true, decide_eq_true_eq] at h
  obtain ⟨⟨⟨a, b⟩, c⟩, d⟩ := h
  exact ⟨a, b, c, d⟩
theorem l__law_spans : Law t__law_spans u__law_spans N__law_spans := by
  rintro xs c K ⟨size, reach, n, hm, h1, h5, rfl, q⟩
  refine ⟨by simp, _, rfl, iRaces size n, rgc_of hm.1 hm.2.1 h1 h5, ?_⟩
  have hrl : iRaces size n ≤ 5 := by
    unfold iRaces
    refine Nat.le_of_lt_succ (Nat.div_lt_of_lt_mul ?_)
    have := hm.1
    omega
  refine dLoop_list (fun k : Nat => .d (.int (0 + (k : Nat) * size))) (List.range (iRaces size n)) (fun done s => ∃ x3 : Option DS, s = ⟨[some (.sh (.d (Mt size reach))), some (.sh (.d (.int n))), some (.own (.lst (done.map fun k => ppD (k * size, iLast size n k)))), x3], c⟩) ?_ ?_ _ ⟨none, rfl⟩
  · rintro done k rest s R e ⟨x3, rfl⟩ hR
    have hdl : done.length < 6 := by
      have := congrArg List.length e
      rw [List.length_range, List.length_append, List.length_cons] at this
      omega
    refine ⟨⟨_, rfl⟩, trivial, _, rfl, ?_⟩
    conv => whnf
    refine ⟨by simp, _, rfl, by simp; omega, ?_⟩
    refine hR _ ⟨some (.sh (.d (.int (0 + (k : Nat) * size)))), ?_⟩
    rw [List.map_append]
    have e1 : (0 + (k : Int) * size) = ((k * size : Nat) : Int) := by simp
    have e2 : (if 0 + (k : Int) * size + size < (n : Int) - 1 then 0 + (k : Int) * size + size else (n : Int) - 1) = ((iLast size n k : Nat) : Int) := by
      unfold iLast
      rw [e1]
      split <;> omega
    rw [e1] at e2 ⊢
    rw [e2]
    rfl
  · rintro s ⟨x3, rfl⟩
    refine kEq q ?_
    unfold iGoing
    rw [← List.map_reverse]
end DL
/-! L21: _law_after. -/
namespace DL
open PySem PySem.Spec PyProof.Rows L2
theorem swap_perm {l : List Nat} {i j a b : Nat} (hi : l[i]? = some a) (hj : l[j]? = some b) (hij : i ≠ j) : ((l.set i b).set j a).Perm l := by
  obtain ⟨li, ei⟩ := List.getElem?_eq_some_iff.mp hi
  obtain ⟨lj, ej⟩ := List.getElem?_eq_some_iff.mp hj
  refine List.perm_iff_count.mpr fun x => ?_
  rw [List.count_set (by simpa using lj), List.count_set li, List.getElem_set_ne hij, ei, ej]
  have ha : a = x → 0 < List.count x l := fun z => List.count_pos_iff.mpr (by rw [← z, ← ei]; exact List.getElem_mem _)
  have hb : b = x → 0 < List.count x l := fun z => List.count_pos_iff.mpr (by rw [← z, ← ej]; exact List.getElem_mem _)
  by_cases e1 : a = x
  · by_cases e2 : b = x
    · have := ha e1
      simp [e1, e2]; omega
    · have := ha e1
      simp [e1, e2]; omega
  · by_cases e2 : b = x
    · simp [e1, e2]
    · simp [e1, e2]
variable [TheW]
theorem l__law_after : Law t__law_after u__law_after N__law_after := by
  rintro xs c K ⟨nm, n, l, evs, hn, hl, hld, hl5, hnd, hsub, rfl, q⟩
  refine dl_map ?_
  refine dLoop_list (fun e => .d (evD nm e)) evs (fun done s => ∃ (x3 x4 x5 : Option DS) (row : List Nat), s = ⟨[some (.sh (.d (tN nm l))), some (.sh (.d (shD nm evs))), some (.own (.lst (row.map (sB nm)))), x3, x4, x5], c⟩ ∧ row.Perm l ∧ ∀ x ∈ l, x ∉ done.flatMap Ev.boats → row[l.idxOf x]? = some x) ?_ ?_ _
    ⟨none, none, none, l, rfl, .refl _, fun x hx _ => ?_⟩
  · rintro done e rest s R he ⟨x3, x4, x5, row, rfl, hp, hx⟩ hR
    cases e with
    | d a =>
      refine ⟨_, rfl, okD_str, okD_str, ifF (by decide +kernel) ?_⟩
      refine hR _ ⟨_, _, _, row, rfl, hp, fun x hxl hxd => hx x hxl fun z => hxd ?_⟩
      rw [List.flatMap_append]; exact List.mem_append_left _ z
    | t a b =>
      have hnd2 := hnd
      rw [he, List.flatMap_append, List.flatMap_cons] at hnd2
      obtain ⟨_, d2, d3⟩ := List.nodup_append.mp hnd2
      have hab : a ≠ b := by
        have := (List.nodup_append.mp d2).1
        simpa [Ev.boats] using this
      have ha : a ∈ l := hsub a (by rw [he]; simp [Ev.boats])
      have hb : b ∈ l := hsub b (by rw [he]; simp [Ev.boats])
      have hna : a ∉ done.flatMap Ev.boats := fun z => d3 a z a (by simp [Ev.boats]) rfl
      have hnb : b ∉ done.flatMap Ev.boats := fun z => d3 b z b (by simp [Ev.boats]) rfl
      have ga := hx a ha hna
      have gb := hx b hb hnb
      have la := (List.getElem?_eq_some_iff.mp ga).1
      have lb := (List.getElem?_eq_some_iff.mp gb).1
      have hij : l.idxOf a ≠ l.idxOf b := fun z => by
        rw [z, gb] at ga
        exact hab (Option.some.inj ga).symm
      refine ⟨_, rfl, okD_str, okD_str, ifT (by decide +kernel) ?_⟩
      refine ⟨⟨_, rfl⟩, _, rfl, _, _, asStrs_sB l, hn.ix hl ha (hl a ha), ⟨_, rfl⟩, _, rfl, _, _, asStrs_sB l, hn.ix hl hb (hl b hb), ?_⟩
      refine ⟨_, rfl, _, rfl, by simp, rfl, ⟨_, rfl⟩, _, ixN_nat (by simpa using la), ⟨_, rfl⟩, _, ixN_nat (by simpa using lb), rfl, ?_⟩
      refine hR _ ⟨some (.sh (.d (evD nm (.t a b)))), some (.sh (.d (.int (l.idxOf a : Nat)))), some (.sh (.d (.int (l.idxOf b : Nat)))), (row.set (l.idxOf a) b).set (l.idxOf b) a, ?_, (swap_perm ga gb hij).trans hp, fun x hxl hxd => ?_⟩
      · rw [List.map_set, List.map_set]
        rfl
      · rw [List.flatMap_append, List.mem_append, not_or] at hxd
        have hxa : x ≠ a := fun z => hxd.2 (by simp [Ev.boats, z])
        have hxb : x ≠ b := fun z => hxd.2 (by simp [Ev.boats, z])
        have gx := hx x hxl hxd.1
        rw [List.getElem?_set_ne, List.getElem?_set_ne]
        · exact gx
        · intro z; rw [← z, ga] at gx; exact hxa (Option.some.inj gx).symm
        · intro z; rw [← z, gb] at gx; exact hxb (Option.some.inj gx).symm
  · rintro s ⟨x3, x4, x5, row, rfl, hp, hx⟩
    exact q row hp
  · rw [List.getElem?_eq_getElem (List.idxOf_lt_length_of_mem hx), List.getElem_idxOf]
end DL
set_option maxHeartbeats 2000000
/-! L22: _law_sheet. -/
namespace DL
open PySem PySem.Spec PyProof.Rows L2
variable [TheW]
def intsD (op : List Nat) : List PyData := op.map fun k => .int (k : Nat)
theorem ok_intsD {k : Nat} {op : List Nat} : (intsD op).all (okD k) = true := by
  unfold intsD
  rw [List.all_map]
  exact List.all_eq_true.mpr fun _ _ => okD_int
theorem intsD_nil (op : List Nat) : (!PyData.eqv (.list (intsD op)) (.list [])) = !op.isEmpty := by cases op <;> simp [intsD, PyData.eqv, PyData.eqvAll]
/-- what is open and what was told so far -/
structure ShI (l : List Nat) (done : List (Nat × Nat)) (op : List Nat) (evs : List Ev) : Prop where
  nd : (evs.flatMap Ev.boats ++ op.map fun k => l.getD k 0).Nodup
  sub : ∀ x ∈ evs.flatMap Ev.boats ++ op.map (fun k => l.getD k 0), x ∈ done.map (·.1)
  opl : ∀ k ∈ op, k < l.length
  el : evs.length ≤ done.length
  ol : op.length ≤ done.length
theorem ShI.next {l : List Nat} {done : List (Nat × Nat)} {op op' : List Nat} {evs evs' : List Ev} {a k : Nat} (h : ShI l done op evs) (hk : l[k]? = some a) (ha : a ∉ done.map (·.1))
    (hp : (evs'.flatMap Ev.boats ++ op'.map fun k => l.getD k 0).Perm (a :: (evs.flatMap Ev.boats ++ op.map fun k => l.getD k 0))) (ho : ∀ k' ∈ op', k' ∈ op ∨ k' = k) (el : evs'.length ≤ evs.length + 1) (ol : op'.length ≤ op.length + 1) : ShI l (done ++ [(a, k)]) op' evs' where
  nd := hp.nodup_iff.mpr (List.nodup_cons.mpr ⟨fun z => ha (h.sub _ z), h.nd⟩)
  sub := fun x hx => by
    rcases List.mem_cons.mp (hp.mem_iff.mp hx) with rfl | hx
    · simp
    · rw [List.map_append]; exact List.mem_append_left _ (h.sub x hx)
  opl := fun k' hk' => by
    rcases ho k' hk' with z | rfl
    · exact h.opl _ z
    · exact (List.getElem?_eq_some_iff.mp hk).1
  el := by have := h.el; simp; omega
  ol := by have := h.ol; simp; omega
theorem ShI.same {l : List Nat} {done : List (Nat × Nat)} {op : List Nat} {evs : List Ev} {p : Nat × Nat} (h : ShI l done op evs) : ShI l (done ++ [p]) op evs where
  nd := h.nd
  sub := fun x hx => by rw [List.map_append]; exact List.mem_append_left _ (h.sub x hx)
  opl := h.opl
  el := by have := h.el; simp; omega
  ol := by have := h.ol; simp; omega
theorem l__law_sheet (p : WelP) : Law (t__law_sheet p) (u__law_sheet p) N__law_sheet := by
  rintro xs c K ⟨nm, n, l, reach, hn, hl, hld, hl5, hc, rfl, q⟩
  refine ⟨by simp, by simp, ?_⟩
  refine dl_enum ?_
  refine dLoop_list (fun e : Nat × Nat => .p [.int (e.2 : Nat), sB nm e.1]) l.zipIdx (fun done s => ∃ (x5 x6 x7 : Option DS) (op : List Nat) (evs : List Ev) (c1 : Nat), s = ⟨[some (.sh p.self), some (.sh (.d (tN nm l))), some (.sh (.d (.int reach))), some (.own (.lst (intsD op))), some (.own (.lst (evs.map (evD nm)))), x5, x6, x7], c1⟩ ∧ c1 ≤ c + 2 * done.length ∧ ShI l done op evs) ?_ ?_ _
    ⟨none, none, none, [], [], c, rfl, by simp, ⟨by simp, by simp, by simp, by simp, by simp⟩⟩
  · rintro done ⟨a, k⟩ rest s R e ⟨x5, x6, x7, op, evs, c1, rfl, hc1, hI⟩ hR
    have hlen := congrArg List.length e
    rw [List.length_zipIdx, List.length_append, List.length_cons] at hlen
    have hdl : done.length < 5 := by omega
    have hk : l[k]? = some a := by
      have : (a, k) ∈ l.zipIdx := by rw [e]; simp
      simpa using List.mem_zipIdx_iff_getElem?.mp this
    have ha : a ∉ done.map (·.1) := fun z => by
      have h1 : l = done.map (·.1) ++ a :: rest.map (·.1) := by
        have := congrArg (List.map Prod.fst) e
        rw [List.zipIdx_map_fst, List.map_append, List.map_cons] at this
        exact this
      rw [h1] at hld
      exact (List.nodup_append.mp hld).2.2 a z a (by simp) rfl
    have hel := hI.el
    have hol := hI.ol
    refine ⟨rfl, ?_⟩
    refine ⟨rfl, 5, by decide, by decide, by show c1 < _; omega, rfl, fun lot c2 hlot hc2 => ?_⟩
    have hc2 : c2 ≤ c1 + 1 := hc2
    have hskip : ∀ c3, c3 ≤ c1 + 2 → R ⟨[some (.sh p.self), some (.sh (.d (tN nm l))), some (.sh (.d (.int reach))), some (.own (.lst (intsD op))), some (.own (.lst (evs.map (evD nm)))), some (.sh (.d (.int (k : Nat)))), some (.sh (.d (sB nm a))), some (.sh (.d (.int (lot : Nat))))], c3⟩ := fun c3 h3 =>
      hR _ ⟨_, _, _, op, evs, c3, rfl, by simp; omega, hI.same⟩
    have hopen : ∀ c3, c3 ≤ c1 + 2 → R ⟨[some (.sh p.self), some (.sh (.d (tN nm l))), some (.sh (.d (.int reach))), some (.own (.lst (intsD op ++ [.int (k : Nat)]))), some (.own (.lst (evs.map (evD nm)))), some (.sh (.d (.int (k : Nat)))), some (.sh (.d (sB nm a))), some (.sh (.d (.int (lot : Nat))))], c3⟩ := fun c3 h3 => by
      refine hR _ ⟨_, _, _, op ++ [k], evs, c3, by unfold intsD; rw [List.map_append]; rfl, by simp; omega, hI.next hk ha ?_ (fun k' h => by simpa using h) (by omega) (by simp)⟩
      rw [List.map_append, ← List.append_assoc, List.map_cons, List.map_nil, List.getD_eq_getElem?_getD, hk]
      exact List.perm_append_comm
    have hdrop : ∀ c3, c3 ≤ c1 + 2 → R ⟨[some (.sh p.self), some (.sh (.d (tN nm l))), some (.sh (.d (.int reach))), some (.own (.lst (intsD op))), some (.own (.lst (evs.map (evD nm) ++ [evD nm (.d a)]))), some (.sh (.d (.int (k : Nat)))), some (.sh (.d (sB nm a))), some (.sh (.d (.int (lot : Nat))))], c3⟩ := fun c3 h3 => by
      refine hR _ ⟨_, _, _, op, evs ++ [.d a], c3, by rw [List.map_append]; rfl, by simp; omega, hI.next hk ha ?_ (fun k' h => .inl h) (by simp) (by omega)⟩
      rw [List.flatMap_append, List.append_assoc]
      exact List.perm_middle
    have htouch : ∀ op' k0, op = op' ++ [k0] → ∀ c3, c3 ≤ c1 + 2 → R ⟨[some (.sh p.self), some (.sh (.d (tN nm l))), some (.sh (.d (.int reach))), some (.own (.lst (intsD op'))), some (.own (.lst (evs.map (evD nm) ++ [evD nm (.t a (l.getD k0 0))]))), some (.sh (.d (.int (k : Nat)))), some (.sh (.d (sB nm a))), some (.sh (.d (.int (lot : Nat))))], c3⟩ := fun op' k0 e0 c3 h3 => by
      refine hR _ ⟨_, _, _, op', evs ++ [.t a (l.getD k0 0)], c3, by rw [List.map_append]; rfl, by simp; omega, hI.next hk ha ?_ (fun k' h => .inl (by rw [e0]; simp [h])) (by simp) (by rw [e0]; simp; omega)⟩
      rw [e0, List.flatMap_append, List.append_assoc, List.map_append]
      refine List.perm_middle.trans (List.Perm.cons _ (List.Perm.append_left _ ?_))
      exact List.perm_append_comm (l₁ := [_])
    have hrest : (dIf (dTest (dOp gLt (dVar 7) (dC (.int 4)))) (dDrop (dM 3 (cCons (dVar 5) cNil) mAppend)) (dIf (dOrT (dTest (dOp gNe (dVar 3) (dOfF (fLst cNil)))) (dTest (dOp gEq (dCall (t__law_take p) (cCons (dVar 0) (cCons (dC (.int 2)) cNil))) (dC (.int 0))))) (dDrop (dM 4 (cCons (dTup (cCons (dC (.str "drop")) (cCons (dVar 6) cNil))) cNil) mAppend)) dNext)) { nx := R, ct := R, bk := fun s => True, rt := fun x s => True } ⟨[some (.sh p.self), some (.sh (.d (tN nm l))), some (.sh (.d (.int reach))), some (.own (.lst (intsD op))), some (.own (.lst (evs.map (evD nm)))), some (.sh (.d (.int (k : Nat)))), some (.sh (.d (sB nm a))), some (.sh (.d (.int (lot : Nat))))], c2⟩ := by
      by_cases h4 : ((lot : Nat) : Int) < 4
      · refine ifD h4 ?_
        refine ⟨⟨_, rfl⟩, _, rfl, by simp [intsD]; omega, hopen c2 (by omega)⟩
      · refine ifN h4 ?_
        refine ⟨by simp, ok_intsD, rfl, ?_⟩
        cases op with
        | cons y t => exact ifT (by simp [intsD, PyData.eqv, PyData.eqvAll]) (ifT rfl ⟨⟨_, rfl⟩, by simp, _, rfl, by simp; omega, hdrop c2 (by omega)⟩)
        | nil =>
          refine ifF (by simp [intsD, PyData.eqv, PyData.eqvAll]) ?_
          refine ⟨2, by decide, by decide, by show c2 < _; omega, rfl, fun d c3 hd hc3 => ⟨okD_int, okD_int, ?_⟩⟩
          have hc3 : c3 ≤ c2 + 1 := hc3
          exact ifB (fun _ => ⟨⟨_, rfl⟩, by simp, _, rfl, by simp; omega, hdrop c3 (by omega)⟩) fun _ => hskip c3 (by omega)
    by_cases h2 : ((lot : Nat) : Int) < 2
    · refine ifD h2 ?_
      refine ⟨by simp, ok_intsD, rfl, ?_⟩
      rcases List.eq_nil_or_concat op with e0 | ⟨op', k0, e0⟩
      · subst e0
        exact ifF (by simp [intsD, PyData.eqv, PyData.eqvAll]) (ifF rfl hrest)
      · have e0 : op = op' ++ [k0] := by simpa using e0
        have ei : intsD op = intsD op' ++ [.int (k0 : Nat)] := by rw [e0]; unfold intsD; rw [List.map_append]; rfl
        have hk0 : k0 < l.length := hI.opl k0 (by rw [e0]; simp)
        refine ifT (by rw [intsD_nil, e0]; simp) ?_
        refine ⟨.int (k0 : Nat), by rw [ei]; exact atI_last, trivial, trivial, trivial, ?_⟩
        refine ifB (fun _ => ?_) (fun _ => hrest)
        have ed : (intsD op).dropLast = intsD op' := by rw [ei]; simp
        have ht := htouch op' k0 e0 c2 (by omega)
        rw [← ed] at ht
        refine ⟨⟨_, rfl⟩, ⟨_, rfl⟩, _, rfl, .int (k0 : Nat), by rw [ei]; simp, sB nm (l.getD k0 0), atI_m (getD_some hk0), by simp, _, rfl, by simp; omega, ht⟩
    · refine ifN h2 ?_
      exact hrest
  · rintro s ⟨x5, x6, x7, op, evs, c1, rfl, hc1, hI⟩
    rw [List.length_zipIdx] at hc1
    have hel := hI.el
    have hol := hI.ol
    rw [List.length_zipIdx] at hel hol
    refine ⟨by simp [intsD]; omega, lc_mm ?_⟩
    refine lc_map (fun k : Nat => .d (.int (k : Nat))) (fun k => evD nm (.d (l.getD k 0))) op _ (fun k Kt Kf hk h => ?_) ?_
    · exact ⟨sB nm (l.getD k 0), atI_m (getD_some (hI.opl k hk)), by simp, h⟩
    · let evs2 := evs ++ op.map fun k => Ev.d (l.getD k 0)
      have e1 : evs.map (evD nm) ++ op.map (fun k => evD nm (.d (l.getD k 0))) = evs2.map (evD nm) := by
        show _ = (evs ++ op.map fun k => Ev.d (l.getD k 0)).map (evD nm)
        rw [List.map_append, List.map_map]; rfl
      have e2 : evs2.flatMap Ev.boats = evs.flatMap Ev.boats ++ op.map fun k => l.getD k 0 := by
        show (evs ++ op.map fun k => Ev.d (l.getD k 0)).flatMap Ev.boats = _
        rw [List.flatMap_append, List.flatMap_map, List.map_eq_flatMap]; rfl
      have e3 : evs2.length ≤ 10 := by
        show (evs ++ op.map fun k => Ev.d (l.getD k 0)).length ≤ 10
        rw [List.length_append, List.length_map]; omega
      have pp : ((srtE nm evs2).flatMap Ev.boats).Perm (evs2.flatMap Ev.boats) := (List.mergeSort_perm _ _).flatMap_right _
      refine ⟨by simp; omega, ?_⟩
      conv => whnf
      rw [e1]
      refine ⟨srtOk_evs nm evs2 (by omega), ?_⟩
      conv => whnf
      rw [srtE_eq]
      refine q (srtE nm evs2) c1 (pp.nodup_iff.mpr (by rw [e2]; exact hI.nd)) (fun x hx => ?_) (by omega)
      have := hI.sub x (by rw [← e2]; exact pp.mem_iff.mp hx)
      rw [List.zipIdx_map_fst] at this
      exact this
end DL
set_option maxHeartbeats 2000000
/-! L23: _law_day. -/
namespace DL
open PySem PySem.Spec PyProof.Rows L2
theorem going_mem {size n k : Nat} (h : k ∈ iGoing size n) (hs : 1 ≤ size) (h1 : 1 ≤ n) : k * size ≤ n - 1 := by
  unfold iGoing at h
  rw [List.mem_reverse, List.mem_range] at h
  have h2 : iRaces size n * size ≤ n + size - 1 := Nat.div_mul_le_self _ _
  have h3 : (k + 1) * size ≤ iRaces size n * size := Nat.mul_le_mul_right _ h
  rw [Nat.add_mul, Nat.one_mul] at h3
  omega
theorem going_len {size n : Nat} (h1 : 1 ≤ size) (h5 : n ≤ 5) : (iGoing size n).length ≤ 5 := by
  unfold iGoing
  rw [List.length_reverse, List.length_range]
  unfold iRaces
  refine Nat.le_of_lt_succ (Nat.div_lt_of_lt_mul ?_)
  have := Nat.mul_le_mul h1 (Nat.le_refl 5)
  omega
theorem laid_perm {row l' : List Nat} {a b : Nat} (h : a ≤ b) (p : l'.Perm ((row.take b).drop a)) : (row.take a ++ l' ++ row.drop b).Perm row := by
  have e : row.take a ++ (row.take b).drop a ++ row.drop b = row := by
    have : row.take a = (row.take b).take a := by rw [List.take_take, Nat.min_eq_left h]
    rw [this, List.take_append_drop, List.take_append_drop]
  have := (List.Perm.append_left (row.take a) p).append_right (row.drop b)
  rw [e] at this
  exact this
variable [TheW]
theorem l__law_day (p : WelP) : Law (t__law_day p) (u__law_day p) N__law_day := by
  rintro xs c K ⟨nm, n, l, size, reach, hn, hm, hl, hld, hl1, hl5, hc, rfl, q⟩
  refine ⟨by simp, ?_⟩
  refine ⟨size, reach, l.length, hm, hl1, hl5, by simp, ?_⟩
  refine dl_map ?_
  refine dLoop_list (fun k : Nat => .d (ppD (k * size, iLast size l.length k))) (iGoing size l.length) (fun done s => ∃ (x4 x5 x6 : Option DS) (row : List Nat) (shs : List (List Ev)) (c1 : Nat), s = ⟨[some (.sh p.self), some (.sh (.d (Mt size reach))), some (.sh (.d (tN nm row))), some (.own (.lst (shs.map (shD nm)))), x4, x5, x6], c1⟩ ∧ c1 ≤ c + 10 * done.length ∧ row.Perm l ∧ shs.length = done.length) ?_ ?_ _
    ⟨none, none, none, l, [], c, rfl, by simp, .refl _, rfl⟩
  · rintro done k rest s R e ⟨x4, x5, x6, row, shs, c1, rfl, hc1, hp, hsl⟩ hR
    have hkm : k ∈ iGoing size l.length := by rw [e]; simp
    have hks := going_mem hkm hm.1 hl1
    have hgl := going_len (n := l.length) hm.1 hl5
    rw [e, List.length_append, List.length_cons] at hgl
    have hrl := hp.length_eq
    have hle : k * size ≤ iLast size l.length k + 1 := by unfold iLast; omega
    let st := (row.take (iLast size l.length k + 1)).drop (k * size)
    have hsub : st.Sublist row := (List.drop_sublist _ _).trans (List.take_sublist _ _)
    have hst : Lt n st := fun x hx => hl x (hp.mem_iff.mp (hsub.subset hx))
    have hsn : st.Nodup := (hp.nodup_iff.mpr hld).sublist hsub
    have hs5 : st.length ≤ 5 := by have := hsub.length_le; omega
    have e1 : (((iLast size l.length k : Nat) : Int) + 1) = ((iLast size l.length k + 1 : Nat) : Int) := by omega
    have ec : PyData.tuple (cutL (row.map (sB nm)) (some ((k * size : Nat) : Int)) (some (((iLast size l.length k : Nat) : Int) + 1))) = tN nm st := by
      rw [e1, cut_ij, tN_take, tN_drop]; rfl
    refine ⟨rfl, rfl, ?_⟩
    refine ⟨⟨_, rfl⟩, _, rfl, nm, n, st, reach, hn, hst, hsn, hs5, by show c1 + 10 ≤ _; omega, by rw [← ec]; rfl, fun evs c2 h1 h2 h3 => ?_⟩
    have h3 : c2 ≤ c1 + 10 := h3
    refine ⟨_, rfl, by simp; omega, ?_⟩
    have el : atI (shs.map (shD nm) ++ [shD nm evs]) (-1) = some (shD nm evs) := atI_last
    refine ⟨shD nm evs, el, nm, n, st, evs, hn, hst, hsn, hs5, h1, h2, by rw [← ec], fun l' hl' => ?_⟩
    have hl'l : l'.length ≤ 5 := by rw [hl'.length_eq]; exact hs5
    have e3 : cutL (row.map (sB nm)) none (some ((k * size : Nat) : Int)) = (row.take (k * size)).map (sB nm) := by rw [cut_j, tN_take]
    have e4 : cutL (row.map (sB nm)) (some (((iLast size l.length k : Nat) : Int) + 1)) none = (row.drop (iLast size l.length k + 1)).map (sB nm) := by rw [e1, cut_i, tN_drop]
    have e5 : PyData.tuple (cutL (row.map (sB nm)) none (some ((k * size : Nat) : Int)) ++ l'.map (sB nm) ++ cutL (row.map (sB nm)) (some (((iLast size l.length k : Nat) : Int) + 1)) none) = tN nm (row.take (k * size) ++ l' ++ row.drop (iLast size l.length k + 1)) := by
      rw [e3, e4]; unfold tN; rw [List.map_append, List.map_append]
    refine ⟨?_, ?_, ?_⟩
    · show (cutL (row.map (sB nm)) none (some ((k * size : Nat) : Int))).length + (l'.map (sB nm)).length ≤ 100000
      rw [e3]; simp; omega
    · show (cutL (row.map (sB nm)) none (some ((k * size : Nat) : Int)) ++ l'.map (sB nm)).length + (cutL (row.map (sB nm)) (some (((iLast size l.length k : Nat) : Int) + 1)) none).length ≤ 100000
      rw [e3, e4]; simp; omega
    · refine hR _ ⟨some (.sh (.d (.int (k * size : Nat)))), some (.sh (.d (.int (iLast size l.length k : Nat)))), some (.sh (.d (tN nm st))), row.take (k * size) ++ l' ++ row.drop (iLast size l.length k + 1), shs ++ [evs], c2, ?_, by simp; omega, (laid_perm hle hl').trans hp, by simp [hsl]⟩
      rw [← e5, ← ec, List.map_append]
      rfl
  · rintro s ⟨x4, x5, x6, row, shs, c1, rfl, hc1, hp, hsl⟩
    have hgl := going_len (n := l.length) hm.1 hl5
    refine ⟨by simp, ?_⟩
    have e6 : (shs.map (shD nm)).reverse = shs.reverse.map (shD nm) := (List.map_reverse).symm
    conv => whnf
    rw [e6]
    exact q shs.reverse row c1 hp (by omega)
end DL
set_option maxHeartbeats 2000000
/-! L24: _law_chart. -/
namespace DL
open PySem PySem.Spec PyProof.Rows L2
theorem map_erase {α β : Type} (f : α → β) : ∀ (l : List α) (i : Nat), (l.map f).eraseIdx i = (l.eraseIdx i).map f
  | [], _ => rfl
  | _ :: _, 0 => rfl
  | a :: t, i + 1 => congrArg (f a :: ·) (map_erase f t i)
theorem erase_perm {α : Type} : ∀ (l : List α) (i : Nat) (h : i < l.length), (l[i] :: l.eraseIdx i).Perm l
  | a :: t, 0, _ => .refl _
  | a :: t, i + 1, h => (List.Perm.swap _ _ _).trans (List.Perm.cons a (erase_perm t i (by simpa using h)))
variable [TheW]
theorem l__law_chart (p : WelP) : Law (t__law_chart p) (u__law_chart p) N__law_chart := by
  rintro xs c K ⟨nm, n, l, size, reach, hn, hm, hl, hld, hl1, hl5, hc, rfl, q⟩
  refine ⟨by simp, ?_⟩
  have hsm : smallR (((l.map (sB nm)).length : Nat) : Int) := by rw [List.length_map]; exact ⟨by omega, by omega⟩
  refine ⟨hsm, ?_⟩
  have er : rangeD 0 ((((l.map (sB nm)).length : Nat) : Int)).toNat = (List.range l.length).map fun k => .d (.int (0 + (k : Nat))) := by
    rw [Int.toNat_natCast, List.length_map]; rfl
  rw [er]
  refine dLoop_list (fun k : Nat => .d (.int (0 + (k : Nat)))) (List.range l.length) (fun done s => ∃ (x6 : Option DS) (lf rw' : List Nat) (c1 : Nat), s = ⟨[some (.sh p.self), some (.sh (.d (Mt size reach))), some (.sh (.d (tN nm l))), some (.sh (.d (.int 2))), some (.own (.lst (lf.map (sB nm)))), some (.own (.lst (rw'.map (sB nm)))), x6, none, none, none, none], c1⟩ ∧ c1 ≤ c + done.length ∧ (rw' ++ lf).Perm l ∧ rw'.length = done.length) ?_ ?_ _
    ⟨none, l, [], c, rfl, by simp, .refl _, rfl⟩
  · rintro done k rest s R e ⟨x6, lf, rw', c1, rfl, hc1, hp, hrl⟩ hR
    have hlen := congrArg List.length e
    rw [List.length_range, List.length_append, List.length_cons] at hlen
    have hpl := hp.length_eq
    rw [List.length_append] at hpl
    refine ⟨⟨_, rfl⟩, ⟨_, rfl⟩, lf.length, by omega, by omega, by show c1 < _; omega, by simp; rfl, fun d c2 hd hc2 => ?_⟩
    have hc2 : c2 ≤ c1 + 1 := hc2
    refine ⟨_, rfl, sB nm lf[d], ?_, by omega, by omega, ?_⟩
    · rw [Int.toNat_natCast, List.getElem?_map, List.getElem?_eq_getElem hd]; rfl
    refine ⟨_, rfl, by simp; omega, ?_⟩
    refine hR _ ⟨some (.sh (.d (.int (0 + (k : Nat))))), lf.eraseIdx d, rw' ++ [lf[d]], c2, ?_, by simp; omega, ?_, by simp [hrl]⟩
    · rw [List.map_append, ← map_erase]
      rfl
    · refine List.Perm.trans ?_ hp
      rw [List.append_assoc]
      exact List.Perm.append_left _ ((erase_perm lf d hd))
  · rintro s ⟨x6, lf, rw', c1, rfl, hc1, hp, hrl⟩
    rw [List.length_range] at hc1 hrl
    have hlf : lf = [] := by
      have := hp.length_eq
      rw [List.length_append] at this
      exact List.eq_nil_of_length_eq_zero (by omega)
    subst hlf
    rw [List.append_nil] at hp
    have hrlt : Lt n rw' := fun x hx => hl x (hp.mem_iff.mp hx)
    refine ⟨by simp, by simp, trivial, ⟨by decide, by decide⟩, ?_⟩
    refine ⟨tN nm rw', rfl, nm, n, rw', size, reach, hn, hm, hrlt, hp.nodup_iff.mpr hld, by omega, by omega, by show c1 + 50 ≤ _; omega, rfl, fun day l' c2 hl' hc2 => ?_⟩
    have hc2 : c2 ≤ c1 + 50 := hc2
    refine ⟨rfl, rfl, ⟨_, rfl⟩, _, rfl, by simp, ⟨_, rfl⟩, _, rfl, by simp, ?_⟩
    refine ⟨tN nm rw', rfl, by simp, by simp, ?_⟩
    exact q day rw' l' c2 hp (hl'.trans hp) (by omega)
end DL
set_option maxHeartbeats 2000000
/-! L25: _law_told_right. -/
namespace DL
open PySem PySem.Spec PyProof.Rows L2
variable [TheW]
theorem eqvAll_map {α : Type} (f : α → PyData) (h : ∀ a, PyData.eqv (f a) (f a) = true) : ∀ l : List α, PyData.eqvAll (l.map f) (l.map f) = true
  | [] => rfl
  | a :: t => by rw [List.map_cons, PyData.eqvAll, h, eqvAll_map f h t]; rfl
theorem eqv_sB (nm : Nat → Str) (i : Nat) : PyData.eqv (sB nm i) (sB nm i) = true := by simp [sB, PyData.eqv]
theorem eqv_ev (nm : Nat → Str) (e : Ev) : PyData.eqv (evD nm e) (evD nm e) = true := by cases e <;> simp [evD, PyData.eqv, PyData.eqvAll, eqv_sB]
def dropsOf (evs : List Ev) : List Nat := (evs.filter fun e => !e.isT).map fun e => e.pair.1
theorem drops0 (r : Race) : dropsOf (evs0 r) = r.drops := by
  have h1 : (r.ts.map fun p => Ev.t p.1 p.2).filter (fun e => !e.isT) = [] := List.filter_eq_nil_iff.mpr fun e he => by
    obtain ⟨p, _, rfl⟩ := List.mem_map.mp he; exact Bool.false_ne_true
  have h2 : (r.drops.map Ev.d).filter (fun e => !e.isT) = r.drops.map Ev.d := List.filter_eq_self.mpr fun e he => by
    obtain ⟨p, _, rfl⟩ := List.mem_map.mp he; rfl
  unfold dropsOf evs0
  rw [List.filter_append, h1, h2, List.nil_append, List.map_map]
  exact (List.map_congr_left fun p _ => rfl).trans (List.map_id _)
theorem drops_perm (nm : Nat → Str) (r : Race) : (dropsOf (iSheet nm r)).Perm r.drops := drops0 r ▸ ((sheet_perm nm r).filter _).map _
theorem l__law_told_right : Law t__law_told_right u__law_told_right N__law_told_right := by
  rintro xs c K ⟨nm, n, size, reach, l, other, rs, T, rfl, q⟩
  obtain ⟨hn, hm, hl, ho, hone, hlne, hll, hok⟩ := T.pre
  have hrl := T.rl
  refine ⟨nm, n, size, reach, l, other, hn, hm, hl, ho, hone, hlne, hll, hok, rfl, fun rs' hrs' => ?_, fun hno => ?_⟩
  rotate_left
  · rw [T.told] at hno; cases hno
  obtain rfl : rs = rs' := by rw [T.told] at hrs'; exact Option.some.inj hrs'
  refine ⟨rfl, rfl, okD_str, okD_str, ifF (by simp [PyData.eqv]) ⟨okD_int, okD_int, ?_⟩⟩
  refine ifF (by simp [PyData.eqv, iDay]) ?_
  refine ⟨nm, n, size, reach, l, iDay nm rs, hn, hm, hlne, hll, by rw [← T.len]; simp [iDay], T.dok, rfl, by simp, by simp, by simp, ?_⟩
  refine ifF (by rw [T.go]; simp [PyData.eqv, PyData.eqvAll, tN, eqvAll_map _ (eqv_sB nm)]) ?_
  have ez : zipD ((iDay nm rs).map (shD nm)) (rs.map (raceD nm)) = rs.map fun r => .p [shD nm (iSheet nm r), raceD nm r] := by
    unfold zipD iDay
    rw [List.map_map, List.zip_map', List.map_map]
    rfl
  conv => whnf
  refine Eq.mp (congrArg (fun z => dLoop _ _ _ z _) ez.symm) ?_
  refine dLoop_list (fun r => .p [shD nm (iSheet nm r), raceD nm r]) rs (fun done s => ∃ (x6 x7 x8 x9 x10 x11 x12 : Option DS), s = ⟨[some (.sh (.d (Mt size reach))), some (.sh (.d (tN nm l))), some (.sh (.d (tN nm other))), some (.sh (.d (dayD nm (iDay nm rs)))), some (.sh (.d (.str "told"))), some (.sh (.d (.tuple (rs.map (raceD nm))))), x6, x7, x8, x9, x10, x11, x12], c⟩) ?_ ?_ _ ⟨_, _, _, _, _, _, _, rfl⟩
  · rintro done r rest s R e ⟨x6, x7, x8, x9, x10, x11, x12, rfl⟩ hR
    have hr : r ∈ rs := by rw [e]; simp
    have rk := T.race r hr
    have h7 := sheet_len (nm := nm) rk
    have hts := rk.ts2
    have hd5 := rk.d5
    have hf5 := rk.f5
    have dp := drops_perm nm r
    refine ⟨rfl, rfl, rfl, rfl, by simp; omega, lc_mm ?_⟩
    refine lc_filter (fun e => .d (evD nm e)) (fun e => !e.isT) (fun e => sB nm e.pair.1) (iSheet nm r) _ (fun e' Kt Kf he' h1 h2 => ?_) ?_
    · cases e' with
      | t a b => exact ⟨_, rfl, okD_str, okD_str, ifF (by decide +kernel) (h2 rfl)⟩
      | d a => exact ⟨_, rfl, okD_str, okD_str, ifT (by decide +kernel) ⟨_, rfl, h1 rfl⟩⟩
    have e1 : ((iSheet nm r).filter fun e => !e.isT).map (fun e => sB nm e.pair.1) = (dropsOf (iSheet nm r)).map (sB nm) := by unfold dropsOf; rw [List.map_map]; rfl
    conv => whnf
    rw [e1]
    refine ⟨by simp; omega, lc_mm ?_⟩
    refine lc_filter (fun e => .d (evD nm e)) Ev.isT (evD nm) (iSheet nm r) _ (fun e' Kt Kf he' h1 h2 => ?_) ?_
    · cases e' with
      | t a b => exact ⟨_, rfl, okD_str, okD_str, ifT (by decide +kernel) (h1 rfl)⟩
      | d a => exact ⟨_, rfl, okD_str, okD_str, ifF (by decide +kernel) (h2 rfl)⟩
    have e2 : ((iSheet nm r).filter Ev.isT).map (evD nm) = (srtP nm r.ts).map (tpD nm) := by
      rw [← sheet_touches hn rk]
      unfold iTouches
      rw [List.map_map]
      exact List.map_congr_left fun e he => (touchP e (List.mem_filter.mp he).2 nm).symm
    have okE : ∀ (f : Ev → Bool), (((iSheet nm r).filter f).map (evD nm)).all (okD 7) = true := fun f => by
      rw [List.all_map]; exact List.all_eq_true.mpr fun _ _ => okD_ev
    have okP : (srtD (r.ts.map (tpD nm))).all (okD 7) = true := by
      rw [srtP_eq, List.all_map]; exact List.all_eq_true.mpr fun _ _ => okD_ev (k := 6)
    refine ⟨okE _, okP, ifF ?_ ?_⟩
    · rw [e2, srtP_eq, PyData.eqv, eqvAll_map (tpD nm) (fun p => eqv_ev nm (.t p.1 p.2))]; rfl
    have hlD : Lt n (dropsOf (iSheet nm r)) := fun x hx => rk.dlt x (dp.mem_iff.mp hx)
    have e3 : srtD (r.drops.map (sB nm)) = (srtS nm r.drops).map (sB nm) := srtS_eq nm r.drops
    have e4 : srtD (r.free.map (sB nm)) = (srtS nm r.free).map (sB nm) := srtS_eq nm r.free
    have sd : (srtS nm r.drops).Perm r.drops := List.mergeSort_perm _ _
    have sf : (srtS nm r.free).Perm r.free := List.mergeSort_perm _ _
    have hl1 := sd.length_eq
    have hl2 := sf.length_eq
    have hl3 := dp.length_eq
    refine ⟨?_, ?_⟩
    · rw [List.length_map, srt_len, List.length_map]; omega
    have ed : (srtD (r.drops.map (sB nm))).map DV.d = (srtS nm r.drops).map fun i => .d (sB nm i) := by rw [e3, List.map_map]; rfl
    refine Eq.mp (congrArg (fun z => lcLoop _ _ _ _ _ z _ _) ed.symm) ?_
    refine lc_map (fun i => .d (sB nm i)) (fun _ => .bool true) (srtS nm r.drops) _ (fun b Kt Kf hb h => ?_) ?_
    · refine ⟨okD_str, okAll_sB, ktEq h ?_⟩
      rw [hn.mem hlD (rk.dlt b (sd.mem_iff.mp hb)), decide_eq_true (dp.mem_iff.mpr (sd.mem_iff.mp hb))]
      rfl
    refine ⟨(srtS nm r.drops).map fun _ => true, by rw [← asBools_map, List.map_map]; rfl, ifF (by simp) ?_⟩
    conv => whnf
    have hlu : Lt n (srtS nm r.drops ++ srtS nm r.free) := fun x hx => by
      rcases List.mem_append.mp hx with h | h
      · exact rk.dlt x (sd.mem_iff.mp h)
      · exact rk.flt x (sf.mem_iff.mp h)
    refine ⟨by simp; omega, lc_mm ?_⟩
    refine lc_map (fun i => .d (sB nm i)) (fun _ => .bool true) (dropsOf (iSheet nm r)) _ (fun b Kt Kf hb h => ?_) ?_
    · refine ⟨by rw [srt_len, srt_len, List.length_map, List.length_map]; omega, okD_str, by rw [e3, e4, ← List.map_append]; exact okAll_sB, ktEq h ?_⟩
      rw [e3, e4, ← List.map_append, hn.mem hlu (hlD b hb), decide_eq_true (List.mem_append_left _ (sd.mem_iff.mpr (dp.mem_iff.mp hb)))]
      rfl
    refine ⟨(dropsOf (iSheet nm r)).map fun _ => true, by rw [← asBools_map, List.map_map]; rfl, ifF (by simp) ?_⟩
    exact hR _ ⟨_, _, _, _, _, _, _, rfl⟩
  · rintro s ⟨x6, x7, x8, x9, x10, x11, x12, rfl⟩
    refine ⟨nm, n, size, reach, l, other, hn, hm, hl, ho, hone, hlne, hll, hok, rfl, fun rs' hrs' => ?_, fun hno => ?_⟩
    · obtain rfl : rs = rs' := by rw [T.told] at hrs'; exact Option.some.inj hrs'
      refine ⟨by omega, fun r hr => by have := (T.race r hr).f5; omega, fun i hi => ⟨trivial, kEq q ?_⟩⟩
      exact congrArg PyData.bool (decide_eq_true hi).symm
    · rw [T.told] at hno; cases hno
end DL
set_option maxHeartbeats 2000000
/-! L26: _law_bans_right. -/
namespace DL
open PySem PySem.Spec PyProof.Rows L2
theorem flatm_len {α β : Type} {f : α → List β} {k : Nat} : ∀ {l : List α}, (∀ x ∈ l, (f x).length ≤ k) → (l.flatMap f).length ≤ k * l.length
  | [], _ => by simp
  | a :: t, h => by
    have h1 := h a (by simp)
    have h2 := flatm_len (l := t) fun x hx => h x (by simp [hx])
    rw [List.flatMap_cons, List.length_append, List.length_cons, Nat.mul_add]
    omega
def bansL (H : List (Nat × Nat)) (t1 : List Nat) : List Ban := (H.map fun p => Ban.lk 0 p.1 p.2) ++ (t1.zipIdx.map fun p => Ban.nt 1 p.2 p.1) ++ [Ban.nt 0 0 0]
variable [TheW]
section
variable {nm : Nat → Str} {n size reach : Nat} {bs t1 : List Nat} {rs : List Race}
theorem lacks_come (h : Two nm n size reach bs t1) (hT : Told size reach (List.range n) t1 = some rs) (ban : Ban) : iComeR true (iGoneP size reach (List.range n)) t1 ban = if (iBanRow ban 1 t1 && iBanDay ban 0 ((iDay nm rs).flatMap iTouches)) = true then [t1] else [] := by
  obtain ⟨T, met, hmet, hm⟩ := h.some_facts hT
  have e : iBanDay ban 0 met = iBanDay ban 0 ((iDay nm rs).flatMap iTouches) := by
    cases ban with
    | no => rfl
    | nt m p b => rfl
    | lk m a b =>
      unfold iBanDay
      simp only
      have : (a, b) ∈ met ↔ (a, b) ∈ (iDay nm rs).flatMap iTouches := (hm _).trans (day_touches h.hnm T.race _).symm
      rw [decide_eq_decide.mpr (not_congr this)]
  show (if true = true then iCome _ _ _ else []) = _
  rw [if_pos rfl, come_eq h.gnd h.glen hmet, e]
theorem bans_all (h : Two nm n size reach bs t1) (hT : Told size reach (List.range n) t1 = some rs) : ∀ ban ∈ bansL ((iDay nm rs).flatMap iTouches) t1, BanOk n n ban ∧ iComeR (iBanRow ban 0 (List.range n)) (iGoneP size reach (List.range n)) t1 ban = [] ∧ iGoes size (List.range n) t1 ban (List.range n) (iDay nm rs) = false := by
  intro ban hb
  obtain ⟨T, _⟩ := h.some_facts hT
  have n1 := h.n1
  have hg := h.goes T ban
  have hc := lacks_come h hT ban
  rcases List.mem_append.mp hb with hb | hb
  · rcases List.mem_append.mp hb with hb | hb
    · obtain ⟨p, hp, rfl⟩ := List.mem_map.mp hb
      obtain ⟨r, hr, hq⟩ := (day_touches h.hnm T.race p).mp hp
      have e : iBanDay (.lk 0 p.1 p.2) 0 ((iDay nm rs).flatMap iTouches) = false := by
        unfold iBanDay
        simp only
        rw [decide_eq_false (by simp), decide_eq_false (fun z => z hp)]; rfl
      refine ⟨(T.race r hr).tlt p hq, ?_, ?_⟩
      · show iComeR true _ _ _ = []
        rw [hc, e, Bool.and_false, if_neg Bool.false_ne_true]
      · rw [hg, e, Bool.and_false, Bool.false_and]
    · obtain ⟨⟨b, i⟩, hp, rfl⟩ := List.mem_map.mp hb
      have hi : t1[i]? = some b := by simpa using List.mem_zipIdx_iff_getElem?.mp hp
      have hil := (List.getElem?_eq_some_iff.mp hi).1
      have e : iBanRow (.nt 1 i b) 1 t1 = false := by
        unfold iBanRow
        simp only
        rw [decide_eq_false (by simp), List.getD_eq_getElem?_getD, hi]; simp
      have e0 : iBanRow (.nt 1 i b) 0 (List.range n) = true := by
        unfold iBanRow
        simp
      refine ⟨⟨by rw [← h.t1l]; exact hil, h.t1lt b (List.mem_of_getElem? hi)⟩, ?_, ?_⟩
      · rw [e0, hc, e, Bool.false_and, if_neg Bool.false_ne_true]
      · rw [hg, e, Bool.and_false]
  · rw [List.mem_singleton] at hb
    subst hb
    have e : iBanRow (.nt 0 0 0) 0 (List.range n) = false := by
      unfold iBanRow
      simp only
      rw [decide_eq_false (by simp), List.getD_eq_getElem?_getD, List.getElem?_range (by omega)]; simp
    refine ⟨⟨by omega, by omega⟩, ?_, ?_⟩
    · rw [e]; rfl
    · rw [hg, e, Bool.false_and, Bool.false_and]
end
end DL
set_option maxHeartbeats 4000000
/-! L27: _law_bans_right. -/
namespace DL
open PySem PySem.Spec PyProof.Rows L2
variable [TheW]
theorem npD_ok {nm : Nat → Str} {k : Nat} {p : Nat × Nat} : okD (k + 1) (npD nm p) = true := by simp [npD]
theorem npD_all {nm : Nat → Str} {k : Nat} (H : List (Nat × Nat)) : (H.map (npD nm)).all (okD (k + 1)) = true := by
  rw [List.all_map]; exact List.all_eq_true.mpr fun _ _ => npD_ok
theorem npD_mem {nm : Nat → Str} {n : Nat} (hn : Nm nm n) {q : Nat × Nat} (hq : q.1 < n ∧ q.2 < n) : ∀ {H : List (Nat × Nat)}, LtP n H → ((H.map (npD nm)).any fun z => PyData.eqv z (npD nm q)) = decide (q ∈ H)
  | [], _ => by simp
  | a :: t, h => by
    have ih := npD_mem hn hq (H := t) fun p hp => h p (by simp [hp])
    have ha := h a (by simp)
    have e : PyData.eqv (npD nm a) (npD nm q) = decide (q = a) := by
      have e1 := hn.eq ha.1 hq.1
      have e2 := hn.eq ha.2 hq.2
      obtain ⟨a1, a2⟩ := a
      obtain ⟨q1, q2⟩ := q
      simp only at e1 e2
      simp [npD, PyData.eqv, PyData.eqvAll, e1, e2, eq_comm]
    rw [List.map_cons, List.any_cons, ih, e]
    simp
theorem l__law_bans_right (p : WelP) : Law (t__law_bans_right p) (u__law_bans_right p) N__law_bans_right := by
  rintro xs c K ⟨nm, n, size, reach, bs, t1, rs, h, hT, hc, rfl, q⟩
  obtain ⟨T, _⟩ := h.some_facts hT
  have hn := h.hnm
  have n1 := h.n1
  have n5 := h.n5
  have hrl := T.rl
  have hban := bans_all h hT
  have hg : ∀ ban, iGoes size (List.range n) t1 ban (List.range n) (iDay nm rs) = (iBanRow ban 0 (List.range n) && iBanDay ban 0 ((iDay nm rs).flatMap iTouches) && iBanRow ban 1 t1) := h.goes T
  have hHl : LtP n ((iDay nm rs).flatMap iTouches) := fun x hx => by
    obtain ⟨r, hr, hq⟩ := (day_touches hn T.race x).mp hx
    exact (T.race r hr).tlt x hq
  have tl : ∀ evs ∈ iDay nm rs, (iTouches evs).length ≤ 2 := fun evs he => by
    obtain ⟨r, hr, rfl⟩ := List.mem_map.mp he
    have q : (iTouches (iSheet nm r)).Perm r.ts := touches0 r ▸ touches_perm (sheet_perm nm r)
    rw [q.length_eq]; exact (T.race r hr).ts2
  have sl : ∀ evs ∈ iDay nm rs, evs.length ≤ 7 := fun evs he => by
    obtain ⟨r, hr, rfl⟩ := List.mem_map.mp he
    exact sheet_len (T.race r hr)
  have hdl : (iDay nm rs).length ≤ 5 := by simp [iDay]; omega
  refine ⟨rfl, rfl, rfl, rfl, by simp, _, rfl, _, rfl, ?_⟩
  refine dl_map ?_
  refine dLoop_list (fun evs => .d (shD nm evs)) (iDay nm rs) (fun done s => ∃ x8 : Option DS, s = ⟨[some (.sh p.self), some (.sh (.d (Mt size reach))), some (.sh (.d (morD nm bs (List.range n) t1))), some (.sh (.d (.tuple [tN nm (List.range n), .tuple [dayD nm (iDay nm rs)]]))), some (.sh (.d (tN nm bs))), some (.sh (.d (tN nm (List.range n)))), some (.sh (.d (tN nm t1))), some (.own (.lst ((done.flatMap iTouches).map (npD nm)))), x8, none, none, none, none, none, none, none, none, none], c⟩) ?_ ?_ _ ⟨none, rfl⟩
  · rintro done evs rest s R e ⟨x8, rfl⟩ hR
    have he : evs ∈ iDay nm rs := by rw [e]; simp
    have h7 := sl evs he
    have h2 := tl evs he
    have hfl := flatm_len (f := iTouches) (l := done) (k := 2) fun x hx => tl x (by rw [e]; simp [hx])
    have hdn : done.length ≤ 5 := by rw [e, List.length_append] at hdl; omega
    refine ⟨⟨_, rfl⟩, by simp; omega, lc_mm ?_⟩
    refine lc_filter (fun e => .d (evD nm e)) Ev.isT (fun e => npD nm e.pair) evs _ (fun e' Kt Kf he' h1 h2 => ?_) ?_
    · cases e' with
      | t a b => exact ⟨_, rfl, okD_str, okD_str, ifT (by decide +kernel) (h1 rfl)⟩
      | d a => exact ⟨_, rfl, okD_str, okD_str, ifF (by decide +kernel) (h2 rfl)⟩
    · have e1 : (evs.filter Ev.isT).map (fun e => npD nm e.pair) = (iTouches evs).map (npD nm) := by unfold iTouches; rw [List.map_map]; rfl
      conv => whnf
      rw [e1]
      refine ⟨_, rfl, by rw [List.length_map, List.length_map]; omega, hR _ ⟨some (.sh (.d (shD nm evs))), ?_⟩⟩
      rw [List.flatMap_append, List.flatMap_singleton, List.map_append]
      rfl
  · rintro s ⟨x8, rfl⟩
    have hfl := flatm_len (f := iTouches) (l := iDay nm rs) (k := 2) tl
    revert hban hg hHl hfl
    generalize (iDay nm rs).flatMap iTouches = H
    intro hban hg hHl hfl
    conv => whnf
    refine ⟨by simp; omega, lc_mm ?_⟩
    refine lc_map (fun q => .d (npD nm q)) (fun q => banD nm (.lk 0 q.1 q.2)) H _ (fun q Kt Kf _ hk => ⟨by simp, by simp, hk⟩) ?_
    have ee : enumD (t1.map (sB nm)) = t1.zipIdx.map fun p => .p [.int (p.2 : Nat), sB nm p.1] := by
      unfold enumD
      rw [List.zipIdx_map, List.map_map]; rfl
    refine ⟨by simp [enumD, h.t1l]; omega, ?_⟩
    refine Eq.mp (congrArg (fun z => lcLoop _ _ _ _ _ z _ _) ee.symm) ?_
    refine lc_map (fun p : Nat × Nat => .p [.int (p.2 : Nat), sB nm p.1]) (fun p => banD nm (.nt 1 p.2 p.1)) t1.zipIdx _ (fun q Kt Kf _ hk => ⟨rfl, rfl, by simp, hk⟩) ?_
    have e0 : (List.range n)[0]? = some 0 := by rw [List.getElem?_range (by omega)]
    have hbl : (bansL H t1).length ≤ 20 := by unfold bansL; simp [h.t1l]; omega
    refine ⟨by simp [h.t1l]; omega, ⟨_, rfl⟩, sB nm 0, atI_m e0, by simp, _, rfl, by simp [h.t1l]; omega, ?_⟩
    have eb : H.map (fun q => banD nm (.lk 0 q.1 q.2)) ++ t1.zipIdx.map (fun p => banD nm (.nt 1 p.2 p.1)) ++ [banD nm (.nt 0 0 0)] = (bansL H t1).map (banD nm) := by
      unfold bansL
      rw [List.map_append, List.map_append, List.map_map, List.map_map]; rfl
    have ebd : (H.map (fun q => banD nm (.lk 0 q.1 q.2)) ++ t1.zipIdx.map (fun p => banD nm (.nt 1 p.2 p.1)) ++ [banD nm (.nt 0 0 0)]).map DV.d = (bansL H t1).map fun b => .d (banD nm b) := by
      rw [eb, List.map_map]; rfl
    refine Eq.mp (congrArg (fun z => dLoop _ _ _ z _) ebd.symm) ?_
    refine dLoop_list (fun b => .d (banD nm b)) (bansL H t1) (fun done s => ∃ x8 x9 x10 x11 x12 x13 x14 x15 x16 x17 : Option DS, s = ⟨[some (.sh p.self), some (.sh (.d (Mt size reach))), some (.sh (.d (morD nm bs (List.range n) t1))), some (.sh (.d (.tuple [tN nm (List.range n), .tuple [dayD nm (iDay nm rs)]]))), some (.sh (.d (tN nm bs))), some (.sh (.d (tN nm (List.range n)))), some (.sh (.d (tN nm t1))), some (.sh (.d (.list (H.map (npD nm))))), x8, x9, x10, x11, x12, x13, x14, x15, x16, x17], c⟩) ?_ ?_ _ ⟨_, _, _, _, _, _, _, _, _, _, rfl⟩
    · rintro done ban rest s R e ⟨x8, x9, x10, x11, x12, x13, x14, x15, x16, x17, rfl⟩ hR
      obtain ⟨b1, b2, b3⟩ := hban ban (by rw [e]; simp)
      have hmor := h.mor ban b1
      refine ⟨nm, n, size, reach, bs, List.range n, t1, ban, iBanRow ban 0 (List.range n), hmor, rfl, .inl ⟨b2, ?_⟩⟩
      refine ⟨rfl, rfl, okD_str, okD_str, ifF (by simp [PyData.eqv]) ?_⟩
      refine ⟨nm, n, size, reach, bs, List.range n, t1, ban, iBanRow ban 0 (List.range n), hmor, h.full, b2, rfl, ?_⟩
      refine ⟨nm, n, size, reach, List.range n, t1, ban, List.range n, iDay nm rs, bs, h.gopre T ban b1, h.full, rfl, ?_⟩
      rw [b3]
      exact hR _ ⟨_, _, _, _, _, _, _, _, _, _, rfl⟩
    · rintro s ⟨x8, x9, x10, x11, x12, x13, x14, x15, x16, x17, rfl⟩
      refine dl_map ?_
      refine dLoop_list (fun b => .d (sB nm b)) bs (fun done s => ∃ (x8 x9 x10 x11 x12 x13 x14 x15 x16 x17 : Option DS) (c1 : Nat), s = ⟨[some (.sh p.self), some (.sh (.d (Mt size reach))), some (.sh (.d (morD nm bs (List.range n) t1))), some (.sh (.d (.tuple [tN nm (List.range n), .tuple [dayD nm (iDay nm rs)]]))), some (.sh (.d (tN nm bs))), some (.sh (.d (tN nm (List.range n)))), some (.sh (.d (tN nm t1))), some (.sh (.d (.list (H.map (npD nm))))), x8, x9, x10, x11, x12, x13, x14, x15, x16, x17], c1⟩ ∧ c1 ≤ c + done.length) ?_ ?_ _ ⟨_, _, _, _, _, _, _, _, _, _, c, rfl, by simp⟩
      · rintro done b rest s R e ⟨x8, x9, x10, x11, x12, x13, x14, x15, x16, x17, c1, rfl, hc1⟩ hR
        have hb : b ∈ bs := by rw [e]; simp
        have hbn := h.bslt b hb
        have hlen := congrArg List.length e
        rw [h.bl, List.length_append, List.length_cons] at hlen
        refine ⟨_, bs.map (sB nm), .inr (.inl rfl), by rw [List.length_map, h.bl]; exact n1, by rw [List.length_map, h.bl]; omega, by show c1 < _; omega, rfl, fun d hd c2 hc2 => ?_⟩
        have hc2 : c2 ≤ c1 + 1 := hc2
        obtain ⟨j, hj, rfl⟩ := List.mem_map.mp hd
        have hjn := h.bslt j hj
        have fin : R ⟨[some (.sh p.self), some (.sh (.d (Mt size reach))), some (.sh (.d (morD nm bs (List.range n) t1))), some (.sh (.d (.tuple [tN nm (List.range n), .tuple [dayD nm (iDay nm rs)]]))), some (.sh (.d (tN nm bs))), some (.sh (.d (tN nm (List.range n)))), some (.sh (.d (tN nm t1))), some (.sh (.d (.list (H.map (npD nm))))), x8, x9, some (.sh (.d (npD nm (b, j)))), x11, x12, x13, some (.sh (.d (sB nm b))), x15, x16, x17], c2⟩ := hR _ ⟨_, _, _, _, _, _, _, _, _, _, c2, rfl, by simp; omega⟩
        have em : ((H.map (npD nm)).any fun z => PyData.eqv z (.tuple [sB nm b, sB nm j])) = decide ((b, j) ∈ H) := npD_mem hn (q := (b, j)) ⟨hbn, hjn⟩ hHl
        refine ⟨by simp, npD_ok (p := (b, j)), npD_all H, ?_⟩
        by_cases hin : (b, j) ∈ H
        · exact ifF (by rw [em, decide_eq_true hin]; rfl) (ifF rfl fin)
        refine ifT (by rw [em, decide_eq_false hin]; rfl) ?_
        refine ⟨_, rfl, _, rfl, okD_str, okD_str, ?_⟩
        have ev : PyData.eqv (sB nm b) (sB nm j) = decide (b = j) := hn.eq hbn hjn
        by_cases hbj : b = j
        · exact ifF (by rw [ev, decide_eq_true hbj]; rfl) (ifF rfl fin)
        refine ifT (by rw [ev, decide_eq_false hbj]; rfl) ?_
        have eg : iGoes size (List.range n) t1 (.lk 0 b j) (List.range n) (iDay nm rs) = true := by
          rw [hg]
          unfold iBanRow iBanDay
          simp [hin]
        refine ⟨by simp, by simp, nm, n, size, reach, List.range n, t1, .lk 0 b j, List.range n, iDay nm rs, bs, h.gopre T _ ⟨hbn, hjn⟩, h.full, rfl, ?_⟩
        rw [eg]
        exact fin
      · rintro s ⟨x8, x9, x10, x11, x12, x13, x14, x15, x16, x17, c1, rfl, hc1⟩
        rw [h.bl] at hc1
        exact q c1 (by omega)
end DL
set_option maxHeartbeats 2000000
/-! L28: words of small letters. -/
namespace DL
open PySem PySem.Spec PyProof.Rows L2
def wd (cs : List Nat) : Str := ⟨cs.toArray⟩
structure LowW (cs : List Nat) : Prop where
  l1 : 1 ≤ cs.length
  l8 : cs.length ≤ 8
  low : ∀ c ∈ cs, 97 ≤ c ∧ c ≤ 122
theorem wd_inj {a b : List Nat} (h : wd a = wd b) : a = b := by
  have : a.toArray = b.toArray := congrArg Str.cps h
  simpa using this
theorem wd_len (cs : List Nat) : (wd cs).length = cs.length := by simp [wd, Str.length]
theorem wd_add (a b : List Nat) : wd a ++ wd b = wd (a ++ b) := by
  show Str.append (wd a) (wd b) = _
  unfold Str.append wd
  simp
theorem wd_cut [TheW] (cs : List Nat) (j : Nat) : cutS (wd cs) none (some (j : Int)) = wd (cs.take j) := by
  unfold cutS
  rw [sIx_none, sIx_nat]
  show Str.mk ((((cs.toArray).toList.drop 0).take (min j (wd cs).length - 0)).toArray) = _
  rw [wd_len]
  unfold wd
  simp [List.take_eq_take_iff]
theorem strOk_wd {cs : List Nat} (h : ∀ c ∈ cs, c ≤ 122) : PyData.strOk (wd cs) = true := by
  unfold PyData.strOk wd
  rw [← Array.all_toList]
  refine List.all_eq_true.mpr fun c hc => ?_
  have := h c (by simpa using hc)
  simp; omega
theorem low_of {c : Nat} (h : 97 ≤ c ∧ c ≤ 122) : c ∈ ("abcdefghijklmnopqrstuvwxyz" : Str).cps.toList := by
  have e : ("abcdefghijklmnopqrstuvwxyz" : Str).cps.toList = (List.range 26).map (· + 97) := by decide +kernel
  rw [e, List.mem_map]
  exact ⟨c - 97, List.mem_range.mpr (by omega), by omega⟩
theorem chars_low : ∀ c ∈ ("abcdefghijklmnopqrstuvwxyz" : Str).cps.toList, 97 ≤ c ∧ c ≤ 122 := by
  have e : ("abcdefghijklmnopqrstuvwxyz" : Str).cps.toList = (List.range 26).map (· + 97) := by decide +kernel
  rw [e]
  intro c hc
  obtain ⟨i, hi, rfl⟩ := List.mem_map.mp hc
  have := List.mem_range.mp hi
  omega
theorem takeWhile_all {p : Nat → Bool} : ∀ {l : List Nat}, (∀ x ∈ l, p x = true) → l.takeWhile p = l
  | [], _ => rfl
  | a :: t, h => by rw [List.takeWhile_cons, h a (by simp), if_pos rfl, takeWhile_all fun x hx => h x (by simp [hx])]
theorem strip_wd {cs : List Nat} (h : ∀ c ∈ cs, 97 ≤ c ∧ c ≤ 122) : Txt.stripChars (wd cs) "abcdefghijklmnopqrstuvwxyz" = Str.empty := by
  unfold Txt.stripChars
  rw [PySem.W.stripBy_eq]
  unfold PySem.W.stripped
  have e : ((wd cs).cps.toList.takeWhile (("abcdefghijklmnopqrstuvwxyz" : Str).cps.contains)) = cs := by
    show cs.toArray.toList.takeWhile _ = cs
    rw [List.toList_toArray]
    refine takeWhile_all fun c hc => ?_
    have := low_of (h c hc)
    rw [Array.contains_iff_mem]
    exact Array.mem_def.mpr this
  dsimp only
  rw [e, if_pos rfl]
  have e2 : ((wd cs).cps.toList.drop cs.length) = [] := by
    show cs.toArray.toList.drop _ = _
    rw [List.toList_toArray, List.drop_length]
  rw [e2]
  unfold Builtin.Str.strSub Str.empty wd
  simp [Str.length]
theorem join_wd (cs : List Nat) : Txt.join "" (cs.map fun c => ⟨#[c]⟩) = wd cs := by
  have h := join_nil_signs (wd cs)
  have e : signs (wd cs) = cs.map fun c => ⟨#[c]⟩ := by
    show (cs.toArray.toList.map fun c => (⟨#[c]⟩ : Str)) = _
    rw [List.toList_toArray]
  rw [e] at h
  show Builtin.Str.glued _ _ = _
  rw [StrLaws.glued_eq_join]
  exact h
theorem LowW.take {cs : List Nat} {j : Nat} (h : LowW cs) (hj : 1 ≤ j) : LowW (cs.take j) := by
  have h1 := h.l1
  have h8 := h.l8
  exact ⟨by rw [List.length_take]; omega, by rw [List.length_take]; omega, fun c hc => h.low c (List.mem_of_mem_take hc)⟩
theorem low8 {a b : List Nat} (ha : LowW a) (hb : LowW b) : LowW ((a ++ b).take 8) := by
  have h1 := ha.l1
  refine ⟨by rw [List.length_take, List.length_append]; omega, by rw [List.length_take]; omega, fun c hc => ?_⟩
  rcases List.mem_append.mp (List.mem_of_mem_take hc) with h | h
  · exact ha.low c h
  · exact hb.low c h
theorem low6 {a : List Nat} {l : Nat} (ha : LowW a) (hl : 97 ≤ l ∧ l ≤ 122) : LowW (a.take 6 ++ [l]) := by
  refine ⟨by simp, by rw [List.length_append, List.length_take]; simp; omega, fun c hc => ?_⟩
  rcases List.mem_append.mp hc with h | h
  · exact ha.low c (List.mem_of_mem_take h)
  · rw [List.mem_singleton.mp h]; exact hl
/-- of the words that were there, as many as the rounds -/
def Rnd (ns : List (List Nat)) (done : List Nat) (cs : List Nat) : Prop := cs ∈ ns → ∃ ws : List (List Nat), ws.length = done.length ∧ ws.Nodup ∧ (∀ x ∈ ws, x ∈ ns) ∧ ∀ x ∈ ws, ∃ c ∈ done, x.getLast? = some c
theorem Rnd.step {ns : List (List Nat)} {done cs : List Nat} {l : Nat} (h : Rnd ns done cs) (hin : cs ∈ ns) (hl : l ∉ done) : Rnd ns (done ++ [l]) (cs.take 6 ++ [l]) := by
  intro hn
  obtain ⟨ws, h1, h2, h3, h4⟩ := h hin
  refine ⟨(cs.take 6 ++ [l]) :: ws, by simp [h1], List.nodup_cons.mpr ⟨fun z => ?_, h2⟩, fun x hx => ?_, fun x hx => ?_⟩
  · obtain ⟨c, hc, e⟩ := h4 _ z
    rw [List.getLast?_concat] at e
    exact hl (Option.some.inj e ▸ hc)
  · rcases List.mem_cons.mp hx with rfl | hx
    · exact hn
    · exact h3 x hx
  · rcases List.mem_cons.mp hx with rfl | hx
    · exact ⟨l, by simp, List.getLast?_concat⟩
    · obtain ⟨c, hc, e⟩ := h4 x hx
      exact ⟨c, by simp [hc], e⟩
theorem Rnd.skip {ns : List (List Nat)} {done cs : List Nat} {l : Nat} (hin : cs ∉ ns) : Rnd ns (done ++ [l]) cs := fun z => absurd z hin
theorem Rnd.fin {ns : List (List Nat)} {done cs : List Nat} (h : Rnd ns done cs) (hl : ns.length < done.length) : cs ∉ ns := fun z => by
  obtain ⟨ws, h1, h2, h3, _⟩ := h z
  have := h2.length_le_of_subset h3
  omega
end DL
set_option maxHeartbeats 4000000
/-! L29: _law_boats. -/
namespace DL
open PySem PySem.Spec PyProof.Rows L2
variable [TheW]
def wS (cs : List Nat) : PyData := .str (wd cs)
theorem mem_wS {w : List Nat} : ∀ ns : List (List Nat), ((ns.map wS).any fun z => PyData.eqv z (.str (wd w))) = decide (w ∈ ns)
  | [] => by simp
  | a :: t => by
    rw [List.map_cons, List.any_cons, mem_wS t]
    show (PyData.eqv (.str (wd a)) (.str (wd w)) || _) = _
    rw [PyData.eqv]
    by_cases e : a = w
    · subst e; simp
    · have : ¬ wd a = wd w := fun z => e (wd_inj z)
      have e2 : ¬ w = a := fun z => e z.symm
      simp [this, e2]
theorem wS_all {k : Nat} (ns : List (List Nat)) : (ns.map wS).all (okD k) = true := by
  rw [List.all_map]; exact List.all_eq_true.mpr fun _ _ => okD_str
theorem letters : ("abcdefgh" : Str).cps.toList = [97, 98, 99, 100, 101, 102, 103, 104] := by decide +kernel
theorem range_getD {α : Type} (f : Nat → α) (l : List Nat) : (List.range l.length).map (fun i => f (l.getD i 0)) = l.map f := by
  refine List.ext_getElem (by simp) fun i h1 h2 => ?_
  simp at h1
  simp [List.getD_eq_getElem?_getD, List.getElem?_eq_getElem h1]
/-- the sorted names -/
theorem boats_end {ns : List (List Nat)} {m : Nat} (hm : ns.length = m) (h5 : m ≤ 5) (hd : ns.Nodup) (hl : ∀ cs ∈ ns, LowW cs) {K : PyData → Prop} (q : ∀ nm, Nm nm m → srtS nm (List.range m) = List.range m → K (tN nm (List.range m))) : SrtOk (ns.map wS) ∧ K (.tuple (srtD (ns.map wS))) := by
  subst hm
  let nm0 : Nat → Str := fun i => wd (ns.getD i [97])
  have e0 : ns.map wS = (List.range ns.length).map (sB nm0) := by
    refine List.ext_getElem (by simp) fun i h1 h2 => ?_
    simp at h1
    simp [sB, nm0, wS, List.getD_eq_getElem?_getD, List.getElem?_eq_getElem h1]
  rw [e0]
  refine ⟨srtOk_strs nm0 _ (by rw [List.length_range]; omega), ?_⟩
  rw [srtS_eq]
  have hp : (srtS nm0 (List.range ns.length)).Perm (List.range ns.length) := List.mergeSort_perm _ _
  have hs : (srtS nm0 (List.range ns.length)).Pairwise fun a b => LeF (sB nm0) a b = true := srt_pw (sB nm0) _
  revert hp hs
  generalize srtS nm0 (List.range ns.length) = π
  intro hp hs
  have hpl : π.length = ns.length := by rw [hp.length_eq, List.length_range]
  have hpn : π.Nodup := hp.nodup_iff.mpr List.nodup_range
  have hlt : ∀ i, i < ns.length → π.getD i 0 < ns.length := fun i hi => by
    have h1 : i < π.length := by omega
    have : π.getD i 0 ∈ π := by rw [List.getD_eq_getElem?_getD, List.getElem?_eq_getElem h1]; exact List.getElem_mem _
    exact List.mem_range.mp (hp.mem_iff.mp this)
  have hlow : ∀ i, ∀ c ∈ ns.getD i [97], 97 ≤ c ∧ c ≤ 122 := fun i c hc => by
    rw [List.getD_eq_getElem?_getD] at hc
    cases h1 : ns[i]? with
    | none => rw [h1] at hc; simp at hc; omega
    | some w => rw [h1] at hc; exact (hl w (List.mem_of_getElem? h1)).low c hc
  have hget : ∀ i (hi : i < ns.length), ns.getD i [97] = ns[i] := fun i hi => by rw [List.getD_eq_getElem?_getD, List.getElem?_eq_getElem hi]; rfl
  have e1 : π.map (sB nm0) = (List.range ns.length).map (sB fun i => nm0 (π.getD i 0)) := by
    rw [← hpl]; exact (range_getD (sB nm0) π).symm
  rw [e1]
  refine q (fun i => nm0 (π.getD i 0)) ⟨fun i j hi hj h => ?_, fun i => strOk_wd fun c hc => (hlow _ c hc).2, fun i hi => ?_, fun i _ => strip_wd (hlow _), h5⟩ ?_
  · have h1 := wd_inj h
    have hi2 := hlt i hi
    have hj2 := hlt j hj
    rw [hget _ hi2, hget _ hj2] at h1
    have h2 := (List.getElem_inj hd).mp h1
    rw [List.getD_eq_getElem?_getD, List.getD_eq_getElem?_getD, List.getElem?_eq_getElem (by omega), List.getElem?_eq_getElem (by omega)] at h2
    exact (List.getElem_inj hpn).mp h2
  · show 1 ≤ (wd _).length ∧ (wd _).length ≤ 8
    rw [wd_len, hget _ (hlt i hi)]
    have := hl _ (List.getElem_mem (hlt i hi))
    exact ⟨this.l1, this.l8⟩
  · refine List.mergeSort_of_pairwise (List.pairwise_iff_getElem.mpr fun i j hi hj hij => ?_)
    rw [List.length_range] at hi hj
    rw [List.getElem_range, List.getElem_range]
    have := List.pairwise_iff_getElem.mp hs i j (by omega) (by omega) hij
    show LeF (sB nm0) (π.getD i 0) (π.getD j 0) = true
    rw [List.getD_eq_getElem?_getD, List.getD_eq_getElem?_getD, List.getElem?_eq_getElem (by omega), List.getElem?_eq_getElem (by omega)]
    exact this
end DL
set_option maxHeartbeats 4000000
/-! L30: _law_boats. -/
namespace DL
open PySem PySem.Spec PyProof.Rows L2
variable [TheW]
theorem range_eq (n : Nat) : rangeD 0 ((n : Nat) : Int).toNat = (List.range n).map fun k => .d (.int (0 + (k : Nat))) := by
  rw [Int.toNat_natCast]; rfl
theorem sum_ones : ∀ cs : List Nat, ((cs.map fun c => (⟨#[c]⟩ : Str)).map (·.length)).sum = cs.length
  | [] => rfl
  | a :: t => by
    rw [List.map_cons, List.map_cons, List.sum_cons, sum_ones t, List.length_cons]
    show 1 + _ = _
    omega
abbrev letterLoop (z : Str) : DTS := (dSeq (dFor (iSeq (dC (.str z))) (dGName 6) (dIf (dTest (dOp gIn (dVar 4) (dVar 2))) (dSet 4 (dOp gAdd (dSl (dVar 4) dNo (dPart (dC (.int 6)))) (dVar 6))) dNext))
    (dDrop (dM 2 (cCons (dVar 4) cNil) mAppend)))
theorem l_letters {z : Str} (hlt : z.cps.toList = [97, 98, 99, 100, 101, 102, 103, 104]) {D : DEnds} {ns : List (List Nat)} {w : List Nat} {c5 : Nat} {a0 a1 x3 x5 x6 x7 : Option DS} (hw : LowW w) (hns : ns.length ≤ 4) (h : ∀ w x6', LowW w → w ∉ ns → D.nx ⟨[a0, a1, some (.own (.lst (ns.map wS ++ [wS w]))), x3, some (.sh (.d (wS w))), x5, x6', x7], c5⟩) :
    letterLoop z D ⟨[a0, a1, some (.own (.lst (ns.map wS))), x3, some (.sh (.d (wS w))), x5, x6, x7], c5⟩ := by
  refine dLoop_list (fun c => .d (.str ⟨#[c]⟩)) z.cps.toList (fun done s => ∃ (w : List Nat) (x6' : Option DS), s = ⟨[a0, a1, some (.own (.lst (ns.map wS))), x3, some (.sh (.d (wS w))), x5, x6', x7], c5⟩ ∧ LowW w ∧ Rnd ns done w) ?_ ?_ _ ⟨w, x6, rfl, hw, fun _ => ⟨[], rfl, List.nodup_nil, by simp, by simp⟩⟩
  · rintro done l rest s R e ⟨w, x6', rfl, hw, hr⟩ hR
    have hnd : (done ++ l :: rest).Nodup := by rw [← e, hlt]; decide
    have hl : l ∉ done := fun z => (List.nodup_append.mp hnd).2.2 l z l (by simp) rfl
    have hlow : 97 ≤ l ∧ l ≤ 122 := by
      have : l ∈ z.cps.toList := by rw [e]; simp
      rw [hlt] at this
      simp at this
      omega
    have hw8 := hw.l8
    refine ⟨okD_str, wS_all ns, ?_⟩
    by_cases hin : w ∈ ns
    · refine ifT (by rw [show ((ns.map wS).any fun z => PyData.eqv z (wS w)) = decide (w ∈ ns) from mem_wS ns, decide_eq_true hin]; rfl) ?_
      have ec : cutS (wd w) none (some (((6 : Nat) : Int))) ++ (⟨#[l]⟩ : Str) = wd (w.take 6 ++ [l]) := by
        rw [wd_cut]; exact wd_add _ [l]
      have e6 : (cutS (wd w) none (some (((6 : Nat) : Int)))).length = (w.take 6).length := by rw [wd_cut, wd_len]
      refine ⟨by rw [wd_len]; omega, ?_, ?_⟩
      · show (cutS (wd w) none (some (((6 : Nat) : Int)))).length + 1 ≤ 1000
        rw [e6, List.length_take]; omega
      · refine hR _ ⟨w.take 6 ++ [l], some (.sh (.d (.str ⟨#[l]⟩))), ?_, low6 hw hlow, hr.step hin hl⟩
        show _ = DSt.mk [a0, a1, _, x3, some (.sh (.d (.str (wd (w.take 6 ++ [l]))))), x5, _, x7] c5
        rw [← ec]
        rfl
    · exact ifF (by rw [show ((ns.map wS).any fun z => PyData.eqv z (wS w)) = decide (w ∈ ns) from mem_wS ns, decide_eq_false hin]; rfl) (hR _ ⟨w, some (.sh (.d (.str ⟨#[l]⟩))), rfl, hw, Rnd.skip hin⟩)
  · rintro s ⟨w, x6', rfl, hw, hr⟩
    have hn : w ∉ ns := hr.fin (by rw [hlt]; show ns.length < 8; omega)
    exact ⟨⟨_, rfl⟩, _, rfl, by simp; omega, h w x6' hw hn⟩
theorem l__law_boats (p : WelP) : Law (t__law_boats p) (u__law_boats p) N__law_boats := by
  rintro xs c K ⟨many, h1, h5, hc, rfl, q⟩
  refine ⟨by simp, ⟨by omega, by omega⟩, ?_⟩
  rw [range_eq]
  refine dLoop_list (fun k : Nat => .d (.int (0 + (k : Nat)))) (List.range many) (fun done s => ∃ (x3 x4 x5 x6 x7 : Option DS) (ns : List (List Nat)) (c1 : Nat), s = ⟨[some (.sh p.self), some (.sh (.d (.int many))), some (.own (.lst (ns.map wS))), x3, x4, x5, x6, x7], c1⟩ ∧ c1 ≤ c + 12 * done.length ∧ ns.length = done.length ∧ ns.Nodup ∧ ∀ cs ∈ ns, LowW cs) ?_ ?_ _
    ⟨none, none, none, none, none, [], c, rfl, by simp, rfl, List.nodup_nil, by simp⟩
  · rintro done k rest s R e ⟨x3, x4, x5, x6, x7, ns, c1, rfl, hc1, hnl, hnd, hlow⟩ hR
    have hlen := congrArg List.length e
    rw [List.length_range, List.length_append, List.length_cons] at hlen
    refine ⟨⟨_, rfl⟩, 8, by decide, by decide, by show c1 < _; omega, rfl, fun d c2 hd hc2 => ?_⟩
    have hc2 : c2 ≤ c1 + 1 := hc2
    refine ⟨⟨by omega, by omega⟩, ?_⟩
    have er : rangeD 0 ((1 : Int) + (d : Nat)).toNat = (List.range (1 + d)).map fun k => .d (.int (0 + (k : Nat))) := by
      have : ((1 : Int) + (d : Nat)).toNat = 1 + d := by omega
      rw [this]; rfl
    rw [er]
    refine ⟨by simp; omega, ?_⟩
    refine lc_inv (fun k : Nat => .d (.int (0 + (k : Nat)))) (fun dn acc s => ∃ (cs : List Nat) (c3 : Nat), s = ⟨[some (.sh p.self), some (.sh (.d (.int many))), some (.own (.lst (ns.map wS))), some (.sh (.d (.int (0 + (k : Nat))))), x4, x5, x6, none], c3⟩ ∧ acc = (cs.map fun c => (⟨#[c]⟩ : Str)).map PyData.str ∧ cs.length = dn.length ∧ (∀ c ∈ cs, 97 ≤ c ∧ c ≤ 122) ∧ c3 ≤ c2 + dn.length) (List.range (1 + d)) ?_ ?_ [] _ ⟨[], c2, rfl, rfl, rfl, by simp, by simp⟩
    · rintro dn a rs acc s Kt Kf e2 ⟨cs, c3, rfl, rfl, hcl, hcs, hc3⟩ kt kf
      have hlen2 := congrArg List.length e2
      rw [List.length_range, List.length_append, List.length_cons] at hlen2
      refine ⟨_, _, .inr (.inr ⟨"abcdefghijklmnopqrstuvwxyz", rfl, rfl, by decide +kernel⟩), by decide +kernel, by decide +kernel, by show c3 < _; omega, rfl, fun x hx c4 hc4 => ?_⟩
      have hc4 : c4 ≤ c3 + 1 := hc4
      obtain ⟨ch, hch, rfl⟩ := List.mem_map.mp hx
      refine kt _ _ ⟨cs ++ [ch], c4, rfl, by simp, by simp [hcl], fun z hz => ?_, by simp; omega⟩
      rcases List.mem_append.mp hz with h | h
      · exact hcs z h
      · rw [List.mem_singleton.mp h]; exact chars_low ch hch
    · rintro acc s ⟨cs, c3, rfl, rfl, hcl, hcs, hc3⟩
      rw [List.length_range] at hcl hc3
      have hw : LowW cs := ⟨by omega, by omega, hcs⟩
      have es : ("" : Str).length = 0 := by decide +kernel
      refine ⟨cs.map fun c => (⟨#[c]⟩ : Str), asStrs_map _, ?_, ?_, ?_⟩
      · rw [sum_ones, es]; omega
      · rw [join_wd]; exact strOk_wd fun c hc => (hcs c hc).2
      rw [join_wd]
      refine ⟨6, by decide, by decide, by show c3 < _; omega, rfl, fun way c4 hway hc4 => ?_⟩
      have hc4 : c4 ≤ c3 + 1 := hc4
      have fin : ∀ (D : DEnds) (w : List Nat) (c5 : Nat) (x4 x5 x6 x7 : Option DS), D.nx = R → LowW w → c5 ≤ c1 + 12 → letterLoop "abcdefgh" D ⟨[some (.sh p.self), some (.sh (.d (.int many))), some (.own (.lst (ns.map wS))), some (.sh (.d (.int (0 + (k : Nat))))), some (.sh (.d (wS w))), x5, x6, x7], c5⟩ := fun D w c5 x4 x5 x6 x7 hD hw h5 => by
        refine l_letters letters hw (by omega) fun w' x6' hw' hn' => ?_
        rw [hD]
        refine hR _ ⟨_, _, _, _, _, ns ++ [w'], c5, by rw [List.map_append]; rfl, by simp; omega, by simp [hnl], ?_, fun z hz => ?_⟩
        · refine List.nodup_append.mpr ⟨hnd, by simp, fun a ha b hb z => ?_⟩
          rw [List.mem_singleton.mp hb] at z
          exact hn' (z ▸ ha)
        · rcases List.mem_append.mp hz with h | h
          · exact hlow z h
          · rw [List.mem_singleton.mp h]; exact hw'
      have second : ∀ (D : DEnds) (w : List Nat) (x4 x6 x7 : Option DS) (y : PyData), D.nx = R → y = wS w → LowW w → ∀ c5, c5 ≤ c1 + 11 → (dSeq (dIf (dTest (dOp gEq (dVar 5) (dC (.int 2)))) (dSet 4 (dCall (t__law_of p) (cCons (dVar 0) (cCons (dOfF (fLst (cCons (dC (.str "drop")) (cCons (dC (.str "touch")) (cCons (dC (.str "none")) (cCons (dC (.str "wall")) (cCons (dC (.str "d")) (cCons (dC (.str "u")) (cCons (dC (.str "t")) (cCons (dC (.str "o")) cNil)))))))))) cNil)))) dNext) (letterLoop "abcdefgh")) D ⟨[some (.sh p.self), some (.sh (.d (.int many))), some (.own (.lst (ns.map wS))), some (.sh (.d (.int (0 + (k : Nat))))), some (.sh (.d y)), some (.sh (.d (.int (way : Nat)))), x6, x7], c5⟩ := fun D w x4 x6 x7 y hD hy hw c5 h5 => by
        subst hy
        refine ⟨okD_int, okD_int, ?_⟩
        refine ifB (fun _ => ?_) (fun _ => fin D w c5 x4 _ x6 x7 hD hw (by omega))
        refine ⟨by simp, _, [.str "drop", .str "touch", .str "none", .str "wall", .str "d", .str "u", .str "t", .str "o"], .inl rfl, by simp, by simp, by show c5 < _; omega, rfl, fun x hx c6 hc6 => ?_⟩
        have hc6 : c6 ≤ c5 + 1 := hc6
        have hx2 : ∃ w2 ∈ [[100, 114, 111, 112], [116, 111, 117, 99, 104], [110, 111, 110, 101], [119, 97, 108, 108], [100], [117], [116], [111]], x = wS w2 := by
          have e1 : [PyData.str "drop", .str "touch", .str "none", .str "wall", .str "d", .str "u", .str "t", .str "o"] = [[100, 114, 111, 112], [116, 111, 117, 99, 104], [110, 111, 110, 101], [119, 97, 108, 108], [100], [117], [116], [111]].map wS := by
            have f : ∀ (z : Str) (l : List Nat), z = wd l → PyData.str z = wS l := fun z l h => congrArg PyData.str h
            simp only [List.map_cons, List.map_nil]
            rw [f "drop" [100, 114, 111, 112] (by decide +kernel), f "touch" [116, 111, 117, 99, 104] (by decide +kernel), f "none" [110, 111, 110, 101] (by decide +kernel), f "wall" [119, 97, 108, 108] (by decide +kernel), f "d" [100] (by decide +kernel), f "u" [117] (by decide +kernel), f "t" [116] (by decide +kernel), f "o" [111] (by decide +kernel)]
          rw [e1] at hx
          obtain ⟨w2, h1, h2⟩ := List.mem_map.mp hx
          exact ⟨w2, h1, h2.symm⟩
        obtain ⟨w2, h1, rfl⟩ := hx2
        have hl2 : LowW w2 := by
          simp at h1
          rcases h1 with rfl | rfl | rfl | rfl | rfl | rfl | rfl | rfl <;> exact ⟨by decide, by decide, by decide⟩
        exact fin D w2 c6 x4 _ x6 x7 hD hl2 (by omega)
      refine ⟨by simp, wS_all ns, rfl, ?_⟩
      cases ns with
      | nil => exact ifF (by simp [PyData.eqv, PyData.eqvAll]) (ifF rfl (second _ cs x4 _ _ _ rfl rfl hw c4 (by omega)))
      | cons n0 nt =>
        refine ifT (by simp [PyData.eqv, PyData.eqvAll]) ?_
        by_cases h2 : ((way : Nat) : Int) < 2
        · refine ifD h2 ?_
          refine ⟨rfl, ⟨_, rfl⟩, (n0 :: nt).map wS, rfl, .list ((n0 :: nt).map wS), (n0 :: nt).map wS, .inl rfl, by simp, by rw [List.length_map]; omega, by show c4 < _; omega, rfl, fun x hx c5 hc5 => ?_⟩
          have hc5 : c5 ≤ c4 + 1 := hc5
          obtain ⟨n', hn', rfl⟩ := List.mem_map.mp hx
          have hl' := hlow n' hn'
          have h8 := hl'.l8
          have h8' := hw.l8
          refine ⟨wd n', rfl, by rw [wd_len, wd_len]; omega, ?_, ?_⟩
          · rw [wd_add, wd_len, List.length_append]; omega
          · have ec : cutS (wd n' ++ wd cs) none (some ((8 : Nat) : Int)) = wd ((n' ++ cs).take 8) := by rw [wd_add, wd_cut]
            exact second _ ((n' ++ cs).take 8) x4 _ _ _ rfl (congrArg PyData.str ec) (low8 hl' hw) c5 (by omega)
        · exact ifN h2 (second _ cs x4 _ _ _ rfl rfl hw c4 (by omega))
  · rintro s ⟨x3, x4, x5, x6, x7, ns, c1, rfl, hc1, hnl, hnd, hlow⟩
    rw [List.length_range] at hc1 hnl
    have := boats_end (K := fun d => K (.d d) c1) hnl h5 hnd hlow fun nm hn hs => q nm c1 hn hs (by omega)
    exact this
end DL
set_option maxHeartbeats 2000000
/-! LV4: a list that a def made becomes a slot's own. -/
namespace DL
open PySem PySem.Spec PyProof.Rows L2
mutual
def noL : PyData → Bool
  | .list _ => false
  | .dict _ => false
  | .tuple xs => noLs xs
  | _ => true
def noLs : List PyData → Bool
  | [] => true
  | x :: r => noL x && noLs r
end
variable [TheW]
mutual
theorem Rep.any {Z Z' : Zs} {H : Hp} : ∀ {v : V} {d : PyData}, Rep Z H v d → noL d = true → Rep Z' H v d
  | _, _, .non, _ => .non
  | _, _, .bl b, _ => .bl b
  | _, _, .int i, _ => .int i
  | _, _, .str x h, _ => .str x h
  | _, _, .lst _ _ _, n => by rw [noL] at n; cases n
  | _, _, .tup h r, n => .tup h (RepL.any r (by rw [noL] at n; exact n))
  | _, _, .dct _ _, n => by rw [noL] at n; cases n
theorem RepL.any {Z Z' : Zs} {H : Hp} : ∀ {vs : List V} {ds : List PyData}, RepL Z H vs ds → noLs ds = true → RepL Z' H vs ds
  | _, _, .nil, _ => .nil
  | _, _, .cons h t, n => by
    rw [noLs, Bool.and_eq_true] at n
    exact .cons (Rep.any h n.1) (RepL.any t n.2)
end
def noLV : DV → Bool
  | .d x => noL x
  | .r _ => true
  | _ => false
theorem shr_any {Z Z' : Zs} {H : Hp} {v : V} : ∀ {x : DV}, ShR Z H v x → noLV x = true → ShR Z' H v x
  | .d _, h, n => Rep.any h n
  | .r _, h, _ => h
  | .p _, _, n => by cases n
  | .b _, _, n => by cases n
theorem shrs_any {Z Z' : Zs} {H : Hp} : ∀ {vs : List V} {xs : List DV}, Paired (ShR Z H) vs xs → xs.all noLV = true → Paired (ShR Z' H) vs xs
  | _, _, .nil, _ => .nil
  | _, _, .cons h t, n => by
    rw [List.all_cons, Bool.and_eq_true] at n
    exact .cons (shr_any h n.1) (shrs_any t n.2)
/-- a state seen again behind a call that made the list at la -/
theorem EnvR.addG {W : Wd} {σ : L2.St} {H H' : Hp} {s : DSt} {c : Nat} {la : Addr} (E : EnvR W σ H s) (f : FrO W.F (fun _ => False) H (fun _ => False) H') (mz : ∀ a, W.Z a → Mut (H' a)) (g : W.G c (Zo (W.add la).Z (OwnA σ s)) H') (hn : H la = none) (ml : Mut (H' la)) : EnvR (W.add la) σ H' ⟨s.e, c⟩ := by
  have f0 : Fr (Zo W.Z (OwnA σ s)) H (Zo W.Z (OwnA σ s)) H' := FrO.fr (O := OwnA σ s) (O' := OwnA σ s) ⟨fun a o h n _ => f.keep a o h n (fun z => z), fun _ h => .inl h, f.dom⟩ W.FZ E.muz fun _ h => (E.omut h).1
  have f1 : Fr (Zo W.Z (OwnA σ s)) H (Zo (W.add la).Z (OwnA σ s)) H' := ⟨fun a xs h n => by
    obtain ⟨h1, n1⟩ := f0.lst a xs h n
    refine ⟨h1, fun z => ?_⟩
    rcases z with (z | z) | z
    · exact n1 (.inl z)
    · rw [z, hn] at h; cases h
    · exact n1 (.inr z), f0.tup, f0.frz⟩
  have own : ∀ a, OwnA σ s a → H' a = H a := fun a h => by
    have m := E.omut h
    cases q : H a with
    | none => exact absurd q (mut_ne m.1)
    | some o => exact f.keep a o q (fun z => m.2 (W.FZ a z)) (fun z => z)
  refine ⟨E.len, fun i x h => ?_, fun i o h => ?_, E.uniq, fun a z => ?_, g⟩
  · obtain ⟨v, a, b⟩ := E.sh i x h
    exact ⟨v, a, b.mono f1⟩
  · obtain ⟨a, e1, e2, e3⟩ := E.own i o h
    refine ⟨a, e1, e2.mono f1 (own a ⟨i, o, h, e1⟩), fun z => ?_⟩
    rcases z with z | z
    · exact e3 z
    · have := (E.omut ⟨i, o, h, e1⟩).1
      rw [z, hn] at this; exact this
  · rcases z with z | z
    · exact mz a z
    · rw [z]; exact ml
section
variable {X : Cx} {W : Wd} {e a b : Expr} {es : List Expr} {pos : Pos} {k jj : Nat}
/-- x, y = f(..): a tuple of data and of a list that f made -/
def dAsgO (i j : Nat) (T : DFT) (Ta : DTA) : DTS := fun D s => Ta s fun xs s1 => xs.all noLV = true ∧ T xs s1.c fun x c => ∃ d ds, x = .d (.tuple [d, .list ds]) ∧ noL d = true ∧ noLs ds = true ∧ D.nx (((⟨s1.e, c⟩ : DSt).set i (.sh (.d d))).set j (.own (.lst ds)))
theorem ds_asgO {i j kt : Nat} {x y z : Str} {T : DFT} {Ta : DTA} {px py pt p pc : Pos} {FW : Zs} {GW : Nat → Zs → Hp → Prop} (hF : W.F = FW) (hG : W.G = GW) (hGZ : ∀ c Z Z' H, GW c Z H → GW c Z' H) (hc : X.calm = true) (hN : X.N.Nodup) (hi : X.N[i]? = some x) (hj : X.N[j]? = some y)
    (hx : Loc X.env.scope x) (hy : Loc X.env.scope y) (F : DFn X.prog X.w X.K X.mg X.base k z (spD FW GW T)) (hr : Room jj X.A) (hk : k ≤ jj) (hg : Gl X z) (ha : DAC X W (e :: es) Ta) (hdb : (z == ("__debug__" : Str)) = false := by decide)
    (he : starEach (e :: es) X.env = (false, eval e X.env) :: starEach es X.env := by rfl) (hpl : (backTo pc (starEach es X.env)).any (·.1) = false := by rfl)
    (hs : swapsWithSole [.Tuple [.Name x px, .Name y py] kt pt] (.Call (.Name z p) (e :: es) [] pc) pos.line X.env = pure false := by rfl) (hw : swappedStores [.Tuple [.Name x px, .Name y py] kt pt] (.Call (.Name z p) (e :: es) [] pc) X.env = pure none := by rfl)
    (h1 : (assignEach [.Tuple [.Name x px, .Name y py] kt pt] X.env).map (·.2) = [assign (.Tuple [.Name x px, .Name y py] kt pt) X.env] := by rfl)
    (hn : (assignEach [.Name x px, .Name y py] X.env).length = 2 := by rfl) (hst : (assignEach [.Name x px, .Name y py] X.env).findIdx? (·.1) = none := by rfl)
    (g1 : (assignEach [.Name x px, .Name y py] X.env).map (·.2) = assign (.Name x px) X.env :: (assignEach [.Name y py] X.env).map (·.2) := by rfl) (g2 : (assignEach [.Name y py] X.env).map (·.2) = assign (.Name y py) X.env :: (assignEach [] X.env).map (·.2) := by rfl)
    (hfx : X.fn x = true ∨ X.env.scope.names.lookup x = some .local := by first | exact .inl rfl | exact .inr rfl | assumption) (hfy : X.fn y = true ∨ X.env.scope.names.lookup y = some .local := by first | exact .inl rfl | exact .inr rfl | assumption) :
    DS1 X W (.Assign [.Tuple [.Name x px, .Name y py] kt pt] (.Call (.Name z p) (e :: es) [] pc) pos) (dAsgO i j T Ta) := by
  subst hF hG
  have G : PG X (.Tuple [.Name x px, .Name y py] kt pt) (gTup X.K 2 (gCons (gName i) (gCons (gName j) gNil))) := pg_tup hc (pgs_cons (pg_name hN hi hx hfx) (pgs_cons (pg_name hN hj hy hfy) pgs_nil g2) g1) hn hst
  refine (ps_asg (pe_def F hr hk hg ha hdb he hpl) G hs hw h1).weakI fun D' σ H hl ⟨s, D, E, t, kn, _⟩ => ?_
  refine ⟨s, _, E, t, fun vs H1 xs s1 S1 r1 ⟨hxs, t1⟩ => ?_⟩
  show spD W.F W.G T (vs ++ []) H1 _ E0
  rw [List.append_nil]
  refine ⟨fun a => Mut (H1 a), xs, s1.c, _, fun a z => z, fun a z => S1.env.muz a (W.FZ a z), hGZ _ _ _ _ S1.env.g, shrs_any r1 hxs, t1, ?_⟩
  rintro v H2 x' c' f mz g r' ⟨d, ds, rfl, nd, nds, q⟩
  cases (show Rep (fun a => Mut (H1 a)) H2 v (.tuple [d, .list ds]) from r') with
  | @tup ta ts _ ht rl =>
    cases rl with
    | @cons v0 _ _ _ r0 rl =>
      cases rl with
      | @cons v1 _ _ _ r1' rl =>
        cases rl
        cases r1' with
        | @lst la ys _ hla nla rys =>
          have hnone : H1 la = none := by
            cases q2 : H1 la with
            | none => rfl
            | some o =>
              have nf : ¬ W.F la := fun z => nla (S1.env.muz la (W.FZ la z))
              have := f.keep la o q2 nf (fun z => z)
              rw [hla] at this
              exact absurd (show Mut (H1 la) by rw [q2, ← Option.some.inj this]; trivial) nla
          have li := ix_lt hl hi
          have lj := ix_lt hl hj
          have mzW : ∀ a, W.Z a → Mut (H2 a) := fun a z => mz a (S1.env.muz a z)
          have E1 : EnvR (W.add la) σ H2 ⟨s1.e, c'⟩ := S1.env.addG f mzW (hGZ _ _ _ _ g) hnone (by rw [hla]; trivial)
          have E2 : EnvR (W.add la) (σ.set i (some v0)) H2 ((⟨s1.e, c'⟩ : DSt).set i (.sh (.d d))) := E1.setSh li (show ShR _ H2 v0 (.d d) from Rep.any r0 nd)
          have nz : ¬ W.Z la := fun z => by have := S1.env.muz la z; rw [hnone] at this; exact this
          have E3 := E2.setOwn (i := j) (o := .lst ds) (by simpa using lj) ⟨ys, hla, RepL.any rys nds⟩ nz
          refine ⟨ta, [v0, .ref la], rfl, ht.sq, rfl, v0, [.ref la], rfl, .ref la, [], rfl, rfl, ?_⟩
          refine kn _ _ _ ⟨E3, ?_⟩ q
          have fr2 : FrO W.F (OwnA σ s1) H1 (OwnA σ ⟨s1.e, c'⟩) H2 := ⟨fun a o h nf _ => f.keep a o h nf (fun z => z), fun _ h => .inl h, f.dom⟩
          have fr3 := S1.fr.trans fr2
          refine ⟨fr3.keep, fun a h => ?_, fr3.dom⟩
          rcases ownA_setOwn h with z | z
          · exact fr3.own a (ownA_setSh z)
          · exact .inr (by rw [z]; exact S1.fr.dom _ hnone)
end
end DL
set_option maxHeartbeats 2000000
/-! LV5: the script read; big products, powers, abs. -/
namespace DL
open PySem PySem.Spec PyProof.Rows L2
variable [TheW]
/-- the script stands -/
def scrG (K : PySem.W.Frag) (a : Addr) (xs : List V) (tr : Prop) : Nat → Zs → Hp → Prop := fun _ _ H => (tr ∧ H a = some (.lst xs)) ∨ (∃ o, H a = some (.frz o (.lst xs))) ∨
  ∃ (o : Obj) (its : Array Value) (n : Nat), K.lookup a = some o ∧ o.cls = .type "list" ∧ o.dict = none ∧ o.data = .seq its n ∧ its.size ≤ sizeLine ∧ Vals xs its.toList
def scrF (a : Addr) (tr : Prop) : Zs := fun x => x = a ∧ tr
theorem scr_stab {K : PySem.W.Frag} {a : Addr} {xs : List V} {tr : Prop} : ∀ c Z Z' H H', scrG K a xs tr c Z H → (∀ x, scrF a tr x → H' x = H x) → Fr Z H Z' H' → scrG K a xs tr c Z' H' := by
  rintro c Z Z' H H' (⟨t, h⟩ | ⟨o, h⟩ | h) hf f
  · exact .inl ⟨t, (hf a ⟨rfl, t⟩).trans h⟩
  · exact .inr (.inl ⟨o, f.frz _ _ _ h⟩)
  · exact .inr (.inr h)
theorem scr_sq {K : PySem.W.Frag} {a : Addr} {xs : List V} {tr : Prop} {c : Nat} {Z : Zs} {H : Hp} (h : scrG K a xs tr c Z H) : SqL K H a xs := by
  rcases h with ⟨_, h⟩ | ⟨o, h⟩ | h
  · exact .inl (.inl h)
  · exact .inl (.inr ⟨o, h⟩)
  · exact .inr h
section
variable {X : Cx} {W : Wd} {pos p1 p2 p3 p4 : Pos} {i k kk : Nat} {x : Str} {a : Addr} {ns : List Int} {tr : Prop}
theorem slot_raw {σ : L2.St} {H : Hp} {s : DSt} {v : V} (E : EnvR W σ H s) (h : s.e[i]? = some (some (.sh (.r v)))) : σ[i]? = some (some v) := by
  obtain ⟨u, e, r⟩ := E.sh i _ h
  cases (show u = v from r)
  exact e
/-- len(script) -/
def dScrLen (i : Nat) (a : Addr) (n : Nat) : DTE := fun s Q => s.e[i]? = some (some (.sh (.r (.ref a)))) ∧ Q (.d (.int (n : Nat))) s
theorem de_scrLen (hG : W.G = scrG X.K a (ns.map V.int) tr) (hg : Gl X "len") (hm : X.mg "len" = none) (hN : X.N[i]? = some x := by rfl) (hv : Vis X.env.scope x := by first | exact Or.inl rfl | exact Or.inr (Or.inl rfl) | exact Or.inr (Or.inr rfl)) (hd : (x == ("__debug__" : Str)) = false := by decide) (hcd : (x == ("__classdict__" : Str)) = false := by decide)
    (he : starEach [.Name x p1] X.env = (false, eval (.Name x p1) X.env) :: starEach [] X.env := by rfl) (hpl : (backTo pos (starEach [] X.env)).any (·.1) = false := by rfl) :
    DE X W (.Call (.Name "len" p2) [.Name x p1] [] pos) (dScrLen i a ns.length) := by
  refine (pe_callB call_len hg hm boot_len (pa_cons (pe_var hN hv hd hcd) pa_nil)).weak fun σ H Q' ⟨s, Q, E, ⟨h0, t⟩, k⟩ => ?_
  have g := E.g
  rw [hG] at g
  refine ⟨_, slot_raw E h0, _, (ns.map V.int).length, rfl, Or.inl ⟨_, scr_sq g, rfl⟩, ?_⟩
  rw [List.length_map]
  exact k _ H (.d (.int (ns.length : Nat))) s (.refl E) (Rep.int _) t
/-- script[0] -/
def dScrAt (i : Nat) (a : Addr) (n : Option Int) : DTE := fun s Q => s.e[i]? = some (some (.sh (.r (.ref a)))) ∧ ∃ m, n = some m ∧ Q (.d (.int m)) s
theorem de_scrAt (hG : W.G = scrG X.K a (ns.map V.int) tr) (hN : X.N[i]? = some x := by rfl) (hv : Vis X.env.scope x := by first | exact Or.inl rfl | exact Or.inr (Or.inl rfl) | exact Or.inr (Or.inr rfl)) (hd : (x == ("__debug__" : Str)) = false := by decide) (hcd : (x == ("__classdict__" : Str)) = false := by decide) :
    DE X W (.Subscript (.Name x p1) (.Constant (.int 0) kk p2) pos) (dScrAt i a ns[0]?) := by
  refine (pe_ix ix_list (pe_var hN hv hd hcd) pe_int (fun _ _ => rfl)).weak fun σ H Q' ⟨s, Q, E, ⟨h0, m, hm, t⟩, k⟩ => ?_
  have g := E.g
  rw [hG] at g
  refine ⟨_, slot_raw E h0, _, _, 0, .int m, rfl, rfl, scr_sq g, ?_, k _ H (.d (.int m)) s (.refl E) (Rep.int _) t⟩
  exact atI_nat (j := 0) (by rw [List.getElem?_map, hm]; rfl)
/-- script[:63], a new list -/
def fScr (i : Nat) (a : Addr) (ns : List Int) : DTF := fun s Q => s.e[i]? = some (some (.sh (.r (.ref a)))) ∧ Q (.lst (ns.map .int)) s
theorem repL_ints2 {Z : Zs} {H : Hp} (ns : List Int) : RepL Z H (ns.map V.int) (ns.map PyData.int) := repL_ints ns
theorem df_scr (hG : W.G = scrG X.K a (ns.map V.int) tr) (hN : X.N[i]? = some x := by rfl) (hv : Vis X.env.scope x := by first | exact Or.inl rfl | exact Or.inr (Or.inl rfl) | exact Or.inr (Or.inr rfl)) (hd : (x == ("__debug__" : Str)) = false := by decide) (hcd : (x == ("__classdict__" : Str)) = false := by decide) :
    DF X W (.Subscript (.Name x p1) (.Slice none (some (.Constant (.int 63) kk p2)) none p3) pos) (fScr i a (ns.take 63)) := by
  refine (pe_slice sl_list (pe_var hN hv hd hcd) po_none (po_some pe_int)).weak fun σ H Q' ⟨s, Q, E, ⟨h0, t⟩, k⟩ => ?_
  have g := E.g
  rw [hG] at g
  refine ⟨_, slot_raw E h0, ?_⟩
  refine ⟨63, rfl, a, ns.map V.int, rfl, scr_sq g, fun p hp => ?_⟩
  have e : cutV (ns.map V.int) none (some 63) = (ns.take 63).map V.int := by
    have := cut_j (ns.map V.int) 63
    rw [← List.map_take] at this
    exact this
  rw [e]
  exact fresh_core (o := .lst ((ns.take 63).map .int)) (.refl E) hp trivial ⟨_, upd_same, repL_ints2 _⟩ k t
end
section
variable {X : Cx}
abbrev gMulW : D2 := gI CMulW fun i j => .int (i * j)
theorem od_mulW : OpD X (binaryOp .Mult) gMulW := od_I op_mulW fun _ _ _ _ => .int _
abbrev gPow : D2 := gI CPow fun i j => .int (i ^ j.toNat)
theorem od_pow : OpD X (binaryOp .Pow) gPow := od_I op_pow fun _ _ _ _ => .int _
def gAbs : DCB := g1 fun x K => match x with
  | .int i => K (.int (if i < 0 then -i else i))
  | _ => False
theorem cr_abs : CallR X (.builtin "abs") (callRel gAbs) := by
  intro pins s σ H xs us Q I r h
  obtain ⟨Z, ys, K, mz, p, t, q⟩ := h
  obtain ⟨x, rfl, t⟩ := g1_elim t
  obtain ⟨v, rfl, vx⟩ := argv1 p
  cases x with
  | int i =>
    cases vInt (show View Z H v (.int i) from vx)
    exact call_abs pins s σ H _ us Q I r ⟨i, rfl, q _ _ _ (Ext.refl H) (.int _) t⟩
  | _ => exact t.elim
end
end DL
/-! DEV5: defs of the text: their terms of rules, printed by gen.py. -/
namespace DL
open PySem PySem.Spec PyProof.Rows L2
variable [TheW]
abbrev st__law_well : Stmt := top 66
abbrev sc__law_well : Scope := defScope st__law_well
abbrev N__law_well : List Str := ["_law_script", "_law_own", "_law_seed", "_law_far", "_law_k", "_law_cell"]
theorem fs__law_well : FnScope N__law_well ["_law_script"] sc__law_well := ⟨rfl, rfl, rfl, by decide +kernel, rfl, by decide +kernel, by decide +kernel⟩
def u_well1 (a : Addr) (ns : List Int) : DTS := (dFor (iR1 (cCons (dC (.int 6)) cNil)) (dGName 4) (dSet 3 (dOp gMulW (dVar 3) (dOp gPow (dC (.int 10)) (dC (.int 60))))))
theorem d_well1 {K : PySem.W.Frag} {mg : Str → Option Value} {base : Heap} {f : Addr} {cdv : Value} {A : Around} {outer : List Env} {s : Shared} {H : Hp} {E : XK} {W : Wd} {a : Addr} {ns : List Int} {tr : Prop} (hG : W.G = scrG K a (ns.map V.int) tr) (M : Mg mg) (hr : Room 0 (cx N__law_well "_law_well" sc__law_well K mg base f cdv A outer s H E).A) : DS1 (cx N__law_well "_law_well" sc__law_well K mg base f cdv A outer s H E) W ((defBody st__law_well).getD 1 (.Pass ⟨0, 0, 0, 0⟩)) (u_well1 a ns) := by
  have nd := fs__law_well.nd
  exact (ds_for PassesOwn.never rfl (di_range1 rfl M.range (ac_cons de_int ac_nil)) (dg_name (i := 4) nd rfl (Or.inl rfl)) (dss_one (ds_set (i := 3) nd rfl (Or.inr rfl) (de_op od_mulW (dv 3) (de_op od_pow de_int de_int)))))
def u_well2 (a : Addr) (ns : List Int) : DTS := (dFor (iSeq (dOfF (fScr 0 a (ns.take 63)))) (dGName 5) (dSet 2 (dOp gMod (dOp gAdd (dOp gAdd (dOp gAdd (dOp gMul (dVar 2) (dC (.int 69069))) (dOp gMod (dVar 5) (dC (.int 1000003)))) (dVar 5)) (dC (.int 5))) (dC (.int 2305843009213693951)))))
theorem d_well2 {K : PySem.W.Frag} {mg : Str → Option Value} {base : Heap} {f : Addr} {cdv : Value} {A : Around} {outer : List Env} {s : Shared} {H : Hp} {E : XK} {W : Wd} {a : Addr} {ns : List Int} {tr : Prop} (hG : W.G = scrG K a (ns.map V.int) tr) (M : Mg mg) (hr : Room 0 (cx N__law_well "_law_well" sc__law_well K mg base f cdv A outer s H E).A) : DS1 (cx N__law_well "_law_well" sc__law_well K mg base f cdv A outer s H E) W ((defBody st__law_well).getD 2 (.Pass ⟨0, 0, 0, 0⟩)) (u_well2 a ns) := by
  have nd := fs__law_well.nd
  exact (ds_for PassesOwn.never rfl (di_seq (de_ofF (df_scr (i := 0) hG))) (dg_name (i := 5) nd rfl (Or.inl rfl)) (dss_one (ds_set (i := 2) nd rfl (Or.inl rfl) (de_op od_mod (de_op od_add (de_op od_add (de_op od_add (de_op od_mul (dv 2) de_int) (de_op od_mod (dv 5) de_int)) (dv 5)) de_int) de_int))))
def u_well3 (a : Addr) (ns : List Int) : DTS := (dIf (dAndT (dTest (dOp gGt (dScrLen 0 a ns.length) (dC (.int 0)))) (dTest (dOp gGe (dScrAt 0 a ns[0]?) (dOp gPow (dC (.int 10)) (dC (.int 18)))))) (dOwn 1 (fLc (iSeq (dOfF (fScr 0 a (ns.take 63)))) (dGName 5) dYes (dOp gMod (dCB gAbs (dCons (dVar 5) dNil)) (dVar 3)) [5])) dNext)
theorem d_well3 {K : PySem.W.Frag} {mg : Str → Option Value} {base : Heap} {f : Addr} {cdv : Value} {A : Around} {outer : List Env} {s : Shared} {H : Hp} {E : XK} {W : Wd} {a : Addr} {ns : List Int} {tr : Prop} (hG : W.G = scrG K a (ns.map V.int) tr) (M : Mg mg) (hr : Room 0 (cx N__law_well "_law_well" sc__law_well K mg base f cdv A outer s H E).A) : DS1 (cx N__law_well "_law_well" sc__law_well K mg base f cdv A outer s H E) W ((defBody st__law_well).getD 3 (.Pass ⟨0, 0, 0, 0⟩)) (u_well3 a ns) := by
  have nd := fs__law_well.nd
  exact (ds_if (dt_w (dw_and (dt_cmp od_gt (de_scrLen (i := 0) hG rfl M.len) de_int (nomark _)) (dw_and1 (dt_cmp od_ge (de_scrAt (i := 0) hG) (de_op od_pow de_int de_int) (nomark _))))) (dss_one (ds_setLc (i := 1) (own := [("_law_cell", 5)]) rfl nd rfl rfl (sw_true rfl rfl rfl (by decide +kernel)) (di_seq (de_ofF (df_scr (i := 0) hG))) (blkOk_by (N := N__law_well) (sc := sc__law_well) (by decide +kernel)) (tg_name (by decide)) (fun _ _ _ _ _ => (pg_name (i := 5) nd rfl (Or.inl rfl))) (fun _ _ _ _ _ _ => dts_nil) (fun _ _ _ _ _ _ => (de_op od_mod (de_callB cr_abs rfl M.abs (by decide +kernel) (da_cons (dv 5) da_nil)) (dv 3))))) dss_nil)

end DL
set_option maxHeartbeats 4000000
/-! L31: what _law_well's statements do. -/
namespace DL
open PySem PySem.Spec PyProof.Rows L2
variable [TheW]
def ten60 : Int := 10 ^ (60 : Int).toNat
theorem ten60_nat : ∃ m : Nat, ten60 = (m : Int) ∧ m ≠ 0 ∧ m < 2 ^ 200 := ⟨10 ^ 60, by decide +kernel, by decide +kernel, by decide +kernel⟩
def wellS (a : Addr) (own : List Int) (seed far : Int) (x4 x5 : Option DS) : DSt := ⟨[some (.sh (.r (.ref a))), some (.own (.lst (own.map .int))), some (.sh (.d (.int seed))), some (.sh (.d (.int far))), x4, x5], 0⟩
theorem log2_le {m k : Nat} (h0 : m ≠ 0) (h : m < 2 ^ k) (hk : k ≤ 2000) : m.log2 < 2000 := Nat.lt_of_lt_of_le ((Nat.log2_lt h0).mpr h) hk
theorem l_well1 {a : Addr} {ns : List Int} {D : DEnds} (h : ∀ far x4, 0 < far → D.nx (wellS a [] 4099 far x4 none)) : u_well1 a ns D (wellS a [] 4099 ten60 none none) := by
  obtain ⟨m0, hm0, hn0, hl0⟩ := ten60_nat
  refine ⟨⟨by decide, by decide⟩, ?_⟩
  refine dLoop_list (fun k : Nat => .d (.int (0 + (k : Nat)))) (List.range 6) (fun done s => ∃ (m : Nat) (x4 : Option DS), s = wellS a [] 4099 (m : Int) x4 none ∧ m ≠ 0 ∧ m < 2 ^ (200 * (done.length + 1))) ?_ ?_ _ ⟨m0, none, by rw [← hm0], hn0, hl0⟩
  · rintro done k rest s R e ⟨m, x4, rfl, hn, hl⟩ hR
    have hlen := congrArg List.length e
    rw [List.length_range, List.length_append, List.length_cons] at hlen
    have hpow : m * m0 < 2 ^ (200 * ((done ++ [k]).length + 1)) := by
      have : 200 * ((done ++ [k]).length + 1) = 200 * (done.length + 1) + 200 := by simp; omega
      rw [this, Nat.pow_add]
      exact Nat.mul_lt_mul'' hl hl0
    refine ⟨⟨by decide, by decide, by decide⟩, ?_⟩
    have l1 : m.log2 < 2000 := log2_le hn hl (by omega)
    have l2 : m0.log2 < 2000 := log2_le hn0 hl0 (by omega)
    have hc : CMulW (m : Int) ten60 := by
      unfold CMulW
      rw [hm0, Int.natAbs_natCast, Int.natAbs_natCast]
      omega
    refine ⟨hc, hR _ ⟨m * m0, some (.sh (.d (.int (0 + (k : Nat))))), ?_, Nat.mul_ne_zero hn hn0, hpow⟩⟩
    show DSt.mk [_, _, _, some (.sh (.d (.int ((m : Int) * ten60)))), _, _] 0 = _
    rw [hm0]
    unfold wellS
    rw [Int.natCast_mul]
  · rintro s ⟨m, x4, rfl, hn, hl⟩
    exact h m x4 (by omega)
theorem l_well2 {a : Addr} {ns : List Int} {far : Int} {x4 : Option DS} {D : DEnds} (h : ∀ seed x5, 0 ≤ seed → seed < 2 ^ 61 → D.nx (wellS a [] seed far x4 x5)) : u_well2 a ns D (wellS a [] 4099 far x4 none) := by
  refine ⟨rfl, ?_⟩
  refine dl_map ?_
  refine dLoop_list (fun n : Int => .d (.int n)) (ns.take 63) (fun done s => ∃ (seed : Int) (x5 : Option DS), s = wellS a [] seed far x4 x5 ∧ 0 ≤ seed ∧ seed < 2 ^ 61) ?_ ?_ _ ⟨4099, none, rfl, by decide, by decide⟩
  · rintro done n rest s R e ⟨seed, x5, rfl, h0, h1⟩ hR
    refine ⟨⟨by omega, by omega⟩, (show (0 : Int) < 1000003 by decide), (show (0 : Int) < 2305843009213693951 by decide), ?_⟩
    have a0 := Int.emod_nonneg (seed * 69069 + n % 1000003 + n + 5) (b := 2305843009213693951) (by decide)
    have a1 := Int.emod_lt_of_pos (seed * 69069 + n % 1000003 + n + 5) (b := 2305843009213693951) (by decide)
    exact hR _ ⟨_, some (.sh (.d (.int n))), rfl, a0, by omega⟩
  · rintro s ⟨seed, x5, rfl, h0, h1⟩
    exact h seed x5 h0 h1
theorem l_well3 {a : Addr} {ns : List Int} {seed far : Int} {x4 x5 : Option DS} {D : DEnds} (hf : 0 < far) (h : ∀ own x5, own.length ≤ 63 → (∀ n ∈ own, 0 ≤ n) → D.nx (wellS a own seed far x4 x5)) : u_well3 a ns D (wellS a [] seed far x4 x5) := by
  refine ⟨rfl, trivial, ?_⟩
  by_cases c1 : ((ns.length : Nat) : Int) > 0
  · refine ifD c1 ?_
    have hl : 0 < ns.length := by omega
    refine ⟨rfl, ns[0], List.getElem?_eq_getElem hl, ⟨by decide, by decide, by decide⟩, trivial, ?_⟩
    refine ifB (fun _ => ?_) (fun _ => h [] x5 (by simp) (by simp))
    refine ⟨rfl, by simp; omega, lc_mm ?_⟩
    refine lc_map (fun n : Int => .d (.int n)) (fun n => .int ((if n < 0 then -n else n) % far)) (ns.take 63) _ (fun n Kt Kf _ hk => ⟨hf, hk⟩) ?_
    have e : (ns.take 63).map (fun n => PyData.int ((if n < 0 then -n else n) % far)) = ((ns.take 63).map fun n => (if n < 0 then -n else n) % far).map PyData.int := by rw [List.map_map]; rfl
    have := h ((ns.take 63).map fun n => (if n < 0 then -n else n) % far) none (by simp; omega) (fun n hn => by
      obtain ⟨m, _, rfl⟩ := List.mem_map.mp hn
      exact Int.emod_nonneg _ (by omega))
    unfold wellS at this
    rw [← e] at this
    exact this
  · refine ifN c1 ?_
    exact h [] x5 (by simp) (by simp)
end DL
set_option maxHeartbeats 4000000
/-! LV6: _law_well. -/
namespace DL
open PySem PySem.Spec PyProof.Rows L2
variable [TheW]
theorem lift_run {W : Wd} {σ : L2.St} {H : Hp} {s : DSt} {T : DTS} {D' : Ends} (E : EnvR W σ H s) (t : T { nx := fun s' => ∀ σ' H', Stp W σ H s σ' H' s' → D'.nx σ' H', rt := fun _ _ => False } s) : liftS W T D' σ H :=
  ⟨s, _, E, t, fun σ' H' s' S q => q σ' H' S, fun _ _ _ _ _ _ _ q => q.elim, fun _ _ _ _ q => q.elim, fun _ _ _ _ q => q.elim⟩
def spWell (K : PySem.W.Frag) : Sp := fun vs H Q _ => ∃ (a : Addr) (ns : List Int), vs = [.ref a] ∧ SqL K H a (ns.map V.int) ∧ ∀ (p : WelP) H', p.G 0 (fun _ => False) H' → Q (.ref p.da) H'
theorem fn_well {K : PySem.W.Frag} {mg : Str → Option Value} {base : Heap} {params : Arguments} {f : Addr} {fd : FuncData} (M : Mg mg) (D : FunD K "_law_well" "_law_well" params (defBody st__law_well) sc__law_well [] [] f fd) :
    FnOk TheW.P TheW.w K mg base CX0 1 f fd ["_law_script"] (spWell K) := by
  refine D.ok fs__law_well (fun vs H Q E ⟨a, ns, e, _⟩ => by rw [e]; rfl) fun cdv A outer s H vs Q E hr h => ?_
  have nd := fs__law_well.nd
  let X := cx N__law_well "_law_well" sc__law_well K mg base f cdv A outer s H E
  have hr : Room 0 X.A := hr
  obtain ⟨a, ns, rfl, hsq, hq⟩ := h
  let xs := ns.map V.int
  let tr : Prop := H a = some (.lst xs)
  have stab := scr_stab (K := K) (a := a) (xs := xs) (tr := tr)
  let W : Wd := ⟨scrF a tr, scrF a tr, scrG K a xs tr, fun _ z => z, stab⟩
  have B0 : PS X ((defBody st__law_well).getD 0 (.Pass ⟨0, 0, 0, 0⟩)) _ := ps_asg (pe_tupX (pa_cons (pe_lst pa_nil) (pa_cons pe_int (pa_cons (pe_op op_pow pe_int pe_int) pa_nil)))) (pg_tup rfl (pgs_cons (pg_name (i := 1) nd rfl (Or.inl rfl)) (pgs_cons (pg_name (i := 2) nd rfl (Or.inl rfl)) (pgs_cons (pg_name (i := 3) nd rfl (Or.inr rfl)) pgs_nil))))
  have B1 : PS X ((defBody st__law_well).getD 1 (.Pass ⟨0, 0, 0, 0⟩)) (liftS W (u_well1 a ns)) := d_well1 (W := W) (tr := tr) rfl M hr
  have B2 : PS X ((defBody st__law_well).getD 2 (.Pass ⟨0, 0, 0, 0⟩)) (liftS W (u_well2 a ns)) := d_well2 (W := W) (tr := tr) rfl M hr
  have B3 : PS X ((defBody st__law_well).getD 3 (.Pass ⟨0, 0, 0, 0⟩)) (liftS W (u_well3 a ns)) := d_well3 (W := W) (tr := tr) rfl M hr
  have B4 : PS X ((defBody st__law_well).getD 4 (.Pass ⟨0, 0, 0, 0⟩)) _ := ps_ret (pe_disp (pps_cons pe_str (pe_var (i := 1) rfl (Or.inl rfl)) (pps_cons pe_str (pe_var (i := 2) rfl (Or.inl rfl)) (pps_cons pe_str pe_int pps_nil))) rfl rfl (by intro z; cases z) (by decide))
  refine ⟨_, PSs.nox (st := defBody st__law_well) (pss_cons B0 (pss_cons B1 (pss_cons B2 (pss_cons B3 (pss_one B4))))), ?_⟩
  have mz : ∀ x, W.Z x → Mut (H x) := fun x z => by rw [z.1, z.2]; trivial
  have g0 : W.G 0 W.Z H := by
    rcases hsq with (h | ⟨o, h⟩) | h
    · exact .inl ⟨h, h⟩
    · exact .inr (.inl ⟨o, h⟩)
    · exact .inr (.inr h)
  obtain ⟨E0, no0⟩ := env_start (W := W) (N := N__law_well) (vs := [V.ref a]) (xs := [.r (.ref a)]) (c := 0) (.cons (show ShR W.Z H (V.ref a) (.r (.ref a)) from rfl) .nil) mz g0
  refine ⟨Nat.zero_le _, fun q0 hq0 => ?_⟩
  refine ⟨10, 60, rfl, rfl, ⟨by decide, by decide, by decide⟩, (show 3 ≤ sizeLine by rw [sizeLine_eq]; decide), fun tp to htp hto => ?_⟩
  refine ⟨tp, _, rfl, (IsT.new hto).sq, rfl, _, _, rfl, _, _, rfl, _, _, rfl, rfl, ?_⟩
  have nz : ¬ W.Z q0 := fun z => by have := mz q0 z; rw [hq0] at this; exact this
  have ne : q0 ≠ tp := fun z => by rw [← z, upd_same] at htp; cases htp
  have Ea : EnvR (W.add q0) _ (upd H q0 (.lst [])) _ := E0.add (.new hq0) hq0 (by rw [upd_same]; trivial)
  have Eb := Ea.ext (Ext.new (p := tp) (o := .frz to (.tup [V.ref q0, V.int 4099, V.int (10 ^ (60 : Int).toNat)])) htp)
  have Ec := Eb.setSh (i := 2) (v := .int 4099) (x := .d (.int 4099)) (show 2 < 6 by decide) (Rep.int _)
  have Ed := Ec.setSh (i := 3) (v := .int (10 ^ (60 : Int).toNat)) (x := .d (.int ten60)) (by rw [List.length_set]; exact (show 3 < 6 by decide)) (Rep.int _)
  have Ee := Ed.setOwn (i := 1) (o := .lst []) (by rw [List.length_set, List.length_set]; exact (show 1 < 6 by decide)) ⟨[], by rw [upd_ne ne]; exact upd_same, .nil⟩ nz
  refine lift_run (s := wellS a [] 4099 ten60 none none) Ee (l_well1 fun far x4 hf σ2 H2 S2 => ?_)
  refine lift_run S2.env (l_well2 fun seed x5 h0 h1 σ3 H3 S3 => ?_)
  refine lift_run S3.env (l_well3 hf fun own x5 hl hn σ4 H4 S4 => ?_)
  have E4 := S4.env
  obtain ⟨la, e1, ⟨ys, hys, rys⟩, _⟩ := E4.own 1 (.lst (own.map .int)) rfl
  obtain ⟨v2, e2, r2⟩ := E4.sh 2 (.d (.int seed)) rfl
  cases (show Rep _ H4 v2 (.int seed) from r2)
  have hys2 : ys = own.map V.int := ints_rep rys (asInts_map own)
  subst hys2
  intro p hp
  have nlp : la ≠ p := fun z => by rw [← z, hys] at hp; cases hp
  refine ⟨_, e1, _, e2, upd_same, [(.inr "own", .ref la), (.inr "seed", .int seed), (.inr "turn", .int 0)], rfl, (show 3 ≤ 15 by decide), ?_⟩
  refine hq ⟨p, la⟩ _ ⟨nlp, own, seed, 0, ⟨?_, ?_⟩, hl, hn, h0, h1, Int.le_refl _, Int.le_refl _⟩
  · rw [upd_same]
    rfl
  · rw [upd_ne nlp, upd_ne nlp]
    exact hys
end DL
/-! DEV6: defs of the text: their terms of rules, printed by gen.py. -/
namespace DL
open PySem PySem.Spec PyProof.Rows L2
variable [TheW]
abbrev st_law : Stmt := top 78
abbrev sc_law : Scope := defScope st_law
abbrev N_law : List Str := ["_law_script", "_law_well_here", "_law_turn", "_law_meeting_here", "_law_boats_here", "_law_chart_here", "_law_rows", "_law_mornings", "_law_word", "_law_thing"]
theorem fs_law : FnScope N_law ["_law_script"] sc_law := ⟨rfl, rfl, rfl, by decide +kernel, rfl, by decide +kernel, by decide +kernel⟩
def u_law (p : WelP) : DTS := (dSeq (dFor (iR1 (cCons (dC (.int 2)) cNil)) (dGName 2) (dSeq (dPar 3 4 (cCons (dCall (t__law_meeting p) (cCons (dVar 1) cNil)) (cCons (dCall (t__law_boats p) (cCons (dVar 1) (cCons (dCall (t__law_of p) (cCons (dVar 1) (cCons (dOfF (fLst (cCons (dC (.int 1)) (cCons (dC (.int 2)) (cCons (dC (.int 3)) (cCons (dC (.int 3)) (cCons (dC (.int 4)) (cCons (dC (.int 4)) (cCons (dC (.int 5)) (cCons (dC (.int 5)) cNil)))))))))) cNil))) cNil))) cNil)))
    (dSeq (dAsgO 5 6 (t__law_chart p) (cCons (dVar 1) (cCons (dVar 3) (cCons (dVar 4) (cCons (dC (.int 2)) cNil)))))
    (dSeq (dIf (dTest (dOp gEq (dCall (t__law_take p) (cCons (dVar 1) (cCons (dC (.int 3)) cNil))) (dC (.int 0)))) (dAsg (dIx (dIx (dCall (t__law_chart p) (cCons (dVar 1) (cCons (dVar 3) (cCons (dVar 4) (cCons (dC (.int 2)) cNil))))) (dC (.int 1))) (dC (.int 0))) (dGSub 6 (dC (.int 1)))) dNext)
    (dSeq (dSet 7 (dTup (cCons (dVar 4) (cCons (dCB gTuple (dCons (dVar 6) dNil)) cNil))))
    (dSeq (dAsg (dCallP t_chart_by (cCons (dVar 3) (cCons (dVar 7) (cCons (dC .none) cNil)))) (dGTup 2 (dGCons (dGName 8) (dGCons (dGName 9) dGNil))))
    (dIf (dTest (dOp gEq (dIx (dCallP t_told_by (cCons (dVar 3) (cCons (dIx (dVar 6) (dC (.int 0))) (cCons (dIx (dVar 6) (dC (.int 1))) cNil)))) (dC (.int 0))) (dC (.str "told")))) (dSeq (dIf (dOrT (dTest (dOp gNe (dVar 8) (dC (.str "chart")))) (dOrT (dTest (dOp gNe (dIx (dVar 9) (dC (.int 0))) (dIx (dVar 6) (dC (.int 0))))) (dTest (dOp gNe (dCB gLen (dCons (dIx (dVar 9) (dC (.int 1))) dNil)) (dC (.int 1)))))) (dRet (dC (.bool false))) dNext)
    (dSeq (dIf (dNotT (dTest (dCallP t__law_told_right (cCons (dVar 3) (cCons (dIx (dVar 6) (dC (.int 0))) (cCons (dIx (dVar 6) (dC (.int 1))) (cCons (dIx (dIx (dVar 9) (dC (.int 1))) (dC (.int 0))) cNil))))))) (dRet (dC (.bool false))) dNext)
    (dIf (dNotT (dTest (dCall (t__law_bans_right p) (cCons (dVar 1) (cCons (dVar 3) (cCons (dVar 7) (cCons (dVar 9) cNil))))))) (dRet (dC (.bool false))) dNext))) (dIf (dOrT (dTest (dOp gNe (dVar 8) (dC (.str "wall")))) (dOrT (dTest (dOp gNotIn (dIx (dVar 6) (dC (.int 0))) (dIx (dVar 9) (dC (.int 0))))) (dTest (dOp gNe (dSl (dVar 9) (dPart (dC (.int 1))) dNo) (dTup (cCons (dTup cNil) cNil)))))) (dRet (dC (.bool false))) (dIf (dTest (dOp gNe (dCallP t_days_between (cCons (dVar 3) (cCons (dIx (dVar 6) (dC (.int 0))) (cCons (dIx (dVar 6) (dC (.int 1))) cNil)))) (dC (.int 0)))) (dRet (dC (.bool false))) dNext)))))))))
    (dRet (dC (.bool true))))
theorem d_law {K : PySem.W.Frag} {mg : Str → Option Value} {base : Heap} {f : Addr} {cdv : Value} {A : Around} {outer : List Env} {s : Shared} {H : Hp} {E : XK} {W : Wd} {p : WelP} (hF : W.F = p.F) (hG : W.G = p.G) (M : Mg mg) (Ftold_by : DFn TheW.P TheW.w K mg base 3 "told_by" (spP t_told_by)) (F_law_bans_right : DFn TheW.P TheW.w K mg base 11 "_law_bans_right" (spD p.F p.G (t__law_bans_right p))) (F_law_told_right : DFn TheW.P TheW.w K mg base 6 "_law_told_right" (spP t__law_told_right)) (Fdays_between : DFn TheW.P TheW.w K mg base 4 "days_between" (spP t_days_between)) (Fchart_by : DFn TheW.P TheW.w K mg base 10 "chart_by" (spP t_chart_by)) (F_law_take : DFn TheW.P TheW.w K mg base 1 "_law_take" (spD p.F p.G (t__law_take p))) (F_law_chart : DFn TheW.P TheW.w K mg base 4 "_law_chart" (spD p.F p.G (t__law_chart p))) (F_law_meeting : DFn TheW.P TheW.w K mg base 3 "_law_meeting" (spD p.F p.G (t__law_meeting p))) (F_law_boats : DFn TheW.P TheW.w K mg base 3 "_law_boats" (spD p.F p.G (t__law_boats p))) (F_law_of : DFn TheW.P TheW.w K mg base 2 "_law_of" (spD p.F p.G (t__law_of p))) (hr : Room 11 (cx N_law "law" sc_law K mg base f cdv A outer s H E).A) : DSs (cx N_law "law" sc_law K mg base f cdv A outer s H E) W ((defBody st_law).drop 1) (u_law p) := by
  have nd := fs_law.nd
  exact (dss_cons (ds_for PassesOwn.never rfl (di_range1 rfl M.range (ac_cons de_int ac_nil)) (dg_name (i := 2) nd rfl (Or.inl rfl)) (dss_cons (ds_par (i := 3) (j := 4) rfl nd rfl rfl (by decide) rfl rfl (ac_cons (de_callV hF hG F_law_meeting hr (by decide) rfl (ac_cons (dv 1) ac_nil)) (ac_cons (de_callV hF hG F_law_boats hr (by decide) rfl (ac_cons (dv 1) (ac_cons (de_callV hF hG F_law_of hr (by decide) rfl (ac_cons (dv 1) (ac_cons (de_ofF (df_lst (da_of (ac_cons de_int (ac_cons de_int (ac_cons de_int (ac_cons de_int (ac_cons de_int (ac_cons de_int (ac_cons de_int (ac_cons de_int ac_nil))))))))))) ac_nil))) ac_nil))) ac_nil)) rfl)
    (dss_cons (ds_asgO (i := 5) (j := 6) hF hG (fun _ _ _ _ g => g) rfl nd rfl rfl (Or.inl rfl) (Or.inl rfl) F_law_chart hr (by decide) rfl (ac_cons (dv 1) (ac_cons (dv 3) (ac_cons (dv 4) (ac_cons de_int ac_nil)))))
    (dss_cons (ds_if (dt_cmp (od_eq hr) (de_callV hF hG F_law_take hr (by decide) rfl (ac_cons (dv 1) (ac_cons de_int ac_nil))) de_int (nomark _)) (dss_one (ds_asg (de_ix ⟨rfl, rfl⟩ hr (de_ix ⟨rfl, rfl⟩ hr (de_callV hF hG F_law_chart hr (by decide) rfl (ac_cons (dv 1) (ac_cons (dv 3) (ac_cons (dv 4) (ac_cons de_int ac_nil))))) de_int (fun _ _ => rfl)) de_int (fun _ _ => rfl)) (dg_sub (i := 6) ⟨rfl, rfl⟩ hr de_int))) dss_nil)
    (dss_cons (ds_set (i := 7) nd rfl (Or.inl rfl) (de_tup (da_of (ac_cons (dv 4) (ac_cons (de_callTy cr_tuple rfl M.tuple (by decide +kernel) (da_cons (dv 6) da_nil)) ac_nil)))))
    (dss_cons (ds_asg (de_call Fchart_by hr (by decide) rfl (ac_cons (dv 3) (ac_cons (dv 7) (ac_cons de_non ac_nil)))) (dg_tup rfl (dgs_cons (dg_name (i := 8) nd rfl (Or.inl rfl)) (dgs_cons (dg_name (i := 9) nd rfl (Or.inl rfl)) dgs_nil))))
    (dss_one (ds_if (dt_cmp (od_eq hr) (de_ix ⟨rfl, rfl⟩ hr (de_call Ftold_by hr (by decide) rfl (ac_cons (dv 3) (ac_cons (de_ix ⟨rfl, rfl⟩ hr (dv 6) de_int (fun _ _ => rfl)) (ac_cons (de_ix ⟨rfl, rfl⟩ hr (dv 6) de_int (fun _ _ => rfl)) ac_nil)))) de_int (fun _ _ => rfl)) de_str (nomark _)) (dss_cons (ds_if (dt_w (dw_or (dt_cmp (od_ne hr) (dv 8) de_str (nomark _)) (dw_or (dt_cmp (od_ne hr) (de_ix ⟨rfl, rfl⟩ hr (dv 9) de_int (fun _ _ => rfl)) (de_ix ⟨rfl, rfl⟩ hr (dv 6) de_int (fun _ _ => rfl)) (nomark _)) (dw_or1 (dt_cmp (od_ne hr) (de_callB (cr_len ⟨rfl, rfl⟩) rfl M.len boot_len (da_cons (de_ix ⟨rfl, rfl⟩ hr (dv 9) de_int (fun _ _ => rfl)) da_nil)) de_int (nomark _)))))) (dss_one (ds_ret de_bl)) dss_nil)
    (dss_cons (ds_if (dt_not (dt_val (de_call F_law_told_right hr (by decide) rfl (ac_cons (dv 3) (ac_cons (de_ix ⟨rfl, rfl⟩ hr (dv 6) de_int (fun _ _ => rfl)) (ac_cons (de_ix ⟨rfl, rfl⟩ hr (dv 6) de_int (fun _ _ => rfl)) (ac_cons (de_ix ⟨rfl, rfl⟩ hr (de_ix ⟨rfl, rfl⟩ hr (dv 9) de_int (fun _ _ => rfl)) de_int (fun _ _ => rfl)) ac_nil))))))) (dss_one (ds_ret de_bl)) dss_nil)
    (dss_one (ds_if (dt_not (dt_val (de_callV hF hG F_law_bans_right hr (by decide) rfl (ac_cons (dv 1) (ac_cons (dv 3) (ac_cons (dv 7) (ac_cons (dv 9) ac_nil))))))) (dss_one (ds_ret de_bl)) dss_nil)))) (dss_one (ds_if (dt_w (dw_or (dt_cmp (od_ne hr) (dv 8) de_str (nomark _)) (dw_or (dt_cmp (od_notIn ⟨rfl, rfl⟩ hr) (de_ix ⟨rfl, rfl⟩ hr (dv 6) de_int (fun _ _ => rfl)) (de_ix ⟨rfl, rfl⟩ hr (dv 9) de_int (fun _ _ => rfl)) (by with_unfolding_all rfl)) (dw_or1 (dt_cmp (od_ne hr) (de_slice (dv 9) (do_some de_int) do_none) (de_tup (da_of (ac_cons (de_tup (da_of ac_nil)) ac_nil))) (nomark _)))))) (dss_one (ds_ret de_bl)) (dss_one (ds_if (dt_cmp (od_ne hr) (de_call Fdays_between hr (by decide) rfl (ac_cons (dv 3) (ac_cons (de_ix ⟨rfl, rfl⟩ hr (dv 6) de_int (fun _ _ => rfl)) (ac_cons (de_ix ⟨rfl, rfl⟩ hr (dv 6) de_int (fun _ _ => rfl)) ac_nil)))) de_int (nomark _)) (dss_one (ds_ret de_bl)) dss_nil))))))))))))
    (dss_one (ds_ret de_bl)))

end DL
set_option maxHeartbeats 4000000
/-! L32: two mornings of the law, names told anew by the places of the first one. -/
namespace DL
open PySem PySem.Spec PyProof.Rows L2
variable [TheW]
section
variable {nm : Nat → Str} {m size reach : Nat} {l0 l1 : List Nat}
def reN (nm : Nat → Str) (l0 : List Nat) : Nat → Str := fun i => nm (l0.getD i 0)
theorem reN_ix {x : Nat} (hx : x ∈ l0) : reN nm l0 (l0.idxOf x) = nm x := by
  unfold reN
  have h1 : l0.idxOf x < l0.length := List.idxOf_lt_length_of_mem hx
  rw [List.getD_eq_getElem?_getD, List.getElem?_eq_getElem h1, List.getElem_idxOf]
  rfl
theorem reN_l0 (h : l0.length = m) : tN nm l0 = tN (reN nm l0) (List.range m) := by
  subst h
  unfold tN
  congr 1
  exact (range_getD (sB nm) l0).symm
theorem reN_tN {l : List Nat} (h : ∀ x ∈ l, x ∈ l0) : tN nm l = tN (reN nm l0) (l.map l0.idxOf) := by
  unfold tN
  congr 1
  rw [List.map_map]
  refine List.map_congr_left fun x hx => ?_
  show sB nm x = .str (reN nm l0 (l0.idxOf x))
  rw [reN_ix (h x hx)]
  rfl
theorem idx_self : ∀ {l : List Nat}, l.Nodup → l.map l.idxOf = List.range l.length := by
  intro l h
  refine List.ext_getElem (by simp) fun i h1 h2 => ?_
  simp at h1
  rw [List.getElem_map, List.getElem_range, List.Nodup.idxOf_getElem h]
theorem idx_perm {l : List Nat} (h0 : l0.Nodup) (hm : l0.length = m) (p : l.Perm l0) : (l.map l0.idxOf).Perm (List.range m) := by
  have := p.map l0.idxOf
  rw [idx_self h0, hm] at this
  exact this
theorem two_of (hn : Nm nm m) (h1 : 1 ≤ m) (hs : size ∈ [1, 2, 3, 4, 5, 8]) (hr : reach ∈ [0, 1, 2, 3, 7]) (srt : srtS nm (List.range m) = List.range m) (p0 : l0.Perm (List.range m)) (p1 : l1.Perm (List.range m)) :
    Two (reN nm l0) m size reach ((List.range m).map l0.idxOf) (l1.map l0.idxOf) := by
  have hl : l0.length = m := by rw [p0.length_eq, List.length_range]
  have hd : l0.Nodup := p0.nodup_iff.mpr List.nodup_range
  have hlt : ∀ i, i < m → l0.getD i 0 < m := fun i hi => by
    have h1 : i < l0.length := by omega
    have : l0.getD i 0 ∈ l0 := by rw [List.getD_eq_getElem?_getD, List.getElem?_eq_getElem h1]; exact List.getElem_mem _
    exact List.mem_range.mp (p0.mem_iff.mp this)
  have hnm : Nm (reN nm l0) m := by
    refine ⟨fun i j hi hj h => ?_, fun i => hn.ok _, fun i hi => hn.len _ (hlt i hi), fun i hi => hn.low _ (hlt i hi), hn.le⟩
    have e := hn.inj _ _ (hlt i hi) (hlt j hj) h
    rw [List.getD_eq_getElem?_getD, List.getD_eq_getElem?_getD, List.getElem?_eq_getElem (by omega), List.getElem?_eq_getElem (by omega)] at e
    exact (List.getElem_inj hd).mp e
  have pb : ((List.range m).map l0.idxOf).Perm (List.range m) := idx_perm hd hl p0.symm
  refine ⟨hnm, h1, hs, hr, pb, ?_, idx_perm hd hl (p1.trans p0.symm)⟩
  refine srt_uniq (f := sB (reN nm l0)) (fun a ha b hb ne => ?_) (srt_pw (sB (reN nm l0)) _) ?_ ((List.mergeSort_perm _ _).trans pb.symm)
  · have ha' := List.mem_range.mp ((List.mergeSort_perm _ _).mem_iff.mp ha)
    have hb' := List.mem_range.mp ((List.mergeSort_perm _ _).mem_iff.mp hb)
    exact sB_apart hnm ha' hb' ne
  · rw [List.pairwise_map]
    have hp : (List.range m).Pairwise fun a b => LeF (sB nm) a b = true := by
      have := srt_pw (sB nm) (List.range m)
      rw [show (List.range m).mergeSort (LeF (sB nm)) = List.range m from srt] at this
      exact this
    refine List.Pairwise.imp_of_mem ?_ hp
    intro a b ha hb hab
    have ea : sB (reN nm l0) (l0.idxOf a) = sB nm a := congrArg PyData.str (reN_ix (p0.mem_iff.mpr ha))
    have eb : sB (reN nm l0) (l0.idxOf b) = sB nm b := congrArg PyData.str (reN_ix (p0.mem_iff.mpr hb))
    show PySem.W.dataLe false id (sB (reN nm l0) (l0.idxOf a)) (sB (reN nm l0) (l0.idxOf b)) = true
    rw [ea, eb]
    exact hab
end
end DL
set_option maxHeartbeats 4000000
/-! L33: a turn of the law, from the two mornings on. -/
namespace DL
open PySem PySem.Spec PyProof.Rows L2
variable [TheW]
abbrev u_rest (p : WelP) : DTS := (dSeq (dSet 7 (dTup (cCons (dVar 4) (cCons (dCB gTuple (dCons (dVar 6) dNil)) cNil))))
    (dSeq (dAsg (dCallP t_chart_by (cCons (dVar 3) (cCons (dVar 7) (cCons (dC .none) cNil)))) (dGTup 2 (dGCons (dGName 8) (dGCons (dGName 9) dGNil))))
    (dIf (dTest (dOp gEq (dIx (dCallP t_told_by (cCons (dVar 3) (cCons (dIx (dVar 6) (dC (.int 0))) (cCons (dIx (dVar 6) (dC (.int 1))) cNil)))) (dC (.int 0))) (dC (.str "told")))) (dSeq (dIf (dOrT (dTest (dOp gNe (dVar 8) (dC (.str "chart")))) (dOrT (dTest (dOp gNe (dIx (dVar 9) (dC (.int 0))) (dIx (dVar 6) (dC (.int 0))))) (dTest (dOp gNe (dCB gLen (dCons (dIx (dVar 9) (dC (.int 1))) dNil)) (dC (.int 1)))))) (dRet (dC (.bool false))) dNext)
    (dSeq (dIf (dNotT (dTest (dCallP t__law_told_right (cCons (dVar 3) (cCons (dIx (dVar 6) (dC (.int 0))) (cCons (dIx (dVar 6) (dC (.int 1))) (cCons (dIx (dIx (dVar 9) (dC (.int 1))) (dC (.int 0))) cNil))))))) (dRet (dC (.bool false))) dNext)
    (dIf (dNotT (dTest (dCall (t__law_bans_right p) (cCons (dVar 1) (cCons (dVar 3) (cCons (dVar 7) (cCons (dVar 9) cNil))))))) (dRet (dC (.bool false))) dNext))) (dIf (dOrT (dTest (dOp gNe (dVar 8) (dC (.str "wall")))) (dOrT (dTest (dOp gNotIn (dIx (dVar 6) (dC (.int 0))) (dIx (dVar 9) (dC (.int 0))))) (dTest (dOp gNe (dSl (dVar 9) (dPart (dC (.int 1))) dNo) (dTup (cCons (dTup cNil) cNil)))))) (dRet (dC (.bool false))) (dIf (dTest (dOp gNe (dCallP t_days_between (cCons (dVar 3) (cCons (dIx (dVar 6) (dC (.int 0))) (cCons (dIx (dVar 6) (dC (.int 1))) cNil)))) (dC (.int 0)))) (dRet (dC (.bool false))) dNext)))))
theorem l_rest {p : WelP} {nm : Nat → Str} {n size reach : Nat} {bs t1 : List Nat} (h : Two nm n size reach bs t1) {D : DEnds} {c : Nat} {x0 x2 x5 x7 x8 x9 : Option DS} (hc : c + 5 ≤ 1000000) (y4 y0 y1 : PyData) (e4 : y4 = tN nm bs) (e0 : y0 = tN nm (List.range n)) (e1 : y1 = tN nm t1)
    (q : ∀ x7 x8 x9 c', c' ≤ c + 5 → D.nx ⟨[x0, some (.sh p.self), x2, some (.sh (.d (Mt size reach))), some (.sh (.d y4)), x5, some (.own (.lst [y0, y1])), x7, x8, x9], c'⟩) :
    u_rest p D ⟨[x0, some (.sh p.self), x2, some (.sh (.d (Mt size reach))), some (.sh (.d y4)), x5, some (.own (.lst [y0, y1])), x7, x8, x9], c⟩ := by
  subst e4 e0 e1
  have hn := h.hnm
  obtain ⟨_, hm, hl, ho, hone, hlne, hll, hok⟩ := h.tpre
  have hmor : MorP nm n size reach bs (List.range n) t1 .no true := h.mor .no trivial
  refine ⟨by simp, ?_⟩
  cases hT : Told size reach (List.range n) t1 with
  | none =>
    refine ⟨nm, n, size, reach, bs, List.range n, t1, .no, true, hmor, rfl, .inl ⟨h.none_come hT .no true, ?_⟩⟩
    refine ⟨rfl, rfl, ?_⟩
    refine ⟨_, rfl, _, rfl, nm, n, size, reach, List.range n, t1, hn, hm, hl, ho, hone, hlne, hll, hok, rfl, fun rs hrs => (by rw [hT] at hrs; cases hrs), fun _ y z => ?_⟩
    refine ⟨_, rfl, okD_str, okD_str, ifF (by decide +kernel) ?_⟩
    refine ⟨okD_str, okD_str, ifF (by simp [PyData.eqv]) ?_⟩
    refine ⟨_, rfl, _, rfl, okD_tN, (show [tN nm (List.range n)].all (okD 8) = true by rw [List.all_cons, okD_tN]; rfl), ifF ?_ ?_⟩
    · show (true ^^ ([tN nm (List.range n)].any fun z => PyData.eqv z (tN nm (List.range n)))) = false
      rw [List.any_cons, hn.eqT (range_lt n) (range_lt n)]
      simp
    have ec : cutL [PyData.tuple [tN nm (List.range n)], PyData.tuple []] (some ((1 : Nat) : Int)) none = [PyData.tuple []] := cut_i _ 1
    refine ⟨by simp, by simp, ?_⟩
    refine ⟨?_, rfl, ifF ?_ ?_⟩
    · show okD 8 (.tuple (cutL [PyData.tuple [tN nm (List.range n)], PyData.tuple []] (some ((1 : Nat) : Int)) none)) = true
      rw [ec]; rfl
    · show (!PyData.eqv (.tuple (cutL [PyData.tuple [tN nm (List.range n)], PyData.tuple []] (some ((1 : Nat) : Int)) none)) (.tuple [.tuple []])) = false
      rw [ec]
      simp [PyData.eqv, PyData.eqvAll]
    refine ⟨_, rfl, _, rfl, nm, n, size, reach, List.range n, t1, hn, hm, hl, ho, hone, hlne, hll, hok, rfl, fun rs hrs => (by rw [hT] at hrs; cases hrs), fun _ => ?_⟩
    exact ⟨okD_int, okD_int, ifF (by simp [PyData.eqv]) (q _ _ _ c (by omega))⟩
  | some rs =>
    obtain ⟨T, _⟩ := h.some_facts hT
    have hcome : iComeR true (iGoneP size reach (List.range n)) t1 .no = [t1] := by
      rw [lacks_come h hT .no]; rfl
    refine ⟨nm, n, size, reach, bs, List.range n, t1, .no, true, hmor, rfl, .inr ⟨rs, hcome, h.tpre, hT, T.rso, ?_⟩⟩
    refine ⟨rfl, rfl, ?_⟩
    refine ⟨_, rfl, _, rfl, nm, n, size, reach, List.range n, t1, hn, hm, hl, ho, hone, hlne, hll, hok, rfl, fun rs' hrs => ?_, fun hno => (by rw [hT] at hno; cases hno)⟩
    refine ⟨_, rfl, okD_str, okD_str, ifT (by decide +kernel) ?_⟩
    refine ⟨okD_str, okD_str, ifF (by simp [PyData.eqv]) ?_⟩
    refine ⟨_, rfl, _, rfl, okD_tN, okD_tN, ifF (by rw [hn.eqT (range_lt n) (range_lt n)]; simp) ?_⟩
    refine ⟨_, rfl, okD_int, okD_int, ifF (by simp [PyData.eqv]) ?_⟩
    refine ⟨_, rfl, _, rfl, _, rfl, _, rfl, nm, n, size, reach, List.range n, t1, rs, T, rfl, ifF rfl ?_⟩
    refine ⟨nm, n, size, reach, bs, t1, rs, h, hT, (by show c + 5 ≤ _; omega), rfl, fun c' hc' => ifF rfl (q _ _ _ c' hc')⟩
end DL
set_option maxHeartbeats 4000000
/-! L34: the law's two turns. -/
namespace DL
open PySem PySem.Spec PyProof.Rows L2
variable [TheW]
theorem noLs_map {α : Type} (f : α → PyData) (h : ∀ a, noL (f a) = true) : ∀ l : List α, noLs (l.map f) = true
  | [] => rfl
  | a :: t => by rw [List.map_cons, noLs, h, noLs_map f h t]; rfl
theorem noL_tN (nm : Nat → Str) (l : List Nat) : noL (tN nm l) = true := by
  unfold tN
  rw [noL]
  exact noLs_map _ (fun _ => by unfold sB; rw [noL] <;> (intros; simp_all)) l
theorem noL_ev (nm : Nat → Str) (e : Ev) : noL (evD nm e) = true := by
  cases e <;> simp [evD, noL, noLs, sB]
theorem noL_day (nm : Nat → Str) (d : List (List Ev)) : noL (dayD nm d) = true := by
  unfold dayD
  rw [noL]
  refine noLs_map _ (fun e => ?_) d
  unfold shD
  rw [noL]
  exact noLs_map _ (noL_ev nm) e
theorem noL_Mt (size reach : Nat) : noL (Mt size reach) = true := by simp [Mt, noL, noLs]
theorem sizes_in {size : Nat} (h : size ∈ sizesL) : size ∈ [1, 2, 3, 4, 5, 8] := by
  simp [sizesL] at h ⊢
  omega
theorem reach_in {r : Nat} (h : r ∈ reachL) : r ∈ [0, 1, 2, 3, 7] := by
  simp [reachL] at h ⊢
  omega
theorem l_law {p : WelP} {D : DEnds} {x0 : Option DS} (q : ∀ s, D.rt (.d (.bool true)) s) : u_law p D ⟨[x0, some (.sh p.self), none, none, none, none, none, none, none, none], 0⟩ := by
  refine ⟨⟨by decide, by decide⟩, ?_⟩
  refine dLoop_list (fun k : Nat => .d (.int (0 + (k : Nat)))) (List.range 2) (fun done s => ∃ (x2 x3 x4 x5 x6 x7 x8 x9 : Option DS) (c1 : Nat), s = ⟨[x0, some (.sh p.self), x2, x3, x4, x5, x6, x7, x8, x9], c1⟩ ∧ c1 ≤ 400 * done.length) ?_ ?_ _ ⟨none, none, none, none, none, none, none, none, 0, rfl, by simp⟩
  · rintro done k rest s R e ⟨x2, x3, x4, x5, x6, x7, x8, x9, c1, rfl, hc1⟩ hR
    have hlen := congrArg List.length e
    rw [List.length_range, List.length_append, List.length_cons] at hlen
    refine ⟨(by show c1 + 2 ≤ _; omega), rfl, fun size hs reach hr c2 hc2 => ?_⟩
    have hc2 : c2 ≤ c1 + 2 := hc2
    have hmt : MtOk size reach := by
      have h1 := sizes_in hs
      have h2 := reach_in hr
      simp at h1 h2
      exact ⟨by omega, by omega, by omega⟩
    refine ⟨by simp, _, [.int 1, .int 2, .int 3, .int 3, .int 4, .int 4, .int 5, .int 5], .inl rfl, by simp, by simp, (by show c2 < _; omega), rfl, fun d hd c3 hc3 => ?_⟩
    have hc3 : c3 ≤ c2 + 1 := hc3
    obtain ⟨m, h1, h5, rfl⟩ : ∃ m : Nat, 1 ≤ m ∧ m ≤ 5 ∧ d = .int (m : Nat) := by
      simp at hd
      rcases hd with h | h | h | h | h <;> subst h
      · exact ⟨1, by decide, by decide, rfl⟩
      · exact ⟨2, by decide, by decide, rfl⟩
      · exact ⟨3, by decide, by decide, rfl⟩
      · exact ⟨4, by decide, by decide, rfl⟩
      · exact ⟨5, by decide, by decide, rfl⟩
    refine ⟨m, h1, h5, (by show c3 + 100 ≤ _; omega), rfl, fun nm c4 hn hsrt hc4 => ?_⟩
    have hc4 : c4 ≤ c3 + 100 := hc4
    have hrl : (List.range m).length = m := List.length_range
    have fin : ∀ (D : DEnds) (l0 l1 : List Nat) (c5 : Nat) (x5 x7 x8 x9 : Option DS), D.nx = R → l0.Perm (List.range m) → l1.Perm (List.range m) → c5 ≤ c1 + 390 →
        u_rest p D ⟨[x0, some (.sh p.self), some (.sh (.d (.int (0 + (k : Nat))))), some (.sh (.d (Mt size reach))), some (.sh (.d (tN nm (List.range m)))), x5, some (.own (.lst [tN nm l0, tN nm l1])), x7, x8, x9], c5⟩ := fun D l0 l1 c5 x5 x7 x8 x9 hD p0 p1 h => by
      have T := two_of (size := size) (reach := reach) hn h1 (sizes_in hs) (reach_in hr) hsrt p0 p1
      have hl0 : l0.length = m := by rw [p0.length_eq, hrl]
      refine l_rest T (by omega) _ _ _ (reN_tN fun x hx => p0.mem_iff.mpr hx) (reN_l0 hl0) (reN_tN fun x hx => p0.mem_iff.mpr (p1.mem_iff.mp hx)) fun x7 x8 x9 c' hc' => ?_
      rw [hD]
      exact hR _ ⟨_, _, _, _, _, _, _, _, c', rfl, by simp; omega⟩
    refine ⟨?_, ?_⟩
    · show (noL (Mt size reach) && (noL (tN nm (List.range m)) && true)) = true
      rw [noL_Mt, noL_tN]; rfl
    refine ⟨nm, m, List.range m, size, reach, hn, hmt, range_lt m, range_nd m, by omega, by omega, (by show c4 + 60 ≤ _; omega), rfl, fun day l0 l1 c5 p0 p1 hc5 => ?_⟩
    have hc5 : c5 ≤ c4 + 60 := hc5
    refine ⟨.tuple [tN nm l0, .tuple [dayD nm day]], [tN nm l0, tN nm l1], rfl, ?_, ?_, ?_⟩
    · simp [noL, noLs, noL_tN, noL_day]
    · simp [noLs, noL_tN]
    refine ⟨3, by decide, by decide, (by show c5 < _; omega), rfl, fun d c6 hd hc6 => ⟨okD_int, okD_int, ?_⟩⟩
    have hc6 : c6 ≤ c5 + 1 := hc6
    refine ifB (fun _ => ?_) (fun _ => fin _ l0 l1 c6 _ _ _ _ rfl p0 p1 (by omega))
    refine ⟨nm, m, List.range m, size, reach, hn, hmt, range_lt m, range_nd m, by omega, by omega, (by show c6 + 60 ≤ _; omega), rfl, fun day2 l0' l1' c7 p0' p1' hc7 => ?_⟩
    have hc7 : c7 ≤ c6 + 60 := hc7
    refine ⟨_, rfl, _, rfl, ⟨_, rfl⟩, 1, rfl, ?_⟩
    exact fin _ l0 l0' c7 _ _ _ _ rfl p0 p0' (by omega)
  · rintro s ⟨x2, x3, x4, x5, x6, x7, x8, x9, c1, rfl, hc1⟩
    exact q _
end DL
set_option maxHeartbeats 4000000
/-! LV7: the law. -/
namespace DL
open PySem PySem.Spec PyProof.Rows L2
variable [TheW]
def WW (p : WelP) : Wd := ⟨p.F, p.F, p.G, fun _ z => z, p.stab⟩
def spLaw (K : PySem.W.Frag) : Sp := fun vs H Q _ => ∃ (a : Addr) (ns : List Int), vs = [.ref a] ∧ SqL K H a (ns.map V.int) ∧ ∀ H', Q (.bl true) H'
theorem fn_law {K : PySem.W.Frag} {mg : Str → Option Value} {base : Heap} {params : Arguments} {f : Addr} {fd : FuncData} (M : Mg mg) (Fwell : DFn TheW.P TheW.w K mg base 1 "_law_well" (spWell K)) (Ftold_by : DFn TheW.P TheW.w K mg base 3 "told_by" (spP t_told_by)) (F_law_bans_right : ∀ p : WelP, DFn TheW.P TheW.w K mg base 11 "_law_bans_right" (spD p.F p.G (t__law_bans_right p))) (F_law_told_right : DFn TheW.P TheW.w K mg base 6 "_law_told_right" (spP t__law_told_right)) (Fdays_between : DFn TheW.P TheW.w K mg base 4 "days_between" (spP t_days_between)) (Fchart_by : DFn TheW.P TheW.w K mg base 10 "chart_by" (spP t_chart_by)) (F_law_take : ∀ p : WelP, DFn TheW.P TheW.w K mg base 1 "_law_take" (spD p.F p.G (t__law_take p))) (F_law_chart : ∀ p : WelP, DFn TheW.P TheW.w K mg base 4 "_law_chart" (spD p.F p.G (t__law_chart p))) (F_law_meeting : ∀ p : WelP, DFn TheW.P TheW.w K mg base 3 "_law_meeting" (spD p.F p.G (t__law_meeting p))) (F_law_boats : ∀ p : WelP, DFn TheW.P TheW.w K mg base 3 "_law_boats" (spD p.F p.G (t__law_boats p))) (F_law_of : ∀ p : WelP, DFn TheW.P TheW.w K mg base 2 "_law_of" (spD p.F p.G (t__law_of p)))
    (D : FunD K "law" "law" params (defBody st_law) sc_law [] [] f fd) : FnOk TheW.P TheW.w K mg base CX0 12 f fd ["_law_script"] (spLaw K) := by
  refine D.ok fs_law (fun vs H Q E ⟨a, ns, e, _⟩ => by rw [e]; rfl) fun cdv A outer s H vs Q E hr h => ?_
  have nd := fs_law.nd
  let X := cx N_law "law" sc_law K mg base f cdv A outer s H E
  have hr : Room 11 X.A := hr
  obtain ⟨a, ns, rfl, hsq, hq⟩ := h
  have B0 : PS X ((defBody st_law).getD 0 (.Pass ⟨0, 0, 0, 0⟩)) _ := ps_set (i := 1) nd rfl (Or.inl rfl) (pe_def Fwell hr (by decide) rfl (pa_cons (pe_var (i := 0) rfl (Or.inl rfl)) pa_nil))
  have B1 : PSs X ((defBody st_law).drop 1) _ := pss_ex fun p : WelP => d_law (W := WW p) (p := p) rfl rfl M Ftold_by (F_law_bans_right p) F_law_told_right Fdays_between Fchart_by (F_law_take p) (F_law_chart p) (F_law_meeting p) (F_law_boats p) (F_law_of p) hr
  refine ⟨_, PSs.nox (st := defBody st_law) (pss_cons B0 B1), ?_⟩
  refine ⟨_, rfl, a, ns, rfl, hsq, fun p H' g => ?_⟩
  refine ⟨p, ⟨[none, some (.sh p.self), none, none, none, none, none, none, none, none], 0⟩, { nx := fun _ => False, rt := fun x _ => x = .d (.bool true) }, ?_, l_law fun _ => rfl, fun _ _ _ _ z => z.elim, fun v σ' H2 x s' _ r e => ?_, fun _ _ _ _ z => z.elim, fun _ _ _ _ z => z.elim⟩
  · refine ⟨rfl, fun i x h => ?_, fun i o h => ?_, fun i j o u b h1 => ?_, fun b z => ?_, g⟩
    · rcases i with _ | _ | i
      · cases h
      · cases h
        exact ⟨_, rfl, rfl⟩
      · have := List.mem_of_getElem? (show ([none, none, none, none, none, none, none, none] : List (Option DS))[i]? = some (some (.sh x)) from h)
        simp at this
    · have := List.mem_of_getElem? h
      simp at this
    · have := List.mem_of_getElem? h1
      simp at this
    · obtain ⟨_, ns', seed, turn, ⟨g1, g2⟩, _⟩ := g
      rcases z with z | z
      · rw [z, g1]; trivial
      · rw [z, g2]; trivial
  · subst e
    cases (show Rep _ H2 v (.bool true) from r)
    exact hq H2
end DL
set_option maxHeartbeats 4000000
/-! HDb: every def keeps its promise, from the head's facts; printed by mkhdb.py. -/
namespace DL
open PySem PySem.Spec PyProof.Rows L2
theorem fn_no [TheW] {K : PySem.W.Frag} {mg : Str → Option Value} {base : Heap} {k : Nat} {f : Addr} {fd : FuncData} {ps : List Str} {F : Zs} {G : Nat → Zs → Hp → Prop} {T : DFT} (no : ∀ xs c K, ¬ T xs c K) : FnOk TheW.P TheW.w K mg base CX0 k f fd ps (spD F G T) :=
  ⟨fun _ _ _ _ ⟨_, xs, c, K, _, _, _, _, t, _⟩ => absurd t (no xs c K), fun _ _ _ _ _ _ _ _ _ _ _ _ _ ⟨_, xs, c, K, _, _, _, _, t, _⟩ => absurd t (no xs c K)⟩
theorem fn_ex [TheW] {K : PySem.W.Frag} {mg : Str → Option Value} {base : Heap} {k : Nat} {f C : Addr} {fd : FuncData} {ps : List Str} {T : WayP → DFT} (F : ∀ p : WayP, p.C = C → FnOk TheW.P TheW.w K mg base CX0 k f fd ps (spD p.F p.G (T p))) :
    FnOk TheW.P TheW.w K mg base CX0 k f fd ps (fun vs H Q E => ∃ p : WayP, p.C = C ∧ spD p.F p.G (T p) vs H Q E) :=
  ⟨fun vs H Q E ⟨p, hp, h⟩ => (F p hp).len vs H Q E h, fun A outer s H args us vs Q E hr he hb hv ⟨p, hp, h⟩ => (F p hp).run A outer s H args us vs Q E hr he hb hv h⟩
section
variable [TheW] {K : PySem.W.Frag} {mg : Str → Option Value} {base h : Heap} (X : K.In h) (G : h.Ns mainGlobals mg) (c : He.SaysD faH fnH K)
include X G c

theorem mg_ok : Mg mg where
  len := He.free_ok X G (c.fact 69 (f := .free "len") rfl)
  isinstance := He.free_ok X G (c.fact 70 (f := .free "isinstance") rfl)
  all := He.free_ok X G (c.fact 71 (f := .free "all") rfl)
  any := He.free_ok X G (c.fact 72 (f := .free "any") rfl)
  min := He.free_ok X G (c.fact 73 (f := .free "min") rfl)
  max := He.free_ok X G (c.fact 74 (f := .free "max") rfl)
  sum := He.free_ok X G (c.fact 75 (f := .free "sum") rfl)
  tuple := He.free_ok X G (c.fact 76 (f := .free "tuple") rfl)
  list := He.free_ok X G (c.fact 77 (f := .free "list") rfl)
  sorted := He.free_ok X G (c.fact 78 (f := .free "sorted") rfl)
  set := He.free_ok X G (c.fact 79 (f := .free "set") rfl)
  str := He.free_ok X G (c.fact 80 (f := .free "str") rfl)
  range := He.free_ok X G (c.fact 81 (f := .free "range") rfl)
  reversed := He.free_ok X G (c.fact 82 (f := .free "reversed") rfl)
  enumerate := He.free_ok X G (c.fact 83 (f := .free "enumerate") rfl)
  zip := He.free_ok X G (c.fact 84 (f := .free "zip") rfl)
  dict := He.free_ok X G (c.fact 85 (f := .free "dict") rfl)
  abs := He.free_ok X G (c.fact 86 (f := .free "abs") rfl)
  MOST_SIGNS := He.int_ok X G (c.fact 87 (f := .int "MOST_SIGNS" 8) rfl)
  MOST_BOATS := He.int_ok X G (c.fact 88 (f := .int "MOST_BOATS" 24) rfl)
  BOAT_SIGNS := He.str_ok X G (c.fact 89 (f := .str "BOAT_SIGNS" "abcdefghijklmnopqrstuvwxyz") rfl)
theorem way_ok : WayC K (He.ga K "Ways") (He.ma K (He.ga K "Ways") "gone_through") (He.ma K (He.ga K "Ways") "nexts") := ⟨He.cls_ok (c.fact 90 (f := .cls "Ways") rfl), He.noat_ok (c.fact 91 (f := .noat "Ways" "arcs") rfl), He.noat_ok (c.fact 92 (f := .noat "Ways" "known") rfl), He.meth_ok (c.fact 93 (f := .meth "Ways" "gone_through") rfl), He.meth_ok (c.fact 94 (f := .meth "Ways" "nexts") rfl)⟩
theorem way_c (p : WayP) (hC : p.C = (He.ga K "Ways")) : WayC K p.C (He.ma K (He.ga K "Ways") "gone_through") (He.ma K (He.ga K "Ways") "nexts") := by
  rw [hC]; exact way_ok X G c
theorem f_races_of : DFn TheW.P TheW.w K mg base 1 "races_of" (spP t_races_of) := by
  obtain ⟨fd, D⟩ := c.def_ 3 (d := dd_races_of) rfl
  exact ⟨_, fd, ["meeting", "n"], fn_dataP D fs_races_of (by
    intro xs c K h
    repeat (obtain ⟨_, h⟩ := h)
    subst_vars
    rfl) (fun cdv A outer s H E W hr => d_races_of (mg_ok X G c)  hr) l_races_of, (He.glo_ok X G (c.fact 3 (f := .glo "races_of") rfl)), D.kp, (D.bindsN fun _ _ _ _ _ _ us hl => match us, hl with | [_, _], _ => rfl)⟩
theorem f_races_going : DFn TheW.P TheW.w K mg base 2 "races_going" (spP t_races_going) := by
  obtain ⟨fd, D⟩ := c.def_ 21 (d := dd_races_going) rfl
  exact ⟨_, fd, ["meeting", "row"], fn_dataP D fs_races_going (by
    intro xs c K h
    repeat (obtain ⟨_, h⟩ := h)
    subst_vars
    rfl) (fun cdv A outer s H E W hr => d_races_going (mg_ok X G c) (f_races_of X G c) hr) l_races_going, (He.glo_ok X G (c.fact 21 (f := .glo "races_going") rfl)), D.kp, (D.bindsN fun _ _ _ _ _ _ us hl => match us, hl with | [_, _], _ => rfl)⟩
theorem f_span : DFn TheW.P TheW.w K mg base 1 "span" (spP t_span) := by
  obtain ⟨fd, D⟩ := c.def_ 4 (d := dd_span) rfl
  exact ⟨_, fd, ["meeting", "n", "k"], fn_dataP D fs_span (by
    intro xs c K h
    repeat (obtain ⟨_, h⟩ := h)
    subst_vars
    rfl) (fun cdv A outer s H E W hr => d_span (mg_ok X G c)  hr) l_span, (He.glo_ok X G (c.fact 4 (f := .glo "span") rfl)), D.kp, (D.bindsN fun _ _ _ _ _ _ us hl => match us, hl with | [_, _, _], _ => rfl)⟩
theorem f_laid_on : DFn TheW.P TheW.w K mg base 2 "laid_on" (spP t_laid_on) := by
  obtain ⟨fd, D⟩ := c.def_ 20 (d := dd_laid_on) rfl
  exact ⟨_, fd, ["meeting", "row", "k", "some"], fn_dataP D fs_laid_on (by
    intro xs c K h
    repeat (obtain ⟨_, h⟩ := h)
    subst_vars
    rfl) (fun cdv A outer s H E W hr => d_laid_on (mg_ok X G c) (f_span X G c) hr) l_laid_on, (He.glo_ok X G (c.fact 20 (f := .glo "laid_on") rfl)), D.kp, (D.bindsN fun _ _ _ _ _ _ us hl => match us, hl with | [_, _, _, _], _ => rfl)⟩
theorem f_touch_at : DFn TheW.P TheW.w K mg base 1 "touch_at" (spP t_touch_at) := by
  obtain ⟨fd, D⟩ := c.def_ 27 (d := dd_touch_at) rfl
  exact ⟨_, fd, ["start", "pair"], fn_dataP D fs_touch_at (by
    intro xs c K h
    repeat (obtain ⟨_, h⟩ := h)
    subst_vars
    rfl) (fun cdv A outer s H E W hr => d_touch_at (mg_ok X G c)  hr) l_touch_at, (He.glo_ok X G (c.fact 27 (f := .glo "touch_at") rfl)), D.kp, (D.bindsN fun _ _ _ _ _ _ us hl => match us, hl with | [_, _], _ => rfl)⟩
theorem f_pairs_of : DFn TheW.P TheW.w K mg base 1 "pairs_of" (spP t_pairs_of) := by
  obtain ⟨fd, D⟩ := c.def_ 26 (d := dd_pairs_of) rfl
  exact ⟨_, fd, ["start", "goal"], fn_dataP D fs_pairs_of (by
    intro xs c K h
    repeat (obtain ⟨_, h⟩ := h)
    subst_vars
    rfl) (fun cdv A outer s H E W hr => d_pairs_of (mg_ok X G c)  hr) l_pairs_of, (He.glo_ok X G (c.fact 26 (f := .glo "pairs_of") rfl)), D.kp, (D.bindsN fun _ _ _ _ _ _ us hl => match us, hl with | [_, _], _ => rfl)⟩
theorem f_told_race : DFn TheW.P TheW.w K mg base 2 "told_race" (spP t_told_race) := by
  obtain ⟨fd, D⟩ := c.def_ 30 (d := dd_told_race) rfl
  exact ⟨_, fd, ["start", "goal"], fn_dataP D fs_told_race (by
    intro xs c K h
    repeat (obtain ⟨_, h⟩ := h)
    subst_vars
    rfl) (fun cdv A outer s H E W hr => d_told_race (mg_ok X G c) (f_touch_at X G c) (f_pairs_of X G c) hr) l_told_race, (He.glo_ok X G (c.fact 30 (f := .glo "told_race") rfl)), D.kp, (D.bindsN fun _ _ _ _ _ _ us hl => match us, hl with | [_, _], _ => rfl)⟩
theorem f_cross : DFn TheW.P TheW.w K mg base 1 "cross" (spP t_cross) := by
  obtain ⟨fd, D⟩ := c.def_ 28 (d := dd_cross) rfl
  exact ⟨_, fd, ["one", "other"], fn_dataP D fs_cross (by
    intro xs c K h
    repeat (obtain ⟨_, h⟩ := h)
    subst_vars
    rfl) (fun cdv A outer s H E W hr => d_cross (mg_ok X G c)  hr) l_cross, (He.glo_ok X G (c.fact 28 (f := .glo "cross") rfl)), D.kp, (D.bindsN fun _ _ _ _ _ _ us hl => match us, hl with | [_, _], _ => rfl)⟩
theorem f_unrounded : DFn TheW.P TheW.w K mg base 1 "unrounded" (spP t_unrounded) := by
  obtain ⟨fd, D⟩ := c.def_ 25 (d := dd_unrounded) rfl
  exact ⟨_, fd, ["start", "goal"], fn_dataP D fs_unrounded (by
    intro xs c K h
    repeat (obtain ⟨_, h⟩ := h)
    subst_vars
    rfl) (fun cdv A outer s H E W hr => d_unrounded (mg_ok X G c)  hr) l_unrounded, (He.glo_ok X G (c.fact 25 (f := .glo "unrounded") rfl)), D.kp, (D.bindsN fun _ _ _ _ _ _ us hl => match us, hl with | [_, _], _ => rfl)⟩
theorem f_goal_fault : DFn TheW.P TheW.w K mg base 2 "goal_fault" (spP t_goal_fault) := by
  obtain ⟨fd, D⟩ := c.def_ 29 (d := dd_goal_fault) rfl
  exact ⟨_, fd, ["start", "goal", "reach"], fn_dataP D fs_goal_fault (by
    intro xs c K h
    repeat (obtain ⟨_, h⟩ := h)
    subst_vars
    rfl) (fun cdv A outer s H E W hr => d_goal_fault (mg_ok X G c) (f_cross X G c) (f_touch_at X G c) (f_pairs_of X G c) (f_unrounded X G c) hr) l_goal_fault, (He.glo_ok X G (c.fact 29 (f := .glo "goal_fault") rfl)), D.kp, (D.bindsN fun _ _ _ _ _ _ us hl => match us, hl with | [_, _, _], _ => rfl)⟩
theorem f_not_of_start : DFn TheW.P TheW.w K mg base 1 "not_of_start" (spP t_not_of_start) := by
  obtain ⟨fd, D⟩ := c.def_ 23 (d := dd_not_of_start) rfl
  exact ⟨_, fd, ["start", "there"], fn_dataP D fs_not_of_start (by
    intro xs c K h
    repeat (obtain ⟨_, h⟩ := h)
    subst_vars
    rfl) (fun cdv A outer s H E W hr => d_not_of_start (mg_ok X G c)  hr) l_not_of_start, (He.glo_ok X G (c.fact 23 (f := .glo "not_of_start") rfl)), D.kp, (D.bindsN fun _ _ _ _ _ _ us hl => match us, hl with | [_, _], _ => rfl)⟩
theorem f_goal_of : DFn TheW.P TheW.w K mg base 2 "goal_of" (spP t_goal_of) := by
  obtain ⟨fd, D⟩ := c.def_ 24 (d := dd_goal_of) rfl
  exact ⟨_, fd, ["meeting", "start", "other", "k"], fn_dataP D fs_goal_of (by
    intro xs c K h
    repeat (obtain ⟨_, h⟩ := h)
    subst_vars
    rfl) (fun cdv A outer s H E W hr => d_goal_of (mg_ok X G c) (f_not_of_start X G c) (f_span X G c) hr) l_goal_of, (He.glo_ok X G (c.fact 24 (f := .glo "goal_of") rfl)), D.kp, (D.bindsN fun _ _ _ _ _ _ us hl => match us, hl with | [_, _, _, _], _ => rfl)⟩
theorem f_start_on : DFn TheW.P TheW.w K mg base 2 "start_on" (spP t_start_on) := by
  obtain ⟨fd, D⟩ := c.def_ 19 (d := dd_start_on) rfl
  exact ⟨_, fd, ["meeting", "row", "k"], fn_dataP D fs_start_on (by
    intro xs c K h
    repeat (obtain ⟨_, h⟩ := h)
    subst_vars
    rfl) (fun cdv A outer s H E W hr => d_start_on (mg_ok X G c) (f_span X G c) hr) l_start_on, (He.glo_ok X G (c.fact 19 (f := .glo "start_on") rfl)), D.kp, (D.bindsN fun _ _ _ _ _ _ us hl => match us, hl with | [_, _, _], _ => rfl)⟩
theorem f_told_by : DFn TheW.P TheW.w K mg base 3 "told_by" (spP t_told_by) := by
  obtain ⟨fd, D⟩ := c.def_ 31 (d := dd_told_by) rfl
  exact ⟨_, fd, ["meeting", "row", "other"], fn_dataP D fs_told_by (by
    intro xs c K h
    repeat (obtain ⟨_, h⟩ := h)
    subst_vars
    rfl) (fun cdv A outer s H E W hr => d_told_by (mg_ok X G c) (f_races_going X G c) (f_laid_on X G c) (f_told_race X G c) (f_goal_fault X G c) (f_goal_of X G c) (f_start_on X G c) hr) l_told_by, (He.glo_ok X G (c.fact 31 (f := .glo "told_by") rfl)), D.kp, (D.bindsN fun _ _ _ _ _ _ us hl => match us, hl with | [_, _, _], _ => rfl)⟩
theorem f_row_fits : DFn TheW.P TheW.w K mg base 1 "row_fits" (spP t_row_fits) := by
  obtain ⟨fd, D⟩ := c.def_ 34 (d := dd_row_fits) rfl
  exact ⟨_, fd, ["torn", "row"], fn_dataP D fs_row_fits (by
    intro xs c K h
    repeat (obtain ⟨_, h⟩ := h)
    subst_vars
    rfl) (fun cdv A outer s H E W hr => d_row_fits (mg_ok X G c)  hr) l_row_fits, (He.glo_ok X G (c.fact 34 (f := .glo "row_fits") rfl)), D.kp, (D.bindsN fun _ _ _ _ _ _ us hl => match us, hl with | [_, _], _ => rfl)⟩
theorem f_ban_lets_row : DFn TheW.P TheW.w K mg base 1 "ban_lets_row" (spP t_ban_lets_row) := by
  obtain ⟨fd, D⟩ := c.def_ 35 (d := dd_ban_lets_row) rfl
  exact ⟨_, fd, ["ban", "m", "row"], fn_dataP D fs_ban_lets_row (by
    intro xs c K h
    repeat (obtain ⟨_, h⟩ := h)
    subst_vars
    rfl) (fun cdv A outer s H E W hr => d_ban_lets_row (mg_ok X G c)  hr) l_ban_lets_row, (He.glo_ok X G (c.fact 35 (f := .glo "ban_lets_row") rfl)), D.kp, (D.bindsN fun _ _ _ _ _ _ us hl => match us, hl with | [_, _, _], _ => rfl)⟩
theorem f_touches_in : DFn TheW.P TheW.w K mg base 1 "touches_in" (spP t_touches_in) := by
  obtain ⟨fd, D⟩ := c.def_ 10 (d := dd_touches_in) rfl
  exact ⟨_, fd, ["sheet"], fn_dataP D fs_touches_in (by
    intro xs c K h
    repeat (obtain ⟨_, h⟩ := h)
    subst_vars
    rfl) (fun cdv A outer s H E W hr => d_touches_in (mg_ok X G c)  hr) l_touches_in, (He.glo_ok X G (c.fact 10 (f := .glo "touches_in") rfl)), D.kp, (D.bindsN fun _ _ _ _ _ _ us hl => match us, hl with | [_], _ => rfl)⟩
theorem f_exchanged : DFn TheW.P TheW.w K mg base 1 "exchanged" (spP t_exchanged) := by
  obtain ⟨fd, D⟩ := c.def_ 5 (d := dd_exchanged) rfl
  exact ⟨_, fd, ["row", "one", "other"], fn_dataP D fs_exchanged (by
    intro xs c K h
    repeat (obtain ⟨_, h⟩ := h)
    subst_vars
    rfl) (fun cdv A outer s H E W hr => d_exchanged (mg_ok X G c)  hr) l_exchanged, (He.glo_ok X G (c.fact 5 (f := .glo "exchanged") rfl)), D.kp, (D.bindsN fun _ _ _ _ _ _ us hl => match us, hl with | [_, _, _], _ => rfl)⟩
theorem f_row_behind : DFn TheW.P TheW.w K mg base 2 "row_behind" (spP t_row_behind) := by
  obtain ⟨fd, D⟩ := c.def_ 11 (d := dd_row_behind) rfl
  exact ⟨_, fd, ["start", "sheet"], fn_dataP D fs_row_behind (by
    intro xs c K h
    repeat (obtain ⟨_, h⟩ := h)
    subst_vars
    rfl) (fun cdv A outer s H E W hr => d_row_behind (mg_ok X G c) (f_touches_in X G c) (f_exchanged X G c) hr) l_row_behind, (He.glo_ok X G (c.fact 11 (f := .glo "row_behind") rfl)), D.kp, (D.bindsN fun _ _ _ _ _ _ us hl => match us, hl with | [_, _], _ => rfl)⟩
theorem f_boats_between : DFn TheW.P TheW.w K mg base 1 "boats_between" (spP t_boats_between) := by
  obtain ⟨fd, D⟩ := c.def_ 7 (d := dd_boats_between) rfl
  exact ⟨_, fd, ["start", "event"], fn_dataP D fs_boats_between (by
    intro xs c K h
    repeat (obtain ⟨_, h⟩ := h)
    subst_vars
    rfl) (fun cdv A outer s H E W hr => d_boats_between (mg_ok X G c)  hr) l_boats_between, (He.glo_ok X G (c.fact 7 (f := .glo "boats_between") rfl)), D.kp, (D.bindsN fun _ _ _ _ _ _ us hl => match us, hl with | [_, _], _ => rfl)⟩
theorem f_length_of : DFn TheW.P TheW.w K mg base 2 "length_of" (spP t_length_of) := by
  obtain ⟨fd, D⟩ := c.def_ 16 (d := dd_length_of) rfl
  exact ⟨_, fd, ["start", "event"], fn_dataP D fs_length_of (by
    intro xs c K h
    repeat (obtain ⟨_, h⟩ := h)
    subst_vars
    rfl) (fun cdv A outer s H E W hr => d_length_of (mg_ok X G c) (f_boats_between X G c) hr) l_length_of, (He.glo_ok X G (c.fact 16 (f := .glo "length_of") rfl)), D.kp, (D.bindsN fun _ _ _ _ _ _ us hl => match us, hl with | [_, _], _ => rfl)⟩
theorem f_is_crossed : DFn TheW.P TheW.w K mg base 2 "is_crossed" (spP t_is_crossed) := by
  obtain ⟨fd, D⟩ := c.def_ 14 (d := dd_is_crossed) rfl
  exact ⟨_, fd, ["start", "one", "other"], fn_dataP D fs_is_crossed (by
    intro xs c K h
    repeat (obtain ⟨_, h⟩ := h)
    subst_vars
    rfl) (fun cdv A outer s H E W hr => d_is_crossed (mg_ok X G c) (f_boats_between X G c) hr) l_is_crossed, (He.glo_ok X G (c.fact 14 (f := .glo "is_crossed") rfl)), D.kp, (D.bindsN fun _ _ _ _ _ _ us hl => match us, hl with | [_, _, _], _ => rfl)⟩
theorem f_goes_ahead : DFn TheW.P TheW.w K mg base 1 "goes_ahead" (spP t_goes_ahead) := by
  obtain ⟨fd, D⟩ := c.def_ 8 (d := dd_goes_ahead) rfl
  exact ⟨_, fd, ["start", "event"], fn_dataP D fs_goes_ahead (by
    intro xs c K h
    repeat (obtain ⟨_, h⟩ := h)
    subst_vars
    rfl) (fun cdv A outer s H E W hr => d_goes_ahead (mg_ok X G c)  hr) l_goes_ahead, (He.glo_ok X G (c.fact 8 (f := .glo "goes_ahead") rfl)), D.kp, (D.bindsN fun _ _ _ _ _ _ us hl => match us, hl with | [_, _], _ => rfl)⟩
theorem f_touch_fault : DFn TheW.P TheW.w K mg base 2 "touch_fault" (spP t_touch_fault) := by
  obtain ⟨fd, D⟩ := c.def_ 13 (d := dd_touch_fault) rfl
  exact ⟨_, fd, ["start", "reach", "sheet", "event"], fn_dataP D fs_touch_fault (by
    intro xs c K h
    repeat (obtain ⟨_, h⟩ := h)
    subst_vars
    rfl) (fun cdv A outer s H E W hr => d_touch_fault (mg_ok X G c) (f_boats_between X G c) (f_goes_ahead X G c) hr) l_touch_fault, (He.glo_ok X G (c.fact 13 (f := .glo "touch_fault") rfl)), D.kp, (D.bindsN fun _ _ _ _ _ _ us hl => match us, hl with | [_, _, _, _], _ => rfl)⟩
theorem f_strange_or_twice : DFn TheW.P TheW.w K mg base 1 "strange_or_twice" (spP t_strange_or_twice) := by
  obtain ⟨fd, D⟩ := c.def_ 12 (d := dd_strange_or_twice) rfl
  exact ⟨_, fd, ["start", "sheet"], fn_dataP D fs_strange_or_twice (by
    intro xs c K h
    repeat (obtain ⟨_, h⟩ := h)
    subst_vars
    rfl) (fun cdv A outer s H E W hr => d_strange_or_twice (mg_ok X G c)  hr) l_strange_or_twice, (He.glo_ok X G (c.fact 12 (f := .glo "strange_or_twice") rfl)), D.kp, (D.bindsN fun _ _ _ _ _ _ us hl => match us, hl with | [_, _], _ => rfl)⟩
theorem f_fault_of : DFn TheW.P TheW.w K mg base 3 "fault_of" (spP t_fault_of) := by
  obtain ⟨fd, D⟩ := c.def_ 15 (d := dd_fault_of) rfl
  exact ⟨_, fd, ["start", "reach", "sheet"], fn_dataP D fs_fault_of (by
    intro xs c K h
    repeat (obtain ⟨_, h⟩ := h)
    subst_vars
    rfl) (fun cdv A outer s H E W hr => d_fault_of (mg_ok X G c) (f_is_crossed X G c) (f_touch_fault X G c) (f_touches_in X G c) (f_strange_or_twice X G c) hr) l_fault_of, (He.glo_ok X G (c.fact 15 (f := .glo "fault_of") rfl)), D.kp, (D.bindsN fun _ _ _ _ _ _ us hl => match us, hl with | [_, _, _], _ => rfl)⟩
theorem f_order_of : DFn TheW.P TheW.w K mg base 4 "order_of" (spP t_order_of) := by
  obtain ⟨fd, D⟩ := c.def_ 17 (d := dd_order_of) rfl
  exact ⟨_, fd, ["start", "reach", "sheet"], fn_dataP D fs_order_of (by
    intro xs c K h
    repeat (obtain ⟨_, h⟩ := h)
    subst_vars
    rfl) (fun cdv A outer s H E W hr => d_order_of (mg_ok X G c) (f_length_of X G c) (f_fault_of X G c) hr) l_order_of, (He.glo_ok X G (c.fact 17 (f := .glo "order_of") rfl)), D.kp, (D.bindsN fun _ _ _ _ _ _ us hl => match us, hl with | [_, _, _], _ => rfl)⟩
theorem f_day_behind : DFn TheW.P TheW.w K mg base 5 "day_behind" (spP t_day_behind) := by
  obtain ⟨fd, D⟩ := c.def_ 22 (d := dd_day_behind) rfl
  exact ⟨_, fd, ["meeting", "row", "day"], fn_dataP D fs_day_behind (by
    intro xs c K h
    repeat (obtain ⟨_, h⟩ := h)
    subst_vars
    rfl) (fun cdv A outer s H E W hr => d_day_behind (mg_ok X G c) (f_races_going X G c) (f_laid_on X G c) (f_row_behind X G c) (f_order_of X G c) (f_start_on X G c) (f_races_of X G c) hr) l_day_behind, (He.glo_ok X G (c.fact 22 (f := .glo "day_behind") rfl)), D.kp, (D.bindsN fun _ _ _ _ _ _ us hl => match us, hl with | [_, _, _], _ => rfl)⟩
theorem f_ban_lets_day : DFn TheW.P TheW.w K mg base 1 "ban_lets_day" (spP t_ban_lets_day) := by
  obtain ⟨fd, D⟩ := c.def_ 36 (d := dd_ban_lets_day) rfl
  exact ⟨_, fd, ["ban", "m", "met"], fn_dataP D fs_ban_lets_day (by
    rintro xs c K ⟨nm, n, len, ban, met, m, _, _, _, e, _⟩
    rcases e with e | e <;> rw [e] <;> rfl) (fun cdv A outer s H E W hr => d_ban_lets_day (mg_ok X G c)  hr) l_ban_lets_day, (He.glo_ok X G (c.fact 36 (f := .glo "ban_lets_day") rfl)), D.kp, (D.bindsN fun _ _ _ _ _ _ us hl => match us, hl with | [_, _, _], _ => rfl)⟩
theorem f_touches_on : DFn TheW.P TheW.w K mg base 1 "touches_on" (spP t_touches_on) := by
  obtain ⟨fd, D⟩ := c.def_ 51 (d := dd_touches_on) rfl
  exact ⟨_, fd, ["day"], fn_dataP D fs_touches_on (by
    intro xs c K h
    repeat (obtain ⟨_, h⟩ := h)
    subst_vars
    rfl) (fun cdv A outer s H E W hr => d_touches_on (mg_ok X G c)  hr) l_touches_on, (He.glo_ok X G (c.fact 48 (f := .glo "touches_on") rfl)), D.kp, (D.bindsN fun _ _ _ _ _ _ us hl => match us, hl with | [_], _ => rfl)⟩
theorem f_goes_so : DFn TheW.P TheW.w K mg base 6 "goes_so" (spP t_goes_so) := by
  obtain ⟨fd, D⟩ := c.def_ 52 (d := dd_goes_so) rfl
  exact ⟨_, fd, ["meeting", "torns", "ban", "row", "days"], fn_dataP D fs_goes_so (by
    intro xs c K h
    repeat (obtain ⟨_, h⟩ := h)
    subst_vars
    rfl) (fun cdv A outer s H E W hr => d_goes_so (mg_ok X G c) (f_row_fits X G c) (f_ban_lets_row X G c) (f_day_behind X G c) (f_ban_lets_day X G c) (f_touches_on X G c) hr) l_goes_so, (He.glo_ok X G (c.fact 49 (f := .glo "goes_so") rfl)), D.kp, (D.bindsN fun _ _ _ _ _ _ us hl => match us, hl with | [_, _, _, _, _], _ => rfl)⟩
theorem f_is_boat : DFn TheW.P TheW.w K mg base 1 "is_boat" (spP t_is_boat) := by
  obtain ⟨fd, D⟩ := c.def_ 0 (d := dd_is_boat) rfl
  exact ⟨_, fd, ["thing"], fn_dataP D fs_is_boat (by
    intro xs c K h
    repeat (obtain ⟨_, h⟩ := h)
    subst_vars
    rfl) (fun cdv A outer s H E W hr => d_is_boat (mg_ok X G c)  hr) l_is_boat, (He.glo_ok X G (c.fact 0 (f := .glo "is_boat") rfl)), D.kp, (D.bindsN fun _ _ _ _ _ _ us hl => match us, hl with | [_], _ => rfl)⟩
theorem f_is_event : DFn TheW.P TheW.w K mg base 2 "is_event" (spP t_is_event) := by
  obtain ⟨fd, D⟩ := c.def_ 6 (d := dd_is_event) rfl
  exact ⟨_, fd, ["thing"], fn_dataP D fs_is_event (by
    intro xs c K h
    repeat (obtain ⟨_, h⟩ := h)
    subst_vars
    rfl) (fun cdv A outer s H E W hr => d_is_event (mg_ok X G c) (f_is_boat X G c) hr) l_is_event, (He.glo_ok X G (c.fact 6 (f := .glo "is_event") rfl)), D.kp, (D.bindsN fun _ _ _ _ _ _ us hl => match us, hl with | [_], _ => rfl)⟩
theorem f_is_sheet : DFn TheW.P TheW.w K mg base 3 "is_sheet" (spP t_is_sheet) := by
  obtain ⟨fd, D⟩ := c.def_ 9 (d := dd_is_sheet) rfl
  exact ⟨_, fd, ["thing"], fn_dataP D fs_is_sheet (by
    intro xs c K h
    repeat (obtain ⟨_, h⟩ := h)
    subst_vars
    rfl) (fun cdv A outer s H E W hr => d_is_sheet (mg_ok X G c) (f_is_event X G c) hr) l_is_sheet, (He.glo_ok X G (c.fact 9 (f := .glo "is_sheet") rfl)), D.kp, (D.bindsN fun _ _ _ _ _ _ us hl => match us, hl with | [_], _ => rfl)⟩
theorem f_is_day : DFn TheW.P TheW.w K mg base 4 "is_day" (spP t_is_day) := by
  obtain ⟨fd, D⟩ := c.def_ 18 (d := dd_is_day) rfl
  exact ⟨_, fd, ["thing"], fn_dataP D fs_is_day (by
    intro xs c K h
    repeat (obtain ⟨_, h⟩ := h)
    subst_vars
    rfl) (fun cdv A outer s H E W hr => d_is_day (mg_ok X G c) (f_is_sheet X G c) hr) l_is_day, (He.glo_ok X G (c.fact 18 (f := .glo "is_day") rfl)), D.kp, (D.bindsN fun _ _ _ _ _ _ us hl => match us, hl with | [_], _ => rfl)⟩
theorem f_are_boats : DFn TheW.P TheW.w K mg base 2 "are_boats" (spP t_are_boats) := by
  obtain ⟨fd, D⟩ := c.def_ 1 (d := dd_are_boats) rfl
  exact ⟨_, fd, ["thing"], fn_dataP D fs_are_boats (by
    intro xs c K h
    repeat (obtain ⟨_, h⟩ := h)
    subst_vars
    rfl) (fun cdv A outer s H E W hr => d_are_boats (mg_ok X G c) (f_is_boat X G c) hr) l_are_boats, (He.glo_ok X G (c.fact 1 (f := .glo "are_boats") rfl)), D.kp, (D.bindsN fun _ _ _ _ _ _ us hl => match us, hl with | [_], _ => rfl)⟩
theorem f_is_row : DFn TheW.P TheW.w K mg base 3 "is_row" (spP t_is_row) := by
  obtain ⟨fd, D⟩ := c.def_ 2 (d := dd_is_row) rfl
  exact ⟨_, fd, ["thing"], fn_dataP D fs_is_row (by
    intro xs c K h
    repeat (obtain ⟨_, h⟩ := h)
    subst_vars
    rfl) (fun cdv A outer s H E W hr => d_is_row (mg_ok X G c) (f_are_boats X G c) hr) l_is_row, (He.glo_ok X G (c.fact 2 (f := .glo "is_row") rfl)), D.kp, (D.bindsN fun _ _ _ _ _ _ us hl => match us, hl with | [_], _ => rfl)⟩
theorem f_is_full_row : DFn TheW.P TheW.w K mg base 4 "is_full_row" (spP t_is_full_row) := by
  obtain ⟨fd, D⟩ := c.def_ 50 (d := dd_is_full_row) rfl
  exact ⟨_, fd, ["boats", "thing"], fn_dataP D fs_is_full_row (by
    intro xs c K h
    repeat (obtain ⟨_, h⟩ := h)
    subst_vars
    rfl) (fun cdv A outer s H E W hr => d_is_full_row (mg_ok X G c) (f_is_row X G c) hr) l_is_full_row, (He.glo_ok X G (c.fact 47 (f := .glo "is_full_row") rfl)), D.kp, (D.bindsN fun _ _ _ _ _ _ us hl => match us, hl with | [_, _], _ => rfl)⟩
theorem f_shows_chart : DFn TheW.P TheW.w K mg base 7 "shows_chart" (spP t_shows_chart) := by
  obtain ⟨fd, D⟩ := c.def_ 53 (d := dd_shows_chart) rfl
  exact ⟨_, fd, ["meeting", "mornings", "ban", "thing"], fn_dataP D fs_shows_chart (by
    intro xs c K h
    repeat (obtain ⟨_, h⟩ := h)
    subst_vars
    rfl) (fun cdv A outer s H E W hr => d_shows_chart (mg_ok X G c) (f_goes_so X G c) (f_is_day X G c) (f_is_full_row X G c) hr) l_shows_chart, (He.glo_ok X G (c.fact 50 (f := .glo "shows_chart") rfl)), D.kp, (D.bindsN fun _ _ _ _ _ _ us hl => match us, hl with | [_, _, _, _], _ => rfl)⟩
theorem f__law_take (p : WelP) : DFn TheW.P TheW.w K mg base 1 "_law_take" (spD p.F p.G (t__law_take p)) := by
  obtain ⟨fd, D⟩ := c.def_ 59 (d := dd__law_take) rfl
  exact ⟨_, fd, ["_law_well_here", "_law_many"], fn_take p D, (He.glo_ok X G (c.fact 56 (f := .glo "_law_take") rfl)), D.kp, (D.bindsN fun _ _ _ _ _ _ us hl => match us, hl with | [_, _], _ => rfl)⟩
theorem f__law_of (p : WelP) : DFn TheW.P TheW.w K mg base 2 "_law_of" (spD p.F p.G (t__law_of p)) := by
  obtain ⟨fd, D⟩ := c.def_ 60 (d := dd__law_of) rfl
  exact ⟨_, fd, ["_law_well_here", "_law_some"], fn_dataC p.stab D fs__law_of (by
    intro xs c K h
    repeat (obtain ⟨_, h⟩ := h)
    subst_vars
    rfl) (fun cdv A outer s H E W hr hF hG => d__law_of hF hG (mg_ok X G c) (f__law_take X G c p) hr) (l__law_of p), (He.glo_ok X G (c.fact 57 (f := .glo "_law_of") rfl)), D.kp, (D.bindsN fun _ _ _ _ _ _ us hl => match us, hl with | [_, _], _ => rfl)⟩
theorem f_all_rows : DFn TheW.P TheW.w K mg base 1 "all_rows" (spP t_all_rows) := by
  obtain ⟨fd, D⟩ := c.def_ 33 (d := dd_all_rows) rfl
  exact ⟨_, fd, ["boats"], fn_dataP D fs_all_rows (by
    intro xs c K h
    repeat (obtain ⟨_, h⟩ := h)
    subst_vars
    rfl) (fun cdv A outer s H E W hr => d_all_rows (mg_ok X G c)  hr) l_all_rows, (He.glo_ok X G (c.fact 33 (f := .glo "all_rows") rfl)), D.kp, (D.bindsN fun _ _ _ _ _ _ us hl => match us, hl with | [_], _ => rfl)⟩
theorem f_has_first_rows : DFn TheW.P TheW.w K mg base 2 "has_first_rows" (spP t_has_first_rows) := by
  obtain ⟨fd, D⟩ := c.def_ 55 (d := dd_has_first_rows) rfl
  exact ⟨_, fd, ["mornings", "ban", "some"], fn_dataP D fs_has_first_rows (by
    intro xs c K h
    repeat (obtain ⟨_, h⟩ := h)
    subst_vars
    rfl) (fun cdv A outer s H E W hr => d_has_first_rows (mg_ok X G c) (f_all_rows X G c) (f_row_fits X G c) (f_ban_lets_row X G c) hr) l_has_first_rows, (He.glo_ok X G (c.fact 52 (f := .glo "has_first_rows") rfl)), D.kp, (D.bindsN fun _ _ _ _ _ _ us hl => match us, hl with | [_, _, _], _ => rfl)⟩
theorem f_is_row_set : DFn TheW.P TheW.w K mg base 5 "is_row_set" (spP t_is_row_set) := by
  obtain ⟨fd, D⟩ := c.def_ 54 (d := dd_is_row_set) rfl
  exact ⟨_, fd, ["boats", "thing"], fn_dataP D fs_is_row_set (by
    intro xs c K h
    repeat (obtain ⟨_, h⟩ := h)
    subst_vars
    rfl) (fun cdv A outer s H E W hr => d_is_row_set (mg_ok X G c) (f_is_full_row X G c) hr) l_is_row_set, (He.glo_ok X G (c.fact 51 (f := .glo "is_row_set") rfl)), D.kp, (D.bindsN fun _ _ _ _ _ _ us hl => match us, hl with | [_, _], _ => rfl)⟩
theorem f_touched : DFn TheW.P TheW.w K mg base 1 "touched" (spP t_touched) := by
  obtain ⟨fd, D⟩ := c.def_ 38 (d := dd_touched) rfl
  exact ⟨_, fd, ["row", "arcs"], fn_dataP D fs_touched (by
    intro xs c K h
    repeat (obtain ⟨_, h⟩ := h)
    subst_vars
    rfl) (fun cdv A outer s H E W hr => d_touched (mg_ok X G c)  hr) l_touched, (He.glo_ok X G (c.fact 38 (f := .glo "touched") rfl)), D.kp, (D.bindsN fun _ _ _ _ _ _ us hl => match us, hl with | [_, _], _ => rfl)⟩
theorem f_arc_sets : DFn TheW.P TheW.w K mg base 7 "arc_sets" (spP t_arc_sets) := by
  obtain ⟨fd, D⟩ := c.def_ 37 (d := dd_arc_sets) rfl
  exact arc_levels (mg_ok X G c) D (He.glo_ok X G (c.fact 37 (f := .glo "arc_sets") rfl)) (D.bindsN fun _ _ _ _ _ _ us hl => match us, hl with | [_, _, _], _ => rfl) 7
theorem f_gone (p : WayP) (hC : p.C = (He.ga K "Ways")) {n : Nat} (ok : WayOk p n) : ∃ fd, FnOk TheW.P TheW.w K mg base CX0 2 (He.ma K (He.ga K "Ways") "gone_through") fd ["self", "row"] (spD p.F p.G (t_gone p)) ∧ Binds K fd ["self", "row"] [] := by
  obtain ⟨fd, D⟩ := c.def_ 40 (d := dd_gone) rfl
  have wc := way_c X G c p hC
  exact ⟨fd, fn_dataC p.stab D fs_gone (by
    intro xs c K h
    repeat (obtain ⟨_, h⟩ := h)
    subst_vars
    rfl) (fun cdv A outer s H E W hr hF hG => d_gone wc hG (mg_ok X G c) (f_touched X G c) hr) (l_gone ok), (D.bindsN fun _ _ _ _ _ _ us hl => match us, hl with | [_, _], _ => rfl)⟩
theorem f_nexts (p : WayP) (hC : p.C = (He.ga K "Ways")) {n : Nat} (ok : WayOk p n) : ∃ fd, FnOk TheW.P TheW.w K mg base CX0 3 (He.ma K (He.ga K "Ways") "nexts") fd ["self", "row"] (spD p.F p.G (t_gone p)) ∧ Binds K fd ["self", "row"] [] := by
  obtain ⟨fd, D⟩ := c.def_ 41 (d := dd_nexts) rfl
  obtain ⟨fg, Fg, bg⟩ := f_gone (base := base) X G c p hC ok
  have wc := way_c X G c p hC
  exact ⟨fd, fn_nexts wc Fg bg D, (D.bindsN fun _ _ _ _ _ _ us hl => match us, hl with | [_, _], _ => rfl)⟩
theorem f_wayk : ∃ fd, WayK K mg base (He.ga K "Ways") (He.ma K (He.ga K "Ways") "__init__") fd := by
  obtain ⟨fd, D⟩ := c.def_ 39 (d := dd_init) rfl
  exact ⟨fd, He.mkr_ok (c.fact 95 (f := .mkr "Ways") rfl), fn_init ⟨He.cls_ok (c.fact 90 (f := .cls "Ways") rfl), He.noat_ok (c.fact 91 (f := .noat "Ways" "arcs") rfl)⟩ (He.noat_ok (c.fact 92 (f := .noat "Ways" "known") rfl)) (mg_ok X G c) (f_races_of X G c) (f_span X G c) (f_arc_sets X G c) D, (He.glo_ok X G (c.fact 68 (f := .glo "Ways") rfl)), (D.bindsN fun _ _ _ _ _ _ us hl => match us, hl with | [_, _, _], _ => rfl)⟩
theorem g_has_next_rows : ∃ fd, (∀ p : WayP, p.C = (He.ga K "Ways") → FnOk TheW.P TheW.w K mg base CX0 4 (He.ga K "has_next_rows") fd ["ways", "ahead", "torn", "ban", "m", "some"] (spD p.F p.G (t_has_next_rows p))) ∧ PySem.W.keepIn K (.ref (He.ga K "has_next_rows")) = true ∧ Binds K fd ["ways", "ahead", "torn", "ban", "m", "some"] [] := by
  obtain ⟨fd, D⟩ := c.def_ 56 (d := dd_has_next_rows) rfl
  refine ⟨fd, fun p hC => ?_, D.kp, (D.bindsN fun _ _ _ _ _ _ us hl => match us, hl with | [_, _, _, _, _, _], _ => rfl)⟩
  by_cases hh : ∃ n, WayOk p n
  · obtain ⟨n, ok⟩ := hh
    obtain ⟨fdn, Fn, bn⟩ := f_nexts (base := base) X G c p hC ok
    have wc := way_c X G c p hC
    exact fn_dataC p.stab D fs_has_next_rows (by
        intro xs c K h
        repeat (obtain ⟨_, h⟩ := h)
        subst_vars
        rfl) (fun cdv A outer s H E W hr hF hG => d_has_next_rows wc Fn bn hF hG (mg_ok X G c) (f_row_fits X G c) (f_ban_lets_row X G c) (f_ban_lets_day X G c) hr) (l_has_next_rows p)
  · exact fn_no (fun xs c K t => hh (by
      obtain ⟨n, h⟩ := t
      repeat (obtain ⟨_, h⟩ := h)
      exact ⟨n, (show PreW p n by assumption).ok⟩))
theorem f_has_next_rows (p : WayP) (hC : p.C = (He.ga K "Ways")) : DFn TheW.P TheW.w K mg base 4 "has_next_rows" (spD p.F p.G (t_has_next_rows p)) := by
  obtain ⟨fd, F, kp, b⟩ := g_has_next_rows (base := base) X G c
  exact ⟨_, fd, _, F p hC, (He.glo_ok X G (c.fact 53 (f := .glo "has_next_rows") rfl)), kp, b⟩
theorem f_shows_stop : DFn TheW.P TheW.w K mg base 10 "shows_stop" (spP t_shows_stop) := by
  obtain ⟨fd, D⟩ := c.def_ 57 (d := dd_shows_stop) rfl
  obtain ⟨fi, wk⟩ := f_wayk (base := base) X G c
  exact ⟨_, fd, ["meeting", "mornings", "ban", "thing"], fn_dataP D fs_shows_stop (by
    intro xs c K h
    repeat (obtain ⟨_, h⟩ := h)
    subst_vars
    rfl) (fun cdv A outer s H E W hr => d_shows_stop wk (mg_ok X G c) (f_has_first_rows X G c) (f_is_row_set X G c) (fun p hC => f_has_next_rows X G c p hC) hr) l_shows_stop, (He.glo_ok X G (c.fact 54 (f := .glo "shows_stop") rfl)), D.kp, (D.bindsN fun _ _ _ _ _ _ us hl => match us, hl with | [_, _, _, _], _ => rfl)⟩
theorem g_rows_come : ∃ fd, (∀ p : WayP, p.C = (He.ga K "Ways") → FnOk TheW.P TheW.w K mg base CX0 4 (He.ga K "rows_come") fd ["ways", "ahead", "torn", "ban", "m"] (spD p.F p.G (t_rows_come p))) ∧ PySem.W.keepIn K (.ref (He.ga K "rows_come")) = true ∧ Binds K fd ["ways", "ahead", "torn", "ban", "m"] [] := by
  obtain ⟨fd, D⟩ := c.def_ 42 (d := dd_rows_come) rfl
  refine ⟨fd, fun p hC => ?_, D.kp, (D.bindsN fun _ _ _ _ _ _ us hl => match us, hl with | [_, _, _, _, _], _ => rfl)⟩
  by_cases hh : ∃ n, WayOk p n
  · obtain ⟨n, ok⟩ := hh
    obtain ⟨fdn, Fn, bn⟩ := f_nexts (base := base) X G c p hC ok
    have wc := way_c X G c p hC
    exact fn_dataC p.stab D fs_rows_come (by
        intro xs c K h
        repeat (obtain ⟨_, h⟩ := h)
        subst_vars
        rfl) (fun cdv A outer s H E W hr hF hG => d_rows_come wc Fn bn hF hG (mg_ok X G c) (f_row_fits X G c) (f_ban_lets_row X G c) (f_ban_lets_day X G c) hr) (l_rows_come p)
  · exact fn_no (fun xs c K t => hh (by
      obtain ⟨n, h⟩ := t
      repeat (obtain ⟨_, h⟩ := h)
      exact ⟨n, (show PreW p n by assumption).ok⟩))
theorem f_rows_come (p : WayP) (hC : p.C = (He.ga K "Ways")) : DFn TheW.P TheW.w K mg base 4 "rows_come" (spD p.F p.G (t_rows_come p)) := by
  obtain ⟨fd, F, kp, b⟩ := g_rows_come (base := base) X G c
  exact ⟨_, fd, _, F p hC, (He.glo_ok X G (c.fact 39 (f := .glo "rows_come") rfl)), kp, b⟩
theorem g_row_sets : ∃ fd, (∀ p : WayP, p.C = (He.ga K "Ways") → FnOk TheW.P TheW.w K mg base CX0 5 (He.ga K "row_sets") fd ["ways", "mornings", "ban"] (spD p.F p.G (t_row_sets p))) ∧ PySem.W.keepIn K (.ref (He.ga K "row_sets")) = true ∧ Binds K fd ["ways", "mornings", "ban"] [] := by
  obtain ⟨fd, D⟩ := c.def_ 43 (d := dd_row_sets) rfl
  refine ⟨fd, fun p hC => ?_, D.kp, (D.bindsN fun _ _ _ _ _ _ us hl => match us, hl with | [_, _, _], _ => rfl)⟩
  by_cases hh : ∃ n, WayOk p n
  · obtain ⟨n, ok⟩ := hh
    obtain ⟨fdn, Fn, bn⟩ := f_nexts (base := base) X G c p hC ok
    have wc := way_c X G c p hC
    exact fn_dataC p.stab D fs_row_sets (by
        intro xs c K h
        repeat (obtain ⟨_, h⟩ := h)
        subst_vars
        rfl) (fun cdv A outer s H E W hr hF hG => d_row_sets wc Fn bn hF hG (mg_ok X G c) (f_rows_come X G c p hC) (f_all_rows X G c) (f_row_fits X G c) (f_ban_lets_row X G c) hr) (l_row_sets p)
  · exact fn_no (fun xs c K t => hh (by
      obtain ⟨n, h⟩ := t
      repeat (obtain ⟨_, h⟩ := h)
      exact ⟨n, (show PreW p n by assumption).ok⟩))
theorem f_row_sets (p : WayP) (hC : p.C = (He.ga K "Ways")) : DFn TheW.P TheW.w K mg base 5 "row_sets" (spD p.F p.G (t_row_sets p)) := by
  obtain ⟨fd, F, kp, b⟩ := g_row_sets (base := base) X G c
  exact ⟨_, fd, _, F p hC, (He.glo_ok X G (c.fact 40 (f := .glo "row_sets") rfl)), kp, b⟩
theorem e_row_sets : DFn TheW.P TheW.w K mg base 5 "row_sets" (fun vs H Q E => ∃ p : WayP, p.C = (He.ga K "Ways") ∧ spD p.F p.G (t_row_sets p) vs H Q E) := by
  obtain ⟨fd, F, kp, b⟩ := g_row_sets (base := base) X G c
  exact ⟨_, fd, _, fn_ex F, (He.glo_ok X G (c.fact 40 (f := .glo "row_sets") rfl)), kp, b⟩
theorem f_day_between : DFn TheW.P TheW.w K mg base 4 "day_between" (spP t_day_between) := by
  obtain ⟨fd, D⟩ := c.def_ 46 (d := dd_day_between) rfl
  exact ⟨_, fd, ["meeting", "row", "other"], fn_dataP D fs_day_between (by
    intro xs c K h
    repeat (obtain ⟨_, h⟩ := h)
    subst_vars
    rfl) (fun cdv A outer s H E W hr => d_day_between (mg_ok X G c) (f_told_by X G c) hr) l_day_between, (He.glo_ok X G (c.fact 43 (f := .glo "day_between") rfl)), D.kp, (D.bindsN fun _ _ _ _ _ _ us hl => match us, hl with | [_, _, _], _ => rfl)⟩
theorem f_chart_of : DFn TheW.P TheW.w K mg base 5 "chart_of" (spP t_chart_of) := by
  obtain ⟨fd, D⟩ := c.def_ 47 (d := dd_chart_of) rfl
  exact ⟨_, fd, ["meeting", "rows"], fn_dataP D fs_chart_of (by
    intro xs c K h
    repeat (obtain ⟨_, h⟩ := h)
    subst_vars
    rfl) (fun cdv A outer s H E W hr => d_chart_of (mg_ok X G c) (f_day_between X G c) hr) l_chart_of, (He.glo_ok X G (c.fact 44 (f := .glo "chart_of") rfl)), D.kp, (D.bindsN fun _ _ _ _ _ _ us hl => match us, hl with | [_, _], _ => rfl)⟩
theorem f_rows_back : DFn TheW.P TheW.w K mg base 1 "rows_back" (spP t_rows_back) := by
  obtain ⟨fd, D⟩ := c.def_ 45 (d := dd_rows_back) rfl
  exact ⟨_, fd, ["sets", "m", "row"], fn_dataP D fs_rows_back (by
    intro xs c K h
    repeat (obtain ⟨_, h⟩ := h)
    subst_vars
    rfl) (fun cdv A outer s H E W hr => d_rows_back (mg_ok X G c)  hr) l_rows_back, (He.glo_ok X G (c.fact 42 (f := .glo "rows_back") rfl)), D.kp, (D.bindsN fun _ _ _ _ _ _ us hl => match us, hl with | [_, _, _], _ => rfl)⟩
theorem f_chart_to_end : DFn TheW.P TheW.w K mg base 6 "chart_to_end" (spP t_chart_to_end) := by
  obtain ⟨fd, D⟩ := c.def_ 48 (d := dd_chart_to_end) rfl
  exact ⟨_, fd, ["meeting", "sets"], fn_dataP D fs_chart_to_end (by
    intro xs c K h
    repeat (obtain ⟨_, h⟩ := h)
    subst_vars
    rfl) (fun cdv A outer s H E W hr => d_chart_to_end (mg_ok X G c) (f_chart_of X G c) (f_rows_back X G c) hr) l_chart_to_end, (He.glo_ok X G (c.fact 45 (f := .glo "chart_to_end") rfl)), D.kp, (D.bindsN fun _ _ _ _ _ _ us hl => match us, hl with | [_, _], _ => rfl)⟩
theorem f_stop_of : DFn TheW.P TheW.w K mg base 1 "stop_of" (spP t_stop_of) := by
  obtain ⟨fd, D⟩ := c.def_ 44 (d := dd_stop_of) rfl
  exact ⟨_, fd, ["sets"], fn_dataP D fs_stop_of (by
    intro xs c K h
    repeat (obtain ⟨_, h⟩ := h)
    subst_vars
    rfl) (fun cdv A outer s H E W hr => d_stop_of (mg_ok X G c)  hr) l_stop_of, (He.glo_ok X G (c.fact 41 (f := .glo "stop_of") rfl)), D.kp, (D.bindsN fun _ _ _ _ _ _ us hl => match us, hl with | [_], _ => rfl)⟩
theorem f_chart_by : DFn TheW.P TheW.w K mg base 10 "chart_by" (spP t_chart_by) := by
  obtain ⟨fd, D⟩ := c.def_ 49 (d := dd_chart_by) rfl
  obtain ⟨fi, wk⟩ := f_wayk (base := base) X G c
  exact ⟨_, fd, ["meeting", "mornings", "ban"], fn_dataP D fs_chart_by (by
    rintro xs c K ⟨_, _, _, _, _, _, _, _, _, _, e, _⟩
    rw [e]; rfl) (fun cdv A outer s H E W hr => d_chart_by wk (e_row_sets X G c) (mg_ok X G c) (f_chart_to_end X G c) (f_stop_of X G c) hr) l_chart_by, (He.glo_ok X G (c.fact 46 (f := .glo "chart_by") rfl)), D.kp, (D.bindsN fun _ _ _ _ _ _ us hl => match us, hl with | [_, _, _], _ => rfl)⟩
theorem f__law_bans_right (p : WelP) : DFn TheW.P TheW.w K mg base 11 "_law_bans_right" (spD p.F p.G (t__law_bans_right p)) := by
  obtain ⟨fd, D⟩ := c.def_ 68 (d := dd__law_bans_right) rfl
  exact ⟨_, fd, ["_law_well_here", "_law_meeting_here", "_law_mornings", "_law_chart_here"], fn_dataC p.stab D fs__law_bans_right (by
    intro xs c K h
    repeat (obtain ⟨_, h⟩ := h)
    subst_vars
    rfl) (fun cdv A outer s H E W hr hF hG => d__law_bans_right hF hG (mg_ok X G c) (f_shows_chart X G c) (f__law_of X G c p) (f_shows_stop X G c) (f_chart_by X G c) hr) (l__law_bans_right p), (He.glo_ok X G (c.fact 65 (f := .glo "_law_bans_right") rfl)), D.kp, (D.bindsN fun _ _ _ _ _ _ us hl => match us, hl with | [_, _, _, _], _ => rfl)⟩
theorem f_days_between : DFn TheW.P TheW.w K mg base 4 "days_between" (spP t_days_between) := by
  obtain ⟨fd, D⟩ := c.def_ 32 (d := dd_days_between) rfl
  exact ⟨_, fd, ["meeting", "row", "other"], fn_dataP D fs_days_between (by
    intro xs c K h
    repeat (obtain ⟨_, h⟩ := h)
    subst_vars
    rfl) (fun cdv A outer s H E W hr => d_days_between (mg_ok X G c) (f_told_by X G c) hr) l_days_between, (He.glo_ok X G (c.fact 32 (f := .glo "days_between") rfl)), D.kp, (D.bindsN fun _ _ _ _ _ _ us hl => match us, hl with | [_, _, _], _ => rfl)⟩
theorem f__law_told_right : DFn TheW.P TheW.w K mg base 6 "_law_told_right" (spP t__law_told_right) := by
  obtain ⟨fd, D⟩ := c.def_ 69 (d := dd__law_told_right) rfl
  exact ⟨_, fd, ["_law_meeting_here", "_law_row", "_law_other", "_law_day_here"], fn_dataP D fs__law_told_right (by
    intro xs c K h
    repeat (obtain ⟨_, h⟩ := h)
    subst_vars
    rfl) (fun cdv A outer s H E W hr => d__law_told_right (mg_ok X G c) (f_days_between X G c) (f_day_behind X G c) (f_told_by X G c) hr) l__law_told_right, (He.glo_ok X G (c.fact 66 (f := .glo "_law_told_right") rfl)), D.kp, (D.bindsN fun _ _ _ _ _ _ us hl => match us, hl with | [_, _, _, _], _ => rfl)⟩
theorem f__law_spans : DFn TheW.P TheW.w K mg base 1 "_law_spans" (spP t__law_spans) := by
  obtain ⟨fd, D⟩ := c.def_ 63 (d := dd__law_spans) rfl
  exact ⟨_, fd, ["_law_meeting_here", "_law_many"], fn_dataP D fs__law_spans (by
    intro xs c K h
    repeat (obtain ⟨_, h⟩ := h)
    subst_vars
    rfl) (fun cdv A outer s H E W hr => d__law_spans (mg_ok X G c)  hr) l__law_spans, (He.glo_ok X G (c.fact 60 (f := .glo "_law_spans") rfl)), D.kp, (D.bindsN fun _ _ _ _ _ _ us hl => match us, hl with | [_, _], _ => rfl)⟩
theorem f__law_after : DFn TheW.P TheW.w K mg base 1 "_law_after" (spP t__law_after) := by
  obtain ⟨fd, D⟩ := c.def_ 65 (d := dd__law_after) rfl
  exact ⟨_, fd, ["_law_start", "_law_sheet_here"], fn_dataP D fs__law_after (by
    intro xs c K h
    repeat (obtain ⟨_, h⟩ := h)
    subst_vars
    rfl) (fun cdv A outer s H E W hr => d__law_after (mg_ok X G c)  hr) l__law_after, (He.glo_ok X G (c.fact 62 (f := .glo "_law_after") rfl)), D.kp, (D.bindsN fun _ _ _ _ _ _ us hl => match us, hl with | [_, _], _ => rfl)⟩
theorem f__law_sheet (p : WelP) : DFn TheW.P TheW.w K mg base 2 "_law_sheet" (spD p.F p.G (t__law_sheet p)) := by
  obtain ⟨fd, D⟩ := c.def_ 64 (d := dd__law_sheet) rfl
  exact ⟨_, fd, ["_law_well_here", "_law_start", "_law_reach"], fn_dataC p.stab D fs__law_sheet (by
    intro xs c K h
    repeat (obtain ⟨_, h⟩ := h)
    subst_vars
    rfl) (fun cdv A outer s H E W hr hF hG => d__law_sheet hF hG (mg_ok X G c) (f__law_take X G c p) hr) (l__law_sheet p), (He.glo_ok X G (c.fact 61 (f := .glo "_law_sheet") rfl)), D.kp, (D.bindsN fun _ _ _ _ _ _ us hl => match us, hl with | [_, _, _], _ => rfl)⟩
theorem f__law_day (p : WelP) : DFn TheW.P TheW.w K mg base 3 "_law_day" (spD p.F p.G (t__law_day p)) := by
  obtain ⟨fd, D⟩ := c.def_ 66 (d := dd__law_day) rfl
  exact ⟨_, fd, ["_law_well_here", "_law_meeting_here", "_law_row"], fn_dataC p.stab D fs__law_day (by
    intro xs c K h
    repeat (obtain ⟨_, h⟩ := h)
    subst_vars
    rfl) (fun cdv A outer s H E W hr hF hG => d__law_day hF hG (mg_ok X G c) (f__law_spans X G c) (f__law_after X G c) (f__law_sheet X G c p) hr) (l__law_day p), (He.glo_ok X G (c.fact 63 (f := .glo "_law_day") rfl)), D.kp, (D.bindsN fun _ _ _ _ _ _ us hl => match us, hl with | [_, _, _], _ => rfl)⟩
theorem f__law_chart (p : WelP) : DFn TheW.P TheW.w K mg base 4 "_law_chart" (spD p.F p.G (t__law_chart p)) := by
  obtain ⟨fd, D⟩ := c.def_ 67 (d := dd__law_chart) rfl
  exact ⟨_, fd, ["_law_well_here", "_law_meeting_here", "_law_boats_here", "_law_many"], fn_dataC p.stab D fs__law_chart (by
    intro xs c K h
    repeat (obtain ⟨_, h⟩ := h)
    subst_vars
    rfl) (fun cdv A outer s H E W hr hF hG => d__law_chart hF hG (mg_ok X G c) (f__law_day X G c p) (f__law_take X G c p) hr) (l__law_chart p), (He.glo_ok X G (c.fact 64 (f := .glo "_law_chart") rfl)), D.kp, (D.bindsN fun _ _ _ _ _ _ us hl => match us, hl with | [_, _, _, _], _ => rfl)⟩
theorem f__law_meeting (p : WelP) : DFn TheW.P TheW.w K mg base 3 "_law_meeting" (spD p.F p.G (t__law_meeting p)) := by
  obtain ⟨fd, D⟩ := c.def_ 62 (d := dd__law_meeting) rfl
  exact ⟨_, fd, ["_law_well_here"], fn_dataC p.stab D fs__law_meeting (by
    intro xs c K h
    repeat (obtain ⟨_, h⟩ := h)
    subst_vars
    rfl) (fun cdv A outer s H E W hr hF hG => d__law_meeting hF hG (mg_ok X G c) (f__law_of X G c p) hr) (l__law_meeting p), (He.glo_ok X G (c.fact 59 (f := .glo "_law_meeting") rfl)), D.kp, (D.bindsN fun _ _ _ _ _ _ us hl => match us, hl with | [_], _ => rfl)⟩
theorem f__law_boats (p : WelP) : DFn TheW.P TheW.w K mg base 3 "_law_boats" (spD p.F p.G (t__law_boats p)) := by
  obtain ⟨fd, D⟩ := c.def_ 61 (d := dd__law_boats) rfl
  exact ⟨_, fd, ["_law_well_here", "_law_many"], fn_dataC p.stab D fs__law_boats (by
    intro xs c K h
    repeat (obtain ⟨_, h⟩ := h)
    subst_vars
    rfl) (fun cdv A outer s H E W hr hF hG => d__law_boats hF hG (mg_ok X G c) (f__law_of X G c p) (f__law_take X G c p) hr) (l__law_boats p), (He.glo_ok X G (c.fact 58 (f := .glo "_law_boats") rfl)), D.kp, (D.bindsN fun _ _ _ _ _ _ us hl => match us, hl with | [_, _], _ => rfl)⟩
theorem f__law_well : DFn TheW.P TheW.w K mg base 1 "_law_well" (spWell K) := by
  obtain ⟨fd, D⟩ := c.def_ 58 (d := dd__law_well) rfl
  exact ⟨_, fd, ["_law_script"], fn_well (mg_ok X G c) D, (He.glo_ok X G (c.fact 55 (f := .glo "_law_well") rfl)), D.kp, (D.bindsN fun _ _ _ _ _ _ us hl => match us, hl with | [_], _ => rfl)⟩
theorem factsH {f : Addr} (hfa : mg "law" = some (.ref f)) : ∃ fd : FuncData, (∀ (s : Shared) (v : Value), BindsTo s fd ⟨[v], []⟩ [("_law_script", v)]) ∧ ∀ base : Heap, FnOk TheW.P TheW.w K mg base CX0 12 f fd ["_law_script"] (spLaw K) := by
  obtain ⟨fd, D⟩ := c.def_ 70 (d := dd_law) rfl
  have e := hfa.symm.trans (He.glo_ok X G (c.fact 67 (f := .glo "law") rfl))
  cases e
  have b := FunD.bindsA (ps := ["_law_script"]) D fun _ _ _ _ _ _ us hl => match us, hl with | [_], _ => rfl
  exact ⟨fd, fun s v => b s [v] rfl, fun base => fn_law (mg_ok X G c) (f__law_well X G c) (f_told_by X G c) (f__law_bans_right X G c) (f__law_told_right X G c) (f_days_between X G c) (f_chart_by X G c) (f__law_take X G c) (f__law_chart X G c) (f__law_meeting X G c) (f__law_boats X G c) (f__law_of X G c) D⟩
end
end DL
set_option maxHeartbeats 0
/-! HDc: the end. -/
open PySem PySem.W PySem.Calls PyProof.Rows
theorem PySem.Challenge.cw_touchboats_k38_two_whole_mornings_holds : PySem.Challenge.rw_touchboats_k38_two_whole_mornings.Holds := by
  w_on; o_law
  refine HandSHeadRun.head_any (r := OpenLaw.row PySem.Challenge.rw_touchboats_k38_two_whole_mornings) (q := view (OpenLaw.row PySem.Challenge.rw_touchboats_k38_two_whole_mornings).prog [78]) (H := DL.hkH) (ob := DL.obH) (M := 3000) (loose := DL.looseH) (d := HandSHeadRun.topDef (OpenLaw.row PySem.Challenge.rw_touchboats_k38_two_whole_mornings).prog 78) (kwd := []) DL.obH_eq
    (by kernel_rfl) (fun s => by kernel_rfl) DL.runH (by kernel_rfl) (by kernel_rfl) (by kernel_rfl) (by rfl) (by first | assumption | decide +kernel) (by decide +kernel) ⟨rfl, rfl, rfl, rfl, rfl, by decide +kernel⟩ ?hw ?hc
  case hw => w_witness2
  case hc =>
    refine L2.walk_ofE (l := PySem.Challenge.rw_touchboats_k38_two_whole_mornings) (n := 63) (k := 12) (x := "_law_script") (CX := L2.CX0) rfl (by decide) (by kernel_rfl) ⟨rfl, by decide, by decide⟩ ?F (fun _ _ _ _ z => z)
    intro w mg fa h Y G hmg0
    obtain ⟨K, KX, c⟩ := Y
    have hmg : mg ("law" : PySem.Str) = some (.ref fa) := by
      have e : (HandSHeadRun.topDef (OpenLaw.row PySem.Challenge.rw_touchboats_k38_two_whole_mornings).prog 78).name = ("law" : PySem.Str) := by kernel_rfl
      rw [← e]
      exact hmg0
    letI : DL.TheW := ⟨(PySem.Challenge.rw_touchboats_k38_two_whole_mornings).prog, w⟩
    obtain ⟨fd, hb, hF⟩ := DL.factsH KX G c hmg
    exact ⟨K, fd, DL.spLaw K, KX, hb, fun H a ns hl _ hS => ⟨a, ns, rfl, hS, fun _ => rfl⟩, fun base _ _ => hF base⟩
