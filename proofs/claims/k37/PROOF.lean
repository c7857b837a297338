import PyProof.Rows.All
import Wide.All
import OpenK.AllK
import Wide.FinOn
import KE.KStateDown
import Lean
import HandS.ForMost
import HandS.Defaults
import HandS.Head0
import HandS.Head1
import HandS.Head2
import HandS.HeadEnd
import HandS.HeadHook1
import HandS.HeadHook2
import PySem.Challenge.RW_holdword_k37_whole_what_comes_was_told
import HandS.Deep
import HandS.TupAny
import HandS.Walk
import HandS.Iter
import HandS.Comp
import HandS.RevTup
import HandS.Rev
import HandS.SetKeys
import HandS.Conv
import HandS.ListItems
import KE.KDictCopyH
import KE.KDictWalk
import KE.KDictList
import PyProof.AutoSeq1
import KE.KDictPairs
import KE.SortData
import KE.KDictSum
import HandS.More
set_option Elab.async false
set_option linter.all false
set_option maxRecDepth 100000
set_option maxHeartbeats 0
namespace Hw
open PySem PySem.Spec PyProof.Rows L2
def top (i : Nat) : Stmt := PySem.Challenge.pw_holdword_k37_whole_what_comes_was_told.main.body.getD i (.Pass ⟨0, 0, 0, 0⟩)

abbrev s_name_of : Stmt := top 2
abbrev s_name_ahead : Stmt := top 3
abbrev s_by_names : Stmt := top 5
abbrev s_row_in : Stmt := top 7
abbrev s_seen_along : Stmt := top 8
abbrev s_is_did : Stmt := top 9
abbrev s_is_event : Stmt := top 10
abbrev s_event_place : Stmt := top 11
abbrev s_deed_place : Stmt := top 12
abbrev s_gap_of : Stmt := top 16
abbrev s_gap_places : Stmt := top 17
abbrev s_can_be : Stmt := top 18
abbrev s_each_once : Stmt := top 19
abbrev s_below : Stmt := top 20
abbrev s_event_places : Stmt := top 21
abbrev s_start_places : Stmt := top 22
abbrev s_begins_along : Stmt := top 23
abbrev s_places : Stmt := top 24
abbrev s_begins : Stmt := top 25
abbrev s_law_cell_at : Stmt := top 27
abbrev s_law_left : Stmt := top 28
abbrev s_law_pick : Stmt := top 29
abbrev s_law_words : Stmt := top 30
abbrev s_law_event : Stmt := top 31
abbrev s_law_clauses : Stmt := top 32
abbrev s_law_town : Stmt := top 33
abbrev s_law_deed : Stmt := top 34
abbrev s_law_name : Stmt := top 35
abbrev s_law_last : Stmt := top 36
abbrev s_law_gots : Stmt := top 37
abbrev s_law_letter : Stmt := top 38
abbrev s_law_pile : Stmt := top 39
abbrev s_law_named : Stmt := top 40
abbrev s_law_row : Stmt := top 41
abbrev s_law_sees : Stmt := top 42
abbrev s_law_is : Stmt := top 43
abbrev s_law_place : Stmt := top 44
abbrev s_law_deed_place : Stmt := top 45
abbrev s_law_start : Stmt := top 46
abbrev s_law_begin : Stmt := top 47
abbrev s_law_asked : Stmt := top 48
abbrev s_law_some : Stmt := top 49
abbrev s_law_events : Stmt := top 50
abbrev s_law_ringed : Stmt := top 51
abbrev s_law_cut : Stmt := top 52
abbrev s_law : Stmt := top 53
abbrev sm_init : Stmt := inClass (top 14) 0
abbrev sm_debtor : Stmt := inClass (top 14) 1
abbrev sm_time : Stmt := inClass (top 14) 3
abbrev sm_own_place : Stmt := inClass (top 14) 5
abbrev sm_hand_place : Stmt := inClass (top 14) 6
def d_name_of : He.DefD := ⟨("name_of", none), "name_of", "name_of", defArgs s_name_of, defBody s_name_of, defScope s_name_of, [], []⟩
def d_name_ahead : He.DefD := ⟨("name_ahead", none), "name_ahead", "name_ahead", defArgs s_name_ahead, defBody s_name_ahead, defScope s_name_ahead, [], []⟩
def d_by_names : He.DefD := ⟨("by_names", none), "by_names", "by_names", defArgs s_by_names, defBody s_by_names, defScope s_by_names, [], []⟩
def d_row_in : He.DefD := ⟨("row_in", none), "row_in", "row_in", defArgs s_row_in, defBody s_row_in, defScope s_row_in, [], []⟩
def d_seen_along : He.DefD := ⟨("seen_along", none), "seen_along", "seen_along", defArgs s_seen_along, defBody s_seen_along, defScope s_seen_along, [], []⟩
def d_is_did : He.DefD := ⟨("is_did", none), "is_did", "is_did", defArgs s_is_did, defBody s_is_did, defScope s_is_did, [], []⟩
def d_is_event : He.DefD := ⟨("is_event", none), "is_event", "is_event", defArgs s_is_event, defBody s_is_event, defScope s_is_event, [], []⟩
def d_event_place : He.DefD := ⟨("event_place", none), "event_place", "event_place", defArgs s_event_place, defBody s_event_place, defScope s_event_place, [], []⟩
def d_deed_place : He.DefD := ⟨("deed_place", none), "deed_place", "deed_place", defArgs s_deed_place, defBody s_deed_place, defScope s_deed_place, [], []⟩
def d_gap_of : He.DefD := ⟨("gap_of", none), "gap_of", "gap_of", defArgs s_gap_of, defBody s_gap_of, defScope s_gap_of, [], []⟩
def d_gap_places : He.DefD := ⟨("gap_places", none), "gap_places", "gap_places", defArgs s_gap_places, defBody s_gap_places, defScope s_gap_places, [], []⟩
def d_can_be : He.DefD := ⟨("can_be", none), "can_be", "can_be", defArgs s_can_be, defBody s_can_be, defScope s_can_be, [], []⟩
def d_each_once : He.DefD := ⟨("each_once", none), "each_once", "each_once", defArgs s_each_once, defBody s_each_once, defScope s_each_once, [], []⟩
def d_below : He.DefD := ⟨("below", none), "below", "below", defArgs s_below, defBody s_below, defScope s_below, [], []⟩
def d_event_places : He.DefD := ⟨("event_places", none), "event_places", "event_places", defArgs s_event_places, defBody s_event_places, defScope s_event_places, [], []⟩
def d_start_places : He.DefD := ⟨("start_places", none), "start_places", "start_places", defArgs s_start_places, defBody s_start_places, defScope s_start_places, [], []⟩
def d_begins_along : He.DefD := ⟨("begins_along", none), "begins_along", "begins_along", defArgs s_begins_along, defBody s_begins_along, defScope s_begins_along, [], []⟩
def d_places : He.DefD := ⟨("places", none), "places", "places", defArgs s_places, defBody s_places, defScope s_places, [], []⟩
def d_begins : He.DefD := ⟨("begins", none), "begins", "begins", defArgs s_begins, defBody s_begins, defScope s_begins, [], []⟩
def d_law_cell_at : He.DefD := ⟨("_law_cell_at", none), "_law_cell_at", "_law_cell_at", defArgs s_law_cell_at, defBody s_law_cell_at, defScope s_law_cell_at, [], []⟩
def d_law_left : He.DefD := ⟨("_law_left", none), "_law_left", "_law_left", defArgs s_law_left, defBody s_law_left, defScope s_law_left, [], []⟩
def d_law_pick : He.DefD := ⟨("_law_pick", none), "_law_pick", "_law_pick", defArgs s_law_pick, defBody s_law_pick, defScope s_law_pick, [], []⟩
def d_law_words : He.DefD := ⟨("_law_words", none), "_law_words", "_law_words", defArgs s_law_words, defBody s_law_words, defScope s_law_words, [], []⟩
def d_law_event : He.DefD := ⟨("_law_event", none), "_law_event", "_law_event", defArgs s_law_event, defBody s_law_event, defScope s_law_event, [], []⟩
def d_law_clauses : He.DefD := ⟨("_law_clauses", none), "_law_clauses", "_law_clauses", defArgs s_law_clauses, defBody s_law_clauses, defScope s_law_clauses, [], []⟩
def d_law_town : He.DefD := ⟨("_law_town", none), "_law_town", "_law_town", defArgs s_law_town, defBody s_law_town, defScope s_law_town, [], []⟩
def d_law_deed : He.DefD := ⟨("_law_deed", none), "_law_deed", "_law_deed", defArgs s_law_deed, defBody s_law_deed, defScope s_law_deed, [], []⟩
def d_law_name : He.DefD := ⟨("_law_name", none), "_law_name", "_law_name", defArgs s_law_name, defBody s_law_name, defScope s_law_name, [], []⟩
def d_law_last : He.DefD := ⟨("_law_last", none), "_law_last", "_law_last", defArgs s_law_last, defBody s_law_last, defScope s_law_last, [], []⟩
def d_law_gots : He.DefD := ⟨("_law_gots", none), "_law_gots", "_law_gots", defArgs s_law_gots, defBody s_law_gots, defScope s_law_gots, [], []⟩
def d_law_letter : He.DefD := ⟨("_law_letter", none), "_law_letter", "_law_letter", defArgs s_law_letter, defBody s_law_letter, defScope s_law_letter, [], []⟩
def d_law_pile : He.DefD := ⟨("_law_pile", none), "_law_pile", "_law_pile", defArgs s_law_pile, defBody s_law_pile, defScope s_law_pile, [], []⟩
def d_law_named : He.DefD := ⟨("_law_named", none), "_law_named", "_law_named", defArgs s_law_named, defBody s_law_named, defScope s_law_named, [], []⟩
def d_law_row : He.DefD := ⟨("_law_row", none), "_law_row", "_law_row", defArgs s_law_row, defBody s_law_row, defScope s_law_row, [], []⟩
def d_law_sees : He.DefD := ⟨("_law_sees", none), "_law_sees", "_law_sees", defArgs s_law_sees, defBody s_law_sees, defScope s_law_sees, [], []⟩
def d_law_is : He.DefD := ⟨("_law_is", none), "_law_is", "_law_is", defArgs s_law_is, defBody s_law_is, defScope s_law_is, [], []⟩
def d_law_place : He.DefD := ⟨("_law_place", none), "_law_place", "_law_place", defArgs s_law_place, defBody s_law_place, defScope s_law_place, [], []⟩
def d_law_deed_place : He.DefD := ⟨("_law_deed_place", none), "_law_deed_place", "_law_deed_place", defArgs s_law_deed_place, defBody s_law_deed_place, defScope s_law_deed_place, [], []⟩
def d_law_start : He.DefD := ⟨("_law_start", none), "_law_start", "_law_start", defArgs s_law_start, defBody s_law_start, defScope s_law_start, [], []⟩
def d_law_begin : He.DefD := ⟨("_law_begin", none), "_law_begin", "_law_begin", defArgs s_law_begin, defBody s_law_begin, defScope s_law_begin, [], []⟩
def d_law_asked : He.DefD := ⟨("_law_asked", none), "_law_asked", "_law_asked", defArgs s_law_asked, defBody s_law_asked, defScope s_law_asked, [], []⟩
def d_law_some : He.DefD := ⟨("_law_some", none), "_law_some", "_law_some", defArgs s_law_some, defBody s_law_some, defScope s_law_some, [], []⟩
def d_law_events : He.DefD := ⟨("_law_events", none), "_law_events", "_law_events", defArgs s_law_events, defBody s_law_events, defScope s_law_events, [], []⟩
def d_law_ringed : He.DefD := ⟨("_law_ringed", none), "_law_ringed", "_law_ringed", defArgs s_law_ringed, defBody s_law_ringed, defScope s_law_ringed, [], []⟩
def d_law_cut : He.DefD := ⟨("_law_cut", none), "_law_cut", "_law_cut", defArgs s_law_cut, defBody s_law_cut, defScope s_law_cut, [], []⟩
def d_law : He.DefD := ⟨("law", none), "law", "law", defArgs s_law, defBody s_law, defScope s_law, [], []⟩
def dm_init : He.DefD := ⟨("Line", some "__init__"), "__init__", "Line.__init__", defArgs sm_init, defBody sm_init, defScope sm_init, [], []⟩
def dm_debtor : He.DefD := ⟨("Line", some "debtor"), "debtor", "Line.debtor", defArgs sm_debtor, defBody sm_debtor, defScope sm_debtor, [], []⟩
def dm_time : He.DefD := ⟨("Line", some "time"), "time", "Line.time", defArgs sm_time, defBody sm_time, defScope sm_time, [], []⟩
def dm_own_place : He.DefD := ⟨("Line", some "own_place"), "own_place", "Line.own_place", defArgs sm_own_place, defBody sm_own_place, defScope sm_own_place, [], []⟩
def dm_hand_place : He.DefD := ⟨("Line", some "hand_place"), "hand_place", "Line.hand_place", defArgs sm_hand_place, defBody sm_hand_place, defScope sm_hand_place, [], []⟩
def fn : List He.DefD := [d_name_of, d_name_ahead, d_by_names, d_row_in, d_seen_along, d_is_did, d_is_event, d_event_place, d_deed_place, d_gap_of, d_gap_places, d_can_be, d_each_once, d_below, d_event_places, d_start_places, d_begins_along, d_places, d_begins, d_law_cell_at, d_law_left, d_law_pick, d_law_words, d_law_event, d_law_clauses, d_law_town, d_law_deed, d_law_name, d_law_last, d_law_gots, d_law_letter, d_law_pile, d_law_named, d_law_row, d_law_sees, d_law_is, d_law_place, d_law_deed_place, d_law_start, d_law_begin, d_law_asked, d_law_some, d_law_events, d_law_ringed, d_law_cut, d_law, dm_init, dm_debtor, dm_time, dm_own_place, dm_hand_place]
def fa : List He.Fa := [.glo "name_of", .glo "name_ahead", .glo "by_names", .glo "row_in", .glo "seen_along", .glo "is_did", .glo "is_event", .glo "event_place", .glo "deed_place", .glo "gap_of", .glo "gap_places", .glo "can_be", .glo "each_once", .glo "below", .glo "event_places", .glo "start_places", .glo "begins_along", .glo "places", .glo "begins", .glo "_law_cell_at", .glo "_law_left", .glo "_law_pick", .glo "_law_words", .glo "_law_event", .glo "_law_clauses", .glo "_law_town", .glo "_law_deed", .glo "_law_name", .glo "_law_last", .glo "_law_gots", .glo "_law_letter", .glo "_law_pile", .glo "_law_named", .glo "_law_row", .glo "_law_sees", .glo "_law_is", .glo "_law_place", .glo "_law_deed_place", .glo "_law_start", .glo "_law_begin", .glo "_law_asked", .glo "_law_some", .glo "_law_events", .glo "_law_ringed", .glo "_law_cut", .glo "law", .free "list", .free "reversed", .free "enumerate", .free "sorted", .free "dict", .free "max", .free "min", .free "any", .free "int", .free "len", .free "range", .free "tuple", .glo "Line", .cls "Line", .mkr "Line", .noat "Line" "town", .noat "Line" "house", .noat "Line" "deal", .noat "Line" "houses", .noat "Line" "others", .noat "Line" "close", .noat "Line" "clauses", .noat "Line" "row", .noat "Line" "seen", .meth "Line" "debtor", .meth "Line" "time", .meth "Line" "own_place", .meth "Line" "hand_place"]
abbrev R : PySem.W.OpenRow := PySem.W.OpenLaw.row PySem.Challenge.rw_holdword_k37_whole_what_comes_was_told
abbrev hk : PySem.W.Hook := He.hookD 5 fa fn
def ob (s : PySem.W.SharedT) : He.AlD := He.obsDG 5 fa fn (HandSHeadRun.getT s)
theorem ob_eq (s : PySem.W.SharedT) : ob s = hk.obs s.abs := He.obsDG_eq (HandSHeadRun.getT_eq s)
def lo1 : List PySem.Str := ["_wall", "name_of", "name_ahead", "by_names", "row_in", "seen_along", "is_did", "is_event", "event_place", "deed_place", "Line", "gap_of", "gap_places", "can_be", "each_once", "below", "event_places", "start_places", "begins_along", "places", "begins", "_law_cell_at", "_law_left", "_law_pick"]
def lo2 : List PySem.Str := ["_law_words", "_law_event", "_law_clauses", "_law_town", "_law_deed", "_law_name", "_law_last", "_law_gots", "_law_letter", "_law_pile", "_law_named", "_law_row", "_law_sees", "_law_is", "_law_place", "_law_deed_place", "_law_start", "_law_begin", "_law_asked", "_law_some", "_law_events", "_law_ringed", "_law_cut"]
def loose : List PySem.Str := lo1 ++ lo2
theorem run (w : World) : HandSHeadRun.RunEq R (PySem.W.view R.prog [53]) hk ob 3000 loose w := by
  intro os
  kernel_rfl
end Hw
set_option Elab.async false
set_option linter.all false
set_option maxRecDepth 100000
set_option maxHeartbeats 4000000
namespace Hw
open PySem PySem.Spec L2
abbrev St := L2.St

/-! ### heaps: G what is known and never changes, H what is tracked -/
def IsDic : HO → Prop
  | .dK _ => True
  | .dT _ => True
  | _ => False
def Sub (G H : Hp) : Prop := ∀ a o, G a = some o → H a = some o ∨ (IsDic o ∧ ∃ od, H a = some (.frz od o))
theorem Sub.self (H : Hp) : Sub H H := fun _ _ h => .inl h
theorem Sub.free {G H : Hp} (s : Sub G H) {p : Addr} (hp : H p = none) : G p = none := by
  cases h : G p with
  | none => rfl
  | some o =>
    rcases s p o h with q | ⟨_, od, q⟩ <;> (rw [hp] at q; cases q)
theorem Sub.new {G H : Hp} (s : Sub G H) {p : Addr} (hp : H p = none) (o : HO) : Sub (upd G p o) (upd H p o) := fun a u h => by
  by_cases e : a = p
  · subst e; rw [upd_same] at h ⊢; exact .inl h
  · rw [upd_ne e] at h; rw [upd_ne e]; exact s a u h
theorem Sub.tup {G H : Hp} (s : Sub G H) {a : Addr} {xs : List V} (h : G a = some (.tup xs)) : H a = some (.tup xs) := by
  rcases s a _ h with q | ⟨q, _⟩
  · exact q
  · exact q.elim
theorem Sub.lst {G H : Hp} (s : Sub G H) {a : Addr} {xs : List V} (h : G a = some (.lst xs)) : H a = some (.lst xs) := by
  rcases s a _ h with q | ⟨q, _⟩
  · exact q
  · exact q.elim
theorem Sub.ins {G H : Hp} (s : Sub G H) {a C dx : Addr} {fs : List (Str × V)} (h : G a = some (.ins C dx fs)) : H a = some (.ins C dx fs) := by
  rcases s a _ h with q | ⟨q, _⟩
  · exact q
  · exact q.elim
theorem Sub.frz {G H : Hp} (s : Sub G H) {a : Addr} {o : Obj} {u : HO} (h : G a = some (.frz o u)) : H a = some (.frz o u) := by
  rcases s a _ h with q | ⟨q, _⟩
  · exact q
  · exact q.elim
theorem Sub.rd {G H : Hp} (s : Sub G H) {a : Addr} {o : HO} (h : G a = some o) : Rd H a o := by
  rcases s a _ h with q | ⟨_, od, q⟩
  · exact .inl q
  · exact .inr ⟨od, q⟩
theorem same_new {G : Hp} {p : Addr} (hp : G p = none) (o : HO) : Same G (upd G p o) := fun a u h => by
  rw [upd_ne (ne_of_none h hp)]; exact h

/-! ### predicates that stay -/
structure MP where
  p : Hp → V → Prop
  mono : ∀ {G G' : Hp} {v : V}, Same G G' → p G v → p G' v
/-- no tuple: it may change -/
def NT (o : HO) : Prop := ∀ xs, o ≠ .tup xs
structure RP where
  p : Hp → HO → Prop
  mono : ∀ {G G' : Hp} {o : HO}, Same G G' → p G o → p G' o
  nt : ∀ {G : Hp} {o : HO}, p G o → NT o

mutual
inductive Dg (G : Hp) : V → PyData → Prop
  | non : Dg G .non .none
  | bl (b : Bool) : Dg G (.bl b) (.bool b)
  | int (i : Int) : Dg G (.int i) (.int i)
  | str (x : Str) : Dg G (.str x) (.str x)
  | lst {a : Addr} {xs : List V} {ds : List PyData} : G a = some (.lst xs) → DgA G xs ds → Dg G (.ref a) (.list ds)
  | tup {a : Addr} {xs : List V} {ds : List PyData} : G a = some (.tup xs) → DgA G xs ds → Dg G (.ref a) (.tuple ds)
inductive DgA (G : Hp) : List V → List PyData → Prop
  | nil : DgA G [] []
  | cons {v : V} {vs : List V} {d : PyData} {ds : List PyData} : Dg G v d → DgA G vs ds → DgA G (v :: vs) (d :: ds)
end
mutual
theorem Dg.mono {G G' : Hp} (e : Same G G') : ∀ (d : PyData) (v : V), Dg G v d → Dg G' v d
  | .none, _, h => by cases h; exact .non
  | .bool b, _, h => by cases h; exact .bl b
  | .int i, _, h => by cases h; exact .int i
  | .str x, _, h => by cases h; exact .str x
  | .list ds, _, h => by
    cases h with
    | lst h1 h2 => exact .lst (e _ _ h1) (DgA.mono e ds _ h2)
  | .tuple ds, _, h => by
    cases h with
    | tup h1 h2 => exact .tup (e _ _ h1) (DgA.mono e ds _ h2)
  | .dict _, _, h => by cases h
theorem DgA.mono {G G' : Hp} (e : Same G G') : ∀ (ds : List PyData) (vs : List V), DgA G vs ds → DgA G' vs ds
  | [], _, h => by cases h; exact .nil
  | d :: ds, _, h => by
    cases h with
    | cons h1 h2 => exact .cons (Dg.mono e d _ h1) (DgA.mono e ds _ h2)
end
mutual
theorem Dg.dp {K : PySem.W.Frag} {G H : Hp} (s : Sub G H) : ∀ (d : PyData) (v : V), Dg G v d → Dp K H v d
  | .none, _, h => by cases h; exact .non
  | .bool b, _, h => by cases h; exact .bl b
  | .int i, _, h => by cases h; exact .int i
  | .str x, _, h => by cases h; exact .str x
  | .list ds, _, h => by
    cases h with
    | lst h1 h2 => exact .lst (SqL.of (s.lst h1)) (DgA.dp s ds _ h2)
  | .tuple ds, _, h => by
    cases h with
    | tup h1 h2 => exact .tup (SqT.of (s.tup h1)) (DgA.dp s ds _ h2)
  | .dict _, _, h => by cases h
theorem DgA.dp {K : PySem.W.Frag} {G H : Hp} (s : Sub G H) : ∀ (ds : List PyData) (vs : List V), DgA G vs ds → DpAll K H vs ds
  | [], _, h => by cases h; exact .nil
  | d :: ds, _, h => by
    cases h with
    | cons h1 h2 => exact .cons (Dg.dp s d _ h1) (DgA.dp s ds _ h2)
end
section
variable {G : Hp}
theorem DgA.length : ∀ {vs : List V} {ds : List PyData}, DgA G vs ds → vs.length = ds.length
  | _, _, .nil => rfl
  | _, _, .cons _ t => by rw [List.length_cons, List.length_cons, DgA.length t]
theorem DgA.get : ∀ {vs : List V} {ds : List PyData} {i : Nat} {d : PyData}, DgA G vs ds → ds[i]? = some d → ∃ v, vs[i]? = some v ∧ Dg G v d
  | _, _, _, _, .nil, e => by simp at e
  | _, _, 0, _, .cons r _, e => by
    have e1 := Option.some.inj e
    subst e1
    exact ⟨_, rfl, r⟩
  | _, _, i + 1, d, .cons _ t, e => DgA.get (i := i) (d := d) t e
theorem DgA.get' : ∀ {vs : List V} {ds : List PyData} {i : Nat} {v : V}, DgA G vs ds → vs[i]? = some v → ∃ d, ds[i]? = some d ∧ Dg G v d
  | _, _, _, _, .nil, e => by simp at e
  | _, _, 0, _, .cons r _, e => by
    have e1 := Option.some.inj e
    subst e1
    exact ⟨_, rfl, r⟩
  | _, _, i + 1, v, .cons _ t, e => DgA.get' (i := i) (v := v) t e
theorem DgA.append : ∀ {vs ws : List V} {ds es : List PyData}, DgA G vs ds → DgA G ws es → DgA G (vs ++ ws) (ds ++ es)
  | _, _, _, _, .nil, s => s
  | _, _, _, _, .cons r t, s => .cons r (DgA.append t s)
theorem DgA.take : ∀ {vs : List V} {ds : List PyData} (n : Nat), DgA G vs ds → DgA G (vs.take n) (ds.take n)
  | _, _, 0, _ => .nil
  | _, _, _ + 1, .nil => .nil
  | _, _, n + 1, .cons r t => .cons r (DgA.take n t)
theorem DgA.drop : ∀ {vs : List V} {ds : List PyData} (n : Nat), DgA G vs ds → DgA G (vs.drop n) (ds.drop n)
  | _, _, 0, r => r
  | _, _, _ + 1, .nil => .nil
  | _, _, n + 1, .cons _ t => DgA.drop n t
theorem DgA.reverse : ∀ {vs : List V} {ds : List PyData}, DgA G vs ds → DgA G vs.reverse ds.reverse
  | _, _, .nil => .nil
  | _, _, .cons r t => by
    rw [List.reverse_cons, List.reverse_cons]
    exact (DgA.reverse t).append (.cons r .nil)
theorem Dg.int_eq {v : V} {i : Int} (h : Dg G v (.int i)) : v = .int i := by cases h; rfl
theorem Dg.str_eq {v : V} {i : Str} (h : Dg G v (.str i)) : v = .str i := by cases h; rfl
theorem Dg.bl_eq {v : V} {i : Bool} (h : Dg G v (.bool i)) : v = .bl i := by cases h; rfl
theorem Dg.non_eq {v : V} (h : Dg G v .none) : v = .non := by cases h; rfl
theorem Dg.tup_of {v : V} {ds : List PyData} (h : Dg G v (.tuple ds)) : ∃ a xs, v = .ref a ∧ G a = some (.tup xs) ∧ DgA G xs ds := by
  cases h with
  | tup h1 h2 => exact ⟨_, _, rfl, h1, h2⟩
theorem Dg.lst_of {v : V} {ds : List PyData} (h : Dg G v (.list ds)) : ∃ a xs, v = .ref a ∧ G a = some (.lst xs) ∧ DgA G xs ds := by
  cases h with
  | lst h1 h2 => exact ⟨_, _, rfl, h1, h2⟩
theorem DgA.ints : ∀ {vs : List V} {ns : List Int}, DgA G vs (ns.map PyData.int) → vs = ns.map V.int
  | _, [], h => by cases h; rfl
  | _, n :: ns, h => by
    cases h with
    | cons h1 h2 => rw [h1.int_eq, DgA.ints h2]; rfl
theorem DgA.strs : ∀ {vs : List V} {ns : List Str}, DgA G vs (ns.map PyData.str) → vs = ns.map V.str
  | _, [], h => by cases h; rfl
  | _, n :: ns, h => by
    cases h with
    | cons h1 h2 => rw [h1.str_eq, DgA.strs h2]; rfl
theorem DgA.bls : ∀ {vs : List V} {ns : List Bool}, DgA G vs (ns.map PyData.bool) → vs = ns.map V.bl
  | _, [], h => by cases h; rfl
  | _, n :: ns, h => by
    cases h with
    | cons h1 h2 => rw [h1.bl_eq, DgA.bls h2]; rfl
theorem DgA.of_ints : ∀ (ns : List Int), DgA G (ns.map V.int) (ns.map PyData.int)
  | [] => .nil
  | n :: ns => .cons (.int n) (DgA.of_ints ns)
theorem DgA.of_strs : ∀ (ns : List Str), DgA G (ns.map V.str) (ns.map PyData.str)
  | [] => .nil
  | n :: ns => .cons (.str n) (DgA.of_strs ns)
end

/-- data -/
def D (d : PyData) : MP := ⟨fun G v => Dg G v d, fun e h => Dg.mono e d _ h⟩
/-- this very value -/
def IsV (x : V) : MP := ⟨fun _ v => v = x, fun _ h => h⟩
/-- some x of φ -/
def Xp {α : Type} (φ : α → Prop) (P : α → MP) : MP := ⟨fun G v => ∃ x, φ x ∧ (P x).p G v, fun e ⟨x, h, k⟩ => ⟨x, h, (P x).mono e k⟩⟩
/-- no condition -/
def AnyV : MP := ⟨fun _ _ => True, fun _ h => h⟩
def MP.le (P Q : MP) : Prop := ∀ G v, P.p G v → Q.p G v
theorem MP.le.rfl {P : MP} : P.le P := fun _ _ h => h

abbrev PsA (G : Hp) : List V → List MP → Prop := Paired fun v (P : MP) => P.p G v
theorem PsA.mono {G G' : Hp} (e : Same G G') : ∀ {vs : List V} {Ps : List MP}, PsA G vs Ps → PsA G' vs Ps
  | _, _, .nil => .nil
  | _, _, .cons r t => .cons (MP.mono _ e r) (PsA.mono e t)
/-- a new tuple, a new list of such -/
def TupP (Ps : List MP) : MP := ⟨fun G v => ∃ a vs, v = .ref a ∧ G a = some (.tup vs) ∧ PsA G vs Ps, fun e ⟨a, vs, h1, h2, h3⟩ => ⟨a, vs, h1, e _ _ h2, h3.mono e⟩⟩
def LstP (Ps : List MP) : MP := ⟨fun G v => ∃ a vs, v = .ref a ∧ G a = some (.lst vs) ∧ PsA G vs Ps, fun e ⟨a, vs, h1, h2, h3⟩ => ⟨a, vs, h1, e _ _ h2, h3.mono e⟩⟩
theorem PsA.dga {G : Hp} : ∀ {vs : List V} {ds : List PyData}, PsA G vs (ds.map D) → DgA G vs ds
  | _, [], h => by cases h; exact .nil
  | _, d :: ds, h => by
    cases h with
    | cons h1 h2 => exact .cons h1 (PsA.dga h2)
theorem DgA.psa {G : Hp} : ∀ {vs : List V} {ds : List PyData}, DgA G vs ds → PsA G vs (ds.map D)
  | _, _, .nil => .nil
  | _, _, .cons r t => .cons r (DgA.psa t)
theorem tupP_D {ds : List PyData} : (TupP (ds.map D)).le (D (.tuple ds)) := fun G v ⟨a, vs, h1, h2, h3⟩ => by
  subst h1; exact .tup h2 h3.dga
theorem lstP_D {ds : List PyData} : (LstP (ds.map D)).le (D (.list ds)) := fun G v ⟨a, vs, h1, h2, h3⟩ => by
  subst h1; exact .lst h2 h3.dga

/-! ### resources: what may change -/
structure Rs where
  a : Addr
  φ : RP
  loc : Bool
def Live (L : List Rs) (G H : Hp) : Prop := (L.map Rs.a).Nodup ∧ ∀ r ∈ L, G r.a = none ∧ ∃ o, H r.a = some o ∧ r.φ.p G o
/-- an entry -/
structure Ent where
  L : List Rs
  G : Hp
  H : Hp
abbrev Ty := List (Option MP)
def Env (Γ : Ty) (σ : St) (G : Hp) : Prop := ∀ (i : Nat) (P : MP), Γ[i]? = some (some P) → ∃ v, σ[i]? = some (some v) ∧ P.p G v
theorem Env.mono {Γ : Ty} {σ : St} {G G' : Hp} (e : Same G G') (h : Env Γ σ G) : Env Γ σ G' := fun i P hi => by
  obtain ⟨v, h1, h2⟩ := h i P hi
  exact ⟨v, h1, P.mono e h2⟩
/-- since the entry -/
structure Stp (E : Ent) (G H : Hp) : Prop where
  gg : Same E.G G
  keep : ∀ a o, E.H a = some o → a ∉ E.L.map Rs.a → H a = some o
  old : ∀ a o, E.G a = none → E.H a = some o → NT o → G a = none
structure Stt (E : Ent) (L : List Rs) (Γ : Ty) (σ : St) (G H : Hp) : Prop where
  env : Env Γ σ G
  len : σ.length = Γ.length
  sub : Sub G H
  live : Live L G H
  stp : Stp E G H
  inh : ∀ r ∈ E.L, r ∈ L ∧ r.loc = false
  loc : ∀ r ∈ L, r.loc = true → E.H r.a = none
  own : ∀ r ∈ L, r.loc = false → r ∈ E.L
  nde : (E.L.map Rs.a).Nodup
/-- from here to there: all that was known is known, all but the resources is kept -/
structure Nxt (L : List Rs) (G H G' H' : Hp) : Prop where
  gg : Same G G'
  keep : ∀ a o, H a = some o → a ∉ L.map Rs.a → H' a = some o
  old : ∀ a o, G a = none → H a = some o → NT o → G' a = none
theorem Nxt.refl {L : List Rs} {G H : Hp} : Nxt L G H G H := ⟨Same.refl G, fun _ _ h _ => h, fun _ _ h _ _ => h⟩
section
variable {E : Ent} {L : List Rs} {Γ : Ty} {σ : St} {G H G' H' G2 H2 : Hp}
theorem Stt.there (T : Stt E L Γ σ G H) {a : Addr} (h : E.H a ≠ none) : H a ≠ none := by
  cases q : E.H a with
  | none => exact absurd q h
  | some o =>
    by_cases hm : a ∈ E.L.map Rs.a
    · obtain ⟨r, hr, e⟩ := List.mem_map.mp hm
      obtain ⟨_, o', h1, _⟩ := T.live.2 r (T.inh r hr).1
      rw [← e, h1]; exact fun z => nomatch z
    · rw [T.stp.keep a o q hm]; exact fun z => nomatch z
theorem Stt.thereN (T : Stt E L Γ σ G H) {a : Addr} {o : HO} (h : E.H a = some o) (hn : NT o) : ∃ o', H a = some o' ∧ NT o' := by
  by_cases hm : a ∈ E.L.map Rs.a
  · obtain ⟨r, hr, e⟩ := List.mem_map.mp hm
    obtain ⟨_, o', h1, h2⟩ := T.live.2 r (T.inh r hr).1
    exact ⟨o', by rw [← e]; exact h1, r.φ.nt h2⟩
  · exact ⟨o, T.stp.keep a o h hm, hn⟩
theorem Stt.fresh (T : Stt E L Γ σ G H) {a : Addr} (h : H a = none) : E.H a = none := by
  cases q : E.H a with
  | none => rfl
  | some o => exact absurd h (T.there (by rw [q]; exact fun z => nomatch z))
/-- what a step leaves of the state -/
theorem Stt.next (T : Stt E L Γ σ G H) (N : Nxt L G H G' H') (s : Sub G' H') (l : Live L G' H') : Stt E L Γ σ G' H' where
  env := T.env.mono N.gg
  len := T.len
  sub := s
  live := l
  stp := {
    gg := T.stp.gg.trans N.gg
    keep := fun a o h hm => by
      have h1 := T.stp.keep a o h hm
      refine N.keep a o h1 fun hl => ?_
      obtain ⟨r, hr, e⟩ := List.mem_map.mp hl
      cases hb : r.loc with
      | true => have q := T.loc r hr hb; rw [e, h] at q; cases q
      | false => exact hm (by rw [← e]; exact List.mem_map.mpr ⟨r, T.own r hr hb, rfl⟩)
    old := fun a o h1 h2 hn => by
      obtain ⟨o', h3, h4⟩ := T.thereN h2 hn
      exact N.old a o' (T.stp.old a o h1 h2 hn) h3 h4 }
  inh := T.inh
  loc := T.loc
  own := T.own
  nde := T.nde
theorem Nxt.trans (T : Live L G H) (a : Nxt L G H G' H') (l : Live L G' H') (b : Nxt L G' H' G2 H2) : Nxt L G H G2 H2 where
  gg := a.gg.trans b.gg
  keep := fun c o h hm => b.keep c o (a.keep c o h hm) hm
  old := fun c o h1 h2 hn => by
    by_cases hm : c ∈ L.map Rs.a
    · obtain ⟨r, hr, e⟩ := List.mem_map.mp hm
      obtain ⟨_, o', h3, h4⟩ := l.2 r hr
      exact b.old c o' (a.old c o h1 h2 hn) (by rw [← e]; exact h3) (r.φ.nt h4)
    · exact b.old c o (a.old c o h1 h2 hn) (a.keep c o h2 hm) hn
theorem Live.new (l : Live L G H) {p : Addr} (hp : H p = none) (hg : G p = none) (o : HO) : Live L (upd G p o) (upd H p o) :=
  ⟨l.1, fun r hr => by
    obtain ⟨h1, o', h2, h3⟩ := l.2 r hr
    have e : r.a ≠ p := ne_of_none h2 hp
    exact ⟨by rw [upd_ne e]; exact h1, o', by rw [upd_ne e]; exact h2, r.φ.mono (same_new hg o) h3⟩⟩
/-- a new object that is known from now on -/
theorem Nxt.new (s : Sub G H) {p : Addr} (hp : H p = none) (o : HO) : Nxt L G H (upd G p o) (upd H p o) where
  gg := same_new (s.free hp) o
  keep := fun a u h _ => by rw [upd_ne (ne_of_none h hp)]; exact h
  old := fun a o h1 h2 _ => by rw [upd_ne (ne_of_none h2 hp)]; exact h1
theorem Stt.new (T : Stt E L Γ σ G H) {p : Addr} (hp : H p = none) (o : HO) : Stt E L Γ σ (upd G p o) (upd H p o) :=
  T.next (Nxt.new T.sub hp o) (T.sub.new hp o) (T.live.new hp (T.sub.free hp) o)
theorem Stt.set (T : Stt E L Γ σ G H) (i : Nat) {P : MP} {v : V} (h : P.p G v) : Stt E L (Γ.set i (some P)) (σ.set i (some v)) G H where
  env := fun j Q hj => by
    by_cases e : j = i
    · subst e
      have hl : j < Γ.length := by
        have q := (List.getElem?_eq_some_iff.mp hj).1
        simpa using q
      rw [List.getElem?_set_self hl] at hj
      cases hj
      exact ⟨v, by rw [List.getElem?_set_self (by rw [T.len]; exact hl)], h⟩
    · rw [List.getElem?_set_ne (fun z => e z.symm)] at hj
      obtain ⟨w, h1, h2⟩ := T.env j Q hj
      exact ⟨w, by rw [List.getElem?_set_ne (fun z => e z.symm)]; exact h1, h2⟩
  len := by rw [List.length_set, List.length_set, T.len]
  sub := T.sub
  live := T.live
  stp := T.stp
  inh := T.inh
  loc := T.loc
  own := T.own
  nde := T.nde
/-- another typing of the slots -/
theorem Stt.retype (T : Stt E L Γ σ G H) {Γ' : Ty} (e : Env Γ' σ G) (hl : Γ'.length = Γ.length) : Stt E L Γ' σ G H :=
  ⟨e, T.len.trans hl.symm, T.sub, T.live, T.stp, T.inh, T.loc, T.own, T.nde⟩
theorem Stt.get (T : Stt E L Γ σ G H) {i : Nat} {P : MP} (h : Γ[i]? = some (some P)) : ∃ v, σ[i]? = some (some v) ∧ P.p G v := T.env i P h
end

/-! ### contexts -/
structure Sx where
  P : Program
  w : World
  K : PySem.W.Frag
  mg : Str → Option Value
  base : Heap
structure Fx extends Sx where
  N : List Str
  sc : Scope
  k : Nat
  fc : Str → Bool := fun _ => true
structure Cin (F : Fx) (X : Cx) : Prop where
  prog : X.prog = F.P
  w : X.w = F.w
  K : X.K = F.K
  mg : X.mg = F.mg
  base : X.base = F.base
  N : X.N = F.N
  sc : X.env.scope = F.sc
  calm : X.calm = true
  room : Room F.k X.A
  fn : ∀ x, F.fc x = true → X.fn x = true
  xe : X.xe = fun _ _ => False
  nd : F.N.Nodup
section
variable {F : Fx} {X : Cx}
theorem Cin.own (h : Cin F X) : PassesOwn (model X.prog X.w) X.A X.env X.xe := by
  rw [h.xe]; exact PassesOwn.never
theorem Cin.vis (h : Cin F X) {x : Str} (v : Vis F.sc x) : Vis X.env.scope x := by rw [h.sc]; exact v
theorem Cin.loc (h : Cin F X) {x : Str} (v : Loc F.sc x) : Loc X.env.scope x := by rw [h.sc]; exact v
theorem Cin.gl (h : Cin F X) {x : Str} (v : F.sc.names.lookup x = some .globalImplicit) : Gl X x := by
  show X.env.scope.names.lookup x = _
  rw [h.sc]; exact v
theorem Cin.hu (h : Cin F X) : X.A.units + 1 < cLine := hu_of h.room
theorem Cin.hu64 (h : Cin F X) : X.A.units + 64 < cLine := h.room.units
theorem Cin.hu65 (h : Cin F X) : X.A.units + 65 < cLine := by have := h.room.un; omega
/-- a name that is stored here -/
def Lo (F : Fx) (x : Str) : Prop := F.sc.names.lookup x = some .local ∨ (F.sc.names.lookup x = some .cell ∧ F.fc x = true)
theorem Lo.loc {x : Str} (v : Lo F x) : Loc F.sc x := v.elim .inl fun z => .inr z.1
theorem Cin.fnl (h : Cin F X) {x : Str} (v : Lo F x) : X.fn x = true ∨ X.env.scope.names.lookup x = some .local := by
  rcases v with v | v
  · right; rw [h.sc]; exact v
  · exact .inl (h.fn x v.2)
end
/-- the context of a comprehension's block -/
def Fx.blk (F : Fx) (scope : Scope) : Fx := { F with sc := relS scope F.sc, fc := fun x => scope.names.lookup x == some .cell }

/-! ### the weakest readings -/
@[irreducible] def WE (F : Fx) (e : Expr) : TE := fun σ H Q => ∀ X, Cin F X → ∀ pins s, Inv X pins σ H s → wpAny (model X.prog X.w) X.A (eval e X.env) (EP X pins σ Q) X.xe s
@[irreducible] def WT (F : Fx) (e : Expr) : TT := fun σ H Q => ∀ X, Cin F X → ∀ pins s, Inv X pins σ H s → wpAny (model X.prog X.w) X.A (isTrue e X.env (eval e X.env)) (TP X pins σ Q) X.xe s
@[irreducible] def WA (F : Fx) (es : List Expr) : TA := fun σ H Q => ∀ X, Cin F X → ∀ pos pins s, Inv X pins σ H s → wpAny (model X.prog X.w) X.A (spliced (backTo pos (starEach es X.env))) (AP X pins σ Q) X.xe s
@[irreducible] def W1 (F : Fx) (st : Stmt) : TS := fun D σ H => ∀ X, Cin F X → ∀ pins s, Inv X pins σ H s → wpAny (model X.prog X.w) X.A (exec st X.env) (SP X pins D) X.xe s
@[irreducible] def WS (F : Fx) (st : List Stmt) : TS := fun D σ H => ∀ X, Cin F X → ∀ pins s, Inv X pins σ H s → wpAny (model X.prog X.w) X.A (execs st X.env) (SP X pins D) X.xe s
@[irreducible] def WG (F : Fx) (tg : Expr) : TG := fun v σ H Q => ∀ X, Cin F X → ∀ pins s u, Inv X pins σ H s → RelV v u → wpAny (model X.prog X.w) X.A (assign tg X.env u) (fun _ s' => ∃ σ' H', Inv X pins σ' H' s' ∧ Q σ' H') X.xe s
@[irreducible] def WTs (F : Fx) (ifs : List Expr) : TT := fun σ H Q => ∀ X, Cin F X → ∀ pins s, Inv X pins σ H s →
  wpAny (model X.prog X.w) X.A (forIn ifs true fun c r => if r = true then do let ok ← isTrue c X.env (eval c X.env); pure (ForInStep.yield ok) else pure (ForInStep.yield r)) (TP X pins σ Q) X.xe s
section
variable {F : Fx} {X : Cx} {σ : St} {H : Hp}
theorem pe_we (h : Cin F X) {e : Expr} : PE X e (WE F e) := ⟨fun pins s _ _ _ I q => by unfold WE at q; exact q X h pins s I⟩
theorem pt_wt (h : Cin F X) {e : Expr} : PT X e (WT F e) := ⟨fun pins s _ _ _ I q => by unfold WT at q; exact q X h pins s I⟩
theorem pa_wa (h : Cin F X) {e : List Expr} : PA X e (WA F e) := ⟨fun pos pins s _ _ _ I q => by unfold WA at q; exact q X h pos pins s I⟩
theorem ps_w1 (h : Cin F X) {e : Stmt} : PS X e (W1 F e) := ⟨fun pins s _ _ _ I q => by unfold W1 at q; exact q X h pins s I⟩
theorem ps_ws (h : Cin F X) {e : List Stmt} : PSs X e (WS F e) := ⟨fun pins s _ _ _ I q => by unfold WS at q; exact q X h pins s I⟩
theorem pg_wg (h : Cin F X) {e : Expr} : PG X e (WG F e) := ⟨fun pins s _ _ _ u _ I r q => by unfold WG at q; exact q X h pins s u I r⟩
theorem pts_wts (h : Cin F X) {e : List Expr} : PTs X e (WTs F e) := ⟨fun pins s _ _ _ I q => by unfold WTs at q; exact q X h pins s I⟩
theorem we_pe {e : Expr} {t : TE} (h : ∀ X, Cin F X → PE X e t) {Q : VK} (q : t σ H Q) : WE F e σ H Q := by unfold WE; exact fun X hX pins s I => (h X hX).run pins s σ H Q I q
theorem wt_pt {e : Expr} {t : TT} (h : ∀ X, Cin F X → PT X e t) {Q : Bool → Hp → Prop} (q : t σ H Q) : WT F e σ H Q := by unfold WT; exact fun X hX pins s I => (h X hX).run pins s σ H Q I q
theorem wa_pa {e : List Expr} {t : TA} (h : ∀ X, Cin F X → PA X e t) {Q : List V → Hp → Prop} (q : t σ H Q) : WA F e σ H Q := by unfold WA; exact fun X hX pos pins s I => (h X hX).run pos pins s σ H Q I q
theorem w1_ps {e : Stmt} {t : TS} (h : ∀ X, Cin F X → PS X e t) {D : Ends} (q : t D σ H) : W1 F e D σ H := by unfold W1; exact fun X hX pins s I => (h X hX).run pins s σ H D I q
theorem ws_ps {e : List Stmt} {t : TS} (h : ∀ X, Cin F X → PSs X e t) {D : Ends} (q : t D σ H) : WS F e D σ H := by unfold WS; exact fun X hX pins s I => (h X hX).run pins s σ H D I q
theorem wg_pg {e : Expr} {t : TG} (h : ∀ X, Cin F X → PG X e t) {v : V} {Q : St → Hp → Prop} (q : t v σ H Q) : WG F e v σ H Q := by unfold WG; exact fun X hX pins s u I r => (h X hX).run pins s σ H v u Q I r q
theorem wts_pts {e : List Expr} {t : TT} (h : ∀ X, Cin F X → PTs X e t) {Q : Bool → Hp → Prop} (q : t σ H Q) : WTs F e σ H Q := by unfold WTs; exact fun X hX pins s I => (h X hX).run pins s σ H Q I q
theorem ws_cons {st : Stmt} {rest : List Stmt} {D : Ends} (q : W1 F st { D with nx := WS F rest D } σ H) : WS F (st :: rest) D σ H :=
  ws_ps (t := tSeq (W1 F st) (WS F rest)) (fun X hX => pss_cons (ps_w1 hX) (ps_ws hX)) q
theorem ws_nil {D : Ends} (q : D.nx σ H) : WS F [] D σ H := ws_ps (t := tNext) (fun X hX => pss_nil) q
end

/-! ### the judgements -/
/-- e evaluates to a value of P -/
def Ev (F : Fx) (L : List Rs) (Γ : Ty) (e : Expr) (P : MP) : Prop := ∀ E σ G H, Stt E L Γ σ G H → ∀ Q : VK, (∀ v G' H', Nxt L G H G' H' → Stt E L Γ σ G' H' → P.p G' v → Q v H') → WE F e σ H Q
def Ea (F : Fx) (L : List Rs) (Γ : Ty) (es : List Expr) (Ps : List MP) : Prop := ∀ E σ G H, Stt E L Γ σ G H → ∀ Q : List V → Hp → Prop, (∀ vs G' H', Nxt L G H G' H' → Stt E L Γ σ G' H' → PsA G' vs Ps → Q vs H') → WA F es σ H Q
def Et (F : Fx) (L : List Rs) (Γ : Ty) (e : Expr) (T : Bool → Prop) : Prop := ∀ E σ G H, Stt E L Γ σ G H → ∀ Q : Bool → Hp → Prop, (∀ b G' H', Nxt L G H G' H' → Stt E L Γ σ G' H' → T b → Q b H') → WT F e σ H Q
/-- sts falls through to a typing of N, or returns a value of R -/
def Hr (F : Fx) (L : List Rs) (Γ : Ty) (sts : List Stmt) (N : List Rs → Ty → Prop) (R : MP) : Prop := ∀ E σ G H, Stt E L Γ σ G H → ∀ D : Ends,
  (∀ L' Γ' σ' G' H', N L' Γ' → Stt E L' Γ' σ' G' H' → D.nx σ' H') → (∀ v G' H', Stp E G' H' → Sub G' H' → Live E.L G' H' → R.p G' v → D.rt v H') → WS F sts D σ H
section
variable {F : Fx} {L : List Rs} {Γ : Ty} {e a b : Expr} {es : List Expr} {P Q : MP} {pos : Pos}
theorem Ev.le (h : Ev F L Γ e P) (q : P.le Q) : Ev F L Γ e Q := fun E σ G H T K k => h E σ G H T K fun v G' H' n T' p => k v G' H' n T' (q _ _ p)
theorem Ev.eq {d d' : PyData} (h : Ev F L Γ e (D d)) (q : d = d') : Ev F L Γ e (D d') := q ▸ h
theorem ev_v (i : Nat) {x : Str} (h : Γ[i]? = some (some P) := by rfl) (hN : F.N[i]? = some x := by rfl) (hv : Vis F.sc x := by first | exact Or.inl rfl | exact Or.inr (Or.inl rfl) | exact Or.inr (Or.inr rfl))
    (hd : (x == ("__debug__" : Str)) = false := by decide) (hcd : (x == ("__classdict__" : Str)) = false := by decide) : Ev F L Γ (.Name x pos) P := fun E σ G H T K k => by
  obtain ⟨v, h1, h2⟩ := T.get h
  exact we_pe (t := tVar i) (fun X hX => pe_var (by rw [hX.N]; exact hN) (hX.vis hv) hd hcd) ⟨v, h1, k v G H .refl T h2⟩
theorem ev_int {i : Int} {j : Nat} : Ev F L Γ (.Constant (.int i) j pos) (D (.int i)) := fun E σ G H T K k => we_pe (t := tC (.int i)) (fun _ _ => pe_int) (k _ G H .refl T (.int i))
theorem ev_str {x : Str} {j : Nat} : Ev F L Γ (.Constant (.str x) j pos) (D (.str x)) := fun E σ G H T K k => we_pe (t := tC (.str x)) (fun _ _ => pe_str) (k _ G H .refl T (.str x))
theorem ev_bl {x : Bool} {j : Nat} : Ev F L Γ (.Constant (.bool x) j pos) (D (.bool x)) := fun E σ G H T K k => we_pe (t := tC (.bl x)) (fun _ _ => pe_bl) (k _ G H .refl T (.bl x))
theorem ev_non {j : Nat} : Ev F L Γ (.Constant .none j pos) (D .none) := fun E σ G H T K k => we_pe (t := tC .non) (fun _ _ => pe_non) (k _ G H .refl T .non)
theorem ea_nil : Ea F L Γ [] [] := fun E σ G H T K k => wa_pa (t := tNil) (fun _ _ => pa_nil) (k [] G H .refl T .nil)
theorem ea_cons {Ps : List MP} (h1 : Ev F L Γ e P) (h2 : Ea F L Γ es Ps) (hs : ∀ env, starEach (e :: es) env = (false, eval e env) :: starEach es env := by intro _; rfl) : Ea F L Γ (e :: es) (P :: Ps) := fun E σ G H T K k => by
  refine wa_pa (t := tCons (WE F e) (WA F es)) (fun X hX => pa_cons (pe_we hX) (pa_wa hX) (hs _)) ?_
  refine h1 E σ G H T _ fun v G1 H1 n1 T1 p1 => ?_
  exact h2 E σ G1 H1 T1 _ fun vs G2 H2 n2 T2 p2 => k (v :: vs) G2 H2 (n1.trans T.live T1.live n2) T2 (.cons (P.mono n2.gg p1) p2)
theorem PsA.length {G : Hp} : ∀ {vs : List V} {Ps : List MP}, PsA G vs Ps → vs.length = Ps.length
  | _, _, .nil => rfl
  | _, _, .cons _ t => by rw [List.length_cons, List.length_cons, PsA.length t]
theorem small {n : Nat} (h : n ≤ 100000) : n ≤ sizeLine := Nat.le_trans h (by decide)
theorem ev_tupP {Ps : List MP} {x1 : Nat} (h : Ea F L Γ es Ps) (hl : Ps.length ≤ 100000 := by first | decide | simp) : Ev F L Γ (.Tuple es x1 pos) (TupP Ps) := fun E σ G H T K k => by
  refine we_pe (t := tTup (WA F es)) (fun X hX => pe_tup (pa_wa hX)) ?_
  refine h E σ G H T _ fun vs G1 H1 n1 T1 p1 => ⟨small (by rw [PsA.length p1]; exact hl), fun p hp => ?_⟩
  exact k _ _ _ (n1.trans T.live T1.live (.new T1.sub hp _)) (T1.new hp _) ⟨p, vs, rfl, upd_same, p1.mono (same_new (T1.sub.free hp) _)⟩
theorem ev_lstP {Ps : List MP} (h : Ea F L Γ es Ps) (hl : Ps.length ≤ 100000 := by first | decide | simp) : Ev F L Γ (.List es pos) (LstP Ps) := fun E σ G H T K k => by
  refine we_pe (t := tLst (WA F es)) (fun X hX => pe_lst (pa_wa hX)) ?_
  refine h E σ G H T _ fun vs G1 H1 n1 T1 p1 => ⟨small (by rw [PsA.length p1]; exact hl), fun p hp => ?_⟩
  exact k _ _ _ (n1.trans T.live T1.live (.new T1.sub hp _)) (T1.new hp _) ⟨p, vs, rfl, upd_same, p1.mono (same_new (T1.sub.free hp) _)⟩
theorem ev_tup {ds : List PyData} {x1 : Nat} (h : Ea F L Γ es (ds.map D)) (hl : ds.length ≤ 100000 := by first | decide | simp) : Ev F L Γ (.Tuple es x1 pos) (D (.tuple ds)) := (ev_tupP h (by rw [List.length_map]; exact hl)).le tupP_D
theorem ev_lst {ds : List PyData} (h : Ea F L Γ es (ds.map D)) (hl : ds.length ≤ 100000 := by first | decide | simp) : Ev F L Γ (.List es pos) (D (.list ds)) := (ev_lstP h (by rw [List.length_map]; exact hl)).le lstP_D
/-- an operation by values -/
def Rv (L : List Rs) (r : R2) (P Q R : MP) : Prop := ∀ E Γ σ G H, Stt E L Γ σ G H → ∀ x y, P.p G x → Q.p G y → ∀ K : VK, (∀ v G' H', Nxt L G H G' H' → Stt E L Γ σ G' H' → R.p G' v → K v H') → r x y H K
theorem we_op {r : R2} {R : MP} {ex : Expr} (he : ∀ X, Cin F X → PE X ex (tOp r (WE F a) (WE F b))) (ha : Ev F L Γ a P) (hb : Ev F L Γ b Q) (hr : Rv L r P Q R) : Ev F L Γ ex R := fun E σ G H T K k => by
  refine we_pe he ?_
  refine ha E σ G H T _ fun x G1 H1 n1 T1 p1 => hb E σ G1 H1 T1 _ fun y G2 H2 n2 T2 p2 => ?_
  have n12 := n1.trans T.live T1.live n2
  exact hr E Γ σ G2 H2 T2 x y (P.mono n2.gg p1) p2 K fun v G3 H3 n3 T3 p3 => k v G3 H3 (n12.trans T.live T2.live n3) T3 p3
end
end Hw
set_option Elab.async false
set_option linter.all false
set_option maxRecDepth 100000
set_option maxHeartbeats 4000000
namespace Hw
open PySem PySem.Spec L2

/-- a truth of T -/
def BoolP (T : Bool → Prop) : MP := Xp T fun c => D (.bool c)
theorem BoolP.of {T : Bool → Prop} {c : Bool} (h : T c) : (D (.bool c)).le (BoolP T) := fun G v p => ⟨c, h, p⟩
/-- an int of φ -/
def IntP (φ : Int → Prop) : MP := Xp φ fun z => D (.int z)
theorem IntP.of {φ : Int → Prop} {z : Int} (h : φ z) : (D (.int z)).le (IntP φ) := fun G v p => ⟨z, h, p⟩
theorem IntP.le {φ ψ : Int → Prop} (h : ∀ z, φ z → ψ z) : (IntP φ).le (IntP ψ) := fun G v ⟨z, hz, p⟩ => ⟨z, h z hz, p⟩
theorem Xp.le {α β : Type} {φ : α → Prop} {P : α → MP} {Q : MP} (h : ∀ x, φ x → (P x).le Q) : (Xp φ P).le Q := fun G v ⟨x, hx, p⟩ => h x hx G v p
theorem Xp.of {α : Type} {φ : α → Prop} {P : α → MP} {x : α} (h : φ x) : (P x).le (Xp φ P) := fun G v p => ⟨x, h, p⟩
theorem MP.le.trans {P Q R : MP} (a : P.le Q) (b : Q.le R) : P.le R := fun G v h => b G v (a G v h)

section
variable {F : Fx} {L : List Rs} {Γ : Ty} {e a b c : Expr} {es : List Expr} {P Q R : MP} {pos p2 : Pos} {r : R2}
theorem Rv.le (h : Rv L r P Q R) {R' : MP} (q : R.le R') : Rv L r P Q R' := fun E Γ σ G H T x y p1 p2 K k => h E Γ σ G H T x y p1 p2 K fun v G' H' n T' p => k v G' H' n T' (q _ _ p)
theorem rv_exL {α : Type} {φ : α → Prop} {P : α → MP} (h : ∀ x, φ x → Rv L r (P x) Q R) : Rv L r (Xp φ P) Q R := fun E Γ σ G H T x y ⟨z, hz, p1⟩ p2 K k => h z hz E Γ σ G H T x y p1 p2 K k
theorem rv_exR {α : Type} {φ : α → Prop} {Q : α → MP} (h : ∀ x, φ x → Rv L r P (Q x) R) : Rv L r P (Xp φ Q) R := fun E Γ σ G H T x y p1 ⟨z, hz, p2⟩ K k => h z hz E Γ σ G H T x y p1 p2 K k
/-- an operation of two ints -/
theorem rv_I {C : Int → Int → Prop} {g : Int → Int → V} {d : PyData} {i j : Int} (hc : C i j) (hd : ∀ G, Dg G (g i j) d) : Rv L (rI C g) (D (.int i)) (D (.int j)) (D d) := fun E Γ σ G H T x y p1 p2 K k =>
  ⟨i, j, p1.int_eq, p2.int_eq, hc, k _ G H .refl T (hd G)⟩
theorem rv_I0 {g : Int → Int → V} {d : PyData} {i j : Int} (hd : ∀ G, Dg G (g i j) d) : Rv L (rI0 g) (D (.int i)) (D (.int j)) (D d) := fun E Γ σ G H T x y p1 p2 K k =>
  ⟨i, j, p1.int_eq, p2.int_eq, k _ G H .refl T (hd G)⟩
theorem ev_addR (ha : Ev F L Γ a P) (hb : Ev F L Γ b Q) (hr : Rv L (rI0 fun i j => .int (i + j)) P Q R) : Ev F L Γ (.BinOp a .Add b pos) R := we_op (fun X hX => pe_op op_add (pe_we hX) (pe_we hX)) ha hb hr
theorem ev_subR (ha : Ev F L Γ a P) (hb : Ev F L Γ b Q) (hr : Rv L (rI0 fun i j => .int (i - j)) P Q R) : Ev F L Γ (.BinOp a .Sub b pos) R := we_op (fun X hX => pe_op op_sub (pe_we hX) (pe_we hX)) ha hb hr
theorem ev_mulR (ha : Ev F L Γ a P) (hb : Ev F L Γ b Q) (hr : Rv L (rI CMul fun i j => .int (i * j)) P Q R) : Ev F L Γ (.BinOp a .Mult b pos) R := we_op (fun X hX => pe_op op_mul (pe_we hX) (pe_we hX)) ha hb hr
theorem ev_modR (ha : Ev F L Γ a P) (hb : Ev F L Γ b Q) (hr : Rv L (rI (fun _ j => 0 < j) fun i j => .int (i % j)) P Q R) : Ev F L Γ (.BinOp a .Mod b pos) R := we_op (fun X hX => pe_op op_mod (pe_we hX) (pe_we hX)) ha hb hr
theorem ev_fdivR (ha : Ev F L Γ a P) (hb : Ev F L Γ b Q) (hr : Rv L (rI CDiv fun i j => .int (i / j)) P Q R) : Ev F L Γ (.BinOp a .FloorDiv b pos) R := we_op (fun X hX => pe_op op_fdiv (pe_we hX) (pe_we hX)) ha hb hr
theorem ev_powR (ha : Ev F L Γ a P) (hb : Ev F L Γ b Q) (hr : Rv L (rI CPow fun i j => .int (i ^ j.toNat)) P Q R) : Ev F L Γ (.BinOp a .Pow b pos) R := we_op (fun X hX => pe_op op_pow (pe_we hX) (pe_we hX)) ha hb hr
variable {i j : Int}
theorem ev_add (ha : Ev F L Γ a (D (.int i))) (hb : Ev F L Γ b (D (.int j))) : Ev F L Γ (.BinOp a .Add b pos) (D (.int (i + j))) := ev_addR ha hb (rv_I0 fun _ => .int _)
theorem ev_sub (ha : Ev F L Γ a (D (.int i))) (hb : Ev F L Γ b (D (.int j))) : Ev F L Γ (.BinOp a .Sub b pos) (D (.int (i - j))) := ev_subR ha hb (rv_I0 fun _ => .int _)
theorem ev_mul (ha : Ev F L Γ a (D (.int i))) (hb : Ev F L Γ b (D (.int j))) (hc : CMul i j) : Ev F L Γ (.BinOp a .Mult b pos) (D (.int (i * j))) := ev_mulR ha hb (rv_I hc fun _ => .int _)
theorem ev_mod (ha : Ev F L Γ a (D (.int i))) (hb : Ev F L Γ b (D (.int j))) (hc : 0 < j) : Ev F L Γ (.BinOp a .Mod b pos) (D (.int (i % j))) := ev_modR ha hb (rv_I hc fun _ => .int _)
theorem ev_fdiv (ha : Ev F L Γ a (D (.int i))) (hb : Ev F L Γ b (D (.int j))) (hc : CDiv i j) : Ev F L Γ (.BinOp a .FloorDiv b pos) (D (.int (i / j))) := ev_fdivR ha hb (rv_I hc fun _ => .int _)
theorem ev_pow (ha : Ev F L Γ a (D (.int i))) (hb : Ev F L Γ b (D (.int j))) (hc : CPow i j) : Ev F L Γ (.BinOp a .Pow b pos) (D (.int (i ^ j.toNat))) := ev_powR ha hb (rv_I hc fun _ => .int _)
/-- ints of some kind -/
theorem ev_addI {φ ψ χ : Int → Prop} (ha : Ev F L Γ a (IntP φ)) (hb : Ev F L Γ b (IntP ψ)) (h : ∀ i j, φ i → ψ j → χ (i + j)) : Ev F L Γ (.BinOp a .Add b pos) (IntP χ) :=
  ev_addR ha hb (rv_exL fun i hi => rv_exR fun j hj => (rv_I0 fun _ => .int _).le (IntP.of (h i j hi hj)))
theorem ev_subI {φ ψ χ : Int → Prop} (ha : Ev F L Γ a (IntP φ)) (hb : Ev F L Γ b (IntP ψ)) (h : ∀ i j, φ i → ψ j → χ (i - j)) : Ev F L Γ (.BinOp a .Sub b pos) (IntP χ) :=
  ev_subR ha hb (rv_exL fun i hi => rv_exR fun j hj => (rv_I0 fun _ => .int _).le (IntP.of (h i j hi hj)))
theorem ev_mulI {φ ψ χ : Int → Prop} (ha : Ev F L Γ a (IntP φ)) (hb : Ev F L Γ b (IntP ψ)) (h : ∀ i j, φ i → ψ j → CMul i j ∧ χ (i * j)) : Ev F L Γ (.BinOp a .Mult b pos) (IntP χ) :=
  ev_mulR ha hb (rv_exL fun i hi => rv_exR fun j hj => (rv_I (h i j hi hj).1 fun _ => .int _).le (IntP.of (h i j hi hj).2))
theorem ev_modI {φ ψ χ : Int → Prop} (ha : Ev F L Γ a (IntP φ)) (hb : Ev F L Γ b (IntP ψ)) (h : ∀ i j, φ i → ψ j → 0 < j ∧ χ (i % j)) : Ev F L Γ (.BinOp a .Mod b pos) (IntP χ) :=
  ev_modR ha hb (rv_exL fun i hi => rv_exR fun j hj => (rv_I (C := fun _ j => 0 < j) (h i j hi hj).1 fun _ => .int _).le (IntP.of (h i j hi hj).2))
theorem ev_I (h : Ev F L Γ e (D (.int i))) : Ev F L Γ e (IntP (· = i)) := h.le (IntP.of rfl)
/-- texts -/
theorem ev_catS {x y : Str} (ha : Ev F L Γ a (D (.str x))) (hb : Ev F L Γ b (D (.str y))) (hl : x.length + y.length ≤ 100000) : Ev F L Γ (.BinOp a .Add b pos) (D (.str (x ++ y))) :=
  we_op (fun X hX => pe_op op_add_str (pe_we hX) (pe_we hX)) ha hb fun E Γ σ G H T v w p1 p2 K k => ⟨x, y, p1.str_eq, p2.str_eq, small hl, k _ G H .refl T (.str _)⟩
theorem ev_neg (ha : Ev F L Γ a (D (.int i))) : Ev F L Γ (.UnaryOp .USub a pos) (D (.int (-i))) := fun E σ G H T K k =>
  we_pe (t := tUn (rU fun i => .int (-i)) (WE F a)) (fun X hX => pe_un un_neg (pe_we hX)) (ha E σ G H T _ fun v G1 H1 n1 T1 p1 => ⟨i, p1.int_eq, k _ G1 H1 n1 T1 (.int _)⟩)
/-- tuples, lists: + -/
theorem ev_catT {ds es : List PyData} (ha : Ev F L Γ a (D (.tuple ds))) (hb : Ev F L Γ b (D (.tuple es))) (hl : ds.length + es.length ≤ 100000) : Ev F L Γ (.BinOp a .Add b pos) (D (.tuple (ds ++ es))) :=
  we_op (r := rCatA F.K) (fun X hX => by rw [← hX.K]; exact pe_op op_catA (pe_we hX) (pe_we hX)) ha hb fun E Γ σ G H T v w p1 p2 K k => by
    obtain ⟨x, xs, rfl, h1, q1⟩ := p1.tup_of
    obtain ⟨y, ys, rfl, h2, q2⟩ := p2.tup_of
    have l1 := q1.length
    have l2 := q2.length
    refine ⟨x, y, xs, ys, rfl, rfl, SqT.of (T.sub.tup h1), SqT.of (T.sub.tup h2), small (by omega), fun e => ?_, fun e1 e2 => ?_, fun e1 e2 p hp => ?_⟩
    · refine k _ G H .refl T (.tup h2 ?_)
      subst e
      cases q1
      exact q2
    · refine k _ G H .refl T (.tup h1 ?_)
      subst e2
      cases q2
      rw [List.append_nil]
      exact q1
    · exact k _ _ _ (.new T.sub hp _) (T.new hp _) (.tup upd_same (DgA.mono (same_new (T.sub.free hp) _) _ _ (q1.append q2)))
theorem ev_catL {ds es : List PyData} (ha : Ev F L Γ a (D (.list ds))) (hb : Ev F L Γ b (D (.list es))) (hl : ds.length + es.length ≤ 100000) : Ev F L Γ (.BinOp a .Add b pos) (D (.list (ds ++ es))) :=
  we_op (fun X hX => pe_op op_cat (pe_we hX) (pe_we hX)) ha hb fun E Γ σ G H T v w p1 p2 K k => by
    obtain ⟨x, xs, rfl, h1, q1⟩ := p1.lst_of
    obtain ⟨y, ys, rfl, h2, q2⟩ := p2.lst_of
    have l1 := q1.length
    have l2 := q2.length
    refine ⟨x, y, xs, ys, rfl, rfl, T.sub.lst h1, T.sub.lst h2, small (by omega), fun p hp => ?_⟩
    exact k _ _ _ (.new T.sub hp _) (T.new hp _) (.lst upd_same (DgA.mono (same_new (T.sub.free hp) _) _ _ (q1.append q2)))
/-- a list times a small number -/
theorem flat_rep {G : Hp} {xs : List V} {ds : List PyData} (h : DgA G xs ds) : ∀ n : Nat, DgA G (List.replicate n xs).flatten (List.replicate n ds).flatten
  | 0 => .nil
  | n + 1 => by
    rw [List.replicate_succ, List.replicate_succ, List.flatten_cons, List.flatten_cons]
    exact h.append (flat_rep h n)
theorem ev_repL {ds : List PyData} {n : Nat} (ha : Ev F L Γ a (D (.list ds))) (hb : Ev F L Γ b (D (.int n))) (hn : n < 1000) (hl : ds.length * n ≤ 100000) : Ev F L Γ (.BinOp a .Mult b pos) (D (.list (List.replicate n ds).flatten)) :=
  we_op (fun X hX => pe_op op_rep (pe_we hX) (pe_we hX)) ha hb fun E Γ σ G H T v w p1 p2 K k => by
    obtain ⟨x, xs, rfl, h1, q1⟩ := p1.lst_of
    have l1 := q1.length
    refine ⟨x, n, xs, rfl, p2.int_eq, T.sub.lst h1, by omega, by omega, small (by rw [l1, Int.toNat_natCast]; exact hl), fun p hp => ?_⟩
    rw [Int.toNat_natCast]
    exact k _ _ _ (.new T.sub hp _) (T.new hp _) (.lst upd_same (DgA.mono (same_new (T.sub.free hp) _) _ _ (flat_rep q1 n)))

/-! ### subscripts -/
theorem ev_ixT {ds : List PyData} {d : PyData} (ha : Ev F L Γ a (D (.tuple ds))) (hb : Ev F L Γ b (D (.int i))) (hd : atI ds i = some d) (hs : PlainIx b := by exact fun _ _ => rfl) : Ev F L Γ (.Subscript a b pos) (D d) :=
  we_op (r := rIxT F.K) (fun X hX => by rw [← hX.K]; exact pe_ix ix_tup (pe_we hX) (pe_we hX) hs) ha hb fun E Γ σ G H T v w p1 p2 K k => by
    obtain ⟨x, xs, rfl, h1, q1⟩ := p1.tup_of
    obtain ⟨n, h2, h3, h4, _⟩ := atI_get hd
    obtain ⟨y, h5, h6⟩ := q1.get h3
    refine ⟨x, xs, i, y, rfl, p2.int_eq, SqT.of (T.sub.tup h1), ?_, k _ G H .refl T h6⟩
    unfold atI at hd ⊢
    rw [q1.length]
    cases hn : ixN ds.length i with
    | none => rw [hn] at hd; cases hd
    | some m =>
      rw [hn] at hd
      have e1 := (ixN_seq hn).1
      rw [e1] at h2
      cases h2
      exact h5
theorem ev_ixL {ds : List PyData} {d : PyData} (ha : Ev F L Γ a (D (.list ds))) (hb : Ev F L Γ b (D (.int i))) (hd : atI ds i = some d) (hs : PlainIx b := by exact fun _ _ => rfl) : Ev F L Γ (.Subscript a b pos) (D d) :=
  we_op (r := rIxL F.K) (fun X hX => by rw [← hX.K]; exact pe_ix ix_list (pe_we hX) (pe_we hX) hs) ha hb fun E Γ σ G H T v w p1 p2 K k => by
    obtain ⟨x, xs, rfl, h1, q1⟩ := p1.lst_of
    obtain ⟨n, h2, h3, h4, _⟩ := atI_get hd
    obtain ⟨y, h5, h6⟩ := q1.get h3
    refine ⟨x, xs, i, y, rfl, p2.int_eq, SqL.of (T.sub.lst h1), ?_, k _ G H .refl T h6⟩
    unfold atI at hd ⊢
    rw [q1.length]
    cases hn : ixN ds.length i with
    | none => rw [hn] at hd; cases hd
    | some m =>
      rw [hn] at hd
      have e1 := (ixN_seq hn).1
      rw [e1] at h2
      cases h2
      exact h5
theorem atI_of {α : Type} {xs : List α} {n : Nat} {x : α} {z : Int} (e : z = (n : Int)) (h : xs[n]? = some x) : atI xs z = some x := by rw [e]; exact atI_nat h
/-- any tuple's or list's place by a predicate -/
theorem ev_ixTP {Ps : List MP} {n : Nat} (ha : Ev F L Γ a (TupP Ps)) (hb : Ev F L Γ b (D (.int n))) (hd : Ps[n]? = some P) (hs : PlainIx b := by exact fun _ _ => rfl) : Ev F L Γ (.Subscript a b pos) P :=
  we_op (r := rIxT F.K) (fun X hX => by rw [← hX.K]; exact pe_ix ix_tup (pe_we hX) (pe_we hX) hs) ha hb fun E Γ σ G H T v w p1 p2 K k => by
    obtain ⟨x, xs, rfl, h1, q1⟩ := p1
    have hg : ∀ {vs : List V} {Ps : List MP} {n : Nat}, PsA G vs Ps → Ps[n]? = some P → ∃ v, vs[n]? = some v ∧ P.p G v := by
      intro vs Ps n q
      induction q generalizing n with
      | nil => intro e; simp at e
      | cons r t ih =>
        intro e
        cases n with
        | zero =>
          have e1 := Option.some.inj e
          subst e1
          exact ⟨_, rfl, r⟩
        | succ m => exact ih e
    obtain ⟨y, h5, h6⟩ := hg q1 hd
    exact ⟨x, xs, n, y, rfl, p2.int_eq, SqT.of (T.sub.tup h1), atI_nat h5, k _ G H .refl T h6⟩
/-- a text's sign -/
theorem ev_ixS {z : Str} {cp : Nat} (ha : Ev F L Γ a (D (.str z))) (hb : Ev F L Γ b (D (.int i))) (hl : z.length ≤ 100000) (hd : atI z.cps.toList i = some cp) (hs : PlainIx b := by exact fun _ _ => rfl) : Ev F L Γ (.Subscript a b pos) (D (.str ⟨#[cp]⟩)) :=
  we_op (fun X hX => pe_ix ix_str (pe_we hX) (pe_we hX) hs) ha hb fun E Γ σ G H T v w p1 p2 K k =>
    ⟨z, i, cp, p1.str_eq, p2.int_eq, small hl, hd, k _ G H .refl T (.str _)⟩
/-! ### slices: a[:n], a[n:] -/
theorem DgA.cut {G : Hp} {xs : List V} {ds : List PyData} (h : DgA G xs ds) (lo hi : Option Int) : DgA G (cutV xs lo hi) ((ds.drop (HT.sIx ds.length 0 lo)).take (HT.sIx ds.length ds.length hi - HT.sIx ds.length 0 lo)) := by
  unfold cutV
  rw [h.length]
  exact (h.drop _).take _
/-- how a part of a slice is read -/
def Po (F : Fx) (L : List Rs) (Γ : Ty) (o : Option Expr) (z : Option Int) : Prop := ∃ t : TO, (∀ X, Cin F X → PO X o t) ∧ ∀ E σ G H, Stt E L Γ σ G H → ∀ Q : Option Int → Hp → Prop, (∀ G' H', Nxt L G H G' H' → Stt E L Γ σ G' H' → Q z H') → t σ H Q
theorem po_no : Po F L Γ none none := ⟨tNoPart, fun _ _ => po_none, fun E σ G H T Q k => k G H .refl T⟩
theorem po_i (h : Ev F L Γ e (D (.int i))) : Po F L Γ (some e) (some i) := ⟨tPart (WE F e), fun X hX => po_some (pe_we hX), fun E σ G H T Q k => h E σ G H T _ fun v G' H' n T' p => ⟨i, p.int_eq, k G' H' n T'⟩⟩
theorem cut_full {G : Hp} {xs : List V} {ds : List PyData} (h : DgA G xs ds) {lo hi : Option Int} (e : HT.sIx xs.length 0 lo = 0 ∧ HT.sIx xs.length xs.length hi = xs.length) :
    (ds.drop (HT.sIx ds.length 0 lo)).take (HT.sIx ds.length ds.length hi - HT.sIx ds.length 0 lo) = ds := by
  rw [h.length] at e
  rw [e.1, e.2, List.drop_zero, Nat.sub_zero, List.take_length]
theorem ev_slT {ds : List PyData} {l u : Option Expr} {lo hi : Option Int} (ha : Ev F L Γ a (D (.tuple ds))) (hl : Po F L Γ l lo) (hu : Po F L Γ u hi) :
    Ev F L Γ (.Subscript a (.Slice l u none p2) pos) (D (.tuple ((ds.drop (HT.sIx ds.length 0 lo)).take (HT.sIx ds.length ds.length hi - HT.sIx ds.length 0 lo)))) := fun E σ G H T K k => by
  obtain ⟨t1, g1, r1⟩ := hl
  obtain ⟨t2, g2, r2⟩ := hu
  refine we_pe (t := tSl (rSlA F.K) (WE F a) t1 t2) (fun X hX => by rw [← hX.K]; exact pe_slice sl_tupA (pe_we hX) (g1 X hX) (g2 X hX)) ?_
  refine ha E σ G H T _ fun v G1 H1 n1 T1 p1 => r1 E σ G1 H1 T1 _ fun G2 H2 n2 T2 => r2 E σ G2 H2 T2 _ fun G3 H3 n3 T3 => ?_
  have n13 := (n1.trans T.live T1.live n2).trans T.live T2.live n3
  have p3 := (D _).mono (n2.gg.trans n3.gg) p1
  obtain ⟨x, xs, rfl, h1, q1⟩ := p3.tup_of
  refine ⟨x, xs, rfl, SqT.of (T3.sub.tup h1), fun e => ?_, fun e p hp => ?_⟩
  · exact k _ G3 H3 n13 T3 (by rw [cut_full q1 e]; exact .tup h1 q1)
  · exact k _ _ _ (n13.trans T.live T3.live (.new T3.sub hp _)) (T3.new hp _) (.tup upd_same (DgA.mono (same_new (T3.sub.free hp) _) _ _ (q1.cut lo hi)))
theorem ev_slL {ds : List PyData} {l u : Option Expr} {lo hi : Option Int} (ha : Ev F L Γ a (D (.list ds))) (hl : Po F L Γ l lo) (hu : Po F L Γ u hi) :
    Ev F L Γ (.Subscript a (.Slice l u none p2) pos) (D (.list ((ds.drop (HT.sIx ds.length 0 lo)).take (HT.sIx ds.length ds.length hi - HT.sIx ds.length 0 lo)))) := fun E σ G H T K k => by
  obtain ⟨t1, g1, r1⟩ := hl
  obtain ⟨t2, g2, r2⟩ := hu
  refine we_pe (t := tSl (rSlL F.K) (WE F a) t1 t2) (fun X hX => by rw [← hX.K]; exact pe_slice sl_list (pe_we hX) (g1 X hX) (g2 X hX)) ?_
  refine ha E σ G H T _ fun v G1 H1 n1 T1 p1 => r1 E σ G1 H1 T1 _ fun G2 H2 n2 T2 => r2 E σ G2 H2 T2 _ fun G3 H3 n3 T3 => ?_
  have n13 := (n1.trans T.live T1.live n2).trans T.live T2.live n3
  have p3 := (D _).mono (n2.gg.trans n3.gg) p1
  obtain ⟨x, xs, rfl, h1, q1⟩ := p3.lst_of
  refine ⟨x, xs, rfl, SqL.of (T3.sub.lst h1), fun p hp => ?_⟩
  exact k _ _ _ (n13.trans T.live T3.live (.new T3.sub hp _)) (T3.new hp _) (.lst upd_same (DgA.mono (same_new (T3.sub.free hp) _) _ _ (q1.cut lo hi)))
theorem cut_to {α : Type} (ds : List α) (n : Nat) : (ds.drop (HT.sIx ds.length 0 none)).take (HT.sIx ds.length ds.length (some (n : Int)) - HT.sIx ds.length 0 none) = ds.take n := by
  rw [HT.sIx_none, HT.sIx_nat, List.drop_zero, Nat.sub_zero]
  by_cases h : n ≤ ds.length
  · rw [Nat.min_eq_left h]
  · rw [Nat.min_eq_right (by omega), List.take_length, List.take_of_length_le (by omega)]
theorem cut_from {α : Type} (ds : List α) (n : Nat) : (ds.drop (HT.sIx ds.length 0 (some (n : Int)))).take (HT.sIx ds.length ds.length none - HT.sIx ds.length 0 (some (n : Int))) = ds.drop n := by
  rw [HT.sIx_none, HT.sIx_nat]
  by_cases h : n ≤ ds.length
  · rw [Nat.min_eq_left h, List.take_of_length_le (by simp)]
  · rw [Nat.min_eq_right (by omega), Nat.sub_self, List.take_zero, List.drop_of_length_le (by omega)]
theorem ev_slTto {ds : List PyData} {n : Nat} (ha : Ev F L Γ a (D (.tuple ds))) (hn : Ev F L Γ b (D (.int n))) : Ev F L Γ (.Subscript a (.Slice none (some b) none p2) pos) (D (.tuple (ds.take n))) :=
  (ev_slT ha po_no (po_i hn)).eq (by rw [cut_to])
theorem ev_slTfrom {ds : List PyData} {n : Nat} (ha : Ev F L Γ a (D (.tuple ds))) (hn : Ev F L Γ b (D (.int n))) : Ev F L Γ (.Subscript a (.Slice (some b) none none p2) pos) (D (.tuple (ds.drop n))) :=
  (ev_slT ha (po_i hn) po_no).eq (by rw [cut_from])
theorem ev_slLto {ds : List PyData} {n : Nat} (ha : Ev F L Γ a (D (.list ds))) (hn : Ev F L Γ b (D (.int n))) : Ev F L Γ (.Subscript a (.Slice none (some b) none p2) pos) (D (.list (ds.take n))) :=
  (ev_slL ha po_no (po_i hn)).eq (by rw [cut_to])
theorem ev_slLfrom {ds : List PyData} {n : Nat} (ha : Ev F L Γ a (D (.list ds))) (hn : Ev F L Γ b (D (.int n))) : Ev F L Γ (.Subscript a (.Slice (some b) none none p2) pos) (D (.list (ds.drop n))) :=
  (ev_slL ha (po_i hn) po_no).eq (by rw [cut_from])

/-! ### tests and comparisons -/
theorem wt_op {ex : Expr} {T : Bool → Prop} (he : ∀ X, Cin F X → PT X ex (tTest (tOp r (WE F a) (WE F b)))) (ha : Ev F L Γ a P) (hb : Ev F L Γ b Q) (hr : Rv L r P Q (BoolP T)) : Et F L Γ ex T := fun E σ G H Tt K k => by
  refine wt_pt he ?_
  refine ha E σ G H Tt _ fun x G1 H1 n1 T1 p1 => hb E σ G1 H1 T1 _ fun y G2 H2 n2 T2 p2 => ?_
  have n12 := n1.trans Tt.live T1.live n2
  refine hr E Γ σ G2 H2 T2 x y (P.mono n2.gg p1) p2 _ fun v G3 H3 n3 T3 p3 => ?_
  obtain ⟨c, hc, p3⟩ := p3
  exact ⟨c, p3.bl_eq, k c G3 H3 (n12.trans Tt.live T2.live n3) T3 hc⟩
theorem Et.le {T T' : Bool → Prop} (h : Et F L Γ e T) (q : ∀ c, T c → T' c) : Et F L Γ e T' := fun E σ G H Tt K k => h E σ G H Tt K fun b G' H' n T' t => k b G' H' n T' (q b t)
/-- a value that is a truth, as a test -/
theorem et_val {T : Bool → Prop} (h : Ev F L Γ e (BoolP T)) (he : ∀ env whole, isTrue e env whole = (do let v ← whole; standAt e.pos; holding [v] (truthy v)) := by intro _ _; rfl) : Et F L Γ e T := fun E σ G H Tt K k =>
  wt_pt (t := tB (WE F e)) (fun X hX => pt_val (pe_we hX) (he _)) (h E σ G H Tt _ fun v G' H' n T' ⟨c, hc, p⟩ => ⟨c, p.bl_eq, k c G' H' n T' hc⟩)
/-- the rules of comparing, by values -/
def CmpR (op : CmpOp) (F : Fx) (r : R2) : Prop := ∀ X, Cin F X → OpR X (compareOp op) r
theorem ev_cmp {op : CmpOp} (ho : CmpR op F r) (ha : Ev F L Γ a P) (hb : Ev F L Γ b Q) (hr : Rv L r P Q R) (hm : behindInMarks op b = false := by first | exact nomark _ | rfl) : Ev F L Γ (.Compare a [op] [b] pos) R := we_op (fun X hX => pe_cmpR (ho X hX) (pe_we hX) (pe_we hX) hm) ha hb hr
theorem et_cmp {op : CmpOp} {T : Bool → Prop} (ho : CmpR op F r) (ha : Ev F L Γ a P) (hb : Ev F L Γ b Q) (hr : Rv L r P Q (BoolP T)) (hm : behindInMarks op b = false := by first | exact nomark _ | rfl) : Et F L Γ (.Compare a [op] [b] pos) T := wt_op (fun X hX => pt_cmpR (ho X hX) (pe_we hX) (pe_we hX) hm) ha hb hr
theorem c_lt : CmpR .Lt F (rI0 fun i j => .bl (decide (i < j))) := fun _ _ => op_lt
theorem c_le : CmpR .LtE F (rI0 fun i j => .bl (decide (i ≤ j))) := fun _ _ => op_le
theorem c_gt : CmpR .Gt F (rI0 fun i j => .bl (decide (j < i))) := fun _ _ => op_gt
theorem c_ge : CmpR .GtE F (rI0 fun i j => .bl (decide (j ≤ i))) := fun _ _ => op_ge
theorem c_eqD : CmpR .Eq F (rEqD F.K) := fun X hX => by rw [← hX.K]; exact op_eqD hX.hu64
theorem c_neD : CmpR .NotEq F (rNeD F.K) := fun X hX => by rw [← hX.K]; exact op_neD hX.hu64
theorem c_eq : CmpR .Eq F rEq := fun _ _ => op_eq
theorem c_ne : CmpR .NotEq F rNe := fun _ _ => op_ne
theorem c_inD : CmpR .In F (rInD F.K) := fun X hX => by rw [← hX.K]; exact op_inD hX.hu65
theorem c_notInD : CmpR .NotIn F (rNotInD F.K) := fun X hX => by rw [← hX.K]; exact op_notInD hX.hu65
theorem c_in : CmpR .In F (rIn F.K false) := fun X hX => by rw [← hX.K]; exact op_in_seq
theorem c_notIn : CmpR .NotIn F (rIn F.K true) := fun X hX => by rw [← hX.K]; exact op_notIn_seq
theorem c_isN : CmpR .Is F (fun x y H Q => y = .non ∧ Q (.bl (decide (x = .non))) H) := fun _ _ => op_isN
theorem c_notN : CmpR .IsNot F (fun x y H Q => y = .non ∧ Q (.bl (!decide (x = .non))) H) := fun _ _ => op_notN
/-- data that may be compared -/
abbrev Nice (d : PyData) : Prop := SeqAt.shaped d = true
theorem rv_eqD {d d' : PyData} (h1 : Nice d) (h2 : Nice d') : Rv L (rEqD F.K) (D d) (D d') (D (.bool (PyData.eqv d d'))) := fun E Γ σ G H T x y p1 p2 K k => ⟨d, d', Dg.dp T.sub _ _ p1, Dg.dp T.sub _ _ p2, h1, h2, k _ G H .refl T (.bl _)⟩
theorem rv_neD {d d' : PyData} (h1 : Nice d) (h2 : Nice d') : Rv L (rNeD F.K) (D d) (D d') (D (.bool (!PyData.eqv d d'))) := fun E Γ σ G H T x y p1 p2 K k => ⟨d, d', Dg.dp T.sub _ _ p1, Dg.dp T.sub _ _ p2, h1, h2, k _ G H .refl T (.bl _)⟩
theorem rv_inD {d : PyData} {ds : List PyData} (h1 : Nice d) (h2 : Nice (.list ds)) : Rv L (rInD F.K) (D d) (D (.list ds)) (D (.bool (ds.any fun z => PyData.eqv z d))) := fun E Γ σ G H T x y p1 p2 K k => ⟨d, ds, Dg.dp T.sub _ _ p1, Dg.dp T.sub _ _ p2, h1, h2, k _ G H .refl T (.bl _)⟩
theorem rv_notInD {d : PyData} {ds : List PyData} (h1 : Nice d) (h2 : Nice (.list ds)) : Rv L (rNotInD F.K) (D d) (D (.list ds)) (D (.bool (!ds.any fun z => PyData.eqv z d))) := fun E Γ σ G H T x y p1 p2 K k => ⟨d, ds, Dg.dp T.sub _ _ p1, Dg.dp T.sub _ _ p2, h1, h2, k _ G H .refl T (.bl _)⟩
/-- a text in a tuple of texts, an int in a list of ints -/
theorem inV_str (x : Str) : ∀ xs : List Str, inV (.str x) (xs.map V.str) = decide (x ∈ xs)
  | [] => rfl
  | y :: ys => by
    have ih := inV_str x ys
    unfold inV at ih ⊢
    rw [List.map_cons, List.any_cons, ih]
    show (y == x || decide (x ∈ ys)) = _
    by_cases h : y = x
    · subst h; simp
    · have h' : ¬ x = y := fun z => h z.symm
      simp [h, h']
theorem inV_int (x : Int) : ∀ xs : List Int, inV (.int x) (xs.map V.int) = decide (x ∈ xs)
  | [] => rfl
  | y :: ys => by
    have ih := inV_int x ys
    unfold inV at ih ⊢
    rw [List.map_cons, List.any_cons, ih]
    show (y == x || decide (x ∈ ys)) = _
    by_cases h : y = x
    · subst h; simp
    · have h' : ¬ x = y := fun z => h z.symm
      simp [h, h']
theorem flat_strs (xs : List Str) : (xs.map V.str).all flatV = true := by rw [List.all_map]; exact List.all_eq_true.mpr fun _ _ => rfl
theorem flat_ints (xs : List Int) : (xs.map V.int).all flatV = true := by rw [List.all_map]; exact List.all_eq_true.mpr fun _ _ => rfl
theorem rv_inS {x : Str} {xs : List Str} : Rv L (rIn F.K false) (D (.str x)) (D (.tuple (xs.map .str))) (D (.bool (decide (x ∈ xs)))) := fun E Γ σ G H T v y p1 p2 K k => by
  obtain ⟨a, vs, rfl, h1, q1⟩ := p2.tup_of
  have e := q1.strs
  subst e
  exact ⟨a, _, rfl, .inr (SqT.of (T.sub.tup h1)), by rw [p1.str_eq]; rfl, flat_strs xs, k _ G H .refl T (by rw [p1.str_eq, if_neg (by decide), inV_str]; exact .bl _)⟩
theorem rv_notInS {x : Str} {xs : List Str} : Rv L (rIn F.K true) (D (.str x)) (D (.tuple (xs.map .str))) (D (.bool (!decide (x ∈ xs)))) := fun E Γ σ G H T v y p1 p2 K k => by
  obtain ⟨a, vs, rfl, h1, q1⟩ := p2.tup_of
  have e := q1.strs
  subst e
  exact ⟨a, _, rfl, .inr (SqT.of (T.sub.tup h1)), by rw [p1.str_eq]; rfl, flat_strs xs, k _ G H .refl T (by rw [p1.str_eq, if_pos rfl, inV_str]; exact .bl _)⟩
theorem rv_inI {x : Int} {xs : List Int} : Rv L (rIn F.K false) (D (.int x)) (D (.list (xs.map .int))) (D (.bool (decide (x ∈ xs)))) := fun E Γ σ G H T v y p1 p2 K k => by
  obtain ⟨a, vs, rfl, h1, q1⟩ := p2.lst_of
  have e := q1.ints
  subst e
  exact ⟨a, _, rfl, .inl (SqL.of (T.sub.lst h1)), by rw [p1.int_eq]; rfl, flat_ints xs, k _ G H .refl T (by rw [p1.int_eq, if_neg (by decide), inV_int]; exact .bl _)⟩
/-- None or an int -/
def oD : Option Int → PyData
  | none => .none
  | some z => .int z
theorem rv_isN {o : Option Int} : Rv L (fun x y H Q => y = .non ∧ Q (.bl (decide (x = .non))) H) (D (oD o)) (D .none) (D (.bool o.isNone)) := fun E Γ σ G H T x y p1 p2 K k => by
  refine ⟨p2.non_eq, k _ G H .refl T ?_⟩
  cases o with
  | none => rw [Dg.non_eq p1]; exact .bl _
  | some z => rw [Dg.int_eq p1]; exact .bl _
theorem rv_notN {o : Option Int} : Rv L (fun x y H Q => y = .non ∧ Q (.bl (!decide (x = .non))) H) (D (oD o)) (D .none) (D (.bool o.isSome)) := fun E Γ σ G H T x y p1 p2 K k => by
  refine ⟨p2.non_eq, k _ G H .refl T ?_⟩
  cases o with
  | none => rw [Dg.non_eq p1]; exact .bl _
  | some z => rw [Dg.int_eq p1]; exact .bl _
theorem rv_lt : Rv L (rI0 fun i j => .bl (decide (i < j))) (D (.int i)) (D (.int j)) (D (.bool (decide (i < j)))) := rv_I0 fun _ => .bl _
theorem rv_le : Rv L (rI0 fun i j => .bl (decide (i ≤ j))) (D (.int i)) (D (.int j)) (D (.bool (decide (i ≤ j)))) := rv_I0 fun _ => .bl _
theorem rv_gt : Rv L (rI0 fun i j => .bl (decide (j < i))) (D (.int i)) (D (.int j)) (D (.bool (decide (j < i)))) := rv_I0 fun _ => .bl _
theorem rv_ge : Rv L (rI0 fun i j => .bl (decide (j ≤ i))) (D (.int i)) (D (.int j)) (D (.bool (decide (j ≤ i)))) := rv_I0 fun _ => .bl _
theorem rv_eqI : Rv L rEq (D (.int i)) (D (.int j)) (D (.bool (decide (i = j)))) := fun E Γ σ G H T x y p1 p2 K k => by
  rw [p1.int_eq, p2.int_eq]
  refine ⟨rfl, k _ G H .refl T ?_⟩
  have e : decide (V.int i = V.int j) = decide (i = j) := by simp
  rw [e]; exact .bl _
theorem rv_eqS {s t : Str} : Rv L rEq (D (.str s)) (D (.str t)) (D (.bool (decide (s = t)))) := fun E Γ σ G H T x y p1 p2 K k => by
  rw [p1.str_eq, p2.str_eq]
  refine ⟨rfl, k _ G H .refl T ?_⟩
  have e : decide (V.str s = V.str t) = decide (s = t) := by simp
  rw [e]; exact .bl _
theorem rv_neS {s t : Str} : Rv L rNe (D (.str s)) (D (.str t)) (D (.bool (!decide (s = t)))) := fun E Γ σ G H T x y p1 p2 K k => by
  rw [p1.str_eq, p2.str_eq]
  refine ⟨rfl, k _ G H .refl T ?_⟩
  have e : decide (V.str s = V.str t) = decide (s = t) := by simp
  rw [e]; exact .bl _
/-- the answer is known -/
theorem Rv.bo {c : Bool} (h : Rv L r P Q (D (.bool c))) : Rv L r P Q (BoolP (· = c)) := h.le (BoolP.of rfl)

/-! ### and, or -/
def WW (F : Fx) (e : Expr) : TT := fun σ H Q => ∀ X, Cin F X → ∀ whole pins s, Inv X pins σ H s → wpAny (model X.prog X.w) X.A (isTrue e X.env whole) (TP X pins σ Q) X.xe s
theorem pw_ww {X : Cx} (h : Cin F X) {e : Expr} : PW X e (WW F e) := ⟨fun whole pins s _ _ _ I q => q X h whole pins s I⟩
theorem ww_pw {σ : St} {H : Hp} {e : Expr} {t : TT} (h : ∀ X, Cin F X → PW X e t) {Q : Bool → Hp → Prop} (q : t σ H Q) : WW F e σ H Q := fun X hX whole pins s I => (h X hX).run whole pins s σ H Q I q
def Ew (F : Fx) (L : List Rs) (Γ : Ty) (e : Expr) (T : Bool → Prop) : Prop := ∀ E σ G H, Stt E L Γ σ G H → ∀ Q : Bool → Hp → Prop, (∀ b G' H', Nxt L G H G' H' → Stt E L Γ σ G' H' → T b → Q b H') → WW F e σ H Q
variable {T T1 T2 : Bool → Prop}
theorem et_w (h : Ew F L Γ e T) : Et F L Γ e T := fun E σ G H Tt K k => wt_pt (t := WW F e) (fun X hX => (pw_ww hX).pt) (h E σ G H Tt K k)
theorem ew_and1 (h : Et F L Γ a T) : Ew F L Γ (.BoolOp .And [a] pos) T := fun E σ G H Tt K k => ww_pw (t := WT F a) (fun X hX => pw_and1 (pt_wt hX)) (h E σ G H Tt K k)
theorem ew_or1 (h : Et F L Γ a T) : Ew F L Γ (.BoolOp .Or [a] pos) T := fun E σ G H Tt K k => ww_pw (t := WT F a) (fun X hX => pw_or1 (pt_wt hX)) (h E σ G H Tt K k)
theorem ew_and (h1 : Et F L Γ a T1) (h2 : T1 true → Ew F L Γ (.BoolOp .And (b :: es) pos) T2) (hT : ∀ c, (T1 true ∧ T2 c) ∨ (T1 false ∧ c = false) → T c) : Ew F L Γ (.BoolOp .And (a :: b :: es) pos) T := fun E σ G H Tt K k => by
  refine ww_pw (t := tAnd (WT F a) (WW F (.BoolOp .And (b :: es) pos))) (fun X hX => pw_and (pt_wt hX) (pw_ww hX)) ?_
  refine h1 E σ G H Tt _ fun c G1 H1 n1 T1' t1 => ?_
  cases c with
  | true => exact iteT (h2 t1 E σ G1 H1 T1' K fun c G2 H2 n2 T2' t2 => k c G2 H2 (n1.trans Tt.live T1'.live n2) T2' (hT _ (.inl ⟨t1, t2⟩)))
  | false => exact iteF (k false G1 H1 n1 T1' (hT _ (.inr ⟨t1, rfl⟩)))
theorem ew_or (h1 : Et F L Γ a T1) (h2 : T1 false → Ew F L Γ (.BoolOp .Or (b :: es) pos) T2) (hT : ∀ c, (T1 false ∧ T2 c) ∨ (T1 true ∧ c = true) → T c) : Ew F L Γ (.BoolOp .Or (a :: b :: es) pos) T := fun E σ G H Tt K k => by
  refine ww_pw (t := tOr (WT F a) (WW F (.BoolOp .Or (b :: es) pos))) (fun X hX => pw_or (pt_wt hX) (pw_ww hX)) ?_
  refine h1 E σ G H Tt _ fun c G1 H1 n1 T1' t1 => ?_
  cases c with
  | true => exact iteT (k true G1 H1 n1 T1' (hT _ (.inr ⟨t1, rfl⟩)))
  | false => exact iteF (h2 t1 E σ G1 H1 T1' K fun c G2 H2 n2 T2' t2 => k c G2 H2 (n1.trans Tt.live T1'.live n2) T2' (hT _ (.inl ⟨t1, t2⟩)))
/-- a and b, a or b, the answers known -/
theorem ew_andB {x y : Bool} (h1 : Et F L Γ a (· = x)) (h2 : x = true → Et F L Γ b (· = y)) : Ew F L Γ (.BoolOp .And [a, b] pos) (· = (x && y)) :=
  ew_and h1 (fun e => ew_and1 (h2 e.symm)) fun c h => by rcases h with ⟨rfl, rfl⟩ | ⟨rfl, rfl⟩ <;> rfl
theorem ew_orB {x y : Bool} (h1 : Et F L Γ a (· = x)) (h2 : x = false → Et F L Γ b (· = y)) : Ew F L Γ (.BoolOp .Or [a, b] pos) (· = (x || y)) :=
  ew_or h1 (fun e => ew_or1 (h2 e.symm)) fun c h => by rcases h with ⟨rfl, rfl⟩ | ⟨rfl, rfl⟩ <;> rfl
theorem ew_or3B {x y z : Bool} (h1 : Et F L Γ a (· = x)) (h2 : x = false → Et F L Γ b (· = y)) (h3 : x = false → y = false → Et F L Γ c (· = z)) : Ew F L Γ (.BoolOp .Or [a, b, c] pos) (· = (x || (y || z))) :=
  ew_or h1 (fun e => ew_or (h2 e.symm) (fun e2 => ew_or1 (h3 e.symm e2.symm)) (T := (· = (y || z))) fun c h => by rcases h with ⟨rfl, rfl⟩ | ⟨rfl, rfl⟩ <;> rfl) fun c h => by rcases h with ⟨rfl, rfl⟩ | ⟨rfl, rfl⟩ <;> rfl
/-- .. as values -/
theorem ev_one {op : BoolOp} (h : Ev F L Γ a P) : Ev F L Γ (.BoolOp op [a] pos) P := fun E σ G H T K k => we_pe (t := WE F a) (fun X hX => pe_one (pe_we hX)) (h E σ G H T K k)
theorem ev_andB {x y : Bool} (h1 : Ev F L Γ a (D (.bool x))) (h2 : x = true → Ev F L Γ b (D (.bool y))) : Ev F L Γ (.BoolOp .And [a, b] pos) (D (.bool (x && y))) := fun E σ G H T K k => by
  refine we_pe (t := tAndV (WE F a) (WE F b)) (fun X hX => pe_and (pe_we hX) (pe_one (pe_we hX))) ?_
  refine h1 E σ G H T _ fun v G1 H1 n1 T1 p1 => ⟨x, p1.bl_eq, ?_⟩
  cases x with
  | true => exact iteT (h2 rfl E σ G1 H1 T1 K fun v G2 H2 n2 T2 p2 => k v G2 H2 (n1.trans T.live T1.live n2) T2 p2)
  | false => exact iteF (k _ G1 H1 n1 T1 (.bl false))
/-- a if t else b -/
theorem ev_if (h : Et F L Γ c T) (h1 : T true → Ev F L Γ a P) (h2 : T false → Ev F L Γ b P) : Ev F L Γ (.IfExp c a b pos) P := fun E σ G H Tt K k => by
  refine we_pe (t := tIf (WT F c) (WE F a) (WE F b)) (fun X hX => pe_ifExp (pt_wt hX) (pe_we hX) (pe_we hX)) ?_
  refine h E σ G H Tt _ fun c G1 H1 n1 T1 t1 => ?_
  cases c with
  | true => exact iteT (h1 t1 E σ G1 H1 T1 K fun v G2 H2 n2 T2 p2 => k v G2 H2 (n1.trans Tt.live T1.live n2) T2 p2)
  | false => exact iteF (h2 t1 E σ G1 H1 T1 K fun v G2 H2 n2 T2 p2 => k v G2 H2 (n1.trans Tt.live T1.live n2) T2 p2)
/-- a truth that is known, as a test -/
theorem et_bl {x : Bool} (h : Ev F L Γ e (D (.bool x))) (he : ∀ env whole, isTrue e env whole = (do let v ← whole; standAt e.pos; holding [v] (truthy v)) := by intro _ _; rfl) : Et F L Γ e (· = x) := et_val (h.le (BoolP.of rfl)) he

/-! ### built-ins by their names -/
/-- a call's rule, by values -/
def Cv (L : List Rs) (r : List V → Hp → VK → Prop) (Ps : List MP) (R : MP) : Prop := ∀ E Γ σ G H, Stt E L Γ σ G H → ∀ vs, PsA G vs Ps → ∀ K : VK, (∀ v G' H', Nxt L G H G' H' → Stt E L Γ σ G' H' → R.p G' v → K v H') → r vs H K
variable {Ps : List MP} {id : String} {x : Str} {rc : List V → Hp → VK → Prop} {p1 : Pos}
theorem ev_callB (hc : ∀ X, Cin F X → CallR X (.builtin id) rc) (hm : F.mg x = none) (ha : Ea F L Γ (e :: es) Ps) (hr : Cv L rc Ps R) (hv : bootBuiltins x = some (.builtin id) := by decide +kernel) (hg : F.sc.names.lookup x = some .globalImplicit := by rfl) (hn : x ≠ "__name__" := by decide) (hdb : (x == ("__debug__" : Str)) = false := by decide)
    (he : ∀ env, starEach (e :: es) env = (false, eval e env) :: starEach es env := by intro _; rfl) (hpl : ∀ env, (backTo pos (starEach es env)).any (·.1) = false := by intro _; rfl) : Ev F L Γ (.Call (.Name x p1) (e :: es) [] pos) R := fun E σ G H T K k =>
  we_pe (t := tCB rc (WA F (e :: es))) (fun X hX => pe_callB (hc X hX) (hX.gl hg) (by rw [hX.mg]; exact hm) hv (pa_wa hX) hn hdb (he _) (hpl _))
    (ha E σ G H T _ fun vs G1 H1 n1 T1 q1 => hr E Γ σ G1 H1 T1 vs q1 K fun v G2 H2 n2 T2 p2 => k v G2 H2 (n1.trans T.live T1.live n2) T2 p2)
theorem ev_callTy {Tn : String} (hc : ∀ X, Cin F X → CallR X (.type Tn) rc) (hm : F.mg x = none) (ha : Ea F L Γ (e :: es) Ps) (hr : Cv L rc Ps R) (hv : bootBuiltins x = some (.type Tn) := by decide +kernel) (hg : F.sc.names.lookup x = some .globalImplicit := by rfl) (hn : x ≠ "__name__" := by decide) (hdb : (x == ("__debug__" : Str)) = false := by decide)
    (he : ∀ env, starEach (e :: es) env = (false, eval e env) :: starEach es env := by intro _; rfl) (hpl : ∀ env, (backTo pos (starEach es env)).any (·.1) = false := by intro _; rfl) : Ev F L Γ (.Call (.Name x p1) (e :: es) [] pos) R := fun E σ G H T K k =>
  we_pe (t := tCB rc (WA F (e :: es))) (fun X hX => pe_callTy (hc X hX) (hX.gl hg) (by rw [hX.mg]; exact hm) hv (pa_wa hX) hn hdb (he _) (hpl _))
    (ha E σ G H T _ fun vs G1 H1 n1 T1 q1 => hr E Γ σ G1 H1 T1 vs q1 K fun v G2 H2 n2 T2 p2 => k v G2 H2 (n1.trans T.live T1.live n2) T2 p2)
theorem psa1 {G : Hp} {vs : List V} {P : MP} (h : PsA G vs [P]) : ∃ v, vs = [v] ∧ P.p G v := by
  cases h with
  | cons r t => cases t; exact ⟨_, rfl, r⟩
theorem psa2 {G : Hp} {vs : List V} {P Q : MP} (h : PsA G vs [P, Q]) : ∃ v w, vs = [v, w] ∧ P.p G v ∧ Q.p G w := by
  cases h with
  | cons r t =>
    obtain ⟨w, rfl, q⟩ := psa1 t
    exact ⟨_, w, rfl, r, q⟩
theorem psa3 {G : Hp} {vs : List V} {P Q R : MP} (h : PsA G vs [P, Q, R]) : ∃ v w u, vs = [v, w, u] ∧ P.p G v ∧ Q.p G w ∧ R.p G u := by
  cases h with
  | cons r t =>
    obtain ⟨w, u, rfl, q⟩ := psa2 t
    exact ⟨_, w, u, rfl, r, q⟩
theorem ea1 (h : Ev F L Γ a P) (hs : ∀ env, starEach [a] env = (false, eval a env) :: starEach [] env := by intro _; rfl) : Ea F L Γ [a] [P] := ea_cons h ea_nil hs
theorem ea2 (h : Ev F L Γ a P) (h2 : Ev F L Γ b Q) (hs : ∀ env, starEach [a, b] env = (false, eval a env) :: starEach [b] env := by intro _; rfl) (hs2 : ∀ env, starEach [b] env = (false, eval b env) :: starEach [] env := by intro _; rfl) : Ea F L Γ [a, b] [P, Q] := ea_cons h (ea1 h2 hs2) hs
theorem ev_lenL {ds : List PyData} (hm : F.mg "len" = none) (ha : Ev F L Γ a (D (.list ds))) (hg : F.sc.names.lookup ("len" : Str) = some .globalImplicit := by rfl) (he : ∀ env, starEach [a] env = (false, eval a env) :: starEach [] env := by intro _; rfl) : Ev F L Γ (.Call (.Name "len" p1) [a] [] pos) (D (.int ds.length)) :=
  ev_callB (fun X hX => by have := @call_len_seq X; rw [hX.K] at this; exact this) hm (ea1 ha he) (fun E Γ σ G H T vs q K k => by
    obtain ⟨v, rfl, p⟩ := psa1 q
    obtain ⟨x, xs, rfl, h1, q1⟩ := p.lst_of
    exact ⟨x, xs, rfl, .inl (SqL.of (T.sub.lst h1)), by rw [q1.length]; exact k _ G H .refl T (.int _)⟩) PySem.boot_len hg (by decide) (by decide) he (by intro _; rfl)
theorem ev_lenT {ds : List PyData} (hm : F.mg "len" = none) (ha : Ev F L Γ a (D (.tuple ds))) (hg : F.sc.names.lookup ("len" : Str) = some .globalImplicit := by rfl) (he : ∀ env, starEach [a] env = (false, eval a env) :: starEach [] env := by intro _; rfl) : Ev F L Γ (.Call (.Name "len" p1) [a] [] pos) (D (.int ds.length)) :=
  ev_callB (fun X hX => by have := @call_len_seq X; rw [hX.K] at this; exact this) hm (ea1 ha he) (fun E Γ σ G H T vs q K k => by
    obtain ⟨v, rfl, p⟩ := psa1 q
    obtain ⟨x, xs, rfl, h1, q1⟩ := p.tup_of
    exact ⟨x, xs, rfl, .inr (SqT.of (T.sub.tup h1)), by rw [q1.length]; exact k _ G H .refl T (.int _)⟩) PySem.boot_len hg (by decide) (by decide) he (by intro _; rfl)
end
end Hw
set_option Elab.async false
set_option linter.all false
set_option maxRecDepth 100000
set_option maxHeartbeats 4000000
namespace Hw
open PySem PySem.Spec L2

/-! ### promises of defs -/
def Spc {α : Type} (Lf : α → List Rs) (ok : α → Prop) (A : α → List MP) (R : α → MP) : Sp := fun vs H Q _ => ∃ (x : α) (G : Hp), ok x ∧ Sub G H ∧ Live (Lf x) G H ∧ PsA G vs (A x) ∧
  ∀ v G' H', Stp ⟨Lf x, G, H⟩ G' H' → Sub G' H' → Live (Lf x) G' H' → (R x).p G' v → Q v H'
/-- a def that may be called -/
structure Cl (S : Sx) (x : Str) (j : Nat) (sp : Sp) : Prop where
  ex : ∃ f fd ps, FnOk S.P S.w S.K S.mg S.base CX0 j f fd ps sp ∧ S.mg x = some (.ref f) ∧ PySem.W.keepIn S.K (.ref f) = true ∧ Binds S.K fd ps []
/-- a method -/
structure Ml (S : Sx) (C : Addr) (m : Str) (j : Nat) (sp : Sp) : Prop where
  ex : ∃ f fd ps, FnOk S.P S.w S.K S.mg S.base CX0 j f fd ps sp ∧ Meth S.K C m f ∧ Binds S.K fd ps []
def NoFall : List Rs → Ty → Prop := fun _ _ => False
/-- the first typing of the slots -/
def ty0 (A : List MP) (n : Nat) : Ty := A.map some ++ List.replicate (n - A.length) none
theorem env_start {G : Hp} {vs : List V} {A : List MP} (h : PsA G vs A) (n : Nat) : ∀ (k : Nat), Env (A.map some ++ List.replicate k none) (vs.map some ++ List.replicate k none) G := by
  intro k i P hi
  have hl := PsA.length h
  by_cases h1 : i < A.length
  · rw [List.getElem?_append_left (by simpa using h1), List.getElem?_map] at hi
    have hg : ∀ {vs : List V} {A : List MP} {i : Nat} {P : MP}, PsA G vs A → A[i]? = some P → ∃ v, vs[i]? = some v ∧ P.p G v := by
      intro vs A i P q
      induction q generalizing i with
      | nil => intro e; simp at e
      | cons r t ih =>
        intro e
        cases i with
        | zero =>
          have e1 := Option.some.inj e
          subst e1
          exact ⟨_, rfl, r⟩
        | succ m => exact ih e
    cases e : A[i]? with
    | none => rw [e] at hi; cases hi
    | some P' =>
      rw [e] at hi
      cases hi
      obtain ⟨v, h2, h3⟩ := hg h e
      exact ⟨v, by rw [List.getElem?_append_left (by simpa [hl] using h1), List.getElem?_map, h2]; rfl, h3⟩
  · rw [List.getElem?_append_right (by simpa using h1), List.getElem?_replicate] at hi
    split at hi <;> cases hi
theorem stt_start {Lf : List Rs} {G H : Hp} {vs : List V} {A : List MP} {N : List Str} (s : Sub G H) (l : Live Lf G H) (h : PsA G vs A) (hloc : ∀ r ∈ Lf, r.loc = false) : Stt ⟨Lf, G, H⟩ Lf (ty0 A N.length) (L2.start N vs) G H where
  env := by
    unfold ty0 L2.start
    rw [← PsA.length h]
    exact env_start h N.length _
  len := by
    unfold ty0 L2.start
    rw [List.length_append, List.length_append, List.length_map, List.length_map, List.length_replicate, List.length_replicate, PsA.length h]
  sub := s
  live := l
  stp := ⟨Same.refl G, fun _ _ h _ => h, fun _ _ h _ _ => h⟩
  inh := fun r h => ⟨h, hloc r h⟩
  loc := fun r hr h => by rw [hloc r hr] at h; cases h
  own := fun r hr _ => hr
  nde := l.1
theorem cin_of {P : Program} {w : World} {K : PySem.W.Frag} {mg : Str → Option Value} {base : Heap} {N : List Str} {qual : Str} {scope : Scope} {f : Addr} {cd : Value} {A : Around} {outer : List PySem.Env} {s : Shared} {H : Hp} {E : XK} {k : Nat}
    (hN : N.Nodup) (hr : Room k (A.deeper (PyProof.Rows.envOfC qual scope s.heap.objs.size f cd))) : Cin { P := P, w := w, K := K, mg := mg, base := base, N := N, sc := scope, k := k } (cxOf CX0 P w K mg base N qual scope f cd A outer s H E).nox :=
  ⟨rfl, rfl, rfl, rfl, rfl, rfl, rfl, rfl, hr, fun _ _ => rfl, rfl, hN⟩
theorem Stt.liveE {E : Ent} {L : List Rs} {Γ : Ty} {σ : St} {G H : Hp} (T : Stt E L Γ σ G H) : Live E.L G H := ⟨T.nde, fun r hr => T.live.2 r (T.inh r hr).1⟩
/-- THE RULE for a def that always returns -/
theorem fn_ok {α : Type} {S : Sx} {x qual : Str} {params : Arguments} {body : List Stmt} {sc : Scope} {f : Addr} {fd : FuncData} {N ps : List Str} {k : Nat} {Lf : α → List Rs} {ok : α → Prop} {A : α → List MP} {R : α → MP}
    (Fd : FunD S.K x qual params body sc [] [] f fd) (Sc : FnScope N ps sc) (hl : ∀ a, (A a).length = ps.length) (hloc : ∀ a, ∀ r ∈ Lf a, r.loc = false)
    (h : ∀ a, ok a → Hr { toSx := S, N := N, sc := sc, k := k } (Lf a) (ty0 (A a) N.length) body NoFall (R a)) : FnOk S.P S.w S.K S.mg S.base CX0 (k + 1) f fd ps (Spc Lf ok A R) := by
  refine Fd.ok Sc (fun vs H Q E ⟨a, G, _, _, _, hv, _⟩ => by rw [PsA.length hv, hl]) fun cdv A' outer s H vs Q E hr ⟨a, G, hok, hs, hlv, hv, hq⟩ => ?_
  refine ⟨WS { toSx := S, N := N, sc := sc, k := k } body, PSs.nox (ps_ws (cin_of Sc.nd hr)), ?_⟩
  exact h a hok _ _ G H (stt_start hs hlv hv (hloc a)) _ (fun _ _ _ _ _ z _ => z.elim) fun v G' H' st sb lv p => hq v G' H' st sb lv p
section
variable {F : Fx} {L : List Rs} {Γ : Ty} {e a b c : Expr} {es : List Expr} {P Q R : MP} {pos p1 p2 : Pos} {N : List Rs → Ty → Prop} {rest : List Stmt} {x : Str}
/-- behind a call that keeps all -/
theorem Stt.call0 {E : Ent} {σ : St} {G H G' H' : Hp} (T : Stt E L Γ σ G H) (st : Stp ⟨[], G, H⟩ G' H') (sb : Sub G' H') : Nxt L G H G' H' ∧ Stt E L Γ σ G' H' := by
  have kp : ∀ a o, H a = some o → H' a = some o := fun a o h => st.keep a o h (by simp)
  have n : Nxt L G H G' H' := ⟨st.gg, fun a o h _ => kp a o h, st.old⟩
  refine ⟨n, T.next n sb ⟨T.live.1, fun r hr => ?_⟩⟩
  obtain ⟨h1, o, h2, h3⟩ := T.live.2 r hr
  exact ⟨st.old r.a o h1 h2 (r.φ.nt h3), o, kp _ _ h2, r.φ.mono st.gg h3⟩
/-- behind a call that may change the resource at l -/
theorem Stt.call1 {E : Ent} {σ : St} {G H G' H' : Hp} {r : Rs} (T : Stt E L Γ σ G H) (hr : ∃ r' ∈ L, r'.a = r.a ∧ r'.φ = r.φ) (st : Stp ⟨[r], G, H⟩ G' H') (sb : Sub G' H') (lv : Live [r] G' H') : Nxt L G H G' H' ∧ Stt E L Γ σ G' H' := by
  obtain ⟨r', hr', ea, ep⟩ := hr
  have kp : ∀ a o, H a = some o → a ≠ r.a → H' a = some o := fun a o h hn => st.keep a o h (by simpa using hn)
  have n : Nxt L G H G' H' := ⟨st.gg, fun a o h hm => kp a o h (fun z => hm (by rw [z, ← ea]; exact List.mem_map.mpr ⟨r', hr', rfl⟩)), st.old⟩
  refine ⟨n, T.next n sb ⟨T.live.1, fun q hq => ?_⟩⟩
  by_cases e : q.a = r.a
  · have eq : q = r' := by
      obtain ⟨i, hi, e1⟩ := List.mem_iff_getElem.mp hq
      obtain ⟨j, hj, e2⟩ := List.mem_iff_getElem.mp hr'
      have hij : i = j := (List.getElem_inj (h₀ := by simpa using hi) (h₁ := by simpa using hj) T.live.1).mp (by simp only [List.getElem_map, e1, e2, e, ea])
      subst hij
      rw [← e1, ← e2]
    subst eq
    obtain ⟨h1, o, h2, h3⟩ := lv.2 r (by simp)
    exact ⟨by rw [e]; exact h1, o, by rw [e]; exact h2, by rw [ep]; exact h3⟩
  · obtain ⟨h1, o, h2, h3⟩ := T.live.2 q hq
    exact ⟨st.old q.a o h1 h2 (q.φ.nt h3), o, kp _ _ h2 e, q.φ.mono st.gg h3⟩
/-- how a call reads -/
theorem call_core {α : Type} {Lf : α → List Rs} {ok : α → Prop} {A : α → List MP} {R : α → MP} (x : α) (hok : ok x) (hL : Lf x = [] ∨ ∃ r, Lf x = [r] ∧ ∃ r' ∈ L, r'.a = r.a ∧ r'.φ = r.φ) :
    ∀ E σ G H, Stt E L Γ σ G H → ∀ vs, PsA G vs (A x) → ∀ (Q : VK) (E' : XK), (∀ v G' H', Nxt L G H G' H' → Stt E L Γ σ G' H' → (R x).p G' v → Q v H') → Spc Lf ok A R vs H Q E' := fun E σ G H T vs pv Q E' k => by
  refine ⟨x, G, hok, T.sub, ?_, pv, fun v G' H' st sb lv p => ?_⟩
  · rcases hL with e | ⟨r, e, r', hr', ea, ep⟩
    · rw [e]; exact ⟨List.nodup_nil, fun _ h => absurd h (by simp)⟩
    · rw [e]
      refine ⟨by simp, fun q hq => ?_⟩
      have eq : q = r := by simpa using hq
      subst eq
      obtain ⟨h1, o, h2, h3⟩ := T.live.2 r' hr'
      exact ⟨by rw [← ea]; exact h1, o, by rw [← ea]; exact h2, by rw [← ep]; exact h3⟩
  · rcases hL with e | ⟨r, e, hr⟩
    · rw [e] at st
      obtain ⟨n, T'⟩ := T.call0 st sb
      exact k v G' H' n T' p
    · rw [e] at st lv
      obtain ⟨n, T'⟩ := T.call1 hr st sb lv
      exact k v G' H' n T' p
/-- f(e, ..) -/
theorem ev_call {α : Type} {Lf : α → List Rs} {ok : α → Prop} {A : α → List MP} {R : α → MP} {j : Nat} (C : Cl F.toSx x j (Spc Lf ok A R)) (z : α) (hok : ok z) (ha : Ea F L Γ (e :: es) (A z)) (hL : Lf z = [] ∨ ∃ r, Lf z = [r] ∧ ∃ r' ∈ L, r'.a = r.a ∧ r'.φ = r.φ := by exact .inl rfl) (hj : j ≤ F.k := by exact Nat.le_of_ble_eq_true rfl)
    (hg : F.sc.names.lookup x = some .globalImplicit := by rfl) (hdb : (x == ("__debug__" : Str)) = false := by decide) (he : ∀ env, starEach (e :: es) env = (false, eval e env) :: starEach es env := by intro _; rfl) (hpl : ∀ env, (backTo pos (starEach es env)).any (·.1) = false := by intro _; rfl) (hq : (R z).le Q := by exact MP.le.rfl) :
    Ev F L Γ (.Call (.Name x p1) (e :: es) [] pos) Q := fun E σ G H T K k => by
  obtain ⟨f, fd, ps, Fn, hm, hk, hb⟩ := C.ex
  refine we_pe (t := tCall (Spc Lf ok A R) [] E0 (WA F (e :: es))) (fun X hX => ?_) ?_
  · have Fn' : FnOk X.prog X.w X.K X.mg X.base CX0 j f fd ps (Spc Lf ok A R) := by rw [hX.prog, hX.w, hX.K, hX.mg, hX.base]; exact Fn
    exact pe_call Fn' (hX.room.mono hj) (hX.gl hg) (by rw [hX.mg]; exact hm) (by rw [hX.K]; exact hk) (by rw [hX.K]; exact hb) .nil pass0 (pa_wa hX) hdb (he _) (hpl _)
  · refine ha E σ G H T _ fun vs G1 H1 n1 T1 q1 => ?_
    rw [List.append_nil]
    exact call_core z hok hL E σ G1 H1 T1 vs q1 K E0 fun v G2 H2 n2 T2 p2 => k v G2 H2 (n1.trans T.live T1.live n2) T2 (hq _ _ p2)

/-! ### statements -/
theorem hr_le {N' : List Rs → Ty → Prop} {R' : MP} {sts : List Stmt} (h : Hr F L Γ sts N R) (hn : ∀ L' Γ', N L' Γ' → N' L' Γ') (hr : R.le R') : Hr F L Γ sts N' R' := fun E σ G H T D k1 k2 =>
  h E σ G H T D (fun L' Γ' σ' G' H' n T' => k1 L' Γ' σ' G' H' (hn _ _ n) T') fun v G' H' st sb lv p => k2 v G' H' st sb lv (hr _ _ p)
theorem hr_nil (h : N L Γ) : Hr F L Γ [] N R := fun E σ G H T D k1 _ => ws_nil (k1 L Γ σ G H h T)
theorem hr_set (i : Nat) {px : Pos} (h : Ev F L Γ e P) (k : Hr F L (Γ.set i (some P)) rest N R) (hN : F.N[i]? = some x := by rfl) (hx : Lo F x := by first | exact Or.inl rfl | exact Or.inr ⟨rfl, rfl⟩)
    (hs : ∀ env, swapsWith e (some (.Name x px)) pos.line env = pure false := by intro _; rfl) : Hr F L Γ (.Assign [.Name x px] e pos :: rest) N R := fun E σ G H T D k1 k2 => by
  refine ws_cons (w1_ps (t := tAsg (WE F e) (gName i)) (fun X hX => ps_set (by rw [hX.N]; exact hX.nd) (by rw [hX.N]; exact hN) (hX.loc hx.loc) (pe_we hX) (hs _) (hX.fnl hx)) ?_)
  exact h E σ G H T _ fun v G' H' n T' p => k E _ G' H' (T'.set i p) D k1 k2
theorem hr_ret {R' : MP} (h : Ev F L Γ e R') (q : R'.le R) : Hr F L Γ (.Return (some e) pos :: rest) N R := fun E σ G H T D k1 k2 => by
  refine ws_cons (w1_ps (t := tRet (WE F e)) (fun X hX => ps_ret (pe_we hX)) ?_)
  exact h E σ G H T _ fun v G' H' n T' p => k2 v G' H' T'.stp T'.sub T'.liveE (q _ _ p)
/-- if c: a; else: b; rest, each way to its end -/
theorem hr_if {T : Bool → Prop} {sa sb : List Stmt} {N1 N2 : List Rs → Ty → Prop} (hc : Et F L Γ c T) (ha : T true → Hr F L Γ sa N1 R) (hb : T false → Hr F L Γ sb N2 R) (k1 : T true → ∀ L' Γ', N1 L' Γ' → Hr F L' Γ' rest N R) (k2 : T false → ∀ L' Γ', N2 L' Γ' → Hr F L' Γ' rest N R) :
    Hr F L Γ (.If c sa sb pos :: rest) N R := fun E σ G H Tt D d1 d2 => by
  refine ws_cons (w1_ps (t := tIfS (WT F c) (WS F sa) (WS F sb)) (fun X hX => ps_if (pt_wt hX) (ps_ws hX) (ps_ws hX)) ?_)
  refine hc E σ G H Tt _ fun b G1 H1 n1 T1 t1 => ?_
  cases b with
  | true => exact iteT (ha t1 E σ G1 H1 T1 _ (fun L' Γ' σ' G' H' n T' => k1 t1 L' Γ' n E σ' G' H' T' D d1 d2) d2)
  | false => exact iteF (hb t1 E σ G1 H1 T1 _ (fun L' Γ' σ' G' H' n T' => k2 t1 L' Γ' n E σ' G' H' T' D d1 d2) d2)
/-- if c: (returns); rest -/
theorem hr_ifR {T : Bool → Prop} {sa : List Stmt} (hc : Et F L Γ c T) (ha : T true → Hr F L Γ sa NoFall R) (k : T false → Hr F L Γ rest N R) : Hr F L Γ (.If c sa [] pos :: rest) N R :=
  hr_if (N2 := fun L' Γ' => L' = L ∧ Γ' = Γ) hc ha (fun _ => hr_nil ⟨rfl, rfl⟩) (fun _ _ _ z => z.elim) (fun t L' Γ' ⟨e1, e2⟩ => by rw [e1, e2]; exact k t)
/-- if c: (falls through); rest -/
theorem hr_ifT {T : Bool → Prop} {sa : List Stmt} {N1 : List Rs → Ty → Prop} (hc : Et F L Γ c T) (ha : T true → Hr F L Γ sa N1 R) (k1 : T true → ∀ L' Γ', N1 L' Γ' → Hr F L' Γ' rest N R) (k : T false → Hr F L Γ rest N R) : Hr F L Γ (.If c sa [] pos :: rest) N R :=
  hr_if (N2 := fun L' Γ' => L' = L ∧ Γ' = Γ) hc ha (fun _ => hr_nil ⟨rfl, rfl⟩) k1 (fun t L' Γ' ⟨e1, e2⟩ => by rw [e1, e2]; exact k t)
/-- a slot's value told apart, weakened -/
theorem hr_ex (i : Nat) {α : Type} {φ : α → Prop} {P : α → MP} {sts : List Stmt} (h : Γ[i]? = some (some (Xp φ P))) (k : ∀ x, φ x → Hr F L (Γ.set i (some (P x))) sts N R) : Hr F L Γ sts N R := fun E σ G H T D k1 k2 => by
  obtain ⟨v, hv, x, hx, p⟩ := T.get h
  refine k x hx E σ G H (T.retype (fun j Q hj => ?_) (by rw [List.length_set])) D k1 k2
  by_cases e : j = i
  · subst e
    have hl : j < Γ.length := (List.getElem?_eq_some_iff.mp h).1
    rw [List.getElem?_set_self hl] at hj
    cases hj
    exact ⟨v, hv, p⟩
  · rw [List.getElem?_set_ne (fun z => e z.symm)] at hj
    exact T.env j Q hj
theorem hr_ty (i : Nat) {P' : MP} {sts : List Stmt} (h : Γ[i]? = some (some P)) (q : P.le P') (k : Hr F L (Γ.set i (some P')) sts N R) : Hr F L Γ sts N R := fun E σ G H T D k1 k2 => by
  obtain ⟨v, hv, p⟩ := T.get h
  refine k E σ G H (T.retype (fun j Q hj => ?_) (by rw [List.length_set])) D k1 k2
  by_cases e : j = i
  · subst e
    have hl : j < Γ.length := (List.getElem?_eq_some_iff.mp h).1
    rw [List.getElem?_set_self hl] at hj
    cases hj
    exact ⟨v, hv, q _ _ p⟩
  · rw [List.getElem?_set_ne (fun z => e z.symm)] at hj
    exact T.env j Q hj

/-! ### local containers -/
def ListR (ds : List PyData) : RP := ⟨fun G o => ∃ vs, o = .lst vs ∧ DgA G vs ds, fun e ⟨vs, h1, h2⟩ => ⟨vs, h1, DgA.mono e _ _ h2⟩, fun ⟨vs, h1, _⟩ xs e => by rw [h1] at e; cases e⟩
/-- a new local container -/
theorem Stt.newR {E : Ent} {σ : St} {G H : Hp} {φ : RP} (T : Stt E L Γ σ G H) {p : Addr} (hp : H p = none) {o : HO} (ho : φ.p G o) : Stt E (⟨p, φ, true⟩ :: L) Γ σ G (upd H p o) where
  env := T.env
  len := T.len
  sub := fun a u h => by
    have e : a ≠ p := fun z => by rw [z, T.sub.free hp] at h; cases h
    rw [upd_ne e]; exact T.sub a u h
  live := by
    refine ⟨?_, fun r hr => ?_⟩
    · rw [List.map_cons]
      refine List.nodup_cons.mpr ⟨fun hm => ?_, T.live.1⟩
      obtain ⟨r, hr, e⟩ := List.mem_map.mp hm
      obtain ⟨_, o', h2, _⟩ := T.live.2 r hr
      have e' : r.a = p := e
      rw [e', hp] at h2; cases h2
    · rcases List.mem_cons.mp hr with e | hr
      · subst e
        exact ⟨T.sub.free hp, o, upd_same, ho⟩
      · obtain ⟨h1, o', h2, h3⟩ := T.live.2 r hr
        exact ⟨h1, o', by rw [upd_ne (ne_of_none h2 hp)]; exact h2, h3⟩
  stp := ⟨T.stp.gg, fun a u h hm => by rw [upd_ne (fun z => by rw [z, T.fresh hp] at h; cases h)]; exact T.stp.keep a u h hm, T.stp.old⟩
  inh := fun r hr => ⟨List.mem_cons_of_mem _ (T.inh r hr).1, (T.inh r hr).2⟩
  loc := fun r hr hb => by
    rcases List.mem_cons.mp hr with e | hr
    · subst e; exact T.fresh hp
    · exact T.loc r hr hb
  own := fun r hr hb => by
    rcases List.mem_cons.mp hr with e | hr
    · subst e; cases hb
    · exact T.own r hr hb
  nde := T.nde
/-- a resource changed -/
theorem Stt.setR {E : Ent} {σ : St} {G H : Hp} {φ φ' : RP} {k : Nat} {p : Addr} (T : Stt E L Γ σ G H) (hk : L[k]? = some ⟨p, φ, true⟩) {o : HO} (ho : φ'.p G o) : Stt E (L.set k ⟨p, φ', true⟩) Γ σ G (upd H p o) := by
  have hm : (⟨p, φ, true⟩ : Rs) ∈ L := List.mem_of_getElem? hk
  obtain ⟨hg, o0, ho0, _⟩ := T.live.2 _ hm
  have hE : E.H p = none := T.loc _ hm rfl
  have hmap : (L.set k ⟨p, φ', true⟩).map Rs.a = L.map Rs.a := by
    rw [List.map_set]
    apply List.ext_getElem?
    intro j
    by_cases e : k = j
    · subst e
      have hl : k < (L.map Rs.a).length := by rw [List.length_map]; exact (List.getElem?_eq_some_iff.mp hk).1
      rw [List.getElem?_set_self hl, List.getElem?_map, hk]; rfl
    · rw [List.getElem?_set_ne e]
  have hof : ∀ r ∈ L.set k ⟨p, φ', true⟩, r = ⟨p, φ', true⟩ ∨ (r ∈ L ∧ r.a ≠ p) := fun r hr => by
    obtain ⟨j, hj, e⟩ := List.mem_iff_getElem.mp hr
    by_cases ej : k = j
    · subst ej
      left
      rw [← e, List.getElem_set_self]
    · right
      rw [List.getElem_set_ne ej] at e
      have hj' : j < L.length := by simpa using hj
      refine ⟨by rw [← e]; exact List.getElem_mem hj', fun z => ej ?_⟩
      obtain ⟨hkl, ek⟩ := List.getElem?_eq_some_iff.mp hk
      exact (List.getElem_inj (h₀ := by simpa using hkl) (h₁ := by simpa using hj') T.live.1).mp (by simp only [List.getElem_map, ek, e, z])
  refine ⟨T.env, T.len, fun a u h => ?_, ⟨by rw [hmap]; exact T.live.1, fun r hr => ?_⟩, ⟨T.stp.gg, fun a u h hn => ?_, T.stp.old⟩, fun r hr => ?_, fun r hr hb => ?_, fun r hr hb => ?_, T.nde⟩
  · have e : a ≠ p := fun z => by rw [z, hg] at h; cases h
    rw [upd_ne e]; exact T.sub a u h
  · rcases hof r hr with e | ⟨hr, hne⟩
    · subst e
      exact ⟨hg, o, upd_same, ho⟩
    · obtain ⟨h1, o', h2, h3⟩ := T.live.2 r hr
      exact ⟨h1, o', by rw [upd_ne hne]; exact h2, h3⟩
  · rw [upd_ne (fun z => by rw [z, hE] at h; cases h)]; exact T.stp.keep a u h hn
  · obtain ⟨hr', hb⟩ := T.inh r hr
    obtain ⟨j, hj, e⟩ := List.mem_iff_getElem.mp hr'
    have ej : k ≠ j := fun z => by
      subst z
      have e2 : L[k]? = some r := by rw [List.getElem?_eq_getElem hj, e]
      rw [hk] at e2
      cases e2
      cases hb
    exact ⟨List.mem_iff_getElem.mpr ⟨j, by simpa using hj, by rw [List.getElem_set_ne ej]; exact e⟩, hb⟩
  · rcases hof r hr with e | ⟨hr, _⟩
    · subst e; exact hE
    · exact T.loc r hr hb
  · rcases hof r hr with e | ⟨hr, _⟩
    · subst e; cases hb
    · exact T.own r hr hb
end
end Hw
set_option Elab.async false
set_option linter.all false
set_option maxRecDepth 100000
set_option maxHeartbeats 4000000
namespace Hw
open PySem PySem.Spec L2

section
variable {κ : Type} [DecidableEq κ]
abbrev KvA (G : Hp) : List (κ × V) → List (κ × PyData) → Prop := Paired fun p q => p.1 = q.1 ∧ Dg G p.2 q.2
theorem KvA.mono {G G' : Hp} (e : Same G G') : ∀ {ks : List (κ × V)} {kvs : List (κ × PyData)}, KvA G ks kvs → KvA G' ks kvs
  | _, _, .nil => .nil
  | _, _, .cons r t => .cons ⟨r.1, Dg.mono e _ _ r.2⟩ (KvA.mono e t)
def lookD (kvs : List (κ × PyData)) (k : κ) : Option PyData := (kvs.find? fun p => decide (p.1 = k)).map (·.2)
def putD (kvs : List (κ × PyData)) (k : κ) (d : PyData) : List (κ × PyData) := if (kvs.any fun p => decide (p.1 = k)) = true then kvs.map (fun p => if p.1 = k then (p.1, d) else p) else kvs ++ [(k, d)]
theorem lookD_cons {p : κ × PyData} {r : List (κ × PyData)} {k : κ} : lookD (p :: r) k = if p.1 = k then some p.2 else lookD r k := by
  unfold lookD
  rw [List.find?_cons]
  by_cases h : p.1 = k
  · rw [decide_eq_true h, if_pos h]; rfl
  · rw [decide_eq_false h, if_neg h]
theorem KvA.look {G : Hp} {k : κ} : ∀ {ks : List (κ × V)} {kvs : List (κ × PyData)}, KvA G ks kvs → (valV ks k = none ∧ lookD kvs k = none) ∨ ∃ v d, valV ks k = some v ∧ lookD kvs k = some d ∧ Dg G v d
  | _, _, .nil => .inl ⟨rfl, rfl⟩
  | _, _, @Paired.cons _ _ _ p q _ _ r t => by
    by_cases h : p.1 = k
    · right
      exact ⟨p.2, q.2, valV_pos h, by rw [lookD_cons, if_pos (by rw [← r.1]; exact h)], r.2⟩
    · rw [valV_neg h, lookD_cons, if_neg (by rw [← r.1]; exact h)]
      exact KvA.look t
theorem KvA.some' {G : Hp} {k : κ} {ks : List (κ × V)} {kvs : List (κ × PyData)} {d : PyData} (h : KvA G ks kvs) (e : lookD kvs k = some d) : ∃ v, valV ks k = some v ∧ Dg G v d := by
  rcases h.look (k := k) with ⟨_, e2⟩ | ⟨v, d', h1, h2, h3⟩
  · rw [e] at e2; cases e2
  · rw [e] at h2; cases h2; exact ⟨v, h1, h3⟩
theorem KvA.isSome {G : Hp} {k : κ} {ks : List (κ × V)} {kvs : List (κ × PyData)} (h : KvA G ks kvs) : (valV ks k).isSome = (lookD kvs k).isSome := by
  rcases h.look (k := k) with ⟨e1, e2⟩ | ⟨v, d', h1, h2, h3⟩
  · rw [e1, e2]; rfl
  · rw [h1, h2]; rfl
theorem KvA.length {G : Hp} {ks : List (κ × V)} {kvs : List (κ × PyData)} (h : KvA G ks kvs) : ks.length = kvs.length := Paired.length h
theorem KvA.any {G : Hp} {k : κ} : ∀ {ks : List (κ × V)} {kvs : List (κ × PyData)}, KvA G ks kvs → (ks.any fun p => decide (p.1 = k)) = kvs.any fun p => decide (p.1 = k)
  | _, _, .nil => rfl
  | _, _, .cons r t => by rw [List.any_cons, List.any_cons, r.1, KvA.any t]
theorem KvA.put {G : Hp} {k : κ} {v : V} {d : PyData} {ks : List (κ × V)} {kvs : List (κ × PyData)} (h : KvA G ks kvs) (hd : Dg G v d) : KvA G (putK ks k v) (putD kvs k d) := by
  unfold putK putD
  rw [h.any]
  split
  · rename_i hq; clear hq
    induction h with
    | nil => exact .nil
    | @cons p q _ _ r t ih =>
      rw [List.map_cons, List.map_cons]
      refine .cons ?_ ih
      by_cases e : p.1 = k
      · rw [if_pos e, if_pos (by rw [← r.1]; exact e)]; exact ⟨r.1, hd⟩
      · rw [if_neg e, if_neg (by rw [← r.1]; exact e)]; exact r
  · rename_i hq; clear hq
    induction h with
    | nil => exact .cons ⟨rfl, hd⟩ .nil
    | cons r t ih => exact .cons r ih
end
def kD : Key → PyData
  | .inl i => .int i
  | .inr x => .str x
theorem Dg.key {G : Hp} {v : V} {k : Key} (h : Dg G v (kD k)) : v = kV k := by
  cases k with
  | inl i => exact h.int_eq
  | inr x => exact h.str_eq
theorem DgA.keys {G : Hp} : ∀ {vs : List V} {ks : List Key}, DgA G vs (ks.map kD) → vs = ks.map kV
  | _, [], h => by cases h; rfl
  | _, k :: ks, h => by
    cases h with
    | cons h1 h2 => rw [h1.key, DgA.keys h2]; rfl
/-- known dicts: int and text keys; tuples as keys -/
def DKP (kvs : List (Key × PyData)) : MP := ⟨fun G v => ∃ a ks, v = .ref a ∧ G a = some (.dK ks) ∧ KvA G ks kvs, fun e ⟨a, ks, h1, h2, h3⟩ => ⟨a, ks, h1, e _ _ h2, h3.mono e⟩⟩
def DTP (kvs : List (List Key × PyData)) : MP := ⟨fun G v => ∃ a ks, v = .ref a ∧ G a = some (.dT ks) ∧ KvA G ks kvs, fun e ⟨a, ks, h1, h2, h3⟩ => ⟨a, ks, h1, e _ _ h2, h3.mono e⟩⟩
def DKR (kvs : List (Key × PyData)) : RP := ⟨fun G o => ∃ ks, o = .dK ks ∧ KvA G ks kvs, fun e ⟨ks, h1, h2⟩ => ⟨ks, h1, h2.mono e⟩, fun ⟨vs, h1, _⟩ xs e => by rw [h1] at e; cases e⟩
def DTR (kvs : List (List Key × PyData)) : RP := ⟨fun G o => ∃ ks, o = .dT ks ∧ KvA G ks kvs, fun e ⟨ks, h1, h2⟩ => ⟨ks, h1, h2.mono e⟩, fun ⟨vs, h1, _⟩ xs e => by rw [h1] at e; cases e⟩
/-- what the dict e is: known, or a local one -/
def DicE (L : List Rs) (G H : Hp) (a : Addr) (κ : Type) (mk : List (κ × V) → HO) (kvs : List (κ × PyData)) : Prop := ∃ ks, Rd H a (mk ks) ∧ KvA G ks kvs
/-- P: a dict with tuple keys that holds kvs, where L stands -/
def IsDT (L : List Rs) (P : MP) (kvs : List (List Key × PyData)) : Prop := ∀ E Γ σ G H v, Stt E L Γ σ G H → P.p G v → ∃ a ks, v = .ref a ∧ Rd H a (.dT ks) ∧ KvA G ks kvs
def IsDK (L : List Rs) (P : MP) (kvs : List (Key × PyData)) : Prop := ∀ E Γ σ G H v, Stt E L Γ σ G H → P.p G v → ∃ a ks, v = .ref a ∧ Rd H a (.dK ks) ∧ KvA G ks kvs
theorem isDT_G {L : List Rs} {kvs : List (List Key × PyData)} : IsDT L (DTP kvs) kvs := fun E Γ σ G H v T ⟨a, ks, h1, h2, h3⟩ => ⟨a, ks, h1, T.sub.rd h2, h3⟩
theorem isDK_G {L : List Rs} {kvs : List (Key × PyData)} : IsDK L (DKP kvs) kvs := fun E Γ σ G H v T ⟨a, ks, h1, h2, h3⟩ => ⟨a, ks, h1, T.sub.rd h2, h3⟩
theorem isDT_L {L : List Rs} {a : Addr} {b : Bool} {kvs : List (List Key × PyData)} (k : Nat) (h : L[k]? = some ⟨a, DTR kvs, b⟩ := by rfl) : IsDT L (IsV (.ref a)) kvs := fun E Γ σ G H v T hv => by
  obtain ⟨_, o, h2, ks, h3, h4⟩ := T.live.2 _ (List.mem_of_getElem? h)
  subst h3
  exact ⟨a, ks, hv, .inl h2, h4⟩
theorem isDK_L {L : List Rs} {a : Addr} {b : Bool} {kvs : List (Key × PyData)} (k : Nat) (h : L[k]? = some ⟨a, DKR kvs, b⟩ := by rfl) : IsDK L (IsV (.ref a)) kvs := fun E Γ σ G H v T hv => by
  obtain ⟨_, o, h2, ks, h3, h4⟩ := T.live.2 _ (List.mem_of_getElem? h)
  subst h3
  exact ⟨a, ks, hv, .inl h2, h4⟩

section
variable {F : Fx} {L : List Rs} {Γ : Ty} {e a b c : Expr} {es : List Expr} {P Q R : MP} {pos p1 p2 px lp ap cp : Pos} {N : List Rs → Ty → Prop} {rest : List Stmt} {x : Str}
/-- d[(..)] -/
theorem ev_dgetT {kvs : List (List Key × PyData)} {k : List Key} {d : PyData} (ha : Ev F L Γ a P) (hd : IsDT L P kvs) (hb : Ev F L Γ b (D (.tuple (k.map kD)))) (hk : lookD kvs k = some d) (hs : NoSl b := by exact fun _ _ => rfl) : Ev F L Γ (.Subscript a b pos) (D d) := fun E σ G H T K q => by
  refine we_pe (t := tDGet (WE F a) (WE F b)) (fun X hX => pe_dget hX.hu (pe_we hX) (pe_we hX) hs) ?_
  refine ha E σ G H T _ fun x G1 H1 n1 T1 p1 => hb E σ G1 H1 T1 _ fun y G2 H2 n2 T2 p2 => ?_
  obtain ⟨ad, ks, rfl, h1, h2⟩ := hd E Γ σ G2 H2 x T2 (P.mono n2.gg p1)
  obtain ⟨t, ts, rfl, h3, h4⟩ := p2.tup_of
  have e := h4.keys
  subst e
  obtain ⟨v, hv, hvd⟩ := h2.some' hk
  exact ⟨ad, v, rfl, .inr ⟨ks, k, t, h1, rfl, T2.sub.tup h3, hv.symm⟩, q v G2 H2 (n1.trans T.live T1.live n2) T2 hvd⟩
theorem ev_dgetK {kvs : List (Key × PyData)} {k : Key} {d : PyData} (ha : Ev F L Γ a P) (hd : IsDK L P kvs) (hb : Ev F L Γ b (D (kD k))) (hk : lookD kvs k = some d) (hs : NoSl b := by exact fun _ _ => rfl) : Ev F L Γ (.Subscript a b pos) (D d) := fun E σ G H T K q => by
  refine we_pe (t := tDGet (WE F a) (WE F b)) (fun X hX => pe_dget hX.hu (pe_we hX) (pe_we hX) hs) ?_
  refine ha E σ G H T _ fun x G1 H1 n1 T1 p1 => hb E σ G1 H1 T1 _ fun y G2 H2 n2 T2 p2 => ?_
  obtain ⟨ad, ks, rfl, h1, h2⟩ := hd E Γ σ G2 H2 x T2 (P.mono n2.gg p1)
  obtain ⟨v, hv, hvd⟩ := h2.some' hk
  exact ⟨ad, v, rfl, .inl ⟨ks, k, h1, Dg.key p2, hv.symm⟩, q v G2 H2 (n1.trans T.live T1.live n2) T2 hvd⟩
/-- k in d, k not in d, as tests and values -/
theorem in_core {kvs : List (List Key × PyData)} {k : List Key} {G H : Hp} {x y : V} {E : Ent} {σ : St} (T : Stt E L Γ σ G H) (hd : IsDT L P kvs) (p1 : P.p G x) (p2 : Dg G y (.tuple (k.map kD))) : ∃ ad, x = .ref ad ∧ ∃ o : Option V, DGet H ad y o ∧ o.isSome = (lookD kvs k).isSome := by
  obtain ⟨ad, ks, rfl, h1, h2⟩ := hd E Γ σ G H x T p1
  obtain ⟨t, ts, rfl, h3, h4⟩ := p2.tup_of
  have e := h4.keys
  subst e
  exact ⟨ad, rfl, _, .inr ⟨ks, k, t, h1, rfl, T.sub.tup h3, rfl⟩, h2.isSome⟩
theorem in_coreK {kvs : List (Key × PyData)} {k : Key} {G H : Hp} {x y : V} {E : Ent} {σ : St} (T : Stt E L Γ σ G H) (hd : IsDK L P kvs) (p1 : P.p G x) (p2 : Dg G y (kD k)) : ∃ ad, x = .ref ad ∧ ∃ o : Option V, DGet H ad y o ∧ o.isSome = (lookD kvs k).isSome := by
  obtain ⟨ad, ks, rfl, h1, h2⟩ := hd E Γ σ G H x T p1
  exact ⟨ad, rfl, _, .inl ⟨ks, k, h1, p2.key, rfl⟩, h2.isSome⟩
theorem et_inT {kvs : List (List Key × PyData)} {k : List Key} (hb : Ev F L Γ b (D (.tuple (k.map kD)))) (ha : Ev F L Γ a P) (hd : IsDT L P kvs) (hm : behindInMarks .In a = false := by rfl) : Et F L Γ (.Compare b [.In] [a] pos) (· = (lookD kvs k).isSome) := fun E σ G H T K q => by
  refine wt_pt (t := tB (tDIn (WE F b) (WE F a))) (fun X hX => pt_cmp (pc_din hX.hu (pe_we hX) (pe_we hX)) hm) ?_
  refine hb E σ G H T _ fun y G1 H1 n1 T1 p1 => ha E σ G1 H1 T1 _ fun x G2 H2 n2 T2 p2 => ?_
  obtain ⟨ad, e1, o, h1, h2⟩ := in_core T2 hd p2 ((D _).mono n2.gg p1)
  exact ⟨ad, o, e1, h1, _, rfl, q _ G2 H2 (n1.trans T.live T1.live n2) T2 h2⟩
theorem et_notInT {kvs : List (List Key × PyData)} {k : List Key} (hb : Ev F L Γ b (D (.tuple (k.map kD)))) (ha : Ev F L Γ a P) (hd : IsDT L P kvs) (hm : behindInMarks .NotIn a = false := by rfl) : Et F L Γ (.Compare b [.NotIn] [a] pos) (· = !(lookD kvs k).isSome) := fun E σ G H T K q => by
  refine wt_pt (t := tB (tDNotIn (WE F b) (WE F a))) (fun X hX => pt_cmp (pc_dnotin hX.hu (pe_we hX) (pe_we hX)) hm) ?_
  refine hb E σ G H T _ fun y G1 H1 n1 T1 p1 => ha E σ G1 H1 T1 _ fun x G2 H2 n2 T2 p2 => ?_
  obtain ⟨ad, e1, o, h1, h2⟩ := in_core T2 hd p2 ((D _).mono n2.gg p1)
  exact ⟨ad, o, e1, h1, _, rfl, q _ G2 H2 (n1.trans T.live T1.live n2) T2 (by rw [h2])⟩
theorem et_inK {kvs : List (Key × PyData)} {k : Key} (hb : Ev F L Γ b (D (kD k))) (ha : Ev F L Γ a P) (hd : IsDK L P kvs) (hm : behindInMarks .In a = false := by rfl) : Et F L Γ (.Compare b [.In] [a] pos) (· = (lookD kvs k).isSome) := fun E σ G H T K q => by
  refine wt_pt (t := tB (tDIn (WE F b) (WE F a))) (fun X hX => pt_cmp (pc_din hX.hu (pe_we hX) (pe_we hX)) hm) ?_
  refine hb E σ G H T _ fun y G1 H1 n1 T1 p1 => ha E σ G1 H1 T1 _ fun x G2 H2 n2 T2 p2 => ?_
  obtain ⟨ad, e1, o, h1, h2⟩ := in_coreK T2 hd p2 ((D _).mono n2.gg p1)
  exact ⟨ad, o, e1, h1, _, rfl, q _ G2 H2 (n1.trans T.live T1.live n2) T2 h2⟩

/-! ### local lists -/
theorem hr_newL (i : Nat) (k : ∀ p, Hr F (⟨p, ListR [], true⟩ :: L) (Γ.set i (some (IsV (.ref p)))) rest N R) (hN : F.N[i]? = some x := by rfl) (hx : Lo F x := by first | exact Or.inl rfl | exact Or.inr ⟨rfl, rfl⟩) : Hr F L Γ (.Assign [.Name x px] (.List [] lp) pos :: rest) N R := fun E σ G H T D k1 k2 => by
  refine ws_cons (w1_ps (t := tAsg (tLst tNil) (gName i)) (fun X hX => ps_set (by rw [hX.N]; exact hX.nd) (by rw [hX.N]; exact hN) (hX.loc hx.loc) (pe_lst pa_nil) rfl (hX.fnl hx)) ?_)
  refine ⟨Nat.zero_le _, fun p hp => ?_⟩
  exact k p E _ G _ ((T.newR (φ := ListR []) hp ⟨[], rfl, .nil⟩).set i rfl) D k1 k2
theorem hr_newT (i : Nat) (k : ∀ p, Hr F (⟨p, DTR [], true⟩ :: L) (Γ.set i (some (IsV (.ref p)))) rest N R) (hN : F.N[i]? = some x := by rfl) (hx : Lo F x := by first | exact Or.inl rfl | exact Or.inr ⟨rfl, rfl⟩) : Hr F L Γ (.Assign [.Name x px] (.Dict [] [] lp) pos :: rest) N R := fun E σ G H T D k1 k2 => by
  refine ws_cons (w1_ps (t := tAsg tDNewT (gName i)) (fun X hX => ps_set (by rw [hX.N]; exact hX.nd) (by rw [hX.N]; exact hN) (hX.loc hx.loc) pe_dnewT rfl (hX.fnl hx)) ?_)
  intro p hp
  exact k p E _ G _ ((T.newR (φ := DTR []) hp ⟨[], rfl, .nil⟩).set i rfl) D k1 k2
theorem hr_newK (i : Nat) (k : ∀ p, Hr F (⟨p, DKR [], true⟩ :: L) (Γ.set i (some (IsV (.ref p)))) rest N R) (hN : F.N[i]? = some x := by rfl) (hx : Lo F x := by first | exact Or.inl rfl | exact Or.inr ⟨rfl, rfl⟩) : Hr F L Γ (.Assign [.Name x px] (.Dict [] [] lp) pos :: rest) N R := fun E σ G H T D k1 k2 => by
  refine ws_cons (w1_ps (t := tAsg tDNewK (gName i)) (fun X hX => ps_set (by rw [hX.N]; exact hX.nd) (by rw [hX.N]; exact hN) (hX.loc hx.loc) pe_dnewK rfl (hX.fnl hx)) ?_)
  intro p hp
  exact k p E _ G _ ((T.newR (φ := DKR []) hp ⟨[], rfl, .nil⟩).set i rfl) D k1 k2
/-- the local container k becomes known data -/
theorem Stt.freeze {E : Ent} {σ : St} {G H : Hp} {φ : RP} {k : Nat} {p : Addr} {o : HO} (T : Stt E L Γ σ G H) (hk : L[k]? = some ⟨p, φ, true⟩) (hp : H p = some o) : Stt E (L.eraseIdx k) Γ σ (upd G p o) H := by
  have hm : (⟨p, φ, true⟩ : Rs) ∈ L := List.mem_of_getElem? hk
  obtain ⟨hg, o0, ho0, _⟩ := T.live.2 _ hm
  have hg' : G p = none := hg
  have hE : E.H p = none := T.loc _ hm rfl
  have hof : ∀ r ∈ L.eraseIdx k, r ∈ L ∧ r.a ≠ p := fun r hr => by
    obtain ⟨j, hj, e⟩ := List.mem_eraseIdx_iff_getElem?.mp hr |>.elim fun j h => (⟨j, h.1, h.2⟩ : ∃ j, j ≠ k ∧ L[j]? = some r)
    refine ⟨List.mem_of_getElem? e, fun z => hj ?_⟩
    obtain ⟨hkl, ek⟩ := List.getElem?_eq_some_iff.mp hk
    obtain ⟨hjl, ejj⟩ := List.getElem?_eq_some_iff.mp e
    exact ((List.getElem_inj (h₀ := by simpa using hkl) (h₁ := by simpa using hjl) T.live.1).mp (by simp only [List.getElem_map, ek, ejj, z])).symm
  have sg := same_new hg' o
  refine ⟨T.env.mono sg, T.len, fun a u h => ?_, ⟨?_, fun r hr => ?_⟩, ⟨T.stp.gg.trans sg, T.stp.keep, fun a o' h1 h2 hn => ?_⟩, fun r hr => ?_, fun r hr hb => T.loc r (hof r hr).1 hb, fun r hr hb => T.own r (hof r hr).1 hb, T.nde⟩
  · by_cases e : a = p
    · subst e; rw [upd_same] at h; cases h; exact .inl hp
    · rw [upd_ne e] at h; exact T.sub a u h
  · exact T.live.1.sublist ((List.eraseIdx_sublist L k).map Rs.a)
  · obtain ⟨hr', hne⟩ := hof r hr
    obtain ⟨h1, o', h2, h3⟩ := T.live.2 r hr'
    exact ⟨by rw [upd_ne hne]; exact h1, o', h2, r.φ.mono sg h3⟩
  · have e : a ≠ p := fun z => by rw [z, hE] at h2; cases h2
    rw [upd_ne e]; exact T.stp.old a o' h1 h2 hn
  · obtain ⟨hr', hb⟩ := T.inh r hr
    obtain ⟨j, hj, e⟩ := List.mem_iff_getElem.mp hr'
    refine ⟨List.mem_eraseIdx_iff_getElem?.mpr ⟨j, fun z => ?_, by rw [List.getElem?_eq_getElem hj, e]⟩, hb⟩
    subst z
    rw [List.getElem?_eq_getElem hj, e] at hk
    cases hk
    cases hb
/-- a slot's type where something else is known of it -/
theorem Stt.as {E : Ent} {σ : St} {G H : Hp} (T : Stt E L Γ σ G H) {i : Nat} {P' : MP} (h : Γ[i]? = some (some P)) (q : ∀ v, P.p G v → P'.p G v) : Stt E L (Γ.set i (some P')) σ G H := by
  obtain ⟨v, hv, p⟩ := T.get h
  refine T.retype (fun j Q hj => ?_) (by rw [List.length_set])
  by_cases e : j = i
  · subst e
    have hl : j < Γ.length := (List.getElem?_eq_some_iff.mp h).1
    rw [List.getElem?_set_self hl] at hj
    cases hj
    exact ⟨v, hv, q v p⟩
  · rw [List.getElem?_set_ne (fun z => e z.symm)] at hj
    exact T.env j Q hj
theorem hr_freezeL (k i : Nat) {p : Addr} {ds : List PyData} {sts : List Stmt} (kk : Hr F (L.eraseIdx k) (Γ.set i (some (D (.list ds)))) sts N R) (hk : L[k]? = some ⟨p, ListR ds, true⟩ := by rfl) (hi : Γ[i]? = some (some (IsV (.ref p))) := by rfl) : Hr F L Γ sts N R := fun E σ G H T D k1 k2 => by
  obtain ⟨_, o, h1, vs, h2, h3⟩ := T.live.2 _ (List.mem_of_getElem? hk)
  subst h2
  have hg : G p = none := (T.live.2 _ (List.mem_of_getElem? hk)).1
  exact kk E σ _ H ((T.freeze hk h1).as hi fun v hv => by rw [show v = .ref p from hv]; exact .lst upd_same (DgA.mono (same_new hg _) _ _ h3)) D k1 k2
theorem hr_freezeT (k i : Nat) {p : Addr} {kvs : List (List Key × PyData)} {sts : List Stmt} (kk : Hr F (L.eraseIdx k) (Γ.set i (some (DTP kvs))) sts N R) (hk : L[k]? = some ⟨p, DTR kvs, true⟩ := by rfl) (hi : Γ[i]? = some (some (IsV (.ref p))) := by rfl) : Hr F L Γ sts N R := fun E σ G H T D k1 k2 => by
  obtain ⟨_, o, h1, ks, h2, h3⟩ := T.live.2 _ (List.mem_of_getElem? hk)
  subst h2
  have hg : G p = none := (T.live.2 _ (List.mem_of_getElem? hk)).1
  exact kk E σ _ H ((T.freeze hk h1).as hi fun v hv => ⟨p, ks, hv, upd_same, h3.mono (same_new hg _)⟩) D k1 k2
theorem hr_freezeK (k i : Nat) {p : Addr} {kvs : List (Key × PyData)} {sts : List Stmt} (kk : Hr F (L.eraseIdx k) (Γ.set i (some (DKP kvs))) sts N R) (hk : L[k]? = some ⟨p, DKR kvs, true⟩ := by rfl) (hi : Γ[i]? = some (some (IsV (.ref p))) := by rfl) : Hr F L Γ sts N R := fun E σ G H T D k1 k2 => by
  obtain ⟨_, o, h1, ks, h2, h3⟩ := T.live.2 _ (List.mem_of_getElem? hk)
  subst h2
  have hg : G p = none := (T.live.2 _ (List.mem_of_getElem? hk)).1
  exact kk E σ _ H ((T.freeze hk h1).as hi fun v hv => ⟨p, ks, hv, upd_same, h3.mono (same_new hg _)⟩) D k1 k2

/-- xs.append(e) -/
theorem hr_append (k i : Nat) {p : Addr} {ds : List PyData} {d : PyData} (h : Ev F L Γ e (D d)) (kk : Hr F (L.set k ⟨p, ListR (ds ++ [d]), true⟩) Γ rest N R) (hl : ds.length < 100000) (hk : L[k]? = some ⟨p, ListR ds, true⟩ := by rfl) (hi : Γ[i]? = some (some (IsV (.ref p))) := by rfl)
    (hN : F.N[i]? = some x := by rfl) (hv : Vis F.sc x := by first | exact Or.inl rfl | exact Or.inr (Or.inl rfl) | exact Or.inr (Or.inr rfl)) (hd : (x == ("__debug__" : Str)) = false := by decide) (hcd : (x == ("__classdict__" : Str)) = false := by decide)
    (hs : ∀ env, starEach [e] env = (false, eval e env) :: starEach [] env := by intro _; rfl) (hline : (ap.endLine == cp.line) = true := by rfl)
    (hbase : ∀ env, attributeBase (.Name x px) "append" env (eval (.Name x px) env) = eval (.Name x px) env := by intro _; rfl)
    (hfew : ∀ env, ((backTo cp (starEach [e] env)).all (fun x => !x.1) && (backToKw cp (keywordEach [] env)).all (fun x => x.1.isSome) && decide ([e].length + ([] : List Keyword).length + (if ([] : List Keyword).isEmpty then 0 else 1) < 30)) = true := by intro _; rfl) :
    Hr F L Γ (.Expr (.Call (.Attribute (.Name x px) "append" ap) [e] [] cp) pos :: rest) N R := fun E σ G H T D k1 k2 => by
  refine ws_cons (w1_ps (t := tDrop (tBM F.K "list" rAppend (tVar i) (tCons (WE F e) tNil))) (fun X hX => ?_) ?_)
  · refine ps_expr ?_
    rw [← hX.K]
    exact pe_bm PySem.F.plainAttrs_list PySem.F.slot_list_append PySem.F.type_list_append mt_append (pe_var (by rw [hX.N]; exact hN) (hX.vis hv) hd hcd) (pa_cons (pe_we hX) pa_nil (hs _)) (hbase _) (hfew _) hline (hs _) rfl
  · obtain ⟨v, hv', hp⟩ := T.get hi
    obtain ⟨_, o, h1, vs, h2, h3⟩ := T.live.2 _ (List.mem_of_getElem? hk)
    subst h2
    refine ⟨v, hv', ?_, ?_⟩
    · rw [show v = .ref p from hp]; exact .inl ⟨rfl, vs, SqL.of h1⟩
    refine h E σ G H T _ fun y G1 H1 n1 T1 q1 => ?_
    obtain ⟨_, o, h4, ws, h5, h6⟩ := T1.live.2 _ (List.mem_of_getElem? hk)
    subst h5
    refine ⟨p, ws, y, hp, rfl, h4, Nat.lt_of_lt_of_le (by rw [h6.length]; exact hl) (by decide), ?_⟩
    exact kk E σ G1 _ (T1.setR hk ⟨_, rfl, h6.append (.cons q1 .nil)⟩) D k1 k2
/-- xs.extend(e), e a known list -/
theorem hr_extendL (k i : Nat) {p : Addr} {ds es' : List PyData} (h : Ev F L Γ e (D (.list es'))) (kk : Hr F (L.set k ⟨p, ListR (ds ++ es'), true⟩) Γ rest N R) (hl : ds.length + es'.length ≤ 100000) (hk : L[k]? = some ⟨p, ListR ds, true⟩ := by rfl) (hi : Γ[i]? = some (some (IsV (.ref p))) := by rfl)
    (hN : F.N[i]? = some x := by rfl) (hv : Vis F.sc x := by first | exact Or.inl rfl | exact Or.inr (Or.inl rfl) | exact Or.inr (Or.inr rfl)) (hd : (x == ("__debug__" : Str)) = false := by decide) (hcd : (x == ("__classdict__" : Str)) = false := by decide)
    (hs : ∀ env, starEach [e] env = (false, eval e env) :: starEach [] env := by intro _; rfl) (hline : (ap.endLine == cp.line) = true := by rfl)
    (hbase : ∀ env, attributeBase (.Name x px) "extend" env (eval (.Name x px) env) = eval (.Name x px) env := by intro _; rfl)
    (hfew : ∀ env, ((backTo cp (starEach [e] env)).all (fun x => !x.1) && (backToKw cp (keywordEach [] env)).all (fun x => x.1.isSome) && decide ([e].length + ([] : List Keyword).length + (if ([] : List Keyword).isEmpty then 0 else 1) < 30)) = true := by intro _; rfl) :
    Hr F L Γ (.Expr (.Call (.Attribute (.Name x px) "extend" ap) [e] [] cp) pos :: rest) N R := fun E σ G H T D k1 k2 => by
  refine ws_cons (w1_ps (t := tDrop (tBM F.K "list" rExtend (tVar i) (tCons (WE F e) tNil))) (fun X hX => ?_) ?_)
  · refine ps_expr ?_
    rw [← hX.K]
    exact pe_bm PySem.F.plainAttrs_list PySem.F.slot_list_extend PySem.F.type_list_extend mt_extend (pe_var (by rw [hX.N]; exact hN) (hX.vis hv) hd hcd) (pa_cons (pe_we hX) pa_nil (hs _)) (hbase _) (hfew _) hline (hs _) rfl
  · obtain ⟨v, hv', hp⟩ := T.get hi
    obtain ⟨_, o, h1, vs, h2, h3⟩ := T.live.2 _ (List.mem_of_getElem? hk)
    subst h2
    refine ⟨v, hv', ?_, ?_⟩
    · rw [show v = .ref p from hp]; exact .inl ⟨rfl, vs, SqL.of h1⟩
    refine h E σ G H T _ fun y G1 H1 n1 T1 q1 => ?_
    obtain ⟨_, o, h4, ws, h5, h6⟩ := T1.live.2 _ (List.mem_of_getElem? hk)
    subst h5
    obtain ⟨b, zs, rfl, h7, h8⟩ := q1.lst_of
    refine ⟨p, b, ws, zs, hp, rfl, h4, T1.sub.lst h7, small (by rw [h6.length, h8.length]; exact hl), ?_⟩
    exact kk E σ G1 _ (T1.setR hk ⟨_, rfl, h6.append h8⟩) D k1 k2
/-- xs.reverse() -/
theorem hr_reverse (k i : Nat) {p : Addr} {ds : List PyData} (kk : Hr F (L.set k ⟨p, ListR ds.reverse, true⟩) Γ rest N R) (hk : L[k]? = some ⟨p, ListR ds, true⟩ := by rfl) (hi : Γ[i]? = some (some (IsV (.ref p))) := by rfl)
    (hN : F.N[i]? = some x := by rfl) (hv : Vis F.sc x := by first | exact Or.inl rfl | exact Or.inr (Or.inl rfl) | exact Or.inr (Or.inr rfl)) (hd : (x == ("__debug__" : Str)) = false := by decide) (hcd : (x == ("__classdict__" : Str)) = false := by decide)
    (hline : (ap.endLine == cp.line) = true := by rfl) (hbase : ∀ env, attributeBase (.Name x px) "reverse" env (eval (.Name x px) env) = eval (.Name x px) env := by intro _; rfl) :
    Hr F L Γ (.Expr (.Call (.Attribute (.Name x px) "reverse" ap) [] [] cp) pos :: rest) N R := fun E σ G H T D k1 k2 => by
  refine ws_cons (w1_ps (t := tDrop (tBM0 F.K "list" rReverse (tVar i))) (fun X hX => ?_) ?_)
  · refine ps_expr ?_
    rw [← hX.K]
    exact pe_bm0 PySem.F.plainAttrs_list PySem.F.slot_list_reverse PySem.F.type_list_reverse mt_reverse (pe_var (by rw [hX.N]; exact hN) (hX.vis hv) hd hcd) (hbase _) hline
  · obtain ⟨v, hv', hp⟩ := T.get hi
    obtain ⟨_, o, h1, vs, h2, h3⟩ := T.live.2 _ (List.mem_of_getElem? hk)
    subst h2
    refine ⟨v, hv', ?_, ?_⟩
    · rw [show v = .ref p from hp]; exact .inl ⟨rfl, vs, SqL.of h1⟩
    refine ⟨p, vs, hp, rfl, h1, ?_⟩
    exact kk E σ G _ (T.setR hk ⟨_, rfl, h3.reverse⟩) D k1 k2
/-- d[k] = e -/
theorem hr_putT (kk' i : Nat) {p : Addr} {kvs : List (List Key × PyData)} {ks : List Key} {d : PyData} {tp : Pos} (hv' : Ev F L Γ e (D d)) (hk' : Ev F L Γ b (D (.tuple (ks.map kD)))) (kk : Hr F (L.set kk' ⟨p, DTR (putD kvs ks d), true⟩) Γ rest N R) (hl : kvs.length < 100000)
    (hk : L[kk']? = some ⟨p, DTR kvs, true⟩ := by rfl) (hi : Γ[i]? = some (some (IsV (.ref p))) := by rfl) (hN : F.N[i]? = some x := by rfl) (hv : Vis F.sc x := by first | exact Or.inl rfl | exact Or.inr (Or.inl rfl) | exact Or.inr (Or.inr rfl)) (hd : (x == ("__debug__" : Str)) = false := by decide) (hcd : (x == ("__classdict__" : Str)) = false := by decide)
    (hs : ∀ env, swapsWith e (some (.Subscript (.Name x px) b tp)) pos.line env = pure false := by intro _; rfl) : Hr F L Γ (.Assign [.Subscript (.Name x px) b tp] e pos :: rest) N R := fun E σ G H T D k1 k2 => by
  refine ws_cons (w1_ps (t := sDPut (tVar i) (WE F b) (WE F e)) (fun X hX => ps_dput hX.hu (pe_var (by rw [hX.N]; exact hN) (hX.vis hv) hd hcd) (pe_we hX) (pe_we hX) (hs _)) ?_)
  refine hv' E σ G H T _ fun v G1 H1 n1 T1 q1 => ?_
  obtain ⟨w, hw, hp⟩ := T1.get hi
  refine ⟨w, hw, ?_⟩
  refine hk' E σ G1 H1 T1 _ fun y G2 H2 n2 T2 q2 => ?_
  obtain ⟨_, o, h4, ms, h5, h6⟩ := T2.live.2 _ (List.mem_of_getElem? hk)
  subst h5
  obtain ⟨t, ts, rfl, h7, h8⟩ := q2.tup_of
  have eq := h8.keys
  subst eq
  refine ⟨p, _, hp, DPut.t h4 (T2.sub.tup h7) (Nat.lt_of_lt_of_le (by rw [h6.length]; exact hl) (by decide)), ?_⟩
  exact kk E σ G2 _ (T2.setR hk ⟨_, rfl, h6.put (Dg.mono n2.gg _ _ q1)⟩) D k1 k2
theorem hr_putK (kk' i : Nat) {p : Addr} {kvs : List (Key × PyData)} {ks : Key} {d : PyData} {tp : Pos} (hv' : Ev F L Γ e (D d)) (hk' : Ev F L Γ b (D (kD ks))) (kk : Hr F (L.set kk' ⟨p, DKR (putD kvs ks d), true⟩) Γ rest N R) (hl : kvs.length < 100000)
    (hk : L[kk']? = some ⟨p, DKR kvs, true⟩ := by rfl) (hi : Γ[i]? = some (some (IsV (.ref p))) := by rfl) (hN : F.N[i]? = some x := by rfl) (hv : Vis F.sc x := by first | exact Or.inl rfl | exact Or.inr (Or.inl rfl) | exact Or.inr (Or.inr rfl)) (hd : (x == ("__debug__" : Str)) = false := by decide) (hcd : (x == ("__classdict__" : Str)) = false := by decide)
    (hs : ∀ env, swapsWith e (some (.Subscript (.Name x px) b tp)) pos.line env = pure false := by intro _; rfl) : Hr F L Γ (.Assign [.Subscript (.Name x px) b tp] e pos :: rest) N R := fun E σ G H T D k1 k2 => by
  refine ws_cons (w1_ps (t := sDPut (tVar i) (WE F b) (WE F e)) (fun X hX => ps_dput hX.hu (pe_var (by rw [hX.N]; exact hN) (hX.vis hv) hd hcd) (pe_we hX) (pe_we hX) (hs _)) ?_)
  refine hv' E σ G H T _ fun v G1 H1 n1 T1 q1 => ?_
  obtain ⟨w, hw, hp⟩ := T1.get hi
  refine ⟨w, hw, ?_⟩
  refine hk' E σ G1 H1 T1 _ fun y G2 H2 n2 T2 q2 => ?_
  obtain ⟨_, o, h4, ms, h5, h6⟩ := T2.live.2 _ (List.mem_of_getElem? hk)
  subst h5
  refine ⟨p, _, hp, by rw [Dg.key q2]; exact DPut.k h4 (Nat.lt_of_lt_of_le (by rw [h6.length]; exact hl) (by decide)), ?_⟩
  exact kk E σ G2 _ (T2.setR hk ⟨_, rfl, h6.put (Dg.mono n2.gg _ _ q1)⟩) D k1 k2
end
end Hw
set_option Elab.async false
set_option linter.all false
set_option maxRecDepth 100000
set_option maxHeartbeats 4000000
namespace Hw
open PySem PySem.Spec L2

/-! ### targets -/
theorem wipe_set (σ : St) (i : Nat) (x : Option V) : ∀ vs : List Nat, wipe (σ.set i x) vs = if i ∈ vs then wipe σ vs else (wipe σ vs).set i x
  | [] => by simp [wipe]
  | v :: vs => by
    have ih := wipe_set σ i x vs
    show (wipe (σ.set i x) vs).set v none = _
    rw [ih]
    by_cases e : i = v
    · subst e
      rw [if_pos List.mem_cons_self]
      split
      · rfl
      · rw [List.set_set]; rfl
    · by_cases h : i ∈ vs
      · rw [if_pos h, if_pos (List.mem_cons_of_mem _ h)]; rfl
      · rw [if_neg h, if_neg (by simp [e, h])]
        rw [List.set_comm _ _ (fun z => e z)]; rfl
def Tg (F : Fx) (tg : Expr) (vs : List Nat) (P : MP) (f : Ty → Ty) : Prop := ∀ E L Γ σ G H v, Stt E L Γ σ G H → P.p G v → ∀ Q : St → Hp → Prop, (∀ σ', Stt E L (f Γ) σ' G H → wipe σ' vs = wipe σ vs → Q σ' H) → WG F tg v σ H Q
def WGs (F : Fx) (ts : List Expr) : TGs := fun vs σ H Q => ∀ X, Cin F X → ∀ pins s us, Inv X pins σ H s → Vals vs us → wpAny (model X.prog X.w) X.A (assignInOrder ((assignEach ts X.env).map (·.2)) us) (fun _ s' => ∃ σ' H', Inv X pins σ' H' s' ∧ Q σ' H') X.xe s
def Tgs (F : Fx) (ts : List Expr) (vs : List Nat) (Ps : List MP) (f : Ty → Ty) : Prop := ∀ E L Γ σ G H us, Stt E L Γ σ G H → PsA G us Ps → ∀ Q : St → Hp → Prop, (∀ σ', Stt E L (f Γ) σ' G H → wipe σ' vs = wipe σ vs → Q σ' H) → WGs F ts us σ H Q
section
variable {F : Fx} {L : List Rs} {Γ : Ty} {e a b c tg iter elt : Expr} {es ts ifs : List Expr} {P Q R : MP} {Ps : List MP} {pos p1 p2 px lp ap cp : Pos} {N : List Rs → Ty → Prop} {rest body : List Stmt} {x : Str} {f f2 : Ty → Ty} {vs : List Nat}
theorem pgs_wgs {X : Cx} (h : Cin F X) : PGs X ts (WGs F ts) := ⟨fun pins s _ _ _ us _ I r q => q X h pins s us I r⟩
theorem wgs_pgs {t : TGs} (h : ∀ X, Cin F X → PGs X ts t) {us : List V} {σ : St} {H : Hp} {Q : St → Hp → Prop} (q : t us σ H Q) : WGs F ts us σ H Q := fun X hX pins s us' I r => (h X hX).run pins s σ H us us' Q I r q
theorem tg_name (i : Nat) (hm : i ∈ vs := by decide) (hN : F.N[i]? = some x := by rfl) (hx : Lo F x := by first | exact Or.inl rfl | exact Or.inr ⟨rfl, rfl⟩) : Tg F (.Name x pos) vs P (fun Γ => Γ.set i (some P)) := fun E L Γ σ G H v T p Q k =>
  wg_pg (t := gName i) (fun X hX => pg_name (by rw [hX.N]; exact hX.nd) (by rw [hX.N]; exact hN) (hX.loc hx.loc) (hX.fnl hx)) (k _ (T.set i p) (by rw [wipe_set, if_pos hm]))
theorem tgs_nil : Tgs F [] vs [] (fun Γ => Γ) := fun E L Γ σ G H us T p Q k => by
  cases p
  exact wgs_pgs (t := gNil) (fun _ _ => pgs_nil) ⟨rfl, k σ T rfl⟩
theorem tgs_cons (h1 : Tg F e vs P f) (h2 : Tgs F es vs Ps f2) (hs : ∀ env, (assignEach (e :: es) env).map (·.2) = assign e env :: (assignEach es env).map (·.2) := by intro _; rfl) : Tgs F (e :: es) vs (P :: Ps) (fun Γ => f2 (f Γ)) := fun E L Γ σ G H us T p Q k => by
  cases p with
  | cons p1 p2 =>
    refine wgs_pgs (t := gCons (WG F e) (WGs F es)) (fun X hX => pgs_cons (pg_wg hX) (pgs_wgs hX) (hs _)) ⟨_, _, rfl, ?_⟩
    exact h1 E L Γ σ G H _ T p1 _ fun σ1 T1 w1 => h2 E L _ σ1 G H _ T1 p2 Q fun σ2 T2 w2 => k σ2 T2 (w2.trans w1)
theorem tg_tupP {n kk : Nat} (h : Tgs F ts vs Ps f) (hn : ∀ env, (assignEach ts env).length = n := by intro _; rfl) (hst : ∀ env, (assignEach ts env).findIdx? (·.1) = none := by intro _; rfl) (hl : Ps.length = n := by rfl) : Tg F (.Tuple ts kk pos) vs (TupP Ps) f := fun E L Γ σ G H v T ⟨a, us, e1, e2, e3⟩ Q k =>
  wg_pg (t := gTup F.K n (WGs F ts)) (fun X hX => by rw [← hX.K]; exact pg_tup hX.calm (pgs_wgs hX) (hn _) (hst _)) ⟨a, us, e1, SqT.of (T.sub.tup e2), by rw [PsA.length e3]; exact hl, h E L Γ σ G H us T e3 Q k⟩
theorem tg_tup {n kk : Nat} {ds : List PyData} (h : Tgs F ts vs (ds.map D) f) (hn : ∀ env, (assignEach ts env).length = n := by intro _; rfl) (hst : ∀ env, (assignEach ts env).findIdx? (·.1) = none := by intro _; rfl) (hl : ds.length = n := by rfl) : Tg F (.Tuple ts kk pos) vs (D (.tuple ds)) f := fun E L Γ σ G H v T p Q k => by
  obtain ⟨a, us, e1, e2, e3⟩ := p.tup_of
  exact tg_tupP h hn hst (by rw [List.length_map]; exact hl) E L Γ σ G H v T ⟨a, us, e1, e2, e3.psa⟩ Q k
/-- tg = e -/
theorem hr_asg (h : Ev F L Γ e P) (ht : Tg F tg vs P f) (k : Hr F L (f Γ) rest N R) (hs : ∀ env, swapsWithSole [tg] e pos.line env = pure false := by intro _; rfl) (hw : ∀ env, swappedStores [tg] e env = pure none := by intro _; rfl) (h1 : ∀ env, (assignEach [tg] env).map (·.2) = [assign tg env] := by intro _; rfl) :
    Hr F L Γ (.Assign [tg] e pos :: rest) N R := fun E σ G H T D k1 k2 => by
  refine ws_cons (w1_ps (t := tAsg (WE F e) (WG F tg)) (fun X hX => ps_asg (pe_we hX) (pg_wg hX) (hs _) (hw _) (h1 _)) ?_)
  refine h E σ G H T _ fun v G' H' n T' p => ?_
  exact ht E L Γ σ G' H' v T' p _ fun σ' T2 _ => k E σ' G' H' T2 D k1 k2

/-! ### loops -/
theorem Stt.rebase {E : Ent} {L L' : List Rs} {Γ Γ' : Ty} {σ σ' : St} {G H G' H' : Hp} (T : Stt E L Γ σ G H) (T' : Stt E L' Γ' σ' G' H') (s : Same G G') : Stt ⟨E.L, G, E.H⟩ L' Γ' σ' G' H' :=
  ⟨T'.env, T'.len, T'.sub, T'.live, ⟨s, T'.stp.keep, fun a o' h1 h2 hn => T'.stp.old a o' (by
    cases q : E.G a with
    | none => rfl
    | some o => have q2 := T.stp.gg a o q; have h1' : G a = none := h1; rw [q2] at h1'; cases h1') h2 hn⟩, T'.inh, T'.loc, T'.own, T'.nde⟩
theorem Stp.unbase {E : Ent} {L : List Rs} {Γ : Ty} {σ : St} {G H G' H' : Hp} (T : Stt E L Γ σ G H) (S : Stp ⟨E.L, G, E.H⟩ G' H') : Stp E G' H' :=
  ⟨T.stp.gg.trans S.gg, S.keep, fun a o h1 h2 hn => S.old a o (T.stp.old a o h1 h2 hn) h2 hn⟩
theorem Stt.unbase {E : Ent} {L L' : List Rs} {Γ Γ' : Ty} {σ σ' : St} {G H G' H' : Hp} (T : Stt E L Γ σ G H) (T' : Stt ⟨E.L, G, E.H⟩ L' Γ' σ' G' H') : Stt E L' Γ' σ' G' H' :=
  ⟨T'.env, T'.len, T'.sub, T'.live, T'.stp.unbase T, T'.inh, T'.loc, T'.own, T'.nde⟩
/-- a walk over ds, while G is known -/
structure Wk (J : It) (ds : List PyData) (G : Hp) : Prop where
  goes : ∀ i G1 H1, Same G G1 → Sub G1 H1 → i < ds.length → J.go i H1
  stops : ∀ G1 H1, Same G G1 → Sub G1 H1 → J.stop ds.length H1
  yields : ∀ i G1 H1 x H2, Same G G1 → Sub G1 H1 → J.yld i H1 x H2 → ∀ d, ds[i]? = some d → ∃ G2, Same G1 G2 ∧ Sub G2 H2 ∧ (∀ a o, H1 a = some o → H2 a = some o) ∧ (∀ a o, G1 a = none → H1 a = some o → NT o → G2 a = none) ∧ Dg G2 x d
theorem yld_same {G1 H1 : Hp} {x : V} {d : PyData} (sb : Sub G1 H1) (h : Dg G1 x d) : ∃ G2, Same G1 G2 ∧ Sub G2 H1 ∧ (∀ a o, H1 a = some o → H1 a = some o) ∧ (∀ a o, G1 a = none → H1 a = some o → NT o → G2 a = none) ∧ Dg G2 x d := ⟨G1, Same.refl _, sb, fun _ _ h => h, fun _ _ h _ _ => h, h⟩
theorem yld_new {G1 H1 : Hp} {x : V} {d : PyData} {t : Addr} {o : HO} (sb : Sub G1 H1) (ht : H1 t = none) (h : Dg (upd G1 t o) x d) : ∃ G2, Same G1 G2 ∧ Sub G2 (upd H1 t o) ∧ (∀ a u, H1 a = some u → upd H1 t o a = some u) ∧ (∀ a u, G1 a = none → H1 a = some u → NT u → G2 a = none) ∧ Dg G2 x d :=
  ⟨_, same_new (sb.free ht) o, sb.new ht o, fun a u h => by rw [upd_ne (ne_of_none h ht)]; exact h, fun a u h1 h2 _ => by rw [upd_ne (ne_of_none h2 ht)]; exact h1, h⟩
def Itr (F : Fx) (L : List Rs) (Γ : Ty) (tg iter : Expr) (ds : List PyData) : Prop := ∃ wi : TI, (∀ X, Cin F X → PI X tg iter wi) ∧ ∀ E σ G H, Stt E L Γ σ G H → ∀ R : It → Hp → Prop, (∀ J G' H', Nxt L G H G' H' → Stt E L Γ σ G' H' → Wk J ds G' → R J H') → wi σ H R
theorem Wk.yield {J : It} {ds : List PyData} {G : Hp} (W : Wk J ds G) {i : Nat} {E : Ent} {L : List Rs} {Γ : Ty} {σ : St} {G1 H1 H2 : Hp} {x : V} {d : PyData} (s : Same G G1) (T : Stt E L Γ σ G1 H1) (y : J.yld i H1 x H2) (hd : ds[i]? = some d) :
    ∃ G2, Same G1 G2 ∧ Nxt L G1 H1 G2 H2 ∧ Stt E L Γ σ G2 H2 ∧ Dg G2 x d := by
  obtain ⟨G2, s2, sb2, kp, old, q⟩ := W.yields i G1 H1 x H2 s T.sub y d hd
  have n : Nxt L G1 H1 G2 H2 := ⟨s2, fun a o h _ => kp a o h, old⟩
  exact ⟨G2, s2, n, T.next n sb2 ⟨T.live.1, fun r hr => by
    obtain ⟨h1, o, h2, h3⟩ := T.live.2 r hr
    exact ⟨old r.a o h1 h2 (r.φ.nt h3), o, kp _ _ h2, r.φ.mono s2 h3⟩⟩, q⟩
theorem hr_for {ds : List PyData} (hi : Itr F L Γ tg iter ds) (I : Nat → List Rs → Ty → Prop) (h0 : I 0 L Γ)
    (hb : ∀ i d L' Γ', ds[i]? = some d → I i L' Γ' → ∃ vs f, Tg F tg vs (D d) f ∧ Hr F L' (f Γ') body (I (i + 1)) R) (hd : ∀ L' Γ', I ds.length L' Γ' → Hr F L' Γ' rest N R)
    (hs : ∀ env x, foldedSetIterable iter env x = pure x := by intro _ _; rfl) : Hr F L Γ (.For tg iter body [] pos :: rest) N R := fun E σ G H T D k1 k2 => by
  obtain ⟨wi, hpi, hwi⟩ := hi
  refine ws_cons (w1_ps (t := tFor wi (WG F tg) (WS F body)) (fun X hX => ps_for hX.own hX.calm (hpi X hX) (pg_wg hX) (ps_ws hX) (hs _)) ?_)
  refine hwi E σ G H T _ fun J G0 H0 n0 T0 W => ?_
  refine ⟨fun i m σ H => m = ds.length - i ∧ i ≤ ds.length ∧ ∃ L' Γ' G, I i L' Γ' ∧ Stt ⟨E.L, G0, E.H⟩ L' Γ' σ G H, ⟨ds.length, rfl, Nat.zero_le _, L, Γ, G0, h0, T0.rebase T0 (Same.refl _)⟩, ?_⟩
  rintro i m σ1 H1 ⟨rfl, hle, L', Γ', G1, hI, T1⟩
  by_cases hlt : i < ds.length
  · refine .inr ⟨W.goes i G1 H1 T1.stp.gg T1.sub hlt, fun σ' H' => ∃ L' Γ' G, I (i + 1) L' Γ' ∧ Stt ⟨E.L, G0, E.H⟩ L' Γ' σ' G H', fun σ' H' hN => ⟨ds.length - (i + 1), by omega, rfl, hlt, hN⟩, fun x H2 y => ?_⟩
    have hdi : ds[i]? = some ds[i] := List.getElem?_eq_getElem hlt
    obtain ⟨G2, s2, n2, T2, q2⟩ := W.yield T1.stp.gg T1 y hdi
    obtain ⟨vs, f, ht, hh⟩ := hb i _ L' Γ' hdi hI
    refine ht _ L' Γ' σ1 G2 H2 x T2 q2 _ fun σ3 T3 _ => ?_
    exact hh _ σ3 G2 H2 T3 _ (fun L2 Γ2 σ' G' H' n T' => ⟨L2, Γ2, G', n, T'⟩) fun v G' H' st sb lv p => k2 v G' H' (st.unbase T0) sb lv p
  · have e : i = ds.length := by omega
    subst e
    exact .inl ⟨W.stops G1 H1 T1.stp.gg T1.sub, hd L' Γ' hI E σ1 G1 H1 (T0.unbase T1) D k1 k2⟩
/-- while c: body -/
theorem hr_while (I : Nat → List Rs → Ty → Prop) {m0 : Nat} (h0 : I m0 L Γ)
    (hb : ∀ m L' Γ', I m L' Γ' → ∃ T : Bool → Prop, Et F L' Γ' c T ∧ (T true → Hr F L' Γ' body (fun L'' Γ'' => ∃ m', m' < m ∧ I m' L'' Γ'') R) ∧ (T false → Hr F L' Γ' rest N R)) : Hr F L Γ (.While c body [] pos :: rest) N R := fun E σ G H T D k1 k2 => by
  refine ws_cons (w1_ps (t := tWhile (WT F c) (WS F body)) (fun X hX => ps_while hX.own (pt_wt hX) (ps_ws hX)) ?_)
  refine ⟨fun m σ H => ∃ L' Γ' G, I m L' Γ' ∧ Stt E L' Γ' σ G H, ⟨m0, L, Γ, G, h0, T⟩, ?_⟩
  rintro m σ1 H1 ⟨L', Γ', G1, hI, T1⟩
  obtain ⟨Tt, hc, ht, hf⟩ := hb m L' Γ' hI
  refine hc E σ1 G1 H1 T1 _ fun b G2 H2 n2 T2 t2 => ?_
  cases b with
  | true =>
    refine iteT ⟨fun σ' H' => ∃ m', m' < m ∧ ∃ L' Γ' G, I m' L' Γ' ∧ Stt E L' Γ' σ' G H', fun σ' H' ⟨m', h1, h2⟩ => ⟨m', h1, h2⟩, ?_⟩
    exact ht t2 E σ1 G2 H2 T2 _ (fun L2 Γ2 σ' G' H' ⟨m', h1, h2⟩ T' => ⟨m', h1, L2, Γ2, G', h2, T'⟩) k2
  | false => exact iteF (hf t2 E σ1 G2 H2 T2 D k1 k2)

/-! ### what is walked -/
theorem itr_L {ds : List PyData} (h : Ev F L Γ iter (D (.list ds))) : Itr F L Γ tg iter ds := by
  refine ⟨iList F.K (WE F iter), fun X hX => by rw [← hX.K]; exact pi_list (pe_we hX), fun E σ G H T R k => ?_⟩
  refine h E σ G H T _ fun v G1 H1 n1 T1 p1 => ?_
  obtain ⟨a, xs, rfl, h1, h2⟩ := p1.lst_of
  have at_ : ∀ G2 H2, Same G1 G2 → Sub G2 H2 → SqL F.K H2 a xs := fun G2 H2 s sb => SqL.of (sb.lst (s _ _ h1))
  refine ⟨a, rfl, ⟨xs, at_ G1 H1 (Same.refl _) T1.sub⟩, k _ G1 H1 n1 T1 ⟨fun i G2 H2 s sb hi => ?_, fun G2 H2 s sb => ⟨xs, at_ _ _ s sb, by rw [h2.length]; exact Nat.le_refl _⟩, fun i G2 H2 x H3 s sb y d hd => ?_⟩⟩
  · exact ⟨xs, xs[i]'(by rw [h2.length]; exact hi), at_ _ _ s sb, List.getElem?_eq_getElem _⟩
  · obtain ⟨e, y⟩ := y
    have q := y xs (at_ _ _ s sb)
    obtain ⟨d', e1, e2⟩ := h2.get' q
    rw [hd] at e1
    cases e1
    rw [e]
    exact yld_same sb (Dg.mono s _ _ e2)
theorem itr_T {ds : List PyData} (h : Ev F L Γ iter (D (.tuple ds))) : Itr F L Γ tg iter ds := by
  refine ⟨iTup F.K (WE F iter), fun X hX => by rw [← hX.K]; exact pi_tup (pe_we hX), fun E σ G H T R k => ?_⟩
  refine h E σ G H T _ fun v G1 H1 n1 T1 p1 => ?_
  obtain ⟨a, xs, rfl, h1, h2⟩ := p1.tup_of
  have at_ : ∀ G2 H2, Same G1 G2 → Sub G2 H2 → SqT F.K H2 a xs := fun G2 H2 s sb => SqT.of (sb.tup (s _ _ h1))
  refine ⟨a, rfl, ⟨xs, at_ G1 H1 (Same.refl _) T1.sub⟩, k _ G1 H1 n1 T1 ⟨fun i G2 H2 s sb hi => ?_, fun G2 H2 s sb => ⟨xs, at_ _ _ s sb, by rw [h2.length]; exact Nat.le_refl _⟩, fun i G2 H2 x H3 s sb y d hd => ?_⟩⟩
  · exact ⟨xs, xs[i]'(by rw [h2.length]; exact hi), at_ _ _ s sb, List.getElem?_eq_getElem _⟩
  · obtain ⟨e, y⟩ := y
    have q := y xs (at_ _ _ s sb)
    obtain ⟨d', e1, e2⟩ := h2.get' q
    rw [hd] at e1
    cases e1
    rw [e]
    exact yld_same sb (Dg.mono s _ _ e2)
def rgD (n : Nat) : List PyData := (List.range n).map fun i => .int (i : Nat)
theorem rgD_get {n i : Nat} {d : PyData} (h : (rgD n)[i]? = some d) : i < n ∧ d = .int (i : Nat) := by
  unfold rgD at h
  rw [List.getElem?_map] at h
  by_cases hi : i < n
  · rw [List.getElem?_range hi] at h
    cases h
    exact ⟨hi, rfl⟩
  · rw [List.getElem?_eq_none (by simp; omega)] at h
    cases h
/-- range(n) -/
theorem itr_range {n : Nat} (hm : F.mg "range" = none) (h : Ev F L Γ e (D (.int (n : Nat)))) (hn : n ≤ 100000) (hg : F.sc.names.lookup ("range" : Str) = some .globalImplicit := by rfl) (hs : ∀ env, starEach [e] env = (false, eval e env) :: starEach [] env := by intro _; rfl) : Itr F L Γ tg (.Call (.Name "range" p1) [e] [] pos) (rgD n) := by
  refine ⟨iRng1 (tCons (WE F e) tNil), fun X hX => pi_range1 (hX.gl hg) (by rw [hX.mg]; exact hm) (pa_cons (pe_we hX) pa_nil (hs _)) (hs := hs _), fun E σ G H T R k => ?_⟩
  refine h E σ G H T _ fun v G1 H1 n1 T1 p1 => ?_
  have hl : (rgD n).length = n := by unfold rgD; simp
  refine ⟨n, by rw [p1.int_eq], by omega, by omega, k _ G1 H1 n1 T1 ⟨fun i G2 H2 s sb hi => ?_, fun G2 H2 s sb => ?_, fun i G2 H2 x H3 s sb y d hd => ?_⟩⟩
  · rw [hl] at hi; show i < _; rw [Int.toNat_natCast]; exact hi
  · rw [hl]; show _ ≤ n; rw [Int.toNat_natCast]; exact Nat.le_refl _
  · obtain ⟨e1, e2⟩ := y
    obtain ⟨h1, h2⟩ := rgD_get hd
    subst h2 e2
    rw [e1]
    refine yld_same sb ?_
    rw [Int.zero_add]
    exact .int _
/-- enumerate(xs) -/
def enD (ds : List PyData) : List PyData := (List.range ds.length).map fun i => .tuple [.int (i : Nat), ds.getD i .none]
theorem enD_get {ds : List PyData} {i : Nat} {d : PyData} (h : (enD ds)[i]? = some d) : ∃ d', ds[i]? = some d' ∧ d = .tuple [.int (i : Nat), d'] := by
  unfold enD at h
  rw [List.getElem?_map] at h
  by_cases hi : i < ds.length
  · rw [List.getElem?_range hi] at h
    cases h
    exact ⟨ds[i], List.getElem?_eq_getElem hi, by simp [List.getD, List.getElem?_eq_getElem hi]⟩
  · rw [List.getElem?_eq_none (by simp; omega)] at h
    cases h
theorem enD_length (ds : List PyData) : (enD ds).length = ds.length := by unfold enD; simp
theorem itr_enum {ds : List PyData} {elts : List Expr} {kk : Nat} (hm : F.mg "enumerate" = none) (h : Ev F L Γ e (D (.list ds))) (hg : F.sc.names.lookup ("enumerate" : Str) = some .globalImplicit := by rfl) (hs : ∀ env, starEach [e] env = (false, eval e env) :: starEach [] env := by intro _; rfl) : Itr F L Γ (.Tuple elts kk p2) (.Call (.Name "enumerate" p1) [e] [] pos) (enD ds) := by
  refine ⟨iEnum F.K (tCons (WE F e) tNil), fun X hX => by rw [← hX.K]; exact pi_enum (hX.gl hg) (by rw [hX.mg]; exact hm) (pa_cons (pe_we hX) pa_nil (hs _)) (hs := hs _), fun E σ G H T R k => ?_⟩
  refine h E σ G H T _ fun v G1 H1 n1 T1 p1 => ?_
  obtain ⟨a, xs, rfl, h1, h2⟩ := p1.lst_of
  have at_ : ∀ G2 H2, Same G1 G2 → Sub G2 H2 → SqL F.K H2 a xs := fun G2 H2 s sb => SqL.of (sb.lst (s _ _ h1))
  have W : Walk (Ite F.K a) xs.length (fun H => SqL F.K H a xs) (YPair (fun i => some (.int (i : Nat))) (fun i => xs[i]?)) := walk_enum
  refine ⟨a, xs, rfl, at_ G1 H1 (Same.refl _) T1.sub, k _ G1 H1 n1 T1 ⟨fun i G2 H2 s sb hi => ?_, fun G2 H2 s sb => ?_, fun i G2 H2 x H3 s sb y d hd => ?_⟩⟩
  · exact W.goes i H2 (by rw [h2.length]; rw [enD_length] at hi; exact hi) (at_ _ _ s sb)
  · rw [enD_length, ← h2.length]; exact W.stops H2 (at_ _ _ s sb)
  · obtain ⟨d', hd', e⟩ := enD_get hd
    subst e
    have hi : i < xs.length := by rw [h2.length]; exact (List.getElem?_eq_some_iff.mp hd').1
    obtain ⟨t, u, w, e1, e2, e3, e4, e5⟩ := W.yields i H2 x H3 hi (at_ _ _ s sb) y
    obtain ⟨w', e6, e7⟩ := h2.get hd'
    have e8 : w = w' := Option.some.inj (e5.symm.trans e6)
    have e9 : u = .int (i : Nat) := (Option.some.inj e4).symm
    subst e8 e9 e1
    rw [e3]
    exact yld_new sb e2 (.tup upd_same (.cons (.int _) (.cons (Dg.mono (s.trans (same_new (sb.free e2) _)) _ _ e7) .nil)))
end
end Hw
set_option Elab.async false
set_option linter.all false
set_option maxRecDepth 100000
set_option maxHeartbeats 4000000
namespace Hw
open PySem PySem.Spec L2

/-! ### comprehensions -/
inductive SelL {α : Type} (T : α → Bool → Prop) (P : α → MP) : List α → List MP → Prop
  | nil : SelL T P [] []
  | yes {x : α} {xs : List α} {ps : List MP} : T x true → SelL T P xs ps → SelL T P (x :: xs) (P x :: ps)
  | no {x : α} {xs : List α} {ps : List MP} : T x false → SelL T P xs ps → SelL T P (x :: xs) ps
section
variable {α : Type} {T : α → Bool → Prop} {P : α → MP}
theorem SelL.snocY {x : α} (hx : T x true) : ∀ {xs : List α} {ps : List MP}, SelL T P xs ps → SelL T P (xs ++ [x]) (ps ++ [P x])
  | _, _, .nil => .yes hx .nil
  | _, _, .yes h t => .yes h (SelL.snocY hx t)
  | _, _, .no h t => .no h (SelL.snocY hx t)
theorem SelL.snocN {x : α} (hx : T x false) : ∀ {xs : List α} {ps : List MP}, SelL T P xs ps → SelL T P (xs ++ [x]) ps
  | _, _, .nil => .no hx .nil
  | _, _, .yes h t => .yes h (SelL.snocN hx t)
  | _, _, .no h t => .no h (SelL.snocN hx t)
theorem SelL.len : ∀ {xs : List α} {ps : List MP}, SelL T P xs ps → ps.length ≤ xs.length
  | _, _, .nil => Nat.le_refl _
  | _, _, .yes h t => by rw [List.length_cons, List.length_cons]; exact Nat.succ_le_succ (SelL.len t)
  | _, _, .no h t => by rw [List.length_cons]; exact Nat.le_succ_of_le (SelL.len t)
theorem SelL.filter {t : α → Bool} (hT : ∀ x c, T x c → c = t x) : ∀ {xs : List α} {ps : List MP}, SelL T P xs ps → ps = (xs.filter t).map P
  | _, _, .nil => rfl
  | _, _, @SelL.yes _ _ _ x xs ps h k => by rw [List.filter_cons_of_pos (hT x true h).symm, List.map_cons, ← SelL.filter hT k]
  | _, _, @SelL.no _ _ _ x xs ps h k => by rw [List.filter_cons_of_neg (by rw [← hT x false h]; decide), ← SelL.filter hT k]
end
theorem wipe_get (σ : St) (j : Nat) : ∀ vs : List Nat, (L2.wipe σ vs)[j]? = if j ∈ vs ∧ j < σ.length then some none else σ[j]?
  | [] => by simp [L2.wipe]
  | v :: vs => by
    have ih := wipe_get σ j vs
    show (List.set (L2.wipe σ vs) v none)[j]? = _
    by_cases e : v = j
    · subst e
      by_cases hl : v < σ.length
      · rw [List.getElem?_set_self (by rw [wipe_length]; exact hl), if_pos ⟨List.mem_cons_self, hl⟩]
      · rw [if_neg (fun z => hl z.2), List.getElem?_eq_none (by rw [List.length_set, wipe_length]; omega), List.getElem?_eq_none (by omega)]
    · rw [List.getElem?_set_ne e, ih]
      have e' : ¬ j = v := fun z => e z.symm
      simp [e']
theorem wipe_wipe (σ : St) (vs : List Nat) : L2.wipe (L2.wipe σ vs) vs = L2.wipe σ vs := by
  apply List.ext_getElem?
  intro j
  rw [wipe_get, wipe_length]
  split
  · rename_i h; rw [wipe_get, if_pos h]
  · rfl
def wipeT (Γ : Ty) : List Nat → Ty
  | [] => Γ
  | v :: vs => (wipeT Γ vs).set v none
theorem wipeT_length (Γ : Ty) : ∀ vs : List Nat, (wipeT Γ vs).length = Γ.length
  | [] => rfl
  | v :: vs => by unfold wipeT; rw [List.length_set, wipeT_length Γ vs]
theorem Stt.wipe {E : Ent} {L : List Rs} {Γ : Ty} {σ : St} {G H : Hp} (T : Stt E L Γ σ G H) : ∀ vs : List Nat, Stt E L (wipeT Γ vs) (L2.wipe σ vs) G H
  | [] => T
  | v :: vs => by
    have ih := Stt.wipe T vs
    refine ⟨fun j Q hj => ?_, ?_, ih.sub, ih.live, ih.stp, ih.inh, ih.loc, ih.own, ih.nde⟩
    · unfold wipeT at hj
      by_cases e : v = j
      · subst e
        by_cases hl : v < (wipeT Γ vs).length
        · rw [List.getElem?_set_self hl] at hj; cases hj
        · rw [List.getElem?_eq_none (by simpa using hl)] at hj; cases hj
      · rw [List.getElem?_set_ne e] at hj
        obtain ⟨w, h1, h2⟩ := ih.env j Q hj
        exact ⟨w, by show (List.set (L2.wipe σ vs) v none)[j]? = _; rw [List.getElem?_set_ne e]; exact h1, h2⟩
    · show (List.set (L2.wipe σ vs) v none).length = (List.set (wipeT Γ vs) v none).length
      rw [List.length_set, List.length_set, ih.len]
/-- the list that is being made -/
theorem Stt.put {E : Ent} {L : List Rs} {Γ : Ty} {σ : St} {G H : Hp} {p : Addr} (T : Stt E L Γ σ G H) (hG : G p = none) (hL : p ∉ L.map Rs.a) (hE : E.H p = none) (o : HO) : Stt E L Γ σ G (upd H p o) := by
  refine ⟨T.env, T.len, fun a u h => ?_, ⟨T.live.1, fun r hr => ?_⟩, ⟨T.stp.gg, fun a u h hn => ?_, T.stp.old⟩, T.inh, T.loc, T.own, T.nde⟩
  · have e : a ≠ p := fun z => by rw [z, hG] at h; cases h
    rw [upd_ne e]; exact T.sub a u h
  · obtain ⟨h1, o', h2, h3⟩ := T.live.2 r hr
    have e : r.a ≠ p := fun z => hL (by rw [← z]; exact List.mem_map.mpr ⟨r, hr, rfl⟩)
    exact ⟨h1, o', by rw [upd_ne e]; exact h2, h3⟩
  · rw [upd_ne (fun z => by rw [z, hE] at h; cases h)]; exact T.stp.keep a u h hn
theorem Stt.know {E : Ent} {L : List Rs} {Γ : Ty} {σ : St} {G H : Hp} {p : Addr} {o : HO} (T : Stt E L Γ σ G H) (hG : G p = none) (hL : p ∉ L.map Rs.a) (hE : E.H p = none) (hH : H p = some o) : Stt E L Γ σ (upd G p o) H := by
  have sg := same_new hG o
  refine ⟨T.env.mono sg, T.len, fun a u h => ?_, ⟨T.live.1, fun r hr => ?_⟩, ⟨T.stp.gg.trans sg, T.stp.keep, fun a o' h1 h2 hn => ?_⟩, T.inh, T.loc, T.own, T.nde⟩
  · by_cases e : a = p
    · subst e; rw [upd_same] at h; cases h; exact .inl hH
    · rw [upd_ne e] at h; exact T.sub a u h
  · obtain ⟨h1, o', h2, h3⟩ := T.live.2 r hr
    have e : r.a ≠ p := fun z => hL (by rw [← z]; exact List.mem_map.mpr ⟨r, hr, rfl⟩)
    exact ⟨by rw [upd_ne e]; exact h1, o', h2, r.φ.mono sg h3⟩
  · have e : a ≠ p := fun z => by rw [z, hE] at h2; cases h2
    rw [upd_ne e]; exact T.stp.old a o' h1 h2 hn
def Ets (F : Fx) (L : List Rs) (Γ : Ty) (ifs : List Expr) (T : Bool → Prop) : Prop := ∀ E σ G H, Stt E L Γ σ G H → ∀ Q : Bool → Hp → Prop, (∀ b G' H', Nxt L G H G' H' → Stt E L Γ σ G' H' → T b → Q b H') → WTs F ifs σ H Q
section
variable {F : Fx} {L : List Rs} {Γ : Ty} {e a b c tg iter elt : Expr} {es ts ifs : List Expr} {P Q R : MP} {Ps : List MP} {pos spos p1 p2 px py lp ap cp : Pos} {N : List Rs → Ty → Prop} {rest body : List Stmt} {x y : Str} {f : Ty → Ty}
theorem ets_nil : Ets F L Γ [] (· = true) := fun E σ G H T K k => wts_pts (t := tYes) (fun _ _ => pts_nil) (k true G H .refl T rfl)
theorem ets_one {T : Bool → Prop} (h : Et F L Γ c T) : Ets F L Γ [c] T := fun E σ G H Tt K k => wts_pts (t := WT F c) (fun X hX => pts_one (pt_wt hX)) (h E σ G H Tt K k)
theorem PsA.snoc {G : Hp} {v : V} {P : MP} (hp : P.p G v) : ∀ {vs : List V} {Ps : List MP}, PsA G vs Ps → PsA G (vs ++ [v]) (Ps ++ [P])
  | _, _, .nil => .cons hp .nil
  | _, _, .cons r t => .cons r (PsA.snoc hp t)
theorem cin_blk {X : Cx} (h : Cin F X) {scope : Scope} (s : Shared) (H : Hp) (C : Addr) (cl : List (Str × Addr)) (fp : List Addr) : Cin (F.blk scope) (X.blk s H scope (compEnvC scope cl C X.env) fp) :=
  ⟨h.prog, h.w, h.K, h.mg, h.base, h.N, by show relS scope X.env.scope = relS scope F.sc; rw [h.sc], h.calm, h.room, fun _ z => z, rfl, h.nd⟩
/-- a walk over ds, while G is known and what fz tells stands -/
structure WkF (J : It) (ds : List PyData) (G : Hp) (fz : Addr → HO → Prop) : Prop where
  goes : ∀ i G1 H1, Same G G1 → Sub G1 H1 → (∀ a o, fz a o → H1 a = some o) → i < ds.length → J.go i H1
  stops : ∀ G1 H1, Same G G1 → Sub G1 H1 → (∀ a o, fz a o → H1 a = some o) → J.stop ds.length H1
  yields : ∀ i G1 H1 x H2, Same G G1 → Sub G1 H1 → (∀ a o, fz a o → H1 a = some o) → J.yld i H1 x H2 → ∀ d, ds[i]? = some d → ∃ G2, Same G1 G2 ∧ Sub G2 H2 ∧ (∀ a o, H1 a = some o → H2 a = some o) ∧ (∀ a o, G1 a = none → H1 a = some o → NT o → G2 a = none) ∧ Dg G2 x d
theorem Wk.toF {J : It} {ds : List PyData} {G : Hp} (W : Wk J ds G) : WkF J ds G (fun _ _ => False) :=
  ⟨fun i G1 H1 s sb _ hi => W.goes i G1 H1 s sb hi, fun G1 H1 s sb _ => W.stops G1 H1 s sb, fun i G1 H1 x H2 s sb _ y => W.yields i G1 H1 x H2 s sb y⟩
theorem WkF.yield {J : It} {ds : List PyData} {G : Hp} {fz : Addr → HO → Prop} (W : WkF J ds G fz) {i : Nat} {E : Ent} {L : List Rs} {Γ : Ty} {σ : St} {G1 H1 H2 : Hp} {x : V} {d : PyData} (s : Same G G1) (hf : ∀ a o, fz a o → H1 a = some o) (T : Stt E L Γ σ G1 H1) (y : J.yld i H1 x H2) (hd : ds[i]? = some d) :
    ∃ G2, Same G1 G2 ∧ Nxt L G1 H1 G2 H2 ∧ Stt E L Γ σ G2 H2 ∧ Dg G2 x d := by
  obtain ⟨G2, s2, sb2, kp, old, q⟩ := W.yields i G1 H1 x H2 s T.sub hf y d hd
  have n : Nxt L G1 H1 G2 H2 := ⟨s2, fun a o h _ => kp a o h, old⟩
  exact ⟨G2, s2, n, T.next n sb2 ⟨T.live.1, fun r hr => by
    obtain ⟨h1, o, h2, h3⟩ := T.live.2 r hr
    exact ⟨old r.a o h1 h2 (r.φ.nt h3), o, kp _ _ h2, r.φ.mono s2 h3⟩⟩, q⟩
/-- how a comprehension reads -/
theorem lc_read {α : Type} {xs : List α} {enc : α → PyData} {T : α → Bool → Prop} {P : α → MP} {scope : Scope} {vs : List Nat} {wi : TI} {E : Ent} {σ : St} {G H : Hp} (hsz : xs.length ≤ 100000)
    (hwi : ∀ R : It → Hp → Prop, (∀ J G' H' fz, Nxt L G H G' H' → Stt E L Γ σ G' H' → (∀ a o, fz a o → H' a = some o ∧ a ∉ L.map Rs.a) → WkF J (xs.map enc) G' fz → R J H') → wi σ H R)
    (hx : ∀ (i : Nat) (x : α), xs[i]? = some x → ∃ f, Tg (F.blk scope) tg vs (D (enc x)) f ∧ Ets (F.blk scope) L (f (wipeT Γ vs)) ifs (T x) ∧ (T x true → Ev (F.blk scope) L (f (wipeT Γ vs)) elt (P x))) (T0 : Stt E L Γ σ G H) :
    ∀ Q : VK, (∀ v G' H', Nxt L G H G' H' → Stt E L Γ σ G' H' → (Xp (SelL T P xs) LstP).p G' v → Q v H') → tLc wi (WG (F.blk scope) tg) (WTs (F.blk scope) ifs) (WE (F.blk scope) elt) vs σ H Q := fun Q k => by
  refine hwi _ fun J G1 H1 fz n1 T1 hfz W => ?_
  intro Dl hD
  have hDL : Dl ∉ L.map Rs.a := fun hm => by
    obtain ⟨r, hr, e⟩ := List.mem_map.mp hm
    obtain ⟨_, o, h2, _⟩ := T1.live.2 r hr
    have e' : r.a = Dl := e
    rw [e', hD] at h2; cases h2
  have hDE : E.H Dl = none := T1.fresh hD
  refine ⟨fun i m H => m = xs.length - i ∧ i ≤ xs.length ∧ ∃ G acc ps, Stt ⟨E.L, G1, E.H⟩ L Γ σ G H ∧ Nxt L G1 H1 G H ∧ SelL T P (xs.take i) ps ∧ H Dl = some (.lst acc) ∧ PsA G acc ps ∧ G Dl = none,
    ⟨xs.length, rfl, Nat.zero_le _, G1, [], [], (T1.rebase T1 (Same.refl _)).put (T1.sub.free hD) hDL hDE _, ⟨Same.refl _, fun a o h _ => by rw [upd_ne (ne_of_none h hD)]; exact h, fun a _ h _ _ => h⟩, .nil, upd_same, .nil, T1.sub.free hD⟩, ?_⟩
  rintro i m H2 ⟨rfl, hle, G2, acc, ps, T2, n2, hS, hA, hP, hG⟩
  have hlen : (xs.map enc).length = xs.length := List.length_map ..
  by_cases hlt : i < xs.length
  · refine .inr ⟨W.goes i G2 H2 T2.stp.gg T2.sub (fun a o h => n2.keep a o (hfz a o h).1 (hfz a o h).2) (by rw [hlen]; exact hlt), fun H' => ∃ G acc ps, Stt ⟨E.L, G1, E.H⟩ L Γ σ G H' ∧ Nxt L G1 H1 G H' ∧ SelL T P (xs.take (i + 1)) ps ∧ H' Dl = some (.lst acc) ∧ PsA G acc ps ∧ G Dl = none,
      fun H' hN => ⟨xs.length - (i + 1), by omega, rfl, hlt, hN⟩, fun x H3 yl => ?_⟩
    have hxi : xs[i]? = some xs[i] := List.getElem?_eq_getElem hlt
    obtain ⟨G3, s3, n3, T3, q3⟩ := W.yield T2.stp.gg (fun a o h => n2.keep a o (hfz a o h).1 (hfz a o h).2) T2 yl (d := enc xs[i]) (by rw [List.getElem?_map, hxi]; rfl)
    obtain ⟨f, htg, hts, hel⟩ := hx i _ hxi
    have hA3 : H3 Dl = some (.lst acc) := n3.keep _ _ hA hDL
    have hG3 : G3 Dl = none := n3.old _ _ hG hA (fun xs e => nomatch e)
    refine htg _ L _ _ G3 H3 x (T3.wipe vs) q3 _ fun σ4 T4 w4 => ⟨?_, ?_⟩
    · rw [w4, wipe_wipe]
    refine hts _ σ4 G3 H3 T4 _ fun bb G5 H5 n5 T5 t5 => ?_
    have hA5 : H5 Dl = some (.lst acc) := n5.keep _ _ hA3 hDL
    have hG5 : G5 Dl = none := n5.old _ _ hG3 hA3 (fun xs e => nomatch e)
    have T5' : Stt ⟨E.L, G1, E.H⟩ L Γ σ G5 H5 := T3.next n5 T5.sub T5.live
    have n35 : Nxt L G1 H1 G5 H5 := (n2.trans T1.live T2.live n3).trans T1.live T3.live n5
    have htake : xs.take (i + 1) = xs.take i ++ [xs[i]] := by rw [List.take_succ, hxi]; rfl
    cases bb with
    | false => exact iteF ⟨G5, acc, ps, T5', n35, by rw [htake]; exact hS.snocN t5, hA5, hP.mono (s3.trans n5.gg), hG5⟩
    | true =>
      refine iteT (hel t5 _ σ4 G5 H5 T5 _ fun yv G6 H6 n6 T6 p6 => ?_)
      have hA6 : H6 Dl = some (.lst acc) := n6.keep _ _ hA5 hDL
      have hG6 : G6 Dl = none := n6.old _ _ hG5 hA5 (fun xs e => nomatch e)
      have hpl := PsA.length hP
      have hsl := hS.len
      refine ⟨acc, hA6, Nat.lt_of_le_of_lt (show acc.length ≤ 100000 by rw [List.length_take] at hsl; omega) (by decide), G6, acc ++ [yv], ps ++ [P xs[i]], (T5'.next n6 T6.sub T6.live).put hG6 hDL hDE _, ?_, by rw [htake]; exact hS.snocY t5, upd_same, (hP.mono ((s3.trans n5.gg).trans n6.gg)).snoc p6, hG6⟩
      have n36 := n35.trans T1.live T5'.live n6
      exact ⟨n36.gg, fun a o h hm => by rw [upd_ne (ne_of_none h hD)]; exact n36.keep a o h hm, n36.old⟩
  · have e : i = xs.length := by omega
    subst e
    refine .inl ⟨by have := W.stops G2 H2 T2.stp.gg T2.sub (fun a o h => n2.keep a o (hfz a o h).1 (hfz a o h).2); rw [hlen] at this; exact this, ?_⟩
    have T2' : Stt E L Γ σ G2 H2 := T1.unbase T2
    have sg := same_new hG (HO.lst acc)
    have n2' : Nxt L G H (upd G2 Dl (.lst acc)) H2 := by
      have n12 := n1.trans T0.live T1.live n2
      refine ⟨n12.gg.trans sg, n12.keep, fun a o h1 h2 hn => ?_⟩
      have e : a ≠ Dl := fun z => by
        subst z
        by_cases hm : a ∈ L.map Rs.a
        · exact hDL hm
        · have q := n1.keep a o h2 hm; rw [hD] at q; cases q
      rw [upd_ne e]; exact n12.old a o h1 h2 hn
    refine k _ _ H2 n2' (T2'.know hG hDL hDE hA) ⟨ps, ?_, Dl, acc, rfl, upd_same, hP.mono sg⟩
    rw [List.take_length] at hS; exact hS
end
end Hw
set_option Elab.async false
set_option linter.all false
set_option maxRecDepth 100000
set_option maxHeartbeats 4000000
namespace HwB
open PySem PySem.Spec PyProof.Rows L2 PySem.W

/-! ### a locked dict with tuple keys, its values too -/
section
variable {X : Cx} {pins : List (Addr × Obj)} {σ : L2.St} {H : Hp} {s : Shared} {d : Addr} {o : Obj}
theorem frzTV {kvs : List (List Key × V)} (I : Inv X pins σ H s) (h : H d = some (.frz o (.dT kvs))) :
    (d == sysModules) = false ∧ s.heap.get? d = some o ∧ o.ExactDict ∧ ∃ (es : Array DictEntry) (ep : Nat), o.data = .dict es ep ∧ es.size = kvs.length ∧
      ∀ (i : Nat) (k : List Key) (v : V), kvs[i]? = some (k, v) → ∃ (en : DictEntry) (q : Addr), es[i]? = some en ∧ en.key = .ref q ∧ H q = some (.tup (k.map kV)) ∧ RelV v en.val := by
  obtain ⟨hd, z, hs, xs, pr, o', es, ep, ho, hx, hdt, he, _⟩ := I.hok d _ h
  rw [hd] at ho
  cases ho
  refine ⟨hs, hd, hx, es, ep, hdt, ?_, fun i k v e => ?_⟩
  · have l1 : es.size = xs.length := size_of_entries he
    have l2 : kvs.length = xs.length := Paired.length pr
    omega
  · obtain ⟨b, hb, e1, e2, e3⟩ := L2.paired_get pr e
    have q := entry_at he i
    rw [hb] at q
    exact ⟨_, b.2.1, q, rfl, e2, e3⟩
end
/-- the pairs, each a new tuple -/
def Itit (d : Addr) (o : Obj) (kvs : List (List Key × V)) : It :=
  ⟨fun i H => H d = some (.frz o (.dT kvs)) ∧ i < kvs.length, fun i H x H' => ∃ (T : Addr) (k : List Key) (v : V) (q : Addr), kvs[i]? = some (k, v) ∧ x = .ref T ∧ H T = none ∧ H q = some (.tup (k.map kV)) ∧ H' = upd H T (.tup [.ref q, v]), fun i H => H d = some (.frz o (.dT kvs)) ∧ kvs.length ≤ i⟩
theorem turn_itemsT {P : Program} {w : World} {K : PySem.W.Frag} {d : Addr} {o : Obj} {es : Array DictEntry} {ep : Nat} {kvs : List (List Key × V)} {elts : List Expr} {kk : Nat} {tpos : Pos} (it : Addr) (hod : o.data = .dict es ep) :
    Turn P w K (.Tuple elts kk tpos) (Itit d o kvs) [it] it (fun i h => ∃ ok ov, IsItemIter h it d i kvs.length ep ok ov) where
  mem := by simp
  obj := fun i h st b hb => by
    have e : b = it := by simpa using hb
    subst e
    obtain ⟨ok, ov, e⟩ := st
    exact ⟨_, e, fun v z => nomatch z⟩
  keep := fun i h h' st k => let ⟨ok, ov, e⟩ := st; ⟨ok, ov, k it (by simp) _ e⟩
  item := by
    intro X hP hw hK hc i pins s σ H E I hf st hg
    subst hP hw hK
    obtain ⟨hd, hi⟩ := hg
    obtain ⟨hs, hgd, hx, es', ep', hdt, hsz, ent⟩ := frzTV I hd
    obtain ⟨rfl, rfl⟩ := dict_ep hod hdt
    obtain ⟨⟨k, v⟩, hkv⟩ : ∃ p, kvs[i]? = some p := ⟨kvs[i], List.getElem?_eq_getElem hi⟩
    obtain ⟨en, q, hen, hkey, hq, rv⟩ := ent i k v hkv
    obtain ⟨ok, ov, he⟩ := st
    rw [← hsz] at he
    have hlt : it < s.heap.objs.size := Heap.lt_size he
    have hie : i < es'.size := by omega
    have hen' : es'[i] = en := by
      have := Array.getElem?_eq_getElem hie
      rw [hen] at this
      exact (Option.some.inj this).symm
    refine wpAny_pyNext_items_item_raw he ⟨o, hgd, hx, hdt⟩ hie fun h' ho hT hz hk => ?_
    refine ⟨_, rfl, wpAny_letOwnedTupleGo_items (s := { s with heap := h' }) ho fun h'' he' sb => ?_⟩
    rw [hen'] at hT
    have hT2 : h''.get? s.heap.objs.size = some { cls := .type "tuple", data := .seq #[en.key, en.val] } := (sb.2 _ (Nat.ne_of_gt hlt)).trans hT
    have new : ObjOk X.prog X.w (upd H s.heap.objs.size (.tup [.ref q, v])) h'' s.heap.objs.size (.tup [.ref q, v]) :=
      ⟨by show 2 ≤ sizeLine; decide, [en.key, en.val], .cons hkey (.cons rv .nil), ⟨_, hT2, rfl, _, rfl⟩⟩
    have I1 : Inv X pins σ (upd H s.heap.objs.size (.tup [.ref q, v])) { s with heap := h'' } :=
      I.turnedNew (t' := s.toks) (ch := [it]) (fun b ob hb e => (sb.2 b (by simpa using hb)).trans (hk b ob (by simpa using hb) e)) hf (Nat.le_refl _) new
    refine ⟨.ref s.heap.objs.size, _, I1, rfl, ⟨_, k, v, q, hkv, rfl, I.hok.fresh (Nat.le_refl _), hq, rfl⟩, ⟨es'[i].key, es'[i].val, ?_⟩, fun b hb => ?_⟩
    · rw [← hsz]; exact he'
    · have e : b = it := by simpa using hb
      rw [e, upd_ne (Nat.ne_of_lt hlt)]
      exact (hf it (by simp)).1
  done := by
    intro X hP hw hK hc i pins s σ H E I hf st hg
    subst hP hw hK
    obtain ⟨hd, hi⟩ := hg
    obtain ⟨f0, f1, f2, f3, f4, f5⟩ := hf it (by simp)
    obtain ⟨hs, hgd, hx, es', ep', hdt, hsz, ent⟩ := frzTV I hd
    obtain ⟨rfl, rfl⟩ := dict_ep hod hdt
    obtain ⟨ok, ov, he⟩ := st
    rw [← hsz] at he
    exact wpAny_pyNext_items_end_raw (I.ok.hd hc) he ⟨o, hgd, hx, hdt⟩ (by omega) fun h' eb => ⟨rfl, I.turned (t' := s.toks) (fun b ob hb e => eb b ob hb e) f0 f1 f3 f4 f5⟩
  self := fun A i s Q E st h => let ⟨_, _, e⟩ := st; PySem.W.kcp_self e h
def iItemsT (td : TE) : TI := fun σ H R => td σ H fun x H1 => ∃ d o kvs, x = .ref d ∧ H1 d = some (.frz o (.dT kvs)) ∧ R (Itit d o kvs) H1
theorem pi_itemsT {X : Cx} {e : Expr} {td : TE} {apos cpos : Pos} {elts : List Expr} {kk : Nat} {tpos : Pos} (he : PE X e td) (hbase : attributeBase e "items" X.env (eval e X.env) = eval e X.env := by rfl) (hline : (apos.endLine == cpos.line) = true := by rfl) :
    PI X (.Tuple elts kk tpos) (.Call (.Attribute e "items" apos) [] [] cpos) (iItemsT td) := by
  refine ⟨fun pins s σ H R I h => ?_⟩
  refine wpAny_Call_method (T := "dict") (id := "dict.items") hbase rfl hline F.plainAttrs_dict F.slot_dict_items F.type_dict_items (thn (he.run pins s σ H _ I h) fun u s1 ⟨x, H1, I1, rx, d, o, kvs, ex, hd, q⟩ => ?_)
  subst ex
  obtain rfl : u = Value.ref d := rx
  obtain ⟨hs, hgd, hx, es, ep, hdt, hsz, ent⟩ := frzTV I1 hd
  have dr : s1.heap.DictRaw d es ep := ⟨o, hgd, hx, hdt⟩
  refine ⟨dr.typeIs, fun b z => by cases z; exact ⟨o, hgd, hx.2.1⟩, ?_⟩
  have I2 : Inv X pins σ H1 { s1 with heap := s1.heap.push { cls := .type "dict_items", data := .fields #[.ref d] } } := I1.kept (t' := s1.toks) fun b ob q => Heap.get?_push_of_some _ q
  have fin : wpAny (model X.prog X.w) X.A (pyIter (.ref s1.heap.objs.size)) (PIE X pins σ (.Tuple elts kk tpos) R) X.xe { s1 with heap := s1.heap.push { cls := .type "dict_items", data := .fields #[.ref d] } } := by
    refine wpAny_pyIter_items_raw (d := d) ⟨_, Heap.get?_push_size _ rfl, rfl, rfl⟩ (dr.push _) (pi_one (tk := s1.toks) I2 _ (turn_itemsT _ hdt) ⟨.none, .none, ?_⟩ q)
    rw [← hsz]
    exact Heap.get?_push_size _ rfl
  show wpAny _ _ (callWith cpos (.builtin "dict.items") [.ref d] [] []) _ X.xe s1
  exact method_meetsIn F.slot_dict_items F.entry_dict_items rfl (PySem.evalArgs_none ⟨rfl, dr.typeIs, F.args_dict_items_1 _, _, meets_dict_items_raw d hs, ⟨_, _, dr⟩, fin⟩)

/-! ### list(d.values()), the keys tuples -/
def rValsL : V → Hp → VK → Prop := fun x H Q => ∃ (d : Addr) (kvs : List (List Key × V)), x = .ref d ∧ Rd H d (.dT kvs) ∧ ∀ p, H p = none → Q (.ref p) (upd H p (.lst (kvs.map (·.2))))
def tListVals (te : TE) : TE := fun σ H Q => te σ H fun x H1 => rValsL x H1 Q
theorem vals_of_entries {P : Program} {w : World} {H : Hp} : ∀ {kvs : List (List Key × V)} {xs : List (List Key × Addr × Value)}, Paired (fun (p : List Key × V) (q : List Key × Addr × Value) => p.1 = q.1 ∧ H q.2.1 = some (.tup (p.1.map kV)) ∧ RelV p.2 q.2.2) kvs xs → Vals (kvs.map (·.2)) (xs.map fun x => x.2.2)
  | _, _, .nil => .nil
  | _, _, .cons r t => .cons r.2.2 (vals_of_entries (P := P) (w := w) t)
section
variable {X : Cx} {e : Expr} {te : TE} {p apos cpos pos : Pos}
theorem pe_listVals (hc : X.calm = true) (he : PE X e te) (hg : Gl X "list") (hm : X.mg "list" = none) (hv : bootBuiltins "list" = some (.type "list")) (hbase : attributeBase e "values" X.env (eval e X.env) = eval e X.env := by rfl) (hline : (apos.endLine == cpos.line) = true := by rfl)
    (hs : starEach [.Call (.Attribute e "values" apos) [] [] cpos] X.env = (false, eval (.Call (.Attribute e "values" apos) [] [] cpos) X.env) :: starEach [] X.env := by rfl) :
    PE X (.Call (.Name "list" p) [.Call (.Attribute e "values" apos) [] [] cpos] [] pos) (tListVals te) := by
  refine ⟨fun pins s σ H Q I hq => ?_⟩
  refine wpAny_Call_Name_kw (ld_blt I hg hm hv ?_)
  refine PyProof.Rows.callWith_type1 ?_ hs rfl
  rw [hs]
  show wpAny _ _ (spliced ((false, eval (.Call (.Attribute e "values" apos) [] [] cpos) X.env) :: backTo pos (starEach [] X.env))) _ _ s
  refine Calls.spliced_cons ?_
  refine wpAny_Call_method (T := "dict") (id := "dict.values") hbase rfl hline F.plainAttrs_dict F.slot_dict_values F.type_dict_values (thn (he.run pins s σ H _ I hq) fun u s1 ⟨x, H1, I1, rx, d, kvs, ex, hd, q⟩ => ?_)
  subst ex
  obtain rfl : u = Value.ref d := rx
  obtain ⟨z, hs0, ks, pr, o, es, ep, ho, hx, hdt, hen, hn⟩ := (show ObjOk X.prog X.w H1 s1.heap d (.dT kvs) from hd.ok I1.hok)
  have l1 : es.size = ks.length := size_of_entries hen
  have l2 : kvs.length = ks.length := Paired.length pr
  have dr : s1.heap.DictRaw d es ep := ⟨o, ho, hx, hdt⟩
  have I2 : Inv X pins σ H1 { s1 with heap := s1.heap.push { cls := .type "dict_values", data := .fields #[.ref d] } } := I1.kept (t' := s1.toks) fun b ob q => Heap.get?_push_of_some _ q
  refine ⟨dr.typeIs, fun b z => by cases z; exact ⟨o, ho, hx.2.1⟩, ?_⟩
  show wpAny _ _ (callWith cpos (.builtin "dict.values") [.ref d] [] []) _ X.xe s1
  refine method_meetsIn F.slot_dict_values F.entry_dict_values rfl (PySem.evalArgs_none ⟨rfl, dr.typeIs, F.args_dict_values_1 _, _, meets_dict_values_raw d hs0, ⟨_, _, dr⟩, ?_⟩)
  refine Calls.spliced_nil ?_
  refine PySem.W.kdl_call (KdlSrc.rawValues (r := s1.heap.objs.size) (d := d) (es := es) (ep := ep)) (I1.ok.hd hc) ⟨⟨_, Heap.get?_push_size _ rfl, rfl, rfl⟩, dr.push _⟩ (by omega) fun h' tk acc' c' kp e2 it => ?_
  have ea : acc'.toList = ks.map fun x => x.2.2 := by
    have hl : acc'.toList.length = ks.length := by rw [Array.length_toList, it.1]; exact l1
    apply List.ext_getElem?
    intro j
    rw [List.getElem?_map]
    cases hj : acc'.toList[j]? with
    | none =>
      have h1 := List.getElem?_eq_none_iff.mp hj
      rw [List.getElem?_eq_none (by omega)]
      all_goals rfl
    | some v =>
      obtain ⟨hi, hv⟩ := it.2 j v (by rw [← Array.getElem?_toList]; exact hj)
      have qe := entry_at hen j
      rw [Array.getElem?_eq_getElem hi] at qe
      cases hb : ks[j]? with
      | none =>
        rw [hb] at qe
        exact nomatch (show some es[j] = none from qe)
      | some b =>
        rw [hb] at qe
        have e2 : es[j] = entryOfKey (tupleKind (mixKind X.prog X.w)) b := Option.some.inj qe
        rw [hv, e2]
        all_goals rfl
  have rv : Vals (kvs.map (·.2)) acc'.toList := by rw [ea]; exact vals_of_entries (P := X.prog) (w := X.w) pr
  refine ⟨.ref _, _, I2.laid (t' := tk) (o := .lst (kvs.map (·.2))) kp (Nat.le_refl _) ?_, rfl, q _ (I2.hok.fresh (Nat.le_refl _))⟩
  refine ⟨by rw [List.length_map]; omega, acc'.toList, c', rv, ?_⟩
  rw [Array.toArray_toList]
  exact e2
end

/-! ### d.setdefault(y, z), the keys tuples -/
def tDSetdT (td ty tx : TE) : TE := fun σ H Q => td σ H fun x H1 => ∃ a, x = .ref a ∧ IsD H1 a ∧ ty σ H1 fun y H2 => tx σ H2 fun z H3 => ∃ (kvs : List (List Key × V)) (k : List Key) (b : Addr), H3 a = some (.dT kvs) ∧ y = .ref b ∧ H3 b = some (.tup (k.map kV)) ∧ kvs.length < sizeLine ∧
  (∀ v, valV kvs k = some v → Q v H3) ∧ (valV kvs k = none → Q z (upd H3 a (.dT (putK kvs k z))))
theorem putK_new {κ : Type} [DecidableEq κ] {xs : List (κ × V)} {k : κ} {v : V} (h : valV xs k = none) : (xs.any fun p => decide (p.1 = k)) = false := by
  induction xs with
  | nil => rfl
  | cons p r ih =>
    by_cases e : p.1 = k
    · rw [valV_pos e] at h; cases h
    · rw [valV_neg e] at h
      rw [List.any_cons, decide_eq_false e, ih h]; rfl
section
variable {X : Cx} {o e f : Expr} {td ty tx : TE} {apos cpos : Pos}
theorem pe_dsetdT (hu : X.A.units + 1 < cLine) (ho : PE X o td) (he : PE X e ty) (hf : PE X f tx) (m : M2 X o "setdefault" apos e f cpos) : PE X (.Call (.Attribute o "setdefault" apos) [e, f] [] cpos) (tDSetdT td ty tx) := by
  refine ⟨fun pins s σ H Q I h => ?_⟩
  refine wpAny_Call_method m.base m.few m.line PySem.F.plainAttrs_dict PySem.F.slot_dict_setdefault PySem.F.type_dict_setdefault (thn (ho.run pins s σ H _ I h) fun u s1 ⟨x, H1, I1, rx, a, ex, d, q1⟩ => ?_)
  subst ex
  obtain rfl : u = Value.ref a := rx
  obtain ⟨t1, t2, _⟩ := isD_at I1 d
  refine ⟨t1, t2, ?_⟩
  rw [m.trees]
  refine Calls.callWith_builtin rfl (Calls.evalArgs_plain (Calls.spliced_cons (thn (he.run pins s1 σ H1 _ I1 q1) fun iv s2 ⟨y, H2, I2, ry, q2⟩ =>
    Calls.spliced_cons (thn (hf.run pins s2 σ H2 _ I2 q2) fun fv s3 ⟨z, H3, I3, rz, kvs, k, b, ea, ey, eb, hl, q3, q4⟩ => Calls.spliced_nil ?_))))
  subst ey
  cases (show iv = Value.ref b from ry)
  obtain ⟨zz, hd, xs, rel, dd⟩ := dt_of I3.hok ea
  have hz : xs.length ≤ sizeLine := by rw [← Paired.length rel]; exact zz
  have hl' : (putK kvs k z).length ≤ sizeLine := by have := length_putK kvs k z; omega
  refine call_setdefault_heap (hsz := hz) (tupleKind_room_in1 hu) (key_of I3.hok eb) hd dd (fun p hp => ?_) fun hn h' dd' hs => ?_
  · have q := rel.val k
    rw [hp] at q
    cases hv : valV kvs k with
    | none => rw [hv] at q; exact False.elim q
    | some v =>
      rw [hv] at q
      exact ⟨v, H3, I3.tok _, q, q3 v hv⟩
  · have q := rel.val k
    rw [hn] at q
    have hv : valV kvs k = none := by
      cases hv : valV kvs k with
      | none => rfl
      | some v => rw [hv] at q; exact False.elim q
    refine ⟨z, _, ?_, rz, q4 hv⟩
    obtain ⟨q, es, ep, hq, h2, h3, h4, _, h5⟩ := dd'
    refine d_write I3 (by rw [ea]; exact True.intro) hs ⟨q, hq⟩ ⟨hl', hd, _, (rel.put k eb rz).keeps fun c ys ec => ?_, q, es, ep, hq, h2, h3, h4, h5⟩
    rw [upd_ne (ne_of ec ea (fun z => nomatch z))]
    exact ec
end
end HwB
set_option Elab.async false
set_option linter.all false
set_option maxRecDepth 100000
set_option maxHeartbeats 4000000
namespace HwB
open PySem PySem.Spec PyProof.Rows L2 PySem.W

/-! ### list(reversed(x)), x a list -/
section
variable {prog : Program} {w : World} {A : Around} {E : Value → Shared → Prop} {s : Shared}
theorem ext_rev {R : Result → Shared → Prop} {it l S : Addr} {items : Array Value} (hh : A.handled = none) (hit : s.heap.IsRevIter it l ((items.size : Int) - 1)) (hl : s.heap.IsList l items) (hne : l ≠ it) (hn : items.size ≤ sizeLine) (hSi : S ≠ it) (hSl : S ≠ l) (res : Value) (c₀ : Nat)
    (hS : s.heap.get? S = some { cls := .type "list", data := .seq #[] c₀ })
    (hR : ∀ h' tk acc' c', (∀ b o, b ≠ S → b ≠ it → s.heap.get? b = some o → h'.get? b = some o) → h'.get? S = some { cls := .type "list", dict := none, data := .seq acc' c', slots := #[] } → ItemsOf (fun i v => items[items.size - 1 - i]? = some v) acc' items.size → R (.ok (.ret res)) { s with heap := h', toks := tk }) :
    wpAny (model prog w) A.in1 (Builtin.List.listExtendWith (.ref S) (.ref it) res)
      (fun fin s' => match fin with | .done f => R (.ok f) s' | .again c' => c'.quiet = true ∧ codeAny (model prog w) A c' R s') (fun e s' => R (.error e) s') s := by
  have W := (Walks.listRev (prog := prog) (w := w) (A := A.in1) hh it l hne items).toS
  have hSf : S ∉ [it, l] := by simp only [List.mem_cons, List.not_mem_nil, or_false, not_or]; exact ⟨hSi, hSl⟩
  have hT : s.TypeIs (.ref it) "list_reverseiterator" := hit.typeIs
  have h1 : Builtin.List.listSameRef (.ref S) (.ref it) = false := by simp [Builtin.List.listSameRef, hSi]
  unfold Builtin.List.listExtendWith
  refine wpAny_bind (wpAny_typeOf hT ?_)
  rw [if_neg (by rw [h1]; decide)]
  refine wpAny_bind (wpAny_pyIter_revIter hit ?_)
  refine wpAny_bind (wpAny_holding ?_)
  unfold Builtin.List.listLengthHint
  refine wpAny_bind (wpAny_specialOf hT RT.nolen_lri ?_)
  show wpAny _ A.in1 (specialOf (Value.ref it) (Str.ofString "__length_hint__") >>= _) _ _ _
  refine wpAny_bind (wpAny_specialOf hT RT.hint_lri ?_)
  generalize hid : ("list_reverseiterator.__length_hint__" : String) = id0
  wp_delta
  rw [show splitId id0 = some ("list_reverseiterator", "__length_hint__") from by subst hid; decide +kernel]
  subst hid
  refine wpAny_bind (wpAny_isInstance (b := true) hT (by rw [isSubtype_type]; kernel_rfl) ?_)
  refine wpAny_pure ?_
  rw [if_neg (by decide)]
  have e0 : ((items.size : Nat) : Int) - 1 - ((0 : Nat) : Int) = (items.size : Int) - 1 := by omega
  refine wpAny_pure ⟨plainId_quiet F.plain_extend_loop _, codeAny_extend_loopS W hn _ hSf _ items.size 0 _ _ _ rfl (Nat.zero_le _) ⟨Nat.zero_le _, by rw [e0]; exact hit, hl⟩ hS (ItemsOf.nil _) fun s' acc' c' hm hS' hacc => ?_⟩
  rw [Moved.eq_with hm]
  refine hR s'.heap s'.toks acc' c' (fun b o hb hb2 e => hm.heap b o (fun hmem => ?_) e) hS' hacc
  rcases List.mem_cons.mp hmem with e' | hmem
  · exact hb e'
  · exact hb2 (List.mem_singleton.mp hmem)
theorem init_rev {R : Result → Shared → Prop} {it l S : Addr} {items : Array Value} (hh : A.handled = none) (hit : s.heap.IsRevIter it l ((items.size : Int) - 1)) (hl : s.heap.IsList l items) (hne : l ≠ it) (hn : items.size ≤ sizeLine) (hSi : S ≠ it) (hSl : S ≠ l)
    (hS : s.heap.get? S = some { cls := .type "list", data := .seq #[] })
    (hR : ∀ h' tk acc' c', (∀ b o, b ≠ S → b ≠ it → s.heap.get? b = some o → h'.get? b = some o) → h'.get? S = some { cls := .type "list", dict := none, data := .seq acc' c', slots := #[] } → ItemsOf (fun i v => items[items.size - 1 - i]? = some v) acc' items.size → R (.ok (.ret .none)) { s with heap := h', toks := tk }) :
    wpAny (model prog w) A.in1 (Builtin.«list.__init__» ⟨[.ref S, .ref it], []⟩)
      (fun fin s' => match fin with | .done f => R (.ok f) s' | .again c' => c'.quiet = true ∧ codeAny (model prog w) A c' R s') (fun e s' => R (.error e) s') s := by
  show wpAny _ _ (do let old ← Builtin.List.listItems (.ref S); Builtin.List.listUpdate (.ref S) (fun _ => #[]); letGo old.toList.reverse; Builtin.List.listExtendWith (.ref S) (.ref it) .none) _ _ s
  refine wpAny_bind ?_
  unfold Builtin.List.listItems
  refine wpAny_bind (wpAny_seqItems hS rfl (wpAny_pure ?_))
  show wpAny _ _ (updateSeq S (fun _ => #[]) >>= fun _ => letGo (#[] : Array Value).toList.reverse >>= fun _ => Builtin.List.listExtendWith (.ref S) (.ref it) .none) _ _ s
  refine wpAny_bind (wpAny_updateSeq hS rfl ?_)
  have hS₂ := Heap.get?_update_self (Obj.mapSeq (fun _ => (#[] : Array Value))) hS rfl
  have oth : ∀ b o, b ≠ S → s.heap.get? b = some o → (s.heap.update S (Obj.mapSeq (fun _ => (#[] : Array Value)))).get? b = some o :=
    fun b o hb e => (Heap.get?_update_other _ _ (Ne.symm hb)).trans e
  refine wpAny_bind (wpAny_letGo ?_)
  obtain ⟨ol, e1, e2, e3⟩ := id hl
  refine ext_rev (s := { s with heap := s.heap.update S (Obj.mapSeq (fun _ => (#[] : Array Value))) }) hh (hit.at fun o e => oth it o (Ne.symm hSi) e) ⟨ol, oth l ol (Ne.symm hSl) e1, e2, e3⟩ hne hn hSi hSl .none _ hS₂ (fun h' tk acc' c' hk hS' hacc => ?_)
  exact hR h' tk acc' c' (fun b o hb hb2 e => hk b o hb hb2 (oth b o hb e)) hS' hacc
theorem call_list_rev {Q : Value → Shared → Prop} {it l : Addr} {items : Array Value} (hh : A.handled = none) (hit : s.heap.IsRevIter it l ((items.size : Int) - 1)) (hl : s.heap.IsList l items) (hne : l ≠ it) (hn : items.size ≤ sizeLine)
    (hQ : ∀ h' tk acc' c', (∀ b o, b ≠ it → s.heap.get? b = some o → h'.get? b = some o) → h'.get? s.heap.objs.size = some { cls := .type "list", dict := none, data := .seq acc' c', slots := #[] } → ItemsOf (fun i v => items[items.size - 1 - i]? = some v) acc' items.size → Q (.ref s.heap.objs.size) { s with heap := h', toks := tk }) :
    wpAny (model prog w) A (call (.type "list") [.ref it]) Q E s := by
  refine callType_codes (Q₁ := fun obj s₁ => obj = .ref s.heap.objs.size ∧ s₁ = { s with heap := s.heap.push { cls := .type "list", data := .seq #[] } }) PySem.F.called_list (PySem.F.typeCall_list_1 _) PySem.F.entry_list_init
    (code_list_new _ ⟨rfl, rfl⟩) fun obj s₁ h₁ => ?_
  obtain ⟨rfl, rfl⟩ := h₁
  have hS : (s.heap.push { cls := .type "list", data := .seq #[] }).get? s.heap.objs.size = some { cls := .type "list", data := .seq #[] } := Heap.get?_push_size _ rfl
  obtain ⟨oi, hoi, _⟩ := id hit
  obtain ⟨ol, hol, _⟩ := id hl
  have l1 := Heap.lt_size hoi
  have l2 := Heap.lt_size hol
  refine ⟨⟨_, hS, rfl⟩, PySem.F.args_list_init_2 _ _, init_rev (A := A.in1) (s := { s with heap := s.heap.push { cls := .type "list", data := .seq #[] } }) hh (hit.at fun o e => Heap.get?_push_of_some _ e) (hl.push _) hne hn (Nat.ne_of_gt l1) (Nat.ne_of_gt l2) hS (fun h' tk acc' c' hk hS' hacc => ?_)⟩
  exact ⟨rfl, hQ h' tk acc' c' (fun b o hb e => hk b o (Nat.ne_of_lt (Heap.lt_size e)) hb (Heap.get?_push_of_some _ e)) hS' hacc⟩
end
def tListRev (K : PySem.W.Frag) (te : TE) : TE := fun σ H Q => te σ H fun v H1 => ∃ (a : Addr) (xs : List V), v = .ref a ∧ SqL K H1 a xs ∧ ∀ q, H1 q = none → Q (.ref q) (upd H1 q (.lst xs.reverse))
theorem pe_listRev {X : Cx} {e : Expr} {te : TE} {p p2 pos pos2 : Pos} (hc : X.calm = true) (hg : Gl X "list") (hm : X.mg "list" = none) (hv : bootBuiltins "list" = some (.type "list")) (hg2 : Gl X "reversed") (hm2 : X.mg "reversed" = none) (he : PE X e te)
    (hs : starEach [e] X.env = (false, eval e X.env) :: starEach [] X.env := by rfl)
    (hs2 : starEach [.Call (.Name "reversed" p2) [e] [] pos2] X.env = (false, eval (.Call (.Name "reversed" p2) [e] [] pos2) X.env) :: starEach [] X.env := by rfl) :
    PE X (.Call (.Name "list" p) [.Call (.Name "reversed" p2) [e] [] pos2] [] pos) (tListRev X.K te) := by
  refine ⟨fun pins s σ H Q I h => ?_⟩
  refine Call_ (ld_blt I hg hm hv (PyProof.Rows.callWith_type1 (args_cons (Call_ (ld_blt I hg2 hm2 PyProof.Rows.boot_reversed (PyProof.Rows.callWith_type1 (args_cons (thn (he.run pins s σ H _ I h) fun u s1 ⟨v, H1, I1, r1, q1⟩ => args_nil ?_) hs) hs rfl))) hs2) hs2 rfl))
  obtain ⟨a, xs, ev, hq, q⟩ := q1
  subst ev
  obtain rfl : u = Value.ref a := r1
  obtain ⟨its, rv, p', hz⟩ := I1.list hq
  refine call_reversed_list p'.isList (args_nil ?_)
  have k0 : ∀ b o, s1.heap.get? b = some o → (s1.heap.push (revObj a ((its.toArray.size : Int) - 1))).get? b = some o := fun b o e => Heap.get?_push_of_some _ e
  have I2 : Inv X pins σ H1 { s1 with heap := s1.heap.push (revObj a ((its.toArray.size : Int) - 1)) } := I1.kept (t' := s1.toks) k0
  obtain ⟨f0, f1, f2, f3, f4, f5⟩ := I1.fpOk (H' := H1) (b := s1.heap.objs.size) (Nat.le_refl _) (I1.hok.fresh (Nat.le_refl _))
  have hl := p'.isList
  obtain ⟨ol, hol, _⟩ := id hl
  have hne : a ≠ s1.heap.objs.size := Nat.ne_of_lt (Heap.lt_size hol)
  have hn : its.toArray.size ≤ sizeLine := by rw [List.size_toArray, ← rv.length]; exact hz
  refine call_list_rev (s := { s1 with heap := s1.heap.push (revObj a ((its.toArray.size : Int) - 1)) }) (I1.ok.hd hc) ⟨_, Heap.get?_push_size _ rfl, rfl, rfl⟩ (hl.push _) hne hn fun h' tk acc c' hk hS hi => ?_
  have hz2 : (s1.heap.push (revObj a ((its.toArray.size : Int) - 1))).objs.size = s1.heap.objs.size + 1 := Heap.size_push _ _
  have new : ObjOk X.prog X.w (upd H1 (s1.heap.push (revObj a ((its.toArray.size : Int) - 1))).objs.size (.lst xs.reverse)) h' (s1.heap.push (revObj a ((its.toArray.size : Int) - 1))).objs.size (.lst xs.reverse) :=
    ⟨by rw [List.length_reverse]; exact hz, acc.toList, c', RT.vals_rev rv hi, by rw [Array.toArray_toList]; exact hS⟩
  refine ⟨.ref (s1.heap.push (revObj a ((its.toArray.size : Int) - 1))).objs.size, upd H1 (s1.heap.push (revObj a ((its.toArray.size : Int) - 1))).objs.size (.lst xs.reverse), ?_, rfl, q _ (I1.hok.fresh (by rw [hz2]; exact Nat.le_succ _))⟩
  exact I1.turnedNew (t' := tk) (ch := [s1.heap.objs.size]) (fun b o hb e => hk b o (by simpa using hb) (k0 b o e)) (fun b hb => by
    have e : b = s1.heap.objs.size := by simpa using hb
    subst e
    exact ⟨f0, f1, f2, f3, f4, f5⟩) (by rw [hz2]; exact Nat.le_succ _) new
end HwB
set_option Elab.async false
set_option linter.all false
set_option maxRecDepth 100000
set_option maxHeartbeats 4000000
namespace HwB
open PySem PySem.Spec PyProof.Rows L2 PySem.W

/-! ### an attribute as a target -/
def gFld (K : PySem.W.Frag) (to : TE) (f : Str) : TG := fun v σ H Q => to σ H fun x H1 => ∃ a C dx fs, x = .ref a ∧ H1 a = some (.ins C dx fs) ∧ Cls K C ∧ NoAttr K C f ∧ fs.length < 1000 ∧ Q σ (upd H1 a (.ins C dx (putF f v fs)))
theorem pg_fld {X : Cx} {o : Expr} {f : Str} {pos : Pos} {to : TE} (ho : PE X o to) : PG X (.Attribute o f pos) (gFld X.K to f) := by
  refine ⟨fun pins s σ H v u Q I r h => ?_⟩
  refine kas_attr (thn (ho.run pins s σ H _ I h) fun ov s1 ⟨x, H1, I1, rx, a, C, dx, fs, ex, ea, c, n, l, q⟩ => ?_)
  subst ex
  obtain rfl : ov = Value.ref a := rx
  exact setattr_ok I1 ea c n l r fun s3 I3 => ⟨σ, _, I3, q⟩

/-! ### dict(pairs), the keys tuples -/
def mergeT (kvs more : List (List Key × V)) : List (List Key × V) := more.foldl (fun acc kv => putK acc kv.1 kv.2) kvs
theorem length_mergeT : ∀ (more kvs : List (List Key × V)), (mergeT kvs more).length ≤ kvs.length + more.length
  | [], kvs => by show kvs.length ≤ kvs.length + 0; omega
  | p :: r, kvs => by
    have h1 := length_mergeT r (putK kvs p.1 p.2)
    have h2 := length_putK kvs p.1 p.2
    show (mergeT (putK kvs p.1 p.2) r).length ≤ _
    rw [List.length_cons]; omega
theorem KT.merge {H : Hp} : ∀ {more : List (List Key × V)} {rs : List (List Key × Addr × Value)} {kvs : List (List Key × V)} {vs : List (List Key × Addr × Value)}, KT H more rs → KT H kvs vs → KT H (mergeT kvs more) (storedAllH vs rs) := by
  intro more rs kvs vs r
  induction r generalizing kvs vs with
  | nil => intro q; exact q
  | @cons p q ps qs h t ih =>
    intro r0
    obtain ⟨h1, h2, h3⟩ := h
    refine ih (kvs := putK kvs p.1 p.2) (vs := storedH vs q.1 q.2.1 q.2.2) ?_
    rw [← h1]
    exact r0.put p.1 h2 h3
section
variable {X : Cx}
theorem pairsT_of {pins : List (Addr × Obj)} {σ : L2.St} {H : Hp} {s : Shared} (I : Inv X pins σ H s) : ∀ {ps : List Addr} {kvs : List (List Key × V)}, Paired (fun p kv => ∃ b, SqT X.K H p [.ref b, kv.2] ∧ H b = some (.tup (kv.1.map kV))) ps kvs →
    ∃ prs : List (List Key × Addr × Value), KT H kvs prs ∧ prs.length = ps.length ∧ ∀ (j : Nat) (q : List Key × Addr × Value), prs[j]? = some q → ∃ (b : Addr), ps[j]? = some b ∧ IsTup s.heap b #[.ref q.2.1, q.2.2]
  | _, _, .nil => ⟨[], .nil, rfl, fun j q e => by simp at e⟩
  | _, _, .cons (a := p) (b := kv) h t => by
    obtain ⟨prs, r, hl, hp⟩ := pairsT_of I t
    obtain ⟨b, h, hb⟩ := h
    obtain ⟨its, rv, ht, _⟩ := I.tuple h
    obtain ⟨u, y, ei, ru, ry⟩ := vals2 rv
    subst ei
    obtain rfl : u = Value.ref b := ru
    refine ⟨(kv.1, b, y) :: prs, .cons ⟨rfl, hb, ry⟩ r, by rw [List.length_cons, List.length_cons, hl], fun j q e => ?_⟩
    cases j with
    | zero =>
      have e' : (kv.1, b, y) = q := Option.some.inj e
      subst e'
      exact ⟨p, rfl, ht⟩
    | succ j =>
      obtain ⟨b', e1, e2⟩ := hp j q (by simpa using e)
      exact ⟨b', by simpa using e1, e2⟩
theorem kt_is {P : Program} {w : World} {H : Hp} {h : Heap} (ok : HOk P w H h) : ∀ {l : List (List Key × V)} {m : List (List Key × Addr × Value)}, KT H l m → ∀ x ∈ m, (tupleKind (mixKind P w)).is h x.1 x.2.1 := by
  intro l m q
  induction q with
  | nil => intro x hx; exact nomatch hx
  | @cons p q ps qs hq t ih =>
    intro x hx
    rcases List.mem_cons.mp hx with e | hx
    · subst e
      exact key_of ok (by rw [← hq.1]; exact hq.2.1)
    · exact ih x hx
def rDictPT (K : PySem.W.Frag) : List V → Hp → VK → Prop := fun xs H Q => ∃ (a : Addr) (ps : List Addr) (kvs : List (List Key × V)), xs = [.ref a] ∧ SqL K H a (ps.map V.ref) ∧ Paired (fun p kv => ∃ b, SqT K H p [.ref b, kv.2] ∧ H b = some (.tup (kv.1.map kV))) ps kvs ∧
    ∀ p, H p = none → Q (.ref p) (upd H p (.dT (mergeT [] kvs)))
theorem call_dictPT (hcalm : X.calm = true) (hu : X.A.units + 2 < cLine) : CallR X (.type "dict") (rDictPT X.K) := by
  intro pins s σ H xs us Q I r q
  obtain ⟨a, ps, kvs, ex, hq, hp, q⟩ := q
  subst ex
  obtain ⟨u, eu, rx⟩ := vals1 r
  subst eu
  cases rx
  obtain ⟨its, rv, pl, hz⟩ := I.list hq
  have ei := refs_at rv
  subst ei
  rw [List.length_map] at hz
  obtain ⟨prs, rel, hl, hpr⟩ := pairsT_of I hp
  obtain ⟨o, n, ho, hc, hd, hdat⟩ := pl
  have hlv : (prs.map fun x => ((Value.ref x.2.1, x.2.2) : Value × Value)).length = prs.length := List.length_map ..
  refine call_dict_pairsH (knd := tupleKind (mixKind X.prog X.w)) (ps := prs) (PairArg.list a (ps.map Value.ref).toArray (fun j => ps.getD j 0) (prs.map fun x => ((Value.ref x.2.1, x.2.2) : Value × Value))) (I.ok.hd hcalm) hu
    ⟨⟨o, n, ho, hc, hd, hdat⟩, by simp [hl], fun j k v e => ?_⟩ ⟨hlv.symm, fun j key v e => ?_⟩ (fun h' hk x hx => ?_) (by rw [hlv, hl]; exact hz) fun h' tk hd' k => ?_
  · rw [List.getElem?_map] at e
    cases e2 : prs[j]? with
    | none => rw [e2] at e; cases e
    | some q' =>
      rw [e2] at e
      cases e
      obtain ⟨b, e1, ht⟩ := hpr j q' e2
      have eg : ps.getD j 0 = b := by simp [List.getD, e1]
      show _ = some (Value.ref (ps.getD j 0)) ∧ PairAt s.heap (ps.getD j 0) _ _
      rw [eg]
      refine ⟨by simp [e1], .inl ht⟩
  · have e' : (prs.map fun x => ((Value.ref x.2.1, x.2.2) : Value × Value))[j]? = some (key, v) := e
    rw [List.getElem?_map] at e'
    cases e2 : prs[j]? with
    | none => rw [e2] at e'; cases e'
    | some q' =>
      rw [e2] at e'
      cases e'
      exact ⟨q'.1, q'.2.1, by rfl, rfl⟩
  · obtain ⟨ob, its, nn, g1, g2, g3, g4⟩ := kt_is (w := X.w) I.hok rel x hx
    exact ⟨ob, its, nn, hk _ _ (Nat.ne_of_lt (Heap.lt_size g1)) (fun z => nomatch z) g1, g2, g3, g4⟩
  · have hm : (s.heap.objs.size == sysModules) = false := beq_eq_false_iff_ne.mpr (Nat.ne_of_gt I.big)
    have hlen : (mergeT [] kvs).length ≤ sizeLine := by
      refine Nat.le_trans (length_mergeT kvs []) ?_
      rw [List.length_nil, Nat.zero_add, Paired.length rel, hl]
      exact hz
    have kk : ∀ b o, s.heap.get? b = some o → h'.get? b = some o := fun b o e => k b o (fun z => nomatch z) e
    obtain ⟨qo, es, ep, hqo, h2, h3, h4, _, h5⟩ := hd'
    have hfr : H s.heap.objs.size = none := I.hok.fresh (Nat.le_refl _)
    refine ⟨.ref s.heap.objs.size, upd H s.heap.objs.size (.dT (mergeT [] kvs)), I.laid (t' := tk) kk (Nat.le_refl _) (show ObjOk X.prog X.w _ _ _ (.dT (mergeT [] kvs)) from ⟨hlen, hm, storedAllH [] prs, (KT.merge rel .nil).keeps fun c ys ec => ?_, qo, es, ep, hqo, h2, h3, h4, h5⟩), rfl, q _ hfr⟩
    rw [upd_ne (ne_of_none ec hfr)]
    exact ec
end

/-! ### l.extend(a tuple) -/
theorem ext_tup_meets (l : Addr) (items : Array Value) (n : Nat) (b : Addr) (items2 : Array Value) (n2 : Nat) (o2 : Obj) (hs0 : ¬(!items.isEmpty && Builtin.List.listTooLong (items.size + items2.size)) = true) (hs1 : items.size ≤ sizeLine) (hs2 : items.size + items2.size ≤ sizeLine + 1)
    (ho : o2.cls = .type "tuple") (hd : o2.data = .seq items2 n2) :
    Meets (Builtin.«list.extend» ⟨[.ref l, .ref b], []⟩) (fun _ R s => s.heap.get? l = some { cls := .type "list", dict := none, data := .seq items n, slots := #[] } ∧ s.heap.get? b = some o2 ∧ R (.ok (.ret Value.none)) { s with heap := s.heap.update l (Obj.mapSeq fun x => x ++ items2), toks := s.toks }) := by
  obtain ⟨cl, di, da, sl⟩ := o2
  cases ho
  cases hd
  exact .of_wp fun prog w A R s h => by
    obtain ⟨hp, g, d, tk, os⟩ := s; obtain ⟨hl, hb, h⟩ := h; have f1 := AutoSeq1.idx_int; have f2 := AutoSeq1.sub_tuple_tuple; have f3 := AutoSeq1.sub_list_list; have f4 := AutoSeq1.sub_tuple_list; have f5 := AutoSeq1.sub_list_tuple;
    have hz' : (items ++ items2).size ≤ sizeLine + 1 := by rw [Array.size_append]; exact hs2
    wp_walk using (wpAny_updateSeq hl rfl (hz := hs1) (_hz' := hz')), AutoSeq1.wpAny_loadPart' hl, AutoSeq1.wpAny_loadPart' hb; exact ⟨_, rfl, h⟩
def rExtendT (K : PySem.W.Frag) : V → List V → Hp → VK → Prop := fun x vs H Q => ∃ l b xs zs, x = .ref l ∧ vs = [.ref b] ∧ H l = some (.lst xs) ∧ SqT K H b zs ∧ xs.length + zs.length ≤ sizeLine ∧ Q .non (upd H l (.lst (xs ++ zs)))
theorem mt_extendT {X : Cx} : MtM X "list.extend" (rExtendT X.K) := by
  intro pins s σ H x vs v us Q I rx rv h
  obtain ⟨l, b, xs, zs, rfl, rfl, hH, hB, hz, q⟩ := h
  cases rx
  obtain ⟨u, rfl, ru⟩ := rv.one
  cases ru
  obtain ⟨z, its, n, r, hl, e⟩ := I.lstM hH
  obtain ⟨its2, r2, ⟨o2, e2, hc2, n2, hd2⟩, z2⟩ := I.tuple hB
  have hl2 := r2.length
  have hsz : its.toArray.size + its2.toArray.size ≤ sizeLine := by rw [List.size_toArray, List.size_toArray]; omega
  have hlong : ¬ (!its.toArray.isEmpty && Builtin.List.listTooLong (its.toArray.size + its2.toArray.size)) = true := by
    rw [notLongL hsz, Bool.and_false]
    exact Bool.false_ne_true
  refine call_meets F.slot_list_extend ⟨_, e, rfl⟩ F.entry_list_extend (F.args_list_extend_2 _ _)
    (ext_tup_meets l its.toArray n b its2.toArray n2 o2 hlong (by rw [List.size_toArray]; omega) (by omega) hc2 hd2) ⟨e, e2, ?_⟩
  refine ⟨.non, _, I.lset (its' := its ++ its2) hH e (by simp) (r.append r2) ?_, rfl, q⟩
  rw [List.length_append]
  omega
end HwB
set_option Elab.async false
set_option linter.all false
set_option maxRecDepth 100000
set_option maxHeartbeats 4000000
namespace HwB
open PySem PySem.Spec PyProof.Rows L2 PySem.W

/-! ### sorted(d), the keys triples of two texts and an int -/
abbrev N3 := Str × Str × Int
def n3K (b : N3) : List Key := [.inr b.1, .inr b.2.1, .inl b.2.2]
def n3D (b : N3) : PyData := .tuple [.str b.1, .str b.2.1, .int b.2.2]
theorem reads_n3 {P : Program} {w : World} {H : Hp} {h : Heap} (ok : HOk P w H h) {q : Addr} {b : N3} (e : H q = some (.tup ((n3K b).map kV))) : ∃ as, Reads h (.ref q) (n3D b) as := by
  obtain ⟨_, its, r, o, h1, h2, n, h3⟩ := (show ObjOk P w H h q (.tup ((n3K b).map kV)) from ok q _ e)
  have r' : Vals [V.str b.1, V.str b.2.1, V.int b.2.2] its := r
  cases r' with
  | cons r1 t1 => cases t1 with
    | cons r2 t2 => cases t2 with
      | cons r3 t3 =>
        cases t3
        obtain ⟨t1, rfl⟩ := r1
        obtain ⟨t2, rfl⟩ := r2
        obtain ⟨t3, rfl⟩ := r3
        exact ⟨_, .tuple h1 h2 h3 (.cons (.str _ _) (.cons (.str _ _) (.cons (.int _ _) .nil)))⟩
def rSortedDT : List V → Hp → VK → Prop := fun xs H Q => ∃ (a : Addr) (kvs : List (List Key × V)) (ks : List N3), xs = [.ref a] ∧ Rd H a (.dT kvs) ∧ kvs.map (·.1) = ks.map n3K ∧
  ∀ (p : Addr) (bs : List (N3 × Addr)), H p = none → (bs.map (·.1)).Perm ks → (∀ b ∈ bs, H b.2 = some (.tup ((n3K b.1).map kV))) → Q (.ref p) (upd H p (.lst (bs.map fun b => V.ref b.2)))
theorem vals_bs : ∀ bs : List (N3 × Addr), Vals (bs.map fun b => V.ref b.2) (bs.map fun b => Value.ref b.2)
  | [] => .nil
  | _ :: r => .cons rfl (vals_bs r)
theorem each_refs {R : Value → N3 × Addr → Prop} (hR : ∀ v b, R v b → v = .ref b.2) : ∀ {vs : List Value} {bs : List (N3 × Addr)}, EachIs R vs bs → vs = bs.map fun b => Value.ref b.2
  | _, _, .nil => rfl
  | _, _, .cons h t => by rw [List.map_cons, ← hR _ _ h, ← each_refs hR t]
theorem each_of_mem {R : Value → N3 × Addr → Prop} : ∀ {bs : List (N3 × Addr)}, (∀ b ∈ bs, R (.ref b.2) b) → EachIs R (bs.map fun b => Value.ref b.2) bs
  | [], _ => .nil
  | b :: bs, h => .cons (h b List.mem_cons_self) (each_of_mem fun b hb => h b (List.mem_cons_of_mem _ hb))
theorem each_n3 {h : Heap} {vs : List Value} {bs : List (N3 × Addr)} (er : EachIs (fun v (b : N3 × Addr) => ∃ as, Reads h v (n3D b.1) as) vs bs) : EachIs (fun v d => ∃ as, Reads h v d as) vs (bs.map fun b => n3D b.1) := each_map (fun b : N3 × Addr => n3D b.1) er
theorem u4 {A : Around} (hu : A.units + 64 < cLine) : A.in1.in1.units + 1 < cLine := by
  rw [Around.in1_units, Around.in1_units]
  generalize cLine = c at hu ⊢
  omega
theorem call_sortedDT {X : Cx} (hcalm : X.calm = true) (hu : X.A.units + 64 < cLine) : CallR X (.builtin "sorted") rSortedDT := by
  intro pins s σ H xs us Q I r q
  obtain ⟨a, kvs, ks, ex, hd, hks, q⟩ := q
  subst ex
  obtain ⟨u, eu, rx⟩ := vals1 r
  subst eu
  cases rx
  obtain ⟨z, lo, ys, pr, o, es, ep, ho, hx, hdt, hen, hn⟩ := (show ObjOk X.prog X.w H s.heap a (.dT kvs) from hd.ok I.hok)
  have l1 : es.size = ys.length := size_of_entries hen
  have l2 : kvs.length = ys.length := Paired.length pr
  have l3 : kvs.length = ks.length := by
    have e := congrArg List.length hks
    rw [List.length_map, List.length_map] at e
    exact e
  let bs : List (N3 × Addr) := ks.zip (ys.map fun x => x.2.1)
  have hbl : bs.length = ys.length := by show (ks.zip _).length = _; rw [List.length_zip, List.length_map]; omega
  have hb1 : bs.map (·.1) = ks := by
    show (ks.zip (ys.map fun x => x.2.1)).map Prod.fst = ks
    rw [List.map_fst_zip]; rw [List.length_map]; omega
  have hbat : ∀ (j : Nat) (b : N3 × Addr), bs[j]? = some b → ∃ x, ys[j]? = some x ∧ b.2 = x.2.1 ∧ H b.2 = some (.tup ((n3K b.1).map kV)) := fun j b e => by
    have e' : (ks.zip (ys.map fun x => x.2.1))[j]? = some b := e
    rw [List.getElem?_zip_eq_some] at e'
    obtain ⟨e1, e2⟩ := e'
    rw [List.getElem?_map] at e2
    cases e3 : ys[j]? with
    | none => rw [e3] at e2; cases e2
    | some x =>
      rw [e3] at e2
      have e4 : x.2.1 = b.2 := Option.some.inj e2
      have hj : j < kvs.length := by have := (List.getElem?_eq_some_iff.mp e3).1; omega
      obtain ⟨x', e5, e6, e7, _⟩ := L2.paired_get pr (List.getElem?_eq_getElem hj)
      rw [e3] at e5
      cases e5
      refine ⟨x, rfl, e4.symm, ?_⟩
      have e8 : (kvs.map (·.1))[j]? = some kvs[j].1 := by rw [List.getElem?_map, List.getElem?_eq_getElem hj]; rfl
      rw [hks, List.getElem?_map, e1] at e8
      have e9 : n3K b.1 = kvs[j].1 := Option.some.inj e8
      rw [← e4, e9]
      exact e7
  have hbm : ∀ b ∈ bs, H b.2 = some (.tup ((n3K b.1).map kV)) := fun b hb => by
    obtain ⟨j, hj, e⟩ := List.mem_iff_getElem.mp hb
    obtain ⟨_, _, _, e2⟩ := hbat j b (by rw [List.getElem?_eq_getElem hj, e])
    exact e2
  refine Calls.call_function_entry PyProof.Rows.kind_sorted PyProof.Rows.plain_sorted PyProof.Rows.entry_sorted (PyProof.Rows.args_sorted1 _) ?_
  unfold Builtin.«sorted»
  refine wpAny_bind (m := checkCount "sorted" 1 1 _) (wpAny_pure ?_)
  refine wpAny_bind (PySem.W.kdu_collect (A := X.A.in1) (kdl_raw lo hx hdt) (I.ok.hd hcalm) ho (by omega) fun h' tk acc hk hacc => ?_)
  have hal : acc.toList = bs.map fun b => Value.ref b.2 := by
    have hl : acc.toList.length = ys.length := by rw [Array.length_toList, hacc.1]; exact l1
    apply List.ext_getElem?
    intro j
    rw [List.getElem?_map]
    cases hj : acc.toList[j]? with
    | none =>
      have h1 := List.getElem?_eq_none_iff.mp hj
      rw [List.getElem?_eq_none (by omega)]; rfl
    | some v =>
      obtain ⟨en, he, hv⟩ := hacc.2 j v (by rw [← Array.getElem?_toList]; exact hj)
      have qe := entry_at hen j
      rw [he] at qe
      have hjl : j < bs.length := by
        have := (List.getElem?_eq_some_iff.mp hj).1; omega
      obtain ⟨x, e3, e4, _⟩ := hbat j bs[j] (List.getElem?_eq_getElem hjl)
      rw [e3] at qe
      have e2 : en = entryOfKey (tupleKind (mixKind X.prog X.w)) x := Option.some.inj qe
      rw [List.getElem?_eq_getElem hjl, hv, e2]
      show some (Value.ref x.2.1) = some (Value.ref bs[j].2)
      rw [e4]
  have I1 : Inv X pins σ H { s with heap := h', toks := tk } := I.kept hk
  have hz16 : bs.length ≤ sizeLine := by omega
  rw [hal]
  refine wpAny_bind (wpAny_newList ?_ (by rw [List.length_map]; exact hz16))
  have hoL : (h'.push (seqObj "list" (bs.map fun b => Value.ref b.2).toArray 0)).get? h'.objs.size = some (seqObj "list" (bs.map fun b => Value.ref b.2).toArray 0) := Heap.get?_push_size _ rfl
  show wpAny _ _ _ _ _ { s with heap := h'.push (seqObj "list" (bs.map fun b => Value.ref b.2).toArray 0), toks := tk }
  let R : Value → N3 × Addr → Prop := fun v b => v = .ref b.2 ∧ H b.2 = some (.tup ((n3K b.1).map kV))
  have eR : EachIs R (bs.map fun b => Value.ref b.2) bs := each_of_mem fun b hb => ⟨rfl, hbm b hb⟩
  have hsz : h'.objs.size ≤ (h'.push (seqObj "list" (bs.map fun b => Value.ref b.2).toArray 0)).objs.size := by rw [Heap.size_push]; exact Nat.le_succ _
  have er : EachIs (fun v b => ∃ as, Reads (sortingHeap (h'.push (seqObj "list" (bs.map fun b => Value.ref b.2).toArray 0)) h'.objs.size (bs.map fun b => Value.ref b.2)) v (n3D b.1) as) (bs.map fun b => Value.ref b.2) bs := each_of_mem fun b hb => by
    obtain ⟨as, rd⟩ := reads_n3 (w := X.w) I1.hok (hbm b hb)
    exact ⟨as, PyProof.Rows.Reads.keeps (fun c o e => sortingHeap_old (Nat.ne_of_lt (Heap.lt_size e)) (Heap.get?_push_of_some _ e)) rd⟩
  have aal : AllAlike (bs.map fun b => n3D b.1) := AllAlike.of fun _ _ => by simp [alike, alikeAll, n3D]
  have sal : Sortable (bs.map fun b => n3D b.1) := Sortable.tuples fun _ => ⟨_, _, rfl⟩
  refine wpAny_bind (wpAny_holding (wpAny_call_entry slot_list_sort ⟨_, hoL, rfl⟩ entry_list_sort ?body (args_list_sort _)))
  refine list_sort_vals (κ := dataKind (sortingHeap (h'.push (seqObj "list" (bs.map fun b => Value.ref b.2).toArray 0)) h'.objs.size (bs.map fun b => Value.ref b.2)) (bs.map fun b => n3D b.1)) (s := { s with heap := h'.push (seqObj "list" (bs.map fun b => Value.ref b.2).toArray 0), toks := tk }) hoL ?srt (by rw [List.length_map]; exact hz16) ⟨.none, rfl, ?_⟩
  case srt =>
    refine SortsAt.data (s := { s with heap := sortingHeap (h'.push (seqObj "list" (bs.map fun b => Value.ref b.2).toArray 0)) h'.objs.size (bs.map fun b => Value.ref b.2), toks := tk }) ?e1 aal sal (bound_map fun b hb => ?_)
    case e1 => exact each_n3 er
    have hd : (n3D b.1).depth = 1 := by simp [n3D, PyData.depth, PyData.depthAll]
    rw [hd]
    exact u4 hu
  have eo := sortVals_data (R := R) false eR er aal
  have ev := each_refs (fun v b (h : R v b) => h.1) eo
  have pm := List.mergeSort_perm bs (dataLe false fun b => n3D b.1)
  rw [ev]
  obtain ⟨e', he'⟩ := PyProof.Rows.sortedHeap_at (vs := bs.map fun b => Value.ref b.2) (out := ((bs.mergeSort (dataLe false fun b => n3D b.1)).map fun b => Value.ref b.2).toArray) hoL
  generalize bs.mergeSort (dataLe false fun b => n3D b.1) = cs at pm he' ev eo
  have hlen : (cs.map fun b => V.ref b.2).length ≤ sizeLine := by rw [List.length_map, pm.length_eq]; exact hz16
  refine wpAny_pure ⟨_, rfl, .ref h'.objs.size, upd H h'.objs.size (.lst (cs.map fun b => V.ref b.2)), I1.laid (t' := tk) (fun b u e => ?_) (Nat.le_refl _)
    (show ObjOk X.prog X.w _ _ _ (.lst (cs.map fun b => V.ref b.2)) from ⟨hlen, cs.map fun b => Value.ref b.2, e', vals_bs cs, he'⟩), rfl, q _ cs (I1.hok.fresh (Nat.le_refl _)) (by rw [← hb1]; exact pm.map _) fun b hb => hbm b (pm.mem_iff.mp hb)⟩
  have hb : b < h'.objs.size := Heap.lt_size e
  rw [PyProof.Rows.sortedHeap_old (Nat.ne_of_lt hb) (by rw [size_push']; exact Nat.lt_succ_of_lt hb)]
  exact Heap.get?_push_of_some _ e
end HwB
set_option Elab.async false
set_option linter.all false
set_option maxRecDepth 100000
set_option maxHeartbeats 4000000
namespace Hw
open PySem PySem.Spec L2

/-! ### a dict is locked for a while -/
def Ent.lk (E : Ent) (d : Addr) (o : HO) : Ent := { E with H := fun a => match E.H a with | none => none | some u => if a = d then some o else some u }
theorem Ent.lk_none {E : Ent} {d a : Addr} {o : HO} (h : E.H a = none) : (E.lk d o).H a = none := by show (match E.H a with | none => none | some u => _) = none; rw [h]
theorem Ent.lk_some {E : Ent} {d a : Addr} {o u : HO} (h : (E.lk d o).H a = some u) : ∃ w, E.H a = some w ∧ u = if a = d then o else w := by
  have h' : (match E.H a with | none => none | some w => if a = d then some o else some w) = some u := h
  cases e : E.H a with
  | none => rw [e] at h'; cases h'
  | some w =>
    rw [e] at h'
    refine ⟨w, rfl, ?_⟩
    by_cases ed : a = d
    · rw [if_pos ed]; simp only [if_pos ed] at h'; exact (Option.some.inj h').symm
    · rw [if_neg ed]; simp only [if_neg ed] at h'; exact (Option.some.inj h').symm
theorem Stt.lock {E : Ent} {L : List Rs} {Γ : Ty} {σ : St} {G H : Hp} (T : Stt E L Γ σ G H) {d : Addr} {ks : List (List Key × V)} (hG : G d = some (.dT ks)) (hH : H d = some (.dT ks)) (od : Obj) : Stt (E.lk d (.frz od (.dT ks))) L Γ σ G (upd H d (.frz od (.dT ks))) where
  env := T.env
  len := T.len
  sub := fun a u h => by
    by_cases e : a = d
    · subst e
      rw [hG] at h
      cases h
      exact .inr ⟨True.intro, od, upd_same⟩
    · rw [upd_ne e]; exact T.sub a u h
  live := ⟨T.live.1, fun r hr => by
    obtain ⟨h1, o, h2, h3⟩ := T.live.2 r hr
    have e : r.a ≠ d := fun z => by rw [z, hG] at h1; cases h1
    exact ⟨h1, o, by rw [upd_ne e]; exact h2, h3⟩⟩
  stp := ⟨T.stp.gg, fun a u h hm => by
    obtain ⟨w, h1, h2⟩ := Ent.lk_some h
    by_cases e : a = d
    · subst e; rw [upd_same, h2, if_pos rfl]
    · rw [upd_ne e, h2, if_neg e]; exact T.stp.keep a w h1 hm, fun a u h1 h2 hn => by
    obtain ⟨w, h3, h4⟩ := Ent.lk_some h2
    by_cases e : a = d
    · subst e
      have hm : a ∉ E.L.map Rs.a := fun hm => by
        obtain ⟨r, hr, er⟩ := List.mem_map.mp hm
        have q := (T.live.2 r (T.inh r hr).1).1
        rw [er, hG] at q; cases q
      have q := T.stp.keep a w h3 hm
      rw [hH] at q
      cases q
      exact T.stp.old a _ h1 h3 (fun xs z => nomatch z)
    · rw [if_neg e] at h4; subst h4; exact T.stp.old a _ h1 h3 hn⟩
  inh := T.inh
  loc := fun r hr hb => Ent.lk_none (T.loc r hr hb)
  own := T.own
  nde := T.nde
theorem Nxt.unlock {L : List Rs} {G H G' H' : Hp} {d : Addr} {ks : List (List Key × V)} {od : Obj} (hH : H d = some (.dT ks)) (n : Nxt L G (upd H d (.frz od (.dT ks))) G' H') : Nxt L G H G' (upd H' d (.dT ks)) where
  gg := n.gg
  keep := fun a o h hm => by
    by_cases e : a = d
    · subst e; rw [hH] at h; cases h; exact upd_same
    · rw [upd_ne e]; exact n.keep a o (by rw [upd_ne e]; exact h) hm
  old := fun a o h1 h2 hn => by
    by_cases e : a = d
    · subst e; exact n.old a _ h1 upd_same (fun xs z => nomatch z)
    · exact n.old a o h1 (by rw [upd_ne e]; exact h2) hn
theorem Live.unlock {L : List Rs} {G H : Hp} {d : Addr} {o : HO} (hG : G d ≠ none) (l : Live L G H) : Live L G (upd H d o) := ⟨l.1, fun r hr => by
  obtain ⟨h1, o', h2, h3⟩ := l.2 r hr
  have e : r.a ≠ d := fun z => hG (by rw [← z]; exact h1)
  exact ⟨h1, o', by rw [upd_ne e]; exact h2, h3⟩⟩
theorem Sub.unlock {G H : Hp} {d : Addr} {o : HO} (hG : G d = some o) (s : Sub G H) : Sub G (upd H d o) := fun a u h => by
  by_cases e : a = d
  · subst e; rw [hG] at h; cases h; exact .inl upd_same
  · rw [upd_ne e]; exact s a u h

/-! ### a tuple that H has becomes known -/
theorem adopt_core {G H : Hp} (s : Sub G H) {q : Addr} {xs : List V} (h : H q = some (.tup xs)) : ∃ G', Same G G' ∧ Sub G' H ∧ G' q = some (.tup xs) ∧ (∀ a o, G a = none → H a = some o → NT o → G' a = none) := by
  cases e : G q with
  | some o =>
    rcases s q o e with z | ⟨_, od, z⟩
    · rw [h] at z; cases z; exact ⟨G, Same.refl _, s, e, fun a o h1 _ _ => h1⟩
    · rw [h] at z; cases z
  | none =>
    refine ⟨upd G q (.tup xs), same_new e _, fun a u hu => ?_, upd_same, fun a o h1 h2 hn => ?_⟩
    · by_cases ea : a = q
      · subst ea; rw [upd_same] at hu; cases hu; exact .inl h
      · rw [upd_ne ea] at hu; exact s a u hu
    · have ea : a ≠ q := fun z => by subst z; rw [h] at h2; cases h2; exact hn xs rfl
      rw [upd_ne ea]; exact h1
theorem Stt.adopt {E : Ent} {L : List Rs} {Γ : Ty} {σ : St} {G H : Hp} (T : Stt E L Γ σ G H) {q : Addr} {xs : List V} (h : H q = some (.tup xs)) : ∃ G', Nxt L G H G' H ∧ Stt E L Γ σ G' H ∧ G' q = some (.tup xs) := by
  obtain ⟨G', s1, s2, s3, s4⟩ := adopt_core T.sub h
  have n : Nxt L G H G' H := ⟨s1, fun a o h _ => h, s4⟩
  exact ⟨G', n, T.next n s2 ⟨T.live.1, fun r hr => by
    obtain ⟨h1, o, h2, h3⟩ := T.live.2 r hr
    exact ⟨s4 r.a o h1 h2 (r.φ.nt h3), o, h2, r.φ.mono s1 h3⟩⟩, s3⟩
theorem Dg.ofKey {G : Hp} : ∀ k : Key, Dg G (kV k) (kD k)
  | .inl i => .int i
  | .inr x => .str x
theorem DgA.ofKeys {G : Hp} : ∀ ks : List Key, DgA G (ks.map kV) (ks.map kD)
  | [] => .nil
  | k :: ks => .cons (.ofKey k) (DgA.ofKeys ks)
theorem KvA.get {κ : Type} {G : Hp} : ∀ {ks : List (κ × V)} {kvs : List (κ × PyData)} {i : Nat} {p : κ × V}, KvA G ks kvs → ks[i]? = some p → ∃ d, kvs[i]? = some (p.1, d) ∧ Dg G p.2 d
  | _, _, _, _, .nil, e => by simp at e
  | _, _, 0, _, @Paired.cons _ _ _ a b _ _ r _, e => by
    have e1 := Option.some.inj e
    subst e1
    exact ⟨b.2, by rw [List.getElem?_cons_zero, r.1], r.2⟩
  | _, _, i + 1, p, .cons _ t, e => KvA.get (i := i) (p := p) t e
theorem KvA.vals {κ : Type} {G : Hp} : ∀ {ks : List (κ × V)} {kvs : List (κ × PyData)}, KvA G ks kvs → DgA G (ks.map (·.2)) (kvs.map (·.2))
  | _, _, .nil => .nil
  | _, _, .cons r t => .cons r.2 (KvA.vals t)
theorem KvA.keysEq {κ : Type} {G : Hp} : ∀ {ks : List (κ × V)} {kvs : List (κ × PyData)}, KvA G ks kvs → ks.map (·.1) = kvs.map (·.1)
  | _, _, .nil => rfl
  | _, _, .cons r t => by rw [List.map_cons, List.map_cons, r.1, KvA.keysEq t]

section
variable {F : Fx} {L : List Rs} {Γ : Ty} {e a b c tg iter elt : Expr} {es ts ifs : List Expr} {P Q R : MP} {Ps : List MP} {pos spos p1 p2 px py lp ap cp tp : Pos} {N : List Rs → Ty → Prop} {rest body : List Stmt} {x y : Str} {f : Ty → Ty}
theorem ok_in {X : Cx} (h : Cin F X) {scope : Scope} {own : List (Str × Nat)} (ok : BlkOk F.N F.sc scope own) : BlkOk X.N X.env.scope scope own := by rw [h.N, h.sc]; exact ok
theorem nd_in {X : Cx} (h : Cin F X) : X.N.Nodup := by rw [h.N]; exact h.nd
/-- [elt for tg in iter if ..] -/
theorem ev_lc {α : Type} {xs : List α} {enc : α → PyData} {T : α → Bool → Prop} {P : α → MP} {scope : Scope} (own : List (Str × Nat)) (hi : Itr F L Γ tg iter (xs.map enc)) (hsz : xs.length ≤ 100000)
    (hx : ∀ (i : Nat) (x : α), xs[i]? = some x → ∃ f, Tg (F.blk scope) tg (own.map (·.2)) (D (enc x)) f ∧ Ets (F.blk scope) L (f (wipeT Γ (own.map (·.2)))) ifs (T x) ∧ (T x true → Ev (F.blk scope) L (f (wipeT Γ (own.map (·.2)))) elt (P x)))
    (ok : BlkOk F.N F.sc scope own := by exact blkOk_by (by (try dsimp only); decide +kernel)) (hs : ∀ env x, foldedSetIterable iter env x = pure x := by intro _ _; rfl) : Ev F L Γ (.ListComp elt [⟨tg, iter, ifs, 0⟩] scope pos) (Xp (SelL T P xs) LstP) := fun E σ G H Tt K k => by
  obtain ⟨wi, hpi, hwi⟩ := hi
  refine we_pe (t := tLc wi (WG (F.blk scope) tg) (WTs (F.blk scope) ifs) (WE (F.blk scope) elt) (own.map (·.2))) (fun X hX => pe_lc hX.calm (nd_in hX) (hpi X hX) (ok_in hX ok) (fun s H C cl fp => pg_wg (cin_blk hX s H C cl fp)) (fun s H C cl fp => pts_wts (cin_blk hX s H C cl fp)) (fun s H C cl fp => pe_we (cin_blk hX s H C cl fp)) (hs _)) ?_
  exact lc_read hsz (fun R kk => hwi E σ G H Tt R fun J G' H' n T' W => kk J G' H' _ n T' (fun _ _ z => z.elim) W.toF) hx Tt K k
/-- y = [..] -/
theorem hr_setLc (i : Nat) {α : Type} {xs : List α} {enc : α → PyData} {T : α → Bool → Prop} {P : α → MP} {scope : Scope} (own : List (Str × Nat)) (hi : Itr F L Γ tg iter (xs.map enc)) (hsz : xs.length ≤ 100000)
    (hx : ∀ (i : Nat) (x : α), xs[i]? = some x → ∃ f, Tg (F.blk scope) tg (own.map (·.2)) (D (enc x)) f ∧ Ets (F.blk scope) L (f (wipeT Γ (own.map (·.2)))) ifs (T x) ∧ (T x true → Ev (F.blk scope) L (f (wipeT Γ (own.map (·.2)))) elt (P x)))
    (k : Hr F L (Γ.set i (some (Xp (SelL T P xs) LstP))) rest N R)
    (ok : BlkOk F.N F.sc scope own := by exact blkOk_by (by (try dsimp only); decide +kernel)) (hN : F.N[i]? = some y := by rfl) (hy : F.sc.names.lookup y = some .local := by rfl) (hk : F.sc.kind = .function := by rfl) (hl : (py.line == pos.line) = true := by rfl)
    (ha : (scope.names.any fun (n, k) => n == y && (k == .local || k == .cell)) = false := by decide +kernel) (hs : ∀ env x, foldedSetIterable iter env x = pure x := by intro _ _; rfl) :
    Hr F L Γ (.Assign [.Name y py] (.ListComp elt [⟨tg, iter, ifs, 0⟩] scope pos) spos :: rest) N R := fun E σ G H Tt D k1 k2 => by
  obtain ⟨wi, hpi, hwi⟩ := hi
  refine ws_cons (w1_ps (t := tAsg (tLc wi (WG (F.blk scope) tg) (WTs (F.blk scope) ifs) (WE (F.blk scope) elt) (own.map (·.2))) (gName i)) (fun X hX => ps_setLc hX.calm (nd_in hX) (by rw [hX.N]; exact hN) (by rw [hX.sc]; exact hy) (sw_true (by rw [hX.sc]; exact hk) (by rw [hX.sc]; exact hy) hl ha) (hpi X hX) (ok_in hX ok) (fun s H C cl fp => pg_wg (cin_blk hX s H C cl fp)) (fun s H C cl fp => pts_wts (cin_blk hX s H C cl fp)) (fun s H C cl fp => pe_we (cin_blk hX s H C cl fp)) (hs _)) ?_)
  exact lc_read hsz (fun R kk => hwi E σ G H Tt R fun J G' H' n T' W => kk J G' H' _ n T' (fun _ _ z => z.elim) W.toF) hx Tt _ fun v G' H' n T' p => k E _ G' H' (T'.set i p) D k1 k2
def itemD (p : List Key × PyData) : PyData := .tuple [.tuple (p.1.map kD), p.2]
theorem wkf_items {G : Hp} {d : Addr} {od : Obj} {ks : List (List Key × V)} {kvs : List (List Key × PyData)} (h : KvA G ks kvs) : WkF (HwB.Itit d od ks) (kvs.map itemD) G (fun a o => a = d ∧ o = .frz od (.dT ks)) where
  goes := fun i G1 H1 s sb hf hi => ⟨hf d _ ⟨rfl, rfl⟩, by rw [h.length]; rw [List.length_map] at hi; exact hi⟩
  stops := fun G1 H1 s sb hf => ⟨hf d _ ⟨rfl, rfl⟩, by rw [h.length, List.length_map]; exact Nat.le_refl _⟩
  yields := fun i G1 H1 x H2 s sb hf y dd hd => by
    obtain ⟨t, k, v, q, e1, rfl, e3, e4, rfl⟩ := y
    obtain ⟨dv, e5, e6⟩ := KvA.get h e1
    rw [List.getElem?_map, e5] at hd
    have e7 : dd = itemD (k, dv) := (Option.some.inj hd).symm
    subst e7
    obtain ⟨G2, s1, s2, s3, s4⟩ := adopt_core sb e4
    have hT : G2 t = none := s2.free e3
    have sg := same_new hT (HO.tup [.ref q, v])
    refine ⟨upd G2 t (.tup [.ref q, v]), s1.trans sg, s2.new e3 _, fun a u h => by rw [upd_ne (ne_of_none h e3)]; exact h, fun a u h1 h2 hn => by rw [upd_ne (ne_of_none h2 e3)]; exact s4 a u h1 h2 hn, ?_⟩
    exact .tup upd_same (.cons (.tup (sg _ _ s3) (DgA.ofKeys k)) (.cons (Dg.mono ((s.trans s1).trans sg) _ _ e6) .nil))
/-- [elt for k, v in d.items() if ..], d known, its keys tuples -/
theorem ev_lcItems (j : Nat) {kvs : List (List Key × PyData)} {T : List Key × PyData → Bool → Prop} {P : List Key × PyData → MP} {scope : Scope} {elts : List Expr} {kk : Nat} (own : List (Str × Nat)) (hi : Γ[j]? = some (some (DTP kvs))) (hsz : kvs.length ≤ 100000)
    (hx : ∀ (i : Nat) (x : List Key × PyData), kvs[i]? = some x → ∃ f, Tg (F.blk scope) (.Tuple elts kk tp) (own.map (·.2)) (D (itemD x)) f ∧ Ets (F.blk scope) L (f (wipeT Γ (own.map (·.2)))) ifs (T x) ∧ (T x true → Ev (F.blk scope) L (f (wipeT Γ (own.map (·.2)))) elt (P x)))
    (ok : BlkOk F.N F.sc scope own := by exact blkOk_by (by (try dsimp only); decide +kernel)) (hN : F.N[j]? = some x := by rfl) (hv : Vis F.sc x := by first | exact Or.inl rfl | exact Or.inr (Or.inl rfl) | exact Or.inr (Or.inr rfl)) (hd : (x == ("__debug__" : Str)) = false := by decide) (hcd : (x == ("__classdict__" : Str)) = false := by decide)
    (hbase : ∀ env, attributeBase (.Name x px) "items" env (eval (.Name x px) env) = eval (.Name x px) env := by intro _; rfl) (hline : (ap.endLine == cp.line) = true := by rfl)
    (hs : ∀ env v, foldedSetIterable (.Call (.Attribute (.Name x px) "items" ap) [] [] cp) env v = pure v := by intro _ _; rfl) :
    Ev F L Γ (.ListComp elt [⟨.Tuple elts kk tp, .Call (.Attribute (.Name x px) "items" ap) [] [] cp, ifs, 0⟩] scope pos) (Xp (SelL T P kvs) LstP) := fun E σ G H Tt K k => by
  obtain ⟨v, hv', d, ks, rfl, hG, hk⟩ := Tt.get hi
  have pe : ∀ X, Cin F X → PE X (.ListComp elt [⟨.Tuple elts kk tp, .Call (.Attribute (.Name x px) "items" ap) [] [] cp, ifs, 0⟩] scope pos) (tLc (HwB.iItemsT (tVar j)) (WG (F.blk scope) (.Tuple elts kk tp)) (WTs (F.blk scope) ifs) (WE (F.blk scope) elt) (own.map (·.2))) := fun X hX =>
    pe_lc hX.calm (nd_in hX) (HwB.pi_itemsT (pe_var (by rw [hX.N]; exact hN) (hX.vis hv) hd hcd) (hbase _) hline) (ok_in hX ok) (fun s H C cl fp => pg_wg (cin_blk hX s H C cl fp)) (fun s H C cl fp => pts_wts (cin_blk hX s H C cl fp)) (fun s H C cl fp => pe_we (cin_blk hX s H C cl fp)) (hs _)
  rcases Tt.sub d _ hG with hH | ⟨_, od, hH⟩
  · refine we_pe (fun X hX => pe_lock (pe X hX)) ⟨d, .dT ks, hH, True.intro, fun od => ?_⟩
    have Tl := Tt.lock hG hH od
    refine lc_read hsz (fun R kk => ⟨.ref d, hv', d, od, ks, rfl, upd_same, kk _ G _ _ .refl Tl (fun a o ⟨h1, h2⟩ => ?_) (wkf_items hk)⟩) hx Tl _ fun v G' H' n T' p => ?_
    · have hdL : d ∉ L.map Rs.a := fun hm => by
        obtain ⟨r, hr, er⟩ := List.mem_map.mp hm
        have q := (Tt.live.2 r hr).1
        rw [er, hG] at q; cases q
      have n' := Nxt.unlock hH n
      have hG' : G' d = some (.dT ks) := n.gg _ _ hG
      exact ⟨n.keep d _ upd_same hdL, k v G' _ n' (Tt.next n' (T'.sub.unlock hG') (T'.live.unlock (by rw [hG']; exact fun z => nomatch z))) p⟩
    · subst h1 h2
      refine ⟨upd_same, fun hm => ?_⟩
      obtain ⟨r, hr, er⟩ := List.mem_map.mp hm
      have q := (Tt.live.2 r hr).1
      rw [er, hG] at q; cases q
  · refine we_pe pe ?_
    refine lc_read hsz (fun R kk => ⟨.ref d, hv', d, od, ks, rfl, hH, kk _ G _ _ .refl Tt (fun a o ⟨h1, h2⟩ => ?_) (wkf_items hk)⟩) hx Tt _ k
    subst h1 h2
    refine ⟨hH, fun hm => ?_⟩
    obtain ⟨r, hr, er⟩ := List.mem_map.mp hm
    have q := (Tt.live.2 r hr).1
    rw [er, hG] at q; cases q
/-- y = [elt for k, v in d.items() if ..] -/
theorem hr_setLcItems (iy j : Nat) {kvs : List (List Key × PyData)} {T : List Key × PyData → Bool → Prop} {P : List Key × PyData → MP} {scope : Scope} {elts : List Expr} {kk : Nat} (own : List (Str × Nat)) (hi : Γ[j]? = some (some (DTP kvs))) (hsz : kvs.length ≤ 100000)
    (hx : ∀ (i : Nat) (x : List Key × PyData), kvs[i]? = some x → ∃ f, Tg (F.blk scope) (.Tuple elts kk tp) (own.map (·.2)) (D (itemD x)) f ∧ Ets (F.blk scope) L (f (wipeT Γ (own.map (·.2)))) ifs (T x) ∧ (T x true → Ev (F.blk scope) L (f (wipeT Γ (own.map (·.2)))) elt (P x)))
    (k : Hr F L (Γ.set iy (some (Xp (SelL T P kvs) LstP))) rest N R)
    (ok : BlkOk F.N F.sc scope own := by exact blkOk_by (by (try dsimp only); decide +kernel)) (hN : F.N[j]? = some x := by rfl) (hv : Vis F.sc x := by first | exact Or.inl rfl | exact Or.inr (Or.inl rfl) | exact Or.inr (Or.inr rfl)) (hd : (x == ("__debug__" : Str)) = false := by decide) (hcd : (x == ("__classdict__" : Str)) = false := by decide)
    (hbase : ∀ env, attributeBase (.Name x px) "items" env (eval (.Name x px) env) = eval (.Name x px) env := by intro _; rfl) (hline : (ap.endLine == cp.line) = true := by rfl)
    (hNy : F.N[iy]? = some y := by rfl) (hy : F.sc.names.lookup y = some .local := by rfl) (hk : F.sc.kind = .function := by rfl) (hl : (py.line == pos.line) = true := by rfl)
    (ha : (scope.names.any fun (n, k) => n == y && (k == .local || k == .cell)) = false := by decide +kernel)
    (hs : ∀ env v, foldedSetIterable (.Call (.Attribute (.Name x px) "items" ap) [] [] cp) env v = pure v := by intro _ _; rfl) :
    Hr F L Γ (.Assign [.Name y py] (.ListComp elt [⟨.Tuple elts kk tp, .Call (.Attribute (.Name x px) "items" ap) [] [] cp, ifs, 0⟩] scope pos) spos :: rest) N R := fun E σ G H Tt D k1 k2 => by
  obtain ⟨v, hv', d, ks, rfl, hG, hk'⟩ := Tt.get hi
  have ps : ∀ X, Cin F X → PS X (.Assign [.Name y py] (.ListComp elt [⟨.Tuple elts kk tp, .Call (.Attribute (.Name x px) "items" ap) [] [] cp, ifs, 0⟩] scope pos) spos) (tAsg (tLc (HwB.iItemsT (tVar j)) (WG (F.blk scope) (.Tuple elts kk tp)) (WTs (F.blk scope) ifs) (WE (F.blk scope) elt) (own.map (·.2))) (gName iy)) := fun X hX =>
    ps_setLc hX.calm (nd_in hX) (by rw [hX.N]; exact hNy) (by rw [hX.sc]; exact hy) (sw_true (by rw [hX.sc]; exact hk) (by rw [hX.sc]; exact hy) hl ha) (HwB.pi_itemsT (pe_var (by rw [hX.N]; exact hN) (hX.vis hv) hd hcd) (hbase _) hline) (ok_in hX ok) (fun s H C cl fp => pg_wg (cin_blk hX s H C cl fp)) (fun s H C cl fp => pts_wts (cin_blk hX s H C cl fp)) (fun s H C cl fp => pe_we (cin_blk hX s H C cl fp)) (hs _)
  rcases Tt.sub d _ hG with hH | ⟨_, od, hH⟩
  · refine ws_cons (w1_ps (fun X hX => ps_lock (ps X hX)) ⟨d, .dT ks, hH, True.intro, fun od => ?_⟩)
    have Tl := Tt.lock hG hH od
    refine lc_read hsz (fun R kk => ⟨.ref d, hv', d, od, ks, rfl, upd_same, kk _ G _ _ .refl Tl (fun a o ⟨h1, h2⟩ => ?_) (wkf_items hk')⟩) hx Tl _ fun v G' H' n T' p => ?_
    · have hdL : d ∉ L.map Rs.a := fun hm => by
        obtain ⟨r, hr, er⟩ := List.mem_map.mp hm
        have q := (Tt.live.2 r hr).1
        rw [er, hG] at q; cases q
      have n' := Nxt.unlock hH n
      have hG' : G' d = some (.dT ks) := n.gg _ _ hG
      exact ⟨n.keep d _ upd_same hdL, k E _ G' _ ((Tt.next n' (T'.sub.unlock hG') (T'.live.unlock (by rw [hG']; exact fun z => nomatch z))).set iy p) D k1 k2⟩
    · subst h1 h2
      refine ⟨upd_same, fun hm => ?_⟩
      obtain ⟨r, hr, er⟩ := List.mem_map.mp hm
      have q := (Tt.live.2 r hr).1
      rw [er, hG] at q; cases q
  · refine ws_cons (w1_ps ps ?_)
    refine lc_read hsz (fun R kk => ⟨.ref d, hv', d, od, ks, rfl, hH, kk _ G _ _ .refl Tt (fun a o ⟨h1, h2⟩ => ?_) (wkf_items hk')⟩) hx Tt _ fun v G' H' n T' p => k E _ G' H' (T'.set iy p) D k1 k2
    subst h1 h2
    refine ⟨hH, fun hm => ?_⟩
    obtain ⟨r, hr, er⟩ := List.mem_map.mp hm
    have q := (Tt.live.2 r hr).1
    rw [er, hG] at q; cases q
end
end Hw
set_option Elab.async false
set_option linter.all false
set_option maxRecDepth 100000
set_option maxHeartbeats 4000000
namespace Hw
open PySem PySem.Spec L2

theorem cls8 {F : Fx} {X : Cx} (h : Cin F X) : X.calm = true := h.calm
def mergeD {κ : Type} [DecidableEq κ] (kvs more : List (κ × PyData)) : List (κ × PyData) := more.foldl (fun acc kv => putD acc kv.1 kv.2) kvs
theorem KvA.mergeK {G : Hp} : ∀ {more : List (Key × V)} {moreD : List (Key × PyData)} {ks : List (Key × V)} {kvs : List (Key × PyData)}, KvA G more moreD → KvA G ks kvs → KvA G (L2.mergeK ks more) (mergeD kvs moreD)
  | _, _, _, _, .nil, q => q
  | _, _, ks, kvs, @Paired.cons _ _ _ p q ps qs r t, h => by
    have h1 : KvA G (putK ks p.1 p.2) (putD kvs q.1 q.2) := by rw [← r.1]; exact h.put r.2
    exact KvA.mergeK (more := ps) (moreD := qs) t h1
theorem KvA.mergeT {G : Hp} : ∀ {more : List (List Key × V)} {moreD : List (List Key × PyData)} {ks : List (List Key × V)} {kvs : List (List Key × PyData)}, KvA G more moreD → KvA G ks kvs → KvA G (HwB.mergeT ks more) (mergeD kvs moreD)
  | _, _, _, _, .nil, q => q
  | _, _, ks, kvs, @Paired.cons _ _ _ p q ps qs r t, h => by
    have h1 : KvA G (putK ks p.1 p.2) (putD kvs q.1 q.2) := by rw [← r.1]; exact h.put r.2
    exact KvA.mergeT (more := ps) (moreD := qs) t h1
/-- pairs as tuples -/
theorem pairsK_at {K : PySem.W.Frag} {G H : Hp} (s : Sub G H) : ∀ {xs : List V} {kvs : List (Key × PyData)}, DgA G xs (kvs.map fun p => PyData.tuple [kD p.1, p.2]) → ∃ (ps : List Addr) (ks : List (Key × V)), xs = ps.map V.ref ∧ Paired (fun p kv => SqT K H p [kV kv.1, kv.2]) ps ks ∧ KvA G ks kvs
  | _, [], h => by cases h; exact ⟨[], [], rfl, .nil, .nil⟩
  | _, p :: kvs, h => by
    cases h with
    | cons h1 h2 =>
      obtain ⟨ps, ks, e1, e2, e3⟩ := pairsK_at (K := K) s h2
      obtain ⟨a, ys, rfl, e4, e5⟩ := h1.tup_of
      cases e5 with
      | cons r1 t1 => cases t1 with
        | cons r2 t2 =>
          cases t2
          have ek := r1.key
          subst ek e1
          exact ⟨a :: ps, (p.1, _) :: ks, rfl, .cons (SqT.of (s.tup e4)) e2, .cons ⟨rfl, r2⟩ e3⟩
theorem pairsT_at {K : PySem.W.Frag} {G H : Hp} (s : Sub G H) : ∀ {xs : List V} {kvs : List (List Key × PyData)}, DgA G xs (kvs.map itemD) → ∃ (ps : List Addr) (ks : List (List Key × V)), xs = ps.map V.ref ∧ Paired (fun p kv => ∃ b, SqT K H p [.ref b, kv.2] ∧ H b = some (.tup (kv.1.map kV))) ps ks ∧ KvA G ks kvs
  | _, [], h => by cases h; exact ⟨[], [], rfl, .nil, .nil⟩
  | _, p :: kvs, h => by
    cases h with
    | cons h1 h2 =>
      obtain ⟨ps, ks, e1, e2, e3⟩ := pairsT_at (K := K) s h2
      obtain ⟨a, ys, rfl, e4, e5⟩ := Dg.tup_of (ds := [.tuple (p.1.map kD), p.2]) h1
      cases e5 with
      | cons r1 t1 => cases t1 with
        | cons r2 t2 =>
          cases t2
          obtain ⟨b, zs, rfl, e6, e7⟩ := r1.tup_of
          have ek := e7.keys
          subst ek e1
          exact ⟨a :: ps, (p.1, _) :: ks, rfl, .cons ⟨b, SqT.of (s.tup e4), s.tup e6⟩ e2, .cons ⟨rfl, r2⟩ e3⟩
section
variable {F : Fx} {L : List Rs} {Γ : Ty} {e a b c tg iter elt : Expr} {es ts ifs : List Expr} {P Q R : MP} {Ps : List MP} {pos spos p1 p2 px py lp ap cp tp : Pos} {N : List Rs → Ty → Prop} {rest body : List Stmt} {x y : Str} {f : Ty → Ty}
/-- dict([(k, v), ..]) -/
theorem ev_dictK {kvs : List (Key × PyData)} (hm : F.mg "dict" = none) (ha : Ev F L Γ a (D (.list (kvs.map fun p => .tuple [kD p.1, p.2])))) (hg : F.sc.names.lookup ("dict" : Str) = some .globalImplicit := by rfl) (he : ∀ env, starEach [a] env = (false, eval a env) :: starEach [] env := by intro _; rfl) : Ev F L Γ (.Call (.Name "dict" p1) [a] [] pos) (DKP (mergeD [] kvs)) :=
  ev_callTy (fun X hX => by have := @call_dictP X hX.calm; rw [hX.K] at this; exact this) hm (ea1 ha he) (fun E Γ σ G H T vs q K k => by
    obtain ⟨v, rfl, p⟩ := psa1 q
    obtain ⟨x, xs, rfl, h1, q1⟩ := p.lst_of
    obtain ⟨ps, ks, rfl, h2, h3⟩ := pairsK_at (K := F.K) T.sub q1
    exact ⟨x, ps, ks, rfl, SqL.of (T.sub.lst h1), h2, fun p hp => k _ _ _ (.new T.sub hp _) (T.new hp _) ⟨p, _, rfl, upd_same, ((KvA.mergeK h3 .nil).mono (same_new (T.sub.free hp) _))⟩⟩) PyProof.Rows.boot_dict hg (by decide) (by decide) he (by intro _; rfl)
theorem ev_dictT {kvs : List (List Key × PyData)} (hm : F.mg "dict" = none) (ha : Ev F L Γ a (D (.list (kvs.map itemD)))) (hg : F.sc.names.lookup ("dict" : Str) = some .globalImplicit := by rfl) (he : ∀ env, starEach [a] env = (false, eval a env) :: starEach [] env := by intro _; rfl) : Ev F L Γ (.Call (.Name "dict" p1) [a] [] pos) (DTP (mergeD [] kvs)) :=
  ev_callTy (fun X hX => by have := @HwB.call_dictPT X hX.calm (by have := hX.hu64; omega); rw [hX.K] at this; exact this) hm (ea1 ha he) (fun E Γ σ G H T vs q K k => by
    obtain ⟨v, rfl, p⟩ := psa1 q
    obtain ⟨x, xs, rfl, h1, q1⟩ := p.lst_of
    obtain ⟨ps, ks, rfl, h2, h3⟩ := pairsT_at (K := F.K) T.sub q1
    exact ⟨x, ps, ks, rfl, SqL.of (T.sub.lst h1), h2, fun p hp => k _ _ _ (.new T.sub hp _) (T.new hp _) ⟨p, _, rfl, upd_same, ((KvA.mergeT h3 .nil).mono (same_new (T.sub.free hp) _))⟩⟩) PyProof.Rows.boot_dict hg (by decide) (by decide) he (by intro _; rfl)
/-- sorted(d) -/
theorem ev_sortedS {kvs : List (Key × PyData)} {ks : List Str} (hm : F.mg "sorted" = none) (ha : Ev F L Γ a P) (hd : IsDK L P kvs) (hk : kvs.map (·.1) = ks.map Sum.inr) (h64 : ks.length < 64) (hg : F.sc.names.lookup ("sorted" : Str) = some .globalImplicit := by rfl) (he : ∀ env, starEach [a] env = (false, eval a env) :: starEach [] env := by intro _; rfl) :
    Ev F L Γ (.Call (.Name "sorted" p1) [a] [] pos) (Xp (fun ys : List Str => ys.Perm ks) fun ys => D (.list (ys.map .str))) :=
  ev_callB (fun X hX => call_sortedD hX.calm) hm (ea1 ha he) (fun E Γ σ G H T vs q K k => by
    obtain ⟨v, rfl, p⟩ := psa1 q
    obtain ⟨d, ws, rfl, h1, h2⟩ := hd E Γ σ G H v T p
    exact ⟨d, ws, ks, rfl, h1, h2.keysEq.trans hk, h64, fun ys p hp _ hpn => k _ _ _ (.new T.sub hpn _) (T.new hpn _) ⟨ys, hp, .lst upd_same (DgA.of_strs ys)⟩⟩) PyProof.Rows.boot_sorted hg (by decide) (by decide) he (by intro _; rfl)
theorem ev_sortedI {kvs : List (Key × PyData)} {ks : List Int} (hm : F.mg "sorted" = none) (ha : Ev F L Γ a P) (hd : IsDK L P kvs) (hk : kvs.map (·.1) = ks.map Sum.inl) (h64 : ks.length < 64) (hg : F.sc.names.lookup ("sorted" : Str) = some .globalImplicit := by rfl) (he : ∀ env, starEach [a] env = (false, eval a env) :: starEach [] env := by intro _; rfl) :
    Ev F L Γ (.Call (.Name "sorted" p1) [a] [] pos) (Xp (fun ys : List Int => ys.Perm ks) fun ys => D (.list (ys.map .int))) :=
  ev_callB (fun X hX => call_sortedDI hX.calm) hm (ea1 ha he) (fun E Γ σ G H T vs q K k => by
    obtain ⟨v, rfl, p⟩ := psa1 q
    obtain ⟨d, ws, rfl, h1, h2⟩ := hd E Γ σ G H v T p
    exact ⟨d, ws, ks, rfl, h1, h2.keysEq.trans hk, h64, fun ys p hp _ hpn => k _ _ _ (.new T.sub hpn _) (T.new hpn _) ⟨ys, hp, .lst upd_same (DgA.of_ints ys)⟩⟩) PyProof.Rows.boot_sorted hg (by decide) (by decide) he (by intro _; rfl)
theorem adopt_all {E : Ent} {L : List Rs} {Γ : Ty} {σ : St} {H : Hp} : ∀ {G : Hp} (bs : List (HwB.N3 × Addr)), Stt E L Γ σ G H → (∀ b ∈ bs, H b.2 = some (.tup ((HwB.n3K b.1).map kV))) → ∃ G', Nxt L G H G' H ∧ Stt E L Γ σ G' H ∧ DgA G' (bs.map fun b => V.ref b.2) ((bs.map (·.1)).map HwB.n3D)
  | G, [], T, _ => ⟨G, .refl, T, .nil⟩
  | G, b :: bs, T, h => by
    obtain ⟨G1, n1, T1, h1⟩ := T.adopt (h b List.mem_cons_self)
    obtain ⟨G2, n2, T2, h2⟩ := adopt_all bs T1 fun b hb => h b (List.mem_cons_of_mem _ hb)
    exact ⟨G2, n1.trans T.live T1.live n2, T2, .cons (.tup (n2.gg _ _ h1) (.cons (.str _) (.cons (.str _) (.cons (.int _) .nil)))) h2⟩
theorem ev_sortedT {kvs : List (List Key × PyData)} {ks : List HwB.N3} (hm : F.mg "sorted" = none) (ha : Ev F L Γ a P) (hd : IsDT L P kvs) (hk : kvs.map (·.1) = ks.map HwB.n3K) (hg : F.sc.names.lookup ("sorted" : Str) = some .globalImplicit := by rfl) (he : ∀ env, starEach [a] env = (false, eval a env) :: starEach [] env := by intro _; rfl) :
    Ev F L Γ (.Call (.Name "sorted" p1) [a] [] pos) (Xp (fun ys : List HwB.N3 => ys.Perm ks) fun ys => D (.list (ys.map HwB.n3D))) :=
  ev_callB (fun X hX => HwB.call_sortedDT hX.calm hX.hu64) hm (ea1 ha he) (fun E Γ σ G H T vs q K k => by
    obtain ⟨v, rfl, p⟩ := psa1 q
    obtain ⟨d, ws, rfl, h1, h2⟩ := hd E Γ σ G H v T p
    refine ⟨d, ws, ks, rfl, h1, h2.keysEq.trans hk, fun p bs hpn hp hb => ?_⟩
    obtain ⟨G1, n1, T1, h3⟩ := adopt_all bs T hb
    exact k _ _ _ (n1.trans T.live T1.live (.new T1.sub hpn _)) (T1.new hpn _) ⟨_, hp, .lst upd_same (DgA.mono (same_new (T1.sub.free hpn) _) _ _ h3)⟩) PyProof.Rows.boot_sorted hg (by decide) (by decide) he (by intro _; rfl)
/-- max(xs), min(xs), any(xs) -/
theorem ev_maxL {ns : List Int} {m : Int} (hm : F.mg "max" = none) (ha : Ev F L Γ a (D (.list (ns.map .int)))) (h1 : m ∈ ns) (h2 : ∀ y ∈ ns, y ≤ m) (hg : F.sc.names.lookup ("max" : Str) = some .globalImplicit := by rfl) (he : ∀ env, starEach [a] env = (false, eval a env) :: starEach [] env := by intro _; rfl) :
    Ev F L Γ (.Call (.Name "max" p1) [a] [] pos) (D (.int m)) :=
  ev_callB (fun X hX => by have := @cr_max X hX.calm; rw [hX.K] at this; exact this) hm (ea1 ha he) (fun E Γ σ G H T vs q K k => by
    obtain ⟨v, rfl, p⟩ := psa1 q
    obtain ⟨x, xs, rfl, g1, q1⟩ := p.lst_of
    have ei := q1.ints
    subst ei
    refine ⟨x, ns, rfl, SqL.of (T.sub.lst g1), List.length_pos_of_mem h1, fun m' hm' hy => ?_⟩
    have e : m' = m := Int.le_antisymm (h2 m' hm') (hy m h1)
    subst e
    exact k _ G H .refl T (.int _)) PyProof.Rows.boot_max hg (by decide) (by decide) he (by intro _; rfl)
theorem ev_minL {ns : List Int} {m : Int} (hm : F.mg "min" = none) (ha : Ev F L Γ a (D (.list (ns.map .int)))) (h1 : m ∈ ns) (h2 : ∀ y ∈ ns, m ≤ y) (hg : F.sc.names.lookup ("min" : Str) = some .globalImplicit := by rfl) (he : ∀ env, starEach [a] env = (false, eval a env) :: starEach [] env := by intro _; rfl) :
    Ev F L Γ (.Call (.Name "min" p1) [a] [] pos) (D (.int m)) :=
  ev_callB (fun X hX => by have := @cr_min X hX.calm; rw [hX.K] at this; exact this) hm (ea1 ha he) (fun E Γ σ G H T vs q K k => by
    obtain ⟨v, rfl, p⟩ := psa1 q
    obtain ⟨x, xs, rfl, g1, q1⟩ := p.lst_of
    have ei := q1.ints
    subst ei
    refine ⟨x, ns, rfl, SqL.of (T.sub.lst g1), List.length_pos_of_mem h1, fun m' hm' hy => ?_⟩
    have e : m' = m := Int.le_antisymm (hy m h1) (h2 m' hm')
    subst e
    exact k _ G H .refl T (.int _)) PyProof.Rows.boot_min hg (by decide) (by decide) he (by intro _; rfl)
theorem ev_anyL {bs : List Bool} (hm : F.mg "any" = none) (ha : Ev F L Γ a (D (.list (bs.map .bool)))) (hg : F.sc.names.lookup ("any" : Str) = some .globalImplicit := by rfl) (he : ∀ env, starEach [a] env = (false, eval a env) :: starEach [] env := by intro _; rfl) :
    Ev F L Γ (.Call (.Name "any" p1) [a] [] pos) (D (.bool (bs.any id))) :=
  ev_callB (fun X hX => by have := @cr_any X hX.calm; rw [hX.K] at this; exact this) hm (ea1 ha he) (fun E Γ σ G H T vs q K k => by
    obtain ⟨v, rfl, p⟩ := psa1 q
    obtain ⟨x, xs, rfl, g1, q1⟩ := p.lst_of
    have ei := q1.bls
    subst ei
    exact ⟨x, bs, rfl, SqL.of (T.sub.lst g1), k _ G H .refl T (.bl _)⟩) PyProof.Rows.boot_any hg (by decide) (by decide) he (by intro _; rfl)
theorem ev_max2 {i j : Int} (hm : F.mg "max" = none) (ha : Ev F L Γ a (D (.int i))) (hb : Ev F L Γ b (D (.int j))) (hg : F.sc.names.lookup ("max" : Str) = some .globalImplicit := by rfl) (hs : ∀ env, starEach [a, b] env = (false, eval a env) :: starEach [b] env := by intro _; rfl) (hs2 : ∀ env, starEach [b] env = (false, eval b env) :: starEach [] env := by intro _; rfl) (hpl : ∀ env, (backTo pos (starEach [b] env)).any (·.1) = false := by intro _; rfl) :
    Ev F L Γ (.Call (.Name "max" p1) [a, b] [] pos) (D (.int (max i j))) :=
  ev_callB (fun X hX => call_max2 hX.calm) hm (ea2 ha hb hs hs2) (fun E Γ σ G H T vs q K k => by
    obtain ⟨v, w, rfl, p1, p2⟩ := psa2 q
    rw [p1.int_eq, p2.int_eq]
    refine ⟨i, j, rfl, ?_⟩
    have e : (if j > i then j else i) = max i j := by split <;> omega
    rw [e]
    exact k _ G H .refl T (.int _)) PyProof.Rows.boot_max hg (by decide) (by decide) hs hpl
theorem ev_min2 {i j : Int} (hm : F.mg "min" = none) (ha : Ev F L Γ a (D (.int i))) (hb : Ev F L Γ b (D (.int j))) (hg : F.sc.names.lookup ("min" : Str) = some .globalImplicit := by rfl) (hs : ∀ env, starEach [a, b] env = (false, eval a env) :: starEach [b] env := by intro _; rfl) (hs2 : ∀ env, starEach [b] env = (false, eval b env) :: starEach [] env := by intro _; rfl) (hpl : ∀ env, (backTo pos (starEach [b] env)).any (·.1) = false := by intro _; rfl) :
    Ev F L Γ (.Call (.Name "min" p1) [a, b] [] pos) (D (.int (min i j))) :=
  ev_callB (fun X hX => call_min2 hX.calm) hm (ea2 ha hb hs hs2) (fun E Γ σ G H T vs q K k => by
    obtain ⟨v, w, rfl, p1, p2⟩ := psa2 q
    rw [p1.int_eq, p2.int_eq]
    refine ⟨i, j, rfl, ?_⟩
    have e : (if j < i then j else i) = min i j := by split <;> omega
    rw [e]
    exact k _ G H .refl T (.int _)) PyProof.Rows.boot_min hg (by decide) (by decide) hs hpl
/-- int(a truth), tuple(a list) -/
theorem ev_intB {b : Bool} (hm : F.mg "int" = none) (ha : Ev F L Γ a (D (.bool b))) (hg : F.sc.names.lookup ("int" : Str) = some .globalImplicit := by rfl) (he : ∀ env, starEach [a] env = (false, eval a env) :: starEach [] env := by intro _; rfl) :
    Ev F L Γ (.Call (.Name "int" p1) [a] [] pos) (D (.int (if b then 1 else 0))) :=
  ev_callTy (fun X hX => call_int1) hm (ea1 ha he) (fun E Γ σ G H T vs q K k => by
    obtain ⟨v, rfl, p⟩ := psa1 q
    rw [p.bl_eq]
    exact .inr ⟨b, rfl, k _ G H .refl T (.int _)⟩) PyProof.Rows.boot_int hg (by decide) (by decide) he (by intro _; rfl)
theorem ev_tupOf {ds : List PyData} (hm : F.mg "tuple" = none) (ha : Ev F L Γ a (D (.list ds))) (hg : F.sc.names.lookup ("tuple" : Str) = some .globalImplicit := by rfl) (he : ∀ env, starEach [a] env = (false, eval a env) :: starEach [] env := by intro _; rfl) :
    Ev F L Γ (.Call (.Name "tuple" p1) [a] [] pos) (D (.tuple ds)) :=
  ev_callTy (fun X hX => by have := @call_tuple_of X; rw [hX.K] at this; exact this) hm (ea1 ha he) (fun E Γ σ G H T vs q K k => by
    obtain ⟨v, rfl, p⟩ := psa1 q
    obtain ⟨x, xs, rfl, g1, q1⟩ := p.lst_of
    exact ⟨x, xs, rfl, .inl ⟨SqL.of (T.sub.lst g1), fun p hp => k _ _ _ (.new T.sub hp _) (T.new hp _) (.tup upd_same (DgA.mono (same_new (T.sub.free hp) _) _ _ q1))⟩⟩) PyProof.Rows.boot_tuple hg (by decide) (by decide) he (by intro _; rfl)
/-- list(range(n)) -/
theorem ev_listRg {n : Nat} (hm : F.mg "list" = none) (hm2 : F.mg "range" = none) (ha : Ev F L Γ a (D (.int (n : Nat)))) (hn : n ≤ 100000) (hg : F.sc.names.lookup ("list" : Str) = some .globalImplicit := by rfl) (hg2 : F.sc.names.lookup ("range" : Str) = some .globalImplicit := by rfl) (he : ∀ env, starEach [a] env = (false, eval a env) :: starEach [] env := by intro _; rfl)
    (he2 : ∀ env, starEach [.Call (.Name "range" p2) [a] [] spos] env = (false, eval (.Call (.Name "range" p2) [a] [] spos) env) :: starEach [] env := by intro _; rfl) : Ev F L Γ (.Call (.Name "list" p1) [.Call (.Name "range" p2) [a] [] spos] [] pos) (D (.list (rgD n))) := fun E σ G H T K k => by
  refine we_pe (t := tLstRg (tRg1 (WE F a))) (fun X hX => pe_listRg hX.calm (hX.gl hg) (by rw [hX.mg]; exact hm) (prg_1 (hX.gl hg2) (by rw [hX.mg]; exact hm2) (pe_we hX) (he _)) (he2 _)) ?_
  refine ha E σ G H T _ fun v G1 H1 n1 T1 p1 => ⟨n, p1.int_eq, RgOk.of_le (by omega) (by omega) (by omega) (by omega), fun p hp => ?_⟩
  refine k _ _ _ (n1.trans T.live T1.live (.new T1.sub hp _)) (T1.new hp _) (.lst upd_same ?_)
  have e1 : rgV 0 (n : Int) = ((List.range n).map fun i : Nat => (i : Int)).map V.int := by
    unfold rgV
    rw [List.map_map, Int.sub_zero, Int.toNat_natCast]
    exact List.map_congr_left fun i _ => by show V.int (0 + (i : Int)) = V.int i; rw [Int.zero_add]
  have e2 : rgD n = ((List.range n).map fun i : Nat => (i : Int)).map PyData.int := by unfold rgD; rw [List.map_map]; rfl
  rw [e1, e2]
  exact DgA.of_ints _
/-- list(d.values()), list(reversed(xs)) -/
theorem ev_listVals {kvs : List (List Key × PyData)} (hm : F.mg "list" = none) (ha : Ev F L Γ e P) (hd : IsDT L P kvs) (hg : F.sc.names.lookup ("list" : Str) = some .globalImplicit := by rfl)
    (hbase : ∀ env, attributeBase e "values" env (eval e env) = eval e env := by intro _; rfl) (hline : (ap.endLine == cp.line) = true := by rfl)
    (hs : ∀ env, starEach [.Call (.Attribute e "values" ap) [] [] cp] env = (false, eval (.Call (.Attribute e "values" ap) [] [] cp) env) :: starEach [] env := by intro _; rfl) :
    Ev F L Γ (.Call (.Name "list" p1) [.Call (.Attribute e "values" ap) [] [] cp] [] pos) (D (.list (kvs.map (·.2)))) := fun E σ G H T K k => by
  refine we_pe (t := HwB.tListVals (WE F e)) (fun X hX => HwB.pe_listVals hX.calm (pe_we hX) (hX.gl hg) (by rw [hX.mg]; exact hm) PyProof.Rows.boot_list (hbase _) hline (hs _)) ?_
  refine ha E σ G H T _ fun v G1 H1 n1 T1 p1 => ?_
  obtain ⟨d, ks, rfl, h1, h2⟩ := hd E Γ σ G1 H1 v T1 p1
  exact ⟨d, ks, rfl, h1, fun p hp => k _ _ _ (n1.trans T.live T1.live (.new T1.sub hp _)) (T1.new hp _) (.lst upd_same (DgA.mono (same_new (T1.sub.free hp) _) _ _ h2.vals))⟩
theorem ev_listRev {ds : List PyData} (hm : F.mg "list" = none) (hm2 : F.mg "reversed" = none) (ha : Ev F L Γ e (D (.list ds))) (hg : F.sc.names.lookup ("list" : Str) = some .globalImplicit := by rfl) (hg2 : F.sc.names.lookup ("reversed" : Str) = some .globalImplicit := by rfl)
    (hs : ∀ env, starEach [e] env = (false, eval e env) :: starEach [] env := by intro _; rfl) (hs2 : ∀ env, starEach [.Call (.Name "reversed" p2) [e] [] spos] env = (false, eval (.Call (.Name "reversed" p2) [e] [] spos) env) :: starEach [] env := by intro _; rfl) :
    Ev F L Γ (.Call (.Name "list" p1) [.Call (.Name "reversed" p2) [e] [] spos] [] pos) (D (.list ds.reverse)) := fun E σ G H T K k => by
  refine we_pe (t := HwB.tListRev F.K (WE F e)) (fun X hX => by rw [← hX.K]; exact HwB.pe_listRev hX.calm (hX.gl hg) (by rw [hX.mg]; exact hm) PyProof.Rows.boot_list (hX.gl hg2) (by rw [hX.mg]; exact hm2) (pe_we hX) (hs _) (hs2 _)) ?_
  refine ha E σ G H T _ fun v G1 H1 n1 T1 p1 => ?_
  obtain ⟨x, xs, rfl, g1, q1⟩ := p1.lst_of
  exact ⟨x, xs, rfl, SqL.of (T1.sub.lst g1), fun p hp => k _ _ _ (n1.trans T.live T1.live (.new T1.sub hp _)) (T1.new hp _) (.lst upd_same (DgA.mono (same_new (T1.sub.free hp) _) _ _ q1.reverse))⟩
/-- d.setdefault(k, x) -/
def setD {κ : Type} [DecidableEq κ] (kvs : List (κ × PyData)) (k : κ) (d : PyData) : List (κ × PyData) := if (lookD kvs k).isSome then kvs else putD kvs k d
theorem hr_setdefT (kk' i : Nat) {p : Addr} {kvs : List (List Key × PyData)} {ks : List Key} {d : PyData} (hk' : Ev F L Γ e (D (.tuple (ks.map kD)))) (hv' : Ev F L Γ b (D d)) (kk : Hr F (L.set kk' ⟨p, DTR (setD kvs ks d), true⟩) Γ rest N R) (hl : kvs.length < 100000)
    (hk : L[kk']? = some ⟨p, DTR kvs, true⟩ := by rfl) (hi : Γ[i]? = some (some (IsV (.ref p))) := by rfl) (hN : F.N[i]? = some x := by rfl) (hv : Vis F.sc x := by first | exact Or.inl rfl | exact Or.inr (Or.inl rfl) | exact Or.inr (Or.inr rfl)) (hd : (x == ("__debug__" : Str)) = false := by decide) (hcd : (x == ("__classdict__" : Str)) = false := by decide)
    (hbase : ∀ env, attributeBase (.Name x px) "setdefault" env (eval (.Name x px) env) = eval (.Name x px) env := by intro _; rfl)
    (hfew : ∀ env, ((backTo cp (starEach [e, b] env)).all (fun x => !x.1) && (backToKw cp (keywordEach [] env)).all (fun x => x.1.isSome) && decide (([e, b] : List Expr).length + ([] : List Keyword).length + (if ([] : List Keyword).isEmpty then 0 else 1) < 30)) = true := by intro _; rfl)
    (hline : (ap.endLine == cp.line) = true := by rfl) (htr : ∀ env, backTo cp (starEach [e, b] env) = [(false, eval e env), (false, eval b env)] := by intro _; rfl) :
    Hr F L Γ (.Expr (.Call (.Attribute (.Name x px) "setdefault" ap) [e, b] [] cp) pos :: rest) N R := fun E σ G H T D k1 k2 => by
  refine ws_cons (w1_ps (t := tDrop (HwB.tDSetdT (tVar i) (WE F e) (WE F b))) (fun X hX => ps_expr (HwB.pe_dsetdT hX.hu (pe_var (by rw [hX.N]; exact hN) (hX.vis hv) hd hcd) (pe_we hX) (pe_we hX) ⟨hbase _, hfew _, hline, htr _⟩)) ?_)
  obtain ⟨w, hw, hp⟩ := T.get hi
  obtain ⟨_, o, h1, ms, h2, h3⟩ := T.live.2 _ (List.mem_of_getElem? hk)
  subst h2
  refine ⟨w, hw, p, hp, .inr ⟨ms, .inl h1⟩, ?_⟩
  refine hk' E σ G H T _ fun y G1 H1 n1 T1 q1 => hv' E σ G1 H1 T1 _ fun z G2 H2 n2 T2 q2 => ?_
  obtain ⟨_, o, h4, ms2, h5, h6⟩ := T2.live.2 _ (List.mem_of_getElem? hk)
  subst h5
  obtain ⟨t, ts, rfl, h7, h8⟩ := q1.tup_of
  have eq := h8.keys
  subst eq
  refine ⟨ms2, ks, t, h4, rfl, T2.sub.tup (n2.gg _ _ h7), Nat.lt_of_lt_of_le (by rw [h6.length]; exact hl) (by decide), fun v hv => ?_, fun hv => ?_⟩
  · have hs : (lookD kvs ks).isSome = true := by rw [← h6.isSome, hv]; rfl
    have es : setD kvs ks d = kvs := by unfold setD; rw [if_pos hs]
    rw [es] at kk
    have eL : L.set kk' ⟨p, DTR kvs, true⟩ = L := by
      obtain ⟨hkl, ek⟩ := List.getElem?_eq_some_iff.mp hk
      rw [← ek]; exact List.set_getElem_self hkl
    rw [eL] at kk
    exact kk E σ G2 H2 T2 D k1 k2
  · have hs : ¬ (lookD kvs ks).isSome = true := by rw [← h6.isSome, hv]; decide
    have es : setD kvs ks d = putD kvs ks d := by unfold setD; rw [if_neg hs]
    rw [es] at kk
    exact kk E σ G2 _ (T2.setR hk ⟨_, rfl, h6.put q2⟩) D k1 k2
/-- xs.extend(a tuple) -/
theorem hr_extendT (k i : Nat) {p : Addr} {ds es' : List PyData} (h : Ev F L Γ e (D (.tuple es'))) (kk : Hr F (L.set k ⟨p, ListR (ds ++ es'), true⟩) Γ rest N R) (hl : ds.length + es'.length ≤ 100000) (hk : L[k]? = some ⟨p, ListR ds, true⟩ := by rfl) (hi : Γ[i]? = some (some (IsV (.ref p))) := by rfl)
    (hN : F.N[i]? = some x := by rfl) (hv : Vis F.sc x := by first | exact Or.inl rfl | exact Or.inr (Or.inl rfl) | exact Or.inr (Or.inr rfl)) (hd : (x == ("__debug__" : Str)) = false := by decide) (hcd : (x == ("__classdict__" : Str)) = false := by decide)
    (hs : ∀ env, starEach [e] env = (false, eval e env) :: starEach [] env := by intro _; rfl) (hline : (ap.endLine == cp.line) = true := by rfl)
    (hbase : ∀ env, attributeBase (.Name x px) "extend" env (eval (.Name x px) env) = eval (.Name x px) env := by intro _; rfl)
    (hfew : ∀ env, ((backTo cp (starEach [e] env)).all (fun x => !x.1) && (backToKw cp (keywordEach [] env)).all (fun x => x.1.isSome) && decide ([e].length + ([] : List Keyword).length + (if ([] : List Keyword).isEmpty then 0 else 1) < 30)) = true := by intro _; rfl) :
    Hr F L Γ (.Expr (.Call (.Attribute (.Name x px) "extend" ap) [e] [] cp) pos :: rest) N R := fun E σ G H T D k1 k2 => by
  refine ws_cons (w1_ps (t := tDrop (tBM F.K "list" (HwB.rExtendT F.K) (tVar i) (tCons (WE F e) tNil))) (fun X hX => ?_) ?_)
  · refine ps_expr ?_
    rw [← hX.K]
    exact pe_bm PySem.F.plainAttrs_list PySem.F.slot_list_extend PySem.F.type_list_extend HwB.mt_extendT (pe_var (by rw [hX.N]; exact hN) (hX.vis hv) hd hcd) (pa_cons (pe_we hX) pa_nil (hs _)) (hbase _) (hfew _) hline (hs _) rfl
  · obtain ⟨v, hv', hp⟩ := T.get hi
    obtain ⟨_, o, h1, vs, h2, h3⟩ := T.live.2 _ (List.mem_of_getElem? hk)
    subst h2
    refine ⟨v, hv', ?_, ?_⟩
    · rw [show v = .ref p from hp]; exact .inl ⟨rfl, vs, SqL.of h1⟩
    refine h E σ G H T _ fun y G1 H1 n1 T1 q1 => ?_
    obtain ⟨_, o, h4, ws, h5, h6⟩ := T1.live.2 _ (List.mem_of_getElem? hk)
    subst h5
    obtain ⟨b, zs, rfl, h7, h8⟩ := q1.tup_of
    refine ⟨p, b, ws, zs, hp, rfl, h4, SqT.of (T1.sub.tup h7), small (by rw [h6.length, h8.length]; exact hl), ?_⟩
    exact kk E σ G1 _ (T1.setR hk ⟨_, rfl, h6.append h8⟩) D k1 k2
end
end Hw
set_option Elab.async false
set_option linter.all false
set_option maxRecDepth 100000
set_option maxHeartbeats 4000000
namespace Hw
open PySem PySem.Spec L2

/-! ### instances -/
abbrev FsA (G : Hp) : List (Str × V) → List (Str × MP) → Prop := Paired fun v P => v.1 = P.1 ∧ P.2.p G v.2
theorem FsA.mono {G G' : Hp} (e : Same G G') : ∀ {vs : List (Str × V)} {fs : List (Str × MP)}, FsA G vs fs → FsA G' vs fs
  | _, _, .nil => .nil
  | _, _, .cons r t => .cons ⟨r.1, MP.mono _ e r.2⟩ (FsA.mono e t)
theorem FsA.look {G : Hp} {f : Str} {P : MP} : ∀ {vs : List (Str × V)} {fs : List (Str × MP)}, FsA G vs fs → fs.lookup f = some P → ∃ v, vs.lookup f = some v ∧ P.p G v
  | _, _, .nil, e => by cases e
  | _, _, @Paired.cons _ _ _ v q vs fs r t, e => by
    rw [List.lookup_cons] at e ⊢
    rw [r.1]
    split at e
    · rename_i h
      cases e
      exact ⟨_, rfl, r.2⟩
    · exact FsA.look t e
theorem FsA.none {G : Hp} {f : Str} : ∀ {vs : List (Str × V)} {fs : List (Str × MP)}, FsA G vs fs → fs.lookup f = Option.none → vs.lookup f = Option.none
  | _, _, .nil, e => rfl
  | _, _, @Paired.cons _ _ _ v q vs fs r t, e => by
    rw [List.lookup_cons] at e ⊢
    rw [r.1]
    split at e
    · cases e
    · exact FsA.none t e
theorem putF_new {f : Str} {v : V} : ∀ {vs : List (Str × V)}, vs.lookup f = Option.none → putF f v vs = vs ++ [(f, v)]
  | [], _ => rfl
  | (g, x) :: r, e => by
    rw [List.lookup_cons] at e
    split at e
    · cases e
    · rename_i h
      have hg : ¬ g = f := fun z => by subst z; simp at h
      show (if g = f then _ else _) = _
      rw [if_neg hg, putF_new e]; rfl
theorem FsA.snoc {G : Hp} {f : Str} {v : V} {P : MP} (h : P.p G v) : ∀ {vs : List (Str × V)} {fs : List (Str × MP)}, FsA G vs fs → FsA G (vs ++ [(f, v)]) (fs ++ [(f, P)])
  | _, _, .nil => .cons ⟨rfl, h⟩ .nil
  | _, _, .cons r t => .cons r (FsA.snoc h t)
theorem FsA.length {G : Hp} {vs : List (Str × V)} {fs : List (Str × MP)} (h : FsA G vs fs) : vs.length = fs.length := Paired.length h
def InsP (C : Addr) (fs : List (Str × MP)) : MP := ⟨fun G v => ∃ a dx vs, v = .ref a ∧ G a = some (.ins C dx vs) ∧ FsA G vs fs, fun e ⟨a, dx, vs, h1, h2, h3⟩ => ⟨a, dx, vs, h1, e _ _ h2, h3.mono e⟩⟩
def InsR (C : Addr) (fs : List (Str × MP)) : RP := ⟨fun G o => ∃ dx vs, o = .ins C dx vs ∧ FsA G vs fs, fun e ⟨dx, vs, h1, h2⟩ => ⟨dx, vs, h1, h2.mono e⟩, fun ⟨_, _, h1, _⟩ xs e => by rw [h1] at e; cases e⟩
def NoMP : MP := ⟨fun _ _ => False, fun _ h => h⟩
/-- the promise of an __init__ -/
def SpI {α : Type} (C : Addr) (ok : α → Prop) (A : α → List MP) (R : α → List (Str × MP)) : Sp := fun vs H Q _ => ∃ (x : α) (G : Hp) (p dx : Addr) (us : List V), ok x ∧ vs = .ref p :: us ∧ Sub G H ∧ G p = none ∧ H p = some (.ins C dx []) ∧ PsA G us (A x) ∧
  ∀ G' H' dx' ws, Same G G' → Sub G' H' → (∀ a o, a ≠ p → H a = some o → H' a = some o) → (∀ a o, a ≠ p → G a = none → H a = some o → NT o → G' a = none) → G' p = none → H' p = some (.ins C dx' ws) → FsA G' ws (R x) → Q .non H'
section
variable {F : Fx} {L : List Rs} {Γ : Ty} {e a b c o tg iter elt : Expr} {es ts ifs : List Expr} {P Q R : MP} {Ps : List MP} {pos spos p1 p2 px py lp ap cp tp : Pos} {N : List Rs → Ty → Prop} {rest body : List Stmt} {x y m fn : Str} {C : Addr} {fs : List (Str × MP)}
/-- o.f -/
theorem ev_fld (ha : Ev F L Γ o (InsP C fs)) (hC : Cls F.K C) (hn : NoAttr F.K C fn) (hf : fs.lookup fn = some P := by rfl) (hb : ∀ env, attributeBase o fn env (eval o env) = eval o env := by intro _; rfl) : Ev F L Γ (.Attribute o fn pos) P := fun E σ G H T K k => by
  refine we_pe (t := tFld F.K (WE F o) fn) (fun X hX => by rw [← hX.K]; exact pe_fld (pe_we hX) (hb _)) ?_
  refine ha E σ G H T _ fun v G1 H1 n1 T1 ⟨a, dx, vs, h1, h2, h3⟩ => ?_
  obtain ⟨w, h4, h5⟩ := h3.look hf
  exact ⟨a, C, dx, vs, w, h1, T1.sub.ins h2, hC, hn, h4, k w G1 H1 n1 T1 h5⟩
/-- o.f, o being made -/
theorem ev_fldR (k : Nat) {p : Addr} {bb : Bool} (ha : Ev F L Γ o (IsV (.ref p))) (hC : Cls F.K C) (hn : NoAttr F.K C fn) (hk : L[k]? = some ⟨p, InsR C fs, bb⟩ := by rfl) (hf : fs.lookup fn = some P := by rfl) (hb : ∀ env, attributeBase o fn env (eval o env) = eval o env := by intro _; rfl) : Ev F L Γ (.Attribute o fn pos) P := fun E σ G H T K kk => by
  refine we_pe (t := tFld F.K (WE F o) fn) (fun X hX => by rw [← hX.K]; exact pe_fld (pe_we hX) (hb _)) ?_
  refine ha E σ G H T _ fun v G1 H1 n1 T1 p1 => ?_
  obtain ⟨_, u, h1, dx, vs, h2, h3⟩ := T1.live.2 _ (List.mem_of_getElem? hk)
  subst h2
  obtain ⟨w, h4, h5⟩ := h3.look hf
  exact ⟨p, C, dx, vs, w, p1, h1, hC, hn, h4, kk w G1 H1 n1 T1 h5⟩
/-- o.m(e, ..) -/
theorem ev_meth {α : Type} {Lf : α → List Rs} {ok : α → Prop} {A : α → List MP} {R : α → MP} {j : Nat} (M : Ml F.toSx C m j (Spc Lf ok A R)) (hC : Cls F.K C) (ho : Ev F L Γ o (InsP C fs)) (z : α) (hok : ok z) (ha : Ea F L Γ (e :: es) Ps) (hA : A z = InsP C fs :: Ps := by rfl) (hL : Lf z = [] := by rfl) (hf : fs.lookup m = none := by rfl) (hj : j ≤ F.k := by exact Nat.le_of_ble_eq_true rfl)
    (he : ∀ env, starEach (e :: es) env = (false, eval e env) :: starEach es env := by intro _; rfl) (hpl : ∀ env, (backTo pos (starEach es env)).any (·.1) = false := by intro _; rfl) {pl : PySem.Env → Sem Bool}
    (ht : ∀ env, eval (.Call (.Attribute o m ap) (e :: es) [] pos) env = (do
      let ov ← eval o env
      standAt ap.atName
      let (f, first) ← holding [ov] (getMethod ov m (pl env))
      callWith pos f first (backTo pos (starEach (e :: es) env)) (backToKw pos (keywordEach [] env))) := by intro _; rfl) (hq : (R z).le Q := by exact MP.le.rfl) :
    Ev F L Γ (.Call (.Attribute o m ap) (e :: es) [] pos) Q := fun E σ G H T K k => by
  obtain ⟨f, fd, ps, Fn, hm, hb⟩ := M.ex
  refine we_pe (t := tMeth C m (Spc Lf ok A R) [] E0 (WE F o) (WA F (e :: es))) (fun X hX => ?_) ?_
  · have Fn' : FnOk X.prog X.w X.K X.mg X.base CX0 j f fd ps (Spc Lf ok A R) := by rw [hX.prog, hX.w, hX.K, hX.mg, hX.base]; exact Fn
    exact pe_meth (pe_we hX) (by rw [hX.K]; exact hC) (by rw [hX.K]; exact hm) Fn' (hX.room.mono hj) (by rw [hX.K]; exact hb) .nil pass0 (pa_wa hX) (he _) (hpl _) (ht _)
  · refine ho E σ G H T _ fun v G1 H1 n1 T1 ⟨a, dx, vs, h1, h2, h3⟩ => ⟨a, dx, vs, h1, T1.sub.ins h2, h3.none hf, ?_⟩
    refine ha E σ G1 H1 T1 _ fun us G2 H2 n2 T2 q2 => ?_
    rw [List.append_nil]
    have n12 := n1.trans T.live T1.live n2
    refine call_core z hok (.inl hL) E σ G2 H2 T2 (v :: us) ?_ K E0 fun v G3 H3 n3 T3 p3 => k v G3 H3 (n12.trans T.live T2.live n3) T3 (hq _ _ p3)
    rw [hA]
    exact .cons ⟨a, dx, vs, h1, n2.gg _ _ h2, h3.mono n2.gg⟩ q2
/-- self.f = e, self being made -/
theorem FsA.fits {G : Hp} {vs : List (Str × V)} (h : FsA G vs fs) (hl : fs.length < 1000) : vs.length < 1000 := by rw [h.length]; exact hl
theorem hr_fld (k i : Nat) {p : Addr} (h : Ev F L Γ e P) (hC : Cls F.K C) (hn : NoAttr F.K C fn) (kk : Hr F (L.set k ⟨p, InsR C (fs ++ [(fn, P)]), true⟩) Γ rest N R) (hk : L[k]? = some ⟨p, InsR C fs, true⟩ := by rfl) (hf : fs.lookup fn = none := by rfl) (hl : fs.length < 1000 := by first | decide | (simp; done)) (hi : Γ[i]? = some (some (IsV (.ref p))) := by rfl)
    (hN : F.N[i]? = some x := by rfl) (hv : Vis F.sc x := by first | exact Or.inl rfl | exact Or.inr (Or.inl rfl) | exact Or.inr (Or.inr rfl)) (hd : (x == ("__debug__" : Str)) = false := by decide) (hcd : (x == ("__classdict__" : Str)) = false := by decide)
    (hs : ∀ env, swapsWith e (some (.Attribute (.Name x px) fn ap)) pos.line env = pure false := by intro _; rfl) : Hr F L Γ (.Assign [.Attribute (.Name x px) fn ap] e pos :: rest) N R := fun E σ G H T D k1 k2 => by
  refine ws_cons (w1_ps (t := sFld F.K (tVar i) (WE F e) fn) (fun X hX => by rw [← hX.K]; exact ps_fld (pe_var (by rw [hX.N]; exact hN) (hX.vis hv) hd hcd) (pe_we hX) (hs _)) ?_)
  refine h E σ G H T _ fun v G1 H1 n1 T1 p1 => ?_
  obtain ⟨w, hw, hp⟩ := T1.get hi
  obtain ⟨_, o, h1, dx, vs, h2, h3⟩ := T1.live.2 _ (List.mem_of_getElem? hk)
  subst h2
  refine ⟨w, hw, p, C, dx, vs, hp, h1, hC, hn, h3.fits hl, ?_⟩
  refine kk E σ G1 _ (T1.setR hk ⟨dx, _, ?_, h3.snoc p1⟩) D k1 k2
  rw [putF_new (h3.none hf)]
/-- self.f, self.g, .. = e -/
def TgF (F : Fx) (C : Addr) (i k : Nat) (ts : List Expr) (ns : List Str) (Ps : List MP) : Prop := ∀ E L Γ σ G H p fs us, Stt E L Γ σ G H → L[k]? = some ⟨p, InsR C fs, true⟩ → Γ[i]? = some (some (IsV (.ref p))) → (∀ f ∈ ns, fs.lookup f = none) → ns.Nodup → fs.length + ns.length < 1000 → PsA G us Ps → ∀ Q : St → Hp → Prop,
  (∀ H', Stt E (L.set k ⟨p, InsR C (fs ++ ns.zip Ps), true⟩) Γ σ G H' → Q σ H') → WGs F ts us σ H Q
theorem tgF_nil {i k : Nat} : TgF F C i k [] [] [] := fun E L Γ σ G H p fs us T hk hi hf hd hl q Q kk => by
  cases q
  refine wgs_pgs (t := gNil) (fun _ _ => pgs_nil) ⟨rfl, kk H ?_⟩
  have eL : L.set k ⟨p, InsR C (fs ++ [].zip []), true⟩ = L := by
    obtain ⟨hkl, ek⟩ := List.getElem?_eq_some_iff.mp hk
    show L.set k ⟨p, InsR C (fs ++ []), true⟩ = L
    rw [List.append_nil, ← ek]; exact List.set_getElem_self hkl
  rw [eL]
  exact T
theorem lookup_append_none {α : Type} {f : Str} : ∀ {fs gs : List (Str × α)}, fs.lookup f = none → (fs ++ gs).lookup f = gs.lookup f
  | [], _, _ => rfl
  | (g, y) :: fs, gs, h => by
    rw [List.lookup_cons] at h
    rw [List.cons_append, List.lookup_cons]
    split at h
    · cases h
    · exact lookup_append_none h
theorem tgF_cons {i k : Nat} {ns : List Str} (hC : Cls F.K C) (hn : NoAttr F.K C fn) (h2 : TgF F C i k ts ns Ps) (hN : F.N[i]? = some x := by rfl) (hv : Vis F.sc x := by first | exact Or.inl rfl | exact Or.inr (Or.inl rfl) | exact Or.inr (Or.inr rfl)) (hd : (x == ("__debug__" : Str)) = false := by decide) (hcd : (x == ("__classdict__" : Str)) = false := by decide)
    (hs : ∀ env, (assignEach (.Attribute (.Name x px) fn ap :: ts) env).map (·.2) = assign (.Attribute (.Name x px) fn ap) env :: (assignEach ts env).map (·.2) := by intro _; rfl) : TgF F C i k (.Attribute (.Name x px) fn ap :: ts) (fn :: ns) (P :: Ps) := fun E L Γ σ G H p fs us T hk hi hf hdn hl q Q kk => by
  cases q with
  | cons q1 q2 =>
    refine wgs_pgs (t := gCons (HwB.gFld F.K (tVar i) fn) (WGs F ts)) (fun X hX => pgs_cons (by rw [← hX.K]; exact HwB.pg_fld (pe_var (by rw [hX.N]; exact hN) (hX.vis hv) hd hcd)) (pgs_wgs hX) (hs _)) ⟨_, _, rfl, ?_⟩
    obtain ⟨w, hw, hp⟩ := T.get hi
    obtain ⟨_, o, h1, dx, vs, h2', h3⟩ := T.live.2 _ (List.mem_of_getElem? hk)
    subst h2'
    have hl' : fs.length + (ns.length + 1) < 1000 := hl
    have hfn : fs.lookup fn = none := hf fn List.mem_cons_self
    refine ⟨w, hw, p, C, dx, vs, hp, h1, hC, hn, h3.fits (by omega), ?_⟩
    have T' := T.setR (φ' := InsR C (fs ++ [(fn, P)])) hk (o := .ins C dx (putF fn _ vs)) ⟨dx, _, by rw [putF_new (h3.none hfn)], h3.snoc q1⟩
    have hkl : k < L.length := (List.getElem?_eq_some_iff.mp hk).1
    have hd2 := List.nodup_cons.mp hdn
    refine h2 E _ Γ σ G _ p _ _ T' (List.getElem?_set_self hkl) hi (fun f hf' => ?_) hd2.2 (by rw [List.length_append]; show fs.length + 1 + ns.length < 1000; omega) q2 Q fun H' T2 => kk H' ?_
    · rw [lookup_append_none (hf f (List.mem_cons_of_mem _ hf')), List.lookup_cons]
      have : (f == fn) = false := by
        rw [beq_eq_false_iff_ne]
        exact fun z => hd2.1 (by rw [← z]; exact hf')
      rw [this]; rfl
    · rw [List.set_set, List.append_assoc] at T2
      exact T2
theorem hr_fldU (k i : Nat) {p : Addr} {ns : List Str} {n kk' : Nat} (h : Ev F L Γ e (TupP Ps)) (ht : TgF F C i k ts ns Ps) (kk : Hr F (L.set k ⟨p, InsR C (fs ++ ns.zip Ps), true⟩) Γ rest N R) (hk : L[k]? = some ⟨p, InsR C fs, true⟩ := by rfl) (hf : ∀ f ∈ ns, fs.lookup f = none) (hnd : ns.Nodup := by decide) (hl : fs.length + ns.length < 1000 := by first | decide | (simp; done)) (hi : Γ[i]? = some (some (IsV (.ref p))) := by rfl)
    (hn : ∀ env, (assignEach ts env).length = n := by intro _; rfl) (hst : ∀ env, (assignEach ts env).findIdx? (·.1) = none := by intro _; rfl) (hlP : Ps.length = n := by rfl)
    (hs : ∀ env, swapsWithSole [.Tuple ts kk' tp] e pos.line env = pure false := by intro _; rfl) (hw : ∀ env, swappedStores [.Tuple ts kk' tp] e env = pure none := by intro _; rfl) (h1 : ∀ env, (assignEach [.Tuple ts kk' tp] env).map (·.2) = [assign (.Tuple ts kk' tp) env] := by intro _; rfl) :
    Hr F L Γ (.Assign [.Tuple ts kk' tp] e pos :: rest) N R := fun E σ G H T D k1 k2 => by
  refine ws_cons (w1_ps (t := tAsg (WE F e) (gTup F.K n (WGs F ts))) (fun X hX => by rw [← hX.K]; exact ps_asg (pe_we hX) (pg_tup hX.calm (pgs_wgs hX) (hn _) (hst _)) (hs _) (hw _) (h1 _)) ?_)
  refine h E σ G H T _ fun v G1 H1 n1 T1 ⟨a, us, e1, e2, e3⟩ => ⟨a, us, e1, SqT.of (T1.sub.tup e2), by rw [PsA.length e3]; exact hlP, ?_⟩
  exact ht E L Γ σ G1 H1 p fs us T1 hk hi hf hnd hl e3 _ fun H' T' => kk E σ G1 H' T' D k1 k2
/-- THE RULE for an __init__ -/
theorem init_ok {α : Type} {S : Sx} {xn qual : Str} {params : Arguments} {body : List Stmt} {sc : Scope} {f : Addr} {fd : FuncData} {N ps : List Str} {k : Nat} {ok : α → Prop} {A : α → List MP} {R : α → List (Str × MP)}
    (Fd : FunD S.K xn qual params body sc [] [] f fd) (Sc : FnScope N ps sc) (hl : ∀ a, (A a).length + 1 = ps.length)
    (h : ∀ a p, ok a → Hr { toSx := S, N := N, sc := sc, k := k } [⟨p, InsR C [], true⟩] (ty0 (IsV (.ref p) :: A a) N.length) body (fun L' _ => L' = [⟨p, InsR C (R a), true⟩]) NoMP) : FnOk S.P S.w S.K S.mg S.base CX0 (k + 1) f fd ps (SpI C ok A R) := by
  refine Fd.ok Sc (fun vs H Q E ⟨a, G, p, dx, us, _, hv, _, _, _, hA, _⟩ => by rw [hv, List.length_cons, PsA.length hA, hl]) fun cdv A' outer s H vs Q E hr ⟨a, G, p, dx, us, hok, hv, hs, hg, hp, hA, hq⟩ => ?_
  refine ⟨WS { toSx := S, N := N, sc := sc, k := k } body, PSs.nox (ps_ws (cin_of Sc.nd hr)), ?_⟩
  subst hv
  have q0 : PsA G (.ref p :: us) (IsV (.ref p) :: A a) := .cons rfl hA
  refine h a p hok ⟨[], G, fun a => if a = p then none else H a⟩ _ G H ⟨?_, ?_, hs, ⟨by simp, fun r hr => ?_⟩, ⟨Same.refl G, fun a o h _ => ?_, fun a o h _ _ => h⟩, fun r hr => absurd hr (by simp), fun r hr _ => ?_, fun r hr hb => ?_, List.nodup_nil⟩ _ (fun L' Γ' σ' G' H' hL T' => ?_) fun v G' H' _ _ _ z => z.elim
  · unfold ty0 L2.start
    rw [← PsA.length q0]
    exact env_start q0 N.length _
  · unfold ty0 L2.start
    rw [List.length_append, List.length_append, List.length_map, List.length_map, List.length_replicate, List.length_replicate, PsA.length q0]
  · have e : r = ⟨p, InsR C [], true⟩ := by simpa using hr
    subst e
    exact ⟨hg, _, hp, dx, [], rfl, .nil⟩
  · have h' : (if a = p then none else H a) = some o := h
    split at h'
    · cases h'
    · exact h'
  · have e : r = ⟨p, InsR C [], true⟩ := by simpa using hr
    subst e
    exact if_pos rfl
  · have e : r = ⟨p, InsR C [], true⟩ := by simpa using hr
    subst e
    cases hb
  · subst hL
    obtain ⟨h1, o, h2, dx', ws, h3, h4⟩ := T'.live.2 ⟨p, InsR C (R a), true⟩ (by simp)
    subst h3
    refine hq G' H' dx' ws T'.stp.gg T'.sub (fun b u hb hu => T'.stp.keep b u (by show (if b = p then none else H b) = _; rw [if_neg hb]; exact hu) (by simp)) (fun b u hb hg hu hn => T'.stp.old b u hg (by show (if b = p then none else H b) = _; rw [if_neg hb]; exact hu) hn) h1 h2 h4
/-- C(e, ..) -/
structure Kl (S : Sx) (C : Addr) (x : Str) (j : Nat) (sp : Sp) : Prop where
  ex : ∃ f fd ps, FnOk S.P S.w S.K S.mg S.base CX0 j f fd ps sp ∧ Mk S.K C f ∧ S.mg x = some (.ref C) ∧ Binds S.K fd ps []
theorem ev_make {α : Type} {ok : α → Prop} {A : α → List MP} {R : α → List (Str × MP)} {j : Nat} (M : Kl F.toSx C x j (SpI C ok A R)) (z : α) (hok : ok z) (ha : Ea F L Γ (e :: es) (A z)) (hj : j + 1 ≤ F.k := by exact Nat.le_of_ble_eq_true rfl)
    (hg : F.sc.names.lookup x = some .globalImplicit := by rfl) (hdb : (x == ("__debug__" : Str)) = false := by decide) (he : ∀ env, starEach (e :: es) env = (false, eval e env) :: starEach es env := by intro _; rfl) (hpl : ∀ env, (backTo pos (starEach es env)).any (·.1) = false := by intro _; rfl) (hq : (InsP C (R z)).le Q := by exact MP.le.rfl) :
    Ev F L Γ (.Call (.Name x p1) (e :: es) [] pos) Q := fun E σ G H T K k => by
  obtain ⟨f, fd, ps, Fn, mk, hm, hb⟩ := M.ex
  refine we_pe (t := tMake C (SpI C ok A R) [] E0 (WA F (e :: es))) (fun X hX => ?_) ?_
  · have Fn' : FnOk X.prog X.w X.K X.mg X.base CX0 j f fd ps (SpI C ok A R) := by rw [hX.prog, hX.w, hX.K, hX.mg, hX.base]; exact Fn
    exact pe_make (by rw [hX.K]; exact mk) Fn' (hX.room.mono hj) (hX.gl hg) (by rw [hX.mg]; exact hm) (by rw [hX.K]; exact hb) .nil pass0 (pa_wa hX) hdb (he _) (hpl _)
  · refine ha E σ G H T _ fun vs G1 H1 n1 T1 q1 p dx hp hdx hne => ?_
    have gp := T1.sub.free hp
    have gdx := T1.sub.free hdx
    have up : ∀ a o, H1 a = some o → (upd (upd H1 dx (.own p)) p (.ins C dx [])) a = some o := fun a o h => by rw [upd_ne (ne_of_none h hp), upd_ne (ne_of_none h hdx)]; exact h
    refine ⟨z, G1, p, dx, vs, hok, by rw [List.append_nil], fun a u h => ?_, gp, upd_same, q1, fun G' H' dx' ws sg sb kp old hgp hH hws => ⟨rfl, ?_⟩⟩
    · have e1 : a ≠ p := fun z => by rw [z, gp] at h; cases h
      have e2 : a ≠ dx := fun z => by rw [z, gdx] at h; cases h
      rw [upd_ne e1, upd_ne e2]; exact T1.sub a u h
    · have sg' := same_new hgp (HO.ins C dx' ws)
      have n2 : Nxt L G1 H1 (upd G' p (.ins C dx' ws)) H' := ⟨sg.trans sg', fun a o h _ => kp a o (ne_of_none h hp) (up a o h), fun a o h1 h2 hn => by
        have e1 : a ≠ p := ne_of_none h2 hp
        rw [upd_ne e1]; exact old a o e1 h1 (up a o h2) hn⟩
      have sb' : Sub (upd G' p (.ins C dx' ws)) H' := fun a u h => by
        by_cases ea : a = p
        · subst ea; rw [upd_same] at h; cases h; exact .inl hH
        · rw [upd_ne ea] at h; exact sb a u h
      refine k _ _ H' (n1.trans T.live T1.live n2) (T1.next n2 sb' ⟨T1.live.1, fun r hr => ?_⟩) (hq _ _ ⟨p, dx', ws, rfl, upd_same, hws.mono sg'⟩)
      obtain ⟨h1, o, h2, h3⟩ := T1.live.2 r hr
      exact ⟨n2.old r.a o h1 h2 (r.φ.nt h3), o, kp _ _ (ne_of_none h2 hp) (up _ _ h2), r.φ.mono n2.gg h3⟩
end
end Hw
set_option Elab.async false
set_option linter.all false
set_option maxRecDepth 100000
set_option maxHeartbeats 4000000
namespace Hw
open PySem PySem.Spec L2

/-! ### the state of the picks -/
def AnyI : MP := IntP fun _ => True
def SeedP : MP := IntP fun z => 0 ≤ z ∧ z < 2147483647
def LeftR : RP := ⟨fun _ o => ∃ a b : Int, o = .lst [.int a, .int b] ∧ 0 ≤ b ∧ b < 2147483647, fun _ h => h, fun ⟨_, _, h, _⟩ xs e => by rw [h] at e; cases e⟩
theorem Stt.setS {E : Ent} {L : List Rs} {Γ : Ty} {σ : St} {G H : Hp} {φ : RP} {k : Nat} {p : Addr} {b : Bool} (T : Stt E L Γ σ G H) (hk : L[k]? = some ⟨p, φ, b⟩) {o : HO} (ho : φ.p G o) : Stt E L Γ σ G (upd H p o) := by
  have hm : (⟨p, φ, b⟩ : Rs) ∈ L := List.mem_of_getElem? hk
  obtain ⟨hg, o0, ho0, _⟩ := T.live.2 _ hm
  have hg' : G p = none := hg
  refine ⟨T.env, T.len, fun a u h => ?_, ⟨T.live.1, fun r hr => ?_⟩, ⟨T.stp.gg, fun a u h hn => ?_, T.stp.old⟩, T.inh, T.loc, T.own, T.nde⟩
  · have e : a ≠ p := fun z => by rw [z, hg'] at h; cases h
    rw [upd_ne e]; exact T.sub a u h
  · obtain ⟨h1, o', h2, h3⟩ := T.live.2 r hr
    by_cases e : r.a = p
    · have er : r = ⟨p, φ, b⟩ := by
        obtain ⟨i, hi, e1⟩ := List.mem_iff_getElem.mp hr
        obtain ⟨j, hj, e2⟩ := List.mem_iff_getElem.mp hm
        have hij : i = j := (List.getElem_inj (h₀ := by simpa using hi) (h₁ := by simpa using hj) T.live.1).mp (by simp only [List.getElem_map, e1, e2, e])
        subst hij
        rw [← e1, ← e2]
      subst er
      exact ⟨hg, o, upd_same, ho⟩
    · exact ⟨h1, o', by rw [upd_ne e]; exact h2, h3⟩
  · by_cases e : a = p
    · subst e
      cases b with
      | true => have q := T.loc _ hm rfl; have q' : E.H a = none := q; rw [q'] at h; cases h
      | false => exact absurd (List.mem_map.mpr ⟨_, T.own _ hm rfl, rfl⟩) hn
    · rw [upd_ne e]; exact T.stp.keep a u h hn
section
variable {F : Fx} {L : List Rs} {Γ : Ty} {e a b c o tg iter elt : Expr} {es ts ifs : List Expr} {P Q R : MP} {Ps : List MP} {pos spos p1 p2 px py lp ap cp tp : Pos} {N : List Rs → Ty → Prop} {rest body sa : List Stmt} {x y m fn : Str}
theorem ev_left0 (k : Nat) {p : Addr} {bb : Bool} (ha : Ev F L Γ a (IsV (.ref p))) (hb : Ev F L Γ b (D (.int 0))) (hk : L[k]? = some ⟨p, LeftR, bb⟩ := by rfl) (hs : PlainIx b := by exact fun _ _ => rfl) : Ev F L Γ (.Subscript a b pos) AnyI := fun E σ G H T K q => by
  refine we_pe (t := tOp (rIxL F.K) (WE F a) (WE F b)) (fun X hX => by rw [← hX.K]; exact pe_ix ix_list (pe_we hX) (pe_we hX) hs) ?_
  refine ha E σ G H T _ fun v G1 H1 n1 T1 p1 => hb E σ G1 H1 T1 _ fun w G2 H2 n2 T2 p2 => ?_
  obtain ⟨_, o, h1, i, j, h2, h3, h4⟩ := T2.live.2 _ (List.mem_of_getElem? hk)
  subst h2
  exact ⟨p, [.int i, .int j], 0, .int i, p1, p2.int_eq, SqL.of h1, rfl, q _ G2 H2 (n1.trans T.live T1.live n2) T2 ⟨i, True.intro, .int i⟩⟩
theorem ev_left1 (k : Nat) {p : Addr} {bb : Bool} (ha : Ev F L Γ a (IsV (.ref p))) (hb : Ev F L Γ b (D (.int 1))) (hk : L[k]? = some ⟨p, LeftR, bb⟩ := by rfl) (hs : PlainIx b := by exact fun _ _ => rfl) : Ev F L Γ (.Subscript a b pos) SeedP := fun E σ G H T K q => by
  refine we_pe (t := tOp (rIxL F.K) (WE F a) (WE F b)) (fun X hX => by rw [← hX.K]; exact pe_ix ix_list (pe_we hX) (pe_we hX) hs) ?_
  refine ha E σ G H T _ fun v G1 H1 n1 T1 p1 => hb E σ G1 H1 T1 _ fun w G2 H2 n2 T2 p2 => ?_
  obtain ⟨_, o, h1, i, j, h2, h3, h4⟩ := T2.live.2 _ (List.mem_of_getElem? hk)
  subst h2
  exact ⟨p, [.int i, .int j], 1, .int j, p1, p2.int_eq, SqL.of h1, rfl, q _ G2 H2 (n1.trans T.live T1.live n2) T2 ⟨j, ⟨h3, h4⟩, .int j⟩⟩
theorem hr_left0 (k : Nat) {p : Addr} {bb : Bool} (he : Ev F L Γ e AnyI) (ha : Ev F L Γ a (IsV (.ref p))) (hb : Ev F L Γ b (D (.int 0))) (kk : Hr F L Γ rest N R) (hk : L[k]? = some ⟨p, LeftR, bb⟩ := by rfl)
    (hs : ∀ env, swapsWithSole [.Subscript a b tp] e pos.line env = pure false := by intro _; rfl) (hw : ∀ env, swappedStores [.Subscript a b tp] e env = pure none := by intro _; rfl) (h1 : ∀ env, (assignEach [.Subscript a b tp] env).map (·.2) = [assign (.Subscript a b tp) env] := by intro _; rfl)
    (has : ∀ env v, assign (.Subscript a b tp) env v = (do
      let ov ← holding [v] (eval a env)
      let iv ← holding [v, ov] (eval b env)
      standAt tp
      holding [v, ov, iv] (setItem ov iv v)
      release [v, ov, iv] []) := by intro _ _; rfl) : Hr F L Γ (.Assign [.Subscript a b tp] e pos :: rest) N R := fun E σ G H T D k1 k2 => by
  refine ws_cons (w1_ps (t := tAsg (WE F e) (gSub (WE F a) (WE F b) rSetL)) (fun X hX => ps_asg (pe_we hX) (pg_sub (pe_we hX) (pe_we hX) set_list (has _)) (hs _) (hw _) (h1 _)) ?_)
  refine he E σ G H T _ fun u G0 H0 n0 T0 ⟨z, _, p0⟩ => ha E σ G0 H0 T0 _ fun v G1 H1 n1 T1 p1 => hb E σ G1 H1 T1 _ fun w G2 H2 n2 T2 p2 => ?_
  obtain ⟨_, o, h1, i, j, h2, h3, h4⟩ := T2.live.2 _ (List.mem_of_getElem? hk)
  subst h2
  rw [Dg.int_eq p0]
  exact ⟨p, [.int i, .int j], 0, 0, p1, p2.int_eq, h1, rfl, kk E σ G2 _ (T2.setS hk ⟨z, j, rfl, h3, h4⟩) D k1 k2⟩
theorem hr_left1 (k : Nat) {p : Addr} {bb : Bool} (he : Ev F L Γ e SeedP) (ha : Ev F L Γ a (IsV (.ref p))) (hb : Ev F L Γ b (D (.int 1))) (kk : Hr F L Γ rest N R) (hk : L[k]? = some ⟨p, LeftR, bb⟩ := by rfl)
    (hs : ∀ env, swapsWithSole [.Subscript a b tp] e pos.line env = pure false := by intro _; rfl) (hw : ∀ env, swappedStores [.Subscript a b tp] e env = pure none := by intro _; rfl) (h1 : ∀ env, (assignEach [.Subscript a b tp] env).map (·.2) = [assign (.Subscript a b tp) env] := by intro _; rfl)
    (has : ∀ env v, assign (.Subscript a b tp) env v = (do
      let ov ← holding [v] (eval a env)
      let iv ← holding [v, ov] (eval b env)
      standAt tp
      holding [v, ov, iv] (setItem ov iv v)
      release [v, ov, iv] []) := by intro _ _; rfl) : Hr F L Γ (.Assign [.Subscript a b tp] e pos :: rest) N R := fun E σ G H T D k1 k2 => by
  refine ws_cons (w1_ps (t := tAsg (WE F e) (gSub (WE F a) (WE F b) rSetL)) (fun X hX => ps_asg (pe_we hX) (pg_sub (pe_we hX) (pe_we hX) set_list (has _)) (hs _) (hw _) (h1 _)) ?_)
  refine he E σ G H T _ fun u G0 H0 n0 T0 ⟨z, hz, p0⟩ => ha E σ G0 H0 T0 _ fun v G1 H1 n1 T1 p1 => hb E σ G1 H1 T1 _ fun w G2 H2 n2 T2 p2 => ?_
  obtain ⟨_, o, h1, i, j, h2, h3, h4⟩ := T2.live.2 _ (List.mem_of_getElem? hk)
  subst h2
  rw [Dg.int_eq p0]
  exact ⟨p, [.int i, .int j], 1, 1, p1, p2.int_eq, h1, rfl, kk E σ G2 _ (T2.setS hk ⟨i, z, rfl, hz.1, hz.2⟩) D k1 k2⟩

/-! ### a def that returns a new list of its own -/
def SpN {α : Type} (ok : α → Prop) (A : α → List MP) (φ : RP) : Sp := fun vs H Q _ => ∃ (x : α) (G : Hp), ok x ∧ Sub G H ∧ PsA G vs (A x) ∧
  ∀ G' H' p o, Stp ⟨[], G, H⟩ G' H' → Sub G' H' → H' p = none → φ.p G' o → Q (.ref p) (upd H' p o)
/-- x = f(e, ..), a new list -/
theorem hr_setN (i : Nat) {α : Type} {ok : α → Prop} {A : α → List MP} {φ : RP} {j : Nat} {es : List Expr} (C : Cl F.toSx fn j (SpN ok A φ)) (z : α) (hok : ok z) (ha : Ea F L Γ (e :: es) (A z)) (k : ∀ p, Hr F (⟨p, φ, true⟩ :: L) (Γ.set i (some (IsV (.ref p)))) rest N R) (hj : j ≤ F.k := by exact Nat.le_of_ble_eq_true rfl)
    (hN : F.N[i]? = some x := by rfl) (hx : Lo F x := by first | exact Or.inl rfl | exact Or.inr ⟨rfl, rfl⟩)
    (hg : F.sc.names.lookup fn = some .globalImplicit := by rfl) (hdb : (fn == ("__debug__" : Str)) = false := by decide) (he : ∀ env, starEach (e :: es) env = (false, eval e env) :: starEach es env := by intro _; rfl) (hpl : ∀ env, (backTo cp (starEach es env)).any (·.1) = false := by intro _; rfl)
    (hs : ∀ env, swapsWith (.Call (.Name fn p1) (e :: es) [] cp) (some (.Name x px)) pos.line env = pure false := by intro _; rfl) :
    Hr F L Γ (.Assign [.Name x px] (.Call (.Name fn p1) (e :: es) [] cp) pos :: rest) N R := fun E σ G H T D k1 k2 => by
  obtain ⟨f, fd, ps, Fn, hm, hk, hb⟩ := C.ex
  refine ws_cons (w1_ps (t := tAsg (tCall (SpN ok A φ) [] E0 (WA F (e :: es))) (gName i)) (fun X hX => ?_) ?_)
  · have Fn' : FnOk X.prog X.w X.K X.mg X.base CX0 j f fd ps (SpN ok A φ) := by rw [hX.prog, hX.w, hX.K, hX.mg, hX.base]; exact Fn
    exact ps_set (by rw [hX.N]; exact hX.nd) (by rw [hX.N]; exact hN) (hX.loc hx.loc) (pe_call Fn' (hX.room.mono hj) (hX.gl hg) (by rw [hX.mg]; exact hm) (by rw [hX.K]; exact hk) (by rw [hX.K]; exact hb) .nil pass0 (pa_wa hX) hdb (he _) (hpl _)) (hs _) (hX.fnl hx)
  · refine ha E σ G H T _ fun vs G1 H1 n1 T1 q1 => ?_
    rw [List.append_nil]
    refine ⟨z, G1, hok, T1.sub, q1, fun G' H' p o st sb hp ho => ?_⟩
    obtain ⟨n2, T2⟩ := T1.call0 st sb
    exact k p E _ G' _ ((T2.newR hp ho).set i rfl) D k1 k2

/-! ### statements, the ends at hand -/
def Hq (F : Fx) (E : Ent) (L : List Rs) (Γ : Ty) (sts : List Stmt) (D : Ends) : Prop := ∀ σ G H, Stt E L Γ σ G H → WS F sts D σ H
variable {E : Ent} {D' : Ends}
theorem hq_set (i : Nat) (h : Ev F L Γ e P) (k : Hq F E L (Γ.set i (some P)) rest D') (hN : F.N[i]? = some x := by rfl) (hx : Lo F x := by first | exact Or.inl rfl | exact Or.inr ⟨rfl, rfl⟩)
    (hs : ∀ env, swapsWith e (some (.Name x px)) pos.line env = pure false := by intro _; rfl) : Hq F E L Γ (.Assign [.Name x px] e pos :: rest) D' := fun σ G H T => by
  refine ws_cons (w1_ps (t := tAsg (WE F e) (gName i)) (fun X hX => ps_set (by rw [hX.N]; exact hX.nd) (by rw [hX.N]; exact hN) (hX.loc hx.loc) (pe_we hX) (hs _) (hX.fnl hx)) ?_)
  exact h E σ G H T _ fun v G' H' n T' p => k _ G' H' (T'.set i p)
theorem hq_ifT {T : Bool → Prop} (hc : Et F L Γ c T) (ha : T true → Hq F E L Γ sa { D' with nx := WS F rest D' }) (k : T false → Hq F E L Γ rest D') : Hq F E L Γ (.If c sa [] pos :: rest) D' := fun σ G H Tt => by
  refine ws_cons (w1_ps (t := tIfS (WT F c) (WS F sa) (WS F [])) (fun X hX => ps_if (pt_wt hX) (ps_ws hX) (ps_ws hX)) ?_)
  refine hc E σ G H Tt _ fun b G1 H1 n1 T1 t1 => ?_
  cases b with
  | true => exact iteT (ha t1 σ G1 H1 T1)
  | false => exact iteF (ws_nil (k t1 σ G1 H1 T1))
theorem hq_nil (k : ∀ σ G H, Stt E L Γ σ G H → D'.nx σ H) : Hq F E L Γ [] D' := fun σ G H T => ws_nil (k σ G H T)
theorem hq_ex (i : Nat) {α : Type} {φ : α → Prop} {P : α → MP} {sts : List Stmt} (h : Γ[i]? = some (some (Xp φ P))) (k : ∀ x, φ x → Hq F E L (Γ.set i (some (P x))) sts D') : Hq F E L Γ sts D' := fun σ G H T => by
  obtain ⟨v, hv, x, hx, p⟩ := T.get h
  refine k x hx σ G H (T.retype (fun j Q hj => ?_) (by rw [List.length_set]))
  by_cases e : j = i
  · subst e
    have hl : j < Γ.length := (List.getElem?_eq_some_iff.mp h).1
    rw [List.getElem?_set_self hl] at hj
    cases hj
    exact ⟨v, hv, p⟩
  · rw [List.getElem?_set_ne (fun z => e z.symm)] at hj
    exact T.env j Q hj
theorem hq_retL (h : Ea F L Γ es Ps) (hl : Ps.length ≤ 100000) (k : ∀ σ G H p vs, Stt E L Γ σ G H → H p = none → PsA G vs Ps → D'.rt (.ref p) (upd H p (.lst vs))) : Hq F E L Γ (.Return (some (.List es lp)) pos :: rest) D' := fun σ G H T => by
  refine ws_cons (w1_ps (t := tRet (tLst (WA F es))) (fun X hX => ps_ret (pe_lst (pa_wa hX))) ?_)
  exact h E σ G H T _ fun vs G' H' n T' q => ⟨small (by rw [PsA.length q]; exact hl), fun p hp => k σ G' H' p vs T' hp q⟩
theorem fnN_ok {α : Type} {S : Sx} {xn qual : Str} {params : Arguments} {body : List Stmt} {sc : Scope} {f : Addr} {fd : FuncData} {N ps : List Str} {k : Nat} {ok : α → Prop} {A : α → List MP} {φ : RP}
    (Fd : FunD S.K xn qual params body sc [] [] f fd) (Sc : FnScope N ps sc) (hl : ∀ a, (A a).length = ps.length)
    (h : ∀ a, ok a → ∀ (E : Ent) (D' : Ends), E.L = [] → (∀ G H p o, Stp E G H → Sub G H → H p = none → φ.p G o → D'.rt (.ref p) (upd H p o)) → Hq { toSx := S, N := N, sc := sc, k := k } E [] (ty0 (A a) N.length) body D') : FnOk S.P S.w S.K S.mg S.base CX0 (k + 1) f fd ps (SpN ok A φ) := by
  refine Fd.ok Sc (fun vs H Q E ⟨a, G, _, _, hv, _⟩ => by rw [PsA.length hv, hl]) fun cdv A' outer s H vs Q E hr ⟨a, G, hok, hs, hv, hq⟩ => ?_
  refine ⟨WS { toSx := S, N := N, sc := sc, k := k } body, PSs.nox (ps_ws (cin_of Sc.nd hr)), ?_⟩
  exact h a hok ⟨[], G, H⟩ _ rfl (fun G' H' p o st sb hp ho => hq G' H' p o st sb hp ho) _ G H (stt_start hs ⟨List.nodup_nil, fun _ z => absurd z (by simp)⟩ hv (fun _ z => absurd z (by simp)))

/-- x = [e], a local list -/
theorem hr_newL1X (i : Nat) {β : Type} {φ : β → Prop} {enc : β → PyData} (h : Ev F L Γ e (Xp φ fun x => D (enc x))) (k : ∀ x, φ x → ∀ p, Hr F (⟨p, ListR [enc x], true⟩ :: L) (Γ.set i (some (IsV (.ref p)))) rest N R) (hN : F.N[i]? = some x := by rfl) (hx : Lo F x := by first | exact Or.inl rfl | exact Or.inr ⟨rfl, rfl⟩)
    (hst : ∀ env, starEach [e] env = (false, eval e env) :: starEach [] env := by intro _; rfl) (hs : ∀ env, swapsWith (.List [e] lp) (some (.Name x px)) pos.line env = pure false := by intro _; rfl) : Hr F L Γ (.Assign [.Name x px] (.List [e] lp) pos :: rest) N R := fun E σ G H T D k1 k2 => by
  refine ws_cons (w1_ps (t := tAsg (tLst (tCons (WE F e) tNil)) (gName i)) (fun X hX => ps_set (by rw [hX.N]; exact hX.nd) (by rw [hX.N]; exact hN) (hX.loc hx.loc) (pe_lst (pa_cons (pe_we hX) pa_nil (hst _))) (hs _) (hX.fnl hx)) ?_)
  refine h E σ G H T _ fun v G1 H1 n1 T1 ⟨z, hz, p1⟩ => ⟨(show 1 ≤ sizeLine by decide), fun p hp => ?_⟩
  exact k z hz p E _ G1 _ ((T1.newR (φ := ListR [enc z]) hp ⟨[v], rfl, .cons p1 .nil⟩).set i rfl) D k1 k2
/-- xs.append(e) -/
theorem hr_appendX (k i : Nat) {p : Addr} {ds : List PyData} {β : Type} {φ : β → Prop} {enc : β → PyData} (h : Ev F L Γ e (Xp φ fun x => D (enc x))) (kk : ∀ z, φ z → Hr F (L.set k ⟨p, ListR (ds ++ [enc z]), true⟩) Γ rest N R) (hl : ds.length < 100000) (hk : L[k]? = some ⟨p, ListR ds, true⟩ := by rfl) (hi : Γ[i]? = some (some (IsV (.ref p))) := by rfl)
    (hN : F.N[i]? = some x := by rfl) (hv : Vis F.sc x := by first | exact Or.inl rfl | exact Or.inr (Or.inl rfl) | exact Or.inr (Or.inr rfl)) (hd : (x == ("__debug__" : Str)) = false := by decide) (hcd : (x == ("__classdict__" : Str)) = false := by decide)
    (hs : ∀ env, starEach [e] env = (false, eval e env) :: starEach [] env := by intro _; rfl) (hline : (ap.endLine == cp.line) = true := by rfl)
    (hbase : ∀ env, attributeBase (.Name x px) "append" env (eval (.Name x px) env) = eval (.Name x px) env := by intro _; rfl)
    (hfew : ∀ env, ((backTo cp (starEach [e] env)).all (fun x => !x.1) && (backToKw cp (keywordEach [] env)).all (fun x => x.1.isSome) && decide ([e].length + ([] : List Keyword).length + (if ([] : List Keyword).isEmpty then 0 else 1) < 30)) = true := by intro _; rfl) :
    Hr F L Γ (.Expr (.Call (.Attribute (.Name x px) "append" ap) [e] [] cp) pos :: rest) N R := fun E σ G H T D k1 k2 => by
  refine ws_cons (w1_ps (t := tDrop (tBM F.K "list" rAppend (tVar i) (tCons (WE F e) tNil))) (fun X hX => ?_) ?_)
  · refine ps_expr ?_
    rw [← hX.K]
    exact pe_bm PySem.F.plainAttrs_list PySem.F.slot_list_append PySem.F.type_list_append mt_append (pe_var (by rw [hX.N]; exact hN) (hX.vis hv) hd hcd) (pa_cons (pe_we hX) pa_nil (hs _)) (hbase _) (hfew _) hline (hs _) rfl
  · obtain ⟨v, hv', hp⟩ := T.get hi
    obtain ⟨_, o, h1, vs, h2, h3⟩ := T.live.2 _ (List.mem_of_getElem? hk)
    subst h2
    refine ⟨v, hv', ?_, ?_⟩
    · rw [show v = .ref p from hp]; exact .inl ⟨rfl, vs, SqL.of h1⟩
    refine h E σ G H T _ fun y G1 H1 n1 T1 ⟨z, hz, q1⟩ => ?_
    obtain ⟨_, o, h4, ws, h5, h6⟩ := T1.live.2 _ (List.mem_of_getElem? hk)
    subst h5
    refine ⟨p, ws, y, hp, rfl, h4, Nat.lt_of_lt_of_le (by rw [h6.length]; exact hl) (by decide), ?_⟩
    exact kk z hz E σ G1 _ (T1.setR hk ⟨_, rfl, h6.append (.cons q1 .nil)⟩) D k1 k2
theorem ev_addN {n m : Nat} (ha : Ev F L Γ a (D (.int (n : Nat)))) (hb : Ev F L Γ b (D (.int (m : Nat)))) : Ev F L Γ (.BinOp a .Add b pos) (D (.int ((n + m : Nat) : Int))) := (ev_add ha hb).eq rfl
/-! ### what comprehensions give -/
theorem PsA.map {α β : Type} {φ : α → β → Prop} {enc : β → PyData} {G : Hp} : ∀ {xs : List α} {vs : List V}, PsA G vs (xs.map fun x => Xp (φ x) fun y => D (enc y)) → ∃ ys : List β, Paired φ xs ys ∧ DgA G vs (ys.map enc)
  | [], _, h => by cases h; exact ⟨[], .nil, .nil⟩
  | x :: xs, _, h => by
    cases h with
    | cons h1 h2 =>
      obtain ⟨y, hy, p⟩ := h1
      obtain ⟨ys, h3, h4⟩ := PsA.map h2
      exact ⟨y :: ys, .cons hy h3, .cons p h4⟩
theorem sel_all {α : Type} {P : α → MP} {xs : List α} {ps : List MP} (h : SelL (fun _ c => c = true) P xs ps) : ps = xs.map P := by
  have := SelL.filter (t := fun _ => true) (fun _ _ e => e) h
  rw [this, List.filter_eq_self.mpr (fun _ _ => rfl)]
theorem mapD {α : Type} {f : α → PyData} (xs : List α) : xs.map (fun x => D (f x)) = (xs.map f).map D := by rw [List.map_map]; rfl
/-- [f(x) for x in xs] -/
theorem lc_map {α β : Type} {φ : α → β → Prop} {enc : β → PyData} {xs : List α} : (Xp (SelL (fun _ c => c = true) (fun x => Xp (φ x) fun y => D (enc y)) xs) LstP).le (Xp (Paired φ xs) fun ys => D (.list (ys.map enc))) := fun G v ⟨ps, hs, a, vs, h1, h2, h3⟩ => by
  rw [sel_all hs] at h3
  obtain ⟨ys, h4, h5⟩ := PsA.map h3
  exact ⟨ys, h4, by rw [h1]; exact .lst h2 h5⟩
/-- .. the values known -/
theorem lc_mapD {α : Type} {f : α → PyData} {xs : List α} : (Xp (SelL (fun _ c => c = true) (fun x => D (f x)) xs) LstP).le (D (.list (xs.map f))) := fun G v ⟨ps, hs, a, vs, h1, h2, h3⟩ => by
  rw [sel_all hs, mapD] at h3
  exact lstP_D G v ⟨a, vs, h1, h2, h3⟩
/-- [f(x) for x in xs if t(x)] -/
theorem lc_filD {α : Type} {t : α → Bool} {f : α → PyData} {xs : List α} : (Xp (SelL (fun x c => c = t x) (fun x => D (f x)) xs) LstP).le (D (.list ((xs.filter t).map f))) := fun G v ⟨ps, hs, a, vs, h1, h2, h3⟩ => by
  rw [SelL.filter (t := t) (fun _ _ e => e) hs, mapD] at h3
  exact lstP_D G v ⟨a, vs, h1, h2, h3⟩
/-- .. whatever was picked -/
theorem sel_sub {α : Type} {T : α → Bool → Prop} {P : α → MP} : ∀ {xs : List α} {ps : List MP}, SelL T P xs ps → ∃ ys : List α, ys.Sublist xs ∧ ps = ys.map P
  | _, _, .nil => ⟨[], .slnil, rfl⟩
  | _, _, @SelL.yes _ _ _ x xs ps _ t => by
    obtain ⟨ys, h1, h2⟩ := sel_sub t
    exact ⟨x :: ys, h1.cons₂ x, by rw [h2, List.map_cons]⟩
  | _, _, @SelL.no _ _ _ x xs ps _ t => by
    obtain ⟨ys, h1, h2⟩ := sel_sub t
    exact ⟨ys, h1.cons x, h2⟩
theorem lc_subD {α : Type} {T : α → Bool → Prop} {f : α → PyData} {xs : List α} : (Xp (SelL T (fun x => D (f x)) xs) LstP).le (Xp (fun ys : List α => ys.Sublist xs) fun ys => D (.list (ys.map f))) := fun G v ⟨ps, hs, a, vs, h1, h2, h3⟩ => by
  obtain ⟨ys, h4, h5⟩ := sel_sub hs
  rw [h5, mapD] at h3
  exact ⟨ys, h4, lstP_D G v ⟨a, vs, h1, h2, h3⟩⟩
end
/-- the slots' types, written anew -/
theorem hr_gam {F : Fx} {L : List Rs} {Γ Γ' : Ty} {sts : List Stmt} {N : List Rs → Ty → Prop} {R : MP} (h : Γ = Γ') (k : Hr F L Γ' sts N R) : Hr F L Γ sts N R := by rw [h]; exact k
end Hw
set_option Elab.async false
set_option linter.all false
set_option maxRecDepth 100000
set_option maxHeartbeats 4000000
namespace Hw
open PySem PySem.Spec L2

/-! ### lists of pairs -/
section
variable {κ κ' β : Type} [DecidableEq κ] [DecidableEq κ']
def lookG (kvs : List (κ × β)) (k : κ) : Option β := (kvs.find? fun p => decide (p.1 = k)).map (·.2)
def putG (kvs : List (κ × β)) (k : κ) (d : β) : List (κ × β) := if (kvs.any fun p => decide (p.1 = k)) = true then kvs.map (fun p => if p.1 = k then (p.1, d) else p) else kvs ++ [(k, d)]
def setG (kvs : List (κ × β)) (k : κ) (d : β) : List (κ × β) := if (lookG kvs k).isSome then kvs else putG kvs k d
def mergeG (kvs more : List (κ × β)) : List (κ × β) := more.foldl (fun acc kv => putG acc kv.1 kv.2) kvs
theorem lookG_cons {p : κ × β} {r : List (κ × β)} {k : κ} : lookG (p :: r) k = if p.1 = k then some p.2 else lookG r k := by
  unfold lookG
  rw [List.find?_cons]
  by_cases h : p.1 = k
  · rw [decide_eq_true h, if_pos h]; rfl
  · rw [decide_eq_false h, if_neg h]
theorem lookG_mem {kvs : List (κ × β)} {k : κ} {d : β} (h : lookG kvs k = some d) : (k, d) ∈ kvs := by
  induction kvs with
  | nil => cases h
  | cons p r ih =>
    rw [lookG_cons] at h
    split at h
    · rename_i e
      cases h
      rw [← e]; exact List.mem_cons_self
    · exact List.mem_cons_of_mem _ (ih h)
theorem lookG_any {kvs : List (κ × β)} {k : κ} : (kvs.any fun p => decide (p.1 = k)) = (lookG kvs k).isSome := by
  induction kvs with
  | nil => rfl
  | cons p r ih =>
    rw [lookG_cons, List.any_cons, ih]
    by_cases h : p.1 = k
    · rw [if_pos h, decide_eq_true h]; rfl
    · rw [if_neg h, decide_eq_false h]; rfl
theorem lookG_isSome {kvs : List (κ × β)} {k : κ} : (lookG kvs k).isSome = true ↔ k ∈ kvs.map (·.1) := by
  induction kvs with
  | nil => simp [lookG]
  | cons p r ih =>
    rw [lookG_cons, List.map_cons, List.mem_cons]
    by_cases h : p.1 = k
    · rw [if_pos h]; simp [h]
    · rw [if_neg h, ih]
      have h' : ¬ k = p.1 := fun z => h z.symm
      simp [h']
theorem lookG_of_mem {kvs : List (κ × β)} (hn : (kvs.map (·.1)).Nodup) {k : κ} {d : β} (h : (k, d) ∈ kvs) : lookG kvs k = some d := by
  induction kvs with
  | nil => cases h
  | cons p r ih =>
    rw [lookG_cons]
    rw [List.map_cons] at hn
    have hn' := List.nodup_cons.mp hn
    rcases List.mem_cons.mp h with e | h
    · subst e; rw [if_pos rfl]
    · rw [if_neg (fun z => hn'.1 (by rw [z]; exact List.mem_map.mpr ⟨_, h, rfl⟩))]
      exact ih hn'.2 h
theorem lookG_append {xs ys : List (κ × β)} {k : κ} : lookG (xs ++ ys) k = match lookG xs k with | some d => some d | none => lookG ys k := by
  induction xs with
  | nil => rfl
  | cons p r ih =>
    rw [List.cons_append, lookG_cons, lookG_cons]
    by_cases h : p.1 = k
    · rw [if_pos h, if_pos h]
    · rw [if_neg h, if_neg h]; exact ih
theorem lookG_putG {kvs : List (κ × β)} {k j : κ} {d : β} : lookG (putG kvs k d) j = if j = k then some d else lookG kvs j := by
  unfold putG
  by_cases h : (kvs.any fun p => decide (p.1 = k)) = true
  · rw [if_pos h]
    have hh : (lookG kvs k).isSome = true := by rw [← lookG_any]; exact h
    have key : ∀ kvs : List (κ × β), lookG (kvs.map (fun p => if p.1 = k then (p.1, d) else p)) j = if j = k then (if (lookG kvs k).isSome then some d else none) else lookG kvs j := by
      intro kvs
      induction kvs with
      | nil => simp [lookG]
      | cons p r ih =>
        rw [List.map_cons, lookG_cons, ih]
        by_cases h1 : p.1 = k
        · rw [if_pos h1]
          by_cases h2 : j = k
          · subst h2; rw [if_pos h1, if_pos rfl, lookG_cons, if_pos h1]; rfl
          · rw [if_neg (fun z => h2 (by rw [← h1]; exact z.symm)), if_neg h2, if_neg h2, lookG_cons, if_neg (fun z => h2 (by rw [← h1]; exact z.symm))]
        · rw [if_neg h1]
          by_cases h2 : j = k
          · subst h2; rw [if_neg h1, if_pos rfl, if_pos rfl, lookG_cons, if_neg h1]
          · rw [if_neg h2, if_neg h2, lookG_cons]
    rw [key, hh]; rfl
  · rw [if_neg h, lookG_append]
    have hn : lookG kvs k = none := by
      rw [lookG_any] at h
      cases e : lookG kvs k with
      | none => rfl
      | some z => rw [e] at h; exact absurd rfl h
    by_cases h2 : j = k
    · subst h2; rw [hn, if_pos rfl]; show lookG [(j, d)] j = _; rw [lookG_cons, if_pos rfl]
    · rw [if_neg h2]
      cases e : lookG kvs j with
      | some z => rfl
      | none => show lookG [(k, d)] j = _; rw [lookG_cons, if_neg (fun z => h2 z.symm)]; rfl
theorem putG_new {kvs : List (κ × β)} {k : κ} {d : β} (h : lookG kvs k = none) : putG kvs k d = kvs ++ [(k, d)] := by
  unfold putG
  rw [lookG_any, h]; rfl
theorem setG_eq {kvs : List (κ × β)} {k : κ} {d : β} : setG kvs k d = if (lookG kvs k).isSome then kvs else kvs ++ [(k, d)] := by
  unfold setG
  by_cases h : (lookG kvs k).isSome = true
  · rw [if_pos h, if_pos h]
  · rw [if_neg h, if_neg h]
    refine putG_new ?_
    cases e : lookG kvs k with
    | none => rfl
    | some z => rw [e] at h; exact absurd rfl h
theorem lookG_setG {kvs : List (κ × β)} {k j : κ} {d : β} : lookG (setG kvs k d) j = match lookG kvs j with | some z => some z | none => if j = k then some d else none := by
  rw [setG_eq]
  by_cases h : (lookG kvs k).isSome = true
  · rw [if_pos h]
    cases e : lookG kvs j with
    | some z => rfl
    | none =>
      have : ¬ j = k := fun z => by subst z; rw [e] at h; cases h
      simp [this]
  · rw [if_neg h, lookG_append]
    cases e : lookG kvs j with
    | some z => rfl
    | none =>
      show lookG [(k, d)] j = if j = k then some d else none
      rw [lookG_cons]
      by_cases h2 : j = k
      · subst h2; rw [if_pos rfl, if_pos rfl]
      · rw [if_neg (fun z => h2 z.symm), if_neg h2]; rfl
def encG (g : κ → κ') (f : β → PyData) (kvs : List (κ × β)) : List (κ' × PyData) := kvs.map fun p => (g p.1, f p.2)
variable {g : κ → κ'} {f : β → PyData}
omit [DecidableEq κ] [DecidableEq κ'] in
theorem encG_length (kvs : List (κ × β)) : (encG g f kvs).length = kvs.length := List.length_map ..
theorem lookD_enc (hg : ∀ a b, g a = g b → a = b) (kvs : List (κ × β)) (k : κ) : lookD (encG g f kvs) (g k) = (lookG kvs k).map f := by
  induction kvs with
  | nil => rfl
  | cons p r ih =>
    show lookD ((g p.1, f p.2) :: encG g f r) (g k) = _
    rw [lookD_cons, lookG_cons, ih]
    by_cases h : p.1 = k
    · rw [if_pos h, if_pos (by rw [h])]; rfl
    · rw [if_neg h, if_neg (fun z => h (hg _ _ z))]
theorem putD_enc (hg : ∀ a b, g a = g b → a = b) (kvs : List (κ × β)) (k : κ) (d : β) : putD (encG g f kvs) (g k) (f d) = encG g f (putG kvs k d) := by
  have e : ((encG g f kvs).any fun p => decide (p.1 = g k)) = kvs.any fun p => decide (p.1 = k) := by
    unfold encG
    rw [List.any_map]
    congr 1
    funext p
    show decide (g p.1 = g k) = decide (p.1 = k)
    by_cases h : p.1 = k
    · rw [h]; simp
    · have h' : ¬ g p.1 = g k := fun z => h (hg _ _ z)
      simp [h, h']
  unfold putD putG
  rw [e]
  split
  · unfold encG
    rw [List.map_map, List.map_map]
    congr 1
    funext p
    show (if g p.1 = g k then (g p.1, f d) else (g p.1, f p.2)) = (fun p => (g p.1, f p.2)) (if p.1 = k then (p.1, d) else p)
    by_cases h : p.1 = k
    · rw [if_pos h, if_pos (by rw [h])]
    · rw [if_neg h, if_neg (fun z => h (hg _ _ z))]
  · unfold encG
    rw [List.map_append]; rfl
theorem setD_enc (hg : ∀ a b, g a = g b → a = b) (kvs : List (κ × β)) (k : κ) (d : β) : setD (encG g f kvs) (g k) (f d) = encG g f (setG kvs k d) := by
  unfold setD setG
  rw [lookD_enc hg, Option.isSome_map]
  split
  · rfl
  · exact putD_enc hg kvs k d
theorem mergeD_enc (hg : ∀ a b, g a = g b → a = b) : ∀ (more kvs : List (κ × β)), mergeD (encG g f kvs) (encG g f more) = encG g f (mergeG kvs more)
  | [], _ => rfl
  | p :: r, kvs => by
    show mergeD (putD (encG g f kvs) (g p.1) (f p.2)) (encG g f r) = encG g f (mergeG (putG kvs p.1 p.2) r)
    rw [putD_enc hg]; exact mergeD_enc hg r _
end

/-! ### shapes that may be compared -/
def Sk (x : Str) : Prop := PyData.strOk x = true
def Ni (n : Nat) (d : PyData) : Prop := d.canLay0 = true ∧ d.depth ≤ n
theorem Ni.nice {n : Nat} {d : PyData} (h : Ni n d) (hn : n ≤ 64 := by decide) : Nice d := by
  show (d.canLay0 && decide (d.depth ≤ 64)) = true
  rw [h.1, decide_eq_true (Nat.le_trans h.2 hn)]; rfl
theorem Ni.mono {n m : Nat} {d : PyData} (h : Ni n d) (hn : n ≤ m) : Ni m d := ⟨h.1, Nat.le_trans h.2 hn⟩
theorem ni_int {n : Nat} (i : Int) : Ni n (.int i) := ⟨by simp [PyData.canLay0], by simp [PyData.depth]⟩
theorem ni_non {n : Nat} : Ni n .none := ⟨by simp [PyData.canLay0], by simp [PyData.depth]⟩
theorem ni_str {n : Nat} {x : Str} (h : Sk x) : Ni n (.str x) := ⟨by simp only [PyData.canLay0]; exact h, by simp [PyData.depth]⟩
theorem ni_all {n : Nat} : ∀ {ds : List PyData}, (∀ d ∈ ds, Ni n d) → PyData.canLayAll0 ds = true ∧ PyData.depthAll ds ≤ n
  | [], _ => ⟨by simp [PyData.canLayAll0], by simp [PyData.depthAll]⟩
  | d :: ds, h => by
    have h1 := h d List.mem_cons_self
    have h2 := ni_all fun x hx => h x (List.mem_cons_of_mem _ hx)
    refine ⟨by simp only [PyData.canLayAll0, h1.1, h2.1]; rfl, ?_⟩
    have h3 := h1.2
    have h4 := h2.2
    simp only [PyData.depthAll]
    omega
theorem ni_tup {n : Nat} {ds : List PyData} (h : ∀ d ∈ ds, Ni n d) : Ni (n + 1) (.tuple ds) := by
  have h2 := ni_all h
  refine ⟨by simp only [PyData.canLay0]; exact h2.1, ?_⟩
  have h4 := h2.2
  simp only [PyData.depth]
  omega
theorem ni_lst {n : Nat} {ds : List PyData} (h : ∀ d ∈ ds, Ni n d) : Ni (n + 1) (.list ds) := by
  have h2 := ni_all h
  refine ⟨by simp only [PyData.canLay0]; exact h2.1, ?_⟩
  have h4 := h2.2
  simp only [PyData.depth]
  omega

/-! ### the data of the program -/
abbrev Nm := HwB.N3
abbrev nK := HwB.n3K
abbrev nD := HwB.n3D
theorem nK_inj : ∀ a b : Nm, nK a = nK b → a = b := by
  rintro ⟨a1, a2, a3⟩ ⟨b1, b2, b3⟩ h
  simp only [nK, HwB.n3K, List.cons.injEq, Sum.inr.injEq, Sum.inl.injEq, and_true] at h
  obtain ⟨h1, h2, h3⟩ := h
  rw [h1, h2, h3]
theorem nK_D (n : Nm) : PyData.tuple ((nK n).map kD) = nD n := rfl
structure Letter where
  house : Str
  deal : Str
  nr : Int
  prev : Int
  gots : List Nm
  time : Int
  deed : PyData
def Letter.name (l : Letter) : Nm := (l.house, l.deal, l.nr)
abbrev ltA (l : Letter) : List PyData := [.str l.house, .str l.deal, .int l.nr, .int l.prev, .tuple (l.gots.map nD), .int l.time, l.deed]
def ltD (l : Letter) : PyData := .tuple (ltA l)
structure LtOk (l : Letter) : Prop where
  h : Sk l.house
  d : Sk l.deal
  g : ∀ n ∈ l.gots, Sk n.1 ∧ Sk n.2.1
  e : Ni 1 l.deed
  m : l.gots.length ≤ 10
theorem ni_nm {n : Nm} (h : Sk n.1 ∧ Sk n.2.1) : Ni 1 (nD n) := ni_tup fun d hd => by
  simp only [List.mem_cons, List.not_mem_nil, or_false] at hd
  rcases hd with rfl | rfl | rfl
  · exact ni_str h.1
  · exact ni_str h.2
  · exact ni_int _
theorem LtOk.ni {l : Letter} (h : LtOk l) : Ni 3 (ltD l) := ni_tup fun d hd => by
  simp only [List.mem_cons, List.not_mem_nil, or_false] at hd
  rcases hd with rfl | rfl | rfl | rfl | rfl | rfl | rfl
  · exact ni_str h.h
  · exact ni_str h.d
  · exact ni_int _
  · exact ni_int _
  · refine ni_tup fun d hd => ?_
    obtain ⟨n, hn, rfl⟩ := List.mem_map.mp hd
    exact ni_nm (h.g n hn)
  · exact ni_int _
  · exact h.e.mono (by decide)
theorem ni_lts {ls : List Letter} (h : ∀ l ∈ ls, LtOk l) : Ni 4 (.list (ls.map ltD)) := ni_lst fun d hd => by
  obtain ⟨l, hl, rfl⟩ := List.mem_map.mp hd
  exact (h l hl).ni
inductive Evt where
  | joined (h : Nat)
  | said (h : Nat) (w : Str)
  | did (k c : Nat) (p : Int)
def evD : Evt → PyData
  | .joined h => .tuple [.str "joined", .int h]
  | .said h w => .tuple [.str "said", .int h, .str w]
  | .did k c p => .tuple [.str "did", .int k, .int c, .int p]
structure Cla where
  deb : Nat
  cre : Nat
  parts : Int
  within : Int
  conds : List Evt
  leave : Option (Evt × Int)
def leaveD : Option (Evt × Int) → PyData
  | none => .tuple []
  | some (e, n) => .tuple [evD e, .int n]
abbrev clA (c : Cla) : List PyData := [.int c.deb, .int c.cre, .int c.parts, .int c.within, .tuple (c.conds.map evD), leaveD c.leave]
def claD (c : Cla) : PyData := .tuple (clA c)
structure Deal where
  houses : List Str
  others : List Str
  close : Int
  clauses : List Cla
def sD (xs : List Str) : PyData := .tuple (xs.map .str)
abbrev dlA (d : Deal) : List PyData := [sD d.houses, sD d.others, .int d.close, .tuple (d.clauses.map claD)]
def dealD (d : Deal) : PyData := .tuple (dlA d)
structure Town where
  span : Int
  deals : List (Str × Deal)
def sK (x : Str) : Key := .inr x
theorem sK_inj : ∀ a b : Str, sK a = sK b → a = b := fun a b h => by
  have h' : (Sum.inr a : Int ⊕ Str) = Sum.inr b := h
  exact Sum.inr.inj h'
def DealsP (t : Town) : MP := DKP (encG sK dealD t.deals)
def TownP (t : Town) : MP := TupP [D (.int t.span), DealsP t]
abbrev Nd := List (Nm × Letter)
def NdP (nd : Nd) : MP := DTP (encG nK ltD nd)
abbrev Pl := List (Nm × Nat)
def nI (n : Nat) : PyData := .int n
def PlP (pl : Pl) : MP := DTP (encG nK nI pl)
def oN : Option Nat → PyData
  | none => .none
  | some n => .int n
theorem oN_oD (o : Option Nat) : oN o = oD (o.map Int.ofNat) := by cases o <;> rfl
def nO : Option Nm → PyData
  | none => .none
  | some n => nD n
/-- names and letters fit -/
structure NdOk (nd : Nd) : Prop where
  key : ∀ p ∈ nd, p.2.name = p.1
  ok : ∀ p ∈ nd, LtOk p.2
  nod : (nd.map (·.1)).Nodup
  len : nd.length ≤ 40
theorem NdOk.look {nd : Nd} (h : NdOk nd) {n : Nm} {l : Letter} (e : lookG nd n = some l) : l.name = n ∧ LtOk l := ⟨h.key _ (lookG_mem e), h.ok _ (lookG_mem e)⟩
def EvtOk (t : Town) (w : Str) (d : Deal) : Evt → Prop
  | .joined h => h < d.houses.length
  | .said h x => h < d.houses.length ∧ Sk x
  | .did k c _ => ∃ o d', (w :: d.others)[k]? = some o ∧ lookG t.deals o = some d' ∧ c < d'.clauses.length
structure ClaOk (t : Town) (w : Str) (d : Deal) (c : Cla) : Prop where
  deb : c.deb < d.houses.length
  cre : c.cre < d.houses.length
  parts : 1 ≤ c.parts ∧ c.parts ≤ 100
  conds : c.conds.length ≤ 100
  ev : ∀ e ∈ c.conds, EvtOk t w d e
  lv : ∀ e n, c.leave = some (e, n) → EvtOk t w d e
structure DealOk (t : Town) (w : Str) (d : Deal) : Prop where
  wk : Sk w
  hs : 1 ≤ d.houses.length ∧ d.houses.length ≤ 8
  hk : ∀ x ∈ d.houses, Sk x
  hn : d.houses.Nodup
  ok : ∀ x ∈ d.others, Sk x
  ol : d.others.length ≤ 10
  cs : 1 ≤ d.clauses.length ∧ d.clauses.length ≤ 12
  cl : ∀ c ∈ d.clauses, ClaOk t w d c
structure TownOk (t : Town) : Prop where
  ne : 1 ≤ t.deals.length ∧ t.deals.length ≤ 7
  nod : (t.deals.map (·.1)).Nodup
  ok : ∀ w d, lookG t.deals w = some d → DealOk t w d
theorem ni_evt {t : Town} {w : Str} {d : Deal} {e : Evt} (h : EvtOk t w d e) : Ni 1 (evD e) := by
  cases e with
  | joined k =>
    refine ni_tup fun d hd => ?_
    simp only [List.mem_cons, List.not_mem_nil, or_false] at hd
    rcases hd with rfl | rfl
    · exact ni_str (by unfold Sk; decide +kernel)
    · exact ni_int _
  | said k x =>
    refine ni_tup fun d hd => ?_
    simp only [List.mem_cons, List.not_mem_nil, or_false] at hd
    rcases hd with rfl | rfl | rfl
    · exact ni_str (by unfold Sk; decide +kernel)
    · exact ni_int _
    · exact ni_str h.2
  | did k c p =>
    refine ni_tup fun d hd => ?_
    simp only [List.mem_cons, List.not_mem_nil, or_false] at hd
    rcases hd with rfl | rfl | rfl | rfl
    · exact ni_str (by unfold Sk; decide +kernel)
    · exact ni_int _
    · exact ni_int _
    · exact ni_int _
end Hw
set_option Elab.async false
set_option linter.all false
set_option maxRecDepth 100000
set_option maxHeartbeats 4000000
namespace Hw
open PySem PySem.Spec L2
abbrev FnP (S : Sx) (x : Str) (st : Stmt) (f : Addr) (fd : FuncData) : Prop := FunD S.K x x (defArgs st) (defBody st) (defScope st) [] [] f fd
abbrev OkF (S : Sx) (k : Nat) (f : Addr) (fd : FuncData) (ps : List Str) (sp : Sp) : Prop := FnOk S.P S.w S.K S.mg S.base CX0 k f fd ps sp
/-- what the names stand for -/
structure Bi (S : Sx) : Prop where
  reversed : S.mg "reversed" = none
  enumerate : S.mg "enumerate" = none
  sorted : S.mg "sorted" = none
  list : S.mg "list" = none
  dict : S.mg "dict" = none
  max : S.mg "max" = none
  min : S.mg "min" = none
  any : S.mg "any" = none
  int : S.mg "int" = none
  len : S.mg "len" = none
  range : S.mg "range" = none
  tuple : S.mg "tuple" = none
abbrev NoR {α : Type} : α → List Rs := fun _ => []
theorem noR {α : Type} (a : α) : ∀ r ∈ (NoR a), r.loc = false := fun _ h => absurd h (by simp)

/-! ### plain things -/
theorem nodup_len {α : Type} [DecidableEq α] : ∀ {l m : List α}, l.Nodup → (∀ x ∈ l, x ∈ m) → l.length ≤ m.length
  | [], _, _, _ => Nat.zero_le _
  | x :: l, m, h1, h2 => by
    have h1' := List.nodup_cons.mp h1
    have hx : x ∈ m := h2 x List.mem_cons_self
    have := nodup_len (l := l) (m := m.erase x) h1'.2 fun y hy => (List.mem_erase_of_ne (fun z => h1'.1 (by rw [← z]; exact hy))).mpr (h2 y (List.mem_cons_of_mem _ hy))
    rw [List.length_erase_of_mem hx] at this
    have hp : 0 < m.length := List.length_pos_of_mem hx
    rw [List.length_cons]
    omega
def byNames (ls : List Letter) : Nd := ls.foldl (fun nd l => putG nd l.name l) []
theorem putG_length {κ β : Type} [DecidableEq κ] (kvs : List (κ × β)) (k : κ) (d : β) : (putG kvs k d).length ≤ kvs.length + 1 := by
  unfold putG
  split
  · rw [List.length_map]; omega
  · rw [List.length_append]; exact Nat.le_refl _
theorem foldl_take {α β : Type} {f : β → α → β} {b : β} {xs : List α} {i : Nat} {x : α} (h : xs[i]? = some x) : (xs.take (i + 1)).foldl f b = f ((xs.take i).foldl f b) x := by
  rw [List.take_add_one, h, List.foldl_append]; rfl
theorem byNames_length (ls : List Letter) : (byNames ls).length ≤ ls.length := by
  unfold byNames
  have : ∀ (ls : List Letter) (nd : Nd), (ls.foldl (fun nd l => putG nd l.name l) nd).length ≤ nd.length + ls.length := by
    intro ls
    induction ls with
    | nil => intro nd; exact Nat.le_refl _
    | cons l ls ih =>
      intro nd
      have h1 := ih (putG nd l.name l)
      have h2 := putG_length nd l.name l
      rw [List.length_cons, List.foldl_cons]
      omega
  have := this ls []
  simpa using this
/-- the row of a name -/
def rowGo (nd : Nd) : Nat → Nm → Nd → Nd
  | 0, _, met => met
  | f + 1, n, met => match lookG nd n with
    | none => met
    | some l => if (lookG met n).isSome then met else rowGo nd f (n.1, n.2.1, l.prev) (met ++ [(n, l)])
def metOf (nd : Nd) (n : Nm) : Nd := rowGo nd (nd.length + 1) n []
def rowOf (nd : Nd) (n : Nm) : List Letter := ((metOf nd n).map (·.2)).reverse
theorem rowGo_stop {nd : Nd} {n : Nm} {met : Nd} (h : lookG nd n = none ∨ (lookG met n).isSome = true) : ∀ f, rowGo nd f n met = met
  | 0 => rfl
  | f + 1 => by
    unfold rowGo
    rcases h with h | h
    · rw [h]
    · cases lookG nd n with
      | none => rfl
      | some l => simp only [h, if_true]
theorem rowGo_step {nd : Nd} {n : Nm} {met : Nd} {l : Letter} {f : Nat} (h1 : lookG nd n = some l) (h2 : (lookG met n).isSome = false) : rowGo nd (f + 1) n met = rowGo nd f (n.1, n.2.1, l.prev) (met ++ [(n, l)]) := by
  show (match lookG nd n with | none => met | some l => if (lookG met n).isSome then met else rowGo nd f (n.1, n.2.1, l.prev) (met ++ [(n, l)])) = _
  rw [h1]
  simp only [h2]
  rfl
structure MetOk (nd met : Nd) : Prop where
  nod : (met.map (·.1)).Nodup
  mem : ∀ p ∈ met, lookG nd p.1 = some p.2
theorem MetOk.len {nd met : Nd} (h : MetOk nd met) : met.length ≤ nd.length := by
  have := nodup_len (l := met.map (·.1)) (m := nd.map (·.1)) h.nod fun x hx => by
    obtain ⟨p, hp, e⟩ := List.mem_map.mp hx
    exact List.mem_map.mpr ⟨_, lookG_mem (h.mem p hp), e⟩
  simpa using this
theorem MetOk.snoc {nd met : Nd} (h : MetOk nd met) {n : Nm} {l : Letter} (h1 : lookG nd n = some l) (h2 : (lookG met n).isSome = false) : MetOk nd (met ++ [(n, l)]) := by
  refine ⟨?_, fun p hp => ?_⟩
  · rw [List.map_append]
    refine List.nodup_append.mpr ⟨h.nod, by simp, fun a ha b hb => ?_⟩
    have eb : b = n := by simpa using hb
    intro e
    rw [e, eb] at ha
    have := lookG_isSome.mpr ha
    rw [h2] at this
    cases this
  · rcases List.mem_append.mp hp with hp | hp
    · exact h.mem p hp
    · have e : p = (n, l) := by simpa using hp
      rw [e]; exact h1
theorem MetOk.nil {nd : Nd} : MetOk nd [] := ⟨List.nodup_nil, fun p hp => absurd hp (by simp)⟩
theorem rowGo_ok {nd : Nd} : ∀ (f : Nat) (n : Nm) (met : Nd), MetOk nd met → MetOk nd (rowGo nd f n met)
  | 0, _, _, h => h
  | f + 1, n, met, h => by
    cases e : lookG nd n with
    | none => rw [rowGo_stop (.inl e)]; exact h
    | some l =>
      cases e2 : (lookG met n).isSome with
      | true => rw [rowGo_stop (.inr e2)]; exact h
      | false => rw [rowGo_step e e2]; exact rowGo_ok f _ _ (h.snoc e e2)
theorem metOf_ok (nd : Nd) (n : Nm) : MetOk nd (metOf nd n) := rowGo_ok _ _ _ .nil
theorem rowOf_mem {nd : Nd} {n : Nm} {l : Letter} (hn : NdOk nd) (h : l ∈ rowOf nd n) : lookG nd l.name = some l := by
  unfold rowOf at h
  rw [List.mem_reverse, List.mem_map] at h
  obtain ⟨p, hp, e⟩ := h
  have h1 := (metOf_ok nd n).mem p hp
  have h2 := hn.look h1
  rw [← e, h2.1]; exact h1
theorem rowOf_length {nd : Nd} {n : Nm} : (rowOf nd n).length ≤ nd.length := by
  unfold rowOf
  rw [List.length_reverse, List.length_map]
  exact (metOf_ok nd n).len

section
variable {S : Sx} {f : Addr} {fd : FuncData}
/-! ### name_of, name_ahead, by_names -/
theorem sc_name_of : FnScope ["letter"] ["letter"] (defScope s_name_of) := ⟨rfl, rfl, rfl, by decide +kernel, rfl, by decide +kernel, by decide +kernel⟩
def SpNameOf : Sp := Spc (NoR (α := Letter)) (fun _ => True) (fun l => [D (ltD l)]) (fun l => D (nD l.name))
theorem ok_name_of (Fd : FnP S "name_of" s_name_of f fd) : OkF S 1 f fd ["letter"] SpNameOf := by
  refine fn_ok Fd sc_name_of (fun _ => rfl) noR fun l _ => ?_
  exact hr_ret (ev_slTto (n := 3) (ev_v 0) ev_int) .rfl
theorem sc_law_name : FnScope ["_law_letter_here"] ["_law_letter_here"] (defScope s_law_name) := ⟨rfl, rfl, rfl, by decide +kernel, rfl, by decide +kernel, by decide +kernel⟩
theorem ok_law_name (Fd : FnP S "_law_name" s_law_name f fd) : OkF S 1 f fd ["_law_letter_here"] SpNameOf := by
  refine fn_ok Fd sc_law_name (fun _ => rfl) noR fun l _ => ?_
  exact hr_ret (ev_slTto (n := 3) (ev_v 0) ev_int) .rfl
def ahead (l : Letter) : Option Nm := if l.prev = 0 then none else some (l.house, l.deal, l.prev)
theorem sc_name_ahead : FnScope ["letter"] ["letter"] (defScope s_name_ahead) := ⟨rfl, rfl, rfl, by decide +kernel, rfl, by decide +kernel, by decide +kernel⟩
def SpAhead : Sp := Spc (NoR (α := Letter)) (fun _ => True) (fun l => [D (ltD l)]) (fun l => D (nO (ahead l)))
theorem ok_name_ahead (Fd : FnP S "name_ahead" s_name_ahead f fd) : OkF S 1 f fd ["letter"] SpAhead := by
  refine fn_ok Fd sc_name_ahead (fun _ => rfl) noR fun l _ => ?_
  refine hr_ifR (et_cmp c_eq (ev_ixT (ev_v 0) ev_int (d := .int l.prev) rfl) ev_int rv_eqI.bo) (fun h => ?_) fun h => ?_
  · have h' : l.prev = 0 := by simpa using h
    refine hr_ret ev_non ?_
    rw [show ahead l = none from if_pos h']
    exact .rfl
  · have h' : ¬ l.prev = 0 := by simpa using h
    refine hr_ret (ev_catT (ev_slTto (n := 2) (ev_v 0) ev_int) (ev_tup (ds := [.int l.prev]) (ea1 (ev_ixT (ev_v 0) ev_int (d := .int l.prev) rfl))) (by simp)) ?_
    rw [show ahead l = some (l.house, l.deal, l.prev) from if_neg h']
    exact .rfl
theorem sc_by_names : FnScope ["pile", "named", "letter"] ["pile"] (defScope s_by_names) := ⟨rfl, rfl, rfl, by decide +kernel, rfl, by decide +kernel, by decide +kernel⟩
def SpByNames : Sp := Spc (NoR (α := List Letter)) (fun ls => ls.length ≤ 1000) (fun ls => [D (.list (ls.map ltD))]) (fun ls => NdP (byNames ls))
theorem ok_by_names (Fd : FnP S "by_names" s_by_names f fd) (cN : Cl S "name_of" 1 SpNameOf) : OkF S 2 f fd ["pile"] SpByNames := by
  refine fn_ok Fd sc_by_names (fun _ => rfl) noR fun ls hl => ?_
  refine hr_newT 1 fun p => ?_
  refine hr_for (ds := ls.map ltD) (itr_L (ev_v 0)) (fun i L' Γ' => ∃ o, L' = [⟨p, DTR (encG nK ltD (byNames (ls.take i))), true⟩] ∧ Γ' = [some (D (.list (ls.map ltD))), some (IsV (.ref p)), o]) ⟨_, rfl, rfl⟩ (fun i d L' Γ' hd ⟨o, hL, hΓ⟩ => ?_) fun L' Γ' ⟨o, hL, hΓ⟩ => ?_
  · subst hL hΓ
    rw [List.getElem?_map] at hd
    cases e : ls[i]? with
    | none => rw [e] at hd; cases hd
    | some l =>
      rw [e] at hd
      cases hd
      refine ⟨[2], _, tg_name 2, ?_⟩
      have hil : i < ls.length := (List.getElem?_eq_some_iff.mp e).1
      refine hr_putT 0 1 (ks := nK l.name) (ev_v 2) (ev_call cN l trivial (ea1 (ev_v 2))) (hr_nil ⟨_, ?_, rfl⟩) ?_
      · show [(⟨p, DTR (putD (encG nK ltD (byNames (ls.take i))) (nK l.name) (ltD l)), true⟩ : Rs)] = _
        rw [putD_enc nK_inj]
        unfold byNames
        rw [foldl_take e]
      · rw [encG_length]
        have := byNames_length (ls.take i)
        rw [List.length_take] at this
        have hl' : ls.length ≤ 1000 := hl
        omega
  · subst hL hΓ
    rw [List.length_map, List.take_length]
    exact hr_freezeT 0 1 (hr_ret (ev_v 1) .rfl)
/-! ### row_in -/
theorem sc_row_in : FnScope ["named", "name", "met"] ["named", "name"] (defScope s_row_in) := ⟨rfl, rfl, rfl, by decide +kernel, rfl, by decide +kernel, by decide +kernel⟩
def SpRow : Sp := Spc (NoR (α := Nd × Nm)) (fun a => a.1.length ≤ 1000) (fun a => [NdP a.1, D (nD a.2)]) (fun a => D (.list ((rowOf a.1 a.2).map ltD)))
theorem ok_row_in (Fd : FnP S "row_in" s_row_in f fd) (b : Bi S) : OkF S 1 f fd ["named", "name"] SpRow := by
  refine fn_ok Fd sc_row_in (fun _ => rfl) noR fun ⟨nd, n0⟩ hl => ?_
  have hl' : nd.length ≤ 1000 := hl
  refine hr_newT 2 fun p => ?_
  refine hr_while (m0 := nd.length + 1) (fun m L' Γ' => ∃ n met, L' = [⟨p, DTR (encG nK ltD met), true⟩] ∧ Γ' = [some (NdP nd), some (D (nD n)), some (IsV (.ref p))] ∧ MetOk nd met ∧ met.length + m = nd.length + 1 ∧ rowGo nd m n met = metOf nd n0) ⟨n0, [], rfl, rfl, .nil, by simp, rfl⟩ ?_
  rintro m L' Γ' ⟨n, met, rfl, rfl, hm, hlen, hgo⟩
  have hml := hm.len
  refine ⟨_, et_w (ew_andB (et_inT (k := nK n) (ev_v 1) (ev_v 0) isDT_G) fun _ => et_notInT (k := nK n) (ev_v 1) (ev_v 2) (isDT_L 0)), fun h => ?_, fun h => ?_⟩
  · rw [lookD_enc nK_inj, lookD_enc nK_inj, Option.isSome_map, Option.isSome_map] at h
    cases e : lookG nd n with
    | none => rw [e] at h; cases h
    | some l =>
      rw [e] at h
      have h2 : (lookG met n).isSome = false := by
        cases q : (lookG met n).isSome with
        | false => rfl
        | true => rw [q] at h; cases h
      obtain ⟨m', rfl⟩ : ∃ m', m = m' + 1 := ⟨m - 1, by omega⟩
      refine hr_putT 0 2 (kvs := encG nK ltD met) (ks := nK n) (d := ltD l) (ev_dgetT (k := nK n) (ev_v 0) isDT_G (ev_v 1) (by rw [lookD_enc nK_inj, e]; rfl)) (ev_v 1) ?_ (by rw [encG_length]; omega)
      have hk : lookD (encG nK ltD (met ++ [(n, l)])) (nK n) = some (ltD l) := by
        rw [lookD_enc nK_inj, lookG_append]
        cases q : lookG met n with
        | some z => rw [q] at h2; cases h2
        | none => show (lookG [(n, l)] n).map ltD = _; rw [lookG_cons, if_pos rfl]; rfl
      have hp : putD (encG nK ltD met) (nK n) (ltD l) = encG nK ltD (met ++ [(n, l)]) := by
        rw [putD_enc nK_inj, putG_new]
        cases q : lookG met n with
        | none => rfl
        | some z => rw [q] at h2; cases h2
      rw [hp]
      refine hr_set 1 (ev_catT (ev_slTto (n := 2) (ev_v 1) ev_int) (ev_tup (ds := [.int l.prev]) (ea1 (ev_ixT (ds := [.str l.house, .str l.deal, .int l.nr, .int l.prev, .tuple (l.gots.map nD), .int l.time, l.deed]) (ev_dgetT (k := nK n) (ev_v 2) (isDT_L 0) (ev_v 1) hk) ev_int rfl))) (by simp)) (hr_nil ?_)
      refine ⟨m', by omega, (n.1, n.2.1, l.prev), met ++ [(n, l)], rfl, rfl, hm.snoc e h2, by rw [List.length_append]; simp; omega, ?_⟩
      rw [← hgo, rowGo_step e h2]
  · rw [lookD_enc nK_inj, lookD_enc nK_inj, Option.isSome_map, Option.isSome_map] at h
    have hs : rowGo nd m n met = met := by
      refine rowGo_stop ?_ m
      cases e : lookG nd n with
      | none => exact .inl rfl
      | some l =>
        rw [e] at h
        right
        cases q : (lookG met n).isSome with
        | true => rfl
        | false => rw [q] at h; cases h
    refine hr_ret (ev_listRev b.list b.reversed (ev_listVals b.list (ev_v 2) (isDT_L 0))) ?_
    rw [show rowOf nd n0 = (met.map (·.2)).reverse from by unfold rowOf; rw [← hgo, hs]]
    rw [List.map_reverse, List.map_map]
    unfold encG
    rw [List.map_map]
    exact .rfl
end
end Hw
set_option Elab.async false
set_option linter.all false
set_option maxRecDepth 100000
set_option maxHeartbeats 1000000
namespace Hw
open PySem PySem.Spec L2

/-- a natural number below n -/
def LtP (n : Nat) : MP := Xp (fun r : Nat => r < n) fun r => D (.int (r : Nat))
theorem ltP_of {n : Nat} : (IntP fun r => 0 ≤ r ∧ r < (n : Int)).le (LtP n) := fun G v ⟨r, ⟨h1, h2⟩, p⟩ => ⟨r.toNat, by omega, by
  show Dg G v (.int ((r.toNat : Nat) : Int))
  rw [Int.toNat_of_nonneg h1]; exact p⟩
/-- the script: a list of numbers, tracked, frozen or of the module -/
theorem sqL_same {K : PySem.W.Frag} {G G' : Hp} {a : Addr} {xs : List V} (e : Same G G') (h : SqL K G a xs) : SqL K G' a xs := h.imp (fun h => h.imp (fun h => e _ _ h) fun ⟨o, h⟩ => ⟨o, e _ _ h⟩) fun h => h
theorem sqL_sub {K : PySem.W.Frag} {G H : Hp} {a : Addr} {xs : List V} (s : Sub G H) (h : SqL K G a xs) : SqL K H a xs := h.imp (fun h => h.imp (fun h => s.lst h) fun ⟨o, h⟩ => ⟨o, s.frz h⟩) fun h => h
def ScrP (K : PySem.W.Frag) (ns : List Int) : MP := ⟨fun G v => ∃ a, v = .ref a ∧ SqL K G a (ns.map V.int), fun e ⟨a, h1, h2⟩ => ⟨a, h1, sqL_same e h2⟩⟩
section
variable {F : Fx} {L : List Rs} {Γ : Ty} {a b : Expr} {pos p1 : Pos}
theorem ev_ixScr {ns : List Int} {k : Nat} (hk : k < ns.length) (ha : Ev F L Γ a (ScrP F.K ns)) (hb : Ev F L Γ b (D (.int (k : Nat)))) (hs : PlainIx b := by exact fun _ _ => rfl) : Ev F L Γ (.Subscript a b pos) (D (.int (ns.getD k 0))) :=
  we_op (r := rIxL F.K) (fun X hX => by rw [← hX.K]; exact pe_ix ix_list (pe_we hX) (pe_we hX) hs) ha hb fun E Γ σ G H T v w p1 p2 K kk => by
    obtain ⟨x, rfl, h1⟩ := p1
    refine ⟨x, ns.map V.int, (k : Nat), .int (ns.getD k 0), rfl, p2.int_eq, sqL_sub T.sub h1, atI_nat ?_, kk _ G H .refl T (.int _)⟩
    rw [List.getElem?_map, List.getElem?_eq_getElem hk, List.getD, List.getElem?_eq_getElem hk]; rfl
theorem ev_lenScr {ns : List Int} (hm : F.mg "len" = none) (ha : Ev F L Γ a (ScrP F.K ns)) (hg : F.sc.names.lookup ("len" : Str) = some .globalImplicit := by rfl) (he : ∀ env, starEach [a] env = (false, eval a env) :: starEach [] env := by intro _; rfl) : Ev F L Γ (.Call (.Name "len" p1) [a] [] pos) (D (.int ns.length)) :=
  ev_callB (fun X hX => by have := @call_len_seq X; rw [hX.K] at this; exact this) hm (ea1 ha he) (fun E Γ σ G H T vs q K k => by
    obtain ⟨v, rfl, p⟩ := psa1 q
    obtain ⟨x, rfl, h1⟩ := p
    exact ⟨x, ns.map V.int, rfl, .inl (sqL_sub T.sub h1), by rw [List.length_map]; exact k _ G H .refl T (.int _)⟩) PySem.boot_len hg (by decide) (by decide) he (by intro _; rfl)
end
section
variable {S : Sx} {f : Addr} {fd : FuncData}
theorem sc_cell : FnScope ["_law_script", "_law_k"] ["_law_script", "_law_k"] (defScope s_law_cell_at) := ⟨rfl, rfl, rfl, by decide +kernel, rfl, by decide +kernel, by decide +kernel⟩
def SpCell (K : PySem.W.Frag) : Sp := Spc (NoR (α := List Int × Nat)) (fun _ => True) (fun a => [ScrP K a.1, D (.int (a.2 : Nat))]) (fun a => D (.int (a.1.getD a.2 0)))
theorem ok_cell (Fd : FnP S "_law_cell_at" s_law_cell_at f fd) (b : Bi S) : OkF S 1 f fd ["_law_script", "_law_k"] (SpCell S.K) := by
  refine fn_ok Fd sc_cell (fun _ => rfl) noR fun ⟨ns, k⟩ _ => ?_
  refine hr_ifR (et_cmp c_lt (ev_v 1) (ev_lenScr b.len (ev_v 0)) rv_lt.bo) (fun h => ?_) fun h => ?_
  · have hk : k < ns.length := by simpa using h
    exact hr_ret (ev_ixScr hk (ev_v 0) (ev_v 1)) .rfl
  · have hk : ¬ k < ns.length := by simpa using h
    refine hr_ret ev_int ?_
    rw [show ns.getD k 0 = 0 from by simp [hk]]
    exact .rfl
def SpPick : Sp := Spc (fun a : Addr × Nat => [⟨a.1, LeftR, false⟩]) (fun a => 0 < a.2 ∧ a.2 ≤ 1000000) (fun a => [IsV (.ref a.1), D (.int (a.2 : Nat))]) (fun a => LtP a.2)
theorem sc_pick : FnScope ["_law_left_here", "_law_many", "_law_digit"] ["_law_left_here", "_law_many"] (defScope s_law_pick) := ⟨rfl, rfl, rfl, by decide +kernel, rfl, by decide +kernel, by decide +kernel⟩
theorem ok_pick (Fd : FnP S "_law_pick" s_law_pick f fd) : OkF S 1 f fd ["_law_left_here", "_law_many"] SpPick := by
  refine fn_ok Fd sc_pick (fun _ => rfl) (fun a r h => by have e : r = ⟨a.1, LeftR, false⟩ := by simpa using h
                                                          rw [e]) fun ⟨l, many⟩ hok => ?_
  obtain ⟨h0, h1⟩ : 0 < many ∧ many ≤ 1000000 := hok
  refine hr_ifR (T := fun _ => True) (et_cmp c_gt (ev_left0 0 (ev_v 0) ev_int) ev_int (rv_exL fun i _ => rv_gt.le (BoolP.of True.intro))) (fun _ => ?_) fun _ => ?_
  · refine hr_set 2 (P := LtP many) ((ev_modI (φ := fun _ => True) (ψ := (· = (many : Int))) (χ := fun r => 0 ≤ r ∧ r < (many : Int)) (ev_left0 0 (ev_v 0) ev_int) (ev_I (ev_v 1)) fun i j _ hj => ?_).le ltP_of) ?_
    · subst hj
      exact ⟨by omega, Int.emod_nonneg _ (by omega), Int.emod_lt_of_pos _ (by omega)⟩
    · refine hr_left0 0 (ev_fdivR (ev_left0 0 (ev_v 0) ev_int) (ev_v (P := D (.int (many : Nat))) 1) (rv_exL fun i _ => (rv_I (C := CDiv) ⟨by omega, by omega⟩ fun _ => .int _).le (IntP.of True.intro))) (ev_v 0) ev_int ?_
      exact hr_ret (ev_v 2) .rfl
  · refine hr_left1 0 (ev_modI (φ := fun _ => True) (ψ := (· = 2147483647)) (χ := fun z => 0 ≤ z ∧ z < 2147483647) (ev_addI (φ := fun _ => True) (ψ := fun _ => True) (ev_mulI (φ := fun z => 0 ≤ z ∧ z < 2147483647) (ψ := (· = 48271)) (χ := fun _ => True) (ev_left1 0 (ev_v 0) ev_int) (ev_I ev_int) fun i j hi hj => ⟨.inr (by subst hj; decide), True.intro⟩) ((ev_I ev_int).le (IntP.le fun _ _ => True.intro)) fun _ _ _ _ => True.intro) (ev_I ev_int) fun i j _ hj => ?_) (ev_v 0) ev_int ?_
    · subst hj
      exact ⟨by decide, Int.emod_nonneg _ (by decide), Int.emod_lt_of_pos _ (by decide)⟩
    · refine hr_ret ((ev_modI (φ := fun _ => True) (ψ := (· = (many : Int))) (χ := fun r => 0 ≤ r ∧ r < (many : Int)) (ev_modI (φ := fun _ => True) (ψ := (· = 1999999973)) (χ := fun _ => True) (ev_mulI (φ := fun z => 0 ≤ z ∧ z < 2147483647) (ψ := fun z => 0 ≤ z ∧ z < 2147483647) (χ := fun _ => True) (ev_left1 0 (ev_v 0) ev_int) (ev_left1 0 (ev_v 0) ev_int) fun i j hi hj => ⟨.inl (by constructor <;> omega), True.intro⟩) (ev_I ev_int) fun i j _ hj => ⟨by subst hj; decide, True.intro⟩) (ev_I (ev_v 1)) fun i j _ hj => ?_).le ltP_of) .rfl
      subst hj
      exact ⟨by omega, Int.emod_nonneg _ (by omega), Int.emod_lt_of_pos _ (by omega)⟩
def SpLeft (K : PySem.W.Frag) : Sp := SpN (α := List Int × Nat) (fun a => a.2 ≤ 1000) (fun a => [ScrP K a.1, D (.int (a.2 : Nat))]) LeftR
theorem sc_left : FnScope ["_law_script", "_law_k", "_law_cell", "_law_seed"] ["_law_script", "_law_k"] (defScope s_law_left) := ⟨rfl, rfl, rfl, by decide +kernel, rfl, by decide +kernel, by decide +kernel⟩
theorem ok_left (Fd : FnP S "_law_left" s_law_left f fd) (b : Bi S) (cC : Cl S "_law_cell_at" 1 (SpCell S.K)) : OkF S 2 f fd ["_law_script", "_law_k"] (SpLeft S.K) := by
  refine fnN_ok Fd sc_left (fun _ => rfl) fun ⟨ns, k⟩ hok E D' hE hret => ?_
  have hk : k ≤ 1000 := hok
  refine hq_set 2 (P := AnyI) (ev_call cC (ns, k % max 1 ns.length) True.intro (ea2 (ev_v 0) (Ev.eq (ev_mod (i := (k : Nat)) (j := max 1 (ns.length : Int)) (ev_v 1) (ev_max2 b.max ev_int (ev_lenScr (ns := ns) b.len (ev_v 0))) (by omega)) ?_)) (hq := IntP.of True.intro)) ?_
  · show PyData.int ((k : Int) % max 1 (ns.length : Int)) = .int ((k % max 1 ns.length : Nat) : Int)
    congr 1
    rw [Int.natCast_emod]
    congr 1
    omega
  refine hq_set 3 (P := SeedP) (ev_modI (φ := fun _ => True) (ψ := (· = 2147483647)) (χ := fun z => 0 ≤ z ∧ z < 2147483647) (ev_mulI (φ := fun _ => True) (ψ := (· = 48271)) (χ := fun _ => True) (ev_addI (φ := fun _ => True) (ψ := fun _ => True) (ev_addI (φ := fun _ => True) (ψ := fun _ => True) (ev_modI (φ := fun _ => True) (ψ := (· = 2147483629)) (χ := fun _ => True) (ev_v 2) (ev_I ev_int) fun i j _ hj => ⟨by subst hj; decide, True.intro⟩) ((ev_I (ev_mul (ev_mul (i := 7919) (j := (k : Nat)) ev_int (ev_v 1) (.inl (by decide))) (ev_v 1) (.inr ⟨by omega, by omega⟩))).le (IntP.le fun _ _ => True.intro)) fun _ _ _ _ => True.intro) ((ev_I ev_int).le (IntP.le fun _ _ => True.intro)) fun _ _ _ _ => True.intro) (ev_I ev_int) fun i j _ hj => ⟨.inr (by subst hj; decide), True.intro⟩) (ev_I ev_int) fun i j _ hj => ?_) ?_
  · subst hj
    exact ⟨by decide, Int.emod_nonneg _ (by decide), Int.emod_lt_of_pos _ (by decide)⟩
  have fin : Hq { toSx := S, N := ["_law_script", "_law_k", "_law_cell", "_law_seed"], sc := defScope s_law_left, k := 1 } E [] [some (ScrP S.K ns), some (D (.int (k : Nat))), some AnyI, some SeedP] [(defBody s_law_left).getD 3 (.Pass ⟨0, 0, 0, 0⟩)] D' := by
    refine hq_retL (Ps := [AnyI, SeedP]) (ea2 (ev_modI (φ := fun _ => True) (ψ := (· = 10 ^ 40)) (χ := fun _ => True) (ev_v 2) ((ev_I (ev_pow (i := 10) (j := 40) ev_int ev_int ⟨by decide, by decide, by decide⟩)).le (IntP.le fun z h => by rw [h]; rfl)) fun i j _ hj => ⟨by subst hj; decide, True.intro⟩) (ev_v 3)) (by decide) fun σ G H p vs T hp q => ?_
    obtain ⟨v, w, e, ⟨i, _, p1⟩, ⟨j, hj, p2⟩⟩ := psa2 q
    refine hret G H p _ T.stp T.sub hp ⟨i, j, ?_, hj.1, hj.2⟩
    rw [e, Dg.int_eq p1, Dg.int_eq p2]
  refine hq_ifT (T := fun _ => True) (et_cmp c_eq (ev_mod (i := ns.getD 0 0) (j := 2) (ev_call (Q := D (.int (ns.getD 0 0))) cC (ns, 0) True.intro (ea2 (ev_v 0) ev_int)) ev_int (by decide)) ev_int (rv_eqI.le (BoolP.of True.intro))) (fun _ => ?_) fun _ => fin
  refine hq_set 2 (P := AnyI) (ev_int.le (IntP.of True.intro)) (hq_nil fun σ G H T => fin σ G H T)
end
end Hw
set_option Elab.async false
set_option linter.all false
set_option maxRecDepth 100000
set_option maxHeartbeats 4000000
namespace Hw
open PySem PySem.Spec L2

/-! ### letters compared -/
theorem eqv_str {x y : Str} : PyData.eqv (.str x) (.str y) = decide (x = y) := by
  show (x == y) = _
  by_cases h : x = y
  · subst h; simp
  · simp [h]
theorem eqv_int {i j : Int} : PyData.eqv (.int i) (.int j) = decide (i = j) := by
  show (i == j) = _
  by_cases h : i = j
  · subst h; simp
  · simp [h]
theorem eqv_name {a b : Letter} (h : PyData.eqv (ltD a) (ltD b) = true) : a.name = b.name := by
  have h' : (PyData.eqv (.str a.house) (.str b.house) && (PyData.eqv (.str a.deal) (.str b.deal) && (PyData.eqv (.int a.nr) (.int b.nr) && PyData.eqvAll [.int a.prev, .tuple (a.gots.map nD), .int a.time, a.deed] [.int b.prev, .tuple (b.gots.map nD), .int b.time, b.deed]))) = true := h
  rw [Bool.and_eq_true, Bool.and_eq_true, Bool.and_eq_true, eqv_str, eqv_str, eqv_int] at h'
  obtain ⟨h1, h2, h3, _⟩ := h'
  unfold Letter.name
  rw [of_decide_eq_true h1, of_decide_eq_true h2, of_decide_eq_true h3]
theorem eqv_self {n : Nat} {d : PyData} (h : Ni n d) : PyData.eqv d d = true := SeqAt.eqv_refl d h.1
theorem lt_any {nd met : Nd} (hn : NdOk nd) (hm : MetOk nd met) {n : Nm} {l : Letter} (h : lookG nd n = some l) : ((met.map fun p => ltD p.2).any fun z => PyData.eqv z (ltD l)) = (lookG met n).isSome := by
  have hl := hn.look h
  cases e : (lookG met n).isSome with
  | true =>
    obtain ⟨p, hp, e1⟩ := List.mem_map.mp (lookG_isSome.mp e)
    have h2 := hm.mem p hp
    rw [e1, h] at h2
    have e2 := Option.some.inj h2
    refine List.any_eq_true.mpr ⟨ltD p.2, List.mem_map.mpr ⟨p, hp, rfl⟩, ?_⟩
    rw [← e2]; exact eqv_self hl.2.ni
  | false =>
    refine Bool.eq_false_iff.mpr fun h3 => ?_
    obtain ⟨z, hz, h4⟩ := List.any_eq_true.mp h3
    obtain ⟨p, hp, rfl⟩ := List.mem_map.mp hz
    have h5 := eqv_name h4
    have h6 := hn.look (hm.mem p hp)
    rw [h6.1, hl.1] at h5
    have : (lookG met n).isSome = true := lookG_isSome.mpr (List.mem_map.mpr ⟨p, hp, h5⟩)
    rw [e] at this; cases this
section
variable {F : Fx} {L : List Rs} {P : MP}
/-- in a local list -/
theorem rv_inR (k : Nat) {p : Addr} {bb : Bool} {d : PyData} {ds : List PyData} (h1 : Nice d) (h2 : Nice (.list ds)) (hk : L[k]? = some ⟨p, ListR ds, bb⟩ := by rfl) : Rv L (rInD F.K) (D d) (IsV (.ref p)) (D (.bool (ds.any fun z => PyData.eqv z d))) := fun E Γ σ G H T x y p1 p2 K kk => by
  obtain ⟨_, o, h3, vs, h4, h5⟩ := T.live.2 _ (List.mem_of_getElem? hk)
  subst h4
  rw [show y = .ref p from p2]
  exact ⟨d, ds, Dg.dp T.sub _ _ p1, .lst (SqL.of h3) (DgA.dp T.sub _ _ h5), h1, h2, kk _ G H .refl T (.bl _)⟩
theorem rv_notInR (k : Nat) {p : Addr} {bb : Bool} {d : PyData} {ds : List PyData} (h1 : Nice d) (h2 : Nice (.list ds)) (hk : L[k]? = some ⟨p, ListR ds, bb⟩ := by rfl) : Rv L (rNotInD F.K) (D d) (IsV (.ref p)) (D (.bool (!ds.any fun z => PyData.eqv z d))) := fun E Γ σ G H T x y p1 p2 K kk => by
  obtain ⟨_, o, h3, vs, h4, h5⟩ := T.live.2 _ (List.mem_of_getElem? hk)
  subst h4
  rw [show y = .ref p from p2]
  exact ⟨d, ds, Dg.dp T.sub _ _ p1, .lst (SqL.of h3) (DgA.dp T.sub _ _ h5), h1, h2, kk _ G H .refl T (.bl _)⟩
end
/-! ### what is seen -/
def seenStep (nd : Nd) (m : Pl) (i : Nat) (l : Letter) : Pl := l.gots.foldl (fun m g => (rowOf nd g).foldl (fun m o => setG m o.name (i + 1)) m) (setG m l.name (i + 1))
def seenOf (nd : Nd) (row : List Letter) : Nat → Pl
  | 0 => []
  | i + 1 => match row[i]? with
    | some l => seenStep nd (seenOf nd row i) i l
    | none => seenOf nd row i
def dfl : Letter := ⟨Str.ofString "", Str.ofString "", 0, 0, [], 0, .none⟩
def sights (nd : Nd) (row : List Letter) : List (Nat × Letter) := (seenOf nd row row.length).map fun p => (p.2, (lookG nd p.1).getD dfl)
def sgD (s : Nat × Letter) : PyData := .tuple [.int s.1, ltD s.2]
structure PlOk (nd : Nd) (m : Pl) : Prop where
  nod : (m.map (·.1)).Nodup
  mem : ∀ p ∈ m, (lookG nd p.1).isSome = true
theorem PlOk.nil {nd : Nd} : PlOk nd [] := ⟨List.nodup_nil, fun p hp => absurd hp (by simp)⟩
theorem PlOk.len {nd : Nd} {m : Pl} (h : PlOk nd m) : m.length ≤ nd.length := by
  have := nodup_len (l := m.map (·.1)) (m := nd.map (·.1)) h.nod fun x hx => by
    obtain ⟨p, hp, e⟩ := List.mem_map.mp hx
    rw [← e]
    exact lookG_isSome.mp (h.mem p hp)
  simpa using this
theorem setG_nod {κ β : Type} [DecidableEq κ] {m : List (κ × β)} {n : κ} {i : β} (h : (m.map (·.1)).Nodup) : ((setG m n i).map (·.1)).Nodup := by
  rw [setG_eq]
  split
  · exact h
  · rename_i h2
    rw [List.map_append]
    refine List.nodup_append.mpr ⟨h, by simp, fun a ha b hb => ?_⟩
    have eb : b = n := by simpa using hb
    intro e
    rw [e, eb] at ha
    exact h2 (lookG_isSome.mpr ha)
theorem setG_mem {κ β : Type} [DecidableEq κ] {m : List (κ × β)} {n : κ} {i : β} {p : κ × β} (h : p ∈ setG m n i) : p ∈ m ∨ (p = (n, i) ∧ lookG m n = none) := by
  rw [setG_eq] at h
  split at h
  · exact .inl h
  · rename_i h2
    rcases List.mem_append.mp h with h | h
    · exact .inl h
    · right
      refine ⟨by simpa using h, ?_⟩
      cases e : lookG m n with
      | none => rfl
      | some z => rw [e] at h2; exact absurd rfl h2
theorem PlOk.set {nd : Nd} {m : Pl} (h : PlOk nd m) {n : Nm} {i : Nat} (hn : (lookG nd n).isSome = true) : PlOk nd (setG m n i) := ⟨setG_nod h.nod, fun p hp => by
  rcases setG_mem hp with hp | ⟨e, _⟩
  · exact h.mem p hp
  · rw [e]; exact hn⟩
section
variable {S : Sx} {f : Addr} {fd : FuncData}
theorem sc_law_row : FnScope ["_law_named_here", "_law_name_here", "_law_line"] ["_law_named_here", "_law_name_here"] (defScope s_law_row) := ⟨rfl, rfl, rfl, by decide +kernel, rfl, by decide +kernel, by decide +kernel⟩
def SpRowL : Sp := Spc (NoR (α := Nd × Nm)) (fun a => NdOk a.1) (fun a => [NdP a.1, D (nD a.2)]) (fun a => D (.list ((rowOf a.1 a.2).map ltD)))
theorem ok_law_row (Fd : FnP S "_law_row" s_law_row f fd) : OkF S 1 f fd ["_law_named_here", "_law_name_here"] SpRowL := by
  refine fn_ok Fd sc_law_row (fun _ => rfl) noR fun ⟨nd, n0⟩ hnd => ?_
  have hnd' : NdOk nd := hnd
  have hl' := hnd'.len
  refine hr_newL 2 fun p => ?_
  refine hr_while (m0 := nd.length + 1) (fun m L' Γ' => ∃ n met, L' = [⟨p, ListR (met.map fun p => ltD p.2), true⟩] ∧ Γ' = [some (NdP nd), some (D (nD n)), some (IsV (.ref p))] ∧ MetOk nd met ∧ met.length + m = nd.length + 1 ∧ rowGo nd m n met = metOf nd n0) ⟨n0, [], rfl, rfl, .nil, by simp, rfl⟩ ?_
  rintro m L' Γ' ⟨n, met, rfl, rfl, hm, hlen, hgo⟩
  have hml := hm.len
  have hni : Ni 4 (.list (met.map fun p => ltD p.2)) := ni_lst fun d hd => by
    obtain ⟨q, hq, rfl⟩ := List.mem_map.mp hd
    exact (hnd'.look (hm.mem q hq)).2.ni
  refine ⟨(· = ((lookG nd n).isSome && !(lookG met n).isSome)), et_w ?_, fun h => ?_, fun h => ?_⟩
  · refine ew_andB ((et_inT (k := nK n) (ev_v 1) (ev_v 0) isDT_G).le fun c h => ?_) fun h => ?_
    · rw [h, lookD_enc nK_inj, Option.isSome_map]
    · cases e : lookG nd n with
      | none => rw [e] at h; cases h
      | some l =>
        refine (et_cmp c_notInD (ev_dgetT (k := nK n) (d := ltD l) (ev_v 0) isDT_G (ev_v 1) (by rw [lookD_enc nK_inj, e]; rfl)) (ev_v 2) (rv_notInR 0 (hnd'.look e).2.ni.nice hni.nice).bo).le fun c h => ?_
        rw [h, lt_any hnd' hm e]
  · have h' := h.symm
    rw [Bool.and_eq_true] at h'
    obtain ⟨h1, h2⟩ := h'
    cases e : lookG nd n with
    | none => rw [e] at h1; cases h1
    | some l =>
      have h2 : (lookG met n).isSome = false := by
        cases q : (lookG met n).isSome with
        | false => rfl
        | true => rw [q] at h2; cases h2
      obtain ⟨m', rfl⟩ : ∃ m', m = m' + 1 := ⟨m - 1, by omega⟩
      refine hr_append 0 2 (ds := met.map fun p => ltD p.2) (d := ltD l) (ev_dgetT (k := nK n) (ev_v 0) isDT_G (ev_v 1) (by rw [lookD_enc nK_inj, e]; rfl)) ?_ (by rw [List.length_map]; omega)
      refine hr_set 1 (ev_catT (ev_slTto (n := 2) (ev_v 1) ev_int) (ev_tup (ds := [.int l.prev]) (ea1 (ev_ixT (ds := [.str l.house, .str l.deal, .int l.nr, .int l.prev, .tuple (l.gots.map nD), .int l.time, l.deed]) (ev_dgetT (k := nK n) (ev_v 0) isDT_G (ev_v 1) (by rw [lookD_enc nK_inj, e]; rfl)) ev_int rfl))) (by simp)) (hr_nil ?_)
      refine ⟨m', by omega, (n.1, n.2.1, l.prev), met ++ [(n, l)], ?_, rfl, hm.snoc e h2, by rw [List.length_append]; simp; omega, ?_⟩
      · rw [List.map_append]; rfl
      · rw [← hgo, rowGo_step e h2]
  · have hs : rowGo nd m n met = met := by
      refine rowGo_stop ?_ m
      cases e : lookG nd n with
      | none => exact .inl rfl
      | some l =>
        rw [e] at h
        right
        cases q : (lookG met n).isSome with
        | true => rfl
        | false => rw [q] at h; cases h
    refine hr_reverse 0 2 (hr_freezeL 0 2 (hr_ret (ev_v 2) ?_))
    rw [show rowOf nd n0 = (met.map (·.2)).reverse from by unfold rowOf; rw [← hgo, hs]]
    rw [List.map_reverse, List.map_map]
    exact .rfl
theorem sc_law_named : FnScope ["_law_pile_here", "_law_letter_here"] ["_law_pile_here"] (defScope s_law_named) := ⟨rfl, rfl, rfl, by decide +kernel, rfl, by decide +kernel, by decide +kernel⟩
theorem ok_law_named (Fd : FnP S "_law_named" s_law_named f fd) (b : Bi S) : OkF S 1 f fd ["_law_pile_here"] SpByNames := by
  refine fn_ok Fd sc_law_named (fun _ => rfl) noR fun ls hl => ?_
  have hl' : ls.length ≤ 1000 := hl
  refine hr_ret (ev_dictT (kvs := encG nK ltD (ls.map fun l => (l.name, l))) b.dict ((ev_lc [("_law_letter_here", 1)] (xs := ls) (enc := ltD) (T := fun _ c => c = true) (P := fun l => D (itemD (nK l.name, ltD l))) (itr_L (ev_v 0)) (by omega) fun i l _ => ?_).le ?_)) ?_
  · exact ⟨_, tg_name 1, ets_nil, fun _ => ev_tup (ds := [nD l.name, ltD l]) (ea2 (ev_slTto (ds := ltA l) (n := 3) (ev_v 1) ev_int) (ev_v 1))⟩
  · refine lc_mapD.trans ?_
    unfold encG
    rw [List.map_map, List.map_map]
    exact .rfl
  · rw [show ([] : List (List Key × PyData)) = encG nK ltD [] from rfl, mergeD_enc nK_inj]
    have : mergeG ([] : Nd) (ls.map fun l => (l.name, l)) = byNames ls := by
      unfold mergeG byNames
      rw [List.foldl_map]
    rw [this]
    exact .rfl
/-! ### seen_along -/
theorem sc_seen_along : FnScope ["named", "letters", "met", "k", "letter", "got", "other", "name", "at"] ["named", "letters"] (defScope s_seen_along) := ⟨rfl, rfl, rfl, by decide +kernel, rfl, by decide +kernel, by decide +kernel⟩
def SpSeen : Sp := Spc (NoR (α := Nd × List Letter)) (fun a => NdOk a.1 ∧ ∀ l ∈ a.2, lookG a.1 l.name = some l) (fun a => [NdP a.1, D (.list (a.2.map ltD))]) (fun a => D (.list ((sights a.1 a.2).map sgD)))
theorem rowFold_ok {nd : Nd} (hn : NdOk nd) {i : Nat} : ∀ (ls : List Letter) (m : Pl), (∀ l ∈ ls, lookG nd l.name = some l) → PlOk nd m → PlOk nd (ls.foldl (fun m o => setG m o.name (i + 1)) m)
  | [], _, _, h => h
  | l :: ls, m, hl, h => rowFold_ok hn ls _ (fun x hx => hl x (List.mem_cons_of_mem _ hx)) (h.set (by rw [hl l List.mem_cons_self]; rfl))
theorem gotFold_ok {nd : Nd} (hn : NdOk nd) {i : Nat} : ∀ (gs : List Nm) (m : Pl), PlOk nd m → PlOk nd (gs.foldl (fun m g => (rowOf nd g).foldl (fun m o => setG m o.name (i + 1)) m) m)
  | [], _, h => h
  | g :: gs, m, h => gotFold_ok hn gs _ (rowFold_ok hn _ _ (fun l hl => rowOf_mem hn hl) h)
theorem seenOf_ok {nd : Nd} (hn : NdOk nd) {row : List Letter} (hr : ∀ l ∈ row, lookG nd l.name = some l) : ∀ i, PlOk nd (seenOf nd row i)
  | 0 => .nil
  | i + 1 => by
    show PlOk nd (match row[i]? with | some l => seenStep nd (seenOf nd row i) i l | none => seenOf nd row i)
    cases e : row[i]? with
    | none => exact seenOf_ok hn hr i
    | some l => exact gotFold_ok hn _ _ ((seenOf_ok hn hr i).set (by rw [hr l (List.mem_of_getElem? e)]; rfl))
theorem ok_seen_along (Fd : FnP S "seen_along" s_seen_along f fd) (b : Bi S) (cN : Cl S "name_of" 1 SpNameOf) (cR : Cl S "row_in" 1 SpRow) : OkF S 2 f fd ["named", "letters"] SpSeen := by
  refine fn_ok Fd sc_seen_along (fun _ => rfl) noR fun ⟨nd, row⟩ hok => ?_
  obtain ⟨hn, hr⟩ : NdOk nd ∧ ∀ l ∈ row, lookG nd l.name = some l := hok
  have hnl := hn.len
  refine hr_newT 2 fun p => ?_
  refine hr_for (ds := enD (row.map ltD)) (itr_enum b.enumerate (ev_v 1)) (fun i L' Γ' => ∃ o3 o4 o5 o6, L' = [⟨p, DTR (encG nK nI (seenOf nd row i)), true⟩] ∧ Γ' = [some (NdP nd), some (D (.list (row.map ltD))), some (IsV (.ref p)), o3, o4, o5, o6, none, none]) ⟨_, _, _, _, rfl, rfl⟩ (fun i d L' Γ' hd hI => ?_) fun L' Γ' hI => ?_
  · obtain ⟨o3, o4, o5, o6, hL, hΓ⟩ := hI
    subst hL hΓ
    obtain ⟨d', hd', e⟩ := enD_get hd
    subst e
    rw [List.getElem?_map] at hd'
    cases e : row[i]? with
    | none => rw [e] at hd'; cases hd'
    | some l =>
      rw [e] at hd'
      cases hd'
      have hl : lookG nd l.name = some l := hr l (List.mem_of_getElem? e)
      have hs : seenOf nd row (i + 1) = seenStep nd (seenOf nd row i) i l := by
        show (match row[i]? with | some l => seenStep nd (seenOf nd row i) i l | none => seenOf nd row i) = _
        rw [e]
      have ok0 := seenOf_ok hn hr i
      refine ⟨[3, 4], _, tg_tup (n := 2) (tgs_cons (tg_name 3) (tgs_cons (tg_name 4) tgs_nil)), ?_⟩
      refine hr_setdefT 0 2 (kvs := encG nK nI (seenOf nd row i)) (ks := nK l.name) (d := nI (i + 1)) (ev_call cN l trivial (ea1 (ev_v 4))) (ev_addN (ev_v 3) ev_int) ?_ (by rw [encG_length]; have := ok0.len; omega)
      rw [setD_enc nK_inj]
      have ok1 : PlOk nd (setG (seenOf nd row i) l.name (i + 1)) := ok0.set (by rw [hl]; rfl)
      refine hr_for (ds := l.gots.map nD) (itr_T (ev_ixT (ev_v 4) ev_int (d := .tuple (l.gots.map nD)) rfl)) (fun j L' Γ' => ∃ o5 o6, L' = [⟨p, DTR (encG nK nI ((l.gots.take j).foldl (fun m g => (rowOf nd g).foldl (fun m o => setG m o.name (i + 1)) m) (setG (seenOf nd row i) l.name (i + 1)))), true⟩] ∧ Γ' = [some (NdP nd), some (D (.list (row.map ltD))), some (IsV (.ref p)), some (D (.int i)), some (D (ltD l)), o5, o6, none, none]) ⟨_, _, rfl, rfl⟩ (fun j d L' Γ' hd hI => ?_) fun L' Γ' hI => ?_
      · obtain ⟨o5, o6, hL, hΓ⟩ := hI
        subst hL hΓ
        rw [List.getElem?_map] at hd
        cases e2 : l.gots[j]? with
        | none => rw [e2] at hd; cases hd
        | some g =>
          rw [e2] at hd
          cases hd
          refine ⟨[5], _, tg_name 5, ?_⟩
          rw [foldl_take e2]
          have ok2 := gotFold_ok hn (i := i) (l.gots.take j) _ ok1
          generalize (l.gots.take j).foldl (fun m g => (rowOf nd g).foldl (fun m o => setG m o.name (i + 1)) m) (setG (seenOf nd row i) l.name (i + 1)) = m at ok2 ⊢
          refine hr_for (ds := (rowOf nd g).map ltD) (itr_L (ev_call cR (nd, g) (by show nd.length ≤ 1000; omega) (ea2 (ev_v 0) (ev_v 5)))) (fun q L' Γ' => ∃ o6, L' = [⟨p, DTR (encG nK nI (((rowOf nd g).take q).foldl (fun m o => setG m o.name (i + 1)) m)), true⟩] ∧ Γ' = [some (NdP nd), some (D (.list (row.map ltD))), some (IsV (.ref p)), some (D (.int i)), some (D (ltD l)), some (D (nD g)), o6, none, none]) ⟨_, rfl, rfl⟩ (fun q d L' Γ' hd hI => ?_) fun L' Γ' hI => ?_
          · obtain ⟨o6, hL, hΓ⟩ := hI
            subst hL hΓ
            rw [List.getElem?_map] at hd
            cases e3 : (rowOf nd g)[q]? with
            | none => rw [e3] at hd; cases hd
            | some o =>
              rw [e3] at hd
              cases hd
              refine ⟨[6], _, tg_name 6, ?_⟩
              rw [foldl_take e3]
              have ok3 := rowFold_ok hn (i := i) ((rowOf nd g).take q) m (fun l hl => rowOf_mem hn (List.mem_of_mem_take hl)) ok2
              generalize ((rowOf nd g).take q).foldl (fun m o => setG m o.name (i + 1)) m = m2 at ok3 ⊢
              refine hr_setdefT 0 2 (kvs := encG nK nI m2) (ks := nK o.name) (d := nI (i + 1)) (ev_call cN o trivial (ea1 (ev_v 6))) (ev_addN (ev_v 3) ev_int) ?_ (by rw [encG_length]; have := ok3.len; omega)
              rw [setD_enc nK_inj]
              exact hr_nil ⟨_, rfl, rfl⟩
          · obtain ⟨o6, hL, hΓ⟩ := hI
            subst hL hΓ
            rw [List.length_map, List.take_length]
            exact hr_nil ⟨_, _, rfl, rfl⟩
      · obtain ⟨o5, o6, hL, hΓ⟩ := hI
        subst hL hΓ
        rw [List.length_map, List.take_length]
        exact hr_nil ⟨_, _, _, _, by rw [hs]; rfl, rfl⟩
  · obtain ⟨o3, o4, o5, o6, hL, hΓ⟩ := hI
    subst hL hΓ
    rw [enD_length, List.length_map]
    have ok0 := seenOf_ok hn hr row.length
    refine hr_freezeT 0 2 ?_
    refine hr_ret ((ev_lcItems 2 [("name", 7), ("at", 8)] (kvs := encG nK nI (seenOf nd row row.length)) (T := fun _ c => c = true) (P := fun x => D (.tuple [x.2, (lookD (encG nK ltD nd) x.1).getD .none])) rfl (by rw [encG_length]; have := ok0.len; omega) fun i x hx => ?_).le ?_) .rfl
    · unfold encG at hx
      rw [List.getElem?_map] at hx
      cases e : (seenOf nd row row.length)[i]? with
      | none => rw [e] at hx; cases hx
      | some q =>
        rw [e] at hx
        cases hx
        obtain ⟨l, hl⟩ := Option.isSome_iff_exists.mp (ok0.mem q (List.mem_of_getElem? e))
        have hk : lookD (encG nK ltD nd) (nK q.1) = some (ltD l) := by rw [lookD_enc nK_inj, hl]; rfl
        refine ⟨_, tg_tup (n := 2) (tgs_cons (tg_name 7) (tgs_cons (tg_name 8) tgs_nil)), ets_nil, fun _ => ?_⟩
        show Ev _ _ _ _ (D (.tuple [nI q.2, (lookD (encG nK ltD nd) (nK q.1)).getD .none]))
        rw [hk]
        exact ev_tup (ds := [nI q.2, ltD l]) (ea2 (ev_v 8) (ev_dgetT (k := nK q.1) (ev_v 0) isDT_G (ev_v 7) hk))
    · refine lc_mapD.trans ?_
      have : (encG nK nI (seenOf nd row row.length)).map (fun x => PyData.tuple [x.2, (lookD (encG nK ltD nd) x.1).getD .none]) = (sights nd row).map sgD := by
        unfold encG sights
        rw [List.map_map, List.map_map]
        refine List.map_congr_left fun q hq => ?_
        obtain ⟨l, hl⟩ := Option.isSome_iff_exists.mp (ok0.mem q hq)
        show PyData.tuple [nI q.2, (lookD (encG nK ltD nd) (nK q.1)).getD .none] = .tuple [.int q.2, ltD ((lookG nd q.1).getD dfl)]
        rw [lookD_enc nK_inj, hl]; rfl
      rw [this]
      exact .rfl
end
end Hw
set_option Elab.async false
set_option linter.all false
set_option maxRecDepth 100000
set_option maxHeartbeats 4000000
namespace Hw
open PySem PySem.Spec L2

theorem atS {xs : List Str} {k : Nat} {o : Str} (h : xs[k]? = some o) : atI (xs.map PyData.str) (k : Int) = some (.str o) := atI_of rfl (by rw [List.getElem?_map, h]; rfl)
theorem atM {α : Type} {f : α → PyData} {xs : List α} {k : Nat} {o : α} (h : xs[k]? = some o) : atI (xs.map f) (k : Int) = some (f o) := atI_of rfl (by rw [List.getElem?_map, h]; rfl)
theorem eqv_2s {a b c d : Str} : PyData.eqv (.tuple [.str a, .str b]) (.tuple [.str c, .str d]) = (decide (a = c) && decide (b = d)) := by
  show (PyData.eqv (.str a) (.str c) && (PyData.eqv (.str b) (.str d) && true)) = _
  rw [eqv_str, eqv_str, Bool.and_true]
theorem ni_2s {a b : Str} (h1 : Sk a) (h2 : Sk b) : Ni 1 (.tuple [.str a, .str b]) := ni_tup fun d hd => by
  simp only [List.mem_cons, List.not_mem_nil, or_false] at hd
  rcases hd with rfl | rfl
  · exact ni_str h1
  · exact ni_str h2
theorem ni_1 {a : PyData} (h1 : Ni 0 a) : Ni 1 (.tuple [a]) := ni_tup fun d hd => by
  simp only [List.mem_cons, List.not_mem_nil, or_false] at hd
  rw [hd]; exact h1
theorem ni_2 {a b : PyData} (h1 : Ni 0 a) (h2 : Ni 0 b) : Ni 1 (.tuple [a, b]) := ni_tup fun d hd => by
  simp only [List.mem_cons, List.not_mem_nil, or_false] at hd
  rcases hd with rfl | rfl
  · exact h1
  · exact h2
theorem ni_3 {a b c : PyData} (h1 : Ni 0 a) (h2 : Ni 0 b) (h3 : Ni 0 c) : Ni 1 (.tuple [a, b, c]) := ni_tup fun d hd => by
  simp only [List.mem_cons, List.not_mem_nil, or_false] at hd
  rcases hd with rfl | rfl | rfl
  · exact h1
  · exact h2
  · exact h3
theorem sk_of {x : Str} (h : PyData.strOk x = true := by decide +kernel) : Sk x := h
/-! ### what an event is -/
def doD (c : Nat) (p : Int) : PyData := .tuple [.str "do", .int c, .int p]
def joinD : PyData := .tuple [.str "join"]
def sayD (x : Str) : PyData := .tuple [.str "say", .str x]
theorem ni_do {c : Nat} {p : Int} : Ni 1 (doD c p) := ni_3 (ni_str sk_of) (ni_int _) (ni_int _)
theorem ni_join : Ni 1 joinD := ni_1 (ni_str sk_of)
theorem ni_say {x : Str} (h : Sk x) : Ni 1 (sayD x) := ni_2 (ni_str sk_of) (ni_str h)
def credOf (d : Deal) (c : Nat) : Str := match d.clauses[c]? with
  | none => Str.ofString ""
  | some cl => d.houses.getD cl.cre (Str.ofString "")
def isDid (t : Town) (w : Str) (d : Deal) (k c : Nat) (p : Int) (l : Letter) : Bool := match (w :: d.others)[k]? with
  | none => false
  | some o => match lookG t.deals o with
    | none => false
    | some d' => if (!decide (l.deal = o) || !PyData.eqv l.deed (doD c p)) = true then false else decide (l.house ∈ d'.houses) && !decide (l.house = credOf d' c)
def isAt (w : Str) (d : Deal) (h : Nat) (l : Letter) : Bool := decide (l.house = d.houses.getD h (Str.ofString "")) && decide (l.deal = w)
def isEv (t : Town) (w : Str) (d : Deal) (e : Evt) (l : Letter) : Bool := match e with
  | .joined h => isAt w d h l && PyData.eqv l.deed joinD
  | .said h x => isAt w d h l && PyData.eqv l.deed (sayD x)
  | .did k c p => isDid t w d k c p l
theorem did_at {t : Town} (ht : TownOk t) {w : Str} {d : Deal} {k c : Nat} {p : Int} (h : EvtOk t w d (.did k c p)) : ∃ o d' cl cr, (w :: d.others)[k]? = some o ∧ lookG t.deals o = some d' ∧ DealOk t o d' ∧ d'.clauses[c]? = some cl ∧ d'.houses[cl.cre]? = some cr ∧ credOf d' c = cr := by
  obtain ⟨o, d', h1, h2, h3⟩ := h
  have hd := ht.ok o d' h2
  have hc : d'.clauses[c]? = some d'.clauses[c] := List.getElem?_eq_getElem h3
  have hcl := hd.cl d'.clauses[c] (List.getElem_mem h3)
  have hcr : d'.houses[(d'.clauses[c]).cre]? = some (d'.houses[(d'.clauses[c]).cre]'hcl.cre) := List.getElem?_eq_getElem hcl.cre
  refine ⟨o, d', _, _, h1, h2, hd, hc, hcr, ?_⟩
  unfold credOf
  rw [hc]
  simp only [List.getD, hcr]
  rfl
theorem house_at {d : Deal} {h : Nat} (hh : h < d.houses.length) : d.houses[h]? = some (d.houses.getD h (Str.ofString "")) := by
  rw [List.getElem?_eq_getElem hh, List.getD, List.getElem?_eq_getElem hh]; rfl
/-! ### places -/
def placeOf (q : Letter → Bool) (sg : List (Nat × Letter)) : Option Nat := (sg.find? fun s => q s.2).map (·.1)
theorem find_at {α : Type} {q : α → Bool} {xs : List α} {i : Nat} {x : α} (h : xs[i]? = some x) (h1 : ∀ y ∈ xs.take i, q y = false) (h2 : q x = true) : xs.find? q = some x := by
  have e : xs = xs.take i ++ x :: xs.drop (i + 1) := by
    obtain ⟨hi, hx⟩ := List.getElem?_eq_some_iff.mp h
    rw [← hx, List.getElem_cons_drop, List.take_append_drop]
  rw [e, List.find?_append, List.find?_eq_none.mpr (fun y hy => by rw [h1 y hy]; decide), List.find?_cons, h2]
  rfl
def minO : List Nat → Option Nat
  | [] => none
  | x :: xs => some (xs.foldl min x)
theorem foldl_min : ∀ (xs : List Nat) (x : Nat), xs.foldl min x ∈ x :: xs ∧ ∀ y ∈ x :: xs, xs.foldl min x ≤ y
  | [], x => ⟨List.mem_cons_self, fun y hy => by
    have e : y = x := by simpa using hy
    rw [e]; exact Nat.le_refl _⟩
  | z :: xs, x => by
    obtain ⟨h1, h2⟩ := foldl_min xs (min x z)
    rw [List.foldl_cons]
    refine ⟨?_, fun y hy => ?_⟩
    · rcases List.mem_cons.mp h1 with h | h
      · rw [h]
        by_cases hz : x ≤ z
        · rw [Nat.min_eq_left hz]; exact List.mem_cons_self
        · rw [Nat.min_eq_right (by omega)]; exact List.mem_cons_of_mem _ List.mem_cons_self
      · exact List.mem_cons_of_mem _ (List.mem_cons_of_mem _ h)
    · have h3 := h2 (min x z) List.mem_cons_self
      rcases List.mem_cons.mp hy with h | h
      · subst h; omega
      · rcases List.mem_cons.mp h with h | h
        · subst h; omega
        · exact h2 y (List.mem_cons_of_mem _ h)
theorem minO_some {xs : List Nat} {m : Nat} (h : minO xs = some m) : m ∈ xs ∧ ∀ y ∈ xs, m ≤ y := by
  cases xs with
  | nil => cases h
  | cons x xs =>
    have e : xs.foldl min x = m := Option.some.inj h
    rw [← e]; exact foldl_min xs x
theorem minO_none {xs : List Nat} (h : minO xs = none) : xs = [] := by
  cases xs with
  | nil => rfl
  | cons x xs => cases h
def minPlace (q : Letter → Bool) (sg : List (Nat × Letter)) : Option Nat := minO ((sg.filter fun s => q s.2).map (·.1))
theorem eqv_nil {ds : List PyData} : PyData.eqv (.list ds) (.list []) = ds.isEmpty := by
  cases ds <;> rfl
theorem oN_map (xs : List Nat) : xs.map nI = (xs.map Int.ofNat).map PyData.int := by rw [List.map_map]; rfl
section
variable {S : Sx} {f : Addr} {fd : FuncData}
abbrev EvArg := Town × Str × Deal × Evt × Letter
structure EvArgOk (a : EvArg) : Prop where
  t : TownOk a.1
  d : lookG a.1.deals a.2.1 = some a.2.2.1
  e : EvtOk a.1 a.2.1 a.2.2.1 a.2.2.2.1
  l : LtOk a.2.2.2.2
def SpIs : Sp := Spc (NoR (α := EvArg)) EvArgOk (fun a => [TownP a.1, D (.str a.2.1), D (evD a.2.2.2.1), D (ltD a.2.2.2.2)]) (fun a => D (.bool (isEv a.1 a.2.1 a.2.2.1 a.2.2.2.1 a.2.2.2.2)))
structure DidArgOk (a : EvArg) : Prop extends EvArgOk a where
  did : ∃ k c p, a.2.2.2.1 = .did k c p
def SpDid : Sp := Spc (NoR (α := EvArg)) DidArgOk (fun a => [TownP a.1, D (.str a.2.1), D (evD a.2.2.2.1), D (ltD a.2.2.2.2)]) (fun a => D (.bool (isEv a.1 a.2.1 a.2.2.1 a.2.2.2.1 a.2.2.2.2)))
section
variable {F : Fx} {L : List Rs} {Γ : Ty} {e a b c : Expr} {pos p1 p2 : Pos} {t : Town} {w : Str} {d : Deal}
/-- town[1][w] -/
theorem ev_deal (ha : Ev F L Γ a (TownP t)) (hb : Ev F L Γ b (D (.str w))) (hd : lookG t.deals w = some d) (h1 : NoSl b := by exact fun _ _ => rfl) {j : Nat} (h2 : PlainIx (.Constant (.int 1) j p2) := by exact fun _ _ => rfl) : Ev F L Γ (.Subscript (.Subscript a (.Constant (.int 1) j p2) p1) b pos) (D (dealD d)) :=
  ev_dgetK (P := DealsP t) (kvs := encG sK dealD t.deals) (k := sK w) (ev_ixTP (Ps := [D (.int t.span), DealsP t]) (n := 1) ha ev_int rfl h2) isDK_G hb (by rw [lookD_enc sK_inj, hd]; rfl) h1
end
theorem sc_is_did : FnScope ["town", "deal", "event", "letter", "other", "houses", "others", "close", "clauses"] ["town", "deal", "event", "letter"] (defScope s_is_did) := ⟨rfl, rfl, rfl, by decide +kernel, rfl, by decide +kernel, by decide +kernel⟩
theorem ok_is_did (Fd : FnP S "is_did" s_is_did f fd) : OkF S 1 f fd ["town", "deal", "event", "letter"] SpDid := by
  refine fn_ok Fd sc_is_did (fun _ => rfl) noR fun ⟨t, w, d, e, l⟩ hok => ?_
  obtain ⟨⟨ht, hd, he, hl⟩, k, c, p, hk⟩ := hok
  have hk' : e = .did k c p := hk
  subst hk'
  have hd' : lookG t.deals w = some d := hd
  have hl' : LtOk l := hl
  obtain ⟨o, d', cl, cr, g1, g2, g3, g4, g5, g6⟩ := did_at ht he
  refine hr_set 4 (ev_ixT (ds := (w :: d.others).map PyData.str) (d := .str o) (ev_catT (ds := [.str w]) (es := d.others.map PyData.str) (ev_tup (ds := [.str w]) (ea1 (ev_v 1))) (ev_ixT (ds := dlA d) (d := sD d.others) (ev_deal (ev_v 0) (ev_v 1) hd') ev_int rfl) ?_) (ev_ixT (d := .int k) (ev_v 2) ev_int rfl) (atS g1)) ?_
  · have := (ht.ok w d hd').ol
    simp only [List.length_cons, List.length_nil, List.length_map]; omega
  refine hr_ifR (et_w (ew_orB (et_cmp c_ne (ev_ixT (ds := ltA l) (d := .str l.deal) (ev_v 3) ev_int rfl) (ev_v 4) rv_neS.bo) fun _ => et_cmp c_neD (ev_ixT (ds := ltA l) (d := l.deed) (ev_v 3) ev_int rfl) (ev_tup (ds := [.str "do", .int c, .int p]) (ea_cons ev_str (ea2 (ev_ixT (d := .int c) (ev_v 2) ev_int rfl) (ev_ixT (d := .int p) (ev_v 2) ev_int rfl)))) (rv_neD hl'.e.nice ni_do.nice).bo)) (fun h => ?_) fun h => ?_
  · refine hr_ret ev_bl ?_
    have : isEv t w d (.did k c p) l = false := by
      show isDid t w d k c p l = false
      unfold isDid
      rw [g1]
      simp only [g2]
      rw [if_pos h.symm]
    rw [this]
    exact .rfl
  · refine hr_asg (vs := [5, 6, 7, 8]) (P := D (dealD d')) (ev_deal (ev_v 0) (ev_v 4) g2) (tg_tup (n := 4) (ds := dlA d') (tgs_cons (tg_name 5) (tgs_cons (tg_name 6) (tgs_cons (tg_name 7) (tgs_cons (tg_name 8) tgs_nil))))) ?_
    refine hr_ret (ev_andB (ev_cmp c_in (ev_ixT (ds := ltA l) (d := .str l.house) (ev_v 3) ev_int rfl) (ev_v 5) rv_inS) fun _ => ev_cmp c_ne (ev_ixT (ds := ltA l) (d := .str l.house) (ev_v 3) ev_int rfl) (ev_ixT (ds := d'.houses.map PyData.str) (d := .str cr) (ev_v 5) (ev_ixT (ds := clA cl) (d := .int cl.cre) (ev_ixT (ds := d'.clauses.map claD) (d := claD cl) (ev_v 8) (ev_ixT (d := .int c) (ev_v 2) ev_int rfl) (atM g4)) ev_int rfl) (atS g5)) rv_neS) ?_
    have : isEv t w d (.did k c p) l = (decide (l.house ∈ d'.houses) && !decide (l.house = cr)) := by
      show isDid t w d k c p l = _
      unfold isDid
      rw [g1]
      simp only [g2]
      rw [if_neg (by rw [← h]; decide), g6]
    rw [this]
    exact .rfl
theorem sc_is_event : FnScope ["town", "deal", "event", "letter"] ["town", "deal", "event", "letter"] (defScope s_is_event) := ⟨rfl, rfl, rfl, by decide +kernel, rfl, by decide +kernel, by decide +kernel⟩
theorem ok_is_event (Fd : FnP S "is_event" s_is_event f fd) (cD : Cl S "is_did" 1 SpDid) : OkF S 2 f fd ["town", "deal", "event", "letter"] SpIs := by
  refine fn_ok Fd sc_is_event (fun _ => rfl) noR fun ⟨t, w, d, e, l⟩ hok => ?_
  obtain ⟨ht, hd, he, hl⟩ := id hok
  have hd' : lookG t.deals w = some d := hd
  have hl' : LtOk l := hl
  have dk := ht.ok w d hd'
  cases e with
  | did k c p =>
    refine hr_ifR (et_cmp c_eq (ev_ixT (d := .str "did") (ev_v 2) ev_int rfl) ev_str rv_eqS.bo) (fun h => ?_) fun h => absurd h (by decide +kernel)
    exact hr_ret (ev_call cD (t, w, d, .did k c p, l) ⟨hok, k, c, p, rfl⟩ (ea_cons (ev_v 0) (ea_cons (ev_v 1) (ea2 (ev_v 2) (ev_v 3))))) .rfl
  | joined h =>
    have hh : h < d.houses.length := he
    refine hr_ifR (et_cmp c_eq (ev_ixT (d := .str "joined") (ev_v 2) ev_int rfl) ev_str rv_eqS.bo) (fun h => absurd h (by decide +kernel)) fun _ => ?_
    refine hr_ifR (et_cmp c_neD (ev_slTto (ds := ltA l) (n := 2) (ev_v 3) ev_int) (ev_tup (ds := [.str (d.houses.getD h (Str.ofString "")), .str w]) (ea2 (ev_ixT (ds := d.houses.map PyData.str) (ev_ixT (ds := dlA d) (d := sD d.houses) (ev_deal (ev_v 0) (ev_v 1) hd') ev_int rfl) (ev_ixT (d := .int h) (ev_v 2) ev_int rfl) (atS (house_at hh))) (ev_v 1))) (rv_neD (ni_2s hl'.h hl'.d).nice (ni_2s (dk.hk _ (List.mem_of_getElem? (house_at hh))) dk.wk).nice).bo) (fun h1 => ?_) fun h1 => ?_
    · refine hr_ret ev_bl ?_
      have : isEv t w d (.joined h) l = false := by
        show (isAt w d h l && _) = false
        unfold isAt
        rw [← eqv_2s]
        have h1' : true = !PyData.eqv (.tuple [.str l.house, .str l.deal]) (.tuple [.str (d.houses.getD h (Str.ofString "")), .str w]) := h1
        cases q : PyData.eqv (.tuple [.str l.house, .str l.deal]) (.tuple [.str (d.houses.getD h (Str.ofString "")), .str w]) with
        | true => rw [q] at h1'; cases h1'
        | false => rfl
      rw [this]
      exact .rfl
    · refine hr_ifR (et_cmp c_eq (ev_ixT (d := .str "joined") (ev_v 2) ev_int rfl) ev_str rv_eqS.bo) (fun _ => ?_) fun h => absurd h (by decide +kernel)
      refine hr_ret (ev_cmp c_eqD (ev_ixT (ds := ltA l) (d := l.deed) (ev_v 3) ev_int rfl) (ev_tup (ds := [.str "join"]) (ea1 ev_str)) (rv_eqD hl'.e.nice ni_join.nice)) ?_
      have : isEv t w d (.joined h) l = PyData.eqv l.deed joinD := by
        show (isAt w d h l && _) = _
        unfold isAt
        rw [← eqv_2s]
        have h1' : false = !PyData.eqv (.tuple [.str l.house, .str l.deal]) (.tuple [.str (d.houses.getD h (Str.ofString "")), .str w]) := h1
        cases q : PyData.eqv (.tuple [.str l.house, .str l.deal]) (.tuple [.str (d.houses.getD h (Str.ofString "")), .str w]) with
        | true => rfl
        | false => rw [q] at h1'; cases h1'
      rw [this]
      exact .rfl
  | said h x =>
    obtain ⟨hh, hx⟩ : h < d.houses.length ∧ Sk x := he
    refine hr_ifR (et_cmp c_eq (ev_ixT (d := .str "said") (ev_v 2) ev_int rfl) ev_str rv_eqS.bo) (fun h => absurd h (by decide +kernel)) fun _ => ?_
    refine hr_ifR (et_cmp c_neD (ev_slTto (ds := ltA l) (n := 2) (ev_v 3) ev_int) (ev_tup (ds := [.str (d.houses.getD h (Str.ofString "")), .str w]) (ea2 (ev_ixT (ds := d.houses.map PyData.str) (ev_ixT (ds := dlA d) (d := sD d.houses) (ev_deal (ev_v 0) (ev_v 1) hd') ev_int rfl) (ev_ixT (d := .int h) (ev_v 2) ev_int rfl) (atS (house_at hh))) (ev_v 1))) (rv_neD (ni_2s hl'.h hl'.d).nice (ni_2s (dk.hk _ (List.mem_of_getElem? (house_at hh))) dk.wk).nice).bo) (fun h1 => ?_) fun h1 => ?_
    · refine hr_ret ev_bl ?_
      have : isEv t w d (.said h x) l = false := by
        show (isAt w d h l && _) = false
        unfold isAt
        rw [← eqv_2s]
        have h1' : true = !PyData.eqv (.tuple [.str l.house, .str l.deal]) (.tuple [.str (d.houses.getD h (Str.ofString "")), .str w]) := h1
        cases q : PyData.eqv (.tuple [.str l.house, .str l.deal]) (.tuple [.str (d.houses.getD h (Str.ofString "")), .str w]) with
        | true => rw [q] at h1'; cases h1'
        | false => rfl
      rw [this]
      exact .rfl
    · refine hr_ifR (et_cmp c_eq (ev_ixT (d := .str "said") (ev_v 2) ev_int rfl) ev_str rv_eqS.bo) (fun h => absurd h (by decide +kernel)) fun _ => ?_
      refine hr_ret (ev_cmp c_eqD (ev_ixT (ds := ltA l) (d := l.deed) (ev_v 3) ev_int rfl) (ev_tup (ds := [.str "say", .str x]) (ea2 ev_str (ev_ixT (d := .str x) (ev_v 2) ev_int rfl))) (rv_eqD hl'.e.nice (ni_say hx).nice)) ?_
      have : isEv t w d (.said h x) l = PyData.eqv l.deed (sayD x) := by
        show (isAt w d h l && _) = _
        unfold isAt
        rw [← eqv_2s]
        have h1' : false = !PyData.eqv (.tuple [.str l.house, .str l.deal]) (.tuple [.str (d.houses.getD h (Str.ofString "")), .str w]) := h1
        cases q : PyData.eqv (.tuple [.str l.house, .str l.deal]) (.tuple [.str (d.houses.getD h (Str.ofString "")), .str w]) with
        | true => rfl
        | false => rw [q] at h1'; cases h1'
      rw [this]
      exact .rfl
abbrev PlArg := Town × Str × Deal × Evt × List (Nat × Letter)
structure PlArgOk (a : PlArg) : Prop where
  t : TownOk a.1
  d : lookG a.1.deals a.2.1 = some a.2.2.1
  e : EvtOk a.1 a.2.1 a.2.2.1 a.2.2.2.1
  l : ∀ s ∈ a.2.2.2.2, LtOk s.2
  n : a.2.2.2.2.length ≤ 100000
def SpEvPlace : Sp := Spc (NoR (α := PlArg)) PlArgOk (fun a => [TownP a.1, D (.str a.2.1), D (evD a.2.2.2.1), D (.list (a.2.2.2.2.map sgD))]) (fun a => D (oN (placeOf (isEv a.1 a.2.1 a.2.2.1 a.2.2.2.1) a.2.2.2.2)))
theorem sc_event_place : FnScope ["town", "deal", "event", "sights", "at", "letter"] ["town", "deal", "event", "sights"] (defScope s_event_place) := ⟨rfl, rfl, rfl, by decide +kernel, rfl, by decide +kernel, by decide +kernel⟩
theorem ok_event_place (Fd : FnP S "event_place" s_event_place f fd) (cE : Cl S "is_event" 2 SpIs) : OkF S 3 f fd ["town", "deal", "event", "sights"] SpEvPlace := by
  refine fn_ok Fd sc_event_place (fun _ => rfl) noR fun ⟨t, w, d, e, sg⟩ hok => ?_
  obtain ⟨ht, hd, he, hl, hn⟩ := id hok
  refine hr_for (ds := sg.map sgD) (itr_L (ev_v 3)) (fun i L' Γ' => ∃ o4 o5, L' = [] ∧ Γ' = [some (TownP t), some (D (.str w)), some (D (evD e)), some (D (.list (sg.map sgD))), o4, o5] ∧ ∀ s ∈ sg.take i, isEv t w d e s.2 = false) ⟨_, _, rfl, rfl, fun s hs => absurd hs (by simp)⟩ (fun i dd L' Γ' hdd hI => ?_) fun L' Γ' hI => ?_
  · obtain ⟨o4, o5, hL, hΓ, hI⟩ := hI
    subst hL hΓ
    rw [List.getElem?_map] at hdd
    cases q : sg[i]? with
    | none => rw [q] at hdd; cases hdd
    | some s =>
      rw [q] at hdd
      cases hdd
      refine ⟨[4, 5], _, tg_tup (n := 2) (ds := [.int s.1, ltD s.2]) (tgs_cons (tg_name 4) (tgs_cons (tg_name 5) tgs_nil)), ?_⟩
      refine hr_ifR (et_bl (ev_call cE (t, w, d, e, s.2) ⟨ht, hd, he, hl s (List.mem_of_getElem? q)⟩ (ea_cons (ev_v 0) (ea_cons (ev_v 1) (ea2 (ev_v 2) (ev_v 5)))))) (fun h => ?_) fun h => ?_
      · refine hr_ret (ev_v 4) ?_
        have h' : isEv t w d e s.2 = true := h.symm
        have : placeOf (isEv t w d e) sg = some s.1 := by
          unfold placeOf
          rw [find_at (q := fun s => isEv t w d e s.2) q hI h']; rfl
        rw [this]
        exact .rfl
      · have h' : isEv t w d e s.2 = false := h.symm
        refine hr_nil ⟨_, _, rfl, rfl, fun s' hs' => ?_⟩
        rw [List.take_add_one, q] at hs'
        rcases List.mem_append.mp hs' with hs' | hs'
        · exact hI s' hs'
        · have e' : s' = s := by simpa using hs'
          rw [e']; exact h'
  · obtain ⟨o4, o5, hL, hΓ, hI⟩ := hI
    subst hL hΓ
    rw [List.length_map, List.take_length] at hI
    refine hr_ret ev_non ?_
    have : placeOf (isEv t w d e) sg = none := by
      unfold placeOf
      rw [List.find?_eq_none.mpr (fun s hs => by rw [hI s hs]; decide)]; rfl
    rw [this]
    exact .rfl
/-- a deed of a house -/
def isDeed (h w : Str) (dd : PyData) (l : Letter) : Bool := (decide (l.house = h) && decide (l.deal = w)) && PyData.eqv l.deed dd
abbrev DpArg := Str × Str × PyData × List (Nat × Letter)
structure DpArgOk (a : DpArg) : Prop where
  h : Sk a.1
  w : Sk a.2.1
  d : Ni 1 a.2.2.1
  l : ∀ s ∈ a.2.2.2, LtOk s.2
  n : a.2.2.2.length ≤ 100000
def SpDeedPlace : Sp := Spc (NoR (α := DpArg)) DpArgOk (fun a => [D (.str a.1), D (.str a.2.1), D a.2.2.1, D (.list (a.2.2.2.map sgD))]) (fun a => D (oN (placeOf (isDeed a.1 a.2.1 a.2.2.1) a.2.2.2)))
theorem sc_deed_place : FnScope ["house", "deal", "deed", "sights", "at", "letter"] ["house", "deal", "deed", "sights"] (defScope s_deed_place) := ⟨rfl, rfl, rfl, by decide +kernel, rfl, by decide +kernel, by decide +kernel⟩
theorem ok_deed_place (Fd : FnP S "deed_place" s_deed_place f fd) : OkF S 1 f fd ["house", "deal", "deed", "sights"] SpDeedPlace := by
  refine fn_ok Fd sc_deed_place (fun _ => rfl) noR fun ⟨h, w, dd, sg⟩ hok => ?_
  obtain ⟨hh, hw, hd, hl, hn⟩ := id hok
  refine hr_for (ds := sg.map sgD) (itr_L (ev_v 3)) (fun i L' Γ' => ∃ o4 o5, L' = [] ∧ Γ' = [some (D (.str h)), some (D (.str w)), some (D dd), some (D (.list (sg.map sgD))), o4, o5] ∧ ∀ s ∈ sg.take i, isDeed h w dd s.2 = false) ⟨_, _, rfl, rfl, fun s hs => absurd hs (by simp)⟩ (fun i d' L' Γ' hdd hI => ?_) fun L' Γ' hI => ?_
  · obtain ⟨o4, o5, hL, hΓ, hI⟩ := hI
    subst hL hΓ
    rw [List.getElem?_map] at hdd
    cases q : sg[i]? with
    | none => rw [q] at hdd; cases hdd
    | some s =>
      rw [q] at hdd
      cases hdd
      have hs := hl s (List.mem_of_getElem? q)
      refine ⟨[4, 5], _, tg_tup (n := 2) (ds := [.int s.1, ltD s.2]) (tgs_cons (tg_name 4) (tgs_cons (tg_name 5) tgs_nil)), ?_⟩
      refine hr_ifR ((et_w (ew_andB (et_cmp c_eqD (ev_slTto (ds := ltA s.2) (n := 2) (ev_v 5) ev_int) (ev_tup (ds := [.str h, .str w]) (ea2 (ev_v 0) (ev_v 1))) (rv_eqD (ni_2s hs.h hs.d).nice (ni_2s hh hw).nice).bo) fun _ => et_cmp c_eqD (ev_ixT (ds := ltA s.2) (d := s.2.deed) (ev_v 5) ev_int rfl) (ev_v 2) (rv_eqD hs.e.nice (Ni.nice hd)).bo)).le (T' := (· = isDeed h w dd s.2)) fun c hc => ?_) (fun h1 => ?_) fun h1 => ?_
      · rw [hc]
        unfold isDeed
        rw [← eqv_2s]
      · refine hr_ret (ev_v 4) ?_
        have : placeOf (isDeed h w dd) sg = some s.1 := by
          unfold placeOf
          rw [find_at (q := fun s => isDeed h w dd s.2) q hI h1.symm]; rfl
        rw [this]
        exact .rfl
      · refine hr_nil ⟨_, _, rfl, rfl, fun s' hs' => ?_⟩
        rw [List.take_add_one, q] at hs'
        rcases List.mem_append.mp hs' with hs' | hs'
        · exact hI s' hs'
        · have e' : s' = s := by simpa using hs'
          rw [e']; exact h1.symm
  · obtain ⟨o4, o5, hL, hΓ, hI⟩ := hI
    subst hL hΓ
    rw [List.length_map, List.take_length] at hI
    refine hr_ret ev_non ?_
    have : placeOf (isDeed h w dd) sg = none := by
      unfold placeOf
      rw [List.find?_eq_none.mpr (fun s hs => by rw [hI s hs]; decide)]; rfl
    rw [this]
    exact .rfl
end
end Hw
set_option Elab.async false
set_option linter.all false
set_option maxRecDepth 100000
set_option maxHeartbeats 1000000
namespace Hw
open PySem PySem.Spec L2

section
variable {F : Fx} {L : List Rs} {Γ : Ty} {e a b c o tg iter elt : Expr} {es ts ifs : List Expr} {P Q R : MP} {Ps : List MP} {pos spos p1 p2 px py lp ap cp tp : Pos} {N : List Rs → Ty → Prop} {rest body sa : List Stmt} {x y m fn : Str}
theorem ev_pick (cP : Cl F.toSx "_law_pick" 1 SpPick) (k : Nat) {l : Addr} {bb : Bool} {many : Nat} (ha : Ev F L Γ a (IsV (.ref l))) (hb : Ev F L Γ b (D (.int (many : Nat)))) (h0 : 0 < many) (h1 : many ≤ 1000000) (hk : L[k]? = some ⟨l, LeftR, bb⟩ := by rfl) (hj : 1 ≤ F.k := by exact Nat.le_of_ble_eq_true rfl)
    (hg : F.sc.names.lookup ("_law_pick" : Str) = some .globalImplicit := by rfl) (hs : ∀ env, starEach [a, b] env = (false, eval a env) :: starEach [b] env := by intro _; rfl) (hs2 : ∀ env, starEach [b] env = (false, eval b env) :: starEach [] env := by intro _; rfl) (hpl : ∀ env, (backTo pos (starEach [b] env)).any (·.1) = false := by intro _; rfl) :
    Ev F L Γ (.Call (.Name "_law_pick" p1) [a, b] [] pos) (LtP many) :=
  ev_call cP (l, many) ⟨h0, h1⟩ (ea2 ha hb hs hs2) (.inr ⟨_, rfl, _, List.mem_of_getElem? hk, rfl, rfl⟩) hj hg (by decide) hs hpl
/-- xs[i], the place unknown -/
theorem ev_pickL {ds : List PyData} (ha : Ev F L Γ a (D (.list ds))) (hb : Ev F L Γ b (LtP ds.length)) (h : ∀ d ∈ ds, (D d).le P) (hs : PlainIx b := by exact fun _ _ => rfl) : Ev F L Γ (.Subscript a b pos) P :=
  we_op (r := rIxL F.K) (fun X hX => by rw [← hX.K]; exact pe_ix ix_list (pe_we hX) (pe_we hX) hs) ha hb (rv_exR fun r hr E Γ σ G H T v w p1 p2 K k => by
    obtain ⟨x, xs, rfl, h1, q1⟩ := p1.lst_of
    have hd : ds[r]? = some ds[r] := List.getElem?_eq_getElem hr
    obtain ⟨y, h5, h6⟩ := q1.get hd
    exact ⟨x, xs, r, y, rfl, p2.int_eq, SqL.of (T.sub.lst h1), atI_nat h5, k _ G H .refl T (h _ (List.getElem_mem hr) _ _ h6)⟩)
theorem psa_get {G : Hp} : ∀ {vs : List V} {Ps : List MP} {n : Nat} {P : MP}, PsA G vs Ps → Ps[n]? = some P → ∃ v, vs[n]? = some v ∧ P.p G v
  | _, _, n, P, .nil, e => by simp at e
  | _, _, 0, P, .cons r _, e => by
    have e1 := Option.some.inj e
    subst e1
    exact ⟨_, rfl, r⟩
  | _, _, n + 1, P, .cons _ t, e => psa_get (n := n) t e
theorem ev_pickLP {Ps : List MP} (ha : Ev F L Γ a (LstP Ps)) (hb : Ev F L Γ b (LtP Ps.length)) (h : ∀ Q ∈ Ps, Q.le P) (hs : PlainIx b := by exact fun _ _ => rfl) : Ev F L Γ (.Subscript a b pos) P :=
  we_op (r := rIxL F.K) (fun X hX => by rw [← hX.K]; exact pe_ix ix_list (pe_we hX) (pe_we hX) hs) ha hb (rv_exR fun r hr E Γ σ G H T v w p1 p2 K k => by
    obtain ⟨x, xs, rfl, h1, q1⟩ := p1
    have hd : Ps[r]? = some Ps[r] := List.getElem?_eq_getElem hr
    obtain ⟨y, h5, h6⟩ := psa_get q1 hd
    exact ⟨x, xs, r, y, rfl, p2.int_eq, SqL.of (T.sub.lst h1), atI_nat h5, k _ G H .refl T (h _ (List.getElem_mem hr) _ _ h6)⟩)
/-- .. in a tuple -/
theorem ev_pickT {ds : List PyData} (ha : Ev F L Γ a (D (.tuple ds))) (hb : Ev F L Γ b (LtP ds.length)) (h : ∀ d ∈ ds, (D d).le P) (hs : PlainIx b := by exact fun _ _ => rfl) : Ev F L Γ (.Subscript a b pos) P :=
  we_op (r := rIxT F.K) (fun X hX => by rw [← hX.K]; exact pe_ix ix_tup (pe_we hX) (pe_we hX) hs) ha hb (rv_exR fun r hr E Γ σ G H T v w p1 p2 K k => by
    obtain ⟨x, xs, rfl, h1, q1⟩ := p1.tup_of
    have hd : ds[r]? = some ds[r] := List.getElem?_eq_getElem hr
    obtain ⟨y, h5, h6⟩ := q1.get hd
    exact ⟨x, xs, r, y, rfl, p2.int_eq, SqT.of (T.sub.tup h1), atI_nat h5, k _ G H .refl T (h _ (List.getElem_mem hr) _ _ h6)⟩)
/-- a number of a list -/
def InP (ns : List Nat) : MP := Xp (· ∈ ns) fun r => D (nI r)
theorem ev_pickN {ns : List Nat} (ha : Ev F L Γ a (D (.list (ns.map nI)))) (hb : Ev F L Γ b (LtP ns.length)) (hs : PlainIx b := by exact fun _ _ => rfl) : Ev F L Γ (.Subscript a b pos) (InP ns) :=
  ev_pickL (ds := ns.map nI) ha (by rw [List.length_map]; exact hb) (fun d hd => by
    obtain ⟨n, hn, rfl⟩ := List.mem_map.mp hd
    exact Xp.of (P := fun r => D (nI r)) (x := n) hn) hs
/-- loops of an unknown number of turns -/
def ItrX (F : Fx) (L : List Rs) (Γ : Ty) (tg iter : Expr) {β : Type} (φ : β → Prop) (ds : β → List PyData) : Prop := ∃ wi : TI, (∀ X, Cin F X → PI X tg iter wi) ∧ ∀ E σ G H, Stt E L Γ σ G H → ∀ R : It → Hp → Prop, (∀ z J G' H', φ z → Nxt L G H G' H' → Stt E L Γ σ G' H' → Wk J (ds z) G' → R J H') → wi σ H R
theorem hr_forX {β : Type} {φ : β → Prop} {ds : β → List PyData} (hi : ItrX F L Γ tg iter φ ds) (I : β → Nat → List Rs → Ty → Prop) (h0 : ∀ z, φ z → I z 0 L Γ)
    (hb : ∀ z, φ z → ∀ i d L' Γ', (ds z)[i]? = some d → I z i L' Γ' → ∃ vs f, Tg F tg vs (D d) f ∧ Hr F L' (f Γ') body (I z (i + 1)) R) (hd : ∀ z, φ z → ∀ L' Γ', I z (ds z).length L' Γ' → Hr F L' Γ' rest N R)
    (hs : ∀ env x, foldedSetIterable iter env x = pure x := by intro _ _; rfl) : Hr F L Γ (.For tg iter body [] pos :: rest) N R := fun E σ G H T D k1 k2 => by
  obtain ⟨wi, hpi, hwi⟩ := hi
  refine ws_cons (w1_ps (t := tFor wi (WG F tg) (WS F body)) (fun X hX => ps_for hX.own hX.calm (hpi X hX) (pg_wg hX) (ps_ws hX) (hs _)) ?_)
  refine hwi E σ G H T _ fun z J G0 H0 hz n0 T0 W => ?_
  refine ⟨fun i m σ H => m = (ds z).length - i ∧ i ≤ (ds z).length ∧ ∃ L' Γ' G, I z i L' Γ' ∧ Stt ⟨E.L, G0, E.H⟩ L' Γ' σ G H, ⟨(ds z).length, rfl, Nat.zero_le _, L, Γ, G0, h0 z hz, T0.rebase T0 (Same.refl _)⟩, ?_⟩
  rintro i m σ1 H1 ⟨rfl, hle, L', Γ', G1, hI, T1⟩
  by_cases hlt : i < (ds z).length
  · refine .inr ⟨W.goes i G1 H1 T1.stp.gg T1.sub hlt, fun σ' H' => ∃ L' Γ' G, I z (i + 1) L' Γ' ∧ Stt ⟨E.L, G0, E.H⟩ L' Γ' σ' G H', fun σ' H' hN => ⟨(ds z).length - (i + 1), by omega, rfl, hlt, hN⟩, fun x H2 y => ?_⟩
    have hdi : (ds z)[i]? = some (ds z)[i] := List.getElem?_eq_getElem hlt
    obtain ⟨G2, s2, n2, T2, q2⟩ := W.yield T1.stp.gg T1 y hdi
    obtain ⟨vs, f, ht, hh⟩ := hb z hz i _ L' Γ' hdi hI
    refine ht _ L' Γ' σ1 G2 H2 x T2 q2 _ fun σ3 T3 _ => ?_
    exact hh _ σ3 G2 H2 T3 _ (fun L2 Γ2 σ' G' H' n T' => ⟨L2, Γ2, G', n, T'⟩) fun v G' H' st sb lv p => k2 v G' H' (st.unbase T0) sb lv p
  · have e : i = (ds z).length := by omega
    subst e
    exact .inl ⟨W.stops G1 H1 T1.stp.gg T1.sub, hd z hz L' Γ' hI E σ1 G1 H1 (T0.unbase T1) D k1 k2⟩
theorem itr_rangeX {φ : Nat → Prop} (hm : F.mg "range" = none) (h : Ev F L Γ e (Xp φ fun n => D (nI n))) (hn : ∀ n, φ n → n ≤ 100000) (hg : F.sc.names.lookup ("range" : Str) = some .globalImplicit := by rfl) (hs : ∀ env, starEach [e] env = (false, eval e env) :: starEach [] env := by intro _; rfl) : ItrX F L Γ tg (.Call (.Name "range" p1) [e] [] pos) φ rgD := by
  refine ⟨iRng1 (tCons (WE F e) tNil), fun X hX => pi_range1 (hX.gl hg) (by rw [hX.mg]; exact hm) (pa_cons (pe_we hX) pa_nil (hs _)) (hs := hs _), fun E σ G H T R k => ?_⟩
  refine h E σ G H T _ fun v G1 H1 n1 T1 ⟨n, hz, p1⟩ => ?_
  have hl : (rgD n).length = n := by unfold rgD; simp
  have := hn n hz
  refine ⟨n, by rw [Dg.int_eq p1], by omega, by omega, k n _ G1 H1 hz n1 T1 ⟨fun i G2 H2 s sb hi => ?_, fun G2 H2 s sb => ?_, fun i G2 H2 x H3 s sb y d hd => ?_⟩⟩
  · rw [hl] at hi; show i < _; rw [Int.toNat_natCast]; exact hi
  · rw [hl]; show _ ≤ n; rw [Int.toNat_natCast]; exact Nat.le_refl _
  · obtain ⟨e1, e2⟩ := y
    obtain ⟨h1, h2⟩ := rgD_get hd
    subst h2 e2
    rw [e1]
    refine yld_same sb ?_
    rw [Int.zero_add]
    exact .int _
/-- a local container is of no more use -/
theorem Stt.drop {E : Ent} {σ : St} {G H : Hp} {φ : RP} {k : Nat} {p : Addr} (T : Stt E L Γ σ G H) (hk : L[k]? = some ⟨p, φ, true⟩) : Stt E (L.eraseIdx k) Γ σ G H := by
  have hof : ∀ r ∈ L.eraseIdx k, r ∈ L := fun r hr => (List.eraseIdx_sublist L k).subset hr
  refine ⟨T.env, T.len, T.sub, ⟨T.live.1.sublist ((List.eraseIdx_sublist L k).map Rs.a), fun r hr => T.live.2 r (hof r hr)⟩, T.stp, fun r hr => ?_, fun r hr => T.loc r (hof r hr), fun r hr => T.own r (hof r hr), T.nde⟩
  obtain ⟨hr', hb⟩ := T.inh r hr
  obtain ⟨j, hj, e⟩ := List.mem_iff_getElem.mp hr'
  refine ⟨List.mem_eraseIdx_iff_getElem?.mpr ⟨j, fun z => ?_, by rw [List.getElem?_eq_getElem hj, e]⟩, hb⟩
  subst z
  rw [List.getElem?_eq_getElem hj, e] at hk
  cases hk
  cases hb
theorem hr_drop (k : Nat) {p : Addr} {φ : RP} {sts : List Stmt} (kk : Hr F (L.eraseIdx k) Γ sts N R) (hk : L[k]? = some ⟨p, φ, true⟩ := by rfl) : Hr F L Γ sts N R := fun E σ G H T D k1 k2 => kk E σ G H (T.drop hk) D k1 k2
end
/-! ### words -/
def sufs : List Str := [Str.ofString "", Str.ofString "zq", Str.ofString "x", Str.ofString "qqzzx"]
def wordOf (i s : Nat) : Str := (⟨#[97 + i]⟩ : Str) ++ sufs.getD s (Str.ofString "")
theorem word_sk : ∀ i < 26, ∀ s < 4, PyData.strOk (wordOf i s) = true := by decide +kernel
theorem word_fst : ∀ i < 26, ∀ s < 4, (wordOf i s).cps[0]? = some (97 + i) := by decide +kernel
theorem word_len : ∀ i < 26, ∀ s < 4, (⟨#[97 + i]⟩ : Str).length + (sufs.getD s (Str.ofString "")).length ≤ 100000 := by decide +kernel
theorem abc_at : ∀ i < 26, (Str.ofString "abcdefghijklmnopqrstuvwxyz").cps.toList[i]? = some (97 + i) := by decide +kernel
theorem abc_len : (Str.ofString "abcdefghijklmnopqrstuvwxyz").length ≤ 100000 := by decide +kernel
structure WordsOk (n : Nat) (ws : List Str) : Prop where
  len : ws.length = n
  nod : ws.Nodup
  sk : ∀ w ∈ ws, Sk w
def stepsL : List Nat := [1, 3, 5, 7, 9, 11]
theorem words_ok {fi st : Nat} (hf : fi < 26) (hs : st ∈ stepsL) {n : Nat} (hn : n ≤ 16) : WordsOk n ((List.range n).map fun k => wordOf ((fi + st * k) % 26) ((fi + k * k) % 4)) := by
  refine ⟨by simp, ?_, fun w hw => ?_⟩
  · refine List.Pairwise.map _ (R := fun a b : Nat => a < b ∧ b < n) (fun a b hab e => ?_) ?_
    · have h1 := word_fst ((fi + st * a) % 26) (Nat.mod_lt _ (by decide)) ((fi + a * a) % 4) (Nat.mod_lt _ (by decide))
      have h2 := word_fst ((fi + st * b) % 26) (Nat.mod_lt _ (by decide)) ((fi + b * b) % 4) (Nat.mod_lt _ (by decide))
      rw [e, h2] at h1
      have h3 := Option.some.inj h1
      obtain ⟨hab1, hab2⟩ := hab
      simp only [stepsL, List.mem_cons, List.not_mem_nil, or_false] at hs
      rcases hs with rfl | rfl | rfl | rfl | rfl | rfl <;> omega
    · have h1 : (List.range n).Pairwise (· < ·) := List.pairwise_lt_range
      refine List.Pairwise.imp_of_mem (fun {a b} _ hb h => ⟨h, List.mem_range.mp hb⟩) h1
  · obtain ⟨k, _, rfl⟩ := List.mem_map.mp hw
    exact word_sk _ (Nat.mod_lt _ (by decide)) _ (Nat.mod_lt _ (by decide))
section
variable {S : Sx} {f : Addr} {fd : FuncData}
def SpWords : Sp := Spc (fun a : Addr × Nat => [⟨a.1, LeftR, false⟩]) (fun a => a.2 ≤ 16) (fun a => [IsV (.ref a.1), D (.int (a.2 : Nat))]) (fun a => Xp (WordsOk a.2) fun ws => D (.list (ws.map .str)))
theorem sc_words : FnScope ["_law_left_here", "_law_many", "_law_letters", "_law_first", "_law_step", "_law_k"] ["_law_left_here", "_law_many"] (defScope s_law_words) := ⟨rfl, rfl, rfl, by decide +kernel, rfl, by decide +kernel, by decide +kernel⟩
theorem ok_words (Fd : FnP S "_law_words" s_law_words f fd) (b : Bi S) (cP : Cl S "_law_pick" 1 SpPick) : OkF S 2 f fd ["_law_left_here", "_law_many"] SpWords := by
  refine fn_ok Fd sc_words (fun _ => rfl) (fun a r h => by have e : r = ⟨a.1, LeftR, false⟩ := by simpa using h
                                                           rw [e]) fun ⟨l, n⟩ hok => ?_
  have hn : n ≤ 16 := hok
  refine hr_set 2 ev_str ?_
  refine hr_set 3 (P := LtP 26) (ev_pick cP 0 (ev_v 0) ev_int (by decide) (by decide)) ?_
  refine hr_ex 3 rfl fun fi hfi => ?_
  refine hr_set 4 (P := InP stepsL) (ev_pickN (ns := stepsL) (ev_lst (ds := stepsL.map nI) (ea_cons ev_int (ea_cons ev_int (ea_cons ev_int (ea_cons ev_int (ea2 ev_int ev_int)))))) (ev_pick cP 0 (ev_v 0) ev_int (by decide) (by decide))) ?_
  refine hr_ex 4 rfl fun st hst => ?_
  have hst' : st ≤ 11 := by
    have hst' : st ∈ stepsL := hst
    simp only [stepsL, List.mem_cons, List.not_mem_nil, or_false] at hst'
    omega
  refine hr_ret ((ev_lc [("_law_k", 5)] (xs := List.range n) (enc := nI) (T := fun _ c => c = true) (P := fun k => D (.str (wordOf ((fi + st * k) % 26) ((fi + k * k) % 4)))) (itr_range (n := n) b.range (ev_v 1) (by omega)) (by simp; omega) fun i k hk => ?_).le lc_mapD) fun G v p => ⟨_, words_ok hfi hst hn, ?_⟩
  · have hk' : k < n := List.mem_range.mp (List.mem_of_getElem? hk)
    refine ⟨_, tg_name 5, ets_nil, fun _ => ?_⟩
    have h26 : (fi + st * k) % 26 < 26 := Nat.mod_lt _ (by decide)
    have h4 : (fi + k * k) % 4 < 4 := Nat.mod_lt _ (by decide)
    refine ev_catS (x := ⟨#[97 + (fi + st * k) % 26]⟩) (y := sufs.getD ((fi + k * k) % 4) (Str.ofString "")) (ev_ixS (z := Str.ofString "abcdefghijklmnopqrstuvwxyz") (i := (((fi + st * k) % 26 : Nat) : Int)) (ev_v 2) (Ev.eq (ev_mod (i := (fi : Int) + (st : Int) * (k : Int)) (j := 26) (ev_add (i := (fi : Int)) (ev_v 3) (ev_mul (i := (st : Int)) (j := (k : Int)) (ev_v 4) (ev_v 5) (.inl ⟨by omega, by omega⟩))) ev_int (by decide)) ?_) abc_len (atI_of rfl (abc_at _ h26))) (ev_ixL (ds := sufs.map .str) (i := (((fi + k * k) % 4 : Nat) : Int)) (d := .str (sufs.getD ((fi + k * k) % 4) (Str.ofString ""))) (ev_lst (ds := sufs.map .str) (ea_cons ev_str (ea_cons ev_str (ea2 ev_str ev_str)))) (Ev.eq (ev_mod (i := (fi : Int) + (k : Int) * (k : Int)) (j := 4) (ev_add (i := (fi : Int)) (ev_v 3) (ev_mul (i := (k : Int)) (j := (k : Int)) (ev_v 5) (ev_v 5) (.inl ⟨by omega, by omega⟩))) ev_int (by decide)) ?_) (atS ?_)) (word_len _ h26 _ h4)
    · congr 1
    · congr 1
    · have : ∀ s < 4, sufs[s]? = some (sufs.getD s (Str.ofString "")) := by decide +kernel
      exact this _ h4
  · show Dg G v (.list (((List.range n).map fun k => wordOf ((fi + st * k) % 26) ((fi + k * k) % 4)).map .str))
    rw [List.map_map]; exact p
end
end Hw
set_option Elab.async false
set_option linter.all false
set_option maxRecDepth 100000
set_option maxHeartbeats 4000000
namespace Hw
open PySem PySem.Spec L2
section
variable {S : Sx} {f : Addr} {fd : FuncData}
theorem sc_law_is : FnScope ["_law_town_here", "_law_deal", "_law_event_here", "_law_letter_here", "_law_houses", "_law_others", "_law_close", "_law_clauses_here", "_law_other", "_law_creditor"] ["_law_town_here", "_law_deal", "_law_event_here", "_law_letter_here"] (defScope s_law_is) := ⟨rfl, rfl, rfl, by decide +kernel, rfl, by decide +kernel, by decide +kernel⟩
theorem ok_law_is (Fd : FnP S "_law_is" s_law_is f fd) : OkF S 1 f fd ["_law_town_here", "_law_deal", "_law_event_here", "_law_letter_here"] SpIs := by
  refine fn_ok Fd sc_law_is (fun _ => rfl) noR fun ⟨t, w, d, e, l⟩ hok => ?_
  obtain ⟨ht, hd, he, hl⟩ := id hok
  have hd' : lookG t.deals w = some d := hd
  have hl' : LtOk l := hl
  have dk := ht.ok w d hd'
  refine hr_asg (vs := [4, 5, 6, 7]) (P := D (dealD d)) (ev_deal (ev_v 0) (ev_v 1) hd') (tg_tup (n := 4) (ds := dlA d) (tgs_cons (tg_name 4) (tgs_cons (tg_name 5) (tgs_cons (tg_name 6) (tgs_cons (tg_name 7) tgs_nil))))) ?_
  cases e with
  | joined h =>
    have hh : h < d.houses.length := he
    refine hr_ifR (et_cmp c_eq (ev_ixT (d := .str "joined") (ev_v 2) ev_int rfl) ev_str rv_eqS.bo) (fun _ => ?_) fun h => absurd h (by decide +kernel)
    refine hr_ret (ev_andB (ev_cmp c_eqD (ev_slTto (ds := ltA l) (n := 2) (ev_v 3) ev_int) (ev_tup (ds := [.str (d.houses.getD h (Str.ofString "")), .str w]) (ea2 (ev_ixT (ds := d.houses.map PyData.str) (ev_v 4) (ev_ixT (d := .int h) (ev_v 2) ev_int rfl) (atS (house_at hh))) (ev_v 1))) (rv_eqD (ni_2s hl'.h hl'.d).nice (ni_2s (dk.hk _ (List.mem_of_getElem? (house_at hh))) dk.wk).nice)) fun _ => ev_cmp c_eqD (ev_ixT (ds := ltA l) (d := l.deed) (ev_v 3) ev_int rfl) (ev_tup (ds := [.str "join"]) (ea1 ev_str)) (rv_eqD hl'.e.nice ni_join.nice)) ?_
    have : isEv t w d (.joined h) l = (PyData.eqv (.tuple [.str l.house, .str l.deal]) (.tuple [.str (d.houses.getD h (Str.ofString "")), .str w]) && PyData.eqv l.deed joinD) := by
      rw [eqv_2s]; rfl
    rw [this]
    exact .rfl
  | said h x =>
    obtain ⟨hh, hx⟩ : h < d.houses.length ∧ Sk x := he
    refine hr_ifR (et_cmp c_eq (ev_ixT (d := .str "said") (ev_v 2) ev_int rfl) ev_str rv_eqS.bo) (fun h => absurd h (by decide +kernel)) fun _ => ?_
    refine hr_ifR (et_cmp c_eq (ev_ixT (d := .str "said") (ev_v 2) ev_int rfl) ev_str rv_eqS.bo) (fun _ => ?_) fun h => absurd h (by decide +kernel)
    refine hr_ret (ev_andB (ev_cmp c_eqD (ev_slTto (ds := ltA l) (n := 2) (ev_v 3) ev_int) (ev_tup (ds := [.str (d.houses.getD h (Str.ofString "")), .str w]) (ea2 (ev_ixT (ds := d.houses.map PyData.str) (ev_v 4) (ev_ixT (d := .int h) (ev_v 2) ev_int rfl) (atS (house_at hh))) (ev_v 1))) (rv_eqD (ni_2s hl'.h hl'.d).nice (ni_2s (dk.hk _ (List.mem_of_getElem? (house_at hh))) dk.wk).nice)) fun _ => ev_cmp c_eqD (ev_ixT (ds := ltA l) (d := l.deed) (ev_v 3) ev_int rfl) (ev_tup (ds := [.str "say", .str x]) (ea2 ev_str (ev_ixT (d := .str x) (ev_v 2) ev_int rfl))) (rv_eqD hl'.e.nice (ni_say hx).nice)) ?_
    have : isEv t w d (.said h x) l = (PyData.eqv (.tuple [.str l.house, .str l.deal]) (.tuple [.str (d.houses.getD h (Str.ofString "")), .str w]) && PyData.eqv l.deed (sayD x)) := by
      rw [eqv_2s]; rfl
    rw [this]
    exact .rfl
  | did k c p =>
    obtain ⟨o, d', cl, cr, g1, g2, g3, g4, g5, g6⟩ := did_at ht he
    refine hr_ifR (et_cmp c_eq (ev_ixT (d := .str "did") (ev_v 2) ev_int rfl) ev_str rv_eqS.bo) (fun h => absurd h (by decide +kernel)) fun _ => ?_
    refine hr_ifR (et_cmp c_eq (ev_ixT (d := .str "did") (ev_v 2) ev_int rfl) ev_str rv_eqS.bo) (fun h => absurd h (by decide +kernel)) fun _ => ?_
    refine hr_set 8 (ev_ixT (ds := (w :: d.others).map PyData.str) (d := .str o) (ev_catT (ds := [.str w]) (es := d.others.map PyData.str) (ev_tup (ds := [.str w]) (ea1 (ev_v 1))) (ev_v 5) ?_) (ev_ixT (d := .int k) (ev_v 2) ev_int rfl) (atS g1)) ?_
    · have := dk.ol
      simp only [List.length_cons, List.length_nil, List.length_map]; omega
    refine hr_ifR (et_w (ew_orB (et_cmp c_ne (ev_ixT (ds := ltA l) (d := .str l.deal) (ev_v 3) ev_int rfl) (ev_v 8) rv_neS.bo) fun _ => et_cmp c_neD (ev_ixT (ds := ltA l) (d := l.deed) (ev_v 3) ev_int rfl) (ev_tup (ds := [.str "do", .int c, .int p]) (ea_cons ev_str (ea2 (ev_ixT (d := .int c) (ev_v 2) ev_int rfl) (ev_ixT (d := .int p) (ev_v 2) ev_int rfl)))) (rv_neD hl'.e.nice ni_do.nice).bo)) (fun h => ?_) fun h => ?_
    · refine hr_ret ev_bl ?_
      have : isEv t w d (.did k c p) l = false := by
        show isDid t w d k c p l = false
        unfold isDid
        rw [g1]
        simp only [g2]
        rw [if_pos h.symm]
      rw [this]
      exact .rfl
    · refine hr_set 9 (ev_ixT (ds := d'.houses.map PyData.str) (d := .str cr) (ev_ixT (ds := dlA d') (d := sD d'.houses) (ev_deal (ev_v 0) (ev_v 8) g2) ev_int rfl) (ev_ixT (ds := clA cl) (d := .int cl.cre) (ev_ixT (ds := d'.clauses.map claD) (d := claD cl) (ev_ixT (ds := dlA d') (d := .tuple (d'.clauses.map claD)) (ev_deal (ev_v 0) (ev_v 8) g2) ev_int rfl) (ev_ixT (d := .int c) (ev_v 2) ev_int rfl) (atM g4)) ev_int rfl) (atS g5)) ?_
      refine hr_ret (ev_andB (ev_cmp c_in (ev_ixT (ds := ltA l) (d := .str l.house) (ev_v 3) ev_int rfl) (ev_ixT (ds := dlA d') (d := sD d'.houses) (ev_deal (ev_v 0) (ev_v 8) g2) ev_int rfl) rv_inS) fun _ => ev_cmp c_ne (ev_ixT (ds := ltA l) (d := .str l.house) (ev_v 3) ev_int rfl) (ev_v 9) rv_neS) ?_
      have : isEv t w d (.did k c p) l = (decide (l.house ∈ d'.houses) && !decide (l.house = cr)) := by
        show isDid t w d k c p l = _
        unfold isDid
        rw [g1]
        simp only [g2]
        rw [if_neg (by rw [← h]; decide), g6]
      rw [this]
      exact .rfl
/-! ### the law's places -/
def SpLawPlace : Sp := Spc (NoR (α := PlArg)) PlArgOk (fun a => [TownP a.1, D (.str a.2.1), D (evD a.2.2.2.1), D (.list (a.2.2.2.2.map sgD))]) (fun a => D (oN (minPlace (isEv a.1 a.2.1 a.2.2.1 a.2.2.2.1) a.2.2.2.2)))
def SpLawDeed : Sp := Spc (NoR (α := DpArg)) DpArgOk (fun a => [D (.str a.1), D (.str a.2.1), D a.2.2.1, D (.list (a.2.2.2.map sgD))]) (fun a => D (oN (minPlace (isDeed a.1 a.2.1 a.2.2.1) a.2.2.2)))
theorem ni_ints {xs : List Nat} : Ni 1 (.list (xs.map nI)) := ni_lst fun d hd => by
  obtain ⟨x, _, rfl⟩ := List.mem_map.mp hd
  exact ni_int _
theorem ni_nilL : Ni 1 (.list []) := ni_lst fun d hd => absurd hd (by simp)
/-- min(x) if x != [] else None -/
theorem ev_minNone {F : Fx} {L : List Rs} {Γ : Ty} {a a2 : Expr} {pos p1 p2 p3 p4 p5 : Pos} {j : Nat} {xs : List Nat} (hm : F.mg "min" = none) (ha : Ev F L Γ a (D (.list (xs.map nI)))) (ha2 : Ev F L Γ a2 (D (.list (xs.map nI)))) (hg : F.sc.names.lookup ("min" : Str) = some .globalImplicit := by rfl) (he : ∀ env, starEach [a2] env = (false, eval a2 env) :: starEach [] env := by intro _; rfl) (hk : behindInMarks .NotEq (.List [] p3) = false := by first | exact nomark _ | rfl) :
    Ev F L Γ (.IfExp (.Compare a [.NotEq] [.List [] p3] p4) (.Call (.Name "min" p1) [a2] [] p2) (.Constant .none j p5) pos) (D (oN (minO xs))) := by
  refine ev_if (et_cmp c_neD ha (ev_lst (ds := []) ea_nil) (rv_neD ni_ints.nice ni_nilL.nice).bo hk) (fun h => ?_) fun h => ?_
  · rw [eqv_nil] at h
    cases xs with
    | nil => cases h
    | cons x xs =>
      have hx := foldl_min xs x
      refine Ev.eq (ev_minL (ns := (x :: xs).map Int.ofNat) (m := (xs.foldl min x : Nat)) hm (ha2.eq (by rw [oN_map])) ?_ ?_ hg he) rfl
      · exact List.mem_map.mpr ⟨_, hx.1, rfl⟩
      · intro y hy
        obtain ⟨z, hz, rfl⟩ := List.mem_map.mp hy
        have := hx.2 z hz
        show ((xs.foldl min x : Nat) : Int) ≤ (z : Int)
        omega
  · rw [eqv_nil] at h
    cases xs with
    | nil => exact ev_non
    | cons x xs => cases h
theorem sc_law_place : FnScope ["_law_town_here", "_law_deal", "_law_event_here", "_law_sees_here", "_law_spots", "_law_spot", "_law_letter_here"] ["_law_town_here", "_law_deal", "_law_event_here", "_law_sees_here"] (defScope s_law_place) := ⟨rfl, rfl, rfl, by decide +kernel, rfl, by decide +kernel, by decide +kernel⟩
theorem ok_law_place (Fd : FnP S "_law_place" s_law_place f fd) (b : Bi S) (cE : Cl S "_law_is" 1 SpIs) : OkF S 2 f fd ["_law_town_here", "_law_deal", "_law_event_here", "_law_sees_here"] SpLawPlace := by
  refine fn_ok Fd sc_law_place (fun _ => rfl) noR fun ⟨t, w, d, e, sg⟩ hok => ?_
  obtain ⟨ht, hd, he, hl, hn⟩ := id hok
  refine hr_setLc 4 [("_law_spot", 5), ("_law_letter_here", 6)] (xs := sg) (enc := sgD) (T := fun s c => c = isEv t w d e s.2) (P := fun s => D (nI s.1)) (itr_L (ev_v 3)) hn (fun i s hs => ?_) (hr_ty 4 rfl lc_filD ?_)
  · exact ⟨_, tg_tup (n := 2) (ds := [.int s.1, ltD s.2]) (tgs_cons (tg_name 5) (tgs_cons (tg_name 6) tgs_nil)), ets_one (et_bl (ev_call cE (t, w, d, e, s.2) ⟨ht, hd, he, hl s (List.mem_of_getElem? hs)⟩ (ea_cons (ev_v 0) (ea_cons (ev_v 1) (ea2 (ev_v 2) (ev_v 6)))))), fun _ => ev_v 5⟩
  · have hx : PyData.list ((sg.filter fun s => isEv t w d e s.2).map fun s => nI s.1) = .list (((sg.filter fun s => isEv t w d e s.2).map (·.1)).map nI) := by rw [List.map_map]; rfl
    have hy : oN (minO ((sg.filter fun s => isEv t w d e s.2).map (·.1))) = oN (minPlace (isEv t w d e) sg) := rfl
    show Hr _ _ _ _ _ (D (oN (minPlace (isEv t w d e) sg)))
    rw [hx, ← hy]
    generalize (sg.filter fun s => isEv t w d e s.2).map (·.1) = xs
    exact hr_ret (ev_minNone (xs := xs) b.min (ev_v 4) (ev_v 4)) .rfl
theorem sc_law_deed_place : FnScope ["_law_house", "_law_deal", "_law_deed_here", "_law_sees_here", "_law_spots", "_law_spot", "_law_letter_here"] ["_law_house", "_law_deal", "_law_deed_here", "_law_sees_here"] (defScope s_law_deed_place) := ⟨rfl, rfl, rfl, by decide +kernel, rfl, by decide +kernel, by decide +kernel⟩
theorem ok_law_deed_place (Fd : FnP S "_law_deed_place" s_law_deed_place f fd) (b : Bi S) : OkF S 1 f fd ["_law_house", "_law_deal", "_law_deed_here", "_law_sees_here"] SpLawDeed := by
  refine fn_ok Fd sc_law_deed_place (fun _ => rfl) noR fun ⟨h, w, dd, sg⟩ hok => ?_
  obtain ⟨hh, hw, hd, hl, hn⟩ := id hok
  refine hr_setLc 4 [("_law_spot", 5), ("_law_letter_here", 6)] (xs := sg) (enc := sgD) (T := fun s c => c = isDeed h w dd s.2) (P := fun s => D (nI s.1)) (itr_L (ev_v 3)) hn (fun i s hs' => ?_) (hr_ty 4 rfl lc_filD ?_)
  · have hs := hl s (List.mem_of_getElem? hs')
    refine ⟨_, tg_tup (n := 2) (ds := [.int s.1, ltD s.2]) (tgs_cons (tg_name 5) (tgs_cons (tg_name 6) tgs_nil)), ets_one ((et_w (ew_andB (et_cmp c_eqD (ev_slTto (ds := ltA s.2) (n := 2) (ev_v 6) ev_int) (ev_tup (ds := [.str h, .str w]) (ea2 (ev_v 0) (ev_v 1))) (rv_eqD (ni_2s hs.h hs.d).nice (ni_2s hh hw).nice).bo) fun _ => et_cmp c_eqD (ev_ixT (ds := ltA s.2) (d := s.2.deed) (ev_v 6) ev_int rfl) (ev_v 2) (rv_eqD hs.e.nice (Ni.nice hd)).bo)).le (T' := (· = isDeed h w dd s.2)) fun c hc => ?_), fun _ => ev_v 5⟩
    rw [hc]
    unfold isDeed
    rw [← eqv_2s]
  · have hx : PyData.list ((sg.filter fun s => isDeed h w dd s.2).map fun s => nI s.1) = .list (((sg.filter fun s => isDeed h w dd s.2).map (·.1)).map nI) := by rw [List.map_map]; rfl
    have hy : oN (minO ((sg.filter fun s => isDeed h w dd s.2).map (·.1))) = oN (minPlace (isDeed h w dd) sg) := rfl
    show Hr _ _ _ _ _ (D (oN (minPlace (isDeed h w dd) sg)))
    rw [hx, ← hy]
    generalize (sg.filter fun s => isDeed h w dd s.2).map (·.1) = xs
    exact hr_ret (ev_minNone (xs := xs) b.min (ev_v 4) (ev_v 4)) .rfl
/-- all that the whole line shows -/
def seesOf (nd : Nd) (row : List Letter) : Nat → List (Nat × Letter)
  | 0 => []
  | i + 1 => match row[i]? with
    | some l => (seesOf nd row i ++ [(i + 1, l)]) ++ (l.gots.map fun g => (rowOf nd g).map fun o => (i + 1, o)).flatten
    | none => seesOf nd row i
def sees (nd : Nd) (row : List Letter) : List (Nat × Letter) := seesOf nd row row.length
theorem flatten_le {α : Type} {k : Nat} : ∀ {xs : List (List α)}, (∀ x ∈ xs, x.length ≤ k) → xs.flatten.length ≤ xs.length * k
  | [], _ => by simp
  | x :: xs, h => by
    have h1 := h x List.mem_cons_self
    have h2 := flatten_le (k := k) fun y hy => h y (List.mem_cons_of_mem _ hy)
    rw [List.flatten_cons, List.length_append, List.length_cons, Nat.succ_mul]
    omega
theorem seesOf_le {nd : Nd} (hn : NdOk nd) {row : List Letter} (hr : ∀ l ∈ row, LtOk l) : ∀ i, (seesOf nd row i).length ≤ i * 401
  | 0 => Nat.le_refl _
  | i + 1 => by
    have ih := seesOf_le hn hr i
    show (match row[i]? with | some l => (seesOf nd row i ++ [(i + 1, l)]) ++ (l.gots.map fun g => (rowOf nd g).map fun o => (i + 1, o)).flatten | none => seesOf nd row i).length ≤ _
    cases e : row[i]? with
    | none => simp only; omega
    | some l =>
      simp only
      have h1 := (hr l (List.mem_of_getElem? e)).m
      have h2 : (l.gots.map fun g => (rowOf nd g).map fun o => (i + 1, o)).flatten.length ≤ (l.gots.map fun g => (rowOf nd g).map fun o => (i + 1, o)).length * 40 := flatten_le fun x hx => by
        obtain ⟨g, _, rfl⟩ := List.mem_map.mp hx
        rw [List.length_map]
        exact Nat.le_trans rowOf_length hn.len
      rw [List.length_map] at h2
      rw [List.length_append, List.length_append, List.length_singleton]
      omega
def SpSees : Sp := Spc (NoR (α := Nd × List Letter)) (fun a => NdOk a.1 ∧ (∀ l ∈ a.2, LtOk l) ∧ a.2.length ≤ 40) (fun a => [NdP a.1, D (.list (a.2.map ltD))]) (fun a => D (.list ((sees a.1 a.2).map sgD)))
theorem sc_law_sees : FnScope ["_law_named_here", "_law_line", "_law_found", "_law_k", "_law_letter_here", "_law_got", "_law_one"] ["_law_named_here", "_law_line"] (defScope s_law_sees) := ⟨rfl, rfl, rfl, by decide +kernel, rfl, by decide +kernel, by decide +kernel⟩
theorem take_flat {α β : Type} {f : α → List β} {xs : List α} {j : Nat} {x : α} (h : xs[j]? = some x) : ((xs.take (j + 1)).map f).flatten = ((xs.take j).map f).flatten ++ f x := by
  rw [List.take_add_one, h, List.map_append, List.flatten_append]
  simp
theorem ok_law_sees (Fd : FnP S "_law_sees" s_law_sees f fd) (b : Bi S) (cR : Cl S "_law_row" 1 SpRowL) : OkF S 2 f fd ["_law_named_here", "_law_line"] SpSees := by
  refine fn_ok Fd sc_law_sees (fun _ => rfl) noR fun ⟨nd, row⟩ hok => ?_
  obtain ⟨hn, hr, hl40⟩ : NdOk nd ∧ (∀ l ∈ row, LtOk l) ∧ row.length ≤ 40 := hok
  refine hr_newL 2 fun p => ?_
  refine hr_for (ds := enD (row.map ltD)) (itr_enum b.enumerate (ev_v 1)) (fun i L' Γ' => ∃ o3 o4 o5, L' = [⟨p, ListR ((seesOf nd row i).map sgD), true⟩] ∧ Γ' = [some (NdP nd), some (D (.list (row.map ltD))), some (IsV (.ref p)), o3, o4, o5, none]) ⟨_, _, _, rfl, rfl⟩ (fun i d L' Γ' hd hI => ?_) fun L' Γ' hI => ?_
  · obtain ⟨o3, o4, o5, hL, hΓ⟩ := hI
    subst hL hΓ
    obtain ⟨d', hd', e⟩ := enD_get hd
    subst e
    rw [List.getElem?_map] at hd'
    cases e : row[i]? with
    | none => rw [e] at hd'; cases hd'
    | some l =>
      rw [e] at hd'
      cases hd'
      have hil : i < row.length := (List.getElem?_eq_some_iff.mp e).1
      have hll := hr l (List.mem_of_getElem? e)
      have hle := seesOf_le hn hr i
      have hs : seesOf nd row (i + 1) = (seesOf nd row i ++ [(i + 1, l)]) ++ (l.gots.map fun g => (rowOf nd g).map fun o => (i + 1, o)).flatten := by
        show (match row[i]? with | some l => (seesOf nd row i ++ [(i + 1, l)]) ++ (l.gots.map fun g => (rowOf nd g).map fun o => (i + 1, o)).flatten | none => seesOf nd row i) = _
        rw [e]
      refine ⟨[3, 4], _, tg_tup (n := 2) (ds := [.int i, ltD l]) (tgs_cons (tg_name 3) (tgs_cons (tg_name 4) tgs_nil)), ?_⟩
      refine hr_append 0 2 (ds := (seesOf nd row i).map sgD) (d := sgD (i + 1, l)) (ev_tup (ds := [nI (i + 1), ltD l]) (ea2 (ev_addN (ev_v 3) ev_int) (ev_v 4))) ?_ (by rw [List.length_map]; omega)
      refine hr_for (ds := l.gots.map nD) (itr_T (ev_ixT (ds := ltA l) (ev_v 4) ev_int (d := .tuple (l.gots.map nD)) rfl)) (fun j L' Γ' => ∃ o5, L' = [⟨p, ListR (((seesOf nd row i ++ [(i + 1, l)]) ++ ((l.gots.take j).map fun g => (rowOf nd g).map fun o => (i + 1, o)).flatten).map sgD), true⟩] ∧ Γ' = [some (NdP nd), some (D (.list (row.map ltD))), some (IsV (.ref p)), some (D (.int i)), some (D (ltD l)), o5, none]) ⟨_, ?_, rfl⟩ (fun j d L' Γ' hd hI => ?_) fun L' Γ' hI => ?_
      · show [(⟨p, ListR ((seesOf nd row i).map sgD ++ [sgD (i + 1, l)]), true⟩ : Rs)] = _
        rw [List.take_zero, List.map_nil, List.flatten_nil, List.append_nil, List.map_append]; rfl
      · obtain ⟨o5, hL, hΓ⟩ := hI
        subst hL hΓ
        rw [List.getElem?_map] at hd
        cases e2 : l.gots[j]? with
        | none => rw [e2] at hd; cases hd
        | some g =>
          rw [e2] at hd
          cases hd
          have hjl : j < l.gots.length := (List.getElem?_eq_some_iff.mp e2).1
          have hm := hll.m
          refine ⟨[5], _, tg_name 5, ?_⟩
          rw [take_flat e2]
          have hle2 : ((l.gots.take j).map fun g => (rowOf nd g).map fun o => (i + 1, o)).flatten.length ≤ 10 * 40 := by
            refine Nat.le_trans (flatten_le (k := 40) fun x hx => ?_) ?_
            · obtain ⟨g, _, rfl⟩ := List.mem_map.mp hx
              rw [List.length_map]
              exact Nat.le_trans rowOf_length hn.len
            · rw [List.length_map, List.length_take]
              exact Nat.mul_le_mul_right _ (by omega)
          generalize ((l.gots.take j).map fun g => (rowOf nd g).map fun o => (i + 1, o)).flatten = fl at hle2 ⊢
          have hrl : (rowOf nd g).length ≤ 40 := Nat.le_trans rowOf_length hn.len
          refine hr_extendL 0 2 (ds := ((seesOf nd row i ++ [(i + 1, l)]) ++ fl).map sgD) (es' := (rowOf nd g).map fun o => sgD (i + 1, o)) ((ev_lc [("_law_one", 6)] (xs := rowOf nd g) (enc := ltD) (T := fun _ c => c = true) (P := fun o => D (sgD (i + 1, o))) (itr_L (ev_call cR (nd, g) hn (ea2 (ev_v 0) (ev_v 5)))) (by omega) fun q o _ => ?_).le lc_mapD) (hr_nil ⟨_, ?_, rfl⟩) ?_
          · exact ⟨_, tg_name 6, ets_nil, fun _ => ev_tup (ds := [nI (i + 1), ltD o]) (ea2 (ev_addN (ev_v 3) ev_int) (ev_v 6))⟩
          · show [(⟨p, ListR (((seesOf nd row i ++ [(i + 1, l)]) ++ fl).map sgD ++ (rowOf nd g).map fun o => sgD (i + 1, o)), true⟩ : Rs)] = _
            rw [← List.append_assoc (seesOf nd row i ++ [(i + 1, l)]), List.map_append (l₂ := (rowOf nd g).map fun o => (i + 1, o)), List.map_map]; rfl
          · simp only [List.length_map, List.length_append, List.length_singleton]
            omega
      · obtain ⟨o5, hL, hΓ⟩ := hI
        subst hL hΓ
        rw [List.length_map, List.take_length]
        exact hr_nil ⟨_, _, _, by rw [hs], rfl⟩
  · obtain ⟨o3, o4, o5, hL, hΓ⟩ := hI
    subst hL hΓ
    rw [enD_length, List.length_map]
    exact hr_freezeL 0 2 (hr_ret (ev_v 2) .rfl)
end
end Hw
set_option Elab.async false
set_option linter.all false
set_option maxRecDepth 100000
set_option maxHeartbeats 1000000
namespace Hw
open PySem PySem.Spec L2

/-! ### gaps -/
def gapOf (nd : Nd) (g : Nm) : Option Nm := match lookG nd g with
  | none => some g
  | some _ => match (rowOf nd g)[0]? with
    | none => none
    | some l => match ahead l with
      | none => none
      | some n => if (lookG nd n).isSome then none else some n
def gapStep (nd : Nd) (m : Pl) (i : Nat) (l : Letter) : Pl := l.gots.foldl (fun m g => match gapOf nd g with | none => m | some n => setG m n (i + 1)) m
def gapsOf (nd : Nd) (row : List Letter) : Nat → Pl
  | 0 => []
  | i + 1 => match row[i]? with
    | some l => gapStep nd (gapsOf nd row i) i l
    | none => gapsOf nd row i
def gaps (nd : Nd) (row : List Letter) : Pl := gapsOf nd row row.length
theorem rowOf_pos {nd : Nd} {n : Nm} {l : Letter} (h : lookG nd n = some l) : 0 < (rowOf nd n).length := by
  unfold rowOf metOf
  rw [List.length_reverse, List.length_map, rowGo_step h rfl]
  have : ∀ (f : Nat) (n : Nm) (met : Nd), met.length ≤ (rowGo nd f n met).length := by
    intro f
    induction f with
    | zero => intro n met; exact Nat.le_refl _
    | succ f ih =>
      intro n met
      cases e : lookG nd n with
      | none => rw [rowGo_stop (.inl e)]; exact Nat.le_refl _
      | some l =>
        cases e2 : (lookG met n).isSome with
        | true => rw [rowGo_stop (.inr e2)]; exact Nat.le_refl _
        | false =>
          rw [rowGo_step e e2]
          have := ih (n.1, n.2.1, l.prev) (met ++ [(n, l)])
          rw [List.length_append] at this
          simp at this
          omega
  exact Nat.lt_of_lt_of_le (by simp) (this nd.length (n.1, n.2.1, l.prev) ([] ++ [(n, l)]))
def isNoneD : PyData → Bool
  | .none => true
  | _ => false
theorem dg_isNone {G : Hp} {v : V} {d : PyData} (h : Dg G v d) : decide (v = V.non) = isNoneD d := by
  cases h <;> simp [isNoneD]
section
variable {F : Fx} {L : List Rs} {P : MP}
theorem rv_isD {d : PyData} : Rv L (fun x y H Q => y = .non ∧ Q (.bl (decide (x = .non))) H) (D d) (D .none) (D (.bool (isNoneD d))) := fun E Γ σ G H T x y p1 p2 K k => by
  refine ⟨p2.non_eq, k _ G H .refl T ?_⟩
  rw [dg_isNone p1]; exact .bl _
theorem rv_notD {d : PyData} : Rv L (fun x y H Q => y = .non ∧ Q (.bl (!decide (x = .non))) H) (D d) (D .none) (D (.bool (!isNoneD d))) := fun E Γ σ G H T x y p1 p2 K k => by
  refine ⟨p2.non_eq, k _ G H .refl T ?_⟩
  rw [dg_isNone p1]; exact .bl _
end
theorem isNone_nO (o : Option Nm) : isNoneD (nO o) = o.isNone := by cases o <;> rfl
theorem isNone_oN (o : Option Nat) : isNoneD (oN o) = o.isNone := by cases o <;> rfl
section
variable {S : Sx} {f : Addr} {fd : FuncData}
theorem sc_gap_of : FnScope ["named", "got", "ahead"] ["named", "got"] (defScope s_gap_of) := ⟨rfl, rfl, rfl, by decide +kernel, rfl, by decide +kernel, by decide +kernel⟩
def SpGap : Sp := Spc (NoR (α := Nd × Nm)) (fun a => a.1.length ≤ 1000) (fun a => [NdP a.1, D (nD a.2)]) (fun a => D (nO (gapOf a.1 a.2)))
theorem ok_gap_of (Fd : FnP S "gap_of" s_gap_of f fd) (cA : Cl S "name_ahead" 1 SpAhead) (cR : Cl S "row_in" 1 SpRow) : OkF S 2 f fd ["named", "got"] SpGap := by
  refine fn_ok Fd sc_gap_of (fun _ => rfl) noR fun ⟨nd, g⟩ hok => ?_
  have hl : nd.length ≤ 1000 := hok
  refine hr_ifR (et_notInT (k := nK g) (ev_v 1) (ev_v 0) isDT_G) (fun h => ?_) fun h => ?_
  · rw [lookD_enc nK_inj, Option.isSome_map] at h
    cases e : lookG nd g with
    | some l => rw [e] at h; cases h
    | none =>
      refine hr_ret (ev_v 1) ?_
      have : gapOf nd g = some g := by unfold gapOf; rw [e]
      rw [this]; exact .rfl
  · rw [lookD_enc nK_inj, Option.isSome_map] at h
    cases e : lookG nd g with
    | none => rw [e] at h; cases h
    | some l =>
      have hp := rowOf_pos e
      have h0 : (rowOf nd g)[0]? = some (rowOf nd g)[0] := List.getElem?_eq_getElem hp
      generalize (rowOf nd g)[0] = l0 at h0
      refine hr_set 2 (ev_call cA l0 trivial (ea1 (ev_ixL (ds := (rowOf nd g).map ltD) (d := ltD l0) (ev_call cR (nd, g) hl (ea2 (ev_v 0) (ev_v 1))) ev_int (atM (k := 0) h0)))) ?_
      have hg : gapOf nd g = match ahead l0 with | none => none | some n => if (lookG nd n).isSome then none else some n := by
        unfold gapOf
        rw [e]
        simp only [h0]
      refine hr_ty (P' := D (nO (ahead l0))) 2 rfl .rfl ?_
      cases ea : ahead l0 with
      | none =>
        refine hr_ifR (T := (· = true)) (et_w (ew_or (T1 := (· = true)) (et_cmp c_isN (ev_v 2) ev_non rv_isD.bo) (fun z => absurd z (by decide)) (T2 := fun _ => True) fun c hc => by rcases hc with ⟨h1, _⟩ | ⟨_, h2⟩; exact absurd h1 (by decide); exact h2)) (fun _ => ?_) fun z => absurd z (by decide)
        refine hr_ret ev_non ?_
        rw [hg, ea]; exact .rfl
      | some n =>
        refine hr_ifR (et_w (ew_orB (x := false) (et_cmp c_isN (ev_v (P := D (nD n)) 2) ev_non (rv_isD (d := nD n)).bo) fun _ => et_inT (k := nK n) (ev_v 2) (ev_v 0) isDT_G)) (fun h2 => ?_) fun h2 => ?_
        · refine hr_ret ev_non ?_
          rw [lookD_enc nK_inj, Option.isSome_map, Bool.false_or] at h2
          rw [hg, ea]
          simp only [← h2, if_true]
          exact .rfl
        · refine hr_ret (ev_v 2) ?_
          rw [lookD_enc nK_inj, Option.isSome_map, Bool.false_or] at h2
          rw [hg, ea]
          simp only [← h2]
          exact .rfl
theorem gapOf_sub {nd : Nd} {l : Letter} {gs : List Nm} : True := trivial
theorem gapFold_len {nd : Nd} {i : Nat} : ∀ (gs : List Nm) (m : Pl), (gs.foldl (fun m g => match gapOf nd g with | none => m | some n => setG m n (i + 1)) m).length ≤ m.length + gs.length
  | [], _ => Nat.le_refl _
  | g :: gs, m => by
    rw [List.foldl_cons, List.length_cons]
    have ih := gapFold_len (nd := nd) (i := i) gs (match gapOf nd g with | none => m | some n => setG m n (i + 1))
    have h1 : (match gapOf nd g with | none => m | some n => setG m n (i + 1)).length ≤ m.length + 1 := by
      cases gapOf nd g with
      | none => simp only; omega
      | some n =>
        simp only
        rw [setG_eq]
        split
        · omega
        · rw [List.length_append]; exact Nat.le_refl _
    omega
theorem gapsOf_len {nd : Nd} {row : List Letter} (hr : ∀ l ∈ row, LtOk l) : ∀ i, (gapsOf nd row i).length ≤ i * 10
  | 0 => Nat.le_refl _
  | i + 1 => by
    have ih := gapsOf_len (nd := nd) hr i
    show (match row[i]? with | some l => gapStep nd (gapsOf nd row i) i l | none => gapsOf nd row i).length ≤ _
    cases e : row[i]? with
    | none => simp only; omega
    | some l =>
      simp only
      have h1 := gapFold_len (nd := nd) (i := i) l.gots (gapsOf nd row i)
      have h2 := (hr l (List.mem_of_getElem? e)).m
      have h3 : (gapStep nd (gapsOf nd row i) i l).length ≤ (gapsOf nd row i).length + l.gots.length := h1
      omega
def SpGaps : Sp := Spc (NoR (α := Nd × List Letter)) (fun a => a.1.length ≤ 1000 ∧ (∀ l ∈ a.2, LtOk l) ∧ a.2.length ≤ 40) (fun a => [NdP a.1, D (.list (a.2.map ltD))]) (fun a => PlP (gaps a.1 a.2))
theorem sc_gap_places : FnScope ["named", "letters", "found", "k", "letter", "got", "gap"] ["named", "letters"] (defScope s_gap_places) := ⟨rfl, rfl, rfl, by decide +kernel, rfl, by decide +kernel, by decide +kernel⟩
theorem ok_gap_places (Fd : FnP S "gap_places" s_gap_places f fd) (b : Bi S) (cG : Cl S "gap_of" 2 SpGap) : OkF S 3 f fd ["named", "letters"] SpGaps := by
  refine fn_ok Fd sc_gap_places (fun _ => rfl) noR fun ⟨nd, row⟩ hok => ?_
  obtain ⟨hn, hr, hl40⟩ : nd.length ≤ 1000 ∧ (∀ l ∈ row, LtOk l) ∧ row.length ≤ 40 := hok
  refine hr_newT 2 fun p => ?_
  refine hr_for (ds := enD (row.map ltD)) (itr_enum b.enumerate (ev_v 1)) (fun i L' Γ' => ∃ o3 o4 o5 o6, L' = [⟨p, DTR (encG nK nI (gapsOf nd row i)), true⟩] ∧ Γ' = [some (NdP nd), some (D (.list (row.map ltD))), some (IsV (.ref p)), o3, o4, o5, o6]) ⟨_, _, _, _, rfl, rfl⟩ (fun i d L' Γ' hd hI => ?_) fun L' Γ' hI => ?_
  · obtain ⟨o3, o4, o5, o6, hL, hΓ⟩ := hI
    subst hL hΓ
    obtain ⟨d', hd', e⟩ := enD_get hd
    subst e
    rw [List.getElem?_map] at hd'
    cases e : row[i]? with
    | none => rw [e] at hd'; cases hd'
    | some l =>
      rw [e] at hd'
      cases hd'
      have hil : i < row.length := (List.getElem?_eq_some_iff.mp e).1
      have hll := hr l (List.mem_of_getElem? e)
      have hle := gapsOf_len (nd := nd) hr i
      have hs : gapsOf nd row (i + 1) = gapStep nd (gapsOf nd row i) i l := by
        show (match row[i]? with | some l => gapStep nd (gapsOf nd row i) i l | none => gapsOf nd row i) = _
        rw [e]
      refine ⟨[3, 4], _, tg_tup (n := 2) (ds := [.int i, ltD l]) (tgs_cons (tg_name 3) (tgs_cons (tg_name 4) tgs_nil)), ?_⟩
      refine hr_for (ds := l.gots.map nD) (itr_T (ev_ixT (ds := ltA l) (ev_v 4) ev_int (d := .tuple (l.gots.map nD)) rfl)) (fun j L' Γ' => ∃ o5 o6, L' = [⟨p, DTR (encG nK nI ((l.gots.take j).foldl (fun m g => match gapOf nd g with | none => m | some n => setG m n (i + 1)) (gapsOf nd row i))), true⟩] ∧ Γ' = [some (NdP nd), some (D (.list (row.map ltD))), some (IsV (.ref p)), some (D (.int i)), some (D (ltD l)), o5, o6]) ⟨_, _, rfl, rfl⟩ (fun j d L' Γ' hd hI => ?_) fun L' Γ' hI => ?_
      · obtain ⟨o5, o6, hL, hΓ⟩ := hI
        subst hL hΓ
        rw [List.getElem?_map] at hd
        cases e2 : l.gots[j]? with
        | none => rw [e2] at hd; cases hd
        | some g =>
          rw [e2] at hd
          cases hd
          have hjl : j < l.gots.length := (List.getElem?_eq_some_iff.mp e2).1
          have hm := hll.m
          refine ⟨[5], _, tg_name 5, ?_⟩
          rw [foldl_take e2]
          have hle2 := gapFold_len (nd := nd) (i := i) (l.gots.take j) (gapsOf nd row i)
          rw [List.length_take] at hle2
          generalize (l.gots.take j).foldl (fun m g => match gapOf nd g with | none => m | some n => setG m n (i + 1)) (gapsOf nd row i) = m at hle2 ⊢
          refine hr_set 6 (P := D (nO (gapOf nd g))) (ev_call cG (nd, g) hn (ea2 (ev_v 0) (ev_v 5))) ?_
          cases eg : gapOf nd g with
          | none =>
            refine hr_ifT (N1 := fun _ _ => False) (et_cmp c_notN (ev_v 6) ev_non (rv_notD (d := .none)).bo) (fun h => absurd h (by decide)) (fun h => absurd h (by decide)) fun _ => hr_nil ⟨_, _, rfl, rfl⟩
          | some n =>
            refine hr_ifT (N1 := fun L' Γ' => ∃ o5 o6, L' = [⟨p, DTR (encG nK nI (setG m n (i + 1))), true⟩] ∧ Γ' = [some (NdP nd), some (D (.list (row.map ltD))), some (IsV (.ref p)), some (D (.int i)), some (D (ltD l)), o5, o6]) (et_cmp c_notN (ev_v (P := D (nD n)) 6) ev_non (rv_notD (d := nD n)).bo) (fun _ => ?_) (fun _ L' Γ' hI => ?_) fun h => absurd (show false = true from h) (by decide)
            · refine hr_setdefT 0 2 (kvs := encG nK nI m) (ks := nK n) (d := nI (i + 1)) (ev_v (P := D (nD n)) 6) (ev_addN (ev_v 3) ev_int) ?_ (by rw [encG_length]; omega)
              rw [setD_enc nK_inj]
              exact hr_nil ⟨_, _, rfl, rfl⟩
            · obtain ⟨o5, o6, hL, hΓ⟩ := hI
              subst hL hΓ
              exact hr_nil ⟨_, _, rfl, rfl⟩
      · obtain ⟨o5, o6, hL, hΓ⟩ := hI
        subst hL hΓ
        rw [List.length_map, List.take_length]
        exact hr_nil ⟨_, _, _, _, by rw [hs]; rfl, rfl⟩
  · obtain ⟨o3, o4, o5, o6, hL, hΓ⟩ := hI
    subst hL hΓ
    rw [enD_length, List.length_map]
    exact hr_freezeT 0 2 (hr_ret (ev_v 2) .rfl)
/-! ### can_be -/
def canBe (t : Town) (w : Str) (d : Deal) (e : Evt) (h o : Str) : Bool := match e with
  | .joined k => decide (h = d.houses.getD k (Str.ofString "")) && decide (o = w)
  | .said k _ => decide (h = d.houses.getD k (Str.ofString "")) && decide (o = w)
  | .did k c _ => match (w :: d.others)[k]? with
    | none => false
    | some o' => match lookG t.deals o' with
      | none => false
      | some d' => if (!decide (o = o')) = true then false else decide (h ∈ d'.houses) && !decide (h = credOf d' c)
abbrev CbArg := Town × Str × Deal × Evt × Str × Str
structure CbArgOk (a : CbArg) : Prop where
  t : TownOk a.1
  d : lookG a.1.deals a.2.1 = some a.2.2.1
  e : EvtOk a.1 a.2.1 a.2.2.1 a.2.2.2.1
  h : Sk a.2.2.2.2.1
  o : Sk a.2.2.2.2.2
def SpCanBe : Sp := Spc (NoR (α := CbArg)) CbArgOk (fun a => [TownP a.1, D (.str a.2.1), D (evD a.2.2.2.1), D (.str a.2.2.2.2.1), D (.str a.2.2.2.2.2)]) (fun a => D (.bool (canBe a.1 a.2.1 a.2.2.1 a.2.2.2.1 a.2.2.2.2.1 a.2.2.2.2.2)))
theorem sc_can_be : FnScope ["town", "deal", "event", "house", "other", "houses", "others", "close", "clauses"] ["town", "deal", "event", "house", "other"] (defScope s_can_be) := ⟨rfl, rfl, rfl, by decide +kernel, rfl, by decide +kernel, by decide +kernel⟩
theorem ok_can_be (Fd : FnP S "can_be" s_can_be f fd) : OkF S 1 f fd ["town", "deal", "event", "house", "other"] SpCanBe := by
  refine fn_ok Fd sc_can_be (fun _ => rfl) noR fun ⟨t, w, d, e, h, o⟩ hok => ?_
  obtain ⟨ht, hd, he, hh, ho⟩ := id hok
  have hd' : lookG t.deals w = some d := hd
  have hh' : Sk h := hh
  have ho' : Sk o := ho
  have dk := ht.ok w d hd'
  cases e with
  | joined k =>
    have hk : k < d.houses.length := he
    refine hr_ifR (et_cmp c_ne (ev_ixT (d := .str "joined") (ev_v 2) ev_int rfl) ev_str rv_neS.bo) (fun _ => ?_) fun h => absurd h (by decide +kernel)
    refine hr_ret (ev_cmp c_eqD (ev_tup (ds := [.str h, .str o]) (ea2 (ev_v 3) (ev_v 4))) (ev_tup (ds := [.str (d.houses.getD k (Str.ofString "")), .str w]) (ea2 (ev_ixT (ds := d.houses.map PyData.str) (ev_ixT (ds := dlA d) (d := sD d.houses) (ev_deal (ev_v 0) (ev_v 1) hd') ev_int rfl) (ev_ixT (d := .int k) (ev_v 2) ev_int rfl) (atS (house_at hk))) (ev_v 1))) (rv_eqD (ni_2s hh' ho').nice (ni_2s (dk.hk _ (List.mem_of_getElem? (house_at hk))) dk.wk).nice)) ?_
    rw [eqv_2s]; exact .rfl
  | said k x =>
    obtain ⟨hk, _⟩ : k < d.houses.length ∧ Sk x := he
    refine hr_ifR (et_cmp c_ne (ev_ixT (d := .str "said") (ev_v 2) ev_int rfl) ev_str rv_neS.bo) (fun _ => ?_) fun h => absurd h (by decide +kernel)
    refine hr_ret (ev_cmp c_eqD (ev_tup (ds := [.str h, .str o]) (ea2 (ev_v 3) (ev_v 4))) (ev_tup (ds := [.str (d.houses.getD k (Str.ofString "")), .str w]) (ea2 (ev_ixT (ds := d.houses.map PyData.str) (ev_ixT (ds := dlA d) (d := sD d.houses) (ev_deal (ev_v 0) (ev_v 1) hd') ev_int rfl) (ev_ixT (d := .int k) (ev_v 2) ev_int rfl) (atS (house_at hk))) (ev_v 1))) (rv_eqD (ni_2s hh' ho').nice (ni_2s (dk.hk _ (List.mem_of_getElem? (house_at hk))) dk.wk).nice)) ?_
    rw [eqv_2s]; exact .rfl
  | did k c p =>
    obtain ⟨o', d', cl, cr, g1, g2, g3, g4, g5, g6⟩ := did_at (t := t) (w := w) (d := d) ht he
    have hcb : canBe t w d (.did k c p) h o = if (!decide (o = o')) = true then false else decide (h ∈ d'.houses) && !decide (h = cr) := by
      simp only [canBe, g1, g2, g6]
    refine hr_ifR (et_cmp c_ne (ev_ixT (d := .str "did") (ev_v 2) ev_int rfl) ev_str rv_neS.bo) (fun h => absurd h (by decide +kernel)) fun _ => ?_
    refine hr_ifR (et_cmp c_ne (ev_v 4) (ev_ixT (ds := (w :: d.others).map PyData.str) (d := .str o') (ev_catT (ds := [.str w]) (es := d.others.map PyData.str) (ev_tup (ds := [.str w]) (ea1 (ev_v 1))) (ev_ixT (ds := dlA d) (d := sD d.others) (ev_deal (ev_v 0) (ev_v 1) hd') ev_int rfl) ?_) (ev_ixT (d := .int k) (ev_v 2) ev_int rfl) (atS g1)) rv_neS.bo) (fun h1 => ?_) fun h1 => ?_
    · have := dk.ol
      simp only [List.length_cons, List.length_nil, List.length_map]; omega
    · refine hr_ret ev_bl ?_
      show (D (.bool false)).le (D (.bool (canBe t w d (.did k c p) h o)))
      rw [hcb, if_pos h1.symm]; exact .rfl
    · have eo : o = o' := by
        have h1' : false = !decide (o = o') := h1
        by_cases q : o = o'
        · exact q
        · simp [q] at h1'
      subst eo
      refine hr_asg (vs := [5, 6, 7, 8]) (P := D (dealD d')) (ev_deal (ev_v 0) (ev_v 4) g2) (tg_tup (n := 4) (ds := dlA d') (tgs_cons (tg_name 5) (tgs_cons (tg_name 6) (tgs_cons (tg_name 7) (tgs_cons (tg_name 8) tgs_nil))))) ?_
      refine hr_ret (ev_andB (ev_cmp c_in (ev_v 3) (ev_v 5) rv_inS) fun _ => ev_cmp c_ne (ev_v 3) (ev_ixT (ds := d'.houses.map PyData.str) (d := .str cr) (ev_v 5) (ev_ixT (ds := clA cl) (d := .int cl.cre) (ev_ixT (ds := d'.clauses.map claD) (d := claD cl) (ev_v 8) (ev_ixT (d := .int c) (ev_v 2) ev_int rfl) (atM g4)) ev_int rfl) (atS g5)) rv_neS) ?_
      show (D (.bool _)).le (D (.bool (canBe t w d (.did k c p) h o)))
      rw [hcb, if_neg (by rw [← h1]; decide)]; exact .rfl
end
end Hw
set_option Elab.async false
set_option linter.all false
set_option maxRecDepth 100000
set_option maxHeartbeats 1000000
namespace Hw
open PySem PySem.Spec L2

/-! ### sets of places -/
def SetX (φ : Nat → Prop) : MP := Xp (fun zs : List Nat => zs.length ≤ 60 ∧ ∀ y, y ∈ zs ↔ φ y) fun zs => D (.list (zs.map nI))
theorem SetX.le {φ ψ : Nat → Prop} (h : ∀ y, φ y ↔ ψ y) : (SetX φ).le (SetX ψ) := fun G v ⟨zs, ⟨h1, h2⟩, p⟩ => ⟨zs, ⟨h1, fun y => (h2 y).trans (h y)⟩, p⟩
theorem putG_keys {κ β : Type} [DecidableEq κ] {kvs : List (κ × β)} {k : κ} {d : β} : (putG kvs k d).map (·.1) = if (lookG kvs k).isSome then kvs.map (·.1) else kvs.map (·.1) ++ [k] := by
  unfold putG
  rw [lookG_any]
  split
  · rw [List.map_map]
    refine List.map_congr_left fun p _ => ?_
    show (if p.1 = k then (p.1, d) else p).1 = p.1
    split <;> rfl
  · rw [List.map_append]; rfl
theorem mergeG_keys {κ β : Type} [DecidableEq κ] : ∀ (more kvs : List (κ × β)), (kvs.map (·.1)).Nodup → ((mergeG kvs more).map (·.1)).Nodup ∧ ∀ k, k ∈ (mergeG kvs more).map (·.1) ↔ k ∈ kvs.map (·.1) ∨ k ∈ more.map (·.1)
  | [], kvs, h => ⟨h, fun k => by simp [mergeG]⟩
  | p :: more, kvs, h => by
    have h1 : ((putG kvs p.1 p.2).map (·.1)).Nodup := by
      rw [putG_keys]
      split
      · exact h
      · rename_i h2
        refine List.nodup_append.mpr ⟨h, by simp, fun a ha b hb => ?_⟩
        have eb : b = p.1 := by simpa using hb
        intro e
        rw [e, eb] at ha
        exact h2 (lookG_isSome.mpr ha)
    obtain ⟨h3, h4⟩ := mergeG_keys more (putG kvs p.1 p.2) h1
    refine ⟨h3, fun k => (h4 k).trans ?_⟩
    rw [putG_keys, List.map_cons, List.mem_cons]
    split
    · rename_i h2
      have h5 := lookG_isSome.mp h2
      constructor
      · rintro (h | h)
        · exact .inl h
        · exact .inr (.inr h)
      · rintro (h | h | h)
        · exact .inl h
        · rw [h]; exact .inl h5
        · exact .inr h
    · rw [List.mem_append, List.mem_singleton]
      constructor
      · rintro ((h | h) | h)
        · exact .inl h
        · exact .inr (.inl h)
        · exact .inr (.inr h)
      · rintro (h | h | h)
        · exact .inl (.inl h)
        · exact .inl (.inr h)
        · exact .inr h
def iK (n : Nat) : Key := .inl (n : Int)
theorem iK_inj : ∀ a b : Nat, iK a = iK b → a = b := fun a b h => by
  have h' : (Sum.inl (a : Int) : Int ⊕ Str) = Sum.inl (b : Int) := h
  exact Int.ofNat.inj (Sum.inl.inj h')
theorem lc_items {t : Nm × Nat → Bool} {pl : Pl} : (Xp (SelL (fun x c => ∀ n a, x = (nK n, nI a) → c = t (n, a)) (fun x => D x.2) (encG nK nI pl)) LstP).le (D (.list (((pl.filter t).map (·.2)).map nI))) := fun G v ⟨ps, hs, a, vs, h1, h2, h3⟩ => by
  have key : ∀ {pl : Pl} {ps : List MP}, SelL (fun (x : List Key × PyData) c => ∀ n a, x = (nK n, nI a) → c = t (n, a)) (fun x => D x.2) (encG nK nI pl) ps → ps = (((pl.filter t).map (·.2)).map nI).map D := by
    intro pl
    induction pl with
    | nil => intro ps h; cases h; rfl
    | cons p pl ih =>
      intro ps h
      have h' : SelL (fun (x : List Key × PyData) c => ∀ n a, x = (nK n, nI a) → c = t (n, a)) (fun x => D x.2) ((nK p.1, nI p.2) :: encG nK nI pl) ps := h
      cases h' with
      | yes hx hr =>
        have e := hx p.1 p.2 rfl
        rw [List.filter_cons_of_pos e.symm, ih hr]; rfl
      | no hx hr =>
        have e := hx p.1 p.2 rfl
        rw [List.filter_cons_of_neg (by show ¬ t (p.1, p.2) = true; rw [← e]; decide), ih hr]
  rw [key hs] at h3
  exact lstP_D G v ⟨a, vs, h1, h2, h3⟩
theorem tup2X {φ : Nat → Prop} {o : Option Nat} : (TupP [D (oN o), SetX φ]).le (Xp (fun zs : List Nat => zs.length ≤ 60 ∧ ∀ y, y ∈ zs ↔ φ y) fun zs => D (.tuple [oN o, .list (zs.map nI)])) := fun G v ⟨a, vs, h1, h2, h3⟩ => by
  obtain ⟨x, y, e, q1, zs, hz, q2⟩ := psa2 h3
  subst e
  exact ⟨zs, hz, by rw [h1]; exact .tup h2 (.cons q1 (.cons q2 .nil))⟩
section
variable {S : Sx} {f : Addr} {fd : FuncData}
theorem sc_each_once : FnScope ["places", "at"] ["places"] (defScope s_each_once) := ⟨rfl, rfl, rfl, by decide +kernel, rfl, by decide +kernel, by decide +kernel⟩
def SpOnce : Sp := Spc (NoR (α := List Nat)) (fun xs => xs.length ≤ 100000 ∧ ∀ y ∈ xs, y < 60) (fun xs => [D (.list (xs.map nI))]) (fun xs => SetX (· ∈ xs))
theorem ok_each_once (Fd : FnP S "each_once" s_each_once f fd) (b : Bi S) : OkF S 1 f fd ["places"] SpOnce := by
  refine fn_ok Fd sc_each_once (fun _ => rfl) noR fun xs hok => ?_
  obtain ⟨hl, h60⟩ : xs.length ≤ 100000 ∧ ∀ y ∈ xs, y < 60 := hok
  have hmk := mergeG_keys (xs.map fun y => (y, ())) [] List.nodup_nil
  have hm : mergeD [] (encG iK (fun _ : Unit => PyData.bool true) (xs.map fun y => (y, ()))) = encG iK (fun _ : Unit => PyData.bool true) (mergeG [] (xs.map fun y => (y, ()))) := mergeD_enc iK_inj _ []
  have hks : ∀ k, k ∈ (mergeG ([] : List (Nat × Unit)) (xs.map fun y => (y, ()))).map (·.1) ↔ k ∈ xs := fun k => by
    rw [hmk.2 k]
    simp
  have hlen : ((mergeG ([] : List (Nat × Unit)) (xs.map fun y => (y, ()))).map (·.1)).length ≤ 60 := by
    have := nodup_len (m := List.range 60) hmk.1 fun x hx => List.mem_range.mpr (h60 x ((hks x).mp hx))
    rw [List.length_range] at this
    exact this
  generalize hkk : (mergeG ([] : List (Nat × Unit)) (xs.map fun y => (y, ()))) = kk at hm hks hlen
  refine hr_ret (ev_sortedI (P := DKP (mergeD [] (encG iK (fun _ : Unit => PyData.bool true) (xs.map fun y => (y, ()))))) (kvs := mergeD [] (encG iK (fun _ : Unit => PyData.bool true) (xs.map fun y => (y, ())))) (ks := (kk.map (·.1)).map Int.ofNat) b.sorted (ev_dictK b.dict ((ev_lc [("at", 1)] (xs := xs) (enc := nI) (T := fun _ c => c = true) (P := fun y => D (.tuple [nI y, .bool true])) (itr_L (ev_v 0)) hl fun i y _ => ?_).le ?_)) isDK_G ?_ ?_) ?_
  · exact ⟨_, tg_name 1, ets_nil, fun _ => ev_tup (ds := [nI y, .bool true]) (ea2 (ev_v 1) ev_bl)⟩
  · refine lc_mapD.trans ?_
    unfold encG
    rw [List.map_map, List.map_map]
    exact .rfl
  · rw [hm]
    unfold encG
    rw [List.map_map, List.map_map, List.map_map]; rfl
  · rw [List.length_map]; omega
  · refine Xp.le (β := Nat) (Q := SetX (· ∈ xs)) fun (ys : List Int) hp => ?_
    have e : ys = (ys.map Int.toNat).map Int.ofNat := by
      rw [List.map_map]
      conv => lhs; rw [← List.map_id ys]
      refine List.map_congr_left fun y hy => ?_
      obtain ⟨z, _, ez⟩ := List.mem_map.mp (hp.mem_iff.mp hy)
      rw [← ez]; rfl
    have hp' : (ys.map Int.toNat).Perm (kk.map (·.1)) := by
      have := hp.map Int.toNat
      rw [List.map_map (f := Int.ofNat), show Int.toNat ∘ Int.ofNat = (id : Nat → Nat) from rfl, List.map_id] at this
      exact this
    intro G v p
    refine ⟨ys.map Int.toNat, ⟨by rw [hp'.length_eq]; exact hlen, fun y => (hp'.mem_iff).trans (hks y)⟩, ?_⟩
    show Dg G v (.list ((ys.map Int.toNat).map nI))
    rw [oN_map, ← e]
    exact p
def belowB (sure : Option Nat) (y : Nat) : Bool := match sure with | none => true | some s => decide (y < s)
theorem sc_below : FnScope ["sure", "places", "at"] ["sure", "places"] (defScope s_below) := ⟨rfl, rfl, rfl, by decide +kernel, rfl, by decide +kernel, by decide +kernel⟩
def SpBelow : Sp := Spc (NoR (α := Option Nat × List Nat)) (fun a => a.2.length ≤ 100000 ∧ ∀ y ∈ a.2, y < 60) (fun a => [D (oN a.1), D (.list (a.2.map nI))]) (fun a => SetX (fun y => y ∈ a.2 ∧ belowB a.1 y = true))
theorem ok_below (Fd : FnP S "below" s_below f fd) (cO : Cl S "each_once" 1 SpOnce) : OkF S 2 f fd ["sure", "places"] SpBelow := by
  refine fn_ok Fd sc_below (fun _ => rfl) noR fun ⟨sure, xs⟩ hok => ?_
  obtain ⟨hl, h60⟩ : xs.length ≤ 100000 ∧ ∀ y ∈ xs, y < 60 := hok
  refine hr_ret (ev_call cO (xs.filter (belowB sure)) ⟨Nat.le_trans (List.length_filter_le _ _) hl, fun y hy => h60 y (List.mem_filter.mp hy).1⟩ (ea1 ((ev_lc [("at", 2)] (xs := xs) (enc := nI) (T := fun y c => c = belowB sure y) (P := fun y => D (nI y)) (itr_L (ev_v 1)) hl fun i y _ => ?_).le lc_filD))) (SetX.le fun y => List.mem_filter)
  refine ⟨_, tg_name 2, ets_one ?_, fun _ => ev_v 2⟩
  cases sure with
  | none => exact et_w (ew_or (T1 := (· = true)) (et_cmp c_isN (ev_v 0) ev_non (rv_isD (d := .none)).bo) (fun z => absurd z (by decide)) (T2 := fun _ => True) fun c hc => by rcases hc with ⟨h1, _⟩ | ⟨_, h2⟩; exact absurd h1 (by decide); exact h2)
  | some s =>
    refine (et_w (ew_orB (x := false) (et_cmp c_isN (ev_v (P := D (.int (s : Nat))) 0) ev_non (rv_isD (d := .int s)).bo) fun _ => et_cmp c_lt (ev_v (P := D (nI y)) 2) (ev_v (P := D (.int (s : Nat))) 0) rv_lt.bo)).le fun c hc => ?_
    rw [hc, Bool.false_or]
    show decide ((y : Int) < (s : Int)) = decide (y < s)
    by_cases h : y < s
    · have : (y : Int) < (s : Int) := by omega
      simp [h, this]
    · have : ¬ (y : Int) < (s : Int) := by omega
      simp [h, this]
/-! ### a line -/
structure LA where
  t : Town
  h : Str
  w : Str
  d : Deal
  row : List Letter
  sg : List (Nat × Letter)
structure LAOk (a : LA) : Prop where
  t : TownOk a.t
  d : lookG a.t.deals a.w = some a.d
  h : Sk a.h
  row : ∀ l ∈ a.row, LtOk l
  rl : a.row.length ≤ 40
  sg : ∀ s ∈ a.sg, LtOk s.2 ∧ 1 ≤ s.1 ∧ s.1 ≤ a.row.length
  sl : a.sg.length ≤ 100000
abbrev lineF (a : LA) : List (Str × MP) := [("town", TownP a.t), ("house", D (.str a.h)), ("deal", D (.str a.w)), ("houses", D (sD a.d.houses)), ("others", D (sD a.d.others)), ("close", D (.int a.d.close)), ("clauses", D (.tuple (a.d.clauses.map claD))), ("row", D (.list (a.row.map ltD))), ("seen", D (.list (a.sg.map sgD)))]
def LineP (C : Addr) (a : LA) : MP := InsP C (lineF a)
structure LineC (S : Sx) (C : Addr) : Prop where
  cls : Cls S.K C
  town : NoAttr S.K C "town"
  house : NoAttr S.K C "house"
  deal : NoAttr S.K C "deal"
  houses : NoAttr S.K C "houses"
  others : NoAttr S.K C "others"
  close : NoAttr S.K C "close"
  clauses : NoAttr S.K C "clauses"
  row : NoAttr S.K C "row"
  seen : NoAttr S.K C "seen"
abbrev MeP (S : Sx) (x q : Str) (st : Stmt) (f : Addr) (fd : FuncData) : Prop := FunD S.K x q (defArgs st) (defBody st) (defScope st) [] [] f fd
variable {C : Addr}
abbrev InitArg := Town × Nd × Nm × Deal
structure InitOk (a : InitArg) : Prop where
  t : TownOk a.1
  nd : NdOk a.2.1
  d : lookG a.1.deals a.2.2.1.2.1 = some a.2.2.2
def lineOf (a : InitArg) : LA := ⟨a.1, a.2.2.1.1, a.2.2.1.2.1, a.2.2.2, rowOf a.2.1 a.2.2.1, sights a.2.1 (rowOf a.2.1 a.2.2.1)⟩
def SpInit (C : Addr) : Sp := SpI C InitOk (fun a => [TownP a.1, NdP a.2.1, D (nD a.2.2.1)]) (fun a => lineF (lineOf a))
theorem sc_init : FnScope ["self", "town", "named", "name"] ["self", "town", "named", "name"] (defScope sm_init) := ⟨rfl, rfl, rfl, by decide +kernel, rfl, by decide +kernel, by decide +kernel⟩
theorem ok_init (Fd : MeP S "__init__" "Line.__init__" sm_init f fd) (lc : LineC S C) (cR : Cl S "row_in" 1 SpRow) (cS : Cl S "seen_along" 2 SpSeen) : OkF S 3 f fd ["self", "town", "named", "name"] (SpInit C) := by
  refine init_ok Fd sc_init (fun _ => rfl) fun ⟨t, nd, n, d⟩ p hok => ?_
  obtain ⟨ht, hn, hd⟩ := id hok
  have hd' : lookG t.deals n.2.1 = some d := hd
  have hn' : NdOk nd := hn
  have hln := hn'.len
  refine hr_fld 0 0 (P := TownP t) (ev_v 1) lc.cls lc.town ?_
  refine hr_fldU (n := 2) 0 0 (Ps := [D (.str n.1), D (.str n.2.1)]) (ns := ["house", "deal"]) ((ev_slTto (ds := [.str n.1, .str n.2.1, .int n.2.2]) (n := 2) (ev_v 3) ev_int).le fun G v h => ?_) (tgF_cons lc.cls lc.house (tgF_cons lc.cls lc.deal tgF_nil)) ?_ (hf := fun f hf => ?_)
  · obtain ⟨a, xs, h1, h2, h3⟩ := Dg.tup_of (ds := [.str n.1, .str n.2.1]) h
    exact ⟨a, xs, h1, h2, h3.psa⟩
  · refine hr_fldU (n := 4) 0 0 (Ps := (dlA d).map D) (ns := ["houses", "others", "close", "clauses"]) (Ev.le (P := D (dealD d)) (ev_deal (t := t) (ev_v 1) (ev_fldR 0 (ev_v 0) lc.cls lc.deal) hd') fun G v h => ?_) (tgF_cons lc.cls lc.houses (tgF_cons lc.cls lc.others (tgF_cons lc.cls lc.close (tgF_cons lc.cls lc.clauses tgF_nil)))) ?_ (hf := fun f hf => ?_)
    · obtain ⟨a, xs, h1, h2, h3⟩ := Dg.tup_of (ds := dlA d) h
      exact ⟨a, xs, h1, h2, h3.psa⟩
    · refine hr_fld 0 0 (P := D (.list ((rowOf nd n).map ltD))) (ev_call cR (nd, n) (by show nd.length ≤ 1000; omega) (ea2 (ev_v 2) (ev_v 3))) lc.cls lc.row ?_
      refine hr_fld 0 0 (P := D (.list ((sights nd (rowOf nd n)).map sgD))) (ev_call cS (nd, rowOf nd n) ⟨hn', fun l hl => rowOf_mem hn' hl⟩ (ea2 (ev_v 2) (ev_fldR 0 (ev_v 0) lc.cls lc.row))) lc.cls lc.seen ?_
      exact hr_nil rfl
    · simp only [List.mem_cons, List.not_mem_nil, or_false] at hf
      rcases hf with rfl | rfl | rfl | rfl <;> rfl
  · simp only [List.mem_cons, List.not_mem_nil, or_false] at hf
    rcases hf with rfl | rfl <;> rfl
/-! ### the line's methods -/
def debOf (d : Deal) (c : Nat) : Str := match d.clauses[c]? with
  | none => Str.ofString ""
  | some cl => d.houses.getD cl.deb (Str.ofString "")
theorem deb_at {t : Town} {w : Str} {d : Deal} (hd : DealOk t w d) {c : Nat} (hc : c < d.clauses.length) : ∃ cl, d.clauses[c]? = some cl ∧ d.houses[cl.deb]? = some (debOf d c) ∧ ClaOk t w d cl := by
  have h1 : d.clauses[c]? = some d.clauses[c] := List.getElem?_eq_getElem hc
  have h2 := hd.cl _ (List.getElem_mem hc)
  refine ⟨_, h1, ?_, h2⟩
  unfold debOf
  rw [h1]
  exact house_at h2.deb
def SpDebtor (C : Addr) : Sp := Spc (NoR (α := LA × Nat)) (fun a => LAOk a.1 ∧ a.2 < a.1.d.clauses.length) (fun a => [LineP C a.1, D (.int (a.2 : Nat))]) (fun a => D (.str (debOf a.1.d a.2)))
theorem sc_debtor : FnScope ["self", "c"] ["self", "c"] (defScope sm_debtor) := ⟨rfl, rfl, rfl, by decide +kernel, rfl, by decide +kernel, by decide +kernel⟩
theorem ok_debtor (Fd : MeP S "debtor" "Line.debtor" sm_debtor f fd) (lc : LineC S C) : OkF S 1 f fd ["self", "c"] (SpDebtor C) := by
  refine fn_ok Fd sc_debtor (fun _ => rfl) noR fun ⟨a, c⟩ hok => ?_
  obtain ⟨ha, hc⟩ : LAOk a ∧ c < a.d.clauses.length := hok
  obtain ⟨cl, h1, h2, h3⟩ := deb_at (ha.t.ok _ _ ha.d) hc
  exact hr_ret (ev_ixT (ds := a.d.houses.map PyData.str) (d := .str (debOf a.d c)) (ev_fld (fs := lineF a) (ev_v 0) lc.cls lc.houses) (ev_ixT (ds := clA cl) (d := .int cl.deb) (ev_ixT (ds := a.d.clauses.map claD) (d := claD cl) (ev_fld (fs := lineF a) (ev_v 0) lc.cls lc.clauses) (ev_v 1) (atM h1)) ev_int rfl) (atS h2)) .rfl
def SpTime (C : Addr) : Sp := Spc (NoR (α := LA × Nat)) (fun a => LAOk a.1 ∧ 1 ≤ a.2 ∧ a.2 ≤ a.1.row.length) (fun a => [LineP C a.1, D (.int (a.2 : Nat))]) (fun a => D (.int (a.1.row.getD (a.2 - 1) dfl).time))
theorem sc_time : FnScope ["self", "place"] ["self", "place"] (defScope sm_time) := ⟨rfl, rfl, rfl, by decide +kernel, rfl, by decide +kernel, by decide +kernel⟩
theorem ok_time (Fd : MeP S "time" "Line.time" sm_time f fd) (lc : LineC S C) : OkF S 1 f fd ["self", "place"] (SpTime C) := by
  refine fn_ok Fd sc_time (fun _ => rfl) noR fun ⟨a, n⟩ hok => ?_
  obtain ⟨ha, h1, h2⟩ : LAOk a ∧ 1 ≤ n ∧ n ≤ a.row.length := hok
  have hn : n - 1 < a.row.length := by omega
  have hg : a.row[n - 1]? = some (a.row.getD (n - 1) dfl) := by rw [List.getElem?_eq_getElem hn, List.getD, List.getElem?_eq_getElem hn]; rfl
  exact hr_ret (ev_ixT (ds := ltA (a.row.getD (n - 1) dfl)) (d := .int (a.row.getD (n - 1) dfl).time) (ev_ixL (ds := a.row.map ltD) (d := ltD (a.row.getD (n - 1) dfl)) (ev_fld (fs := lineF a) (ev_v 0) lc.cls lc.row) (ev_sub (i := (n : Nat)) (j := 1) (ev_v 1) ev_int) (by rw [show ((n : Nat) : Int) - 1 = ((n - 1 : Nat) : Int) from by omega]; exact atM hg)) ev_int rfl) .rfl
def idxd (row : List Letter) : List (Nat × Letter) := row.zipIdx.map fun p => (p.2 + 1, p.1)
def ownPlace (row : List Letter) (dd : PyData) : Option Nat := placeOf (fun l => PyData.eqv l.deed dd) (idxd row)
theorem idxd_at {row : List Letter} {i : Nat} {l : Letter} (h : row[i]? = some l) : (idxd row)[i]? = some (i + 1, l) := by
  unfold idxd
  rw [List.getElem?_map, List.getElem?_zipIdx, h]
  simp
theorem idxd_length (row : List Letter) : (idxd row).length = row.length := by unfold idxd; rw [List.length_map, List.length_zipIdx]
def SpOwn (C : Addr) : Sp := Spc (NoR (α := LA × PyData)) (fun a => LAOk a.1 ∧ Ni 1 a.2) (fun a => [LineP C a.1, D a.2]) (fun a => D (oN (ownPlace a.1.row a.2)))
theorem sc_own_place : FnScope ["self", "deed", "k", "letter"] ["self", "deed"] (defScope sm_own_place) := ⟨rfl, rfl, rfl, by decide +kernel, rfl, by decide +kernel, by decide +kernel⟩
theorem ok_own_place (Fd : MeP S "own_place" "Line.own_place" sm_own_place f fd) (b : Bi S) (lc : LineC S C) : OkF S 1 f fd ["self", "deed"] (SpOwn C) := by
  refine fn_ok Fd sc_own_place (fun _ => rfl) noR fun ⟨a, dd⟩ hok => ?_
  obtain ⟨ha, hd⟩ : LAOk a ∧ Ni 1 dd := hok
  refine hr_for (ds := enD (a.row.map ltD)) (itr_enum b.enumerate (ev_fld (fs := lineF a) (ev_v 0) lc.cls lc.row)) (fun i L' Γ' => ∃ o2 o3, L' = [] ∧ Γ' = [some (LineP C a), some (D dd), o2, o3] ∧ ∀ s ∈ (idxd a.row).take i, PyData.eqv s.2.deed dd = false) ⟨_, _, rfl, rfl, fun s hs => absurd hs (by simp)⟩ (fun i d' L' Γ' hdd hI => ?_) fun L' Γ' hI => ?_
  · obtain ⟨o2, o3, hL, hΓ, hI⟩ := hI
    subst hL hΓ
    obtain ⟨d2, hd2, e⟩ := enD_get hdd
    subst e
    rw [List.getElem?_map] at hd2
    cases q : a.row[i]? with
    | none => rw [q] at hd2; cases hd2
    | some l =>
      rw [q] at hd2
      cases hd2
      have q' := idxd_at q
      have hl := ha.row l (List.mem_of_getElem? q)
      refine ⟨[2, 3], _, tg_tup (n := 2) (ds := [.int i, ltD l]) (tgs_cons (tg_name 2) (tgs_cons (tg_name 3) tgs_nil)), ?_⟩
      refine hr_ifR (et_cmp c_eqD (ev_ixT (ds := ltA l) (d := l.deed) (ev_v 3) ev_int rfl) (ev_v 1) (rv_eqD hl.e.nice hd.nice).bo) (fun h1 => ?_) fun h1 => ?_
      · refine hr_ret (R' := D (nI (i + 1))) (ev_addN (ev_v 2) ev_int) ?_
        have : ownPlace a.row dd = some (i + 1) := by
          unfold ownPlace placeOf
          rw [find_at (q := fun s : Nat × Letter => PyData.eqv s.2.deed dd) q' hI h1.symm]; rfl
        show (D (nI (i + 1))).le (D (oN (ownPlace a.row dd)))
        rw [this]
        exact .rfl
      · refine hr_nil ⟨_, _, rfl, rfl, fun s' hs' => ?_⟩
        rw [List.take_add_one, q'] at hs'
        rcases List.mem_append.mp hs' with hs' | hs'
        · exact hI s' hs'
        · have e' : s' = (i + 1, l) := by simpa using hs'
          rw [e']; exact h1.symm
  · obtain ⟨o2, o3, hL, hΓ, hI⟩ := hI
    subst hL hΓ
    rw [enD_length, List.length_map, ← idxd_length a.row, List.take_length] at hI
    refine hr_ret ev_non ?_
    have : ownPlace a.row dd = none := by
      unfold ownPlace placeOf
      rw [List.find?_eq_none.mpr (fun s hs => by show ¬ PyData.eqv s.2.deed dd = true; rw [hI s hs]; decide)]; rfl
    show (D .none).le (D (oN (ownPlace a.row dd)))
    rw [this]
    exact .rfl
def handD (c : Nat) (h : Str) : PyData := .tuple [.str "hand", .int c, .str h]
def readyD (c : Nat) : PyData := .tuple [.str "ready", .int c]
theorem ni_hand {c : Nat} {h : Str} (hh : Sk h) : Ni 1 (handD c h) := ni_3 (ni_str sk_of) (ni_int _) (ni_str hh)
theorem ni_ready {c : Nat} : Ni 1 (readyD c) := ni_2 (ni_str sk_of) (ni_int _)
def handPlace (a : LA) (c : Nat) : Option Nat := placeOf (isDeed (debOf a.d c) a.w (handD c a.h)) a.sg
def SpHand (C : Addr) : Sp := Spc (NoR (α := LA × Nat)) (fun a => LAOk a.1 ∧ a.2 < a.1.d.clauses.length) (fun a => [LineP C a.1, D (.int (a.2 : Nat))]) (fun a => D (oN (handPlace a.1 a.2)))
theorem sc_hand_place : FnScope ["self", "c"] ["self", "c"] (defScope sm_hand_place) := ⟨rfl, rfl, rfl, by decide +kernel, rfl, by decide +kernel, by decide +kernel⟩
theorem ok_hand_place (Fd : MeP S "hand_place" "Line.hand_place" sm_hand_place f fd) (lc : LineC S C) (cD : Cl S "deed_place" 1 SpDeedPlace) (mD : Ml S C "debtor" 1 (SpDebtor C)) : OkF S 2 f fd ["self", "c"] (SpHand C) := by
  refine fn_ok Fd sc_hand_place (fun _ => rfl) noR fun ⟨a, c⟩ hok => ?_
  obtain ⟨ha, hc⟩ : LAOk a ∧ c < a.d.clauses.length := hok
  have dk := ha.t.ok _ _ ha.d
  obtain ⟨cl, h1, h2, h3⟩ := deb_at dk hc
  exact hr_ret (ev_call cD (debOf a.d c, a.w, handD c a.h, a.sg) ⟨dk.hk _ (List.mem_of_getElem? h2), dk.wk, ni_hand ha.h, fun s hs => (ha.sg s hs).1, ha.sl⟩ (ea_cons (ev_meth (fs := lineF a) mD lc.cls (ev_v 0) (a, c) ⟨ha, hc⟩ (ea1 (ev_v 1))) (ea_cons (ev_fld (fs := lineF a) (ev_v 0) lc.cls lc.deal) (ea2 (ev_tup (ds := [.str "hand", .int (c : Nat), .str a.h]) (ea_cons ev_str (ea2 (ev_v 1) (ev_fld (fs := lineF a) (ev_v 0) lc.cls lc.house)))) (ev_fld (fs := lineF a) (ev_v 0) lc.cls lc.seen))))) .rfl
end
end Hw
set_option Elab.async false
set_option linter.all false
set_option maxRecDepth 100000
set_option maxHeartbeats 1000000
namespace Hw
open PySem PySem.Spec L2

theorem placeOf_mem {q : Letter → Bool} {sg : List (Nat × Letter)} {n : Nat} (h : placeOf q sg = some n) : ∃ s ∈ sg, s.1 = n ∧ q s.2 = true := by
  unfold placeOf at h
  cases e : sg.find? fun s => q s.2 with
  | none => rw [e] at h; cases h
  | some s =>
    rw [e] at h
    exact ⟨s, List.mem_of_find?_eq_some e, Option.some.inj h, List.find?_some (p := fun s : Nat × Letter => q s.2) e⟩
theorem idxd_bound {row : List Letter} {s : Nat × Letter} (h : s ∈ idxd row) : 1 ≤ s.1 ∧ s.1 ≤ row.length := by
  obtain ⟨i, hi, e⟩ := List.mem_iff_getElem.mp h
  have hi' : i < row.length := by rw [← idxd_length]; exact hi
  have := idxd_at (List.getElem?_eq_getElem hi')
  rw [List.getElem?_eq_getElem hi, e] at this
  rw [Option.some.inj this]
  exact ⟨Nat.succ_le_succ (Nat.zero_le _), hi'⟩
theorem ownPlace_bound {row : List Letter} {dd : PyData} {r : Nat} (h : ownPlace row dd = some r) : 1 ≤ r ∧ r ≤ row.length := by
  obtain ⟨s, hs, e, _⟩ := placeOf_mem h
  rw [← e]; exact idxd_bound hs
structure GapsOk (a : LA) (pl : Pl) : Prop where
  k : ∀ p ∈ pl, Sk p.1.1 ∧ Sk p.1.2.1
  b : ∀ p ∈ pl, 1 ≤ p.2 ∧ p.2 ≤ a.row.length
  l : pl.length ≤ 100000
def evSure (a : LA) (e : Evt) : Option Nat := placeOf (isEv a.t a.w a.d e) a.sg
def evSet (a : LA) (pl : Pl) (e : Evt) (y : Nat) : Prop := (∃ p ∈ pl, canBe a.t a.w a.d e p.1.1 p.1.2.1 = true ∧ p.2 = y) ∧ belowB (evSure a e) y = true
abbrev PrX (o : Option Nat) (φ : Nat → Prop) : MP := Xp (fun zs : List Nat => zs.length ≤ 60 ∧ ∀ y, y ∈ zs ↔ φ y) fun zs => D (.tuple [oN o, .list (zs.map nI)])
theorem prX {o : Option Nat} {φ ψ : Nat → Prop} (h : ∀ y, φ y ↔ ψ y) : (TupP [D (oN o), SetX φ]).le (PrX o ψ) := fun G v p => by
  obtain ⟨zs, ⟨h1, h2⟩, q⟩ := tup2X G v p
  exact ⟨zs, ⟨h1, fun y => (h2 y).trans (h y)⟩, q⟩
section
variable {S : Sx} {f : Addr} {fd : FuncData} {C : Addr}
structure EpOk (a : LA × Pl × Evt) : Prop where
  la : LAOk a.1
  p : GapsOk a.1 a.2.1
  e : EvtOk a.1.t a.1.w a.1.d a.2.2
def SpEvPlaces (C : Addr) : Sp := Spc (NoR (α := LA × Pl × Evt)) EpOk (fun a => [TownP a.1.t, LineP C a.1, PlP a.2.1, D (evD a.2.2)]) (fun a => PrX (evSure a.1 a.2.2) (evSet a.1 a.2.1 a.2.2))
theorem sc_event_places : FnScope ["town", "line", "gaps", "event", "sure", "some", "gap", "at"] ["town", "line", "gaps", "event"] (defScope s_event_places) := ⟨rfl, rfl, rfl, by decide +kernel, rfl, by decide +kernel, by decide +kernel⟩
theorem ok_event_places (Fd : FnP S "event_places" s_event_places f fd) (lc : LineC S C) (cE : Cl S "event_place" 3 SpEvPlace) (cC : Cl S "can_be" 1 SpCanBe) (cB : Cl S "below" 2 SpBelow) : OkF S 4 f fd ["town", "line", "gaps", "event"] (SpEvPlaces C) := by
  refine fn_ok Fd sc_event_places (fun _ => rfl) noR fun ⟨a, pl, e⟩ hok => ?_
  obtain ⟨ha, hp, he⟩ := id hok
  have ha' : LAOk a := ha
  have hp' : GapsOk a pl := hp
  refine hr_set 4 (P := D (oN (evSure a e))) (ev_call cE (a.t, a.w, a.d, e, a.sg) ⟨ha'.t, ha'.d, he, fun s hs => (ha'.sg s hs).1, ha'.sl⟩ (ea_cons (ev_v 0) (ea_cons (ev_fld (fs := lineF a) (ev_v 1) lc.cls lc.deal) (ea2 (ev_v 3) (ev_fld (fs := lineF a) (ev_v 1) lc.cls lc.seen))))) ?_
  refine hr_setLcItems 5 2 [("gap", 6), ("at", 7)] (kvs := encG nK nI pl) (T := fun x c => ∀ n k, x = (nK n, nI k) → c = (fun p : Nm × Nat => canBe a.t a.w a.d e p.1.1 p.1.2.1) (n, k)) (P := fun x => D x.2) rfl (by rw [encG_length]; exact hp'.l) (fun i x hx => ?_) (hr_ty 5 rfl (lc_items (t := fun p : Nm × Nat => canBe a.t a.w a.d e p.1.1 p.1.2.1)) ?_)
  · unfold encG at hx
    rw [List.getElem?_map] at hx
    cases q : pl[i]? with
    | none => rw [q] at hx; cases hx
    | some p =>
      rw [q] at hx
      cases hx
      have hk := hp'.k p (List.mem_of_getElem? q)
      refine ⟨_, tg_tup (n := 2) (ds := [nD p.1, nI p.2]) (tgs_cons (tg_name 6) (tgs_cons (tg_name 7) tgs_nil)), ets_one ((et_bl (ev_call cC (a.t, a.w, a.d, e, p.1.1, p.1.2.1) ⟨ha'.t, ha'.d, he, hk.1, hk.2⟩ (ea_cons (ev_v 0) (ea_cons (ev_fld (fs := lineF a) (ev_v 1) lc.cls lc.deal) (ea_cons (ev_v 3) (ea2 (ev_ixT (ds := [.str p.1.1, .str p.1.2.1, .int p.1.2.2]) (d := .str p.1.1) (ev_v 6) ev_int rfl) (ev_ixT (ds := [.str p.1.1, .str p.1.2.1, .int p.1.2.2]) (d := .str p.1.2.1) (ev_v 6) ev_int rfl))))))).le fun c hc n k hx => ?_), fun _ => ev_v 7⟩
      have e1 : p.1 = n := nK_inj _ _ (congrArg Prod.fst hx)
      rw [hc, e1]
  · refine hr_ret (ev_tupP (Ps := [D (oN (evSure a e)), SetX _]) (ea2 (ev_v 4) (ev_call cB (evSure a e, (pl.filter fun p : Nm × Nat => canBe a.t a.w a.d e p.1.1 p.1.2.1).map (·.2)) ⟨?_, fun y hy => ?_⟩ (ea2 (ev_v 4) (ev_v 5))))) (prX fun y => ?_)
    · rw [List.length_map]
      exact Nat.le_trans (List.length_filter_le _ _) hp'.l
    · obtain ⟨p, hp1, e1⟩ := List.mem_map.mp hy
      have := hp'.b p (List.mem_filter.mp hp1).1
      have := ha'.rl
      omega
    · unfold evSet
      refine and_congr ?_ Iff.rfl
      rw [List.mem_map]
      constructor
      · rintro ⟨p, hp1, e1⟩
        have := List.mem_filter.mp hp1
        exact ⟨p, this.1, this.2, e1⟩
      · rintro ⟨p, h1, h2, h3⟩
        exact ⟨p, List.mem_filter.mpr ⟨h1, h2⟩, h3⟩
/-! ### start_places -/
def startSure (a : LA) (c : Nat) : Option Nat := if a.h = debOf a.d c then ownPlace a.row joinD else match ownPlace a.row (readyD c) with
  | none => none
  | some r => if a.h ∈ a.d.houses then (match handPlace a c with | none => none | some s => some (max s r)) else none
def startSet (a : LA) (pl : Pl) (c : Nat) (y : Nat) : Prop := ¬ a.h = debOf a.d c ∧ ∃ r, ownPlace a.row (readyD c) = some r ∧ a.h ∈ a.d.houses ∧ ∃ p ∈ pl, p.1.1 = debOf a.d c ∧ p.1.2.1 = a.w ∧ belowB (handPlace a c) p.2 = true ∧ y = max p.2 r
structure StOk (a : LA × Pl × Nat) : Prop where
  la : LAOk a.1
  p : GapsOk a.1 a.2.1
  c : a.2.2 < a.1.d.clauses.length
def SpStart (C : Addr) : Sp := Spc (NoR (α := LA × Pl × Nat)) StOk (fun a => [LineP C a.1, PlP a.2.1, D (.int (a.2.2 : Nat))]) (fun a => PrX (startSure a.1 a.2.2) (startSet a.1 a.2.1 a.2.2))
theorem emptyX {F : Fx} {L : List Rs} {Γ : Ty} {pos : Pos} : Ev F L Γ (.List [] pos) (SetX fun _ => False) := (ev_lst (ds := []) ea_nil).le fun G v p => ⟨[], ⟨Nat.zero_le _, fun y => by simp⟩, p⟩
theorem sc_start_places : FnScope ["line", "gaps", "c", "ready", "sure", "some", "gap", "at"] ["line", "gaps", "c"] (defScope s_start_places) := ⟨rfl, rfl, rfl, by decide +kernel, rfl, by decide +kernel, by decide +kernel⟩
theorem ok_start_places (Fd : FnP S "start_places" s_start_places f fd) (b : Bi S) (lc : LineC S C) (cB : Cl S "below" 2 SpBelow) (cO : Cl S "each_once" 1 SpOnce) (mD : Ml S C "debtor" 1 (SpDebtor C)) (mO : Ml S C "own_place" 1 (SpOwn C)) (mH : Ml S C "hand_place" 2 (SpHand C)) : OkF S 3 f fd ["line", "gaps", "c"] (SpStart C) := by
  refine fn_ok Fd sc_start_places (fun _ => rfl) noR fun ⟨a, pl, c⟩ hok => ?_
  obtain ⟨ha, hp, hc⟩ := id hok
  have ha' : LAOk a := ha
  have hp' : GapsOk a pl := hp
  have hc' : c < a.d.clauses.length := hc
  have dk := ha'.t.ok _ _ ha'.d
  show Hr _ _ _ _ _ (PrX (startSure a c) (startSet a pl c))
  refine hr_ifR (et_cmp c_eq (ev_fld (fs := lineF a) (ev_v 0) lc.cls lc.house) (ev_meth (Q := D (.str (debOf a.d c))) (fs := lineF a) mD lc.cls (ev_v 0) (a, c) ⟨ha', hc'⟩ (ea1 (ev_v 2))) rv_eqS.bo) (fun h => ?_) fun h => ?_
  · have h' : a.h = debOf a.d c := by simpa using h.symm
    refine hr_ret (ev_tupP (Ps := [D (oN (ownPlace a.row joinD)), SetX _]) (ea2 (ev_meth (fs := lineF a) mO lc.cls (ev_v 0) (a, joinD) ⟨ha', ni_join⟩ (ea1 (ev_tup (ds := [.str "join"]) (ea1 ev_str)))) emptyX)) ?_
    rw [show startSure a c = ownPlace a.row joinD from if_pos h']
    exact prX fun y => ⟨fun z => z.elim, fun z => z.1 h'⟩
  · have h' : ¬ a.h = debOf a.d c := by simpa using h.symm
    refine hr_set 3 (P := D (oN (ownPlace a.row (readyD c)))) (ev_meth (fs := lineF a) mO lc.cls (ev_v 0) (a, readyD c) ⟨ha', ni_ready⟩ (ea1 (ev_tup (ds := [.str "ready", .int (c : Nat)]) (ea2 ev_str (ev_v 2))))) ?_
    have e0 : startSure a c = match ownPlace a.row (readyD c) with | none => none | some r => if a.h ∈ a.d.houses then (match handPlace a c with | none => none | some s => some (max s r)) else none := if_neg h'
    cases er : ownPlace a.row (readyD c) with
    | none =>
      refine hr_ifR (T := (· = true)) (et_w (ew_or (T1 := (· = true)) (et_cmp c_isN (ev_v 3) ev_non (rv_isD (d := .none)).bo) (fun z => absurd z (by decide)) (T2 := fun _ => True) fun c hc => by rcases hc with ⟨h1, _⟩ | ⟨_, h2⟩; exact absurd h1 (by decide); exact h2)) (fun _ => ?_) fun z => absurd z (by decide)
      refine hr_ret (ev_tupP (Ps := [D (oN none), SetX _]) (ea2 ev_non emptyX)) ?_
      rw [er] at e0
      rw [show startSure a c = none from e0]
      exact prX fun y => ⟨fun z => z.elim, fun ⟨_, r, h1, _⟩ => by rw [er] at h1; cases h1⟩
    | some r =>
      have hr := ownPlace_bound er
      have hrl := ha'.rl
      rw [er] at e0
      simp only at e0
      refine hr_ifR (et_w (ew_orB (x := false) (et_cmp c_isN (ev_v (P := D (.int (r : Nat))) 3) ev_non (rv_isD (d := .int r)).bo) fun _ => et_cmp c_notIn (ev_fld (P := D (.str a.h)) (fs := lineF a) (ev_v 0) lc.cls lc.house) (ev_fld (P := D (.tuple (a.d.houses.map .str))) (fs := lineF a) (ev_v 0) lc.cls lc.houses) rv_notInS.bo)) (fun h2 => ?_) fun h2 => ?_
      · have hn : ¬ a.h ∈ a.d.houses := by simpa using h2.symm
        refine hr_ret (ev_tupP (Ps := [D (oN none), SetX _]) (ea2 ev_non emptyX)) ?_
        rw [if_neg hn] at e0
        rw [e0]
        exact prX fun y => ⟨fun z => z.elim, fun ⟨_, r, _, h3, _⟩ => hn h3⟩
      · have hi : a.h ∈ a.d.houses := by simpa using h2.symm
        rw [if_pos hi] at e0
        refine hr_set 4 (P := D (oN (handPlace a c))) (ev_meth (fs := lineF a) mH lc.cls (ev_v 0) (a, c) ⟨ha', hc'⟩ (ea1 (ev_v 2))) ?_
        have hns := ni_2s (dk.hk _ (List.mem_of_getElem? (deb_at dk hc').choose_spec.2.1)) dk.wk
        refine hr_set 5 (P := SetX (fun y => y ∈ (pl.filter fun p : Nm × Nat => decide (p.1.1 = debOf a.d c) && decide (p.1.2.1 = a.w)).map (·.2) ∧ belowB (handPlace a c) y = true)) (ev_call cB (handPlace a c, (pl.filter fun p : Nm × Nat => decide (p.1.1 = debOf a.d c) && decide (p.1.2.1 = a.w)).map (·.2)) ⟨?_, fun y hy => ?_⟩ (ea2 (ev_v 4) ((ev_lcItems 1 [("gap", 6), ("at", 7)] (kvs := encG nK nI pl) (T := fun x c' => ∀ n k, x = (nK n, nI k) → c' = (fun p : Nm × Nat => decide (p.1.1 = debOf a.d c) && decide (p.1.2.1 = a.w)) (n, k)) (P := fun x => D x.2) rfl (by rw [encG_length]; exact hp'.l) fun i x hx => ?_).le (lc_items (t := fun p : Nm × Nat => decide (p.1.1 = debOf a.d c) && decide (p.1.2.1 = a.w)))))) ?_
        · rw [List.length_map]
          exact Nat.le_trans (List.length_filter_le _ _) hp'.l
        · obtain ⟨p, hp1, e1⟩ := List.mem_map.mp hy
          have := hp'.b p (List.mem_filter.mp hp1).1
          omega
        · unfold encG at hx
          rw [List.getElem?_map] at hx
          cases q : pl[i]? with
          | none => rw [q] at hx; cases hx
          | some p =>
            rw [q] at hx
            cases hx
            have hk := hp'.k p (List.mem_of_getElem? q)
            refine ⟨_, tg_tup (n := 2) (ds := [nD p.1, nI p.2]) (tgs_cons (tg_name 6) (tgs_cons (tg_name 7) tgs_nil)), ets_one ((et_cmp c_eqD (ev_slTto (ds := [.str p.1.1, .str p.1.2.1, .int p.1.2.2]) (n := 2) (ev_v 6) ev_int) (ev_tup (ds := [.str (debOf a.d c), .str a.w]) (ea2 (ev_meth (fs := lineF a) mD lc.cls (ev_v 0) (a, c) ⟨ha', hc'⟩ (ea1 (ev_v 2))) (ev_fld (fs := lineF a) (ev_v 0) lc.cls lc.deal))) (rv_eqD (d := .tuple [.str p.1.1, .str p.1.2.1]) (ni_2s hk.1 hk.2).nice hns.nice).bo).le fun c' hc n k hx => ?_), fun _ => ev_v 7⟩
            have e1 : p.1 = n := nK_inj _ _ (congrArg Prod.fst hx)
            rw [hc, eqv_2s, e1]
        · refine hr_ex 5 rfl fun zs hz => ?_
          obtain ⟨hz1, hz2⟩ := hz
          have hzb : ∀ y ∈ zs, y ≤ a.row.length := fun y hy => by
            obtain ⟨p, hp1, e1⟩ := List.mem_map.mp ((hz2 y).mp hy).1
            have := hp'.b p (List.mem_filter.mp hp1).1
            omega
          refine hr_set 5 (P := SetX (fun y => y ∈ zs.map fun z => max z r)) (ev_call cO (zs.map fun z => max z r) ⟨by rw [List.length_map]; omega, fun y hy => ?_⟩ (ea1 ((ev_lc [("at", 7)] (xs := zs) (enc := nI) (T := fun _ c => c = true) (P := fun z => D (nI (max z r))) (itr_L (ev_v 5)) (by omega) fun i z _ => ?_).le (lc_mapD.trans ?_)))) ?_
          · obtain ⟨z, hz, e⟩ := List.mem_map.mp hy
            have := hzb z hz
            omega
          · refine ⟨_, tg_name 7, ets_nil, fun _ => Ev.eq (ev_max2 (i := (z : Nat)) (j := (r : Nat)) b.max (ev_v 7) (ev_v 3)) ?_⟩
            show PyData.int (max (z : Int) (r : Int)) = .int ((max z r : Nat) : Int)
            congr 1
            omega
          · rw [List.map_map]; exact .rfl
          · have hset : ∀ y, (y ∈ zs.map fun z => max z r) ↔ startSet a pl c y := fun y => by
              unfold startSet
              rw [List.mem_map]
              constructor
              · rintro ⟨z, hz, e⟩
                obtain ⟨h1, h2⟩ := (hz2 z).mp hz
                obtain ⟨p, hp1, e1⟩ := List.mem_map.mp h1
                have h3 := List.mem_filter.mp hp1
                have h4 : (decide (p.1.1 = debOf a.d c) && decide (p.1.2.1 = a.w)) = true := h3.2
                rw [Bool.and_eq_true, decide_eq_true_eq, decide_eq_true_eq] at h4
                exact ⟨h', r, er, hi, p, h3.1, h4.1, h4.2, by rw [e1]; exact h2, by rw [e1]; exact e.symm⟩
              · rintro ⟨_, r', h1, _, p, h2, h3, h4, h5, h6⟩
                rw [er] at h1
                cases h1
                exact ⟨p.2, (hz2 p.2).mpr ⟨List.mem_map.mpr ⟨p, List.mem_filter.mpr ⟨h2, by simp [h3, h4]⟩, rfl⟩, h5⟩, h6.symm⟩
            cases eh : handPlace a c with
            | none =>
              rw [eh] at e0
              refine hr_ifR (et_cmp c_isN (ev_v (P := D .none) 4) ev_non (rv_isD (d := .none)).bo) (fun _ => ?_) fun z => absurd z (by decide)
              refine hr_ret (ev_tupP (Ps := [D (oN none), SetX _]) (ea2 ev_non (ev_v 5))) ?_
              rw [show startSure a c = none from e0]
              exact prX hset
            | some s =>
              rw [eh] at e0
              refine hr_ifR (et_cmp c_isN (ev_v (P := D (.int (s : Nat))) 4) ev_non (rv_isD (d := .int s)).bo) (fun z => absurd (show true = false from z) (by decide)) fun _ => ?_
              refine hr_ret (ev_tupP (Ps := [D (oN (some (max s r))), SetX _]) (ea2 (Ev.eq (ev_max2 (i := (s : Nat)) (j := (r : Nat)) b.max (ev_v 4) (ev_v 3)) ?_) (ev_v 5))) ?_
              · show PyData.int (max (s : Int) (r : Int)) = .int ((max s r : Nat) : Int)
                congr 1
                omega
              · rw [show startSure a c = some (max s r) from e0]
                exact prX hset
end
end Hw
set_option Elab.async false
set_option linter.all false
set_option maxRecDepth 100000
set_option maxHeartbeats 1000000
namespace Hw
open PySem PySem.Spec L2

/-! ### all ways of a clause -/
abbrev Sp1 := Option Nat × (Nat → Prop)
abbrev Pr1 := Option Nat × List Nat
def prD (p : Pr1) : PyData := .tuple [oN p.1, .list (p.2.map nI)]
def PrOk (s : Sp1) (p : Pr1) : Prop := s.1 = p.1 ∧ p.2.length ≤ 60 ∧ ∀ y, y ∈ p.2 ↔ s.2 y
def specs (a : LA) (pl : Pl) (c : Nat) (es : List Evt) : List Sp1 := (startSure a c, startSet a pl c) :: es.map fun e => (evSure a e, evSet a pl e)
def allowed (s : Sp1) (y : Nat) : Prop := s.2 y ∨ s.1 = some y
def timeOk (a : LA) (y : Nat) : Prop := (a.row.getD (y - 1) dfl).time ≤ a.d.close
def BegSpec (a : LA) (ss : List Sp1) (bs : List (Option Nat)) : Prop :=
  (∀ xs : List Nat, Paired allowed ss xs → ∀ M, M ∈ xs → (∀ x ∈ xs, x ≤ M) → (timeOk a M → some M ∈ bs) ∧ (¬ timeOk a M → none ∈ bs)) ∧ ((∃ s ∈ ss, s.1 = none) → none ∈ bs)
def evy (p : Pr1) : List Nat := p.2 ++ p.1.toList
theorem paired_left {α β : Type} {F : α → β → Prop} : ∀ {xs : List α} {ys : List β}, Paired F xs ys → ∀ x ∈ xs, ∃ y ∈ ys, F x y
  | _, _, .nil, x, h => absurd h (by simp)
  | _, _, .cons r t, x, h => by
    rcases List.mem_cons.mp h with e | h
    · subst e; exact ⟨_, List.mem_cons_self, r⟩
    · obtain ⟨y, hy, q⟩ := paired_left t x h
      exact ⟨y, List.mem_cons_of_mem _ hy, q⟩
theorem paired_right {α β : Type} {F : α → β → Prop} : ∀ {xs : List α} {ys : List β}, Paired F xs ys → ∀ y ∈ ys, ∃ x ∈ xs, F x y
  | _, _, .nil, x, h => absurd h (by simp)
  | _, _, .cons r t, y, h => by
    rcases List.mem_cons.mp h with e | h
    · subst e; exact ⟨_, List.mem_cons_self, r⟩
    · obtain ⟨x, hx, q⟩ := paired_right t y h
      exact ⟨x, List.mem_cons_of_mem _ hx, q⟩
theorem paired_comp {α β γ : Type} {F : α → β → Prop} {K : α → γ → Prop} : ∀ {xs : List α} {ys : List β} {zs : List γ}, Paired F xs ys → Paired K xs zs → Paired (fun y z => ∃ x, F x y ∧ K x z) ys zs
  | _, _, _, .nil, .nil => .nil
  | _, _, _, .cons r t, .cons r2 t2 => .cons ⟨_, r, r2⟩ (paired_comp t t2)
theorem exists_max : ∀ {xs : List Nat}, xs ≠ [] → ∃ m ∈ xs, ∀ y ∈ xs, y ≤ m
  | [], h => absurd rfl h
  | [x], _ => ⟨x, List.mem_cons_self, fun y hy => by
    have e : y = x := by simpa using hy
    rw [e]; exact Nat.le_refl _⟩
  | x :: z :: xs, _ => by
    obtain ⟨m, h1, h2⟩ := exists_max (xs := z :: xs) (by simp)
    by_cases h : x ≤ m
    · exact ⟨m, List.mem_cons_of_mem _ h1, fun y hy => by
        rcases List.mem_cons.mp hy with e | hy
        · rw [e]; exact h
        · exact h2 y hy⟩
    · exact ⟨x, List.mem_cons_self, fun y hy => by
        rcases List.mem_cons.mp hy with e | hy
        · rw [e]; exact Nat.le_refl _
        · have := h2 y hy; omega⟩
theorem allowed_evy {s : Sp1} {p : Pr1} (h : PrOk s p) {y : Nat} : allowed s y ↔ y ∈ evy p := by
  unfold allowed evy
  rw [List.mem_append, h.2.2 y, ← h.1]
  cases s.1 with
  | none => simp
  | some z => simp [eq_comm]
/-- the plain law of begins_along -/
theorem beg_nil {a : LA} {ss : List Sp1} {ps : List Pr1} (hp : Paired PrOk ss ps) (h : ∃ p ∈ ps, evy p = []) : BegSpec a ss [none] := by
  refine ⟨fun xs hx M _ _ => ?_, fun _ => List.mem_cons_self⟩
  obtain ⟨p, hp1, e⟩ := h
  obtain ⟨s, hs, ok⟩ := paired_right hp p hp1
  obtain ⟨x, _, al⟩ := paired_left hx s hs
  have := (allowed_evy ok).mp al
  rw [e] at this
  cases this
theorem beg_some {a : LA} {ss : List Sp1} {ps : List Pr1} (hp : Paired PrOk ss ps) {M0 : Nat} (hM : ∀ p ∈ ps, (minO (evy p)).getD 0 ≤ M0) (hM2 : ∃ p ∈ ps, (minO (evy p)).getD 0 = M0) {found : List Nat} (hf : ∀ y, y ∈ found ↔ (∃ p ∈ ps, y ∈ evy p) ∧ M0 ≤ y) {t : Nat → Bool} (ht : ∀ y ∈ found, t y = true ↔ timeOk a y) {bs : List (Option Nat)}
    (hb : bs = (found.filter t).map some ++ (if (ps.any fun p => p.1.isNone) = true ∨ (found.filter t).length < found.length then [none] else [])) : BegSpec a ss bs := by
  have hmin : ∀ (p : Pr1) (x : Nat), x ∈ evy p → (minO (evy p)).getD 0 ≤ x := fun p x hx => by
    cases e : minO (evy p) with
    | none => rw [minO_none e] at hx; cases hx
    | some m => exact (minO_some e).2 x hx
  refine ⟨fun xs hx M h1 h2 => ?_, fun ⟨s, hs, hn⟩ => ?_⟩
  · have hpx := paired_comp hp hx
    have hMf : M ∈ found := by
      refine (hf M).mpr ⟨?_, ?_⟩
      · obtain ⟨p, hp1, s, ok, al⟩ := paired_right hpx M h1
        exact ⟨p, hp1, (allowed_evy ok).mp al⟩
      · obtain ⟨p, hp1, e⟩ := hM2
        obtain ⟨x, hx1, s, ok, al⟩ := paired_left hpx p hp1
        rw [← e]
        exact Nat.le_trans (hmin p x ((allowed_evy ok).mp al)) (h2 x hx1)
    refine ⟨fun h => ?_, fun h => ?_⟩
    · rw [hb]
      exact List.mem_append_left _ (List.mem_map.mpr ⟨M, List.mem_filter.mpr ⟨hMf, (ht M hMf).mpr h⟩, rfl⟩)
    · have hlt : (found.filter t).length < found.length := by
        rcases Nat.lt_or_ge (found.filter t).length found.length with q | q
        · exact q
        · have e : found.filter t = found := List.Sublist.eq_of_length_le (List.filter_sublist ..) q
          have := List.filter_eq_self.mp e M hMf
          exact absurd ((ht M hMf).mp this) h
      rw [hb, if_pos (.inr hlt)]
      exact List.mem_append_right _ List.mem_cons_self
  · obtain ⟨p, hp1, ok⟩ := paired_left hp s hs
    rw [hb, if_pos (.inl (List.any_eq_true.mpr ⟨p, hp1, by rw [← ok.1, hn]; rfl⟩))]
    exact List.mem_append_right _ List.mem_cons_self
theorem filter_flat {α : Type} (q : α → Bool) : ∀ xs : List (List α), (xs.map fun x => x.filter q).flatten = xs.flatten.filter q
  | [] => rfl
  | x :: xs => by rw [List.map_cons, List.flatten_cons, List.flatten_cons, List.filter_append, filter_flat q xs]
theorem specs_bound {a : LA} (ha : LAOk a) {pl : Pl} (hp : GapsOk a pl) {c : Nat} {es : List Evt} {s : Sp1} (hs : s ∈ specs a pl c es) {y : Nat} (h : allowed s y) : 1 ≤ y ∧ y ≤ a.row.length := by
  unfold specs at hs
  rcases List.mem_cons.mp hs with e | hs
  · subst e
    rcases h with ⟨_, r, h1, _, p, h2, _, _, _, h3⟩ | h
    · have := ownPlace_bound h1
      have := hp.b p h2
      omega
    · have h' : startSure a c = some y := h
      unfold startSure at h'
      split at h'
      · exact ownPlace_bound h'
      · split at h'
        · cases h'
        · rename_i r er
          have hr := ownPlace_bound er
          split at h'
          · split at h'
            · cases h'
            · rename_i s es
              obtain ⟨z, hz, ez, _⟩ := placeOf_mem es
              have := (ha.sg z hz).2
              have e := Option.some.inj h'
              omega
          · cases h'
  · obtain ⟨e, he, q⟩ := List.mem_map.mp hs
    subst q
    rcases h with ⟨⟨p, h1, _, h2⟩, _⟩ | h
    · have := hp.b p h1
      omega
    · obtain ⟨z, hz, ez, _⟩ := placeOf_mem h
      have := (ha.sg z hz).2
      omega
theorem eqv_isEmpty {ds : List PyData} : PyData.eqv (.list ds) (.list []) = ds.isEmpty := eqv_nil
theorem Paired.snoc' {α β : Type} {F : α → β → Prop} {x : α} {y : β} (h : F x y) : ∀ {xs : List α} {ys : List β}, Paired F xs ys → Paired F (xs ++ [x]) (ys ++ [y])
  | _, _, .nil => .cons h .nil
  | _, _, .cons r t => .cons r (Paired.snoc' h t)
section
variable {S : Sx} {f : Addr} {fd : FuncData} {C : Addr}
def condsOf (d : Deal) (c : Nat) : List Evt := match d.clauses[c]? with
  | none => []
  | some cl => cl.conds
def SpBegAl (C : Addr) : Sp := Spc (NoR (α := LA × Pl × Nat)) StOk (fun a => [TownP a.1.t, LineP C a.1, PlP a.2.1, D (.int (a.2.2 : Nat))]) (fun a => Xp (BegSpec a.1 (specs a.1 a.2.1 a.2.2 (condsOf a.1.d a.2.2))) fun bs => D (.list (bs.map oN)))
theorem sc_begins_along : FnScope ["town", "line", "gaps", "c", "places", "event", "never", "every", "least", "found", "some", "begins", "sure", "at"] ["town", "line", "gaps", "c"] (defScope s_begins_along) := ⟨rfl, rfl, rfl, by decide +kernel, rfl, by decide +kernel, by decide +kernel⟩
theorem ok_begins_along (Fd : FnP S "begins_along" s_begins_along f fd) (b : Bi S) (lc : LineC S C) (cS : Cl S "start_places" 3 (SpStart C)) (cE : Cl S "event_places" 4 (SpEvPlaces C)) (cO : Cl S "each_once" 1 SpOnce) (mT : Ml S C "time" 1 (SpTime C)) : OkF S 5 f fd ["town", "line", "gaps", "c"] (SpBegAl C) := by
  refine fn_ok Fd sc_begins_along (fun _ => rfl) noR fun ⟨a, pl, c⟩ hok => ?_
  obtain ⟨ha, hp, hc⟩ := id hok
  have ha' : LAOk a := ha
  have hp' : GapsOk a pl := hp
  have hc' : c < a.d.clauses.length := hc
  have hrl := ha'.rl
  have dk := ha'.t.ok _ _ ha'.d
  obtain ⟨cl, h1, h2, h3⟩ := deb_at dk hc'
  have hcd : condsOf a.d c = cl.conds := by unfold condsOf; rw [h1]
  show Hr _ _ _ _ _ (Xp (BegSpec a (specs a pl c (condsOf a.d c))) fun bs => D (.list (bs.map oN)))
  rw [hcd]
  refine hr_newL1X 4 (φ := PrOk (startSure a c, startSet a pl c)) (enc := prD) ((ev_call (Q := PrX (startSure a c) (startSet a pl c)) cS (a, pl, c) hok (ea_cons (ev_v 1) (ea2 (ev_v 2) (ev_v 3)))).le fun G v ⟨zs, hz, q⟩ => ⟨(startSure a c, zs), ⟨rfl, hz.1, hz.2⟩, q⟩) fun p0 hp0 p => ?_
  refine hr_for (ds := cl.conds.map evD) (itr_T (ev_ixT (ds := clA cl) (d := .tuple (cl.conds.map evD)) (ev_ixT (ds := a.d.clauses.map claD) (d := claD cl) (ev_fld (fs := lineF a) (ev_v 1) lc.cls lc.clauses) (ev_v 3) (atM h1)) ev_int rfl)) (fun i L' Γ' => ∃ o5 ps, L' = [⟨p, ListR (ps.map prD), true⟩] ∧ Γ' = [some (TownP a.t), some (LineP C a), some (PlP pl), some (D (.int (c : Nat))), some (IsV (.ref p)), o5, none, none, none, none, none, none, none, none] ∧ Paired PrOk (specs a pl c (cl.conds.take i)) ps) ⟨_, [p0], rfl, rfl, .cons hp0 .nil⟩ (fun i d L' Γ' hd hI => ?_) fun L' Γ' hI => ?_
  · obtain ⟨o5, ps, hL, hΓ, hps⟩ := hI
    subst hL hΓ
    rw [List.getElem?_map] at hd
    cases q : cl.conds[i]? with
    | none => rw [q] at hd; cases hd
    | some e =>
      rw [q] at hd
      cases hd
      refine ⟨[5], _, tg_name 5, ?_⟩
      have hlen : ps.length ≤ 101 := by
        have e1 := Paired.length hps
        unfold specs at e1
        rw [List.length_cons, List.length_map, List.length_take] at e1
        have := h3.conds
        omega
      refine hr_appendX 0 4 (ds := ps.map prD) (φ := PrOk (evSure a e, evSet a pl e)) (enc := prD) ((ev_call (Q := PrX (evSure a e) (evSet a pl e)) cE (a, pl, e) ⟨ha', hp', h3.ev e (List.mem_of_getElem? q)⟩ (ea_cons (ev_v 0) (ea_cons (ev_v 1) (ea2 (ev_v 2) (ev_v 5))))).le fun G v ⟨zs, hz, q⟩ => ⟨(evSure a e, zs), ⟨rfl, hz.1, hz.2⟩, q⟩) (fun p1 hp1 => hr_nil ⟨_, ps ++ [p1], ?_, rfl, ?_⟩) (by rw [List.length_map]; omega)
      · rw [List.map_append]; rfl
      · rw [show specs a pl c (cl.conds.take (i + 1)) = specs a pl c (cl.conds.take i) ++ [(evSure a e, evSet a pl e)] from by
          unfold specs
          rw [List.take_add_one, q, List.map_append]; rfl]
        exact Paired.snoc' hp1 hps
  · obtain ⟨o5, ps, hL, hΓ, hps⟩ := hI
    subst hL hΓ
    rw [List.length_map, List.take_length] at hps
    have hlen : ps.length ≤ 101 := by
      have e1 := Paired.length hps
      unfold specs at e1
      rw [List.length_cons, List.length_map] at e1
      have := h3.conds
      omega
    have hbd : ∀ p ∈ ps, ∀ y ∈ evy p, 1 ≤ y ∧ y ≤ a.row.length := fun p hp1 y hy => by
      obtain ⟨s, hs, ok⟩ := paired_right hps p hp1
      exact specs_bound ha' hp' hs ((allowed_evy ok).mpr hy)
    have hel : ∀ p ∈ ps, (evy p).length ≤ 61 := fun p hp1 => by
      obtain ⟨s, hs, ok⟩ := paired_right hps p hp1
      have := ok.2.1
      unfold evy
      rw [List.length_append]
      cases p.1 <;> simp <;> omega
    refine hr_freezeL 0 4 ?_
    refine hr_set 6 (P := D (.bool ((ps.map fun p => p.1.isNone).any id))) (ev_anyL b.any ((ev_lc [("sure", 12), ("some", 10)] (xs := ps) (enc := prD) (T := fun _ c => c = true) (P := fun p => D (.bool p.1.isNone)) (itr_L (ev_v 4)) (by omega) fun i p _ => ?_).le ?_)) ?_
    · refine ⟨_, tg_tup (n := 2) (ds := [oN p.1, .list (p.2.map nI)]) (tgs_cons (tg_name 12) (tgs_cons (tg_name 10) tgs_nil)), ets_nil, fun _ => Ev.eq (ev_cmp c_isN (ev_v (P := D (oN p.1)) 12) ev_non rv_isD) ?_⟩
      rw [isNone_oN]
    · refine lc_mapD.trans ?_
      rw [List.map_map]; exact .rfl
    refine hr_setLc 7 [("sure", 12), ("some", 10)] (xs := ps) (enc := prD) (T := fun _ c => c = true) (P := fun p => D (.list ((evy p).map nI))) (itr_L (ev_v 4)) (by omega) (fun i p hpi => ?_) (hr_ty 7 rfl lc_mapD ?_)
    · have hpl := (paired_right hps p (List.mem_of_getElem? hpi)).choose_spec.2.2.1
      refine ⟨_, tg_tup (n := 2) (ds := [oN p.1, .list (p.2.map nI)]) (tgs_cons (tg_name 12) (tgs_cons (tg_name 10) tgs_nil)), ets_nil, fun _ => ?_⟩
      refine Ev.eq (ev_catL (ds := p.2.map nI) (es := (p.1.toList).map nI) (ev_v 10) (Ev.eq (ev_repL (ds := [oN p.1]) (n := if p.1.isSome then 1 else 0) (ev_lst (ds := [oN p.1]) (ea1 (ev_v 12))) (Ev.eq (ev_intB (b := p.1.isSome) b.int (Ev.eq (ev_cmp c_notN (ev_v (P := D (oN p.1)) 12) ev_non rv_notD) ?_)) ?_) ?_ ?_) ?_) ?_) ?_
      · rw [isNone_oN]
        cases p.1 <;> rfl
      · cases p.1 <;> rfl
      · split <;> decide
      · split <;> simp
      · cases p.1 <;> rfl
      · rw [List.length_map, List.length_map]
        cases p.1 <;> simp <;> omega
      · unfold evy; rw [List.map_append]
    have hni : Ni 2 (.list (ps.map fun p => PyData.list ((evy p).map nI))) := ni_lst fun d hd => by
      obtain ⟨p, _, rfl⟩ := List.mem_map.mp hd
      exact ni_ints
    refine hr_ifR (et_cmp c_inD (ev_lst (ds := []) ea_nil) (ev_v 7) (rv_inD (d := .list []) (ds := ps.map fun p => PyData.list ((evy p).map nI)) ni_nilL.nice hni.nice).bo) (fun h => ?_) fun h => ?_
    · obtain ⟨z, hz, e⟩ := List.any_eq_true.mp h.symm
      obtain ⟨p, hp1, rfl⟩ := List.mem_map.mp hz
      rw [eqv_nil] at e
      have e' : evy p = [] := by simpa using e
      refine hr_ret (ev_lst (ds := [oN none]) (ea1 ev_non)) fun G v q => ⟨[none], beg_nil hps ⟨p, hp1, e'⟩, q⟩
    · have hne : ∀ p ∈ ps, evy p ≠ [] := fun p hp1 e => by
        have : ((ps.map fun p => PyData.list ((evy p).map nI)).any fun z => PyData.eqv z (.list [])) = true := List.any_eq_true.mpr ⟨_, List.mem_map.mpr ⟨p, hp1, rfl⟩, by rw [eqv_nil, e]; rfl⟩
        rw [this] at h; cases h
      have hmin : ∀ p ∈ ps, (minO (evy p)).getD 0 ∈ evy p ∧ ∀ y ∈ evy p, (minO (evy p)).getD 0 ≤ y := fun p hp1 => by
        cases e : minO (evy p) with
        | none => exact absurd (minO_none e) (hne p hp1)
        | some m => exact minO_some e
      have hps0 : ps ≠ [] := fun e => by rw [e] at hps; cases hps
      obtain ⟨M, hM1, hM2⟩ := exists_max (xs := ps.map fun p => (minO (evy p)).getD 0) (fun e => hps0 (by simpa using e))
      refine hr_set 8 (P := D (nI M)) (ev_maxL (ns := (ps.map fun p => (minO (evy p)).getD 0).map Int.ofNat) (m := (M : Nat)) b.max ((ev_lc [("some", 10)] (xs := ps) (enc := fun p => PyData.list ((evy p).map nI)) (T := fun _ c => c = true) (P := fun p => D (nI ((minO (evy p)).getD 0))) (itr_L (ev_v 7)) (by omega) fun i p hpi => ?_).le ?_) (List.mem_map.mpr ⟨M, hM1, rfl⟩) fun y hy => ?_) ?_
      · have hm := hmin p (List.mem_of_getElem? hpi)
        refine ⟨_, tg_name 10, ets_nil, fun _ => ev_minL (ns := (evy p).map Int.ofNat) (m := ((minO (evy p)).getD 0 : Nat)) b.min (Ev.eq (ev_v (P := D (.list ((evy p).map nI))) 10) (by rw [oN_map])) (List.mem_map.mpr ⟨_, hm.1, rfl⟩) fun y hy => ?_⟩
        obtain ⟨z, hz, rfl⟩ := List.mem_map.mp hy
        have := hm.2 z hz
        show (((minO (evy p)).getD 0 : Nat) : Int) ≤ (z : Int)
        omega
      · refine lc_mapD.trans ?_
        rw [List.map_map, List.map_map]; exact .rfl
      · obtain ⟨z, hz, rfl⟩ := List.mem_map.mp hy
        have := hM2 z hz
        show (z : Int) ≤ (M : Int)
        omega
      refine hr_newL 9 fun q => ?_
      refine hr_for (ds := ps.map fun p => PyData.list ((evy p).map nI)) (itr_L (ev_v 7)) (fun i L' Γ' => ∃ o10, L' = [⟨q, ListR ((((ps.take i).map fun p => (evy p).filter fun y => decide (M ≤ y)).flatten).map nI), true⟩] ∧ Γ' = [some (TownP a.t), some (LineP C a), some (PlP pl), some (D (.int (c : Nat))), some (D (.list (ps.map prD))), o5, some (D (.bool ((ps.map fun p => p.1.isNone).any id))), some (D (.list (ps.map fun p => PyData.list ((evy p).map nI)))), some (D (nI M)), some (IsV (.ref q)), o10, none, none, none]) ⟨_, rfl, rfl⟩ (fun i d L' Γ' hd hI => ?_) fun L' Γ' hI => ?_
      · obtain ⟨o10, hL, hΓ⟩ := hI
        subst hL hΓ
        rw [List.getElem?_map] at hd
        cases e : ps[i]? with
        | none => rw [e] at hd; cases hd
        | some p =>
          rw [e] at hd
          cases hd
          have hpl := hel p (List.mem_of_getElem? e)
          have hfl : (((ps.take i).map fun p => (evy p).filter fun y => decide (M ≤ y)).flatten).length ≤ 101 * 61 := by
            refine Nat.le_trans (flatten_le (k := 61) fun x hx => ?_) ?_
            · obtain ⟨p', hp', rfl⟩ := List.mem_map.mp hx
              exact Nat.le_trans (List.length_filter_le _ _) (hel p' (List.mem_of_mem_take hp'))
            · rw [List.length_map, List.length_take]
              exact Nat.mul_le_mul_right _ (by omega)
          refine ⟨[10], _, tg_name 10, ?_⟩
          rw [take_flat e]
          generalize (((ps.take i).map fun p => (evy p).filter fun y => decide (M ≤ y)).flatten) = fl at hfl ⊢
          have hfe : ((evy p).filter fun y => decide (M ≤ y)).length ≤ 61 := Nat.le_trans (List.length_filter_le _ _) hpl
          refine hr_extendL 0 9 (ds := fl.map nI) (es' := ((evy p).filter fun y => decide (M ≤ y)).map nI) ((ev_lc [("at", 13)] (xs := evy p) (enc := nI) (T := fun y c => c = decide (M ≤ y)) (P := fun y => D (nI y)) (itr_L (ev_v 10)) (by omega) fun j y _ => ?_).le lc_filD) (hr_nil ⟨_, ?_, rfl⟩) (by rw [List.length_map, List.length_map]; omega)
          · refine ⟨_, tg_name 13, ets_one ((et_cmp c_ge (ev_v (P := D (.int (y : Nat))) 13) (ev_v (P := D (.int (M : Nat))) 8) rv_ge.bo).le fun c hc => ?_), fun _ => ev_v 13⟩
            rw [hc]
            by_cases h : M ≤ y
            · have : (M : Int) ≤ (y : Int) := by omega
              simp [h, this]
            · have : ¬ (M : Int) ≤ (y : Int) := by omega
              simp [h, this]
          · rw [List.map_append]; rfl
      · obtain ⟨o10, hL, hΓ⟩ := hI
        subst hL hΓ
        rw [List.length_map, List.take_length]
        have hfm : ∀ y, y ∈ ((ps.map fun p => (evy p).filter fun y => decide (M ≤ y)).flatten) ↔ (∃ p ∈ ps, y ∈ evy p) ∧ M ≤ y := fun y => by
          rw [List.mem_flatten]
          constructor
          · rintro ⟨l, hl, hy⟩
            obtain ⟨p, hp1, rfl⟩ := List.mem_map.mp hl
            have := List.mem_filter.mp hy
            exact ⟨⟨p, hp1, this.1⟩, by simpa using this.2⟩
          · rintro ⟨⟨p, hp1, hy⟩, hM⟩
            exact ⟨_, List.mem_map.mpr ⟨p, hp1, rfl⟩, List.mem_filter.mpr ⟨hy, by simpa using hM⟩⟩
        have hfl : (((ps).map fun p => (evy p).filter fun y => decide (M ≤ y)).flatten).length ≤ 101 * 61 := by
          refine Nat.le_trans (flatten_le (k := 61) fun x hx => ?_) ?_
          · obtain ⟨p', hp', rfl⟩ := List.mem_map.mp hx
            exact Nat.le_trans (List.length_filter_le _ _) (hel p' hp')
          · rw [List.length_map]
            exact Nat.mul_le_mul_right _ (by omega)
        generalize (((ps).map fun p => (evy p).filter fun y => decide (M ≤ y)).flatten) = fl at hfl hfm ⊢
        refine hr_freezeL 0 9 ?_
        refine hr_set 9 (P := SetX (fun y => y ∈ fl)) (ev_call cO fl ⟨by omega, fun y hy => ?_⟩ (ea1 (ev_v 9))) ?_
        · obtain ⟨⟨p, hp1, hy1⟩, _⟩ := (hfm y).mp hy
          have := hbd p hp1 y hy1
          omega
        refine hr_ex 9 rfl fun zs hz => ?_
        obtain ⟨hz1, hz2⟩ := hz
        have hzb : ∀ y ∈ zs, 1 ≤ y ∧ y ≤ a.row.length := fun y hy => by
          obtain ⟨⟨p, hp1, hy1⟩, _⟩ := (hfm y).mp ((hz2 y).mp hy)
          exact hbd p hp1 y hy1
        refine hr_setLc 11 [("at", 13)] (xs := zs) (enc := nI) (T := fun y c => c = decide ((a.row.getD (y - 1) dfl).time ≤ a.d.close)) (P := fun y => D (nI y)) (itr_L (ev_v 9)) (by omega) (fun j y hy => ?_) (hr_ty 11 rfl lc_filD ?_)
        · have hyb := hzb y (List.mem_of_getElem? hy)
          exact ⟨_, tg_name 13, ets_one (et_cmp c_le (ev_meth (Q := D (.int (a.row.getD (y - 1) dfl).time)) (fs := lineF a) mT lc.cls (ev_v 1) (a, y) ⟨ha', hyb.1, hyb.2⟩ (ea1 (ev_v 13))) (ev_fld (P := D (.int a.d.close)) (fs := lineF a) (ev_v 1) lc.cls lc.close) rv_le.bo), fun _ => ev_v 13⟩
        · have key := fun bs hb => beg_some (a := a) hps (M0 := M) (fun p hp1 => hM2 _ (List.mem_map.mpr ⟨p, hp1, rfl⟩)) (by obtain ⟨p, hp1, e⟩ := List.mem_map.mp hM1; exact ⟨p, hp1, e⟩) (found := zs) (fun y => (hz2 y).trans (hfm y)) (t := fun y => decide ((a.row.getD (y - 1) dfl).time ≤ a.d.close)) (fun y _ => decide_eq_true_iff) (bs := bs) hb
          have hfle := List.length_filter_le (fun y => decide ((a.row.getD (y - 1) dfl).time ≤ a.d.close)) zs
          generalize hgb : (zs.filter fun y => decide ((a.row.getD (y - 1) dfl).time ≤ a.d.close)) = gb at key hfle ⊢
          have hany : ((ps.map fun p => p.1.isNone).any id) = ps.any fun p => p.1.isNone := by rw [List.any_map]; rfl
          have hmap : gb.map nI = (gb.map some).map oN := by rw [List.map_map]; rfl
          refine hr_ifR (T := fun t => t = true ↔ ((ps.any fun p => p.1.isNone) = true ∨ gb.length < zs.length)) ((et_w (ew_orB (et_bl (ev_v 6)) fun _ => et_cmp c_lt (ev_lenL b.len (ev_v 11)) (ev_lenL b.len (ev_v 9)) rv_lt.bo)).le fun t ht => ?_) (fun h => ?_) fun h => ?_
          · rw [ht, Bool.or_eq_true, hany, decide_eq_true_eq, List.length_map, List.length_map]
            refine or_congr Iff.rfl ?_
            omega
          · refine hr_ret (ev_catL (ds := gb.map nI) (es := [oN none]) (ev_v 11) (ev_lst (ds := [oN none]) (ea1 ev_non)) (by rw [List.length_map]; simp; omega)) fun G v p => ⟨gb.map some ++ [none], key _ (by rw [if_pos (h.mp rfl)]), ?_⟩
            have p' : Dg G v (.list (gb.map nI ++ [oN none])) := p
            rw [hmap] at p'
            show Dg G v (.list ((gb.map some ++ [none]).map oN))
            rw [List.map_append]
            exact p'
          · refine hr_ret (ev_v 11) fun G v p => ⟨gb.map some ++ [], key _ (by rw [if_neg (fun z => by have := h.mpr z; cases this)]), ?_⟩
            have p' : Dg G v (.list (gb.map nI)) := p
            rw [hmap] at p'
            show Dg G v (.list ((gb.map some ++ []).map oN))
            rw [List.append_nil]
            exact p'
end
end Hw
set_option Elab.async false
set_option linter.all false
set_option maxRecDepth 100000
set_option maxHeartbeats 1000000
namespace Hw
open PySem PySem.Spec L2

structure PileOk (ls : List Letter) : Prop where
  ok : ∀ l ∈ ls, LtOk l
  len : ls.length ≤ 40
theorem putG_mem {κ β : Type} [DecidableEq κ] {kvs : List (κ × β)} {k : κ} {d : β} {p : κ × β} (h : p ∈ putG kvs k d) : p ∈ kvs ∨ p = (k, d) := by
  unfold putG at h
  split at h
  · obtain ⟨q, hq, e⟩ := List.mem_map.mp h
    split at e
    · rename_i h1
      right; rw [← e, h1]
    · left; rw [← e]; exact hq
  · rcases List.mem_append.mp h with h | h
    · exact .inl h
    · right; simpa using h
theorem putG_nod {κ β : Type} [DecidableEq κ] {m : List (κ × β)} {n : κ} {i : β} (h : (m.map (·.1)).Nodup) : ((putG m n i).map (·.1)).Nodup := by
  rw [putG_keys]
  split
  · exact h
  · rename_i h2
    refine List.nodup_append.mpr ⟨h, by simp, fun a ha b hb => ?_⟩
    have eb : b = n := by simpa using hb
    intro e
    rw [e, eb] at ha
    exact h2 (lookG_isSome.mpr ha)
theorem byNames_ok {ls : List Letter} (h : PileOk ls) : NdOk (byNames ls) := by
  have key : ∀ (ls : List Letter) (nd : Nd), (∀ l ∈ ls, LtOk l) → (∀ p ∈ nd, p.2.name = p.1 ∧ LtOk p.2) → (nd.map (·.1)).Nodup → (∀ p ∈ ls.foldl (fun nd l => putG nd l.name l) nd, p.2.name = p.1 ∧ LtOk p.2) ∧ ((ls.foldl (fun nd l => putG nd l.name l) nd).map (·.1)).Nodup := by
    intro ls
    induction ls with
    | nil => intro nd _ h1 h2; exact ⟨h1, h2⟩
    | cons l ls ih =>
      intro nd hl h1 h2
      refine ih (putG nd l.name l) (fun x hx => hl x (List.mem_cons_of_mem _ hx)) (fun p hp => ?_) (putG_nod h2)
      rcases putG_mem hp with hp | e
      · exact h1 p hp
      · rw [e]; exact ⟨rfl, hl l List.mem_cons_self⟩
  obtain ⟨h1, h2⟩ := key ls [] h.ok (fun p hp => absurd hp (by simp)) List.nodup_nil
  exact ⟨fun p hp => (h1 p hp).1, fun p hp => (h1 p hp).2, h2, Nat.le_trans (byNames_length ls) h.len⟩
theorem seen_bound {nd : Nd} {row : List Letter} : ∀ i, ∀ p ∈ seenOf nd row i, 1 ≤ p.2 ∧ p.2 ≤ i
  | 0, p, h => absurd h (by simp [seenOf])
  | i + 1, p, h => by
    have ih := seen_bound (nd := nd) (row := row) i
    have h' : p ∈ (match row[i]? with | some l => seenStep nd (seenOf nd row i) i l | none => seenOf nd row i) := h
    cases e : row[i]? with
    | none => rw [e] at h'; have := ih p h'; omega
    | some l =>
      rw [e] at h'
      have g0 : ∀ q ∈ setG (seenOf nd row i) l.name (i + 1), 1 ≤ q.2 ∧ q.2 ≤ i + 1 := fun q hq => by
        rcases setG_mem hq with hq | ⟨e, _⟩
        · have := ih q hq; omega
        · rw [e]; exact ⟨by simp, Nat.le_refl _⟩
      have g1 : ∀ (os : List Letter) (m : Pl), (∀ q ∈ m, 1 ≤ q.2 ∧ q.2 ≤ i + 1) → ∀ q ∈ os.foldl (fun m o => setG m o.name (i + 1)) m, 1 ≤ q.2 ∧ q.2 ≤ i + 1 := by
        intro os
        induction os with
        | nil => intro m h; exact h
        | cons o os ih2 =>
          intro m h
          refine ih2 _ fun q hq => ?_
          rcases setG_mem hq with hq | ⟨e, _⟩
          · exact h q hq
          · rw [e]; exact ⟨by simp, Nat.le_refl _⟩
      have g2 : ∀ (gs : List Nm) (m : Pl), (∀ q ∈ m, 1 ≤ q.2 ∧ q.2 ≤ i + 1) → ∀ q ∈ gs.foldl (fun m g => (rowOf nd g).foldl (fun m o => setG m o.name (i + 1)) m) m, 1 ≤ q.2 ∧ q.2 ≤ i + 1 := by
        intro gs
        induction gs with
        | nil => intro m h; exact h
        | cons g gs ih2 => intro m h; exact ih2 _ (g1 _ m h)
      exact g2 l.gots _ g0 p h'
theorem gaps_bound {nd : Nd} (hn : NdOk nd) {row : List Letter} (hr : ∀ l ∈ row, LtOk l) : ∀ i, ∀ p ∈ gapsOf nd row i, (1 ≤ p.2 ∧ p.2 ≤ i) ∧ Sk p.1.1 ∧ Sk p.1.2.1
  | 0, p, h => absurd h (by simp [gapsOf])
  | i + 1, p, h => by
    have ih := gaps_bound hn hr i
    have h' : p ∈ (match row[i]? with | some l => gapStep nd (gapsOf nd row i) i l | none => gapsOf nd row i) := h
    cases e : row[i]? with
    | none =>
      rw [e] at h'
      have := ih p h'
      exact ⟨by omega, this.2⟩
    | some l =>
      rw [e] at h'
      have hl := hr l (List.mem_of_getElem? e)
      have hg : ∀ g ∈ l.gots, ∀ n, gapOf nd g = some n → Sk n.1 ∧ Sk n.2.1 := fun g hg n hgn => by
        unfold gapOf at hgn
        split at hgn
        · rw [← Option.some.inj hgn]; exact hl.g g hg
        · split at hgn
          · cases hgn
          · rename_i l0 e0
            split at hgn
            · cases hgn
            · rename_i n' ea
              split at hgn
              · cases hgn
              · rw [← Option.some.inj hgn]
                unfold ahead at ea
                split at ea
                · cases ea
                · rw [← Option.some.inj ea]
                  have := (hn.look (rowOf_mem hn (List.mem_of_getElem? e0))).2
                  exact ⟨this.h, this.d⟩
      have g2 : ∀ (gs : List Nm) (m : Pl), (∀ g ∈ gs, g ∈ l.gots) → (∀ q ∈ m, (1 ≤ q.2 ∧ q.2 ≤ i + 1) ∧ Sk q.1.1 ∧ Sk q.1.2.1) → ∀ q ∈ gs.foldl (fun m g => match gapOf nd g with | none => m | some n => setG m n (i + 1)) m, (1 ≤ q.2 ∧ q.2 ≤ i + 1) ∧ Sk q.1.1 ∧ Sk q.1.2.1 := by
        intro gs
        induction gs with
        | nil => intro m _ h; exact h
        | cons g gs ih2 =>
          intro m hgs h
          refine ih2 _ (fun x hx => hgs x (List.mem_cons_of_mem _ hx)) ?_
          show ∀ q ∈ (match gapOf nd g with | none => m | some n => setG m n (i + 1)), _
          cases eg : gapOf nd g with
          | none => exact h
          | some n =>
            intro q hq
            rcases setG_mem hq with hq | ⟨e, _⟩
            · exact h q hq
            · rw [e]; exact ⟨⟨by simp, Nat.le_refl _⟩, hg g (hgs g List.mem_cons_self) n eg⟩
      exact g2 l.gots (gapsOf nd row i) (fun g hg => hg) (fun q hq => ⟨⟨(ih q hq).1.1, by have := (ih q hq).1.2; omega⟩, (ih q hq).2⟩) p h'
theorem line_ok {t : Town} (ht : TownOk t) {nd : Nd} (hn : NdOk nd) {n : Nm} {d : Deal} (hd : lookG t.deals n.2.1 = some d) (hs : Sk n.1) : LAOk (lineOf (t, nd, n, d)) := by
  have hr : ∀ l ∈ rowOf nd n, lookG nd l.name = some l := fun l hl => rowOf_mem hn hl
  have hlt : ∀ l ∈ rowOf nd n, LtOk l := fun l hl => (hn.look (hr l hl)).2
  have hlen : (rowOf nd n).length ≤ 40 := Nat.le_trans rowOf_length hn.len
  have so := seenOf_ok hn hr (rowOf nd n).length
  refine ⟨ht, hd, hs, hlt, hlen, fun s hs => ?_, ?_⟩
  · have hs' : s ∈ sights nd (rowOf nd n) := hs
    obtain ⟨p, hp, rfl⟩ := List.mem_map.mp hs'
    have hb := seen_bound (nd := nd) (row := rowOf nd n) _ p hp
    obtain ⟨l, hl⟩ := Option.isSome_iff_exists.mp (so.mem p hp)
    refine ⟨?_, hb.1, hb.2⟩
    show LtOk ((lookG nd p.1).getD dfl)
    rw [hl]; exact (hn.look hl).2
  · show (sights nd (rowOf nd n)).length ≤ 100000
    unfold sights
    rw [List.length_map]
    have := so.len
    have := hn.len
    omega
theorem gaps_ok {t : Town} {nd : Nd} (hn : NdOk nd) {n : Nm} {d : Deal} : GapsOk (lineOf (t, nd, n, d)) (gaps nd (rowOf nd n)) := by
  have hr : ∀ l ∈ rowOf nd n, LtOk l := fun l hl => (hn.look (rowOf_mem hn hl)).2
  have hlen : (rowOf nd n).length ≤ 40 := Nat.le_trans rowOf_length hn.len
  refine ⟨fun p hp => (gaps_bound hn hr _ p hp).2, fun p hp => (gaps_bound hn hr _ p hp).1, ?_⟩
  have := gapsOf_len (nd := nd) hr (rowOf nd n).length
  show (gapsOf nd (rowOf nd n) (rowOf nd n).length).length ≤ 100000
  omega
section
variable {S : Sx} {f : Addr} {fd : FuncData} {C : Addr}
abbrev PcArg := Town × List Letter × Nm × Deal
structure PcOk (a : PcArg) : Prop where
  t : TownOk a.1
  p : PileOk a.2.1
  d : lookG a.1.deals a.2.2.1.2.1 = some a.2.2.2
  h : Sk a.2.2.1.1
def cutLine (a : PcArg) : LA := lineOf (a.1, byNames a.2.1, a.2.2.1, a.2.2.2)
def cutGaps (a : PcArg) : Pl := gaps (byNames a.2.1) (rowOf (byNames a.2.1) a.2.2.1)
def SpPlaces : Sp := Spc (NoR (α := PcArg × Evt)) (fun a => PcOk a.1 ∧ EvtOk a.1.1 a.1.2.2.1.2.1 a.1.2.2.2 a.2) (fun a => [TownP a.1.1, D (.list (a.1.2.1.map ltD)), D (nD a.1.2.2.1), D (evD a.2)]) (fun a => PrX (evSure (cutLine a.1) a.2) (evSet (cutLine a.1) (cutGaps a.1) a.2))
theorem sc_places : FnScope ["town", "pile", "name", "event", "named", "line"] ["town", "pile", "name", "event"] (defScope s_places) := ⟨rfl, rfl, rfl, by decide +kernel, rfl, by decide +kernel, by decide +kernel⟩
theorem ok_places (Fd : FnP S "places" s_places f fd) (lc : LineC S C) (cB : Cl S "by_names" 2 SpByNames) (kL : Kl S C "Line" 3 (SpInit C)) (cG : Cl S "gap_places" 3 SpGaps) (cE : Cl S "event_places" 4 (SpEvPlaces C)) : OkF S 5 f fd ["town", "pile", "name", "event"] SpPlaces := by
  refine fn_ok Fd sc_places (fun _ => rfl) noR fun ⟨⟨t, ls, n, d⟩, e⟩ hok => ?_
  obtain ⟨⟨ht, hp, hd, hs⟩, he⟩ := hok
  have hp' : PileOk ls := hp
  have hn := byNames_ok hp'
  have hr : ∀ l ∈ rowOf (byNames ls) n, LtOk l := fun l hl => (hn.look (rowOf_mem hn hl)).2
  have hlen : (rowOf (byNames ls) n).length ≤ 40 := Nat.le_trans rowOf_length hn.len
  refine hr_set 4 (P := NdP (byNames ls)) (ev_call cB ls (by have := hp'.len; show ls.length ≤ 1000; omega) (ea1 (ev_v 1))) ?_
  refine hr_set 5 (P := LineP C (cutLine (t, ls, n, d))) (ev_make kL (t, byNames ls, n, d) ⟨ht, hn, hd⟩ (ea_cons (ev_v 0) (ea2 (ev_v 4) (ev_v 2)))) ?_
  exact hr_ret (ev_call cE (cutLine (t, ls, n, d), cutGaps (t, ls, n, d), e) ⟨line_ok ht hn hd hs, gaps_ok hn, he⟩ (ea_cons (ev_v 0) (ea_cons (ev_v 5) (ea2 (ev_call (Q := PlP (cutGaps (t, ls, n, d))) cG (byNames ls, rowOf (byNames ls) n) ⟨by have := hn.len; show (byNames ls).length ≤ 1000; omega, hr, hlen⟩ (ea2 (ev_v 4) (ev_fld (fs := lineF (cutLine (t, ls, n, d))) (ev_v 5) lc.cls lc.row))) (ev_v 3))))) .rfl
def SpBegins : Sp := Spc (NoR (α := PcArg × Nat)) (fun a => PcOk a.1 ∧ a.2 < a.1.2.2.2.clauses.length) (fun a => [TownP a.1.1, D (.list (a.1.2.1.map ltD)), D (nD a.1.2.2.1), D (.int (a.2 : Nat))]) (fun a => Xp (BegSpec (cutLine a.1) (specs (cutLine a.1) (cutGaps a.1) a.2 (condsOf a.1.2.2.2 a.2))) fun bs => D (.list (bs.map oN)))
theorem sc_begins : FnScope ["town", "pile", "name", "c", "named", "line"] ["town", "pile", "name", "c"] (defScope s_begins) := ⟨rfl, rfl, rfl, by decide +kernel, rfl, by decide +kernel, by decide +kernel⟩
theorem ok_begins (Fd : FnP S "begins" s_begins f fd) (lc : LineC S C) (cB : Cl S "by_names" 2 SpByNames) (kL : Kl S C "Line" 3 (SpInit C)) (cG : Cl S "gap_places" 3 SpGaps) (cE : Cl S "begins_along" 5 (SpBegAl C)) : OkF S 6 f fd ["town", "pile", "name", "c"] SpBegins := by
  refine fn_ok Fd sc_begins (fun _ => rfl) noR fun ⟨⟨t, ls, n, d⟩, c⟩ hok => ?_
  obtain ⟨⟨ht, hp, hd, hs⟩, hc⟩ := hok
  have hp' : PileOk ls := hp
  have hn := byNames_ok hp'
  have hr : ∀ l ∈ rowOf (byNames ls) n, LtOk l := fun l hl => (hn.look (rowOf_mem hn hl)).2
  have hlen : (rowOf (byNames ls) n).length ≤ 40 := Nat.le_trans rowOf_length hn.len
  refine hr_set 4 (P := NdP (byNames ls)) (ev_call cB ls (by have := hp'.len; show ls.length ≤ 1000; omega) (ea1 (ev_v 1))) ?_
  refine hr_set 5 (P := LineP C (cutLine (t, ls, n, d))) (ev_make kL (t, byNames ls, n, d) ⟨ht, hn, hd⟩ (ea_cons (ev_v 0) (ea2 (ev_v 4) (ev_v 2)))) ?_
  exact hr_ret (ev_call cE (cutLine (t, ls, n, d), cutGaps (t, ls, n, d), c) ⟨line_ok ht hn hd hs, gaps_ok hn, hc⟩ (ea_cons (ev_v 0) (ea_cons (ev_v 5) (ea2 (ev_call (Q := PlP (cutGaps (t, ls, n, d))) cG (byNames ls, rowOf (byNames ls) n) ⟨by have := hn.len; show (byNames ls).length ≤ 1000; omega, hr, hlen⟩ (ea2 (ev_v 4) (ev_fld (fs := lineF (cutLine (t, ls, n, d))) (ev_v 5) lc.cls lc.row))) (ev_v 3))))) .rfl
end
end Hw
set_option Elab.async false
set_option linter.all false
set_option maxRecDepth 100000
set_option maxHeartbeats 1000000
namespace Hw
open PySem PySem.Spec L2

theorem atLast {α : Type} {f : α → PyData} {xs : List α} {x : α} (h : xs[xs.length - 1]? = some x) : atI (xs.map f) (-(1 : Int)) = some (f x) := by
  have hl : 0 < xs.length := by
    have := (List.getElem?_eq_some_iff.mp h).1
    omega
  unfold atI ixN
  rw [List.length_map, if_neg (by decide), if_pos (by omega)]
  show (xs.map f)[(-(1 : Int) + (xs.length : Int)).toNat]? = _
  rw [show (-(1 : Int) + (xs.length : Int)).toNat = xs.length - 1 from by omega, List.getElem?_map, h]; rfl
def inRow (row : List Letter) (l : Letter) : Bool := row.any fun z => PyData.eqv (ltD z) (ltD l)
structure WA1 where
  t : Town
  w : Str
  d : Deal
  row : List Letter
  sg : List (Nat × Letter)
  z : Letter
structure WAOk (a : WA1) : Prop where
  t : TownOk a.t
  w : a.w = a.z.deal
  d : lookG a.t.deals a.w = some a.d
  row : ∀ l ∈ a.row, LtOk l
  rl : a.row.length ≤ 40
  last : a.row[a.row.length - 1]? = some a.z
  sg : ∀ s ∈ a.sg, LtOk s.2 ∧ 1 ≤ s.1 ∧ s.1 ≤ a.row.length
  sl : a.sg.length ≤ 100000
def mine (a : WA1) : List (Nat × Letter) := a.sg.filter fun s => inRow a.row s.2
def wStart (a : WA1) (c : Nat) : Option Nat := if a.z.house = debOf a.d c then minPlace (isDeed a.z.house a.w joinD) (mine a) else
  match minPlace (isDeed a.z.house a.w (readyD c)) (mine a) with
  | none => none
  | some r => match minPlace (isDeed (debOf a.d c) a.w (handD c a.z.house)) a.sg with
    | none => none
    | some s => if a.z.house ∈ a.d.houses then some (max r s) else none
def wSpots (a : WA1) (c : Nat) (es : List Evt) : List (Option Nat) := wStart a c :: es.map fun e => minPlace (isEv a.t a.w a.d e) a.sg
def wTimeOk (a : WA1) (y : Nat) : Prop := (a.row.getD (y - 1) dfl).time ≤ a.d.close
def WBeg (a : WA1) (c : Nat) (o : Option Nat) : Prop := (none ∈ wSpots a c (condsOf a.d c) → o = none) ∧ ∀ ys : List Nat, wSpots a c (condsOf a.d c) = ys.map some → ∃ M ∈ ys, (∀ y ∈ ys, y ≤ M) ∧ (wTimeOk a M → o = some M) ∧ (¬ wTimeOk a M → o = none)
theorem minPlace_mem {q : Letter → Bool} {sg : List (Nat × Letter)} {n : Nat} (h : minPlace q sg = some n) : ∃ s ∈ sg, s.1 = n ∧ q s.2 = true := by
  obtain ⟨h1, _⟩ := minO_some h
  obtain ⟨s, hs, e⟩ := List.mem_map.mp h1
  have := List.mem_filter.mp hs
  exact ⟨s, this.1, e, this.2⟩
theorem wStart_bound {a : WA1} (ha : WAOk a) {c n : Nat} (h : wStart a c = some n) : 1 ≤ n ∧ n ≤ a.row.length := by
  have hm : ∀ {q : Letter → Bool} {n : Nat}, minPlace q (mine a) = some n → 1 ≤ n ∧ n ≤ a.row.length := fun h => by
    obtain ⟨s, hs, e, _⟩ := minPlace_mem h
    have := (ha.sg s (List.mem_filter.mp hs).1).2
    omega
  have hs : ∀ {q : Letter → Bool} {n : Nat}, minPlace q a.sg = some n → 1 ≤ n ∧ n ≤ a.row.length := fun h => by
    obtain ⟨s, hs, e, _⟩ := minPlace_mem h
    have := (ha.sg s hs).2
    omega
  unfold wStart at h
  split at h
  · exact hm h
  · split at h
    · cases h
    · rename_i r er
      split at h
      · cases h
      · rename_i s es
        split at h
        · have h1 := hm er
          have h2 := hs es
          have := Option.some.inj h
          omega
        · cases h
section
variable {S : Sx} {f : Addr} {fd : FuncData}
def SpWStart : Sp := Spc (NoR (α := WA1 × Nat)) (fun a => WAOk a.1 ∧ a.2 < a.1.d.clauses.length) (fun a => [TownP a.1.t, D (.list (a.1.row.map ltD)), D (.list (a.1.sg.map sgD)), D (.int (a.2 : Nat))]) (fun a => D (oN (wStart a.1 a.2)))
theorem sc_law_start : FnScope ["_law_town_here", "_law_line", "_law_sees_here", "_law_c", "_law_house", "_law_deal", "_law_houses", "_law_others", "_law_close", "_law_clauses_here", "_law_ready", "_law_hand", "_law_one"] ["_law_town_here", "_law_line", "_law_sees_here", "_law_c"] (defScope s_law_start) := ⟨rfl, rfl, rfl, by decide +kernel, rfl, by decide +kernel, by decide +kernel⟩
theorem ok_law_start (Fd : FnP S "_law_start" s_law_start f fd) (b : Bi S) (cD : Cl S "_law_deed_place" 1 SpLawDeed) : OkF S 2 f fd ["_law_town_here", "_law_line", "_law_sees_here", "_law_c"] SpWStart := by
  refine fn_ok Fd sc_law_start (fun _ => rfl) noR fun ⟨a, c⟩ hok => ?_
  obtain ⟨ha, hc⟩ : WAOk a ∧ c < a.d.clauses.length := hok
  have dk := ha.t.ok _ _ ha.d
  obtain ⟨cl, h1, h2, h3⟩ := deb_at dk hc
  have hz := ha.row _ (List.mem_of_getElem? ha.last)
  have hrl := ha.rl
  have hdb := dk.hk _ (List.mem_of_getElem? h2)
  show Hr _ _ _ _ _ (D (oN (wStart a c)))
  refine hr_asg (vs := [4, 5]) (P := D (.tuple [.str a.z.house, .str a.w])) (Ev.eq (ev_slTto (ds := ltA a.z) (n := 2) (ev_ixL (ds := a.row.map ltD) (d := ltD a.z) (ev_v 1) (ev_neg (i := 1) ev_int) (atLast ha.last)) ev_int) (by rw [ha.w]; rfl)) (tg_tup (n := 2) (ds := [.str a.z.house, .str a.w]) (tgs_cons (tg_name 4) (tgs_cons (tg_name 5) tgs_nil))) ?_
  refine hr_asg (vs := [6, 7, 8, 9]) (P := D (dealD a.d)) (ev_deal (ev_v 0) (ev_v 5) ha.d) (tg_tup (n := 4) (ds := dlA a.d) (tgs_cons (tg_name 6) (tgs_cons (tg_name 7) (tgs_cons (tg_name 8) (tgs_cons (tg_name 9) tgs_nil))))) ?_
  have hmine : ∀ s ∈ mine a, LtOk s.2 := fun s hs => (ha.sg s (List.mem_filter.mp hs).1).1
  have hml : (mine a).length ≤ 100000 := Nat.le_trans (List.length_filter_le _ _) ha.sl
  refine hr_ifR (et_cmp c_eq (ev_v 4) (ev_ixT (ds := a.d.houses.map PyData.str) (d := .str (debOf a.d c)) (ev_v 6) (ev_ixT (ds := clA cl) (d := .int cl.deb) (ev_ixT (ds := a.d.clauses.map claD) (d := claD cl) (ev_v 9) (ev_v 3) (atM h1)) ev_int rfl) (atS h2)) rv_eqS.bo) (fun h => ?_) fun h => ?_
  · have h' : a.z.house = debOf a.d c := by simpa using h.symm
    rw [show wStart a c = minPlace (isDeed a.z.house a.w joinD) (mine a) from if_pos h']
    refine hr_ret (ev_call cD (a.z.house, a.w, joinD, mine a) ⟨hz.h, dk.wk, ni_join, hmine, hml⟩ (ea_cons (ev_v 4) (ea_cons (ev_v 5) (ea2 (ev_tup (ds := [.str "join"]) (ea1 ev_str)) ((ev_lc [("_law_one", 12)] (xs := a.sg) (enc := sgD) (T := fun s c' => c' = inRow a.row s.2) (P := fun s => D (sgD s)) (itr_L (ev_v 2)) ha.sl fun i s hs => ?_).le lc_filD))))) .rfl
    have hsl := (ha.sg s (List.mem_of_getElem? hs)).1
    refine ⟨_, tg_name 12, ets_one ((et_cmp c_inD (ev_ixT (ds := [.int s.1, ltD s.2]) (d := ltD s.2) (ev_v 12) ev_int rfl) (ev_v 1) (rv_inD (ds := a.row.map ltD) hsl.ni.nice (ni_lts ha.row).nice).bo).le fun c' hc' => ?_), fun _ => ev_v 12⟩
    rw [hc']
    unfold inRow
    rw [List.any_map]; rfl
  · have h' : ¬ a.z.house = debOf a.d c := by simpa using h.symm
    refine hr_set 10 (P := D (oN (minPlace (isDeed a.z.house a.w (readyD c)) (mine a)))) (ev_call cD (a.z.house, a.w, readyD c, mine a) ⟨hz.h, dk.wk, ni_ready, hmine, hml⟩ (ea_cons (ev_v 4) (ea_cons (ev_v 5) (ea2 (ev_tup (ds := [.str "ready", .int (c : Nat)]) (ea2 ev_str (ev_v 3))) ((ev_lc [("_law_one", 12)] (xs := a.sg) (enc := sgD) (T := fun s c' => c' = inRow a.row s.2) (P := fun s => D (sgD s)) (itr_L (ev_v 2)) ha.sl fun i s hs => ?_).le lc_filD))))) ?_
    · have hsl := (ha.sg s (List.mem_of_getElem? hs)).1
      refine ⟨_, tg_name 12, ets_one ((et_cmp c_inD (ev_ixT (ds := [.int s.1, ltD s.2]) (d := ltD s.2) (ev_v 12) ev_int rfl) (ev_v 1) (rv_inD (ds := a.row.map ltD) hsl.ni.nice (ni_lts ha.row).nice).bo).le fun c' hc' => ?_), fun _ => ev_v 12⟩
      rw [hc']
      unfold inRow
      rw [List.any_map]; rfl
    refine hr_set 11 (P := D (oN (minPlace (isDeed (debOf a.d c) a.w (handD c a.z.house)) a.sg))) (ev_call cD (debOf a.d c, a.w, handD c a.z.house, a.sg) ⟨hdb, dk.wk, ni_hand hz.h, fun s hs => (ha.sg s hs).1, ha.sl⟩ (ea_cons (ev_ixT (ds := a.d.houses.map PyData.str) (d := .str (debOf a.d c)) (ev_v 6) (ev_ixT (ds := clA cl) (d := .int cl.deb) (ev_ixT (ds := a.d.clauses.map claD) (d := claD cl) (ev_v 9) (ev_v 3) (atM h1)) ev_int rfl) (atS h2)) (ea_cons (ev_v 5) (ea2 (ev_tup (ds := [.str "hand", .int (c : Nat), .str a.z.house]) (ea_cons ev_str (ea2 (ev_v 3) (ev_v 4)))) (ev_v 2))))) ?_
    have e0 : wStart a c = match minPlace (isDeed a.z.house a.w (readyD c)) (mine a) with | none => none | some r => match minPlace (isDeed (debOf a.d c) a.w (handD c a.z.house)) a.sg with | none => none | some s => if a.z.house ∈ a.d.houses then some (max r s) else none := if_neg h'
    refine hr_ifR (et_w (ew_or3B (et_cmp c_isN (ev_v 10) ev_non rv_isD.bo) (fun _ => et_cmp c_isN (ev_v 11) ev_non rv_isD.bo) fun _ _ => et_cmp c_notIn (ev_v (P := D (.str a.z.house)) 4) (ev_v (P := D (.tuple (a.d.houses.map .str))) 6) rv_notInS.bo)) (fun h2 => ?_) fun h2 => ?_
    · refine hr_ret ev_non ?_
      have : wStart a c = none := by
        rw [isNone_oN, isNone_oN] at h2
        rw [e0]
        cases er : minPlace (isDeed a.z.house a.w (readyD c)) (mine a) with
        | none => rfl
        | some r =>
          cases es : minPlace (isDeed (debOf a.d c) a.w (handD c a.z.house)) a.sg with
          | none => rfl
          | some s =>
            rw [er, es] at h2
            simp only
            rw [if_neg (by simpa using h2.symm)]
      rw [this]; exact .rfl
    · rw [isNone_oN, isNone_oN] at h2
      cases er : minPlace (isDeed a.z.house a.w (readyD c)) (mine a) with
      | none => rw [er] at h2; cases h2
      | some r =>
        cases es : minPlace (isDeed (debOf a.d c) a.w (handD c a.z.house)) a.sg with
        | none => rw [er, es] at h2; cases h2
        | some s =>
          rw [er, es] at h2 e0
          simp only at e0
          rw [if_pos (by simpa using h2.symm)] at e0
          rw [e0]
          refine hr_ret (R' := D (.int ((max r s : Nat) : Int))) (Ev.eq (ev_max2 (i := (r : Nat)) (j := (s : Nat)) b.max (ev_v 10) (ev_v 11)) ?_) .rfl
          congr 1
          omega
def SpWBeg : Sp := Spc (NoR (α := WA1 × Nat)) (fun a => WAOk a.1 ∧ a.2 < a.1.d.clauses.length) (fun a => [TownP a.1.t, D (.list (a.1.row.map ltD)), D (.list (a.1.sg.map sgD)), D (.int (a.2 : Nat))]) (fun a => Xp (WBeg a.1 a.2) fun o => D (oN o))
theorem sc_law_begin : FnScope ["_law_town_here", "_law_line", "_law_sees_here", "_law_c", "_law_deal", "_law_spots", "_law_event_here"] ["_law_town_here", "_law_line", "_law_sees_here", "_law_c"] (defScope s_law_begin) := ⟨rfl, rfl, rfl, by decide +kernel, rfl, by decide +kernel, by decide +kernel⟩
theorem all_some : ∀ (os : List (Option Nat)), none ∉ os → ∃ ys : List Nat, os = ys.map some
  | [], _ => ⟨[], rfl⟩
  | o :: os, h => by
    obtain ⟨ys, e⟩ := all_some os fun z => h (List.mem_cons_of_mem _ z)
    cases o with
    | none => exact absurd List.mem_cons_self h
    | some y => exact ⟨y :: ys, by rw [e]; rfl⟩
theorem eqv_oN {o : Option Nat} : PyData.eqv (oN o) .none = o.isNone := by cases o <;> rfl
theorem ok_law_begin (Fd : FnP S "_law_begin" s_law_begin f fd) (b : Bi S) (cS : Cl S "_law_start" 2 SpWStart) (cP : Cl S "_law_place" 2 SpLawPlace) : OkF S 3 f fd ["_law_town_here", "_law_line", "_law_sees_here", "_law_c"] SpWBeg := by
  refine fn_ok Fd sc_law_begin (fun _ => rfl) noR fun ⟨a, c⟩ hok => ?_
  obtain ⟨ha, hc⟩ : WAOk a ∧ c < a.d.clauses.length := hok
  have dk := ha.t.ok _ _ ha.d
  obtain ⟨cl, h1, h2, h3⟩ := deb_at dk hc
  have hrl := ha.rl
  have hcd : condsOf a.d c = cl.conds := by unfold condsOf; rw [h1]
  show Hr _ _ _ _ _ (Xp (WBeg a c) fun o => D (oN o))
  refine hr_set 4 (P := D (.str a.w)) (Ev.eq (ev_ixT (ds := ltA a.z) (d := .str a.z.deal) (ev_ixL (ds := a.row.map ltD) (d := ltD a.z) (ev_v 1) (ev_neg (i := 1) ev_int) (atLast ha.last)) ev_int rfl) (by rw [ha.w])) ?_
  refine hr_newL1X 5 (φ := fun o => o = wStart a c) (enc := oN) ((ev_call (Q := D (oN (wStart a c))) cS (a, c) ⟨ha, hc⟩ (ea_cons (ev_v 0) (ea_cons (ev_v 1) (ea2 (ev_v 2) (ev_v 3))))).le fun G v q => ⟨_, rfl, q⟩) fun o ho p => ?_
  subst ho
  refine hr_for (ds := cl.conds.map evD) (itr_T (ev_ixT (ds := clA cl) (d := .tuple (cl.conds.map evD)) (ev_ixT (ds := a.d.clauses.map claD) (d := claD cl) (ev_ixT (ds := dlA a.d) (d := .tuple (a.d.clauses.map claD)) (ev_deal (ev_v 0) (ev_v 4) ha.d) ev_int rfl) (ev_v 3) (atM h1)) ev_int rfl)) (fun i L' Γ' => ∃ o6, L' = [⟨p, ListR ((wSpots a c (cl.conds.take i)).map oN), true⟩] ∧ Γ' = [some (TownP a.t), some (D (.list (a.row.map ltD))), some (D (.list (a.sg.map sgD))), some (D (.int (c : Nat))), some (D (.str a.w)), some (IsV (.ref p)), o6]) ⟨_, rfl, rfl⟩ (fun i d L' Γ' hd hI => ?_) fun L' Γ' hI => ?_
  · obtain ⟨o6, hL, hΓ⟩ := hI
    subst hL hΓ
    rw [List.getElem?_map] at hd
    cases q : cl.conds[i]? with
    | none => rw [q] at hd; cases hd
    | some e =>
      rw [q] at hd
      cases hd
      refine ⟨[6], _, tg_name 6, ?_⟩
      refine hr_append 0 5 (ds := (wSpots a c (cl.conds.take i)).map oN) (d := oN (minPlace (isEv a.t a.w a.d e) a.sg)) (ev_call cP (a.t, a.w, a.d, e, a.sg) ⟨ha.t, ha.d, h3.ev e (List.mem_of_getElem? q), fun s hs => (ha.sg s hs).1, ha.sl⟩ (ea_cons (ev_v 0) (ea_cons (ev_v 4) (ea2 (ev_v 6) (ev_v 2))))) (hr_nil ⟨_, ?_, rfl⟩) ?_
      · rw [show wSpots a c (cl.conds.take (i + 1)) = wSpots a c (cl.conds.take i) ++ [minPlace (isEv a.t a.w a.d e) a.sg] from by
          unfold wSpots
          rw [List.take_add_one, q, List.map_append]; rfl]
        rw [List.map_append]; rfl
      · unfold wSpots
        rw [List.length_map, List.length_cons, List.length_map, List.length_take]
        have := h3.conds
        omega
  · obtain ⟨o6, hL, hΓ⟩ := hI
    subst hL hΓ
    rw [List.length_map, List.take_length, ← hcd]
    have hni : Ni 1 (.list ((wSpots a c (condsOf a.d c)).map oN)) := ni_lst fun d hd => by
      obtain ⟨o, _, rfl⟩ := List.mem_map.mp hd
      cases o with
      | none => exact ni_non
      | some n => exact ni_int _
    have hbd : ∀ y, some y ∈ wSpots a c (condsOf a.d c) → 1 ≤ y ∧ y ≤ a.row.length := fun y hy => by
      unfold wSpots at hy
      rcases List.mem_cons.mp hy with e | hy
      · exact wStart_bound ha e.symm
      · obtain ⟨ev, _, e⟩ := List.mem_map.mp hy
        obtain ⟨s, hs, es, _⟩ := minPlace_mem e
        have := (ha.sg s hs).2
        omega
    have hne : wSpots a c (condsOf a.d c) ≠ [] := fun z => by unfold wSpots at z; cases z
    refine hr_freezeL 0 5 ?_
    have hany : ((wSpots a c (condsOf a.d c)).map oN).any (fun z => PyData.eqv z .none) = decide (none ∈ wSpots a c (condsOf a.d c)) := by
      rw [List.any_map]
      by_cases h : none ∈ wSpots a c (condsOf a.d c)
      · rw [decide_eq_true h]
        exact List.any_eq_true.mpr ⟨none, h, rfl⟩
      · rw [decide_eq_false h, List.any_eq_false]
        intro o ho
        show ¬ PyData.eqv (oN o) .none = true
        rw [eqv_oN]
        cases o with
        | none => exact absurd ho h
        | some n => exact fun z => nomatch z
    by_cases hn : none ∈ wSpots a c (condsOf a.d c)
    · refine hr_ifR (T := (· = true)) (et_w (ew_or (T1 := (· = true)) ((et_cmp c_inD ev_non (ev_v 5) (rv_inD (d := .none) (ds := (wSpots a c (condsOf a.d c)).map oN) (ni_non (n := 0)).nice hni.nice).bo).le fun t ht => by rw [ht, hany, decide_eq_true hn]) (fun z => absurd z (by decide)) (T2 := fun _ => True) fun c hc => by rcases hc with ⟨h1, _⟩ | ⟨_, h2⟩; exact absurd h1 (by decide); exact h2)) (fun _ => ?_) fun z => absurd z (by decide)
      refine hr_ret ev_non fun G v q => ⟨none, ⟨fun _ => rfl, fun ys hy => ?_⟩, q⟩
      rw [hy] at hn
      obtain ⟨y, _, e⟩ := List.mem_map.mp hn
      cases e
    · obtain ⟨ys, hys⟩ := all_some _ hn
      obtain ⟨M, hM1, hM2⟩ := exists_max (xs := ys) (fun e => hne (by rw [hys, e]; rfl))
      have hMb := hbd M (by rw [hys]; exact List.mem_map.mpr ⟨M, hM1, rfl⟩)
      have hMr : a.row[M - 1]? = some (a.row.getD (M - 1) dfl) := by
        have : M - 1 < a.row.length := by omega
        rw [List.getElem?_eq_getElem this, List.getD, List.getElem?_eq_getElem this]; rfl
      have hlist : PyData.list ((wSpots a c (condsOf a.d c)).map oN) = .list ((ys.map Int.ofNat).map PyData.int) := by rw [hys, List.map_map, List.map_map]; rfl
      have hmax : ∀ {pos p1 : Pos} {e : Expr}, Ev { toSx := S, N := ["_law_town_here", "_law_line", "_law_sees_here", "_law_c", "_law_deal", "_law_spots", "_law_event_here"], sc := defScope s_law_begin, k := 2 } [] [some (TownP a.t), some (D (.list (a.row.map ltD))), some (D (.list (a.sg.map sgD))), some (D (.int (c : Nat))), some (D (.str a.w)), some (D (.list ((wSpots a c (condsOf a.d c)).map oN))), o6] e (D (.list ((wSpots a c (condsOf a.d c)).map oN))) → (∀ env, starEach [e] env = (false, eval e env) :: starEach [] env) → Ev { toSx := S, N := ["_law_town_here", "_law_line", "_law_sees_here", "_law_c", "_law_deal", "_law_spots", "_law_event_here"], sc := defScope s_law_begin, k := 2 } [] [some (TownP a.t), some (D (.list (a.row.map ltD))), some (D (.list (a.sg.map sgD))), some (D (.int (c : Nat))), some (D (.str a.w)), some (D (.list ((wSpots a c (condsOf a.d c)).map oN))), o6] (.Call (.Name "max" p1) [e] [] pos) (D (.int (M : Nat))) := fun h he =>
        ev_maxL (ns := ys.map Int.ofNat) (m := (M : Nat)) b.max (h.eq hlist) (List.mem_map.mpr ⟨M, hM1, rfl⟩) (fun y hy => by
          obtain ⟨z, hz, rfl⟩ := List.mem_map.mp hy
          have := hM2 z hz
          show (z : Int) ≤ (M : Int)
          omega) rfl he
      refine hr_ifR (T := fun t => t = decide (a.d.close < (a.row.getD (M - 1) dfl).time)) ((et_w (ew_orB (x := false) ((et_cmp c_inD ev_non (ev_v 5) (rv_inD (d := .none) (ds := (wSpots a c (condsOf a.d c)).map oN) (ni_non (n := 0)).nice hni.nice).bo).le fun t ht => by rw [ht, hany, decide_eq_false hn]) fun _ => et_cmp c_gt (ev_ixT (ds := ltA (a.row.getD (M - 1) dfl)) (d := .int (a.row.getD (M - 1) dfl).time) (ev_ixL (ds := a.row.map ltD) (d := ltD (a.row.getD (M - 1) dfl)) (ev_v 1) (ev_sub (i := (M : Nat)) (j := 1) (hmax (ev_v 5) (by intro _; rfl)) ev_int) (by rw [show ((M : Nat) : Int) - 1 = ((M - 1 : Nat) : Int) from by omega]; exact atM hMr)) ev_int rfl) (ev_ixT (ds := dlA a.d) (d := .int a.d.close) (ev_deal (ev_v 0) (ev_v 4) ha.d) ev_int rfl) rv_gt.bo)).le fun t ht => by rw [ht, Bool.false_or]) (fun h => ?_) fun h => ?_
      · have ht : ¬ wTimeOk a M := fun z => by
          have : a.d.close < (a.row.getD (M - 1) dfl).time := by simpa using h.symm
          unfold wTimeOk at z
          omega
        refine hr_ret ev_non fun G v q => ⟨none, ⟨fun _ => rfl, fun ys' hy => ?_⟩, q⟩
        have e : ys' = ys := (List.map_inj_right (fun _ _ h => Option.some.inj h)).mp (hy.symm.trans hys)
        subst e
        exact ⟨M, hM1, hM2, fun z => absurd z ht, fun _ => rfl⟩
      · have ht : wTimeOk a M := by
          have : ¬ a.d.close < (a.row.getD (M - 1) dfl).time := by simpa using h.symm
          unfold wTimeOk
          omega
        refine hr_ret (R' := D (.int (M : Nat))) (hmax (ev_v 5) (by intro _; rfl)) fun G v q => ⟨some M, ⟨fun z => absurd z hn, fun ys' hy => ?_⟩, q⟩
        have e : ys' = ys := (List.map_inj_right (fun _ _ h => Option.some.inj h)).mp (hy.symm.trans hys)
        subst e
        exact ⟨M, hM1, hM2, fun _ => rfl, fun z => absurd ht z⟩
end
end Hw
set_option Elab.async false
set_option linter.all false
set_option maxRecDepth 100000
set_option maxHeartbeats 2000000
namespace Hw
open PySem PySem.Spec L2

/-! ### data without lists -/
mutual
def noLst : PyData → Bool
  | .list _ => false
  | .dict _ => false
  | .tuple xs => noLstA xs
  | _ => true
def noLstA : List PyData → Bool
  | [] => true
  | x :: xs => noLst x && noLstA xs
end
mutual
theorem Dg.cutP {G : Hp} {p : Addr} {vs : List V} (hp : G p = some (.lst vs)) : ∀ (d : PyData) (v : V), noLst d = true → Dg G v d → Dg (fun a => if a = p then none else G a) v d
  | .none, _, _, h => by cases h; exact .non
  | .bool b, _, _, h => by cases h; exact .bl b
  | .int i, _, _, h => by cases h; exact .int i
  | .str x, _, _, h => by cases h; exact .str x
  | .list ds, _, hn, _ => by simp [noLst] at hn
  | .dict _, _, hn, _ => by simp [noLst] at hn
  | .tuple ds, _, hn, h => by
    cases h with
    | @tup a xs _ h1 h2 =>
      have e : a ≠ p := fun z => by rw [z, hp] at h1; cases h1
      exact .tup (by show (if a = p then none else G a) = _; rw [if_neg e]; exact h1) (DgA.cutP hp ds _ (by simpa [noLst] using hn) h2)
theorem DgA.cutP {G : Hp} {p : Addr} {vs : List V} (hp : G p = some (.lst vs)) : ∀ (ds : List PyData) (xs : List V), noLstA ds = true → DgA G xs ds → DgA (fun a => if a = p then none else G a) xs ds
  | [], _, _, h => by cases h; exact .nil
  | d :: ds, _, hn, h => by
    rw [noLstA, Bool.and_eq_true] at hn
    cases h with
    | cons h1 h2 => exact .cons (Dg.cutP hp d _ hn.1 h1) (DgA.cutP hp ds _ hn.2 h2)
end
section
variable {F : Fx} {L : List Rs} {Γ : Ty} {e a b c o tg iter elt : Expr} {es ts ifs : List Expr} {P Q R : MP} {Ps : List MP} {pos spos p1 p2 px py lp ap cp tp : Pos} {N : List Rs → Ty → Prop} {rest body sa : List Stmt} {x y m fn : Str}
/-- a local list is known while e is evaluated -/
theorem ev_thaw (k i : Nat) {p : Addr} {ds : List PyData} {β : Type} {φ : β → Prop} {enc : β → PyData} (h : Ev F (L.eraseIdx k) (Γ.set i (some (D (.list ds)))) e (Xp φ fun z => D (enc z))) (hn : ∀ z, φ z → noLst (enc z) = true) (hr : ∀ r ∈ L.eraseIdx k, ∀ G1 G2 o, r.φ.p G1 o → r.φ.p G2 o) (hk : L[k]? = some ⟨p, ListR ds, true⟩ := by rfl) (hi : Γ[i]? = some (some (IsV (.ref p))) := by rfl) : Ev F L Γ e (Xp φ fun z => D (enc z)) := fun E σ G H T K kk => by
  have hm : (⟨p, ListR ds, true⟩ : Rs) ∈ L := List.mem_of_getElem? hk
  obtain ⟨hg, u, h1, vs, h2, h3⟩ := T.live.2 _ hm
  have hg' : G p = none := hg
  subst h2
  have h1' : H p = some (.lst vs) := h1
  have T1 := (T.freeze hk h1').as hi (P' := D (.list ds)) fun v hv => by
    rw [show v = .ref p from hv]
    exact .lst upd_same (DgA.mono (same_new hg' _) _ _ h3)
  have hpe : p ∉ (L.eraseIdx k).map Rs.a := fun hq => by
    obtain ⟨r, hr, er⟩ := List.mem_map.mp hq
    have q := (T1.live.2 r hr).1
    rw [er, upd_same] at q
    cases q
  refine h E σ _ H T1 _ fun v G' H' n T' ⟨z, hz, pv⟩ => ?_
  have gp : G' p = some (.lst vs) := n.gg _ _ upd_same
  have hp' : H' p = some (.lst vs) := n.keep p _ h1' hpe
  have hGa : ∀ {a}, a ≠ p → (fun a => if a = p then none else G' a) a = G' a := fun h => if_neg h
  have nx : Nxt L G H (fun a => if a = p then none else G' a) H' := by
    refine ⟨fun a u hu => ?_, fun a u hu hm' => ?_, fun a u h1 h2 hn => ?_⟩
    · have e : a ≠ p := fun z => by rw [z, hg'] at hu; cases hu
      show (if a = p then none else G' a) = some u
      rw [if_neg e]; exact n.gg a u (by rw [upd_ne e]; exact hu)
    · exact n.keep a u hu fun z => hm' (by
        obtain ⟨r, hr, er⟩ := List.mem_map.mp z
        exact List.mem_map.mpr ⟨r, (List.eraseIdx_sublist L k).subset hr, er⟩)
    · by_cases e : a = p
      · exact if_pos e
      · show (if a = p then none else G' a) = none
        rw [if_neg e]; exact n.old a u (by rw [upd_ne e]; exact h1) h2 hn
  have sb : Sub (fun a => if a = p then none else G' a) H' := fun a u hu => by
    by_cases e : a = p
    · have hu' : (if a = p then none else G' a) = some u := hu
      rw [if_pos e] at hu'; cases hu'
    · have hu' : (if a = p then none else G' a) = some u := hu
      rw [if_neg e] at hu'; exact T'.sub a u hu'
  refine kk v _ H' nx (T.next nx sb ⟨T.live.1, fun r hr' => ?_⟩) ⟨z, hz, Dg.cutP gp _ _ (hn z hz) pv⟩
  by_cases e : r.a = p
  · have er : r = ⟨p, ListR ds, true⟩ := by
      obtain ⟨i', hi', e1⟩ := List.mem_iff_getElem.mp hr'
      obtain ⟨j', hj', e2⟩ := List.mem_iff_getElem.mp hm
      have hij : i' = j' := (List.getElem_inj (h₀ := by simpa using hi') (h₁ := by simpa using hj') T.live.1).mp (by simp only [List.getElem_map, e1, e2, e])
      subst hij
      rw [← e1, ← e2]
    subst er
    exact ⟨if_pos rfl, _, hp', (ListR ds).mono nx.gg ⟨vs, rfl, h3⟩⟩
  · have hre : r ∈ L.eraseIdx k := by
      obtain ⟨j, hj, ej⟩ := List.mem_iff_getElem.mp hr'
      refine List.mem_eraseIdx_iff_getElem?.mpr ⟨j, fun z => ?_, by rw [List.getElem?_eq_getElem hj, ej]⟩
      subst z
      rw [List.getElem?_eq_getElem hj, ej] at hk
      exact e (by rw [Option.some.inj hk])
    obtain ⟨g1, u, g2, g3⟩ := T'.live.2 r hre
    exact ⟨by show (if r.a = p then none else G' r.a) = none; rw [if_neg e]; exact g1, u, g2, hr r hre _ _ _ g3⟩
/-- len of a local list -/
theorem ev_lenR (k : Nat) {p : Addr} {bb : Bool} {ds : List PyData} (hm : F.mg "len" = none) (ha : Ev F L Γ a (IsV (.ref p))) (hk : L[k]? = some ⟨p, ListR ds, bb⟩ := by rfl) (hg : F.sc.names.lookup ("len" : Str) = some .globalImplicit := by rfl) (he : ∀ env, starEach [a] env = (false, eval a env) :: starEach [] env := by intro _; rfl) : Ev F L Γ (.Call (.Name "len" p1) [a] [] pos) (D (.int ds.length)) := 
  ev_callB (fun X hX => by have := @call_len_seq X; rw [hX.K] at this; exact this) hm (ea1 ha he) (fun E Γ σ G H T vs q K kk => by
    obtain ⟨v, rfl, p1⟩ := psa1 q
    obtain ⟨_, u, h1, vs, h2, h3⟩ := T.live.2 _ (List.mem_of_getElem? hk)
    subst h2
    rw [show v = .ref p from p1]
    exact ⟨p, vs, rfl, .inl (SqL.of h1), by rw [h3.length]; exact kk _ G H .refl T (.int _)⟩) PySem.boot_len hg (by decide) (by decide) he (by intro _; rfl)
theorem ev_ixTX {β : Type} {φ : β → Prop} {ds : β → List PyData} {i : Int} (ha : Ev F L Γ a (Xp φ fun z => D (.tuple (ds z)))) (hb : Ev F L Γ b (D (.int i))) (h : ∀ z, φ z → ∃ d, atI (ds z) i = some d ∧ (D d).le P) (hs : PlainIx b := by exact fun _ _ => rfl) : Ev F L Γ (.Subscript a b pos) P :=
  we_op (r := rIxT F.K) (fun X hX => by rw [← hX.K]; exact pe_ix ix_tup (pe_we hX) (pe_we hX) hs) ha hb (rv_exL fun z hz E Γ σ G H T v w p1 p2 K k => by
    obtain ⟨d, hd, hle⟩ := h z hz
    obtain ⟨x, xs, rfl, h1, q1⟩ := p1.tup_of
    obtain ⟨n, h2, h3, h4, _⟩ := atI_get hd
    obtain ⟨y, h5, h6⟩ := q1.get h3
    refine ⟨x, xs, i, y, rfl, p2.int_eq, SqT.of (T.sub.tup h1), ?_, k _ G H .refl T (hle _ _ h6)⟩
    unfold atI at hd ⊢
    rw [q1.length]
    cases hn : ixN (ds z).length i with
    | none => rw [hn] at hd; cases hd
    | some m =>
      rw [hn] at hd
      have e1 := (ixN_seq hn).1
      rw [e1] at h2
      cases h2
      exact h5)
theorem ev_tupOfX {β : Type} {φ : β → Prop} {ds : β → List PyData} (hm : F.mg "tuple" = none) (ha : Ev F L Γ a (Xp φ fun z => D (.list (ds z)))) (hg : F.sc.names.lookup ("tuple" : Str) = some .globalImplicit := by rfl) (he : ∀ env, starEach [a] env = (false, eval a env) :: starEach [] env := by intro _; rfl) :
    Ev F L Γ (.Call (.Name "tuple" p1) [a] [] pos) (Xp φ fun z => D (.tuple (ds z))) :=
  ev_callTy (fun X hX => by have := @call_tuple_of X; rw [hX.K] at this; exact this) hm (ea1 ha he) (fun E Γ σ G H T vs q K k => by
    obtain ⟨v, rfl, z, hz, p⟩ := psa1 q
    obtain ⟨x, xs, rfl, g1, q1⟩ := Dg.lst_of p
    exact ⟨x, xs, rfl, .inl ⟨SqL.of (T.sub.lst g1), fun p hp => k _ _ _ (.new T.sub hp _) (T.new hp _) ⟨z, hz, .tup upd_same (DgA.mono (same_new (T.sub.free hp) _) _ _ q1)⟩⟩⟩) PyProof.Rows.boot_tuple hg (by decide) (by decide) he (by intro _; rfl)
end
/-! ### deeds -/
def DeedP : MP := Xp (fun d : PyData => Ni 1 d ∧ noLst d = true) fun d => D d
theorem deedOf {d : PyData} (h : Ni 1 d) (h2 : noLst d = true) : (D d).le DeedP := Xp.of (P := fun d => D d) (x := d) ⟨h, h2⟩
def lvE : Option (Evt × Int) → List Evt
  | none => []
  | some (e, _) => [e]
def isSaid : Evt → Bool
  | .said _ _ => true
  | _ => false
theorem leave_take (lv : Option (Evt × Int)) : ∃ xs, leaveD lv = .tuple xs ∧ xs.take 1 = (lvE lv).map evD := by
  cases lv with
  | none => exact ⟨[], rfl, rfl⟩
  | some p => exact ⟨[evD p.1, .int p.2], rfl, rfl⟩
section
variable {S : Sx} {f : Addr} {fd : FuncData}
theorem hloc2 {α : Type} {g : α → Addr} (a : α) : ∀ r ∈ ([⟨g a, LeftR, false⟩] : List Rs), r.loc = false := fun r h => by
  have e : r = ⟨g a, LeftR, false⟩ := by simpa using h
  rw [e]
abbrev DeA := Addr × Town × Str × Deal
def SpDeed : Sp := Spc (fun a : DeA => [⟨a.1, LeftR, false⟩]) (fun a => DealOk a.2.1 a.2.2.1 a.2.2.2) (fun a => [IsV (.ref a.1), D (dealD a.2.2.2)]) (fun _ => DeedP)
theorem sc_deed : FnScope ["_law_left_here", "_law_deal", "_law_houses", "_law_others", "_law_close", "_law_clauses_here", "_law_way", "_law_c", "_law_debtor", "_law_creditor", "_law_parts", "_law_within", "_law_conds", "_law_leave", "_law_said", "_law_event_here"] ["_law_left_here", "_law_deal"] (defScope s_law_deed) := ⟨rfl, rfl, rfl, by decide +kernel, rfl, by decide +kernel, by decide +kernel⟩
theorem ok_deed (Fd : FnP S "_law_deed" s_law_deed f fd) (b : Bi S) (cP : Cl S "_law_pick" 1 SpPick) : OkF S 2 f fd ["_law_left_here", "_law_deal"] SpDeed := by
  refine fn_ok Fd sc_deed (fun _ => rfl) (hloc2 (g := fun a : DeA => a.1)) fun ⟨l, t, w, d⟩ hok => ?_
  have dk : DealOk t w d := hok
  have hcs := dk.cs
  have hhs := dk.hs
  refine hr_gam (Γ' := [some (IsV (.ref l)), some (D (dealD d)), none, none, none, none, none, none, none, none, none, none, none, none, none, none]) rfl ?_
  refine hr_asg (vs := [2, 3, 4, 5]) (P := D (dealD d)) (ev_v 1) (tg_tup (n := 4) (ds := dlA d) (tgs_cons (tg_name 2) (tgs_cons (tg_name 3) (tgs_cons (tg_name 4) (tgs_cons (tg_name 5) tgs_nil))))) ?_
  refine hr_gam (Γ' := [some (IsV (.ref l)), some (D (dealD d)), some (D (sD d.houses)), some (D (sD d.others)), some (D (.int d.close)), some (D (.tuple (d.clauses.map claD))), none, none, none, none, none, none, none, none, none, none]) rfl ?_
  refine hr_set 6 (P := LtP 16) (ev_pick cP 0 (ev_v 0) ev_int (by decide) (by decide)) ?_
  refine hr_ex 6 rfl fun way hway => ?_
  have hway' : way < 16 := hway
  refine hr_set 7 (P := LtP (d.clauses.map claD).length) (ev_pick cP 0 (ev_v 0) (ev_lenT (ds := d.clauses.map claD) b.len (ev_v 5)) (by rw [List.length_map]; omega) (by rw [List.length_map]; omega)) ?_
  refine hr_ex 7 rfl fun c hc => ?_
  have hc' : c < d.clauses.length := by
    have : c < (d.clauses.map claD).length := hc
    rw [List.length_map] at this; exact this
  obtain ⟨cl, h1, h2, h3⟩ := deb_at dk hc'
  refine hr_asg (vs := [8, 9, 10, 11, 12, 13]) (P := D (claD cl)) (ev_ixT (ds := d.clauses.map claD) (d := claD cl) (ev_v 5) (ev_v 7) (atM h1)) (tg_tup (n := 6) (ds := clA cl) (tgs_cons (tg_name 8) (tgs_cons (tg_name 9) (tgs_cons (tg_name 10) (tgs_cons (tg_name 11) (tgs_cons (tg_name 12) (tgs_cons (tg_name 13) tgs_nil))))))) ?_
  refine hr_gam (Γ' := [some (IsV (.ref l)), some (D (dealD d)), some (D (sD d.houses)), some (D (sD d.others)), some (D (.int d.close)), some (D (.tuple (d.clauses.map claD))), some (D (.int (way : Nat))), some (D (.int (c : Nat))), some (D (.int cl.deb)), some (D (.int cl.cre)), some (D (.int cl.parts)), some (D (.int cl.within)), some (D (.tuple (cl.conds.map evD))), some (D (leaveD cl.leave)), none, none]) rfl ?_
  have njoin : (D joinD).le DeedP := deedOf ni_join rfl
  refine hr_ifR (T := fun _ => True) (et_cmp c_lt (ev_v 6) ev_int (rv_lt.le (BoolP.of True.intro))) (fun _ => ?_) fun _ => ?_
  · exact hr_ret (R' := D joinD) (ev_tup (ds := [.str "join"]) (ea1 ev_str)) njoin
  obtain ⟨lxs, hlx, hlt⟩ := leave_take cl.leave
  have hall : ∀ e ∈ cl.conds ++ lvE cl.leave, EvtOk t w d e := fun e he => by
    rcases List.mem_append.mp he with he | he
    · exact h3.ev e he
    · cases q : cl.leave with
      | none => rw [q] at he; cases he
      | some p =>
        rw [q] at he
        have e' : e = p.1 := by simpa [lvE] using he
        rw [e']; exact h3.lv p.1 p.2 q
  have hlen : (cl.conds ++ lvE cl.leave).length ≤ 1000 := by
    rw [List.length_append]
    have := h3.conds
    cases cl.leave <;> simp [lvE] <;> omega
  refine hr_setLc 14 [("_law_event_here", 15)] (xs := cl.conds ++ lvE cl.leave) (enc := evD) (T := fun e c' => c' = isSaid e) (P := fun e => D (evD e)) (itr_T (ds := (cl.conds ++ lvE cl.leave).map evD) (Ev.eq (ev_catT (ds := cl.conds.map evD) (es := (lvE cl.leave).map evD) (ev_v 12) (Ev.eq (ev_slTto (ds := lxs) (n := 1) (Ev.eq (ev_v (P := D (leaveD cl.leave)) 13) hlx) ev_int) (by rw [hlt])) ?_) (by rw [List.map_append]))) (by omega) (fun i e he => ?_) (hr_ty 14 rfl lc_filD ?_)
  · rw [List.length_map, List.length_map, ← List.length_append]; omega
  · refine ⟨_, tg_name 15, ets_one ?_, fun _ => ev_v 15⟩
    cases e with
    | joined h => exact (et_cmp c_eq (ev_ixT (d := .str "joined") (ev_v 15) ev_int rfl) ev_str rv_eqS.bo).le fun c' hc' => by rw [hc']; show decide _ = false; decide +kernel
    | said h x => exact (et_cmp c_eq (ev_ixT (d := .str "said") (ev_v 15) ev_int rfl) ev_str rv_eqS.bo).le fun c' hc' => by rw [hc']; show decide _ = true; decide +kernel
    | did k c p => exact (et_cmp c_eq (ev_ixT (d := .str "did") (ev_v 15) ev_int rfl) ev_str rv_eqS.bo).le fun c' hc' => by rw [hc']; show decide _ = false; decide +kernel
  have hsd : ∀ e ∈ (cl.conds ++ lvE cl.leave).filter isSaid, ∃ h x, e = .said h x ∧ Sk x := fun e he => by
    have h1 := List.mem_filter.mp he
    have h2 := hall e h1.1
    cases e with
    | joined h => exact absurd (show false = true from h1.2) (by decide)
    | said h x => exact ⟨h, x, rfl, h2.2⟩
    | did k c p => exact absurd (show false = true from h1.2) (by decide)
  have hsl : ((cl.conds ++ lvE cl.leave).filter isSaid).length ≤ 1000 := Nat.le_trans (List.length_filter_le _ _) hlen
  have hsn : ∀ e ∈ (cl.conds ++ lvE cl.leave).filter isSaid, Ni 1 (evD e) := fun e he => ni_evt (hall e (List.mem_filter.mp he).1)
  generalize (cl.conds ++ lvE cl.leave).filter isSaid = said at hsd hsl hsn ⊢
  refine hr_gam (Γ' := [some (IsV (.ref l)), some (D (dealD d)), some (D (sD d.houses)), some (D (sD d.others)), some (D (.int d.close)), some (D (.tuple (d.clauses.map claD))), some (D (.int (way : Nat))), some (D (.int (c : Nat))), some (D (.int cl.deb)), some (D (.int cl.cre)), some (D (.int cl.parts)), some (D (.int cl.within)), some (D (.tuple (cl.conds.map evD))), some (D (leaveD cl.leave)), some (D (.list (said.map evD))), none]) rfl ?_
  have hnl : Ni 2 (.list (said.map evD)) := ni_lst fun d hd => by
    obtain ⟨e, he, rfl⟩ := List.mem_map.mp hd
    exact hsn e he
  refine hr_ifR (T := fun c' => c' = true → said ≠ []) ((et_w (ew_andB (et_cmp c_lt (ev_v 6) ev_int rv_lt.bo) fun _ => et_cmp c_neD (ev_v 14) (ev_lst (ds := []) ea_nil) (rv_neD hnl.nice ni_nilL.nice).bo)).le fun c' hc' h => ?_) (fun hT => ?_) fun _ => ?_
  · rw [hc', Bool.and_eq_true, eqv_nil] at h
    intro z
    rw [z] at h
    exact absurd h.2 (by decide)
  · have hne := hT rfl
    have hpos : 0 < said.length := List.length_pos_iff.mpr hne
    refine hr_ret (ev_tupP (Ps := [D (.str "say"), Xp Sk fun x => D (.str x)]) (ea2 ev_str (ev_ixTX (φ := fun z : Nat × Str => Sk z.2) (ds := fun z => [.str "said", .int (z.1 : Nat), .str z.2]) (ev_pickL (ds := said.map evD) (ev_v 14) (ev_pick cP 0 (ev_v 0) (ev_lenL (ds := said.map evD) b.len (ev_v 14)) (by rw [List.length_map]; omega) (by rw [List.length_map]; omega)) fun dd hd => ?_) ev_int fun z hz => ⟨.str z.2, rfl, Xp.of (P := fun x => D (.str x)) (x := z.2) hz⟩))) fun G v ⟨a, vs, g1, g2, g3⟩ => ?_
    · obtain ⟨e, he, rfl⟩ := List.mem_map.mp hd
      obtain ⟨h, x, rfl, hx⟩ := hsd e he
      exact Xp.of (P := fun z : Nat × Str => D (.tuple [.str "said", .int (z.1 : Nat), .str z.2])) (x := (h, x)) hx
    · obtain ⟨x, y, e, q1, z, hz, q2⟩ := psa2 g3
      subst e
      exact ⟨sayD z, ⟨ni_say hz, rfl⟩, by rw [g1]; exact .tup g2 (.cons q1 (.cons q2 .nil))⟩
  refine hr_ifR (T := fun _ => True) (et_cmp c_lt (ev_v 6) ev_int (rv_lt.le (BoolP.of True.intro))) (fun _ => ?_) fun _ => ?_
  · have hp := h3.parts
    refine hr_ret (ev_tupP (Ps := [D (.str "do"), D (.int (c : Nat)), LtP cl.parts.toNat]) (ea_cons ev_str (ea2 (ev_v 7) (ev_pick cP 0 (many := cl.parts.toNat) (ev_v 0) (Ev.eq (ev_v (P := D (.int cl.parts)) 10) (by congr 1; omega)) (by omega) (by omega))))) fun G v ⟨a, vs, g1, g2, g3⟩ => ?_
    obtain ⟨x, y, z, e, q1, q2, r, _, q3⟩ := psa3 g3
    subst e
    exact ⟨doD c r, ⟨ni_do, rfl⟩, by rw [g1]; exact .tup g2 (.cons q1 (.cons q2 (.cons q3 .nil)))⟩
  refine hr_ifR (T := fun _ => True) (et_cmp c_lt (ev_v 6) ev_int (rv_lt.le (BoolP.of True.intro))) (fun _ => ?_) fun _ => ?_
  · exact hr_ret (ev_tup (ds := [.str "free", .int (c : Nat)]) (ea2 ev_str (ev_v 7))) (deedOf (ni_2 (ni_str sk_of) (ni_int _)) rfl)
  refine hr_ifR (T := fun _ => True) (et_cmp c_lt (ev_v 6) ev_int (rv_lt.le (BoolP.of True.intro))) (fun _ => ?_) fun _ => ?_
  · exact hr_ret (ev_tup (ds := [.str "ready", .int (c : Nat)]) (ea2 ev_str (ev_v 7))) (deedOf (ni_2 (ni_str sk_of) (ni_int _)) rfl)
  refine hr_ifR (T := fun _ => True) (et_cmp c_lt (ev_v 6) ev_int (rv_lt.le (BoolP.of True.intro))) (fun _ => ?_) fun _ => ?_
  · refine hr_ret (ev_tupP (Ps := [D (.str "hand"), D (.int (c : Nat)), Xp Sk fun x => D (.str x)]) (ea_cons ev_str (ea2 (ev_v 7) (ev_pickT (ds := d.houses.map .str) (ev_v 2) (ev_pick cP 0 (ev_v 0) (ev_lenT (ds := d.houses.map .str) b.len (ev_v 2)) (by rw [List.length_map]; omega) (by rw [List.length_map]; omega)) fun dd hd => by
      obtain ⟨x, hx, rfl⟩ := List.mem_map.mp hd
      exact Xp.of (P := fun x => D (.str x)) (x := x) (dk.hk x hx))))) fun G v ⟨a, vs, g1, g2, g3⟩ => ?_
    obtain ⟨x, y, z, e, q1, q2, r, hr, q3⟩ := psa3 g3
    subst e
    exact ⟨handD c r, ⟨ni_hand hr, rfl⟩, by rw [g1]; exact .tup g2 (.cons q1 (.cons q2 (.cons q3 .nil)))⟩
  refine hr_ifR (et_cmp c_lt (ev_v 6) ev_int rv_lt.bo) (fun _ => ?_) fun h13 => ?_
  · exact hr_ret (ev_tup (ds := [.str "quit", .int (c : Nat)]) (ea2 ev_str (ev_v 7))) (deedOf (ni_2 (ni_str sk_of) (ni_int _)) rfl)
  · have hw13 : ¬ ((way : Int) < 13) := by simpa using h13.symm
    have hh0 := house_at (d := d) (h := 0) (by omega)
    have hh0k := dk.hk _ (List.mem_of_getElem? hh0)
    refine hr_ret (ev_pickL (ds := [.tuple [.str "note"], sayD (d.houses.getD 0 (Str.ofString "")), joinD]) (ev_lst (ds := [.tuple [.str "note"], sayD (d.houses.getD 0 (Str.ofString "")), joinD]) (ea_cons (ev_tup (ds := [.str "note"]) (ea1 ev_str)) (ea2 (ev_tup (ds := [.str "say", .str (d.houses.getD 0 (Str.ofString ""))]) (ea2 ev_str (ev_ixT (ds := d.houses.map .str) (d := .str (d.houses.getD 0 (Str.ofString ""))) (ev_v 2) ev_int (atS (k := 0) hh0)))) (ev_tup (ds := [.str "join"]) (ea1 ev_str))))) ((ev_sub (i := (way : Int)) (j := 13) (ev_v 6) ev_int).le fun G v p => ⟨way - 13, by show way - 13 < 3; omega, by
      show Dg G v (.int ((way - 13 : Nat) : Int))
      rw [show ((way - 13 : Nat) : Int) = (way : Int) - 13 from by omega]; exact p⟩) fun dd hd => ?_) .rfl
    simp only [List.mem_cons, List.not_mem_nil, or_false] at hd
    rcases hd with rfl | rfl | rfl
    · exact deedOf (ni_1 (ni_str sk_of)) rfl
    · exact deedOf (ni_say hh0k) rfl
    · exact njoin
end
end Hw
set_option Elab.async false
set_option linter.all false
set_option maxRecDepth 100000
set_option maxHeartbeats 2000000
namespace Hw
open PySem PySem.Spec L2

def isMine (h w : Str) (l : Letter) : Bool := decide (l.house = h) && decide (l.deal = w)
def mineOf (ls : List Letter) (h w : Str) : List Letter := ls.filter (isMine h w)
theorem lts_ni {ls : List Letter} (h : ∀ l ∈ ls, LtOk l) : Ni 4 (.list (ls.map ltD)) := ni_lts h
theorem eqv_emp {α : Type} {f : α → PyData} {xs : List α} : PyData.eqv (.list (xs.map f)) (.list []) = xs.isEmpty := by
  rw [eqv_nil]; cases xs <;> rfl
theorem getD_last {α : Type} {xs : List α} {d : α} (h : 0 < xs.length) : xs[xs.length - 1]? = some (xs.getD (xs.length - 1) d) := by
  have : xs.length - 1 < xs.length := by omega
  rw [List.getElem?_eq_getElem this, List.getD, List.getElem?_eq_getElem this]; rfl
theorem ltP_I' {n : Nat} : (LtP n).le (IntP fun r => 0 ≤ r ∧ r < (n : Int)) := fun G v ⟨r, h1, p⟩ => ⟨(r : Nat), ⟨by omega, by omega⟩, p⟩
theorem natP {n : Nat} : (IntP fun r => 1 ≤ r ∧ r ≤ (n : Int)).le (Xp (fun m : Nat => 1 ≤ m ∧ m ≤ n) fun m => D (nI m)) := fun G v ⟨r, ⟨h1, h2⟩, p⟩ => ⟨r.toNat, ⟨by omega, by omega⟩, by
  show Dg G v (.int ((r.toNat : Nat) : Int))
  rw [Int.toNat_of_nonneg (by omega)]; exact p⟩
theorem atNeg {xs : List Letter} {k : Nat} {x : Letter} (h1 : 1 ≤ k) (h2 : k ≤ xs.length) (h : xs[xs.length - k]? = some x) : atI (xs.map ltD) (-(k : Int)) = some (ltD x) := by
  unfold atI ixN
  rw [List.length_map, if_neg (by omega), if_pos (by omega)]
  show (xs.map ltD)[(-(k : Int) + (xs.length : Int)).toNat]? = _
  rw [show (-(k : Int) + (xs.length : Int)).toNat = xs.length - k from by omega, List.getElem?_map, h]; rfl
section
variable {S : Sx} {f : Addr} {fd : FuncData}
structure LsOk (ls : List Letter) (h w : Str) : Prop where
  ok : ∀ l ∈ ls, LtOk l
  len : ls.length ≤ 1000
  h : Sk h
  w : Sk w
theorem mine_lc {F : Fx} {L : List Rs} {Γ : Ty} {a b : Expr} {pos : Pos} {l : Letter} {h w : Str} (hl : LtOk l) (hh : Sk h) (hw : Sk w) (ha : Ev F L Γ a (D (.tuple [.str l.house, .str l.deal]))) (hb : Ev F L Γ b (D (.tuple [.str h, .str w]))) (hm : behindInMarks .Eq b = false := by first | exact nomark _ | rfl) : Et F L Γ (.Compare a [.Eq] [b] pos) (· = isMine h w l) :=
  (et_cmp c_eqD ha hb (rv_eqD (ni_2s hl.h hl.d).nice (ni_2s hh hw).nice).bo hm).le fun c hc => by rw [hc, eqv_2s]; rfl
def SpLast : Sp := Spc (NoR (α := List Letter × Str × Str)) (fun a => LsOk a.1 a.2.1 a.2.2) (fun a => [D (.list (a.1.map ltD)), D (.str a.2.1), D (.str a.2.2)]) (fun _ => AnyI)
theorem sc_last : FnScope ["_law_letters", "_law_house", "_law_deal", "_law_mine", "_law_letter_here"] ["_law_letters", "_law_house", "_law_deal"] (defScope s_law_last) := ⟨rfl, rfl, rfl, by decide +kernel, rfl, by decide +kernel, by decide +kernel⟩
theorem ok_last (Fd : FnP S "_law_last" s_law_last f fd) : OkF S 1 f fd ["_law_letters", "_law_house", "_law_deal"] SpLast := by
  refine fn_ok Fd sc_last (fun _ => rfl) noR fun ⟨ls, h, w⟩ hok => ?_
  obtain ⟨hl, hn, hh, hw⟩ := hok
  have hl' : ∀ l ∈ ls, LtOk l := hl
  have hn' : ls.length ≤ 1000 := hn
  refine hr_setLc 3 [("_law_letter_here", 4)] (xs := ls) (enc := ltD) (T := fun l c => c = isMine h w l) (P := fun l => D (ltD l)) (itr_L (ev_v 0)) (by omega) (fun i l hi => ?_) (hr_ty 3 rfl lc_filD ?_)
  · exact ⟨_, tg_name 4, ets_one (mine_lc (hl' l (List.mem_of_getElem? hi)) hh hw (ev_slTto (ds := ltA l) (n := 2) (ev_v 4) ev_int) (ev_tup (ds := [.str h, .str w]) (ea2 (ev_v 1) (ev_v 2)))), fun _ => ev_v 4⟩
  · have hml : ∀ l ∈ ls.filter (isMine h w), LtOk l := fun l hl => hl' l (List.mem_filter.mp hl).1
    generalize ls.filter (isMine h w) = mine at hml ⊢
    refine hr_ret (ev_if (et_cmp c_neD (ev_v 3) (ev_lst (ds := []) ea_nil) (rv_neD (lts_ni hml).nice ni_nilL.nice).bo) (fun h1 => ?_) fun _ => ev_int.le (IntP.of True.intro)) .rfl
    rw [eqv_emp] at h1
    have hp : 0 < mine.length := by
      cases mine with
      | nil => cases h1
      | cons x xs => simp
    have hg : mine[mine.length - 1]? = some (mine.getD (mine.length - 1) dfl) := getD_last hp
    exact (ev_ixT (ds := ltA (mine.getD (mine.length - 1) dfl)) (d := .int (mine.getD (mine.length - 1) dfl).nr) (ev_ixL (ds := mine.map ltD) (d := ltD (mine.getD (mine.length - 1) dfl)) (ev_v 3) (ev_neg (i := 1) ev_int) (atLast hg)) ev_int rfl).le (IntP.of True.intro)
/-! ### gots -/
abbrev GoA := Addr × List Letter × Str × Str
def GotsOk (h w : Str) (gs : List Nm) : Prop := gs.length ≤ 10 ∧ ∀ g ∈ gs, (Sk g.1 ∧ Sk g.2.1) ∧ ¬ (g.1 = h ∧ g.2.1 = w)
def SpGots : Sp := Spc (fun a : GoA => [⟨a.1, LeftR, false⟩]) (fun a => LsOk a.2.1 a.2.2.1 a.2.2.2) (fun a => [IsV (.ref a.1), D (.list (a.2.1.map ltD)), D (.str a.2.2.1), D (.str a.2.2.2)]) (fun a => Xp (GotsOk a.2.2.1 a.2.2.2) fun gs => D (.tuple (gs.map nD)))
theorem sc_gots : FnScope ["_law_left_here", "_law_letters", "_law_house", "_law_deal", "_law_some_here", "_law_found", "_law_k", "_law_at", "_law_letter_here"] ["_law_left_here", "_law_letters", "_law_house", "_law_deal"] (defScope s_law_gots) := ⟨rfl, rfl, rfl, by decide +kernel, rfl, by decide +kernel, by decide +kernel⟩
theorem ok_gots (Fd : FnP S "_law_gots" s_law_gots f fd) (b : Bi S) (cP : Cl S "_law_pick" 1 SpPick) (cN : Cl S "_law_name" 1 SpNameOf) : OkF S 2 f fd ["_law_left_here", "_law_letters", "_law_house", "_law_deal"] SpGots := by
  refine fn_ok Fd sc_gots (fun _ => rfl) (hloc2 (g := fun a : GoA => a.1)) fun ⟨l, ls, h, w⟩ hok => ?_
  obtain ⟨hl, hn, hh, hw⟩ := hok
  have hl' : ∀ l ∈ ls, LtOk l := hl
  have hn' : ls.length ≤ 1000 := hn
  refine hr_gam (Γ' := [some (IsV (.ref l)), some (D (.list (ls.map ltD))), some (D (.str h)), some (D (.str w)), none, none, none, none, none]) rfl ?_
  refine hr_setLc 4 [("_law_letter_here", 8)] (xs := ls) (enc := ltD) (T := fun l c => c = !isMine h w l) (P := fun l => D (ltD l)) (itr_L (ev_v 1)) (by omega) (fun i l hi => ?_) (hr_ty 4 rfl lc_filD ?_)
  · have hll := hl' l (List.mem_of_getElem? hi)
    exact ⟨_, tg_name 8, ets_one ((et_cmp c_neD (ev_slTto (ds := ltA l) (n := 2) (ev_v 8) ev_int) (ev_tup (ds := [.str h, .str w]) (ea2 (ev_v 2) (ev_v 3))) (rv_neD (d := .tuple [.str l.house, .str l.deal]) (ni_2s hll.h hll.d).nice (ni_2s hh hw).nice).bo).le fun c hc => by rw [hc, eqv_2s]; rfl), fun _ => ev_v 8⟩
  have hsm : ∀ x ∈ ls.filter (fun l => !isMine h w l), LtOk x ∧ isMine h w x = false := fun x hx => by
    have := List.mem_filter.mp hx
    exact ⟨hl' x this.1, by simpa using this.2⟩
  have hsl : (ls.filter (fun l => !isMine h w l)).length ≤ 1000 := Nat.le_trans (List.length_filter_le _ _) hn'
  generalize ls.filter (fun l => !isMine h w l) = sm at hsm hsl ⊢
  refine hr_gam (Γ' := [some (IsV (.ref l)), some (D (.list (ls.map ltD))), some (D (.str h)), some (D (.str w)), some (D (.list (sm.map ltD))), none, none, none, none]) rfl ?_
  refine hr_newT 5 fun pf => ?_
  refine hr_forX (φ := fun n : Nat => n ≤ 7 ∧ (sm = [] → n = 0)) (ds := rgD) (itr_rangeX b.range (ev_mulR (P := InP [0, 1, 1, 2, 3, 1, 2, 7]) (Q := D (.int (if (!sm.isEmpty) then 1 else 0))) (ev_pickN (ns := [0, 1, 1, 2, 3, 1, 2, 7]) (ev_lst (ds := [0, 1, 1, 2, 3, 1, 2, 7].map nI) (ea_cons ev_int (ea_cons ev_int (ea_cons ev_int (ea_cons ev_int (ea_cons ev_int (ea_cons ev_int (ea2 ev_int ev_int)))))))) (ev_pick cP 1 (ev_v 0) ev_int (by decide) (by decide))) (ev_intB (b := !sm.isEmpty) b.int (Ev.eq (ev_cmp c_neD (ev_v 4) (ev_lst (ds := []) ea_nil) (rv_neD (lts_ni fun x hx => (hsm x hx).1).nice ni_nilL.nice)) (by rw [eqv_emp]))) (rv_exL fun r hr => (rv_I (C := CMul) (g := fun i j => .int (i * j)) (d := .int (((r * (if (!sm.isEmpty) then 1 else 0) : Nat)) : Int)) (.inr (by split <;> decide)) fun G => ?_).le fun G v p => ⟨r * (if (!sm.isEmpty) then 1 else 0), ?_, p⟩)) fun n hn => by omega) (fun z i L' Γ' => ∃ (gs : List (Nm × Unit)) (o6 o7 : Option MP), L' = [⟨pf, DTR (encG nK (fun _ => PyData.bool true) gs), true⟩, ⟨l, LeftR, false⟩] ∧ Γ' = [some (IsV (.ref l)), some (D (.list (ls.map ltD))), some (D (.str h)), some (D (.str w)), some (D (.list (sm.map ltD))), some (IsV (.ref pf)), o6, o7, none] ∧ gs.length ≤ i ∧ ∀ g ∈ gs.map (·.1), (Sk g.1 ∧ Sk g.2.1) ∧ ¬ (g.1 = h ∧ g.2.1 = w)) (fun z hz => ⟨[], _, _, rfl, rfl, Nat.le_refl _, fun g hg => absurd hg (by simp)⟩) (fun z hz i d L' Γ' hd hI => ?_) fun z hz L' Γ' hI => ?_
  · split
    · show Dg G (.int ((r : Int) * 1)) (.int ((r * 1 : Nat) : Int))
      rw [Int.mul_one, Nat.mul_one]; exact .int _
    · show Dg G (.int ((r : Int) * 0)) (.int ((r * 0 : Nat) : Int))
      rw [Int.mul_zero, Nat.mul_zero]; exact .int _
  · have hr' : r ∈ [0, 1, 1, 2, 3, 1, 2, 7] := hr
    simp only [List.mem_cons, List.not_mem_nil, or_false] at hr'
    refine ⟨?_, fun e => by rw [e]; simp⟩
    split <;> omega
  · obtain ⟨gs, o6, o7, hL, hΓ, hgl, hgs⟩ := hI
    subst hL hΓ
    obtain ⟨hiz, e⟩ := rgD_get hd
    subst e
    have hz7 : z ≤ 7 := hz.1
    have hne : sm ≠ [] := fun e => by
      have := hz.2 e
      omega
    have hpos : 0 < sm.length := List.length_pos_iff.mpr hne
    refine ⟨[6], _, tg_name 6, ?_⟩
    refine hr_set 7 (P := Xp (fun n : Nat => 1 ≤ n ∧ n ≤ sm.length) fun n => D (nI n)) ((ev_addI (φ := fun r => 0 ≤ r ∧ r < ((min sm.length 5 : Nat) : Int)) (ψ := (· = 1)) (χ := fun r => 1 ≤ r ∧ r ≤ (sm.length : Int)) ((ev_pick cP 1 (many := min sm.length 5) (ev_v 0) (Ev.eq (ev_min2 (i := (sm.length : Nat)) (j := 5) b.min (Ev.eq (ev_lenL (ds := sm.map ltD) b.len (ev_v 4)) (by rw [List.length_map])) ev_int) (by congr 1; omega)) (by omega) (by omega)).le ltP_I') (ev_I ev_int) fun x y hx hy => by subst hy; omega).le natP) ?_
    refine hr_ifT (T := fun _ => True) (N1 := fun L' Γ' => L' = [⟨pf, DTR (encG nK (fun _ => PyData.bool true) gs), true⟩, ⟨l, LeftR, false⟩] ∧ Γ' = [some (IsV (.ref l)), some (D (.list (ls.map ltD))), some (D (.str h)), some (D (.str w)), some (D (.list (sm.map ltD))), some (IsV (.ref pf)), some (D (.int (i : Nat))), some (Xp (fun n : Nat => 1 ≤ n ∧ n ≤ sm.length) fun n => D (nI n)), none]) (et_cmp c_eq (ev_pick cP 1 (ev_v 0) ev_int (by decide) (by decide)) ev_int (rv_exL fun r _ => rv_eqI.le (BoolP.of True.intro))) (fun _ => hr_set 7 (P := Xp (fun n : Nat => 1 ≤ n ∧ n ≤ sm.length) fun n => D (nI n)) ((ev_addI (φ := fun r => 0 ≤ r ∧ r < ((sm.length : Nat) : Int)) (ψ := (· = 1)) (χ := fun r => 1 ≤ r ∧ r ≤ (sm.length : Int)) ((ev_pick cP 1 (many := sm.length) (ev_v 0) (Ev.eq (ev_lenL (ds := sm.map ltD) b.len (ev_v 4)) (by rw [List.length_map])) (by omega) (by omega)).le ltP_I') (ev_I ev_int) fun x y hx hy => by subst hy; omega).le natP) (hr_nil ⟨rfl, rfl⟩)) (fun _ L' Γ' hN => ?_) fun _ => ?_
    all_goals
      first
        | obtain ⟨hL, hΓ⟩ := hN
          subst hL hΓ
        | refine hr_gam (Γ' := [some (IsV (.ref l)), some (D (.list (ls.map ltD))), some (D (.str h)), some (D (.str w)), some (D (.list (sm.map ltD))), some (IsV (.ref pf)), some (D (.int (i : Nat))), some (Xp (fun n : Nat => 1 ≤ n ∧ n ≤ sm.length) fun n => D (nI n)), none]) rfl ?_
      refine hr_ex 7 rfl fun at' hat => ?_
      obtain ⟨ha1, ha2⟩ := hat
      have hlt : sm.length - at' < sm.length := by omega
      have hg : sm[sm.length - at']? = some sm[sm.length - at'] := List.getElem?_eq_getElem hlt
      have hx := hsm _ (List.getElem_mem hlt)
      generalize sm[sm.length - at'] = x at hg hx
      refine hr_putT 0 5 (kvs := encG nK (fun _ => PyData.bool true) gs) (ks := nK x.name) (d := .bool true) ev_bl (ev_call cN x trivial (ea1 (ev_ixL (ds := sm.map ltD) (d := ltD x) (ev_v 4) (ev_neg (i := (at' : Nat)) (ev_v 7)) (atNeg ha1 ha2 hg)))) (hr_nil ⟨putG gs x.name (), _, _, ?_, rfl, ?_, fun g hg' => ?_⟩) (by rw [encG_length]; omega)
      · show [(⟨pf, DTR (putD (encG nK (fun _ => PyData.bool true) gs) (nK x.name) (.bool true)), true⟩ : Rs), ⟨l, LeftR, false⟩] = _
        rw [putD_enc nK_inj (f := fun _ : Unit => PyData.bool true) gs x.name ()]
      · have := putG_length gs x.name ()
        omega
      · obtain ⟨p, hp, e⟩ := List.mem_map.mp hg'
        rcases putG_mem hp with hp | ep
        · exact hgs g (List.mem_map.mpr ⟨p, hp, e⟩)
        · rw [← e, ep]
          refine ⟨⟨hx.1.h, hx.1.d⟩, fun hc => ?_⟩
          have : isMine h w x = true := by
            obtain ⟨c1, c2⟩ : x.house = h ∧ x.deal = w := hc
            unfold isMine
            rw [decide_eq_true c1, decide_eq_true c2]; rfl
          rw [hx.2] at this; cases this
  · obtain ⟨gs, o6, o7, hL, hΓ, hgl, hgs⟩ := hI
    subst hL hΓ
    have hgl7 : gs.length ≤ 7 := by
      have : (rgD z).length = z := by unfold rgD; simp
      have := hz.1
      omega
    refine hr_ret (ev_tupOfX (φ := fun ys : List Nm => ys.Perm (gs.map (·.1))) (ds := fun ys => ys.map nD) b.tuple (ev_sortedT (ks := gs.map (·.1)) b.sorted (ev_v 5) (isDT_L 0) (by unfold encG; rw [List.map_map, List.map_map]; rfl))) fun G v ⟨ys, hy, p⟩ => ⟨ys, ⟨?_, fun g hg => hgs g (hy.mem_iff.mp hg)⟩, p⟩
    rw [hy.length_eq, List.length_map]; omega
end
end Hw
set_option Elab.async false
set_option linter.all false
set_option maxRecDepth 100000
set_option maxHeartbeats 1000000
namespace Hw
open PySem PySem.Spec L2

def szD (sz : List Nat) : PyData := .list (sz.map nI)
def EvS (H : Nat) (ws : List Str) (szs : List (List Nat)) : Evt → Prop
  | .joined h => h < H
  | .said h w => h < H ∧ w ∈ ws
  | .did k c _ => ∃ sz, szs[k]? = some sz ∧ c < sz.length
theorem ni_evS {H : Nat} {ws : List Str} {szs : List (List Nat)} (hw : ∀ w ∈ ws, Sk w) {e : Evt} (h : EvS H ws szs e) : Ni 1 (evD e) := by
  cases e with
  | joined k => exact ni_2 (ni_str sk_of) (ni_int _)
  | said k x => exact ni_3 (ni_str sk_of) (ni_int _) (ni_str (hw x h.2))
  | did k c p =>
    refine ni_tup fun d hd => ?_
    simp only [List.mem_cons, List.not_mem_nil, or_false] at hd
    rcases hd with rfl | rfl | rfl | rfl
    · exact ni_str sk_of
    · exact ni_int _
    · exact ni_int _
    · exact ni_int _
theorem ni_evs {H : Nat} {ws : List Str} {szs : List (List Nat)} (hw : ∀ w ∈ ws, Sk w) {es : List Evt} (h : ∀ e ∈ es, EvS H ws szs e) : Ni 2 (.list (es.map evD)) := ni_lst fun d hd => by
  obtain ⟨e, he, rfl⟩ := List.mem_map.mp hd
  exact ni_evS hw (h e he)
structure SzOk (sz : List Nat) : Prop where
  ne : 1 ≤ sz.length
  le : sz.length ≤ 12
  s : ∀ x ∈ sz, 1 ≤ x ∧ x ≤ 9
theorem ltP_le {n m : Nat} (h : n ≤ m) : (LtP n).le (LtP m) := fun G v ⟨r, h1, p⟩ => ⟨r, Nat.lt_of_lt_of_le h1 h, p⟩
theorem ltP_I {n : Nat} : (LtP n).le (IntP fun r => 0 ≤ r ∧ r < (n : Int)) := fun G v ⟨r, h1, p⟩ => ⟨(r : Nat), ⟨by omega, by omega⟩, p⟩
structure EvA where
  l : Addr
  H : Nat
  others : List (List Nat)
  own : List Nat
  ws : List Str
  c : Nat
structure EvAOk (a : EvA) : Prop where
  H : 1 ≤ a.H ∧ a.H ≤ 8
  own : SzOk a.own
  others : ∀ sz ∈ a.others, SzOk sz
  ol : a.others.length ≤ 10
  ws : WordsOk 16 a.ws
def EvP (H : Nat) (ws : List Str) (szs : List (List Nat)) : MP := Xp (EvS H ws szs) fun e => D (evD e)
section
variable {S : Sx} {f : Addr} {fd : FuncData}
theorem hloc1 {α : Type} {g : α → Addr} (a : α) : ∀ r ∈ ([⟨g a, LeftR, false⟩] : List Rs), r.loc = false := fun r h => by
  have e : r = ⟨g a, LeftR, false⟩ := by simpa using h
  rw [e]
theorem joinP {H : Nat} {ws : List Str} {szs : List (List Nat)} : (TupP [D (.str "joined"), LtP H]).le (EvP H ws szs) := fun G v ⟨a, vs, h1, h2, h3⟩ => by
  obtain ⟨x, y, e, q1, r, hr, q2⟩ := psa2 h3
  subst e
  exact ⟨.joined r, hr, by rw [h1]; exact .tup h2 (.cons q1 (.cons q2 .nil))⟩
theorem sayP {H : Nat} {ws : List Str} {szs : List (List Nat)} : (TupP [D (.str "said"), LtP H, Xp (· ∈ ws) fun w => D (.str w)]).le (EvP H ws szs) := fun G v ⟨a, vs, h1, h2, h3⟩ => by
  obtain ⟨x, y, z, e, q1, ⟨r, hr, q2⟩, w, hw, q3⟩ := psa3 h3
  subst e
  exact ⟨.said r w, ⟨hr, hw⟩, by rw [h1]; exact .tup h2 (.cons q1 (.cons q2 (.cons q3 .nil)))⟩
theorem didP {H : Nat} {ws : List Str} {szs : List (List Nat)} {k c s : Nat} {sz : List Nat} (h1 : szs[k]? = some sz) (h2 : c < sz.length) : (TupP [D (.str "did"), D (.int (k : Nat)), D (.int (c : Nat)), LtP s]).le (EvP H ws szs) := fun G v ⟨a, vs, g1, g2, g3⟩ => by
  cases g3 with
  | cons q1 t1 =>
    obtain ⟨x, y, z, e, q2, q3, r, hr, q4⟩ := psa3 t1
    subst e
    exact ⟨.did k c r, ⟨sz, h1, h2⟩, by rw [g1]; exact .tup g2 (.cons q1 (.cons q2 (.cons q3 (.cons q4 .nil))))⟩
def SpEvent : Sp := Spc (fun a : EvA => [⟨a.l, LeftR, false⟩]) EvAOk (fun a => [IsV (.ref a.l), D (.tuple [.int (a.H : Nat), .list (a.others.map szD), szD a.own]), D (.list (a.ws.map .str)), D (.int (a.c : Nat))]) (fun a => EvP a.H a.ws (a.own :: a.others))
theorem sc_event : FnScope ["_law_left_here", "_law_deal", "_law_named_here", "_law_own", "_law_houses", "_law_others", "_law_clauses_here", "_law_way", "_law_k", "_law_sizes", "_law_c"] ["_law_left_here", "_law_deal", "_law_named_here", "_law_own"] (defScope s_law_event) := ⟨rfl, rfl, rfl, by decide +kernel, rfl, by decide +kernel, by decide +kernel⟩
theorem ok_event (Fd : FnP S "_law_event" s_law_event f fd) (b : Bi S) (cP : Cl S "_law_pick" 1 SpPick) : OkF S 2 f fd ["_law_left_here", "_law_deal", "_law_named_here", "_law_own"] SpEvent := by
  refine fn_ok Fd sc_event (fun _ => rfl) (hloc1 (g := EvA.l)) fun ⟨l, H, others, own, ws, c0⟩ hok => ?_
  obtain ⟨⟨hH1, hH2⟩, hown, hoth, hol, hws⟩ := hok
  have hH1' : 1 ≤ H := hH1
  have hH2' : H ≤ 8 := hH2
  have hol' : others.length ≤ 10 := hol
  have hwl : ws.length = 16 := hws.len
  have hown' : SzOk own := hown
  refine hr_asg (vs := [4, 5, 6]) (ev_v 1) (tg_tup (n := 3) (ds := [.int (H : Nat), .list (others.map szD), szD own]) (tgs_cons (tg_name 4) (tgs_cons (tg_name 5) (tgs_cons (tg_name 6) tgs_nil)))) ?_
  refine hr_set 7 (P := LtP 6) (ev_pick cP 0 (ev_v 0) ev_int (by decide) (by decide)) ?_
  refine hr_ex 7 rfl fun way _ => ?_
  refine hr_ifR (T := fun _ => True) (et_cmp c_lt (ev_v 7) ev_int (rv_lt.le (BoolP.of True.intro))) (fun _ => ?_) fun _ => ?_
  · exact hr_ret (ev_tupP (Ps := [D (.str "joined"), LtP H]) (ea2 ev_str (ev_pick cP 0 (ev_v 0) (ev_v 4) (by omega) (by omega)))) joinP
  refine hr_ifR (T := fun _ => True) (et_cmp c_lt (ev_v 7) ev_int (rv_lt.le (BoolP.of True.intro))) (fun _ => ?_) fun _ => ?_
  · exact hr_ret (ev_tupP (Ps := [D (.str "said"), LtP H, Xp (· ∈ ws) fun w => D (.str w)]) (ea_cons ev_str (ea2 (ev_pick cP 0 (ev_v 0) (ev_v 4) (by omega) (by omega)) (ev_pickL (ds := ws.map .str) (ev_v 2) ((ev_pick cP 0 (many := 4) (ev_v 0) ev_int (by decide) (by decide)).le (ltP_le (by rw [List.length_map]; omega))) fun d hd => by
      obtain ⟨w, hw, rfl⟩ := List.mem_map.mp hd
      exact Xp.of (P := fun w => D (.str w)) (x := w) hw)))) sayP
  refine hr_set 8 (P := LtP (others.length + 1)) ((ev_pick cP 0 (ev_v 0) (ev_addN (m := 1) (ev_lenL (ds := others.map szD) b.len (ev_v 5)) ev_int) ?_ ?_).le ?_) ?_
  · rw [List.length_map]; omega
  · rw [List.length_map]; omega
  · rw [List.length_map]; exact .rfl
  refine hr_ex 8 rfl fun k hk => ?_
  have hk' : k < (own :: others).length := hk
  obtain ⟨sz, hsz⟩ : ∃ sz, (own :: others)[k]? = some sz := ⟨_, List.getElem?_eq_getElem hk'⟩
  have hszo : SzOk sz := by
    rcases List.mem_cons.mp (List.mem_of_getElem? hsz) with e | h
    · rw [e]; exact hown'
    · exact hoth _ h
  have hsz1 := hszo.ne
  have hsz2 := hszo.le
  refine hr_set 9 (P := D (szD sz)) (ev_ixL (ds := (own :: others).map szD) (ev_catL (ds := [szD own]) (es := others.map szD) (ev_lst (ds := [szD own]) (ea1 (ev_v 6))) (ev_v 5) (by rw [List.length_map]; simp; omega)) (ev_v 8) (atM hsz)) ?_
  refine hr_set 10 (P := LtP sz.length) ((ev_pick cP 0 (ev_v 0) (ev_lenL (ds := sz.map nI) b.len (ev_v 9)) ?_ ?_).le ?_) ?_
  · rw [List.length_map]; omega
  · rw [List.length_map]; omega
  · rw [List.length_map]; exact .rfl
  refine hr_ex 10 rfl fun c hc => ?_
  refine hr_ifR (T := fun _ => True) ((et_w (ew_andB (et_cmp c_eq (ev_v 8) ev_int rv_eqI.bo) fun _ => et_cmp c_eq (ev_v 10) (ev_v 3) rv_eqI.bo)).le fun _ _ => True.intro) (fun _ => ?_) fun _ => ?_
  · exact hr_ret (ev_tupP (Ps := [D (.str "joined"), LtP H]) (ea2 ev_str (ev_pick cP 0 (ev_v 0) (ev_v 4) (by omega) (by omega)))) joinP
  · have hs : sz[c]? = some (sz.getD c 0) := by
      have hc' : c < sz.length := hc
      rw [List.getElem?_eq_getElem hc', List.getD, List.getElem?_eq_getElem hc']; rfl
    have hs2 := hszo.s _ (List.mem_of_getElem? hs)
    refine hr_ret (ev_tupP (Ps := [D (.str "did"), D (.int (k : Nat)), D (.int (c : Nat)), LtP (sz.getD c 0)]) (ea_cons ev_str (ea_cons (ev_v 8) (ea2 (ev_v 10) (ev_pick cP 0 (ev_v 0) (ev_ixL (ds := sz.map nI) (d := nI (sz.getD c 0)) (ev_v 9) (ev_v 10) (atM hs)) (by omega) (by omega)))))) (didP hsz hc)
/-! ### clauses -/
structure ClS (H : Nat) (ws : List Str) (szs : List (List Nat)) (c : Cla) : Prop where
  deb : c.deb < H
  cre : c.cre < H
  parts : 1 ≤ c.parts ∧ c.parts ≤ 100
  conds : c.conds.length ≤ 8
  ev : ∀ e ∈ c.conds, EvS H ws szs e
  lv : ∀ e n, c.leave = some (e, n) → EvS H ws szs e
def LvP (H : Nat) (ws : List Str) (szs : List (List Nat)) : MP := Xp (fun o : Option (Evt × Int) => ∀ e n, o = some (e, n) → EvS H ws szs e) fun o => D (leaveD o)
structure ClA where
  l : Addr
  H : Nat
  sizes : List Nat
  others : List (List Nat)
  ws : List Str
structure ClAOk (a : ClA) : Prop where
  H : 2 ≤ a.H ∧ a.H ≤ 8
  sizes : SzOk a.sizes
  others : ∀ sz ∈ a.others, SzOk sz
  ol : a.others.length ≤ 10
  ws : WordsOk 16 a.ws
def SpClauses : Sp := Spc (fun a : ClA => [⟨a.l, LeftR, false⟩]) ClAOk (fun a => [IsV (.ref a.l), D (.int (a.H : Nat)), D (szD a.sizes), D (.list (a.others.map szD)), D (.list (a.ws.map .str))]) (fun a => Xp (fun cls : List Cla => cls.length = a.sizes.length ∧ ∀ c ∈ cls, ClS a.H a.ws (a.sizes :: a.others) c) fun cls => D (.tuple (cls.map claD)))
theorem sc_clauses : FnScope ["_law_left_here", "_law_houses", "_law_sizes", "_law_others", "_law_named_here", "_law_clauses_here", "_law_c", "_law_parts", "_law_debtor", "_law_creditor", "_law_events_here", "_law_k", "_law_event_here", "_law_leave", "_law_within"] ["_law_left_here", "_law_houses", "_law_sizes", "_law_others", "_law_named_here"] (defScope s_law_clauses) := ⟨rfl, rfl, rfl, by decide +kernel, rfl, by decide +kernel, by decide +kernel⟩
theorem ok_clauses (Fd : FnP S "_law_clauses" s_law_clauses f fd) (b : Bi S) (cP : Cl S "_law_pick" 1 SpPick) (cE : Cl S "_law_event" 2 SpEvent) : OkF S 3 f fd ["_law_left_here", "_law_houses", "_law_sizes", "_law_others", "_law_named_here"] SpClauses := by
  refine fn_ok Fd sc_clauses (fun _ => rfl) (hloc1 (g := ClA.l)) fun ⟨l, H, sizes, others, ws⟩ hok => ?_
  obtain ⟨⟨hH1, hH2⟩, hsz, hoth, hol, hws⟩ := hok
  have hH1' : 2 ≤ H := hH1
  have hH2' : H ≤ 8 := hH2
  have hol' : others.length ≤ 10 := hol
  have hsz' : SzOk sizes := hsz
  have hws' : WordsOk 16 ws := hws
  have hsl := hsz'.le
  have eok : ∀ c, EvAOk ⟨l, H, others, sizes, ws, c⟩ := fun c => ⟨⟨by show 1 ≤ H; omega, hH2'⟩, hsz', hoth, hol', hws'⟩
  refine hr_newL 5 fun pc => ?_
  refine hr_for (ds := enD (sizes.map nI)) (itr_enum b.enumerate (ev_v 2)) (fun i L' Γ' => ∃ (cls : List Cla) (o6 o7 o8 o9 o10 o11 o12 o13 o14 : Option MP), L' = [⟨pc, ListR (cls.map claD), true⟩, ⟨l, LeftR, false⟩] ∧ Γ' = [some (IsV (.ref l)), some (D (.int (H : Nat))), some (D (szD sizes)), some (D (.list (others.map szD))), some (D (.list (ws.map .str))), some (IsV (.ref pc)), o6, o7, o8, o9, o10, o11, o12, o13, o14] ∧ cls.length = i ∧ ∀ c ∈ cls, ClS H ws (sizes :: others) c) ⟨[], _, _, _, _, _, _, _, _, _, rfl, rfl, rfl, fun c hc => absurd hc (by simp)⟩ (fun i d L' Γ' hd hI => ?_) fun L' Γ' hI => ?_
  · obtain ⟨cls, o6, o7, o8, o9, o10, o11, o12, o13, o14, hL, hΓ, hcl, hcs⟩ := hI
    subst hL hΓ
    obtain ⟨d', hd', e⟩ := enD_get hd
    subst e
    rw [List.getElem?_map] at hd'
    cases e : sizes[i]? with
    | none => rw [e] at hd'; cases hd'
    | some s =>
      rw [e] at hd'
      cases hd'
      have hi : i < sizes.length := (List.getElem?_eq_some_iff.mp e).1
      have hs := hsz'.s s (List.mem_of_getElem? e)
      refine ⟨[6, 7], _, tg_tup (n := 2) (ds := [.int i, nI s]) (tgs_cons (tg_name 6) (tgs_cons (tg_name 7) tgs_nil)), ?_⟩
      refine hr_set 8 (P := LtP H) (ev_pick cP 1 (ev_v 0) (ev_v 1) (by omega) (by omega)) ?_
      refine hr_ex 8 rfl fun db hdb => ?_
      refine hr_set 9 (P := LtP H) ((ev_modI (φ := fun _ => True) (ψ := (· = (H : Int))) (χ := fun r => 0 ≤ r ∧ r < (H : Int)) (ev_addI (φ := fun _ => True) (ψ := fun r => 0 ≤ r ∧ r < ((H - 1 : Nat) : Int)) ((ev_I (ev_add (i := (db : Nat)) (j := 1) (ev_v 8) ev_int)).le (IntP.le fun _ _ => True.intro)) ((ev_pick cP 1 (many := H - 1) (ev_v 0) (Ev.eq (ev_sub (i := (H : Nat)) (j := 1) (ev_v 1) ev_int) (by congr 1; omega)) (by omega) (by omega)).le ltP_I) fun _ _ _ _ => True.intro) (ev_I (ev_v 1)) fun x y _ hy => ?_).le ltP_of) ?_
      · subst hy
        exact ⟨by omega, Int.emod_nonneg _ (by omega), Int.emod_lt_of_pos _ (by omega)⟩
      refine hr_ex 9 rfl fun cr hcr => ?_
      refine hr_newL 10 fun pe => ?_
      refine hr_forX (φ := fun n => n ∈ [0, 1, 0, 2, 1, 0, 3, 8]) (ds := rgD) (itr_rangeX b.range (ev_pickN (ns := [0, 1, 0, 2, 1, 0, 3, 8]) (ev_lst (ds := [0, 1, 0, 2, 1, 0, 3, 8].map nI) (ea_cons ev_int (ea_cons ev_int (ea_cons ev_int (ea_cons ev_int (ea_cons ev_int (ea_cons ev_int (ea2 ev_int ev_int)))))))) (ev_pick cP 2 (ev_v 0) ev_int (by decide) (by decide))) ?_) (fun z j L' Γ' => ∃ (evs : List Evt) (o11 o12 : Option MP), L' = [⟨pe, ListR (evs.map evD), true⟩, ⟨pc, ListR (cls.map claD), true⟩, ⟨l, LeftR, false⟩] ∧ Γ' = [some (IsV (.ref l)), some (D (.int (H : Nat))), some (D (szD sizes)), some (D (.list (others.map szD))), some (D (.list (ws.map .str))), some (IsV (.ref pc)), some (D (.int (i : Nat))), some (D (nI s)), some (D (.int (db : Nat))), some (D (.int (cr : Nat))), some (IsV (.ref pe)), o11, o12, o13, o14] ∧ evs.length ≤ j ∧ ∀ e ∈ evs, EvS H ws (sizes :: others) e) (fun z hz => ⟨[], _, _, rfl, rfl, Nat.le_refl _, fun e he => absurd he (by simp)⟩) (fun z hz j d L' Γ' hd hI => ?_) fun z hz L' Γ' hI => ?_
      · intro n hn
        simp only [List.mem_cons, List.not_mem_nil, or_false] at hn
        omega
      · obtain ⟨evs, o11, o12, hL, hΓ, hel, hes⟩ := hI
        subst hL hΓ
        obtain ⟨hjz, e'⟩ := rgD_get hd
        subst e'
        have hz8 : z ≤ 8 := by
          have hz' : z ∈ [0, 1, 0, 2, 1, 0, 3, 8] := hz
          simp only [List.mem_cons, List.not_mem_nil, or_false] at hz'
          omega
        refine ⟨[11], _, tg_name 11, ?_⟩
        refine hr_set 12 (P := EvP H ws (sizes :: others)) (ev_call cE ⟨l, H, others, sizes, ws, i⟩ (eok i) (ea_cons (ev_v 0) (ea_cons (ev_tup (ds := [.int (H : Nat), .list (others.map szD), szD sizes]) (ea_cons (ev_v 1) (ea2 (ev_v 3) (ev_v 2)))) (ea2 (ev_v 4) (ev_v 6)))) (.inr ⟨_, rfl, _, List.mem_of_getElem? (i := 2) rfl, rfl, rfl⟩)) ?_
        refine hr_ex 12 rfl fun ev hev => ?_
        refine hr_ifT (T := fun _ => True) (N1 := fun L' Γ' => ∃ (evs : List Evt) (o11 o12 : Option MP), L' = [⟨pe, ListR (evs.map evD), true⟩, ⟨pc, ListR (cls.map claD), true⟩, ⟨l, LeftR, false⟩] ∧ Γ' = [some (IsV (.ref l)), some (D (.int (H : Nat))), some (D (szD sizes)), some (D (.list (others.map szD))), some (D (.list (ws.map .str))), some (IsV (.ref pc)), some (D (.int (i : Nat))), some (D (nI s)), some (D (.int (db : Nat))), some (D (.int (cr : Nat))), some (IsV (.ref pe)), o11, o12, o13, o14] ∧ evs.length ≤ j + 1 ∧ ∀ e ∈ evs, EvS H ws (sizes :: others) e) ((et_cmp c_notInD (ev_v 12) (ev_v 10) (rv_notInR 0 (ni_evS hws'.sk hev).nice (ni_evs hws'.sk hes).nice).bo).le fun _ _ => True.intro) (fun _ => ?_) (fun _ L' Γ' hN => hr_nil hN) fun _ => hr_nil ⟨evs, _, _, rfl, rfl, by omega, hes⟩
        refine hr_append 0 10 (ds := evs.map evD) (d := evD ev) (ev_v 12) (hr_nil ⟨evs ++ [ev], _, _, ?_, rfl, ?_, fun e he => ?_⟩) (by rw [List.length_map]; omega)
        · rw [List.map_append]; rfl
        · rw [List.length_append]; show evs.length + 1 ≤ _; omega
        · rcases List.mem_append.mp he with he | he
          · exact hes e he
          · have e' : e = ev := by simpa using he
            rw [e']; exact hev
      · obtain ⟨evs, o11, o12, hL, hΓ, hel, hes⟩ := hI
        subst hL hΓ
        have hz8 : z ≤ 8 := by
          have hz' : z ∈ [0, 1, 0, 2, 1, 0, 3, 8] := hz
          simp only [List.mem_cons, List.not_mem_nil, or_false] at hz'
          omega
        have hel' : evs.length ≤ 8 := by
          have : (rgD z).length = z := by unfold rgD; simp
          omega
        refine hr_freezeL 0 10 ?_
        refine hr_set 13 (P := LvP H ws (sizes :: others)) ((ev_tup (ds := []) ea_nil).le fun G v p => ⟨none, (fun e n h => nomatch h), p⟩) ?_
        refine hr_ifT (T := fun _ => True) (N1 := fun L' Γ' => ∃ o12, L' = [⟨pc, ListR (cls.map claD), true⟩, ⟨l, LeftR, false⟩] ∧ Γ' = [some (IsV (.ref l)), some (D (.int (H : Nat))), some (D (szD sizes)), some (D (.list (others.map szD))), some (D (.list (ws.map .str))), some (IsV (.ref pc)), some (D (.int (i : Nat))), some (D (nI s)), some (D (.int (db : Nat))), some (D (.int (cr : Nat))), some (D (.list (evs.map evD))), o11, o12, some (LvP H ws (sizes :: others)), o14]) (et_cmp c_eq (ev_pick cP 1 (ev_v 0) ev_int (by decide) (by decide)) ev_int (rv_exL fun r _ => rv_eqI.le (BoolP.of True.intro))) (fun _ => ?_) (fun _ L' Γ' hN => ?_) fun _ => ?_
        · refine hr_set 12 (P := EvP H ws (sizes :: others)) (ev_call cE ⟨l, H, others, sizes, ws, i⟩ (eok i) (ea_cons (ev_v 0) (ea_cons (ev_tup (ds := [.int (H : Nat), .list (others.map szD), szD sizes]) (ea_cons (ev_v 1) (ea2 (ev_v 3) (ev_v 2)))) (ea2 (ev_v 4) (ev_v 6)))) (.inr ⟨_, rfl, _, List.mem_of_getElem? (i := 1) rfl, rfl, rfl⟩)) ?_
          refine hr_ex 12 rfl fun ev hev => ?_
          refine hr_ifT (T := fun _ => True) (N1 := fun L' Γ' => ∃ o12, L' = [⟨pc, ListR (cls.map claD), true⟩, ⟨l, LeftR, false⟩] ∧ Γ' = [some (IsV (.ref l)), some (D (.int (H : Nat))), some (D (szD sizes)), some (D (.list (others.map szD))), some (D (.list (ws.map .str))), some (IsV (.ref pc)), some (D (.int (i : Nat))), some (D (nI s)), some (D (.int (db : Nat))), some (D (.int (cr : Nat))), some (D (.list (evs.map evD))), o11, o12, some (LvP H ws (sizes :: others)), o14]) ((et_cmp c_notInD (ev_v 12) (ev_v 10) (rv_notInD (ni_evS hws'.sk hev).nice (ni_evs hws'.sk hes).nice).bo).le fun _ _ => True.intro) (fun _ => ?_) (fun _ L' Γ' hN => hr_nil hN) fun _ => hr_nil ⟨_, rfl, rfl⟩
          refine hr_set 13 (P := LvP H ws (sizes :: others)) ((ev_tupP (Ps := [D (evD ev), AnyI]) (ea2 (ev_v 12) (ev_addI (φ := (· = 1)) (ψ := fun r => 0 ≤ r ∧ r < ((9 : Nat) : Int)) (ev_I ev_int) ((ev_pick cP 1 (ev_v 0) ev_int (by decide) (by decide)).le ltP_I) fun _ _ _ _ => True.intro))).le fun G v ⟨a, vs, g1, g2, g3⟩ => ?_) (hr_nil ⟨_, rfl, rfl⟩)
          obtain ⟨x, y, e', q1, r, _, q2⟩ := psa2 g3
          subst e'
          exact ⟨some (ev, r), (fun e n h => by cases h; exact hev), by rw [g1]; exact .tup g2 (.cons q1 (.cons q2 .nil))⟩
        all_goals
          first
            | obtain ⟨o12, hL, hΓ⟩ := hN
              subst hL hΓ
            | skip
          refine hr_set 14 (P := AnyI) (ev_pickLP (Ps := [AnyI, AnyI]) (ev_lstP (ea2 (ev_addI (φ := (· = 1)) (ψ := fun r => 0 ≤ r ∧ r < ((6 : Nat) : Int)) (ev_I ev_int) ((ev_pick cP 1 (ev_v 0) ev_int (by decide) (by decide)).le ltP_I) fun _ _ _ _ => True.intro) (ev_addI (φ := (· = 1)) (ψ := fun r => 0 ≤ r ∧ r < ((40 : Nat) : Int)) (ev_I ev_int) ((ev_pick cP 1 (ev_v 0) ev_int (by decide) (by decide)).le ltP_I) fun _ _ _ _ => True.intro))) (ev_pick cP 1 (ev_v 0) ev_int (by decide) (by decide)) fun Q hQ => by
            have e' : Q = AnyI := by simpa using hQ
            rw [e']; exact .rfl) ?_
          refine hr_ex 13 rfl fun lv hlv => hr_ex 14 rfl fun wi _ => ?_
          refine hr_append 0 5 (ds := cls.map claD) (d := claD ⟨db, cr, s, wi, evs, lv⟩) (ev_tup (ds := clA ⟨db, cr, s, wi, evs, lv⟩) (ea_cons (ev_v 8) (ea_cons (ev_v 9) (ea_cons (ev_v 7) (ea_cons (ev_v 14) (ea2 (ev_tupOf b.tuple (ev_v 10)) (ev_v 13))))))) (hr_nil ⟨cls ++ [⟨db, cr, s, wi, evs, lv⟩], _, _, _, _, _, _, _, _, _, ?_, rfl, ?_, fun c hc => ?_⟩) (by rw [List.length_map]; omega)
          · rw [List.map_append]; rfl
          · rw [List.length_append, hcl]; rfl
          · rcases List.mem_append.mp hc with hc | hc
            · exact hcs c hc
            · have e' : c = ⟨db, cr, s, wi, evs, lv⟩ := by simpa using hc
              rw [e']
              exact ⟨hdb, hcr, ⟨by show (1 : Int) ≤ (s : Int); omega, by show (s : Int) ≤ 100; omega⟩, hel', hes, hlv⟩
  · obtain ⟨cls, o6, o7, o8, o9, o10, o11, o12, o13, o14, hL, hΓ, hcl, hcs⟩ := hI
    subst hL hΓ
    rw [enD_length, List.length_map] at hcl
    refine hr_freezeL 0 5 (hr_ret (ev_tupOf b.tuple (ev_v 5)) fun G v p => ⟨cls, ⟨hcl, hcs⟩, p⟩)
end
end Hw
set_option Elab.async false
set_option linter.all false
set_option maxRecDepth 100000
set_option maxHeartbeats 2000000
namespace Hw
open PySem PySem.Spec L2

structure NewLt (ls : List Letter) (x : Letter) : Prop where
  ok : LtOk x
  nr : 1 ≤ x.nr ∧ x.nr < 900 + 7 * ((ls.length : Int) + 1)
  new : ∀ y ∈ ls, y.name ≠ x.name
  gots : ∀ g ∈ x.gots, ¬ (g.1 = x.house ∧ g.2.1 = x.deal)
  nol : noLst (ltD x) = true
structure PileI (ls : List Letter) : Prop where
  ok : ∀ x ∈ ls, LtOk x
  nr : ∀ x ∈ ls, 1 ≤ x.nr ∧ x.nr < 900 + 7 * (ls.length : Int)
  nod : (ls.map Letter.name).Nodup
  gots : ∀ x ∈ ls, ∀ g ∈ x.gots, ¬ (g.1 = x.house ∧ g.2.1 = x.deal)
theorem PileI.snoc {ls : List Letter} (h : PileI ls) {x : Letter} (n : NewLt ls x) : PileI (ls ++ [x]) := by
  have mem : ∀ {y}, y ∈ ls ++ [x] → y ∈ ls ∨ y = x := fun hy => by
    rcases List.mem_append.mp hy with hy | hy
    · exact .inl hy
    · exact .inr (by simpa using hy)
  refine ⟨fun y hy => ?_, fun y hy => ?_, ?_, fun y hy => ?_⟩
  · rcases mem hy with hy | e
    · exact h.ok y hy
    · rw [e]; exact n.ok
  · rw [List.length_append]
    show 1 ≤ y.nr ∧ y.nr < 900 + 7 * (((ls.length + 1 : Nat)) : Int)
    rcases mem hy with hy | e
    · have := h.nr y hy; omega
    · rw [e]; have := n.nr; omega
  · rw [List.map_append]
    refine List.nodup_append.mpr ⟨h.nod, by simp, fun a ha b hb => ?_⟩
    have eb : b = x.name := by simpa using hb
    obtain ⟨y, hy, e⟩ := List.mem_map.mp ha
    rw [eb, ← e]; exact n.new y hy
  · rcases mem hy with hy | e
    · exact h.gots y hy
    · rw [e]; exact n.gots
theorem noLst_nms : ∀ gs : List Nm, noLstA (gs.map nD) = true
  | [] => rfl
  | g :: gs => by
    show (noLst (nD g) && noLstA (gs.map nD)) = true
    rw [noLst_nms gs]; rfl
theorem noLst_lt {x : Letter} (h : noLst x.deed = true) : noLst (ltD x) = true := by
  show (noLst (.str x.house) && (noLst (.str x.deal) && (noLst (.int x.nr) && (noLst (.int x.prev) && (noLst (.tuple (x.gots.map nD)) && (noLst (.int x.time) && (noLst x.deed && noLstA []))))))) = true
  rw [h]
  show (true && (true && (true && (true && (noLstA (x.gots.map nD) && (true && (true && true))))))) = true
  rw [noLst_nms]; rfl
structure LtA where
  l : Addr
  t : Town
  ls : List Letter
  now : Int
structure LtAOk (a : LtA) : Prop where
  t : TownOk a.t
  p : PileI a.ls
  len : a.ls.length ≤ 40
section
variable {S : Sx} {f : Addr} {fd : FuncData}
def SpLetter : Sp := Spc (fun a : LtA => [⟨a.l, LeftR, false⟩]) LtAOk (fun a => [IsV (.ref a.l), TownP a.t, D (.list (a.ls.map ltD)), D (.int a.now)]) (fun a => Xp (NewLt a.ls) fun x => D (ltD x))
theorem sc_letter : FnScope ["_law_left_here", "_law_town_here", "_law_letters", "_law_now", "_law_names", "_law_deal", "_law_houses", "_law_house", "_law_mine", "_law_prev", "_law_nr", "_law_time", "_law_deed_here", "_law_letter_here"] ["_law_left_here", "_law_town_here", "_law_letters", "_law_now"] (defScope s_law_letter) := ⟨rfl, rfl, rfl, by decide +kernel, rfl, by decide +kernel, by decide +kernel⟩
theorem new_lt {ls mine : List Letter} (hp : PileI ls) {h w : Str} (hmc : ∀ x ∈ ls, isMine h w x = true → x ∈ mine) (hh : Sk h) (hw : Sk w) {nr pv tm : Int} {dd : PyData} (hn : (1 ≤ nr ∧ nr < 900 + 7 * ((ls.length : Int) + 1)) ∧ ∀ x ∈ mine, x.nr ≠ nr) (hd : Ni 1 dd ∧ noLst dd = true) {G : Hp} {v : V} (p : (TupP [D (.str h), D (.str w), D (.int nr), D (.int pv), Xp (GotsOk h w) fun gs => D (.tuple (gs.map nD)), D (.int tm), D dd]).p G v) : (Xp (NewLt ls) fun x => D (ltD x)).p G v := by
  obtain ⟨a, vs, h1, h2, h3⟩ := p
  cases h3 with
  | cons q1 t1 => cases t1 with
    | cons q2 t2 => cases t2 with
      | cons q3 t3 => cases t3 with
        | cons q4 t4 => cases t4 with
          | cons q5 t5 =>
            obtain ⟨x, y, e, q6, q7⟩ := psa2 t5
            subst e
            obtain ⟨gs, hg, q5⟩ := q5
            refine ⟨⟨h, w, nr, pv, gs, tm, dd⟩, ⟨⟨hh, hw, fun g hg' => (hg.2 g hg').1, hd.1, hg.1⟩, hn.1, fun y hy e => ?_, fun g hg' => (hg.2 g hg').2, noLst_lt hd.2⟩, by rw [h1]; exact .tup h2 (.cons q1 (.cons q2 (.cons q3 (.cons q4 (.cons q5 (.cons q6 (.cons q7 .nil)))))))⟩
            have e' : (y.house, y.deal, y.nr) = (h, w, nr) := e
            have e1 : y.house = h := congrArg Prod.fst e'
            have e2 : y.deal = w := congrArg (fun z => z.2.1) e'
            have e3 : y.nr = nr := congrArg (fun z => z.2.2) e'
            exact hn.2 y (hmc y hy (by unfold isMine; rw [decide_eq_true e1, decide_eq_true e2]; rfl)) e3
/-- max(0, an int) -/
theorem ev_maxI {F : Fx} {L : List Rs} {Γ : Ty} {b : Expr} {pos p1 p2 : Pos} {j : Nat} {φ : Int → Prop} (hm : F.mg "max" = none) (hb : Ev F L Γ b (IntP φ)) (hg : F.sc.names.lookup ("max" : Str) = some .globalImplicit := by rfl) (hs : ∀ env, starEach [.Constant (.int 0) j p2, b] env = (false, eval (.Constant (.int 0) j p2) env) :: starEach [b] env := by intro _; rfl) (hs2 : ∀ env, starEach [b] env = (false, eval b env) :: starEach [] env := by intro _; rfl) (hpl : ∀ env, (backTo pos (starEach [b] env)).any (·.1) = false := by intro _; rfl) :
    Ev F L Γ (.Call (.Name "max" p1) [.Constant (.int 0) j p2, b] [] pos) AnyI :=
  ev_callB (fun X hX => call_max2 hX.calm) hm (ea2 ev_int hb hs hs2) (fun E Γ σ G H T vs q K k => by
    obtain ⟨v, w, rfl, p1, z, _, p2⟩ := psa2 q
    rw [p1.int_eq, Dg.int_eq p2]
    exact ⟨0, z, rfl, k _ G H .refl T ⟨_, True.intro, .int _⟩⟩) PyProof.Rows.boot_max hg (by decide) (by decide) hs hpl
theorem deal_key {t : Town} : (encG sK dealD t.deals).map (·.1) = (t.deals.map (·.1)).map Sum.inr := by unfold encG; rw [List.map_map, List.map_map]; rfl
theorem ok_letter (Fd : FnP S "_law_letter" s_law_letter f fd) (b : Bi S) (cP : Cl S "_law_pick" 1 SpPick) (cL : Cl S "_law_last" 1 SpLast) (cD : Cl S "_law_deed" 2 SpDeed) (cG : Cl S "_law_gots" 2 SpGots) : OkF S 3 f fd ["_law_left_here", "_law_town_here", "_law_letters", "_law_now"] SpLetter := by
  refine fn_ok Fd sc_letter (fun _ => rfl) (hloc2 (g := LtA.l)) fun ⟨l, t, ls, now⟩ hok => ?_
  obtain ⟨ht, hp, hlen⟩ := hok
  have ht' : TownOk t := ht
  have hp' : PileI ls := hp
  have hlen' : ls.length ≤ 40 := hlen
  have hne := ht'.ne
  refine hr_gam (Γ' := [some (IsV (.ref l)), some (TownP t), some (D (.list (ls.map ltD))), some (D (.int now)), none, none, none, none, none, none, none, none, none, none]) rfl ?_
  refine hr_set 4 (P := Xp (fun ys : List Str => ys.Perm (t.deals.map (·.1))) fun ys => D (.list (ys.map .str))) (ev_sortedS (P := DealsP t) (kvs := encG sK dealD t.deals) b.sorted (ev_ixTP (Ps := [D (.int t.span), DealsP t]) (n := 1) (ev_v 1) ev_int rfl) isDK_G deal_key (by rw [List.length_map]; omega)) ?_
  refine hr_ex 4 rfl fun names hnm => ?_
  have hnl : names.length = t.deals.length := by rw [hnm.length_eq, List.length_map]
  refine hr_set 5 (P := Xp (fun w : Str => ∃ d, lookG t.deals w = some d) fun w => D (.str w)) (ev_pickL (ds := names.map .str) (ev_v 4) (ev_pick cP 0 (ev_v 0) (ev_lenL (ds := names.map .str) b.len (ev_v 4)) (by rw [List.length_map]; omega) (by rw [List.length_map]; omega)) fun dd hd => ?_) ?_
  · obtain ⟨w, hw, rfl⟩ := List.mem_map.mp hd
    have := lookG_isSome.mpr (hnm.mem_iff.mp hw)
    exact Xp.of (P := fun w => D (.str w)) (x := w) (Option.isSome_iff_exists.mp this)
  refine hr_ex 5 rfl fun w hw => ?_
  obtain ⟨d, hd⟩ := hw
  have dk := ht'.ok w d hd
  have hhs := dk.hs
  refine hr_set 6 (P := D (sD d.houses)) (ev_ixT (ds := dlA d) (d := sD d.houses) (ev_deal (ev_v 1) (ev_v 5) hd) ev_int rfl) ?_
  have hbell : Sk (Str.ofString "bell") := sk_of
  have hstr : Sk (Str.ofString "stranger") := sk_of
  refine hr_set 7 (P := Xp Sk fun h => D (.str h)) (ev_pickT (ds := ((d.houses ++ d.houses) ++ [Str.ofString "bell", Str.ofString "stranger"]).map .str) (Ev.eq (ev_catT (ds := (d.houses ++ d.houses).map .str) (es := [.str "bell", .str "stranger"]) (Ev.eq (ev_catT (ds := d.houses.map .str) (es := d.houses.map .str) (ev_v 6) (ev_v 6) (by rw [List.length_map]; omega)) (by rw [List.map_append])) (ev_tup (ds := [.str "bell", .str "stranger"]) (ea2 ev_str ev_str)) (by rw [List.length_map, List.length_append]; simp; omega)) (by simp only [List.map_append, List.map_cons, List.map_nil])) ((ev_pick cP 0 (many := 2 * d.houses.length + 2) (ev_v 0) (Ev.eq (ev_addN (n := 2 * d.houses.length) (m := 2) (Ev.eq (ev_mul (i := 2) (j := (d.houses.length : Nat)) ev_int (Ev.eq (ev_lenT (ds := d.houses.map .str) b.len (ev_v 6)) (by rw [List.length_map])) (.inl (by decide))) (by congr 1)) ev_int) rfl) (by omega) (by omega)).le (ltP_le (by rw [List.length_map, List.length_append, List.length_append]; simp; omega))) fun dd hdd => ?_) ?_
  · obtain ⟨x, hx, rfl⟩ := List.mem_map.mp hdd
    refine Xp.of (P := fun h => D (.str h)) (x := x) ?_
    rcases List.mem_append.mp hx with hx | hx
    · rcases List.mem_append.mp hx with hx | hx <;> exact dk.hk x hx
    · simp only [List.mem_cons, List.not_mem_nil, or_false] at hx
      rcases hx with rfl | rfl
      · exact hbell
      · exact hstr
  refine hr_ex 7 rfl fun h hh => ?_
  refine hr_gam (Γ' := [some (IsV (.ref l)), some (TownP t), some (D (.list (ls.map ltD))), some (D (.int now)), some (D (.list (names.map .str))), some (D (.str w)), some (D (sD d.houses)), some (D (.str h)), none, none, none, none, none, none]) rfl ?_
  refine hr_setLc 8 [("_law_letter_here", 13)] (xs := ls) (enc := ltD) (T := fun l c => c = isMine h w l) (P := fun l => D (ltD l)) (itr_L (ev_v 2)) (by omega) (fun i x hi => ?_) (hr_ty 8 rfl lc_filD ?_)
  · exact ⟨_, tg_name 13, ets_one (mine_lc (hp'.ok x (List.mem_of_getElem? hi)) hh dk.wk (ev_slTto (ds := ltA x) (n := 2) (ev_v 13) ev_int) (ev_tup (ds := [.str h, .str w]) (ea2 (ev_v 7) (ev_v 5)))), fun _ => ev_v 13⟩
  have hmm : ∀ x ∈ ls.filter (isMine h w), x ∈ ls := fun x hx => (List.mem_filter.mp hx).1
  have hmc : ∀ x ∈ ls, isMine h w x = true → x ∈ ls.filter (isMine h w) := fun x hx h => List.mem_filter.mpr ⟨hx, h⟩
  have hml := List.length_filter_le (isMine h w) ls
  generalize ls.filter (isMine h w) = mine at hmm hmc hml ⊢
  refine hr_set 9 (P := AnyI) (ev_call cL (ls, h, w) ⟨hp'.ok, by show ls.length ≤ 1000; omega, hh, dk.wk⟩ (ea_cons (ev_v 2) (ea2 (ev_v 7) (ev_v 5)))) ?_
  refine hr_gam (Γ' := [some (IsV (.ref l)), some (TownP t), some (D (.list (ls.map ltD))), some (D (.int now)), some (D (.list (names.map .str))), some (D (.str w)), some (D (sD d.houses)), some (D (.str h)), some (D (.list (mine.map ltD))), some AnyI, none, none, none, none]) rfl ?_
  have hmok : ∀ x ∈ mine, LtOk x := fun x hx => hp'.ok x (hmm x hx)
  refine hr_ifT (T := fun c => c = true → mine ≠ []) (N1 := fun L' Γ' => L' = [⟨l, LeftR, false⟩] ∧ Γ' = [some (IsV (.ref l)), some (TownP t), some (D (.list (ls.map ltD))), some (D (.int now)), some (D (.list (names.map .str))), some (D (.str w)), some (D (sD d.houses)), some (D (.str h)), some (D (.list (mine.map ltD))), some AnyI, none, none, none, none]) (et_w (ew_and (T1 := fun c => c = true → mine ≠ []) ((et_cmp c_neD (ev_v 8) (ev_lst (ds := []) ea_nil) (rv_neD (lts_ni hmok).nice ni_nilL.nice).bo).le fun c hc hct => ?_) (fun _ => ew_and1 (T := fun _ => True) (et_cmp c_eq (ev_pick cP 0 (ev_v 0) ev_int (by decide) (by decide)) ev_int (rv_exL fun r _ => rv_eqI.le (BoolP.of True.intro)))) fun c hc hct => ?_)) (fun hT => ?_) (fun _ L' Γ' hN => ?_) fun _ => ?_
  · rw [hc, eqv_emp] at hct
    intro e
    rw [e] at hct
    exact absurd hct (by decide)
  · rcases hc with ⟨h1, _⟩ | ⟨_, h2⟩
    · exact h1 rfl
    · rw [h2] at hct; cases hct
  · have hmne := hT rfl
    have hmp : 0 < mine.length := List.length_pos_iff.mpr hmne
    refine hr_set 9 (P := AnyI) (ev_pickLP (Ps := [AnyI, AnyI]) (ev_lstP (ea2 (ev_int.le (IntP.of True.intro)) (ev_ixTX (φ := fun x : Letter => x ∈ mine) (ds := fun x => ltA x) (ev_pickL (ds := mine.map ltD) (ev_v 8) (ev_pick cP 0 (ev_v 0) (ev_lenL (ds := mine.map ltD) b.len (ev_v 8)) (by rw [List.length_map]; omega) (by rw [List.length_map]; omega)) fun dd hdd => ?_) ev_int fun z hz => ⟨.int z.nr, rfl, IntP.of True.intro⟩))) (ev_pick cP 0 (ev_v 0) ev_int (by decide) (by decide)) fun Q hQ => ?_) (hr_nil ⟨rfl, rfl⟩)
    · obtain ⟨x, hx, rfl⟩ := List.mem_map.mp hdd
      exact Xp.of (P := fun x : Letter => D (.tuple (ltA x))) (x := x) hx
    · have e : Q = AnyI := by simpa using hQ
      rw [e]; exact .rfl
  all_goals
    first
      | obtain ⟨hL, hΓ⟩ := hN
        subst hL hΓ
      | skip
    refine hr_set 10 (P := IntP fun z => 1 ≤ z ∧ z < 900 + 7 * (ls.length : Int)) ((ev_add (i := (mine.length : Nat)) (j := 1) (Ev.eq (ev_lenL (ds := mine.map ltD) b.len (ev_v 8)) (by rw [List.length_map])) ev_int).le (IntP.of ⟨by omega, by omega⟩)) ?_
    refine hr_ifT (T := fun _ => True) (N1 := fun L' Γ' => L' = [⟨l, LeftR, false⟩] ∧ Γ' = [some (IsV (.ref l)), some (TownP t), some (D (.list (ls.map ltD))), some (D (.int now)), some (D (.list (names.map .str))), some (D (.str w)), some (D (sD d.houses)), some (D (.str h)), some (D (.list (mine.map ltD))), some AnyI, some (IntP fun z => 1 ≤ z ∧ z < 900 + 7 * (ls.length : Int)), none, none, none]) (et_cmp c_eq (ev_pick cP 0 (ev_v 0) ev_int (by decide) (by decide)) ev_int (rv_exL fun r _ => rv_eqI.le (BoolP.of True.intro))) (fun _ => hr_set 10 (P := IntP fun z => 1 ≤ z ∧ z < 900 + 7 * (ls.length : Int)) ((ev_add (i := 50) ev_int (ev_mul (i := 7) (j := (ls.length : Nat)) ev_int (Ev.eq (ev_lenL (ds := ls.map ltD) b.len (ev_v 2)) (by rw [List.length_map])) (.inl (by decide)))).le (IntP.of ⟨by omega, by omega⟩)) (hr_nil ⟨rfl, rfl⟩)) (fun _ L' Γ' hN => ?_) fun _ => ?_
    all_goals
      first
        | obtain ⟨hL, hΓ⟩ := hN
          subst hL hΓ
        | refine hr_gam (Γ' := [some (IsV (.ref l)), some (TownP t), some (D (.list (ls.map ltD))), some (D (.int now)), some (D (.list (names.map .str))), some (D (.str w)), some (D (sD d.houses)), some (D (.str h)), some (D (.list (mine.map ltD))), some AnyI, some (IntP fun z => 1 ≤ z ∧ z < 900 + 7 * (ls.length : Int)), none, none, none]) rfl ?_
      refine hr_ex 10 rfl fun nr hnr => ?_
      obtain ⟨hnr1, hnr2⟩ := hnr
      refine hr_if (N1 := fun L' Γ' => L' = [⟨l, LeftR, false⟩] ∧ Γ' = [some (IsV (.ref l)), some (TownP t), some (D (.list (ls.map ltD))), some (D (.int now)), some (D (.list (names.map .str))), some (D (.str w)), some (D (sD d.houses)), some (D (.str h)), some (D (.list (mine.map ltD))), some AnyI, some (IntP fun z => (1 ≤ z ∧ z < 900 + 7 * ((ls.length : Int) + 1)) ∧ ∀ x ∈ mine, x.nr ≠ z), none, none, none]) (N2 := fun L' Γ' => L' = [⟨l, LeftR, false⟩] ∧ Γ' = [some (IsV (.ref l)), some (TownP t), some (D (.list (ls.map ltD))), some (D (.int now)), some (D (.list (names.map .str))), some (D (.str w)), some (D (sD d.houses)), some (D (.str h)), some (D (.list (mine.map ltD))), some AnyI, some (IntP fun z => (1 ≤ z ∧ z < 900 + 7 * ((ls.length : Int) + 1)) ∧ ∀ x ∈ mine, x.nr ≠ z), none, none, none]) (T := fun c => c = decide (nr ∈ mine.map Letter.nr)) (et_cmp c_in (ev_v 10) ((ev_lc [("_law_letter_here", 13)] (xs := mine) (enc := ltD) (T := fun _ c => c = true) (P := fun x => D (.int x.nr)) (itr_L (ev_v 8)) (by omega) fun i x hi => ⟨_, tg_name 13, ets_nil, fun _ => ev_ixT (ds := ltA x) (d := .int x.nr) (ev_v 13) ev_int rfl⟩).le (lc_mapD.trans (by rw [show mine.map (fun x => PyData.int x.nr) = (mine.map Letter.nr).map PyData.int from by rw [List.map_map]; rfl]; exact .rfl))) rv_inI.bo) (fun _ => ?_) (fun hT => ?_) (fun _ L' Γ' hN => ?_) (fun _ L' Γ' hN => ?_)
      · refine hr_set 10 (P := IntP fun z => (1 ≤ z ∧ z < 900 + 7 * ((ls.length : Int) + 1)) ∧ ∀ x ∈ mine, x.nr ≠ z) ((ev_add (i := 900) ev_int (ev_mul (i := 7) (j := (ls.length : Nat)) ev_int (Ev.eq (ev_lenL (ds := ls.map ltD) b.len (ev_v 2)) (by rw [List.length_map])) (.inl (by decide)))).le (IntP.of ⟨⟨by omega, by omega⟩, fun x hx => by have := (hp'.nr x (hmm x hx)).2; omega⟩)) (hr_nil ⟨rfl, rfl⟩)
      · have hni : nr ∉ mine.map Letter.nr := by simpa using hT.symm
        refine hr_ty 10 rfl (IntP.of (φ := fun z => (1 ≤ z ∧ z < 900 + 7 * ((ls.length : Int) + 1)) ∧ ∀ x ∈ mine, x.nr ≠ z) (z := nr) ⟨⟨hnr1, by omega⟩, fun x hx e => hni (List.mem_map.mpr ⟨x, hx, e⟩)⟩) (hr_nil ⟨rfl, rfl⟩)
      all_goals
        obtain ⟨hL, hΓ⟩ := hN
        subst hL hΓ
        refine hr_set 11 (P := AnyI) (ev_if (T := fun _ => True) (et_cmp c_gt (ev_pick cP 0 (ev_v 0) ev_int (by decide) (by decide)) ev_int (rv_exL fun r _ => rv_gt.le (BoolP.of True.intro))) (fun _ => (ev_v 3).le (IntP.of True.intro)) fun _ => ev_maxI b.max (ev_subI (φ := fun _ => True) (ψ := fun r => 0 ≤ r ∧ r < ((9 : Nat) : Int)) (χ := fun _ => True) ((ev_sub (i := now) (j := 1) (ev_v 3) ev_int).le (IntP.of True.intro)) ((ev_pick cP 0 (ev_v 0) ev_int (by decide) (by decide)).le ltP_I) fun _ _ _ _ => True.intro)) ?_
        refine hr_set 12 (P := DeedP) (ev_call cD (l, t, w, d) dk (ea2 (ev_v 0) (ev_deal (ev_v 1) (ev_v 5) hd)) (.inr ⟨_, rfl, _, List.mem_of_getElem? (i := 0) rfl, rfl, rfl⟩)) ?_
        refine hr_ex 9 rfl fun pv _ => hr_ex 10 rfl fun nr2 hn2 => hr_ex 11 rfl fun tm _ => hr_ex 12 rfl fun dd hdd => ?_
        refine hr_ret (ev_tupP (Ps := [D (.str h), D (.str w), D (.int nr2), D (.int pv), Xp (GotsOk h w) fun gs => D (.tuple (gs.map nD)), D (.int tm), D dd]) (ea_cons (ev_v 7) (ea_cons (ev_v 5) (ea_cons (ev_v 10) (ea_cons (ev_v 9) (ea_cons (ev_call cG (l, ls, h, w) ⟨hp'.ok, by show ls.length ≤ 1000; omega, hh, dk.wk⟩ (ea_cons (ev_v 0) (ea_cons (ev_v 2) (ea2 (ev_v 7) (ev_v 5)))) (.inr ⟨_, rfl, _, List.mem_of_getElem? (i := 0) rfl, rfl, rfl⟩)) (ea2 (ev_v 11) (ev_v 12)))))))) fun G v p => new_lt hp' hmc hh dk.wk hn2 hdd p
end
end Hw
set_option Elab.async false
set_option linter.all false
set_option maxRecDepth 100000
set_option maxHeartbeats 2000000
namespace Hw
open PySem PySem.Spec L2

section
variable {F : Fx} {L : List Rs} {Γ : Ty} {e a b c o tg iter elt : Expr} {es ts ifs : List Expr} {P Q R : MP} {Ps : List MP} {pos spos p1 p2 px py lp ap cp tp : Pos} {N : List Rs → Ty → Prop} {rest body sa : List Stmt} {x y m fn : Str}
theorem itr_LX {β : Type} {φ : β → Prop} {ds : β → List PyData} (h : Ev F L Γ iter (Xp φ fun z => D (.list (ds z)))) : ItrX F L Γ tg iter φ ds := by
  refine ⟨iList F.K (WE F iter), fun X hX => by rw [← hX.K]; exact pi_list (pe_we hX), fun E σ G H T R k => ?_⟩
  refine h E σ G H T _ fun v G1 H1 n1 T1 ⟨z, hz, p1⟩ => ?_
  obtain ⟨a, xs, rfl, h1, h2⟩ := Dg.lst_of p1
  have at_ : ∀ G2 H2, Same G1 G2 → Sub G2 H2 → SqL F.K H2 a xs := fun G2 H2 s sb => SqL.of (sb.lst (s _ _ h1))
  refine ⟨a, rfl, ⟨xs, at_ G1 H1 (Same.refl _) T1.sub⟩, k z _ G1 H1 hz n1 T1 ⟨fun i G2 H2 s sb hi => ?_, fun G2 H2 s sb => ⟨xs, at_ _ _ s sb, by rw [h2.length]; exact Nat.le_refl _⟩, fun i G2 H2 x H3 s sb y d hd => ?_⟩⟩
  · exact ⟨xs, xs[i]'(by rw [h2.length]; exact hi), at_ _ _ s sb, List.getElem?_eq_getElem _⟩
  · obtain ⟨e, y⟩ := y
    have q := y xs (at_ _ _ s sb)
    obtain ⟨d', e1, e2⟩ := h2.get' q
    rw [hd] at e1
    cases e1
    rw [e]
    exact yld_same sb (Dg.mono s _ _ e2)
/-- f(e, ..), the arguments known up to a choice -/
theorem ev_callX {α : Type} {Lf : α → List Rs} {ok : α → Prop} {A : α → List MP} {R' : α → MP} {j : Nat} (C : Cl F.toSx x j (Spc Lf ok A R')) (ha : Ea F L Γ (e :: es) Ps) (hz : ∀ G vs, PsA G vs Ps → ∃ z, ok z ∧ PsA G vs (A z) ∧ (Lf z = [] ∨ ∃ r, Lf z = [r] ∧ ∃ r' ∈ L, r'.a = r.a ∧ r'.φ = r.φ) ∧ (R' z).le Q) (hj : j ≤ F.k := by exact Nat.le_of_ble_eq_true rfl)
    (hg : F.sc.names.lookup x = some .globalImplicit := by rfl) (hdb : (x == ("__debug__" : Str)) = false := by decide) (he : ∀ env, starEach (e :: es) env = (false, eval e env) :: starEach es env := by intro _; rfl) (hpl : ∀ env, (backTo pos (starEach es env)).any (·.1) = false := by intro _; rfl) :
    Ev F L Γ (.Call (.Name x p1) (e :: es) [] pos) Q := fun E σ G H T K k => by
  obtain ⟨f, fd, ps, Fn, hm, hk, hb⟩ := C.ex
  refine we_pe (t := tCall (Spc Lf ok A R') [] E0 (WA F (e :: es))) (fun X hX => ?_) ?_
  · have Fn' : FnOk X.prog X.w X.K X.mg X.base CX0 j f fd ps (Spc Lf ok A R') := by rw [hX.prog, hX.w, hX.K, hX.mg, hX.base]; exact Fn
    exact pe_call Fn' (hX.room.mono hj) (hX.gl hg) (by rw [hX.mg]; exact hm) (by rw [hX.K]; exact hk) (by rw [hX.K]; exact hb) .nil pass0 (pa_wa hX) hdb (he _) (hpl _)
  · refine ha E σ G H T _ fun vs G1 H1 n1 T1 q1 => ?_
    obtain ⟨z, hok, hA, hL, hq⟩ := hz G1 vs q1
    rw [List.append_nil]
    exact call_core z hok hL E σ G1 H1 T1 vs hA K E0 fun v G2 H2 n2 T2 p2 => k v G2 H2 (n1.trans T.live T1.live n2) T2 (hq _ _ p2)
/-- x = a + b, a local list -/
theorem hr_newCat (i : Nat) {ds es' : List PyData} (ha : Ev F L Γ a (D (.list ds))) (hb : Ev F L Γ b (D (.list es'))) (hl : ds.length + es'.length ≤ 100000) (k : ∀ p, Hr F (⟨p, ListR (ds ++ es'), true⟩ :: L) (Γ.set i (some (IsV (.ref p)))) rest N R) (hN : F.N[i]? = some x := by rfl) (hx : Lo F x := by first | exact Or.inl rfl | exact Or.inr ⟨rfl, rfl⟩)
    (hs : ∀ env, swapsWith (.BinOp a .Add b lp) (some (.Name x px)) pos.line env = pure false := by intro _; rfl) : Hr F L Γ (.Assign [.Name x px] (.BinOp a .Add b lp) pos :: rest) N R := fun E σ G H T D k1 k2 => by
  refine ws_cons (w1_ps (t := tAsg (tOp rCat (WE F a) (WE F b)) (gName i)) (fun X hX => ps_set (by rw [hX.N]; exact hX.nd) (by rw [hX.N]; exact hN) (hX.loc hx.loc) (pe_op op_cat (pe_we hX) (pe_we hX)) (hs _) (hX.fnl hx)) ?_)
  refine ha E σ G H T _ fun v G1 H1 n1 T1 p1 => hb E σ G1 H1 T1 _ fun w G2 H2 n2 T2 p2 => ?_
  obtain ⟨x', xs, rfl, h1, q1⟩ := Dg.lst_of ((Hw.D _).mono n2.gg p1)
  obtain ⟨y', ys, rfl, h2, q2⟩ := p2.lst_of
  have l1 := q1.length
  have l2 := q2.length
  exact ⟨x', y', xs, ys, rfl, rfl, T2.sub.lst h1, T2.sub.lst h2, small (by omega), fun p hp => k p E _ G2 _ ((T2.newR (φ := ListR (ds ++ es')) hp ⟨_, rfl, q1.append q2⟩).set i rfl) D k1 k2⟩
theorem sel_prop {α : Type} {T : α → Bool → Prop} {P : α → MP} : ∀ {xs : List α} {ps : List MP}, SelL T P xs ps → ∃ ys : List α, ys.Sublist xs ∧ (∀ y ∈ ys, T y true) ∧ ps = ys.map P
  | _, _, .nil => ⟨[], .slnil, fun y h => absurd h (by simp), rfl⟩
  | _, _, @SelL.yes _ _ _ x xs ps hx t => by
    obtain ⟨ys, h1, h2, h3⟩ := sel_prop t
    exact ⟨x :: ys, h1.cons₂ x, fun y hy => by
      rcases List.mem_cons.mp hy with e | hy
      · rw [e]; exact hx
      · exact h2 y hy, by rw [h3, List.map_cons]⟩
  | _, _, @SelL.no _ _ _ x xs ps _ t => by
    obtain ⟨ys, h1, h2, h3⟩ := sel_prop t
    exact ⟨ys, h1.cons x, h2, h3⟩
theorem lc_propD {α : Type} {T : α → Bool → Prop} {f : α → PyData} {xs : List α} : (Xp (SelL T (fun x => D (f x)) xs) LstP).le (Xp (fun ys : List α => ys.Sublist xs ∧ ∀ y ∈ ys, T y true) fun ys => D (.list (ys.map f))) := fun G v ⟨ps, hs, a, vs, h1, h2, h3⟩ => by
  obtain ⟨ys, h4, h6, h5⟩ := sel_prop hs
  rw [h5, mapD] at h3
  exact ⟨ys, ⟨h4, h6⟩, lstP_D G v ⟨a, vs, h1, h2, h3⟩⟩
end
section
variable {S : Sx} {f : Addr} {fd : FuncData}
/-! ### the pile -/
structure PlA2 where
  ns : List Int
  t : Town
  many : Nat
structure PlA2Ok (a : PlA2) : Prop where
  t : TownOk a.t
  m : a.many ≤ 30
  n : a.ns.length ≤ 63
def PileR (ls : List Letter) : Prop := PileI ls ∧ ls.length ≤ 30
def SpPile (K : PySem.W.Frag) : Sp := Spc (NoR (α := PlA2)) PlA2Ok (fun a => [ScrP K a.ns, TownP a.t, D (.int (a.many : Nat))]) (fun _ => Xp PileR fun ls => D (.list (ls.map ltD)))
theorem sc_pile : FnScope ["_law_script", "_law_town_here", "_law_many", "_law_letters", "_law_now", "_law_deal", "_law_house", "_law_k", "_law_left_here"] ["_law_script", "_law_town_here", "_law_many"] (defScope s_law_pile) := ⟨rfl, rfl, rfl, by decide +kernel, rfl, by decide +kernel, by decide +kernel⟩
structure FirstI (ls : List Letter) (many : Nat) (ds : List Str) (w : Str) (hs : List Str) : Prop where
  p : PileI ls
  len : ls.length ≤ many
  at_ : ∀ x ∈ ls, x.deal ∈ ds ∨ (x.deal = w ∧ x.house ∈ hs)
theorem ok_pile (Fd : FnP S "_law_pile" s_law_pile f fd) (b : Bi S) (cL : Cl S "_law_left" 2 (SpLeft S.K)) (cP : Cl S "_law_pick" 1 SpPick) (cT : Cl S "_law_letter" 3 SpLetter) : OkF S 4 f fd ["_law_script", "_law_town_here", "_law_many"] (SpPile S.K) := by
  refine fn_ok Fd sc_pile (fun _ => rfl) noR fun ⟨ns, t, many⟩ hok => ?_
  obtain ⟨ht, hm, hn⟩ := hok
  have ht' : TownOk t := ht
  have hm' : many ≤ 30 := hm
  have hne := ht'.ne
  refine hr_newL 3 fun pl => ?_
  refine hr_set 4 (P := D (.int 0)) ev_int ?_
  refine hr_gam (Γ' := [some (ScrP S.K ns), some (TownP t), some (D (.int (many : Nat))), some (IsV (.ref pl)), some (D (.int 0)), none, none, none, none]) rfl ?_
  refine hr_forX (φ := fun ys : List Str => ys.Perm (t.deals.map (·.1))) (ds := fun ys => ys.map .str) (itr_LX (ev_sortedS (P := DealsP t) (kvs := encG sK dealD t.deals) b.sorted (ev_ixTP (Ps := [D (.int t.span), DealsP t]) (n := 1) (ev_v 1) ev_int rfl) isDK_G deal_key (by rw [List.length_map]; omega))) (fun ys i L' Γ' => ∃ (ls : List Letter) (o5 o6 : Option MP), L' = [⟨pl, ListR (ls.map ltD), true⟩] ∧ Γ' = [some (ScrP S.K ns), some (TownP t), some (D (.int (many : Nat))), some (IsV (.ref pl)), some (D (.int 0)), o5, o6, none, none] ∧ FirstI ls many (ys.take i) (Str.ofString "") []) (fun ys hy => ⟨[], _, _, rfl, rfl, ⟨⟨fun x h => absurd h (by simp), fun x h => absurd h (by simp), List.nodup_nil, fun x h => absurd h (by simp)⟩, Nat.zero_le _, fun x h => absurd h (by simp)⟩⟩) (fun ys hy i dd L' Γ' hd hI => ?_) fun ys hy L' Γ' hI => ?_
  · obtain ⟨ls, o5, o6, hL, hΓ, hI⟩ := hI
    subst hL hΓ
    rw [List.getElem?_map] at hd
    cases q : ys[i]? with
    | none => rw [q] at hd; cases hd
    | some w =>
      rw [q] at hd
      cases hd
      have hyn : ys.Nodup := hy.nodup_iff.mpr ht'.nod
      obtain ⟨d, hd⟩ := Option.isSome_iff_exists.mp (lookG_isSome.mpr (hy.mem_iff.mp (List.mem_of_getElem? q)))
      have dk := ht'.ok w d hd
      have hwn : w ∉ ys.take i := fun hw => by
        obtain ⟨j, hj, e⟩ := List.mem_iff_getElem.mp hw
        rw [List.length_take] at hj
        rw [List.getElem_take] at e
        have := (List.getElem?_inj (i := j) (j := i) (by omega) hyn).mp (by rw [q, List.getElem?_eq_getElem (by omega), e])
        omega
      refine ⟨[5], _, tg_name 5, ?_⟩
      refine hr_for (ds := d.houses.map .str) (itr_T (ev_ixT (ds := dlA d) (d := sD d.houses) (ev_deal (ev_v 1) (ev_v 5) hd) ev_int rfl)) (fun j L' Γ' => ∃ (ls : List Letter) (o6 : Option MP), L' = [⟨pl, ListR (ls.map ltD), true⟩] ∧ Γ' = [some (ScrP S.K ns), some (TownP t), some (D (.int (many : Nat))), some (IsV (.ref pl)), some (D (.int 0)), some (D (.str w)), o6, none, none] ∧ FirstI ls many (ys.take i) w (d.houses.take j)) ⟨ls, _, rfl, rfl, ⟨hI.p, hI.len, fun x hx => by
        rcases hI.at_ x hx with h | ⟨_, h⟩
        · exact .inl h
        · exact absurd h (by simp)⟩⟩ (fun j dd L' Γ' hd2 hI => ?_) fun L' Γ' hI => ?_
      · obtain ⟨ls, o6, hL, hΓ, hI⟩ := hI
        subst hL hΓ
        rw [List.getElem?_map] at hd2
        cases q2 : d.houses[j]? with
        | none => rw [q2] at hd2; cases hd2
        | some h =>
          rw [q2] at hd2
          cases hd2
          have hhn : h ∉ d.houses.take j := fun hw => by
            obtain ⟨k, hk, e⟩ := List.mem_iff_getElem.mp hw
            rw [List.length_take] at hk
            rw [List.getElem_take] at e
            have := (List.getElem?_inj (i := k) (j := j) (by omega) dk.hn).mp (by rw [q2, List.getElem?_eq_getElem (by omega), e])
            omega
          have htk : d.houses.take (j + 1) = d.houses.take j ++ [h] := by rw [List.take_add_one, q2]; rfl
          have hlen := hI.len
          refine ⟨[6], _, tg_name 6, ?_⟩
          refine hr_ifT (N1 := fun L' Γ' => ∃ (ls : List Letter) (o6 : Option MP), L' = [⟨pl, ListR (ls.map ltD), true⟩] ∧ Γ' = [some (ScrP S.K ns), some (TownP t), some (D (.int (many : Nat))), some (IsV (.ref pl)), some (D (.int 0)), some (D (.str w)), o6, none, none] ∧ FirstI ls many (ys.take i) w (d.houses.take (j + 1))) (et_cmp c_lt (ev_lenR 0 b.len (ev_v 3)) (ev_v 2) rv_lt.bo) (fun hT => ?_) (fun _ L' Γ' hN => hr_nil hN) fun _ => hr_nil ⟨ls, _, rfl, rfl, hI.p, hI.len, fun x hx => ?_⟩
          · have hlt : ls.length < many := by
              have : ((ls.map ltD).length : Int) < (many : Int) := by simpa using hT.symm
              rw [List.length_map] at this
              omega
            have hnew : NewLt ls ⟨h, w, 1, 0, [], 0, joinD⟩ := ⟨⟨dk.hk h (List.mem_of_getElem? q2), dk.wk, fun g hg => absurd hg (by simp), ni_join, Nat.zero_le _⟩, ⟨(show (1 : Int) ≤ 1 by decide), by show (1 : Int) < 900 + 7 * ((ls.length : Int) + 1); omega⟩, fun y hy e => by
              have e1 : y.house = h := congrArg Prod.fst e
              have e2 : y.deal = w := congrArg (fun z => z.2.1) e
              rcases hI.at_ y hy with g | ⟨_, g⟩
              · rw [e2] at g; exact hwn g
              · rw [e1] at g; exact hhn g, fun g hg => absurd hg (by simp), rfl⟩
            refine hr_append 0 3 (ds := ls.map ltD) (d := ltD ⟨h, w, 1, 0, [], 0, joinD⟩) (ev_tup (ds := ltA ⟨h, w, 1, 0, [], 0, joinD⟩) (ea_cons (ev_v 6) (ea_cons (ev_v 5) (ea_cons ev_int (ea_cons ev_int (ea_cons (ev_tup (ds := []) ea_nil) (ea2 (ev_v 4) (ev_tup (ds := [.str "join"]) (ea1 ev_str))))))))) (hr_nil ⟨ls ++ [⟨h, w, 1, 0, [], 0, joinD⟩], _, ?_, rfl, hI.p.snoc hnew, ?_, fun x hx => ?_⟩) (by rw [List.length_map]; omega)
            · rw [List.map_append]; rfl
            · rw [List.length_append]; show ls.length + 1 ≤ many; omega
            · rw [htk]
              rcases List.mem_append.mp hx with hx | hx
              · rcases hI.at_ x hx with g | ⟨g1, g2⟩
                · exact .inl g
                · exact .inr ⟨g1, List.mem_append_left _ g2⟩
              · have e' : x = ⟨h, w, 1, 0, [], 0, joinD⟩ := by simpa using hx
                rw [e']
                exact .inr ⟨rfl, List.mem_append_right _ (by simp)⟩
          · rw [htk]
            rcases hI.at_ x hx with g | ⟨g1, g2⟩
            · exact .inl g
            · exact .inr ⟨g1, List.mem_append_left _ g2⟩
      · obtain ⟨ls, o6, hL, hΓ, hI⟩ := hI
        subst hL hΓ
        refine hr_nil ⟨ls, _, _, rfl, rfl, hI.p, hI.len, fun x hx => ?_⟩
        have htk : ys.take (i + 1) = ys.take i ++ [w] := by rw [List.take_add_one, q]; rfl
        rw [htk]
        rcases hI.at_ x hx with g | ⟨g1, _⟩
        · exact .inl (List.mem_append_left _ g)
        · exact .inl (List.mem_append_right _ (by rw [g1]; simp))
  · obtain ⟨ls, o5, o6, hL, hΓ, hI⟩ := hI
    subst hL hΓ
    have hlen := hI.len
    refine hr_ty 4 rfl (P' := AnyI) (IntP.of True.intro) ?_
    refine hr_for (ds := rgD (many - ls.length)) (itr_range (n := many - ls.length) b.range (Ev.eq (ev_sub (i := (many : Nat)) (j := ((ls.map ltD).length : Nat)) (ev_v 2) (ev_lenR 0 b.len (ev_v 3))) (by rw [List.length_map]; congr 1; omega)) (by omega)) (fun k L' Γ' => ∃ (ls' : List Letter) (o7 o8 : Option MP), L' = [⟨pl, ListR (ls'.map ltD), true⟩] ∧ Γ' = [some (ScrP S.K ns), some (TownP t), some (D (.int (many : Nat))), some (IsV (.ref pl)), some AnyI, o5, o6, o7, o8] ∧ PileI ls' ∧ ls'.length = ls.length + k) ⟨ls, _, _, rfl, rfl, hI.p, rfl⟩ (fun k d L' Γ' hd hI => ?_) fun L' Γ' hI => ?_
    · obtain ⟨ls', o7, o8, hL, hΓ, hp, hl⟩ := hI
      subst hL hΓ
      obtain ⟨hk, e⟩ := rgD_get hd
      subst e
      have hl30 : ls'.length ≤ 30 := by omega
      refine ⟨[7], _, tg_name 7, ?_⟩
      refine hr_setN 8 cL (ns, 16 + k) (by show 16 + k ≤ 1000; omega) (ea2 (ev_v 0) (ev_addN (n := 16) ev_int (ev_v 7))) fun pf => ?_
      refine hr_set 4 (P := AnyI) (ev_addI (φ := fun _ => True) (ψ := fun _ => True) (ev_v 4) ((ev_pickN (ns := [0, 1, 1, 2, 3, 1, 0, 9]) (ev_lst (ds := [0, 1, 1, 2, 3, 1, 0, 9].map nI) (ea_cons ev_int (ea_cons ev_int (ea_cons ev_int (ea_cons ev_int (ea_cons ev_int (ea_cons ev_int (ea2 ev_int ev_int)))))))) (ev_pick cP 0 (ev_v 8) ev_int (by decide) (by decide))).le fun G v ⟨r, _, p⟩ => ⟨(r : Nat), True.intro, p⟩) fun _ _ _ _ => True.intro) ?_
      refine hr_ex 4 rfl fun now _ => ?_
      refine hr_gam (Γ' := [some (ScrP S.K ns), some (TownP t), some (D (.int (many : Nat))), some (IsV (.ref pl)), some (D (.int now)), o5, o6, some (D (.int (k : Nat))), some (IsV (.ref pf))]) rfl ?_
      refine hr_appendX 1 3 (ds := ls'.map ltD) (φ := NewLt ls') (enc := ltD) (ev_thaw 1 3 (ev_call cT ⟨pf, t, ls', now⟩ ⟨ht', hp, by show ls'.length ≤ 40; omega⟩ (ea_cons (ev_v 8) (ea_cons (ev_v 1) (ea2 (ev_v 3) (ev_v 4)))) (.inr ⟨_, rfl, _, List.mem_of_getElem? (i := 0) rfl, rfl, rfl⟩)) (fun z hz => hz.nol) (fun r hr G1 G2 o h => ?_)) (fun z hz => ?_) (by rw [List.length_map]; omega)
      · have e : r = ⟨pf, LeftR, true⟩ := by simpa using hr
        rw [e] at h ⊢
        exact h
      · refine hr_drop 0 (hr_ty 4 rfl (P' := AnyI) (IntP.of True.intro) (hr_nil ⟨ls' ++ [z], _, _, ?_, rfl, hp.snoc hz, ?_⟩))
        · rw [List.map_append]; rfl
        · rw [List.length_append, hl]; rfl
    · obtain ⟨ls', o7, o8, hL, hΓ, hp, hl⟩ := hI
      subst hL hΓ
      have : (rgD (many - ls.length)).length = many - ls.length := by unfold rgD; simp
      refine hr_freezeL 0 3 (hr_ret (ev_v 3) (Xp.of (P := fun ls : List Letter => D (.list (ls.map ltD))) (x := ls') ⟨hp, by omega⟩))
end
end Hw
set_option Elab.async false
set_option linter.all false
set_option maxRecDepth 100000
set_option maxHeartbeats 8000000
namespace Hw
open PySem PySem.Spec L2

theorem Stt.perm {E : Ent} {L L' : List Rs} {Γ : Ty} {σ : St} {G H : Hp} (T : Stt E L Γ σ G H) (p : L.Perm L') : Stt E L' Γ σ G H :=
  ⟨T.env, T.len, T.sub, ⟨(p.map Rs.a).nodup_iff.mp T.live.1, fun r hr => T.live.2 r (p.mem_iff.mpr hr)⟩, T.stp, fun r hr => ⟨p.mem_iff.mp (T.inh r hr).1, (T.inh r hr).2⟩, fun r hr => T.loc r (p.mem_iff.mpr hr), fun r hr => T.own r (p.mem_iff.mpr hr), T.nde⟩
theorem hr_perm {F : Fx} {L L' : List Rs} {Γ : Ty} {sts : List Stmt} {N : List Rs → Ty → Prop} {R : MP} (p : L.Perm L') (kk : Hr F L' Γ sts N R) : Hr F L Γ sts N R := fun E σ G H T D k1 k2 => kk E σ G H (T.perm p) D k1 k2
abbrev wAt (ws : List Str) (i : Nat) : Str := ws.getD i (Str.ofString "")
theorem wAt_get {ws : List Str} {i : Nat} (h : i < ws.length) : ws[i]? = some (wAt ws i) := by rw [List.getElem?_eq_getElem h, wAt, List.getD, List.getElem?_eq_getElem h]; rfl
theorem wAt_mem {ws : List Str} {i : Nat} (h : i < ws.length) : wAt ws i ∈ ws := List.mem_of_getElem? (wAt_get h)
theorem wAt_inj {ws : List Str} (hn : ws.Nodup) {i j : Nat} (hi : i < ws.length) (hj : j < ws.length) (e : wAt ws i = wAt ws j) : i = j := by
  have h1 := wAt_get hi
  have h2 := wAt_get hj
  rw [e, ← h2] at h1
  exact (List.getElem?_inj hi hn).mp h1
structure Shp where
  H : Nat
  sz : List Nat
  o : Nat
def shD (s : Shp) : PyData := .tuple [.int (s.H : Nat), szD s.sz, .int (s.o : Nat)]
structure ShOk (s : Shp) : Prop where
  H : 2 ≤ s.H ∧ s.H ≤ 8
  sz : SzOk s.sz
  o : s.o < 3
def dS : Shp := ⟨0, [], 0⟩
structure DealS (shs : List Shp) (ws : List Str) (many j : Nat) (d : Deal) (os : List Nat) : Prop where
  om : ∀ o ∈ os, o < many
  ol : os.length ≤ 2
  ot : d.others = os.map fun o => wAt ws (5 + o)
  hl : d.houses.length = (shs.getD j dS).H
  hn : d.houses.Nodup
  hw : ∀ h ∈ d.houses, h ∈ ws
  cl : d.clauses.length = (shs.getD j dS).sz.length
  cs : ∀ c ∈ d.clauses, ClS (shs.getD j dS).H ws ((shs.getD j dS).sz :: os.map fun o => (shs.getD o dS).sz) c
theorem getD_get {α : Type} {xs : List α} {i : Nat} {d : α} (h : i < xs.length) : xs[i]? = some (xs.getD i d) := by rw [List.getElem?_eq_getElem h, List.getD, List.getElem?_eq_getElem h]; rfl
theorem nodup_map_wAt {ws : List Str} (hn : ws.Nodup) {n : Nat} {g : Nat → Nat} (hg : ∀ i < n, g i < ws.length) (hi : ∀ i < n, ∀ j < n, g i = g j → i = j) : ((List.range n).map fun i => wAt ws (g i)).Nodup := by
  refine List.Pairwise.map _ (R := fun a b : Nat => a < b ∧ b < n) (fun a b hab e => ?_) (List.Pairwise.imp_of_mem (fun {a b} _ hb h => ⟨h, List.mem_range.mp hb⟩) List.pairwise_lt_range)
  have := hi a (by omega) b hab.2 (wAt_inj hn (hg a (by omega)) (hg b hab.2) e)
  omega
/-- the town that was made -/
theorem town_ok {shs : List Shp} (hsh : ∀ s ∈ shs, ShOk s) {ws : List Str} (hws : WordsOk 16 ws) {sp : Int} {deals : List (Str × Deal)} (hl : deals.length = shs.length) (h1 : 1 ≤ shs.length) (h7 : shs.length ≤ 7) (hd : ∀ j p, deals[j]? = some p → p.1 = wAt ws (5 + j) ∧ ∃ os, DealS shs ws shs.length j p.2 os) : TownOk ⟨sp, deals⟩ := by
  have hwl := hws.len
  have hkeys : deals.map (·.1) = (List.range shs.length).map fun j => wAt ws (5 + j) := by
    apply List.ext_getElem?
    intro j
    rw [List.getElem?_map, List.getElem?_map]
    by_cases hj : j < deals.length
    · have e1 : deals[j]? = some deals[j] := List.getElem?_eq_getElem hj
      rw [e1, List.getElem?_range (by omega)]
      show some deals[j].1 = some (wAt ws (5 + j))
      rw [(hd j _ e1).1]
    · rw [List.getElem?_eq_none (by omega), List.getElem?_eq_none (by rw [List.length_range]; omega)]; rfl
  have hnod : (deals.map (·.1)).Nodup := by
    rw [hkeys]
    exact nodup_map_wAt hws.nod (g := fun j => 5 + j) (fun i hi => by omega) fun i _ j _ h => by omega
  refine ⟨⟨by show 1 ≤ deals.length; omega, by show deals.length ≤ 7; omega⟩, hnod, fun w d hlk => ?_⟩
  have hlk' : lookG deals w = some d := hlk
  obtain ⟨j, hj, e⟩ := List.mem_iff_getElem.mp (lookG_mem hlk')
  have e1 : deals[j]? = some (w, d) := by rw [List.getElem?_eq_getElem hj, e]
  obtain ⟨hw, os, ds⟩ := hd j _ e1
  have hw' : w = wAt ws (5 + j) := hw
  have hjs : j < shs.length := by omega
  have sok := hsh _ (List.mem_of_getElem? (getD_get (d := dS) hjs))
  have hevt : ∀ ev, EvS (shs.getD j dS).H ws ((shs.getD j dS).sz :: os.map fun o => (shs.getD o dS).sz) ev → EvtOk ⟨sp, deals⟩ w d ev := fun ev hev => by
    cases ev with
    | joined h => show h < d.houses.length; rw [ds.hl]; exact hev
    | said h x => exact ⟨by show h < d.houses.length; rw [ds.hl]; exact hev.1, hws.sk x hev.2⟩
    | did k c p =>
      obtain ⟨sz, g1, g2⟩ := hev
      cases k with
      | zero =>
        have e2 : (shs.getD j dS).sz = sz := Option.some.inj g1
        exact ⟨w, d, rfl, hlk', by rw [ds.cl, e2]; exact g2⟩
      | succ m =>
        have g1' : (os.map fun o => (shs.getD o dS).sz)[m]? = some sz := g1
        rw [List.getElem?_map] at g1'
        cases q : os[m]? with
        | none => rw [q] at g1'; cases g1'
        | some o =>
          rw [q] at g1'
          have e2 : (shs.getD o dS).sz = sz := Option.some.inj g1'
          have ho : o < shs.length := ds.om o (List.mem_of_getElem? q)
          have hod : o < deals.length := by omega
          have e3 : deals[o]? = some deals[o] := List.getElem?_eq_getElem hod
          obtain ⟨k1, os2, k2⟩ := hd o _ e3
          refine ⟨wAt ws (5 + o), deals[o].2, ?_, ?_, ?_⟩
          · show d.others[m]? = _
            rw [ds.ot, List.getElem?_map, q]; rfl
          · show lookG deals (wAt ws (5 + o)) = some deals[o].2
            rw [← k1]
            exact lookG_of_mem hnod (List.getElem_mem hod)
          · rw [k2.cl, e2]; exact g2
  refine ⟨by rw [hw']; exact hws.sk _ (wAt_mem (by omega)), by rw [ds.hl]; have := sok.H; omega, fun x hx => hws.sk x (ds.hw x hx), ds.hn, fun x hx => ?_, ?_, ?_, fun c hc => ?_⟩
  · rw [ds.ot] at hx
    obtain ⟨o, ho, rfl⟩ := List.mem_map.mp hx
    have := ds.om o ho
    exact hws.sk _ (wAt_mem (by omega))
  · rw [ds.ot, List.length_map]
    have := ds.ol
    omega
  · rw [ds.cl]
    exact ⟨sok.sz.ne, sok.sz.le⟩
  · have q := ds.cs c hc
    exact ⟨by rw [ds.hl]; exact q.deb, by rw [ds.hl]; exact q.cre, q.parts, by have := q.conds; omega, fun e he => hevt e (q.ev e he), fun e n h => hevt e (q.lv e n h)⟩
theorem paired_in {α β : Type} {ns : List β} : ∀ {xs : List α} {ys : List β}, Paired (fun _ y => y ∈ ns) xs ys → ys.length = xs.length ∧ ∀ y ∈ ys, y ∈ ns
  | _, _, .nil => ⟨rfl, fun y h => absurd h (by simp)⟩
  | _, _, .cons r t => by
    obtain ⟨h1, h2⟩ := paired_in t
    refine ⟨by rw [List.length_cons, List.length_cons, h1], fun y hy => ?_⟩
    rcases List.mem_cons.mp hy with e | hy
    · rw [e]; exact r
    · exact h2 y hy
section
variable {S : Sx} {f : Addr} {fd : FuncData}
def SpTown (K : PySem.W.Frag) : Sp := Spc (NoR (α := List Int)) (fun ns => ns.length ≤ 63) (fun ns => [ScrP K ns]) (fun _ => Xp TownOk TownP)
theorem sc_town : FnScope ["_law_script", "_law_left_here", "_law_words_here", "_law_many", "_law_shapes", "_law_k", "_law_houses", "_law_clauses_here", "_law_sizes", "_law_deals", "_law_shape", "_law_start_here", "_law_others", "_law_close", "_law_c", "_law_j"] ["_law_script"] (defScope s_law_town) := ⟨rfl, rfl, rfl, by decide +kernel, rfl, by decide +kernel, by decide +kernel⟩
abbrev manyL : List Nat := [1, 1, 2, 2, 3, 1, 2, 7]
abbrev houL : List Nat := [2, 3, 2, 3, 4, 2, 5, 8]
abbrev claL : List Nat := [1, 2, 1, 3, 2, 4, 7, 12]
abbrev sizL : List Nat := [1, 1, 2, 1, 3, 1, 2, 9]
theorem ok_town (Fd : FnP S "_law_town" s_law_town f fd) (b : Bi S) (cL : Cl S "_law_left" 2 (SpLeft S.K)) (cP : Cl S "_law_pick" 1 SpPick) (cW : Cl S "_law_words" 2 SpWords) (cC : Cl S "_law_clauses" 3 SpClauses) : OkF S 4 f fd ["_law_script"] (SpTown S.K) := by
  refine fn_ok Fd sc_town (fun _ => rfl) noR fun ns hns => ?_
  refine hr_setN 1 cL (ns, 1) (by show 1 ≤ 1000; omega) (ea2 (ev_v 0) ev_int) fun p0 => ?_
  refine hr_set 2 (P := Xp (WordsOk 16) fun ws => D (.list (ws.map .str))) (ev_call cW (p0, 16) (by show 16 ≤ 16; omega) (ea2 (ev_v 1) ev_int) (.inr ⟨_, rfl, _, List.mem_of_getElem? (i := 0) rfl, rfl, rfl⟩)) ?_
  refine hr_ex 2 rfl fun ws hws => ?_
  refine hr_gam (Γ' := [some (ScrP S.K ns), some (IsV (.ref p0)), some (D (.list (ws.map .str))), none, none, none, none, none, none, none, none, none, none, none, none, none]) rfl ?_
  have hwl := hws.len
  refine hr_set 3 (P := InP manyL) (ev_pickN (ns := manyL) (ev_lst (ds := manyL.map nI) (ea_cons ev_int (ea_cons ev_int (ea_cons ev_int (ea_cons ev_int (ea_cons ev_int (ea_cons ev_int (ea2 ev_int ev_int)))))))) (ev_pick cP 0 (ev_v 1) ev_int (by decide) (by decide))) ?_
  refine hr_ex 3 rfl fun many hmany => ?_
  have hm17 : 1 ≤ many ∧ many ≤ 7 := by
    have hm' : many ∈ manyL := hmany
    simp only [manyL, List.mem_cons, List.not_mem_nil, or_false] at hm'
    omega
  refine hr_newL 4 fun ps => ?_
  refine hr_gam (Γ' := [some (ScrP S.K ns), some (IsV (.ref p0)), some (D (.list (ws.map .str))), some (D (nI many)), some (IsV (.ref ps)), none, none, none, none, none, none, none, none, none, none, none]) rfl ?_
  refine hr_for (ds := rgD many) (itr_range b.range (ev_v 3) (by omega)) (fun i L' Γ' => ∃ (pl : Addr) (shs : List Shp) (o5 o6 o7 o8 : Option MP), L' = [⟨ps, ListR (shs.map shD), true⟩, ⟨pl, LeftR, true⟩] ∧ Γ' = [some (ScrP S.K ns), some (IsV (.ref pl)), some (D (.list (ws.map .str))), some (D (nI many)), some (IsV (.ref ps)), o5, o6, o7, o8, none, none, none, none, none, none, none] ∧ shs.length = i ∧ ∀ s ∈ shs, ShOk s) ⟨p0, [], _, _, _, _, rfl, rfl, rfl, fun s hs => absurd hs (by simp)⟩ (fun i d L' Γ' hd hI => ?_) fun L' Γ' hI => ?_
  · obtain ⟨pl, shs, o5, o6, o7, o8, hL, hΓ, hsl, hso⟩ := hI
    subst hL hΓ
    obtain ⟨hi, e⟩ := rgD_get hd
    subst e
    refine ⟨[5], _, tg_name 5, ?_⟩
    refine hr_drop 1 ?_
    refine hr_setN 1 cL (ns, 2 + i) (by show 2 + i ≤ 1000; omega) (ea2 (ev_v 0) (ev_addN ev_int (ev_v 5))) fun pl' => ?_
    refine hr_gam (Γ' := [some (ScrP S.K ns), some (IsV (.ref pl')), some (D (.list (ws.map .str))), some (D (nI many)), some (IsV (.ref ps)), some (D (nI i)), o6, o7, o8, none, none, none, none, none, none, none]) rfl ?_
    refine hr_set 6 (P := InP houL) (ev_pickN (ns := houL) (ev_lst (ds := houL.map nI) (ea_cons ev_int (ea_cons ev_int (ea_cons ev_int (ea_cons ev_int (ea_cons ev_int (ea_cons ev_int (ea2 ev_int ev_int)))))))) (ev_pick cP 0 (ev_v 1) ev_int (by decide) (by decide))) ?_
    refine hr_ex 6 rfl fun ho hho => ?_
    refine hr_gam (Γ' := [some (ScrP S.K ns), some (IsV (.ref pl')), some (D (.list (ws.map .str))), some (D (nI many)), some (IsV (.ref ps)), some (D (nI i)), some (D (nI ho)), o7, o8, none, none, none, none, none, none, none]) rfl ?_
    refine hr_set 7 (P := InP claL) (ev_pickN (ns := claL) (ev_lst (ds := claL.map nI) (ea_cons ev_int (ea_cons ev_int (ea_cons ev_int (ea_cons ev_int (ea_cons ev_int (ea_cons ev_int (ea2 ev_int ev_int)))))))) (ev_pick cP 0 (ev_v 1) ev_int (by decide) (by decide))) ?_
    refine hr_ex 7 rfl fun nc hnc => ?_
    refine hr_gam (Γ' := [some (ScrP S.K ns), some (IsV (.ref pl')), some (D (.list (ws.map .str))), some (D (nI many)), some (IsV (.ref ps)), some (D (nI i)), some (D (nI ho)), some (D (nI nc)), o8, none, none, none, none, none, none, none]) rfl ?_
    have hnc' : 1 ≤ nc ∧ nc ≤ 12 := by
      have hm' : nc ∈ claL := hnc
      simp only [claL, List.mem_cons, List.not_mem_nil, or_false] at hm'
      omega
    have hho' : 2 ≤ ho ∧ ho ≤ 8 := by
      have hm' : ho ∈ houL := hho
      simp only [houL, List.mem_cons, List.not_mem_nil, or_false] at hm'
      omega
    refine hr_setLc 8 [("_law_c", 14)] (xs := List.range nc) (enc := nI) (T := fun _ c => c = true) (P := fun _ => Xp (· ∈ sizL) fun r => D (nI r)) (itr_range (n := nc) b.range (ev_v 7) (by omega)) (by simp; omega) (fun j y hy => ?_) (hr_ty 8 rfl (lc_map (φ := fun _ y => y ∈ sizL) (enc := nI)) ?_)
    · exact ⟨_, tg_name 14, ets_nil, fun _ => ev_pickN (ns := sizL) (ev_lst (ds := sizL.map nI) (ea_cons ev_int (ea_cons ev_int (ea_cons ev_int (ea_cons ev_int (ea_cons ev_int (ea_cons ev_int (ea2 ev_int ev_int)))))))) (ev_pick cP 0 (ev_v 1) ev_int (by decide) (by decide))⟩
    refine hr_ex 8 rfl fun sz hsz => ?_
    refine hr_gam (Γ' := [some (ScrP S.K ns), some (IsV (.ref pl')), some (D (.list (ws.map .str))), some (D (nI many)), some (IsV (.ref ps)), some (D (nI i)), some (D (nI ho)), some (D (nI nc)), some (D (szD sz)), none, none, none, none, none, none, none]) rfl ?_
    obtain ⟨hz1, hz2⟩ := paired_in hsz
    rw [List.length_range] at hz1
    have szo : SzOk sz := ⟨by omega, by omega, fun x hx => by
      have hm' : x ∈ sizL := hz2 x hx
      simp only [sizL, List.mem_cons, List.not_mem_nil, or_false] at hm'
      omega⟩
    refine hr_appendX 1 4 (ds := shs.map shD) (φ := ShOk) (enc := shD) ((ev_tupP (Ps := [D (nI ho), D (szD sz), LtP 3]) (ea_cons (ev_v 6) (ea2 (ev_v 8) (ev_pick cP 0 (ev_v 1) ev_int (by decide) (by decide))))).le fun G v ⟨a, vs, g1, g2, g3⟩ => ?_) (fun s hs => hr_perm (List.Perm.swap _ _ []) (hr_nil ⟨pl', shs ++ [s], _, _, _, _, ?_, rfl, ?_, fun x hx => ?_⟩)) (by rw [List.length_map]; omega)
    · obtain ⟨x, y, z, e, q1, q2, r, hr, q3⟩ := psa3 g3
      subst e
      exact ⟨⟨ho, sz, r⟩, ⟨hho', szo, hr⟩, by rw [g1]; exact .tup g2 (.cons q1 (.cons q2 (.cons q3 .nil)))⟩
    · rw [List.map_append]; rfl
    · rw [List.length_append, hsl]; rfl
    · rcases List.mem_append.mp hx with hx | hx
      · exact hso x hx
      · have e' : x = s := by simpa using hx
        rw [e']; exact hs
  · obtain ⟨pl, shs, o5, o6, o7, o8, hL, hΓ, hsl, hso⟩ := hI
    subst hL hΓ
    have hrl : (rgD many).length = many := by unfold rgD; simp
    rw [hrl] at hsl
    have hm2 : 1 ≤ shs.length ∧ shs.length ≤ 7 := by rw [hsl]; exact hm17
    refine hr_freezeL 0 4 ?_
    refine hr_newK 9 fun pd => ?_
    refine hr_for (ds := enD (shs.map shD)) (itr_enum b.enumerate (ev_v 4)) (fun i L' Γ' => ∃ (pl : Addr) (deals : List (Str × Deal)) (o5 o6 o7 o8 o10 o11 o12 o13 : Option MP), L' = [⟨pd, DKR (encG sK dealD deals), true⟩, ⟨pl, LeftR, true⟩] ∧ Γ' = [some (ScrP S.K ns), some (IsV (.ref pl)), some (D (.list (ws.map .str))), some (D (nI many)), some (D (.list (shs.map shD))), o5, o6, o7, o8, some (IsV (.ref pd)), o10, o11, o12, o13, none, none] ∧ deals.length = i ∧ ∀ j p, deals[j]? = some p → p.1 = wAt ws (5 + j) ∧ ∃ os, DealS shs ws shs.length j p.2 os) ⟨pl, [], _, _, _, _, _, _, _, _, rfl, rfl, rfl, fun j p h => by simp at h⟩ (fun i d L' Γ' hd hI => ?_) fun L' Γ' hI => ?_
    · obtain ⟨pl, deals, o5, o6, o7, o8, o10, o11, o12, o13, hL, hΓ, hdl, hdo⟩ := hI
      subst hL hΓ
      obtain ⟨d', hd', e⟩ := enD_get hd
      subst e
      rw [List.getElem?_map] at hd'
      cases e : shs[i]? with
      | none => rw [e] at hd'; cases hd'
      | some s =>
        rw [e] at hd'
        cases hd'
        have hi : i < shs.length := (List.getElem?_eq_some_iff.mp e).1
        have hs := hso s (List.mem_of_getElem? e)
        have hsH := hs.H
        have hgs : shs.getD i dS = s := by rw [List.getD, e]; rfl
        refine ⟨[5, 10], _, tg_tup (n := 2) (ds := [.int i, shD s]) (tgs_cons (tg_name 5) (tgs_cons (tg_name 10) tgs_nil)), ?_⟩
        refine hr_drop 1 ?_
        refine hr_setN 1 cL (ns, 9 + i) (by show 9 + i ≤ 1000; omega) (ea2 (ev_v 0) (ev_addN ev_int (ev_v 5))) fun pl' => ?_
        refine hr_gam (Γ' := [some (ScrP S.K ns), some (IsV (.ref pl')), some (D (.list (ws.map .str))), some (D (nI many)), some (D (.list (shs.map shD))), some (D (nI i)), o6, o7, o8, some (IsV (.ref pd)), some (D (shD s)), o11, o12, o13, none, none]) rfl ?_
        refine hr_set 11 (P := LtP 8) (ev_pick cP 0 (ev_v 1) ev_int (by decide) (by decide)) ?_
        refine hr_ex 11 rfl fun st hst => ?_
        refine hr_gam (Γ' := [some (ScrP S.K ns), some (IsV (.ref pl')), some (D (.list (ws.map .str))), some (D (nI many)), some (D (.list (shs.map shD))), some (D (nI i)), o6, o7, o8, some (IsV (.ref pd)), some (D (shD s)), some (D (nI st)), o12, o13, none, none]) rfl ?_
        refine hr_set 6 (P := D (sD ((List.range s.H).map fun j => wAt ws ((st + j) % 8)))) (ev_tupOf (ds := ((List.range s.H).map fun j => wAt ws ((st + j) % 8)).map .str) b.tuple ((ev_lc [("_law_j", 15)] (xs := List.range s.H) (enc := nI) (T := fun _ c => c = true) (P := fun j => D (.str (wAt ws ((st + j) % 8)))) (itr_range (n := s.H) b.range (ev_ixT (ds := [.int (s.H : Nat), szD s.sz, .int (s.o : Nat)]) (d := .int (s.H : Nat)) (ev_v 10) ev_int rfl) (by omega)) (by simp; omega) fun q j hj => ?_).le (lc_mapD.trans ?_))) ?_
        · refine ⟨_, tg_name 15, ets_nil, fun _ => ev_ixL (ds := ws.map .str) (i := (((st + j) % 8 : Nat) : Int)) (ev_v 2) (Ev.eq (ev_mod (i := ((st + j : Nat) : Int)) (j := 8) (ev_addN (ev_v 11) (ev_v 15)) ev_int (by decide)) ?_) (atS (wAt_get ?_))⟩
          · congr 1
          · have := Nat.mod_lt (st + j) (show 0 < 8 by decide); omega
        · rw [List.map_map]; exact .rfl
        refine hr_gam (Γ' := [some (ScrP S.K ns), some (IsV (.ref pl')), some (D (.list (ws.map .str))), some (D (nI many)), some (D (.list (shs.map shD))), some (D (nI i)), some (D (sD ((List.range s.H).map fun j => wAt ws ((st + j) % 8)))), o7, o8, some (IsV (.ref pd)), some (D (shD s)), some (D (nI st)), o12, o13, none, none]) rfl ?_
        refine hr_set 12 (P := D (.list ((((List.range many).filter fun j : Nat => !decide ((j : Int) = (i : Int))).take s.o).map nI))) (Ev.eq (ev_slLto (ds := ((List.range many).filter fun j : Nat => !decide ((j : Int) = (i : Int))).map nI) (n := s.o) ((ev_lc [("_law_j", 15)] (xs := List.range many) (enc := nI) (T := fun j c => c = !decide ((j : Int) = (i : Int))) (P := fun j => D (nI j)) (itr_range (n := many) b.range (ev_v 3) (by omega)) (by simp; omega) fun q j hj => ?_).le lc_filD) (ev_ixT (ds := [.int (s.H : Nat), szD s.sz, .int (s.o : Nat)]) (d := .int (s.o : Nat)) (ev_v 10) ev_int rfl)) (by rw [List.map_take])) ?_
        · exact ⟨_, tg_name 15, ets_one (et_cmp c_neD (ev_v (P := D (.int (j : Nat))) 15) (ev_v (P := D (.int (i : Nat))) 5) ((rv_neD (ni_int (n := 0) _).nice (ni_int (n := 0) _).nice).le (BoolP.of (by rw [eqv_int])))), fun _ => ev_v 15⟩
        generalize hos : ((List.range many).filter fun j : Nat => !decide ((j : Int) = (i : Int))).take s.o = os
        refine hr_gam (Γ' := [some (ScrP S.K ns), some (IsV (.ref pl')), some (D (.list (ws.map .str))), some (D (nI many)), some (D (.list (shs.map shD))), some (D (nI i)), some (D (sD ((List.range s.H).map fun j => wAt ws ((st + j) % 8)))), o7, o8, some (IsV (.ref pd)), some (D (shD s)), some (D (nI st)), some (D (.list (os.map nI))), o13, none, none]) rfl ?_
        have hosm : ∀ o ∈ os, o < many := fun o ho => by
          rw [← hos] at ho
          exact List.mem_range.mp (List.mem_filter.mp (List.mem_of_mem_take ho)).1
        have hosl : os.length ≤ 2 := by
          rw [← hos, List.length_take]
          have := hs.o
          omega
        have hsho : ∀ o ∈ os, shs[o]? = some (shs.getD o dS) := fun o ho => getD_get (by have := hosm o ho; omega)
        refine hr_set 13 (P := AnyI) (ev_addI (φ := fun _ => True) (ψ := fun r => 0 ≤ r ∧ r < ((5 : Nat) : Int)) ((ev_pickN (ns := [12, 30, 60, 1000]) (ev_lst (ds := [12, 30, 60, 1000].map nI) (ea_cons ev_int (ea_cons ev_int (ea2 ev_int ev_int)))) (ev_pick cP 0 (ev_v 1) ev_int (by decide) (by decide))).le fun G v ⟨r, _, p⟩ => ⟨(r : Nat), True.intro, p⟩) ((ev_pick cP 0 (ev_v 1) ev_int (by decide) (by decide)).le ltP_I) fun _ _ _ _ => True.intro) ?_
        refine hr_ex 13 rfl fun cz _ => ?_
        refine hr_gam (Γ' := [some (ScrP S.K ns), some (IsV (.ref pl')), some (D (.list (ws.map .str))), some (D (nI many)), some (D (.list (shs.map shD))), some (D (nI i)), some (D (sD ((List.range s.H).map fun j => wAt ws ((st + j) % 8)))), o7, o8, some (IsV (.ref pd)), some (D (shD s)), some (D (nI st)), some (D (.list (os.map nI))), some (D (.int cz)), none, none]) rfl ?_
        refine hr_set 7 (P := Xp (fun cls : List Cla => cls.length = s.sz.length ∧ ∀ c ∈ cls, ClS s.H ws (s.sz :: os.map fun o => (shs.getD o dS).sz) c) fun cls => D (.tuple (cls.map claD))) (ev_call cC ⟨pl', s.H, s.sz, os.map fun o => (shs.getD o dS).sz, ws⟩ ⟨hsH, hs.sz, fun sz hsz => ?_, ?_, hws⟩ (ea_cons (ev_v 1) (ea_cons (ev_ixT (ds := [.int (s.H : Nat), szD s.sz, .int (s.o : Nat)]) (d := .int (s.H : Nat)) (ev_v 10) ev_int rfl) (ea_cons (ev_ixT (ds := [.int (s.H : Nat), szD s.sz, .int (s.o : Nat)]) (d := szD s.sz) (ev_v 10) ev_int rfl) (ea2 ((ev_lc [("_law_j", 15)] (xs := os) (enc := nI) (T := fun _ c => c = true) (P := fun o => D (szD (shs.getD o dS).sz)) (itr_L (ev_v 12)) (by omega) fun q o ho => ?_).le (lc_mapD.trans ?_)) (ev_v 2))))) (.inr ⟨_, rfl, _, List.mem_of_getElem? (i := 0) rfl, rfl, rfl⟩)) ?_
        · obtain ⟨o, ho, rfl⟩ := List.mem_map.mp hsz
          exact (hso _ (List.mem_of_getElem? (hsho o ho))).sz
        · show (os.map fun o => (shs.getD o dS).sz).length ≤ 10
          rw [List.length_map]; omega
        · have ho' := hsho o (List.mem_of_getElem? ho)
          exact ⟨_, tg_name 15, ets_nil, fun _ => ev_ixT (ds := [.int ((shs.getD o dS).H : Nat), szD (shs.getD o dS).sz, .int ((shs.getD o dS).o : Nat)]) (d := szD (shs.getD o dS).sz) (ev_ixL (ds := shs.map shD) (d := shD (shs.getD o dS)) (ev_v 4) (ev_v 15) (atM ho')) ev_int rfl⟩
        · show (D (.list (os.map fun o => szD (shs.getD o dS).sz))).le (D (.list ((os.map fun o => (shs.getD o dS).sz).map szD)))
          rw [List.map_map]; exact .rfl
        refine hr_ex 7 rfl fun cls hcls => ?_
        refine hr_gam (Γ' := [some (ScrP S.K ns), some (IsV (.ref pl')), some (D (.list (ws.map .str))), some (D (nI many)), some (D (.list (shs.map shD))), some (D (nI i)), some (D (sD ((List.range s.H).map fun j => wAt ws ((st + j) % 8)))), some (D (.tuple (cls.map claD))), o8, some (IsV (.ref pd)), some (D (shD s)), some (D (nI st)), some (D (.list (os.map nI))), some (D (.int cz)), none, none]) rfl ?_
        have hnone : lookG deals (wAt ws (5 + i)) = none := by
          cases q : lookG deals (wAt ws (5 + i)) with
          | none => rfl
          | some z =>
            obtain ⟨j, hj, ej⟩ := List.mem_iff_getElem.mp (lookG_mem q)
            have e2 := (hdo j _ (List.getElem?_eq_getElem hj)).1
            rw [ej] at e2
            have := wAt_inj hws.nod (i := 5 + i) (j := 5 + j) (by omega) (by omega) e2
            omega
        refine hr_putK 1 9 (kvs := encG sK dealD deals) (ks := sK (wAt ws (5 + i))) (d := dealD ⟨(List.range s.H).map fun j => wAt ws ((st + j) % 8), os.map fun o => wAt ws (5 + o), cz, cls⟩) (ev_tup (ds := dlA ⟨(List.range s.H).map fun j => wAt ws ((st + j) % 8), os.map fun o => wAt ws (5 + o), cz, cls⟩) (ea_cons (ev_v 6) (ea_cons (ev_tupOf (ds := (os.map fun o => wAt ws (5 + o)).map .str) b.tuple ((ev_lc [("_law_j", 15)] (xs := os) (enc := nI) (T := fun _ c => c = true) (P := fun o => D (.str (wAt ws (5 + o)))) (itr_L (ev_v 12)) (by omega) fun q o ho => ?_).le (lc_mapD.trans ?_))) (ea2 (ev_v 13) (ev_v 7))))) (ev_ixL (ds := ws.map .str) (d := .str (wAt ws (5 + i))) (ev_v 2) (ev_addN (n := 5) ev_int (ev_v 5)) (atS (wAt_get (by omega)))) ?_ (by rw [encG_length]; omega)
        · have := hosm o (List.mem_of_getElem? ho)
          exact ⟨_, tg_name 15, ets_nil, fun _ => ev_ixL (ds := ws.map .str) (d := .str (wAt ws (5 + o))) (ev_v 2) (ev_addN (n := 5) ev_int (ev_v 15)) (atS (wAt_get (by omega)))⟩
        · rw [List.map_map]; exact .rfl
        · rw [putD_enc sK_inj, putG_new hnone]
          refine hr_perm (List.Perm.swap _ _ []) (hr_nil ⟨pl', deals ++ [(wAt ws (5 + i), ⟨(List.range s.H).map fun j => wAt ws ((st + j) % 8), os.map fun o => wAt ws (5 + o), cz, cls⟩)], _, _, _, _, _, _, _, _, rfl, rfl, by rw [List.length_append, hdl]; rfl, fun j p hj => ?_⟩)
          by_cases hji : j < deals.length
          · rw [List.getElem?_append_left hji] at hj
            exact hdo j p hj
          · rw [List.getElem?_append_right (by omega)] at hj
            have hj0 : j - deals.length = 0 := by
              have := (List.getElem?_eq_some_iff.mp hj).1
              simp at this
              omega
            rw [hj0] at hj
            have ep := (Option.some.inj hj).symm
            have eji : j = i := by omega
            subst ep eji
            refine ⟨rfl, os, fun o ho => by rw [hsl]; exact hosm o ho, hosl, rfl, by rw [hgs]; simp, ?_, fun h hh => ?_, by rw [hgs]; exact hcls.1, by rw [hgs]; exact hcls.2⟩
            · exact nodup_map_wAt hws.nod (g := fun j => (st + j) % 8) (fun q _ => by have := Nat.mod_lt (st + q) (show 0 < 8 by decide); omega) fun a ha c hc h => by
                have h' : (st + a) % 8 = (st + c) % 8 := h
                omega
            · obtain ⟨q, _, rfl⟩ := List.mem_map.mp hh
              exact wAt_mem (by have := Nat.mod_lt (st + q) (show 0 < 8 by decide); omega)
    · obtain ⟨pl, deals, o5, o6, o7, o8, o10, o11, o12, o13, hL, hΓ, hdl, hdo⟩ := hI
      subst hL hΓ
      rw [enD_length, List.length_map] at hdl
      refine hr_freezeK 0 9 ?_
      refine hr_ret (ev_tupP (Ps := [InP [0, 1, 2, 5, 30], DKP (encG sK dealD deals)]) (ea2 (ev_pickN (ns := [0, 1, 2, 5, 30]) (ev_lst (ds := [0, 1, 2, 5, 30].map nI) (ea_cons ev_int (ea_cons ev_int (ea_cons ev_int (ea2 ev_int ev_int))))) (ev_pick cP 0 (ev_v 1) ev_int (by decide) (by decide))) (ev_v 9))) fun G v ⟨a, vs, g1, g2, g3⟩ => ?_
      obtain ⟨x, y, e, ⟨r, _, q1⟩, q2⟩ := psa2 g3
      subst e
      exact ⟨⟨(r : Nat), deals⟩, town_ok hso hws hdl hm2.1 hm2.2 hdo, a, _, g1, g2, .cons q1 (.cons q2 .nil)⟩
end
end Hw
set_option Elab.async false
set_option linter.all false
set_option maxRecDepth 100000
set_option maxHeartbeats 2000000
namespace Hw
open PySem PySem.Spec L2

/-- how a comprehension over a chosen list reads -/
theorem lc_readX {F : Fx} {L : List Rs} {Γ : Ty} {tg elt : Expr} {ifs : List Expr} {α β : Type} {φ : β → Prop} {xss : β → List α} {enc : α → PyData} {T : α → Bool → Prop} {P : α → MP} {scope : Scope} {vs : List Nat} {wi : TI} {E : Ent} {σ : St} {G H : Hp} (hsz : ∀ z, φ z → (xss z).length ≤ 100000)
    (hwi : ∀ R : It → Hp → Prop, (∀ z J G' H', φ z → Nxt L G H G' H' → Stt E L Γ σ G' H' → Wk J ((xss z).map enc) G' → R J H') → wi σ H R)
    (hx : ∀ z, φ z → ∀ (i : Nat) (x : α), (xss z)[i]? = some x → ∃ f, Tg (F.blk scope) tg vs (D (enc x)) f ∧ Ets (F.blk scope) L (f (wipeT Γ vs)) ifs (T x) ∧ (T x true → Ev (F.blk scope) L (f (wipeT Γ vs)) elt (P x))) (T0 : Stt E L Γ σ G H) :
    ∀ Q : VK, (∀ z v G' H', φ z → Nxt L G H G' H' → Stt E L Γ σ G' H' → (Xp (SelL T P (xss z)) LstP).p G' v → Q v H') → tLc wi (WG (F.blk scope) tg) (WTs (F.blk scope) ifs) (WE (F.blk scope) elt) vs σ H Q := fun Q k => by
  show wi σ H _
  refine hwi _ fun z J G1 H1 hz n1 T1 W => ?_
  exact lc_read (wi := fun _ H R => R J H) (hsz z hz) (fun R kk => kk J G1 H1 _ .refl T1 (fun _ _ z => z.elim) W.toF) (hx z hz) T1 Q fun v G' H' n T' p => k z v G' H' hz (n1.trans T0.live T1.live n) T' p
theorem ev_lcX {F : Fx} {L : List Rs} {Γ : Ty} {tg iter elt : Expr} {ifs : List Expr} {pos : Pos} {α β : Type} {φ : β → Prop} {xss : β → List α} {enc : α → PyData} {T : α → Bool → Prop} {P : α → MP} {scope : Scope} {Q : MP} (own : List (Str × Nat)) (hi : ItrX F L Γ tg iter φ (fun z => (xss z).map enc)) (hsz : ∀ z, φ z → (xss z).length ≤ 100000)
    (hx : ∀ z, φ z → ∀ (i : Nat) (x : α), (xss z)[i]? = some x → ∃ f, Tg (F.blk scope) tg (own.map (·.2)) (D (enc x)) f ∧ Ets (F.blk scope) L (f (wipeT Γ (own.map (·.2)))) ifs (T x) ∧ (T x true → Ev (F.blk scope) L (f (wipeT Γ (own.map (·.2)))) elt (P x))) (hq : ∀ z, φ z → (Xp (SelL T P (xss z)) LstP).le Q)
    (ok : BlkOk F.N F.sc scope own := by exact blkOk_by (by (try dsimp only); decide +kernel)) (hs : ∀ env x, foldedSetIterable iter env x = pure x := by intro _ _; rfl) : Ev F L Γ (.ListComp elt [⟨tg, iter, ifs, 0⟩] scope pos) Q := fun E σ G H Tt K k => by
  obtain ⟨wi, hpi, hwi⟩ := hi
  refine we_pe (t := tLc wi (WG (F.blk scope) tg) (WTs (F.blk scope) ifs) (WE (F.blk scope) elt) (own.map (·.2))) (fun X hX => pe_lc hX.calm (nd_in hX) (hpi X hX) (ok_in hX ok) (fun s H C cl fp => pg_wg (cin_blk hX s H C cl fp)) (fun s H C cl fp => pts_wts (cin_blk hX s H C cl fp)) (fun s H C cl fp => pe_we (cin_blk hX s H C cl fp)) (hs _)) ?_
  exact lc_readX hsz (fun R kk => hwi E σ G H Tt R kk) hx Tt K fun z v G' H' hz n T' p => k v G' H' n T' (hq z hz _ _ p)
section
variable {S : Sx} {f : Addr} {fd : FuncData}
/-! ### what is asked -/
structure AskOk (t : Town) (nd : Nd) (n : Nm) : Prop where
  d : ∃ d, lookG t.deals n.2.1 = some d
  l : ∃ l, lookG nd n = some l
  b : ∀ l, (rowOf nd n)[0]? = some l → l.prev = 0
def SpAsked : Sp := Spc (NoR (α := Town × Nd)) (fun a => NdOk a.2) (fun a => [TownP a.1, NdP a.2]) (fun a => Xp (fun ys : List Nm => ys.length ≤ 40 ∧ ∀ n ∈ ys, AskOk a.1 a.2 n) fun ys => D (.list (ys.map nD)))
theorem sc_asked : FnScope ["_law_town_here", "_law_named_here", "_law_name_here"] ["_law_town_here", "_law_named_here"] (defScope s_law_asked) := ⟨rfl, rfl, rfl, by decide +kernel, rfl, by decide +kernel, by decide +kernel⟩
theorem ok_asked (Fd : FnP S "_law_asked" s_law_asked f fd) (b : Bi S) (cR : Cl S "_law_row" 1 SpRowL) : OkF S 2 f fd ["_law_town_here", "_law_named_here"] SpAsked := by
  refine fn_ok Fd sc_asked (fun _ => rfl) noR fun ⟨t, nd⟩ hnd => ?_
  have hnd' : NdOk nd := hnd
  have hl := hnd'.len
  refine hr_ret (ev_lcX [("_law_name_here", 2)] (φ := fun ys : List Nm => ys.Perm (nd.map (·.1))) (xss := fun ys => ys) (enc := nD) (T := fun n c => c = true → AskOk t nd n) (P := fun n => D (nD n)) (itr_LX (ev_sortedT (ks := nd.map (·.1)) b.sorted (ev_v 1) isDT_G (by unfold encG; rw [List.map_map, List.map_map]; rfl))) (fun ys hy => by rw [hy.length_eq, List.length_map]; omega) (fun ys hy i n hi => ?_) fun ys hy => lc_propD.trans (Xp.le (β := Nat) fun zs hz => Xp.of (P := fun ys : List Nm => D (.list (ys.map nD))) (x := zs) ⟨?_, fun n hn => hz.2 n hn rfl⟩)) .rfl
  · obtain ⟨l, hlk⟩ := Option.isSome_iff_exists.mp (lookG_isSome.mpr (hy.mem_iff.mp (List.mem_of_getElem? hi)))
    have hp := rowOf_pos hlk
    have h0 : (rowOf nd n)[0]? = some (rowOf nd n)[0] := List.getElem?_eq_getElem hp
    generalize (rowOf nd n)[0] = l0 at h0
    refine ⟨_, tg_name 2, ets_one ((et_w (ew_andB (et_inK (k := sK n.2.1) (kvs := encG sK dealD t.deals) (P := DealsP t) (ev_ixT (ds := [.str n.1, .str n.2.1, .int n.2.2]) (d := .str n.2.1) (ev_v 2) ev_int rfl) (ev_ixTP (Ps := [D (.int t.span), DealsP t]) (n := 1) (ev_v 0) ev_int rfl) isDK_G) fun _ => et_cmp c_eq (ev_ixT (ds := ltA l0) (d := .int l0.prev) (ev_ixL (ds := (rowOf nd n).map ltD) (d := ltD l0) (ev_call cR (nd, n) hnd' (ea2 (ev_v 1) (ev_v 2))) ev_int (atM (k := 0) h0)) ev_int rfl) ev_int rv_eqI.bo)).le fun c hc hct => ?_), fun _ => ev_v 2⟩
    rw [hc, Bool.and_eq_true, lookD_enc sK_inj, Option.isSome_map] at hct
    exact ⟨Option.isSome_iff_exists.mp hct.1, ⟨l, hlk⟩, fun l' h' => by
      rw [h0] at h'
      rw [← Option.some.inj h']
      exact of_decide_eq_true hct.2⟩
  · have := hz.1.length_le
    rw [hy.length_eq, List.length_map] at this
    omega
/-! ### some of them -/
structure SoA where
  l : Addr
  ds : List PyData
  many : Nat
structure SoAOk (a : SoA) : Prop where
  n : Ni 5 (.list a.ds)
  l : a.ds.length ≤ 100000
  m : a.many ≤ 8
def SpSome : Sp := Spc (fun a : SoA => [⟨a.l, LeftR, false⟩]) SoAOk (fun a => [IsV (.ref a.l), D (.list a.ds), D (.int (a.many : Nat))]) (fun a => Xp (fun zs : List PyData => ∀ z ∈ zs, z ∈ a.ds) fun zs => D (.list zs))
theorem sc_some : FnScope ["_law_left_here", "_law_things", "_law_many", "_law_k"] ["_law_left_here", "_law_things", "_law_many"] (defScope s_law_some) := ⟨rfl, rfl, rfl, by decide +kernel, rfl, by decide +kernel, by decide +kernel⟩
theorem ok_some (Fd : FnP S "_law_some" s_law_some f fd) (b : Bi S) (cP : Cl S "_law_pick" 1 SpPick) : OkF S 2 f fd ["_law_left_here", "_law_things", "_law_many"] SpSome := by
  refine fn_ok Fd sc_some (fun _ => rfl) (hloc2 (g := SoA.l)) fun ⟨l, ds, many⟩ hok => ?_
  obtain ⟨hn, hl, hm⟩ := hok
  have hn' : Ni 5 (.list ds) := hn
  have hl' : ds.length ≤ 100000 := hl
  have hm' : many ≤ 8 := hm
  refine hr_ret ((ev_lc [("_law_k", 3)] (xs := List.range (many * (if (!ds.isEmpty) then 1 else 0))) (enc := nI) (T := fun _ c => c = true) (P := fun _ => Xp (· ∈ ds) fun z => D z) (itr_range (n := many * (if (!ds.isEmpty) then 1 else 0)) b.range (Ev.eq (ev_mul (i := (many : Nat)) (j := if (!ds.isEmpty) then 1 else 0) (ev_v 2) (ev_intB (b := !ds.isEmpty) b.int (Ev.eq (ev_cmp c_neD (ev_v 1) (ev_lst (ds := []) ea_nil) (rv_neD hn'.nice ni_nilL.nice)) (by rw [eqv_nil]))) (.inl ⟨by omega, by omega⟩)) (by split <;> simp)) (by split <;> omega)) (by simp; split <;> omega) fun i k hk => ?_).le (lc_map (φ := fun _ y => y ∈ ds) (enc := fun z => z))) ?_
  · have hk' := List.mem_range.mp (List.mem_of_getElem? hk)
    have hpos : 0 < ds.length := by
      cases ds with
      | nil => simp at hk'
      | cons x xs => simp
    exact ⟨_, tg_name 3, ets_nil, fun _ => ev_pickL (ds := ds) (ev_v 1) (ev_pick cP 0 (ev_v 0) (ev_lenL (ds := ds) b.len (ev_v 1)) hpos (by omega)) fun d hd => Xp.of (P := fun z => D z) (x := d) hd⟩
  · refine Xp.le (β := Nat) fun zs hz => ?_
    obtain ⟨_, h2⟩ := paired_in hz
    rw [List.map_id']
    exact Xp.of (P := fun zs : List PyData => D (.list zs)) (x := zs) h2
/-! ### the events asked of -/
def clE (c : Cla) : List Evt := c.conds ++ lvE c.leave
def evsOf (d : Deal) : List Evt := ((List.range d.houses.length).map Evt.joined ++ [Evt.said 0 (d.houses.getD 0 (Str.ofString ""))]) ++ (d.clauses.map clE).flatten
theorem clE_ok {t : Town} {w : Str} {d : Deal} {c : Cla} (h : ClaOk t w d c) : ∀ e ∈ clE c, EvtOk t w d e := fun e he => by
  rcases List.mem_append.mp he with he | he
  · exact h.ev e he
  · cases q : c.leave with
    | none => rw [q] at he; cases he
    | some p =>
      rw [q] at he
      have e' : e = p.1 := by simpa [lvE] using he
      rw [e']; exact h.lv p.1 p.2 q
theorem clE_len {t : Town} {w : Str} {d : Deal} {c : Cla} (h : ClaOk t w d c) : (clE c).length ≤ 101 := by
  unfold clE
  rw [List.length_append]
  have := h.conds
  cases c.leave <;> simp [lvE] <;> omega
theorem evsOf_ok {t : Town} {w : Str} {d : Deal} (dk : DealOk t w d) : ∀ e ∈ evsOf d, EvtOk t w d e := fun e he => by
  have hh := dk.hs
  unfold evsOf at he
  rcases List.mem_append.mp he with he | he
  · rcases List.mem_append.mp he with he | he
    · obtain ⟨i, hi, rfl⟩ := List.mem_map.mp he
      exact List.mem_range.mp hi
    · have e' : e = .said 0 (d.houses.getD 0 (Str.ofString "")) := by simpa using he
      rw [e']
      exact ⟨by show 0 < d.houses.length; omega, dk.hk _ (List.mem_of_getElem? (house_at (by omega)))⟩
  · obtain ⟨xs, hxs, hx⟩ := List.mem_flatten.mp he
    obtain ⟨c, hc, rfl⟩ := List.mem_map.mp hxs
    exact clE_ok (dk.cl c hc) e hx
def SpEvents : Sp := Spc (NoR (α := Town × Str × Deal)) (fun a => TownOk a.1 ∧ lookG a.1.deals a.2.1 = some a.2.2) (fun a => [TownP a.1, D (.str a.2.1)]) (fun a => D (.list ((evsOf a.2.2).map evD)))
theorem sc_events : FnScope ["_law_town_here", "_law_deal", "_law_houses", "_law_others", "_law_close", "_law_clauses_here", "_law_found", "_law_clause", "_law_h"] ["_law_town_here", "_law_deal"] (defScope s_law_events) := ⟨rfl, rfl, rfl, by decide +kernel, rfl, by decide +kernel, by decide +kernel⟩
theorem ok_events (Fd : FnP S "_law_events" s_law_events f fd) (b : Bi S) : OkF S 1 f fd ["_law_town_here", "_law_deal"] SpEvents := by
  refine fn_ok Fd sc_events (fun _ => rfl) noR fun ⟨t, w, d⟩ hok => ?_
  obtain ⟨ht, hd⟩ : TownOk t ∧ lookG t.deals w = some d := hok
  have dk := ht.ok w d hd
  have hh := dk.hs
  have hcs := dk.cs
  refine hr_asg (vs := [2, 3, 4, 5]) (P := D (dealD d)) (ev_deal (ev_v 0) (ev_v 1) hd) (tg_tup (n := 4) (ds := dlA d) (tgs_cons (tg_name 2) (tgs_cons (tg_name 3) (tgs_cons (tg_name 4) (tgs_cons (tg_name 5) tgs_nil))))) ?_
  have hh0 := house_at (d := d) (h := 0) (by omega)
  refine hr_gam (Γ' := [some (TownP t), some (D (.str w)), some (D (sD d.houses)), some (D (sD d.others)), some (D (.int d.close)), some (D (.tuple (d.clauses.map claD))), none, none, none]) rfl ?_
  refine hr_newCat 6 (ds := ((List.range d.houses.length).map Evt.joined).map evD) (es' := [evD (Evt.said 0 (d.houses.getD 0 (Str.ofString "")))]) ((ev_lc [("_law_h", 8)] (xs := List.range d.houses.length) (enc := nI) (T := fun _ c => c = true) (P := fun h => D (evD (.joined h))) (itr_range (n := d.houses.length) b.range (Ev.eq (ev_lenT (ds := d.houses.map .str) b.len (ev_v 2)) (by rw [List.length_map])) (by omega)) (by simp; omega) fun i h hi => ?_).le (lc_mapD.trans (by rw [List.map_map]; exact .rfl))) (ev_lst (ds := [evD (Evt.said 0 (d.houses.getD 0 (Str.ofString "")))]) (ea1 (ev_tup (ds := [.str "said", .int ((0 : Nat) : Int), .str (d.houses.getD 0 (Str.ofString ""))]) (ea_cons ev_str (ea2 ev_int (ev_ixT (ds := d.houses.map .str) (d := .str (d.houses.getD 0 (Str.ofString ""))) (ev_v 2) ev_int (atS (k := 0) hh0))))))) (by simp; omega) fun p => ?_
  · exact ⟨_, tg_name 8, ets_nil, fun _ => ev_tup (ds := [.str "joined", .int (h : Nat)]) (ea2 ev_str (ev_v 8))⟩
  refine hr_for (ds := d.clauses.map claD) (itr_T (ev_v 5)) (fun i L' Γ' => ∃ (o7 : Option MP), L' = [⟨p, ListR ((((List.range d.houses.length).map Evt.joined ++ [Evt.said 0 (d.houses.getD 0 (Str.ofString ""))]) ++ ((d.clauses.take i).map clE).flatten).map evD), true⟩] ∧ Γ' = [some (TownP t), some (D (.str w)), some (D (sD d.houses)), some (D (sD d.others)), some (D (.int d.close)), some (D (.tuple (d.clauses.map claD))), some (IsV (.ref p)), o7, none]) ⟨_, ?_, rfl⟩ (fun i dd L' Γ' hdd hI => ?_) fun L' Γ' hI => ?_
  · show [(⟨p, ListR (((List.range d.houses.length).map Evt.joined).map evD ++ [evD (Evt.said 0 (d.houses.getD 0 (Str.ofString "")))]), true⟩ : Rs)] = _
    simp only [List.take_zero, List.map_nil, List.flatten_nil, List.append_nil, List.map_append, List.map_cons]
  · obtain ⟨o7, hL, hΓ⟩ := hI
    subst hL hΓ
    rw [List.getElem?_map] at hdd
    cases q : d.clauses[i]? with
    | none => rw [q] at hdd; cases hdd
    | some c =>
      rw [q] at hdd
      cases hdd
      have hi : i < d.clauses.length := (List.getElem?_eq_some_iff.mp q).1
      have ck := dk.cl c (List.mem_of_getElem? q)
      have hcl := clE_len ck
      obtain ⟨lxs, hlx, hlt⟩ := leave_take c.leave
      refine ⟨[7], _, tg_name 7, ?_⟩
      rw [take_flat q, ← List.append_assoc, List.map_append (l₂ := clE c)]
      have hfl : (((d.clauses.take i).map clE).flatten).length ≤ 12 * 101 := by
        refine Nat.le_trans (flatten_le (k := 101) fun x hx => ?_) ?_
        · obtain ⟨c', hc', rfl⟩ := List.mem_map.mp hx
          exact clE_len (dk.cl c' (List.mem_of_mem_take hc'))
        · rw [List.length_map, List.length_take]
          exact Nat.mul_le_mul_right _ (by omega)
      generalize ((d.clauses.take i).map clE).flatten = fl at hfl ⊢
      refine hr_extendT 0 6 (es' := (clE c).map evD) (Ev.eq (ev_catT (ds := c.conds.map evD) (es := (lvE c.leave).map evD) (ev_ixT (ds := clA c) (d := .tuple (c.conds.map evD)) (ev_v 7) ev_int rfl) (Ev.eq (ev_slTto (ds := lxs) (n := 1) (Ev.eq (ev_ixT (ds := clA c) (d := leaveD c.leave) (ev_v 7) ev_int rfl) hlx) ev_int) (by rw [hlt])) ?_) (by unfold clE; rw [List.map_append])) (hr_nil ⟨_, rfl, rfl⟩) ?_
      · have : (c.conds ++ lvE c.leave).length ≤ 101 := hcl
        rw [List.length_append] at this
        rw [List.length_map, List.length_map]; omega
      · simp only [List.length_map, List.length_append, List.length_range, List.length_singleton]; omega
  · obtain ⟨o7, hL, hΓ⟩ := hI
    subst hL hΓ
    rw [List.length_map, List.take_length]
    exact hr_freezeL 0 6 (hr_ret (ev_v 6) .rfl)
/-! ### ringed, cut -/
def SpRinged : Sp := Spc (fun a : Addr × List Letter => [⟨a.1, LeftR, false⟩]) (fun a => PileR a.2) (fun a => [IsV (.ref a.1), D (.list (a.2.map ltD))]) (fun _ => Xp PileR fun ls => D (.list (ls.map ltD)))
theorem PileI.ring {xs ys : List Letter} {l : Letter} {pv : Int} (h : PileI (xs ++ l :: ys)) : PileI (xs ++ { l with prev := pv } :: ys) := by
  have mem : ∀ {y}, y ∈ xs ++ { l with prev := pv } :: ys → y = { l with prev := pv } ∨ y ∈ xs ++ l :: ys := fun hy => by
    rcases List.mem_append.mp hy with hy | hy
    · exact .inr (List.mem_append_left _ hy)
    · rcases List.mem_cons.mp hy with e | hy
      · exact .inl e
      · exact .inr (List.mem_append_right _ (List.mem_cons_of_mem _ hy))
  have hl : l ∈ xs ++ l :: ys := List.mem_append_right _ List.mem_cons_self
  have hlen : (xs ++ { l with prev := pv } :: ys).length = (xs ++ l :: ys).length := by simp
  refine ⟨fun y hy => ?_, fun y hy => ?_, ?_, fun y hy => ?_⟩
  · rcases mem hy with e | hy
    · rw [e]; have := h.ok l hl; exact ⟨this.h, this.d, this.g, this.e, this.m⟩
    · exact h.ok y hy
  · rw [hlen]
    rcases mem hy with e | hy
    · rw [e]; exact h.nr l hl
    · exact h.nr y hy
  · have : (xs ++ { l with prev := pv } :: ys).map Letter.name = (xs ++ l :: ys).map Letter.name := by rw [List.map_append, List.map_append]; rfl
    rw [this]; exact h.nod
  · rcases mem hy with e | hy
    · rw [e]; exact h.gots l hl
    · exact h.gots y hy
theorem sc_ringed : FnScope ["_law_left_here", "_law_pile_here", "_law_at", "_law_letter_here", "_law_prev"] ["_law_left_here", "_law_pile_here"] (defScope s_law_ringed) := ⟨rfl, rfl, rfl, by decide +kernel, rfl, by decide +kernel, by decide +kernel⟩
theorem ok_ringed (Fd : FnP S "_law_ringed" s_law_ringed f fd) (b : Bi S) (cP : Cl S "_law_pick" 1 SpPick) (cL : Cl S "_law_last" 1 SpLast) : OkF S 2 f fd ["_law_left_here", "_law_pile_here"] SpRinged := by
  refine fn_ok Fd sc_ringed (fun _ => rfl) (hloc2 (g := fun a : Addr × List Letter => a.1)) fun ⟨l, ls⟩ hok => ?_
  obtain ⟨hp, hl⟩ : PileI ls ∧ ls.length ≤ 30 := hok
  refine hr_ifR (T := fun c => c = false → ls ≠ []) (et_w (ew_or (T1 := fun c => c = false → ls ≠ []) ((et_cmp c_eqD (ev_v 1) (ev_lst (ds := []) ea_nil) (rv_eqD (lts_ni hp.ok).nice ni_nilL.nice).bo).le fun c hc hct => ?_) (fun _ => ew_or1 (T := fun _ => True) (et_cmp c_gt (ev_pick cP 0 (ev_v 0) ev_int (by decide) (by decide)) ev_int (rv_exL fun r _ => rv_gt.le (BoolP.of True.intro)))) fun c hc hct => ?_)) (fun _ => ?_) fun hT => ?_
  · rw [hc, eqv_emp] at hct
    intro e
    rw [e] at hct
    exact absurd hct (by decide)
  · rcases hc with ⟨h1, _⟩ | ⟨_, h2⟩
    · exact h1 rfl
    · rw [h2] at hct; cases hct
  · exact hr_ret (ev_v 1) (Xp.of (P := fun ls : List Letter => D (.list (ls.map ltD))) (x := ls) ⟨hp, hl⟩)
  · have hpos : 0 < ls.length := List.length_pos_iff.mpr (hT rfl)
    refine hr_set 2 (P := LtP ls.length) (ev_pick cP 0 (ev_v 0) (Ev.eq (ev_lenL (ds := ls.map ltD) b.len (ev_v 1)) (by rw [List.length_map])) hpos (by omega)) ?_
    refine hr_ex 2 rfl fun at' hat => ?_
    have hat' : at' < ls.length := hat
    have hg : ls[at']? = some ls[at'] := List.getElem?_eq_getElem hat'
    have hsplit : ls = ls.take at' ++ ls[at'] :: ls.drop (at' + 1) := by rw [List.getElem_cons_drop, List.take_append_drop]
    generalize ls[at'] = x at hg hsplit
    have hx := hp.ok x (List.mem_of_getElem? hg)
    refine hr_set 3 (P := D (ltD x)) (ev_ixL (ds := ls.map ltD) (d := ltD x) (ev_v 1) (ev_v 2) (atM hg)) ?_
    refine hr_set 4 (P := AnyI) (ev_call cL (ls, x.house, x.deal) ⟨hp.ok, by show ls.length ≤ 1000; omega, hx.h, hx.d⟩ (ea_cons (ev_v 1) (ea2 (ev_ixT (ds := ltA x) (d := .str x.house) (ev_v 3) ev_int rfl) (ev_ixT (ds := ltA x) (d := .str x.deal) (ev_v 3) ev_int rfl)))) ?_
    refine hr_ex 4 rfl fun pv _ => ?_
    have hn : PileI (ls.take at' ++ { x with prev := pv } :: ls.drop (at' + 1)) := by
      rw [hsplit] at hp
      have h2 := hp.ring (pv := pv)
      exact h2
    refine hr_ret (ev_catL (ds := (ls.map ltD).take at' ++ [ltD { x with prev := pv }]) (es := (ls.map ltD).drop (at' + 1)) (ev_catL (ds := (ls.map ltD).take at') (es := [ltD { x with prev := pv }]) (ev_slLto (n := at') (ev_v 1) (ev_v 2)) (ev_lst (ds := [ltD { x with prev := pv }]) (ea1 (Ev.eq (ev_catT (ds := [.str x.house, .str x.deal, .int x.nr] ++ [.int pv]) (es := [.tuple (x.gots.map nD), .int x.time, x.deed]) (ev_catT (ds := [.str x.house, .str x.deal, .int x.nr]) (es := [.int pv]) (ev_slTto (ds := ltA x) (n := 3) (ev_v 3) ev_int) (ev_tup (ds := [.int pv]) (ea1 (ev_v 4))) (by simp)) (ev_slTfrom (ds := ltA x) (n := 4) (ev_v 3) ev_int) (by simp)) rfl))) ?_) (ev_slLfrom (n := at' + 1) (ev_v 1) (ev_addN (m := 1) (ev_v 2) ev_int)) ?_) fun G v p => ⟨_, ⟨hn, ?_⟩, ?_⟩
    · simp only [List.length_take, List.length_map, List.length_singleton]; omega
    · simp only [List.length_append, List.length_take, List.length_drop, List.length_map, List.length_singleton]; omega
    · rw [List.length_append, List.length_cons, List.length_take, List.length_drop]; omega
    · show Dg G v (.list ((ls.take at' ++ { x with prev := pv } :: ls.drop (at' + 1)).map ltD))
      have p' : Dg G v (.list (((ls.map ltD).take at' ++ [ltD { x with prev := pv }]) ++ (ls.map ltD).drop (at' + 1))) := p
      rw [List.map_append, List.map_cons, List.map_take, List.map_drop]
      rw [List.append_assoc] at p'
      exact p'
def SpCut : Sp := Spc (fun a : Addr × List Letter => [⟨a.1, LeftR, false⟩]) (fun a => a.2.length ≤ 1000) (fun a => [IsV (.ref a.1), D (.list (a.2.map ltD))]) (fun a => Xp (fun ys : List Letter => ys.Sublist a.2) fun ls => D (.list (ls.map ltD)))
theorem sc_cut : FnScope ["_law_left_here", "_law_pile_here", "_law_many", "_law_letter_here"] ["_law_left_here", "_law_pile_here"] (defScope s_law_cut) := ⟨rfl, rfl, rfl, by decide +kernel, rfl, by decide +kernel, by decide +kernel⟩
theorem ok_cut (Fd : FnP S "_law_cut" s_law_cut f fd) (b : Bi S) (cP : Cl S "_law_pick" 1 SpPick) : OkF S 2 f fd ["_law_left_here", "_law_pile_here"] SpCut := by
  refine fn_ok Fd sc_cut (fun _ => rfl) (hloc2 (g := fun a : Addr × List Letter => a.1)) fun ⟨l, ls⟩ hok => ?_
  have hl : ls.length ≤ 1000 := hok
  refine hr_set 2 (P := InP [0, 6, 3, 2, 4]) (ev_pickN (ns := [0, 6, 3, 2, 4]) (ev_lst (ds := [0, 6, 3, 2, 4].map nI) (ea_cons ev_int (ea_cons ev_int (ea_cons ev_int (ea2 ev_int ev_int))))) (ev_pick cP 0 (ev_v 0) ev_int (by decide) (by decide))) ?_
  refine hr_ex 2 rfl fun many hm => ?_
  have hm6 : many ≤ 6 := by
    have hm' : many ∈ [0, 6, 3, 2, 4] := hm
    simp only [List.mem_cons, List.not_mem_nil, or_false] at hm'
    omega
  refine hr_ret ((ev_lc [("_law_letter_here", 3)] (xs := ls) (enc := ltD) (T := fun _ _ => True) (P := fun x => D (ltD x)) (itr_L (ev_v 1)) (by omega) fun i x _ => ⟨_, tg_name 3, ets_one (et_w (ew_or (T1 := fun c => c = false → many ≠ 0) ((et_cmp c_eq (ev_v (P := D (.int (many : Nat))) 2) ev_int rv_eqI.bo).le fun c hc hct e => ?_) (fun h0 => ew_or1 (T := fun _ => True) (et_cmp c_gt (ev_pick cP 0 (ev_v 0) (ev_v (P := D (.int (many : Nat))) 2) (Nat.pos_of_ne_zero (h0 rfl)) (by omega)) ev_int (rv_exL fun r _ => rv_gt.le (BoolP.of True.intro)))) fun _ _ => True.intro)), fun _ => ev_v 3⟩).le lc_subD) .rfl
  rw [hc, e] at hct
  exact absurd hct (by decide)
end
end Hw
set_option Elab.async false
set_option linter.all false
set_option maxRecDepth 100000
set_option maxHeartbeats 1000000
namespace Hw
open PySem PySem.Spec

/-! ### lookups by name -/
theorem byNames_fold {l : Letter} {n : Nm} : ∀ (ls : List Letter) (nd : Nd), (ls.map Letter.name).Nodup → (lookG (ls.foldl (fun nd l => putG nd l.name l) nd) n = some l ↔ (l ∈ ls ∧ l.name = n) ∨ ((∀ x ∈ ls, x.name ≠ n) ∧ lookG nd n = some l))
  | [], nd, _ => by simp
  | x :: ls, nd, h => by
    rw [List.map_cons] at h
    have h' := List.nodup_cons.mp h
    rw [List.foldl_cons, byNames_fold ls _ h'.2, lookG_putG]
    have hx : ∀ y ∈ ls, y.name ≠ x.name := fun y hy e => h'.1 (by rw [← e]; exact List.mem_map.mpr ⟨y, hy, rfl⟩)
    constructor
    · rintro (⟨h1, h2⟩ | ⟨h1, h2⟩)
      · exact .inl ⟨List.mem_cons_of_mem _ h1, h2⟩
      · by_cases e : n = x.name
        · rw [if_pos e] at h2
          cases h2
          exact .inl ⟨List.mem_cons_self, e.symm⟩
        · rw [if_neg e] at h2
          refine .inr ⟨fun y hy => ?_, h2⟩
          rcases List.mem_cons.mp hy with rfl | hy
          · exact fun z => e z.symm
          · exact h1 y hy
    · rintro (⟨h1, h2⟩ | ⟨h1, h2⟩)
      · rcases List.mem_cons.mp h1 with rfl | h1
        · right
          exact ⟨fun y hy => by rw [← h2]; exact hx y hy, by rw [if_pos h2.symm]⟩
        · exact .inl ⟨h1, h2⟩
      · right
        exact ⟨fun y hy => h1 y (List.mem_cons_of_mem _ hy), by rw [if_neg (fun z => h1 x List.mem_cons_self z.symm)]; exact h2⟩
theorem byNames_look {ls : List Letter} (h : (ls.map Letter.name).Nodup) {n : Nm} {l : Letter} : lookG (byNames ls) n = some l ↔ l ∈ ls ∧ l.name = n := by
  unfold byNames
  rw [byNames_fold ls [] h]
  simp [lookG]
/-! ### paths -/
def nxt (n : Nm) (l : Letter) : Nm := (n.1, n.2.1, l.prev)
inductive Path (nd : Nd) (n : Nm) : Nm → Prop where
  | refl : Path nd n n
  | step {m : Nm} {l : Letter} : Path nd n m → lookG nd m = some l → Path nd n (nxt m l)
theorem Path.trans {nd : Nd} {n m k : Nm} (h : Path nd n m) (h2 : Path nd m k) : Path nd n k := by
  induction h2 with
  | refl => exact h
  | step _ e ih => exact ih.step e
theorem Path.hd {nd : Nd} {n m : Nm} (h : Path nd n m) : m.1 = n.1 ∧ m.2.1 = n.2.1 := by
  induction h with
  | refl => exact ⟨rfl, rfl⟩
  | step _ _ ih => exact ih
theorem Path.mono {C N : Nd} (sub : ∀ n l, lookG C n = some l → lookG N n = some l) {n m : Nm} (h : Path C n m) : Path N n m := by
  induction h with
  | refl => exact .refl
  | step _ e ih => exact ih.step (sub _ _ e)
theorem Path.stuck {nd : Nd} {n m : Nm} (h : Path nd n m) (e : lookG nd n = none) : m = n := by
  induction h with
  | refl => rfl
  | step _ h2 ih => rw [ih, e] at h2; cases h2
structure Walk (nd : Nd) (n0 : Nm) (met : Nd) (n : Nm) : Prop where
  ok : MetOk nd met
  nx : ∀ p ∈ met, nxt p.1 p.2 ∈ met.map (·.1) ∨ nxt p.1 p.2 = n
  st : n0 ∈ met.map (·.1) ∨ n0 = n
  last : ∀ p, met.getLast? = some p → nxt p.1 p.2 = n
  pa : ∀ p ∈ met, Path nd n0 p.1
  pn : Path nd n0 n
theorem Walk.go {nd : Nd} {n0 : Nm} : ∀ (f : Nat) (n : Nm) (met : Nd), Walk nd n0 met n → nd.length + 1 ≤ f + met.length → ∃ z, Walk nd n0 (rowGo nd f n met) z ∧ (lookG nd z = none ∨ z ∈ (rowGo nd f n met).map (·.1))
  | 0, n, met, h, hf => by
    have := h.ok.len
    omega
  | f + 1, n, met, h, hf => by
    cases e : lookG nd n with
    | none => rw [rowGo_stop (.inl e)]; exact ⟨n, h, .inl e⟩
    | some l =>
      cases e2 : (lookG met n).isSome with
      | true => rw [rowGo_stop (.inr e2)]; exact ⟨n, h, .inr (lookG_isSome.mp e2)⟩
      | false =>
        rw [rowGo_step e e2]
        refine Walk.go f _ _ ⟨h.ok.snoc e e2, fun p hp => ?_, ?_, fun p hp => ?_, fun p hp => ?_, h.pn.step e⟩ ?_
        · rw [List.map_append]
          rcases List.mem_append.mp hp with hp | hp
          · rcases h.nx p hp with q | q
            · exact .inl (List.mem_append.mpr (.inl q))
            · exact .inl (List.mem_append.mpr (.inr (by rw [q]; simp)))
          · have ep : p = (n, l) := by simpa using hp
            rw [ep]; exact .inr rfl
        · rw [List.map_append]
          rcases h.st with q | q
          · exact .inl (List.mem_append.mpr (.inl q))
          · exact .inl (List.mem_append.mpr (.inr (by rw [q]; simp)))
        · rw [List.getLast?_append] at hp
          have ep : (n, l) = p := by simpa using hp
          rw [← ep]; rfl
        · rcases List.mem_append.mp hp with hp | hp
          · exact h.pa p hp
          · have ep : p = (n, l) := by simpa using hp
            rw [ep]; exact h.pn
        · rw [List.length_append, List.length_singleton]; omega
theorem walk_of (nd : Nd) (n : Nm) : ∃ z, Walk nd n (metOf nd n) z ∧ (lookG nd z = none ∨ z ∈ (metOf nd n).map (·.1)) :=
  Walk.go _ _ _ ⟨.nil, fun p hp => absurd hp (by simp), .inr rfl, fun p hp => absurd hp (by simp), fun p hp => absurd hp (by simp), .refl⟩ (by simp)
theorem Walk.reach {nd met : Nd} {n z : Nm} (w : Walk nd n met z) (hz : lookG nd z = none ∨ z ∈ met.map (·.1)) {m : Nm} (h : Path nd n m) : m ∈ met.map (·.1) ∨ m = z := by
  induction h with
  | refl => exact w.st
  | @step m l _ e ih =>
    have hm : m ∈ met.map (·.1) := by
      rcases ih with ih | ih
      · exact ih
      · rcases hz with hz | hz
        · rw [ih, hz] at e; cases e
        · rw [ih]; exact hz
    obtain ⟨p, hp, ep⟩ := List.mem_map.mp hm
    have h1 := w.ok.mem p hp
    rw [ep, e] at h1
    have h2 := w.nx p hp
    rw [ep, ← Option.some.inj h1] at h2
    exact h2
theorem mem_rowOf {nd : Nd} {n : Nm} {l : Letter} : l ∈ rowOf nd n ↔ ∃ m, Path nd n m ∧ lookG nd m = some l := by
  obtain ⟨z, w, hz⟩ := walk_of nd n
  unfold rowOf
  rw [List.mem_reverse, List.mem_map]
  constructor
  · rintro ⟨p, hp, e⟩
    exact ⟨p.1, w.pa p hp, by rw [← e]; exact w.ok.mem p hp⟩
  · rintro ⟨m, h1, h2⟩
    have hm : m ∈ (metOf nd n).map (·.1) := by
      rcases w.reach hz h1 with h | h
      · exact h
      · rcases hz with hz | hz
        · rw [h, hz] at h2; cases h2
        · rw [h]; exact hz
    obtain ⟨p, hp, ep⟩ := List.mem_map.mp hm
    have h3 := w.ok.mem p hp
    rw [ep, h2] at h3
    exact ⟨p, hp, (Option.some.inj h3).symm⟩
theorem rowOf_first {nd : Nd} {n : Nm} : (rowOf nd n)[0]? = (metOf nd n).getLast?.map (·.2) := by
  unfold rowOf
  rw [← List.head?_eq_getElem?, List.head?_reverse, List.getLast?_map]
/-- where the row of a name leaves what is known -/
theorem gap_iff {nd : Nd} (hn : ∀ n l, lookG nd n = some l → l.name = n) {g x : Nm} : gapOf nd g = some x ↔ Path nd g x ∧ lookG nd x = none ∧ (lookG nd g = none ∨ x.2.2 ≠ 0) := by
  obtain ⟨z, w, hz⟩ := walk_of nd g
  have hx : ∀ {x}, Path nd g x → lookG nd x = none → x = z := fun h1 h2 => by
    rcases w.reach hz h1 with h | h
    · obtain ⟨p, hp, ep⟩ := List.mem_map.mp h
      have := w.ok.mem p hp
      rw [ep, h2] at this; cases this
    · exact h
  unfold gapOf
  cases e : lookG nd g with
  | none =>
    constructor
    · intro h
      have h' : g = x := Option.some.inj h
      subst h'
      exact ⟨.refl, e, .inl rfl⟩
    · rintro ⟨h1, _, _⟩
      rw [h1.stuck e]
  | some l0 =>
    simp only
    have hp := rowOf_pos e
    have h0 : (rowOf nd g)[0]? = some (rowOf nd g)[0] := List.getElem?_eq_getElem hp
    rw [rowOf_first] at h0 ⊢
    cases e3 : (metOf nd g).getLast? with
    | none => rw [e3] at h0; cases h0
    | some p =>
      have h1 := w.last p e3
      have h2 := hn _ _ (w.ok.mem p (List.mem_of_getLast? e3))
      have h3 : (p.2.house, p.2.deal, p.2.prev) = z := by
        rw [← h1]
        unfold nxt
        rw [← h2]; rfl
      show (match ahead p.2 with | none => none | some n => if (lookG nd n).isSome then none else some n) = some x ↔ _
      unfold ahead
      rw [h3]
      have h4 : z.2.2 = p.2.prev := by rw [← h3]
      by_cases h5 : p.2.prev = 0
      · rw [if_pos h5]
        constructor
        · intro h; cases h
        · rintro ⟨q1, q2, q3⟩
          rw [hx q1 q2, h4] at q3
          rcases q3 with q3 | q3
          · cases q3
          · exact absurd h5 q3
      · rw [if_neg h5]
        simp only
        cases e6 : lookG nd z with
        | none =>
          constructor
          · intro h
            have h' : z = x := Option.some.inj h
            rw [← h']
            exact ⟨w.pn, e6, .inr (by rw [h4]; exact h5)⟩
          · rintro ⟨q1, q2, _⟩
            rw [hx q1 q2]; rfl
        | some y =>
          constructor
          · intro h; cases h
          · rintro ⟨q1, q2, _⟩
            rw [hx q1 q2, e6] at q2
            cases q2
/-! ### a part of the pile -/
structure Cut (N C : Nd) : Prop where
  nm : ∀ n l, lookG N n = some l → l.name = n
  sub : ∀ n l, lookG C n = some l → lookG N n = some l
  nr : ∀ n l, lookG N n = some l → 1 ≤ l.nr
  gots : ∀ n l, lookG N n = some l → ∀ g ∈ l.gots, ¬ (g.1 = l.house ∧ g.2.1 = l.deal)
theorem Cut.row_sub {N C : Nd} (h : Cut N C) {g : Nm} {l : Letter} (hl : l ∈ rowOf C g) : l ∈ rowOf N g := by
  obtain ⟨m, h1, h2⟩ := mem_rowOf.mp hl
  exact mem_rowOf.mpr ⟨m, h1.mono h.sub, h.sub _ _ h2⟩
theorem Cut.exit {N C : Nd} (h : Cut N C) {g m : Nm} (p : Path N g m) : Path C g m ∨ ∃ x, Path C g x ∧ lookG C x = none ∧ Path N x m := by
  induction p with
  | refl => exact .inl .refl
  | @step m l _ e ih =>
    rcases ih with ih | ⟨x, h1, h2, h3⟩
    · cases q : lookG C m with
      | none => exact .inr ⟨m, ih, q, Path.refl.step e⟩
      | some l' =>
        have := h.sub _ _ q
        rw [e] at this
        rw [← Option.some.inj this] at q
        exact .inl (ih.step q)
    · exact .inr ⟨x, h1, h2, h3.step e⟩
/-- a letter of the whole row lies in the cut row or behind its gap -/
theorem Cut.behind {N C : Nd} (h : Cut N C) {g : Nm} {l : Letter} (hl : l ∈ rowOf N g) : l ∈ rowOf C g ∨ ∃ x, gapOf C g = some x ∧ Path N x l.name := by
  obtain ⟨m, h1, h2⟩ := mem_rowOf.mp hl
  have hm := h.nm _ _ h2
  have key : ∀ x, Path C g x → lookG C x = none → Path N x m → l ∈ rowOf C g ∨ ∃ x, gapOf C g = some x ∧ Path N x l.name := fun x a b c => by
    right
    refine ⟨x, (gap_iff fun n l hl => h.nm _ _ (h.sub _ _ hl)).mpr ⟨a, b, ?_⟩, by rw [hm]; exact c⟩
    right
    intro hx
    have : lookG N x = none := by
      cases q : lookG N x with
      | none => rfl
      | some y =>
        have q1 := h.nr _ _ q
        have q2 := h.nm _ _ q
        have q3 : y.nr = x.2.2 := by rw [← q2]; rfl
        omega
    rw [c.stuck this, this] at h2
    cases h2
  rcases h.exit h1 with q | ⟨x, a, b, c⟩
  · cases q2 : lookG C m with
    | none => exact key m q q2 .refl
    | some l' =>
      have := h.sub _ _ q2
      rw [h2] at this
      rw [← Option.some.inj this] at q2
      exact .inl (mem_rowOf.mpr ⟨m, q, q2⟩)
  · exact key x a b c
theorem Cut.behind_of {N C : Nd} (h : Cut N C) {g x : Nm} {l : Letter} (h1 : gapOf C g = some x) (h2 : Path N x l.name) (h3 : lookG N l.name = some l) : l ∈ rowOf N g :=
  mem_rowOf.mpr ⟨l.name, (((gap_iff fun n l hl => h.nm _ _ (h.sub _ _ hl)).mp h1).1.mono h.sub).trans h2, h3⟩
/-- a row that begins at nothing is whole -/
theorem Cut.row_go {N C : Nd} (h : Cut N C) : ∀ (f f' : Nat) (n : Nm) (met : Nd), MetOk C met → C.length + 1 ≤ f + met.length → N.length + 1 ≤ f' + met.length → (∀ p, met.getLast? = some p → n = nxt p.1 p.2) → (met = [] → (lookG C n).isSome = true) → (∀ p, (rowGo C f n met).getLast? = some p → p.2.prev = 0) → rowGo N f' n met = rowGo C f n met
  | 0, f', n, met, ok, h1, _, _, _, _ => by
    have := ok.len
    omega
  | f + 1, f', n, met, ok, h1, h2, h3, h4, h5 => by
    have okN : MetOk N met := ⟨ok.nod, fun p hp => h.sub _ _ (ok.mem p hp)⟩
    have := okN.len
    obtain ⟨f', rfl⟩ : ∃ k, f' = k + 1 := ⟨f' - 1, by omega⟩
    cases e : lookG C n with
    | none =>
      rw [rowGo_stop (.inl e)] at h5 ⊢
      refine rowGo_stop (.inl ?_) _
      cases q : met.getLast? with
      | none =>
        rw [List.getLast?_eq_none_iff] at q
        have := h4 q
        rw [e] at this; cases this
      | some p =>
        have p1 := h3 p q
        have p2 := h5 p q
        cases q2 : lookG N n with
        | none => rfl
        | some y =>
          have q1 := h.nr _ _ q2
          have q3 := h.nm _ _ q2
          have q4 : y.nr = n.2.2 := by rw [← q3]; rfl
          have q5 : n.2.2 = 0 := by rw [p1]; exact p2
          omega
    | some l =>
      cases e2 : (lookG met n).isSome with
      | true => rw [rowGo_stop (.inr e2), rowGo_stop (.inr e2)]
      | false =>
        rw [rowGo_step e e2] at h5 ⊢
        rw [rowGo_step (h.sub _ _ e) e2]
        refine Cut.row_go h f f' _ _ (ok.snoc e e2) ?_ ?_ (fun p hp => ?_) (fun z => absurd z (by simp)) h5
        · rw [List.length_append, List.length_singleton]; omega
        · rw [List.length_append, List.length_singleton]; omega
        · rw [List.getLast?_append] at hp
          have ep : (n, l) = p := by simpa using hp
          rw [← ep]; rfl
theorem Cut.row_eq {N C : Nd} (h : Cut N C) {n : Nm} (h1 : (lookG C n).isSome = true) (h2 : ∀ l, (rowOf C n)[0]? = some l → l.prev = 0) : rowOf N n = rowOf C n := by
  have : metOf N n = metOf C n := by
    refine h.row_go _ _ _ _ .nil (by simp) (by simp) (fun p hp => absurd hp (by simp)) (fun _ => h1) fun p hp => ?_
    refine h2 p.2 ?_
    rw [rowOf_first]
    unfold metOf
    rw [hp]; rfl
  unfold rowOf
  rw [this]
end Hw
set_option Elab.async false
set_option linter.all false
set_option maxRecDepth 100000
set_option maxHeartbeats 1000000
namespace Hw
open PySem PySem.Spec

/-! ### what is seen at a place -/
def Vis (nd : Nd) (row : List Letter) (k : Nat) (l : Letter) : Prop := ∃ i z, k = i + 1 ∧ row[i]? = some z ∧ (l = z ∨ ∃ g ∈ z.gots, l ∈ rowOf nd g)
theorem sees_mem {nd : Nd} {row : List Letter} {k : Nat} {l : Letter} : ∀ j, (k, l) ∈ seesOf nd row j ↔ Vis nd row k l ∧ k ≤ j
  | 0 => by
    constructor
    · intro h; cases h
    · rintro ⟨⟨i, z, e, _⟩, h⟩; omega
  | j + 1 => by
    have ih := sees_mem (nd := nd) (row := row) (k := k) (l := l) j
    show (k, l) ∈ (match row[j]? with | some l => (seesOf nd row j ++ [(j + 1, l)]) ++ (l.gots.map fun g => (rowOf nd g).map fun o => (j + 1, o)).flatten | none => seesOf nd row j) ↔ _
    cases e : row[j]? with
    | none =>
      simp only
      rw [ih]
      constructor
      · rintro ⟨h1, h2⟩; exact ⟨h1, by omega⟩
      · rintro ⟨h1, h2⟩
        refine ⟨h1, ?_⟩
        obtain ⟨i, z, e1, e2, _⟩ := h1
        by_cases q : i = j
        · rw [q, e] at e2; cases e2
        · omega
    | some y =>
      simp only
      rw [List.mem_append, List.mem_append, ih]
      constructor
      · rintro ((⟨h1, h2⟩ | h) | h)
        · exact ⟨h1, by omega⟩
        · have h' : k = j + 1 ∧ l = y := by simpa using h
          exact ⟨⟨j, y, h'.1, e, .inl h'.2⟩, by omega⟩
        · obtain ⟨xs, hxs, hx⟩ := List.mem_flatten.mp h
          obtain ⟨g, hg, rfl⟩ := List.mem_map.mp hxs
          obtain ⟨o, ho, e1⟩ := List.mem_map.mp hx
          have e2 : j + 1 = k ∧ o = l := by simpa using e1
          refine ⟨⟨j, y, e2.1.symm, e, .inr ⟨g, hg, by rw [← e2.2]; exact ho⟩⟩, by omega⟩
      · rintro ⟨⟨i, z, e1, e2, h⟩, h2⟩
        by_cases q : i = j
        · subst q
          rw [e] at e2
          have ez := Option.some.inj e2
          subst ez
          rcases h with h | ⟨g, hg, h⟩
          · left; right; simp [e1, h]
          · right
            exact List.mem_flatten.mpr ⟨_, List.mem_map.mpr ⟨g, hg, rfl⟩, List.mem_map.mpr ⟨l, h, by rw [e1]⟩⟩
        · left; left
          exact ⟨⟨i, z, e1, e2, h⟩, by omega⟩
theorem Vis.le {nd : Nd} {row : List Letter} {k : Nat} {l : Letter} (h : Vis nd row k l) : k ≤ row.length := by
  obtain ⟨i, z, e, e2, _⟩ := h
  have := (List.getElem?_eq_some_iff.mp e2).1
  omega
theorem mem_sees {nd : Nd} {row : List Letter} {k : Nat} {l : Letter} : (k, l) ∈ sees nd row ↔ Vis nd row k l := by
  unfold sees
  rw [sees_mem]
  exact ⟨fun h => h.1, fun h => ⟨h, h.le⟩⟩
/-! ### first places in a table -/
structure Ord (m : Pl) (j : Nat) : Prop where
  le : ∀ p ∈ m, p.2 ≤ j
  ord : m.Pairwise fun a b => a.2 ≤ b.2
theorem Ord.set {m : Pl} {j : Nat} (h : Ord m j) {n : Nm} : Ord (setG m n j) j := by
  rw [setG_eq]
  split
  · exact h
  · refine ⟨fun p hp => ?_, ?_⟩
    · rcases List.mem_append.mp hp with hp | hp
      · exact h.le p hp
      · have e : p = (n, j) := by simpa using hp
        rw [e]; exact Nat.le_refl _
    · refine List.pairwise_append.mpr ⟨h.ord, List.pairwise_singleton _ _, fun a ha b hb => ?_⟩
      have e : b = (n, j) := by simpa using hb
      rw [e]; exact h.le a ha
theorem Ord.up {m : Pl} {j k : Nat} (h : Ord m j) (hk : j ≤ k) : Ord m k := ⟨fun p hp => Nat.le_trans (h.le p hp) hk, h.ord⟩
theorem set_keep {m : Pl} {n x : Nm} {j k : Nat} (h : (x, k) ∈ m) : (x, k) ∈ setG m n j := by
  rw [setG_eq]
  split
  · exact h
  · exact List.mem_append.mpr (.inl h)
theorem set_has {m : Pl} {n : Nm} {j : Nat} (h : Ord m j) : ∃ k, k ≤ j ∧ (n, k) ∈ setG m n j := by
  rw [setG_eq]
  split
  · rename_i h1
    obtain ⟨k, hk⟩ := Option.isSome_iff_exists.mp h1
    have := lookG_mem hk
    exact ⟨k, h.le _ this, this⟩
  · exact ⟨j, Nat.le_refl _, List.mem_append.mpr (.inr (by simp))⟩
/-- one walk of puts at place j: names of a list -/
structure Put (m m' : Pl) (j : Nat) (φ : Nm → Prop) : Prop where
  keep : ∀ p ∈ m, p ∈ m'
  new : ∀ p ∈ m', p ∈ m ∨ (p.2 = j ∧ φ p.1)
  has : ∀ x, φ x → ∃ k, k ≤ j ∧ (x, k) ∈ m'
  ord : Ord m' j
theorem Put.one {m : Pl} {n : Nm} {j : Nat} (h : Ord m j) : Put m (setG m n j) j (· = n) := ⟨fun p hp => set_keep hp, fun p hp => by
  rcases setG_mem hp with hp | ⟨e, _⟩
  · exact .inl hp
  · rw [e]; exact .inr ⟨rfl, rfl⟩, fun x hx => by
    rw [hx]; exact set_has h, h.set⟩
theorem Put.nil {m : Pl} {j : Nat} (h : Ord m j) : Put m m j fun _ => False := ⟨fun _ h => h, fun _ h => .inl h, fun _ h => h.elim, h⟩
theorem Put.comp {m m1 m2 : Pl} {j : Nat} {φ ψ : Nm → Prop} (h : Put m m1 j φ) (k : Put m1 m2 j ψ) : Put m m2 j fun x => φ x ∨ ψ x := ⟨fun p hp => k.keep p (h.keep p hp), fun p hp => by
  rcases k.new p hp with q | q
  · rcases h.new p q with q | q
    · exact .inl q
    · exact .inr ⟨q.1, .inl q.2⟩
  · exact .inr ⟨q.1, .inr q.2⟩, fun x hx => by
  rcases hx with hx | hx
  · obtain ⟨k', h1, h2⟩ := h.has x hx
    exact ⟨k', h1, k.keep _ h2⟩
  · exact k.has x hx, k.ord⟩
theorem Put.to {m m1 : Pl} {j : Nat} {φ ψ : Nm → Prop} (h : Put m m1 j φ) (e : ∀ x, φ x ↔ ψ x) : Put m m1 j ψ := ⟨h.keep, fun p hp => (h.new p hp).imp (fun q => q) fun q => ⟨q.1, (e _).mp q.2⟩, fun x hx => h.has x ((e _).mpr hx), h.ord⟩
theorem Put.fold {α : Type} {j : Nat} {f : Pl → α → Pl} {φ : α → Nm → Prop} (hf : ∀ m a, Ord m j → Put m (f m a) j (φ a)) : ∀ (xs : List α) (m : Pl), Ord m j → Put m (xs.foldl f m) j fun x => ∃ a ∈ xs, φ a x
  | [], m, h => (Put.nil h).to fun x => by simp
  | a :: xs, m, h => ((hf m a h).comp (Put.fold hf xs _ (hf m a h).ord)).to fun x => by simp
theorem seenStep_put {nd : Nd} {m : Pl} {i : Nat} {l : Letter} (h : Ord m (i + 1)) : Put m (seenStep nd m i l) (i + 1) fun x => x = l.name ∨ ∃ g ∈ l.gots, ∃ o ∈ rowOf nd g, x = o.name := by
  unfold seenStep
  exact (Put.one h).comp (Put.fold (φ := fun g x => ∃ o ∈ rowOf nd g, x = o.name) (fun m g hm => Put.fold (φ := fun (o : Letter) x => x = o.name) (fun m o hm => Put.one hm) _ m hm) _ _ (h.set))
theorem gapStep_put {nd : Nd} {m : Pl} {i : Nat} {l : Letter} (h : Ord m (i + 1)) : Put m (gapStep nd m i l) (i + 1) fun x => ∃ g ∈ l.gots, gapOf nd g = some x := by
  unfold gapStep
  refine Put.fold (φ := fun g x => gapOf nd g = some x) (fun m g hm => ?_) _ m h
  cases e : gapOf nd g with
  | none => exact (Put.nil hm).to fun x => by simp
  | some n => exact (Put.one hm).to fun x => by simp [eq_comm]
/-- a table that a row fills, place by place -/
structure Tab (row : List Letter) (φ : Letter → Nm → Prop) (m : Pl) (j : Nat) : Prop where
  ord : Ord m j
  old : ∀ p ∈ m, ∃ i z, p.2 = i + 1 ∧ row[i]? = some z ∧ φ z p.1
  has : ∀ i z x, i < j → row[i]? = some z → φ z x → ∃ k, k ≤ i + 1 ∧ (x, k) ∈ m
theorem Tab.step {row : List Letter} {φ : Letter → Nm → Prop} {m m' : Pl} {j : Nat} {z : Letter} (h : Tab row φ m j) (e : row[j]? = some z) (p : Put m m' (j + 1) (φ z)) : Tab row φ m' (j + 1) := ⟨p.ord, fun q hq => by
  rcases p.new q hq with hq | ⟨h1, h2⟩
  · exact h.old q hq
  · exact ⟨j, z, h1, e, h2⟩, fun i y x hi e1 hx => by
  by_cases q : i = j
  · subst q
    rw [e] at e1
    rw [← Option.some.inj e1] at hx
    exact p.has x hx
  · obtain ⟨k, h1, h2⟩ := h.has i y x (by omega) e1 hx
    exact ⟨k, h1, p.keep _ h2⟩⟩
theorem Tab.skip {row : List Letter} {φ : Letter → Nm → Prop} {m : Pl} {j : Nat} (h : Tab row φ m j) (e : row[j]? = none) : Tab row φ m (j + 1) := ⟨h.ord.up (by omega), h.old, fun i y x hi e1 hx => by
  by_cases q : i = j
  · rw [q, e] at e1; cases e1
  · exact h.has i y x (by omega) e1 hx⟩
theorem Tab.nil {row : List Letter} {φ : Letter → Nm → Prop} : Tab row φ [] 0 := ⟨⟨fun p h => absurd h (by simp), List.Pairwise.nil⟩, fun p h => absurd h (by simp), fun i z x h => absurd h (by omega)⟩
theorem seen_tab {nd : Nd} {row : List Letter} : ∀ j, Tab row (fun z x => x = z.name ∨ ∃ g ∈ z.gots, ∃ o ∈ rowOf nd g, x = o.name) (seenOf nd row j) j
  | 0 => .nil
  | j + 1 => by
    have ih := seen_tab (nd := nd) (row := row) j
    show Tab _ _ (match row[j]? with | some l => seenStep nd (seenOf nd row j) j l | none => seenOf nd row j) _
    cases e : row[j]? with
    | none => exact ih.skip e
    | some l => exact ih.step e (seenStep_put (ih.ord.up (by omega)))
theorem gaps_tab {nd : Nd} {row : List Letter} : ∀ j, Tab row (fun z x => ∃ g ∈ z.gots, gapOf nd g = some x) (gapsOf nd row j) j
  | 0 => .nil
  | j + 1 => by
    have ih := gaps_tab (nd := nd) (row := row) j
    show Tab _ _ (match row[j]? with | some l => gapStep nd (gapsOf nd row j) j l | none => gapsOf nd row j) _
    cases e : row[j]? with
    | none => exact ih.skip e
    | some l => exact ih.step e (gapStep_put (ih.ord.up (by omega)))
/-! ### the first place of a sorted list -/
theorem find_first {α : Type} {q : α → Bool} {f : α → Nat} : ∀ {xs : List α}, (xs.Pairwise fun a b => f a ≤ f b) → ∀ {x : α}, xs.find? q = some x → ∀ y ∈ xs, q y = true → f x ≤ f y
  | [], _, x, h, _, _, _ => by cases h
  | z :: xs, hp, x, h, y, hy, hq => by
    have hp' := List.pairwise_cons.mp hp
    rw [List.find?_cons] at h
    cases e : q z with
    | true =>
      rw [e] at h
      have : z = x := Option.some.inj h
      rcases List.mem_cons.mp hy with rfl | hy
      · rw [this]; exact Nat.le_refl _
      · rw [← this]; exact hp'.1 y hy
    | false =>
      rw [e] at h
      rcases List.mem_cons.mp hy with rfl | hy
      · rw [e] at hq; cases hq
      · exact find_first hp'.2 h y hy hq
theorem placeOf_first {q : Letter → Bool} {sg : List (Nat × Letter)} (h : sg.Pairwise fun a b => a.1 ≤ b.1) {s : Nat × Letter} (hs : s ∈ sg) (hq : q s.2 = true) : ∃ p, placeOf q sg = some p ∧ p ≤ s.1 := by
  unfold placeOf
  cases e : sg.find? fun s => q s.2 with
  | none => exact absurd hq (by simpa using List.find?_eq_none.mp e s hs)
  | some x => exact ⟨x.1, rfl, find_first (f := fun s : Nat × Letter => s.1) h e s hs hq⟩
theorem minPlace_first {q : Letter → Bool} {sg : List (Nat × Letter)} {s : Nat × Letter} (hs : s ∈ sg) (hq : q s.2 = true) : ∃ p, minPlace q sg = some p ∧ p ≤ s.1 := by
  unfold minPlace
  have hm : s.1 ∈ (sg.filter fun s => q s.2).map (·.1) := List.mem_map.mpr ⟨s, List.mem_filter.mpr ⟨hs, hq⟩, rfl⟩
  cases e : minO ((sg.filter fun s => q s.2).map (·.1)) with
  | none => rw [minO_none e] at hm; cases hm
  | some p => exact ⟨p, rfl, (minO_some e).2 _ hm⟩
theorem sights_ord {nd : Nd} {row : List Letter} : (sights nd row).Pairwise fun a b => a.1 ≤ b.1 := by
  unfold sights
  exact List.pairwise_map.mpr (seen_tab (nd := nd) (row := row) row.length).ord.ord
/-- letters seen are in the table, at their first place -/
theorem sights_has {nd : Nd} (hn : ∀ n l, lookG nd n = some l → l.name = n) {row : List Letter} (hr : ∀ l ∈ row, lookG nd l.name = some l) {k : Nat} {l : Letter} (h : Vis nd row k l) : ∃ k', k' ≤ k ∧ (k', l) ∈ sights nd row := by
  obtain ⟨i, z, e, e2, h⟩ := h
  have hi := (List.getElem?_eq_some_iff.mp e2).1
  have hl : lookG nd l.name = some l := by
    rcases h with h | ⟨g, _, h⟩
    · rw [h]; exact hr z (List.mem_of_getElem? e2)
    · obtain ⟨m, _, q⟩ := mem_rowOf.mp h
      rw [hn _ _ q]; exact q
  obtain ⟨k', h1, h2⟩ := (seen_tab (nd := nd) (row := row) row.length).has i z l.name hi e2 (by
    rcases h with h | ⟨g, hg, h⟩
    · exact .inl (by rw [h])
    · exact .inr ⟨g, hg, l, h, rfl⟩)
  refine ⟨k', by omega, ?_⟩
  unfold sights
  exact List.mem_map.mpr ⟨_, h2, by rw [hl]; rfl⟩
theorem sights_vis {nd : Nd} (hn : ∀ n l, lookG nd n = some l → l.name = n) {row : List Letter} (hr : ∀ l ∈ row, lookG nd l.name = some l) {s : Nat × Letter} (h : s ∈ sights nd row) : Vis nd row s.1 s.2 := by
  unfold sights at h
  obtain ⟨p, hp, e⟩ := List.mem_map.mp h
  obtain ⟨i, z, h1, h2, h3⟩ := (seen_tab (nd := nd) (row := row) row.length).old p hp
  rw [← e]
  refine ⟨i, z, h1, h2, ?_⟩
  rcases h3 with h3 | ⟨g, hg, o, ho, h3⟩
  · left
    show (lookG nd p.1).getD dfl = z
    rw [h3, hr z (List.mem_of_getElem? h2)]; rfl
  · right
    refine ⟨g, hg, ?_⟩
    show (lookG nd p.1).getD dfl ∈ _
    obtain ⟨m, _, q⟩ := mem_rowOf.mp ho
    rw [h3, hn _ _ q, q]; exact ho
end Hw
set_option Elab.async false
set_option linter.all false
set_option maxRecDepth 100000
set_option maxHeartbeats 1000000
namespace Hw
open PySem PySem.Spec

theorem row_mem {nd : Nd} (hn : ∀ n l, lookG nd n = some l → l.name = n) {n : Nm} {l : Letter} (h : l ∈ rowOf nd n) : lookG nd l.name = some l ∧ l.house = n.1 ∧ l.deal = n.2.1 := by
  obtain ⟨m, h1, h2⟩ := mem_rowOf.mp h
  have h3 := hn _ _ h2
  have h4 := h1.hd
  refine ⟨by rw [h3]; exact h2, ?_, ?_⟩
  · rw [← h4.1, ← h3]; rfl
  · rw [← h4.2, ← h3]; rfl
section
variable {N C : Nd} {row : List Letter}
theorem Cut.nmC (h : Cut N C) : ∀ n l, lookG C n = some l → l.name = n := fun _ _ hl => h.nm _ _ (h.sub _ _ hl)
theorem Cut.vis (h : Cut N C) {k : Nat} {l : Letter} (v : Vis C row k l) : Vis N row k l := by
  obtain ⟨i, z, e, e2, v⟩ := v
  exact ⟨i, z, e, e2, v.imp (fun q => q) fun ⟨g, hg, q⟩ => ⟨g, hg, h.row_sub q⟩⟩
/-- the whole pile's place against the cut pile's places -/
theorem Cut.place (h : Cut N C) (hr : ∀ l ∈ row, lookG C l.name = some l) {q : Letter → Bool} {can : Str → Str → Prop} (hq : ∀ l, q l = true → can l.house l.deal) :
    (minPlace q (sees N row) = none → placeOf q (sights C row) = none) ∧
    ∀ p, minPlace q (sees N row) = some p → placeOf q (sights C row) = some p ∨ (∃ x ∈ gaps C row, can x.1.1 x.1.2.1 ∧ x.2 = p) ∧ belowB (placeOf q (sights C row)) p = true := by
  have back : ∀ p, placeOf q (sights C row) = some p → ∃ p', minPlace q (sees N row) = some p' ∧ p' ≤ p := fun p hp => by
    obtain ⟨s, hs, e, h1⟩ := placeOf_mem hp
    have := h.vis (sights_vis h.nmC hr hs)
    obtain ⟨p', h2, h3⟩ := minPlace_first (mem_sees.mpr this) h1
    exact ⟨p', h2, by rw [← e]; exact h3⟩
  refine ⟨fun h1 => ?_, fun p hp => ?_⟩
  · cases e : placeOf q (sights C row) with
    | none => rfl
    | some p =>
      obtain ⟨p', h2, _⟩ := back p e
      rw [h1] at h2; cases h2
  · have seen : ∀ {l : Letter}, Vis C row p l → q l = true → placeOf q (sights C row) = some p := fun v hl => by
      obtain ⟨k', h1, h2⟩ := sights_has h.nmC hr v
      obtain ⟨p1, h3, h4⟩ := placeOf_first sights_ord h2 hl
      obtain ⟨p', h5, h6⟩ := back p1 h3
      rw [hp] at h5
      have := Option.some.inj h5
      have h4' : p1 ≤ k' := h4
      rw [h3]
      congr 1
      omega
    obtain ⟨s, hs, e, hl⟩ := minPlace_mem hp
    obtain ⟨k, l⟩ := s
    have e' : k = p := e
    subst e'
    have hl' : q l = true := hl
    have v := mem_sees.mp hs
    obtain ⟨i, z, e1, e2, v⟩ := id v
    rcases v with v | ⟨g, hg, v⟩
    · exact .inl (seen ⟨i, z, e1, e2, .inl v⟩ hl')
    · rcases h.behind v with v2 | ⟨x, hx, px⟩
      · exact .inl (seen ⟨i, z, e1, e2, .inr ⟨g, hg, v2⟩⟩ hl')
      · cases eb : belowB (placeOf q (sights C row)) k with
        | false =>
          left
          cases e3 : placeOf q (sights C row) with
          | none => rw [e3] at eb; cases eb
          | some p1 =>
            rw [e3] at eb
            have eb' : ¬ k < p1 := of_decide_eq_false eb
            obtain ⟨p', h5, h6⟩ := back p1 e3
            rw [hp] at h5
            have := Option.some.inj h5
            congr 1
            omega
        | true =>
          right
          refine ⟨?_, rfl⟩
          have hi := (List.getElem?_eq_some_iff.mp e2).1
          obtain ⟨k', h1, h2⟩ := (gaps_tab (nd := C) (row := row) row.length).has i z x hi e2 ⟨g, hg, hx⟩
          obtain ⟨i', z', e1', e2', g', hg', hx'⟩ := (gaps_tab (nd := C) (row := row) row.length).old _ h2
          have hlk := (row_mem h.nm v).1
          have v' : Vis N row k' l := ⟨i', z', e1', e2', .inr ⟨g', hg', h.behind_of hx' px hlk⟩⟩
          obtain ⟨p', h5, h6⟩ := minPlace_first (q := q) (mem_sees.mpr v') hl'
          rw [hp] at h5
          have h7 := Option.some.inj h5
          have h6' : p' ≤ k' := h6
          refine ⟨(x, k'), h2, ?_, by show k' = k; omega⟩
          have := hq l hl'
          have hd := px.hd
          have h8 : l.house = x.1 := hd.1
          have h9 : l.deal = x.2.1 := hd.2
          rw [h8, h9] at this
          exact this
end
/-! ### events -/
theorem isEv_can {t : Town} {w : Str} {d : Deal} {e : Evt} {l : Letter} (h : isEv t w d e l = true) : canBe t w d e l.house l.deal = true := by
  cases e with
  | joined k =>
    have h' : (isAt w d k l && PyData.eqv l.deed joinD) = true := h
    rw [Bool.and_eq_true] at h'
    exact h'.1
  | said k x =>
    have h' : (isAt w d k l && PyData.eqv l.deed (sayD x)) = true := h
    rw [Bool.and_eq_true] at h'
    exact h'.1
  | did k c p =>
    have h' : isDid t w d k c p l = true := h
    unfold isDid at h'
    show (match (w :: d.others)[k]? with | none => false | some o' => match lookG t.deals o' with | none => false | some d' => if (!decide (l.deal = o')) = true then false else decide (l.house ∈ d'.houses) && !decide (l.house = credOf d' c)) = true
    cases e1 : (w :: d.others)[k]? with
    | none => rw [e1] at h'; cases h'
    | some o =>
      rw [e1] at h'
      simp only at h' ⊢
      cases e2 : lookG t.deals o with
      | none => rw [e2] at h'; cases h'
      | some d' =>
        rw [e2] at h'
        simp only at h' ⊢
        by_cases q : l.deal = o
        · rw [if_neg (by simp [q])]
          split at h'
          · cases h'
          · exact h'
        · rw [if_pos (by simp [q])] at h'
          cases h'
/-! ### own places -/
theorem idxd_mem {row : List Letter} {s : Nat × Letter} : s ∈ idxd row ↔ ∃ i, s.1 = i + 1 ∧ row[i]? = some s.2 := by
  constructor
  · intro h
    obtain ⟨i, hi, e⟩ := List.mem_iff_getElem.mp h
    have hi' : i < row.length := by rw [← idxd_length]; exact hi
    have := idxd_at (List.getElem?_eq_getElem hi')
    rw [List.getElem?_eq_getElem hi, e] at this
    rw [Option.some.inj this]
    exact ⟨i, rfl, List.getElem?_eq_getElem hi'⟩
  · rintro ⟨i, e1, e2⟩
    have := List.mem_of_getElem? (idxd_at e2)
    obtain ⟨a, b⟩ := s
    have e1' : a = i + 1 := e1
    rw [e1']; exact this
theorem idxd_ord (row : List Letter) : (idxd row).Pairwise fun a b => a.1 ≤ b.1 := by
  refine List.pairwise_iff_getElem.mpr fun i j hi hj hij => ?_
  have hi' : i < row.length := by rw [← idxd_length]; exact hi
  have hj' : j < row.length := by rw [← idxd_length]; exact hj
  have h1 := idxd_at (List.getElem?_eq_getElem hi')
  have h2 := idxd_at (List.getElem?_eq_getElem hj')
  rw [List.getElem?_eq_getElem hi] at h1
  rw [List.getElem?_eq_getElem hj] at h2
  rw [Option.some.inj h1, Option.some.inj h2]
  show i + 1 ≤ j + 1
  omega
theorem own_eq {N : Nd} (hN : ∀ n l, lookG N n = some l → l.name = n) (hg : ∀ n l, lookG N n = some l → ∀ g ∈ l.gots, ¬ (g.1 = l.house ∧ g.2.1 = l.deal)) {n : Nm} {h w : Str} (eh : h = n.1) (ew : w = n.2.1) {row : List Letter} (er : row = rowOf N n) (ok : ∀ l ∈ row, LtOk l) (dd : PyData) :
    minPlace (isDeed h w dd) ((sees N row).filter fun s => inRow row s.2) = ownPlace row dd := by
  have hr : ∀ l ∈ row, lookG N l.name = some l ∧ l.house = h ∧ l.deal = w := fun l hl => by
    rw [er] at hl
    rw [eh, ew]; exact row_mem hN hl
  have to : ∀ k l, Vis N row k l → isDeed h w dd l = true → (k, l) ∈ idxd row ∧ PyData.eqv l.deed dd = true := fun k l v hd => by
    unfold isDeed at hd
    rw [Bool.and_eq_true, Bool.and_eq_true] at hd
    have h1 := of_decide_eq_true hd.1.1
    have h2 := of_decide_eq_true hd.1.2
    refine ⟨?_, hd.2⟩
    obtain ⟨i, z, e, e2, v⟩ := v
    rcases v with v | ⟨g, hgz, v⟩
    · exact idxd_mem.mpr ⟨i, e, by rw [v]; exact e2⟩
    · have hz := hr z (List.mem_of_getElem? e2)
      have hv := row_mem hN v
      refine absurd ⟨?_, ?_⟩ (hg _ _ hz.1 g hgz)
      · rw [hz.2.1, ← hv.2.1, h1]
      · rw [hz.2.2, ← hv.2.2, h2]
  have from_ : ∀ s ∈ idxd row, PyData.eqv s.2.deed dd = true → s ∈ ((sees N row).filter fun s => inRow row s.2) ∧ isDeed h w dd s.2 = true := fun s hs hd => by
    obtain ⟨i, e1, e2⟩ := idxd_mem.mp hs
    have hm := List.mem_of_getElem? e2
    have hz := hr _ hm
    refine ⟨List.mem_filter.mpr ⟨mem_sees.mpr ⟨i, s.2, e1, e2, .inl rfl⟩, ?_⟩, ?_⟩
    · show (row.any fun z => PyData.eqv (ltD z) (ltD s.2)) = true
      exact List.any_eq_true.mpr ⟨s.2, hm, eqv_self (ok _ hm).ni⟩
    · unfold isDeed
      rw [hz.2.1, hz.2.2, hd]; simp
  cases e : minPlace (isDeed h w dd) ((sees N row).filter fun s => inRow row s.2) with
  | none =>
    cases e2 : ownPlace row dd with
    | none => rfl
    | some p =>
      obtain ⟨s, hs, _, h1⟩ := placeOf_mem e2
      obtain ⟨h2, h3⟩ := from_ s hs h1
      obtain ⟨p', h4, _⟩ := minPlace_first h2 h3
      rw [e] at h4; cases h4
  | some p =>
    obtain ⟨s, hs, es, h1⟩ := minPlace_mem e
    obtain ⟨h2, h3⟩ := to s.1 s.2 (mem_sees.mp (List.mem_filter.mp hs).1) h1
    obtain ⟨p', h4, h5⟩ := placeOf_first (q := fun l => PyData.eqv l.deed dd) (idxd_ord row) h2 h3
    have h4' : ownPlace row dd = some p' := h4
    obtain ⟨s', hs', es', h1'⟩ := placeOf_mem h4
    obtain ⟨h6, h7⟩ := from_ s' hs' h1'
    obtain ⟨p2, h8, h9⟩ := minPlace_first h6 h7
    rw [e] at h8
    have h10 := Option.some.inj h8
    have h5' : p' ≤ s.1 := h5
    have es2 : s.1 = p := es
    have es3 : s'.1 = p' := es'
    rw [h4']
    congr 1
    omega
/-! ### starts, begins -/
structure Bth (N C : Nd) (n : Nm) (w : WA1) (a : LA) (pl : Pl) : Prop where
  cut : Cut N C
  h : a.h = n.1
  w1 : a.w = n.2.1
  zh : w.z.house = n.1
  zw : w.w = n.2.1
  t : w.t = a.t
  d : w.d = a.d
  rC : a.row = rowOf C n
  rN : w.row = rowOf N n
  eq : rowOf N n = rowOf C n
  sgN : w.sg = sees N w.row
  sgC : a.sg = sights C a.row
  pl : pl = gaps C a.row
  ok : ∀ l ∈ w.row, LtOk l
theorem Bth.row {N C : Nd} {n : Nm} {w : WA1} {a : LA} {pl : Pl} (b : Bth N C n w a pl) : w.row = a.row := by rw [b.rC, b.rN, b.eq]
theorem Bth.look {N C : Nd} {n : Nm} {w : WA1} {a : LA} {pl : Pl} (b : Bth N C n w a pl) : ∀ l ∈ a.row, lookG C l.name = some l := fun l hl => by
  rw [b.rC] at hl
  exact (row_mem b.cut.nmC hl).1
/-- the whole place is among the cut pile's places -/
theorem Bth.ev {N C : Nd} {n : Nm} {w : WA1} {a : LA} {pl : Pl} (b : Bth N C n w a pl) (e : Evt) :
    (minPlace (isEv w.t w.w w.d e) w.sg = none → evSure a e = none) ∧ ∀ p, minPlace (isEv w.t w.w w.d e) w.sg = some p → allowed (evSure a e, evSet a pl e) p := by
  have hw : w.w = a.w := by rw [b.zw, b.w1]
  rw [b.sgN, b.row, b.t, b.d, hw]
  have k := b.cut.place b.look (q := isEv a.t a.w a.d e) (can := fun h o => canBe a.t a.w a.d e h o = true) (fun l hl => isEv_can hl)
  have es : evSure a e = placeOf (isEv a.t a.w a.d e) (sights C a.row) := by
    unfold evSure
    rw [b.sgC]
  refine ⟨fun h => by rw [es]; exact k.1 h, fun p hp => ?_⟩
  rcases k.2 p hp with h | ⟨⟨x, hx, h1, h2⟩, h3⟩
  · right
    show evSure a e = some p
    rw [es]; exact h
  · left
    show (∃ p' ∈ pl, _) ∧ _
    refine ⟨⟨x, by rw [b.pl]; exact hx, h1, h2⟩, by rw [es]; exact h3⟩
theorem Bth.start {N C : Nd} {n : Nm} {w : WA1} {a : LA} {pl : Pl} (b : Bth N C n w a pl) (c : Nat) :
    (wStart w c = none → startSure a c = none) ∧ ∀ y, wStart w c = some y → allowed (startSure a c, startSet a pl c) y := by
  have hw : w.w = a.w := by rw [b.zw, b.w1]
  have hh : w.z.house = a.h := by rw [b.zh, b.h]
  have own : ∀ dd, minPlace (isDeed a.h a.w dd) (mine w) = ownPlace a.row dd := fun dd => by
    unfold mine
    rw [b.sgN, b.row]
    exact own_eq b.cut.nm b.cut.gots b.h b.w1 (by rw [b.rC, b.eq]) (by rw [← b.row]; exact b.ok) dd
  have k := b.cut.place b.look (q := isDeed (debOf a.d c) a.w (handD c a.h)) (can := fun h o => h = debOf a.d c ∧ o = a.w) (fun l hl => by
    unfold isDeed at hl
    rw [Bool.and_eq_true, Bool.and_eq_true] at hl
    exact ⟨of_decide_eq_true hl.1.1, of_decide_eq_true hl.1.2⟩)
  have es : handPlace a c = placeOf (isDeed (debOf a.d c) a.w (handD c a.h)) (sights C a.row) := by
    unfold handPlace
    rw [b.sgC]
  have ew : wStart w c = if a.h = debOf a.d c then ownPlace a.row joinD else match ownPlace a.row (readyD c) with
      | none => none
      | some r => match minPlace (isDeed (debOf a.d c) a.w (handD c a.h)) (sees N a.row) with
        | none => none
        | some s => if a.h ∈ a.d.houses then some (max r s) else none := by
    unfold wStart
    (rw [hh, hw, b.d, own, own, b.sgN, b.row]) <;> rfl
  rw [ew]
  show _ ∧ ∀ y, _ → startSet a pl c y ∨ startSure a c = some y
  unfold startSure startSet
  by_cases hd : a.h = debOf a.d c
  · rw [if_pos hd, if_pos hd]
    exact ⟨fun h => h, fun y h => .inr h⟩
  · rw [if_neg hd, if_neg hd]
    cases er : ownPlace a.row (readyD c) with
    | none => exact ⟨fun _ => rfl, fun y h => by cases h⟩
    | some r =>
      simp only
      cases em : minPlace (isDeed (debOf a.d c) a.w (handD c a.h)) (sees N a.row) with
      | none =>
        have e1 : handPlace a c = none := by rw [es]; exact k.1 em
        rw [e1]
        refine ⟨fun _ => ?_, fun y h => by cases h⟩
        split <;> rfl
      | some s =>
        simp only
        by_cases hm : a.h ∈ a.d.houses
        · rw [if_pos hm, if_pos hm]
          refine ⟨fun h => (by cases h), fun y h => ?_⟩
          have hy : max r s = y := Option.some.inj h
          rcases k.2 s em with q | ⟨⟨x, hx, ⟨h1, h2⟩, h3⟩, h4⟩
          · right
            rw [es, q]
            show some (max s r) = some y
            rw [← hy, Nat.max_comm]
          · left
            refine ⟨hd, r, rfl, hm, x, by rw [b.pl]; exact hx, h1, h2, by rw [es, h3]; exact h4, ?_⟩
            rw [h3, ← hy, Nat.max_comm]
        · rw [if_neg hm, if_neg hm]
          exact ⟨fun _ => rfl, fun y h => by cases h⟩
theorem paired_map {α β γ : Type} {F : β → γ → Prop} {f : α → β} {g : α → γ} (h : ∀ x, F (f x) (g x)) : ∀ xs : List α, Paired F (xs.map f) (xs.map g)
  | [] => .nil
  | x :: xs => .cons (h x) (paired_map h xs)
theorem Bth.beg {N C : Nd} {n : Nm} {w : WA1} {a : LA} {pl : Pl} (b : Bth N C n w a pl) (c : Nat) {o : Option Nat} {bs : List (Option Nat)} (ho : WBeg w c o) (hb : BegSpec a (specs a pl c (condsOf a.d c)) bs) : o ∈ bs := by
  have hp : Paired (fun (s : Sp1) (x : Option Nat) => (x = none → s.1 = none) ∧ ∀ y, x = some y → allowed s y) (specs a pl c (condsOf a.d c)) (wSpots w c (condsOf w.d c)) := by
    unfold specs wSpots
    rw [b.d]
    refine .cons (b.start c) (paired_map (fun e => ?_) _)
    have := b.ev e
    rw [b.d] at this
    exact this
  by_cases hn : none ∈ wSpots w c (condsOf w.d c)
  · rw [ho.1 hn]
    obtain ⟨s, hs, h1⟩ := paired_right hp none hn
    exact hb.2 ⟨s, hs, h1.1 rfl⟩
  · obtain ⟨ys, hys⟩ := all_some _ hn
    obtain ⟨M, hM, hle, h1, h2⟩ := ho.2 ys hys
    rw [hys] at hp
    have hp2 : Paired allowed (specs a pl c (condsOf a.d c)) ys := by
      have key : ∀ (ss : List Sp1) (ys : List Nat), Paired (fun (s : Sp1) (x : Option Nat) => (x = none → s.1 = none) ∧ ∀ y, x = some y → allowed s y) ss (ys.map some) → Paired allowed ss ys := by
        intro ss
        induction ss with
        | nil => intro ys h; cases ys with
          | nil => exact .nil
          | cons y ys => cases h
        | cons s ss ih => intro ys h; cases ys with
          | nil => cases h
          | cons y ys => cases h with
            | cons h1 h2 => exact .cons (h1.2 y rfl) (ih ys h2)
      exact key _ _ hp
    have hb1 := hb.1 ys hp2 M hM hle
    have et : wTimeOk w M ↔ timeOk a M := by
      unfold wTimeOk timeOk
      rw [b.row, b.d]
    by_cases q : wTimeOk w M
    · rw [h1 q]; exact hb1.1 (et.mp q)
    · rw [h2 q]; exact hb1.2 fun z => q (et.mpr z)
/-- the cut of a pile -/
theorem cut_of {ls ys : List Letter} (hs : ys.Sublist ls) (nod : (ls.map Letter.name).Nodup) (nr : ∀ x ∈ ls, 1 ≤ x.nr) (gots : ∀ x ∈ ls, ∀ g ∈ x.gots, ¬ (g.1 = x.house ∧ g.2.1 = x.deal)) : Cut (byNames ls) (byNames ys) := by
  have nodY : (ys.map Letter.name).Nodup := (hs.map _).nodup nod
  refine ⟨fun n l h => ((byNames_look nod).mp h).2, fun n l h => ?_, fun n l h => nr _ ((byNames_look nod).mp h).1, fun n l h => gots _ ((byNames_look nod).mp h).1⟩
  have := (byNames_look nodY).mp h
  exact (byNames_look nod).mpr ⟨hs.subset this.1, this.2⟩
end Hw
set_option Elab.async false
set_option linter.all false
set_option maxRecDepth 100000
set_option maxHeartbeats 2000000
namespace Hw
open PySem PySem.Spec L2

section
variable {F : Fx} {L : List Rs} {Γ : Ty} {e a b c o tg iter elt : Expr} {es ts ifs : List Expr} {P Q R : MP} {Ps : List MP} {pos spos p1 p2 px py lp ap cp tp : Pos} {N : List Rs → Ty → Prop} {rest body sa : List Stmt} {x y m fn : Str}
/-- tg = e, the value known up to a choice -/
theorem hr_asgX {α : Type} {φ : α → Prop} {P : α → MP} (h : Ev F L Γ e (Xp φ P)) (k : ∀ x, φ x → ∃ vs f, Tg F tg vs (P x) f ∧ Hr F L (f Γ) rest N R) (hs : ∀ env, swapsWithSole [tg] e pos.line env = pure false := by intro _; rfl) (hw : ∀ env, swappedStores [tg] e env = pure none := by intro _; rfl) (h1 : ∀ env, (assignEach [tg] env).map (·.2) = [assign tg env] := by intro _; rfl) :
    Hr F L Γ (.Assign [tg] e pos :: rest) N R := fun E σ G H T D k1 k2 => by
  refine ws_cons (w1_ps (t := tAsg (WE F e) (WG F tg)) (fun X hX => ps_asg (pe_we hX) (pg_wg hX) (hs _) (hw _) (h1 _)) ?_)
  refine h E σ G H T _ fun v G' H' n T' ⟨x, hx, p⟩ => ?_
  obtain ⟨vs, f, ht, kk⟩ := k x hx
  exact ht E L Γ σ G' H' v T' p _ fun σ' T2 _ => kk E σ' G' H' T2 D k1 k2
end
theorem psa_of2 {G : Hp} {u v : V} {P Q : MP} (h1 : P.p G u) (h2 : Q.p G v) : PsA G [u, v] [P, Q] := .cons h1 (.cons h2 .nil)
theorem psa_of3 {G : Hp} {u v w : V} {P Q R : MP} (h1 : P.p G u) (h2 : Q.p G v) (h3 : R.p G w) : PsA G [u, v, w] [P, Q, R] := .cons h1 (psa_of2 h2 h3)
theorem evsOf_len {t : Town} {w : Str} {d : Deal} (dk : DealOk t w d) : (evsOf d).length ≤ 100000 := by
  have h1 := dk.hs
  have h2 := dk.cs
  have h3 : ((d.clauses.map clE).flatten).length ≤ (d.clauses.map clE).length * 101 := flatten_le fun x hx => by
    obtain ⟨c, hc, rfl⟩ := List.mem_map.mp hx
    exact clE_len (dk.cl c hc)
  rw [List.length_map] at h3
  unfold evsOf
  rw [List.length_append, List.length_append, List.length_map, List.length_range, List.length_singleton]
  omega
theorem oN_in {xs : List (Option Nat)} {o : Option Nat} (h : o ∈ xs) : (xs.map oN).any (fun z => PyData.eqv z (oN o)) = true := by
  refine List.any_eq_true.mpr ⟨oN o, List.mem_map.mpr ⟨o, h, rfl⟩, ?_⟩
  cases o with
  | none => rfl
  | some n => exact eqv_self (n := 1) (ni_int _)
theorem ni_oN {n : Nat} {o : Option Nat} : Ni n (oN o) := by
  cases o with
  | none => exact ni_non
  | some k => exact ni_int _
theorem ni_oNs {n : Nat} {xs : List (Option Nat)} : Ni (n + 1) (.list (xs.map oN)) := ni_lst fun d hd => by
  obtain ⟨o, _, rfl⟩ := List.mem_map.mp hd
  exact ni_oN
section
variable {S : Sx} {f : Addr} {fd : FuncData}
def SpLaw (K : PySem.W.Frag) : Sp := Spc (NoR (α := List Int)) (fun ns => ns.length ≤ 63) (fun ns => [ScrP K ns]) (fun _ => D (.bool true))
theorem sc_lawdef : FnScope ["_law_script", "_law_town_here", "_law_left_here", "_law_whole", "_law_pile_here", "_law_every", "_law_name_here", "_law_line", "_law_sees_here", "_law_event_here", "_law_sure", "_law_some_here", "_law_c"] ["_law_script"] (defScope s_law) := ⟨rfl, rfl, rfl, by decide +kernel, rfl, by decide +kernel, by decide +kernel⟩
theorem ok_law (Fd : FnP S "law" s_law f fd) (b : Bi S) (cTo : Cl S "_law_town" 4 (SpTown S.K)) (cL : Cl S "_law_left" 2 (SpLeft S.K)) (cP : Cl S "_law_pick" 1 SpPick) (cPi : Cl S "_law_pile" 4 (SpPile S.K)) (cRi : Cl S "_law_ringed" 2 SpRinged) (cCu : Cl S "_law_cut" 2 SpCut) (cN : Cl S "_law_named" 1 SpByNames) (cSo : Cl S "_law_some" 2 SpSome) (cA : Cl S "_law_asked" 2 SpAsked) (cR : Cl S "_law_row" 1 SpRowL) (cSe : Cl S "_law_sees" 2 SpSees) (cE : Cl S "_law_events" 1 SpEvents) (cPl : Cl S "places" 5 SpPlaces) (cLP : Cl S "_law_place" 2 SpLawPlace) (cLB : Cl S "_law_begin" 3 SpWBeg) (cB : Cl S "begins" 6 SpBegins) : OkF S 7 f fd ["_law_script"] (SpLaw S.K) := by
  refine fn_ok Fd sc_lawdef (fun _ => rfl) noR fun ns hok => ?_
  have hn : ns.length ≤ 63 := hok
  refine hr_set 1 (P := Xp TownOk TownP) (ev_call cTo ns hn (ea1 (ev_v 0))) ?_
  refine hr_ex 1 rfl fun t ht => ?_
  refine hr_setN 2 cL (ns, 60) (by show 60 ≤ 1000; omega) (ea2 (ev_v 0) ev_int) fun pl => ?_
  refine hr_gam (Γ' := [some (ScrP S.K ns), some (TownP t), some (IsV (.ref pl)), none, none, none, none, none, none, none, none, none, none]) rfl ?_
  refine hr_set 3 (P := Xp PileR fun ls => D (.list (ls.map ltD))) (ev_callX cRi (Ps := [IsV (.ref pl), Xp PileR fun ls => D (.list (ls.map ltD))]) (ea2 (ev_v 2) (ev_callX cPi (Ps := [ScrP S.K ns, TownP t, InP [16, 0, 24, 30]]) (ea_cons (ev_v 0) (ea2 (ev_v 1) (ev_pickN (ns := [16, 0, 24, 30]) (ev_lst (ds := [.int 16, .int 0, .int 24, .int 30]) (ea_cons ev_int (ea_cons ev_int (ea2 ev_int ev_int)))) (ev_pick (many := 4) cP 0 (ev_v 2) ev_int (by decide) (by decide))))) fun G vs q => ?_)) fun G vs q => ?_) ?_
  · obtain ⟨u, v, w, rfl, q1, q2, m, hm, q3⟩ := psa3 q
    refine ⟨⟨ns, t, m⟩, ⟨ht, ?_, hn⟩, psa_of3 q1 q2 q3, .inl rfl, .rfl⟩
    show m ≤ 30
    simp only [List.mem_cons, List.not_mem_nil, or_false] at hm
    omega
  · obtain ⟨v, w, rfl, q1, ls, hls, q2⟩ := psa2 q
    exact ⟨(pl, ls), hls, psa_of2 q1 q2, .inr ⟨_, rfl, _, List.mem_of_getElem? (i := 0) rfl, rfl, rfl⟩, .rfl⟩
  refine hr_ex 3 rfl fun whole hw => ?_
  have hwl : whole.length ≤ 30 := hw.2
  refine hr_set 4 (P := Xp (fun ys : List Letter => ys.Sublist whole) fun ls => D (.list (ls.map ltD))) (ev_call cCu (pl, whole) (by show whole.length ≤ 1000; omega) (ea2 (ev_v 2) (ev_v 3)) (hL := .inr ⟨_, rfl, _, List.mem_of_getElem? (i := 0) rfl, rfl, rfl⟩)) ?_
  refine hr_ex 4 rfl fun pile hp => ?_
  refine hr_set 5 (P := NdP (byNames whole)) (ev_call cN whole (by show whole.length ≤ 1000; omega) (ea1 (ev_v 3))) ?_
  refine hr_gam (Γ' := [some (ScrP S.K ns), some (TownP t), some (IsV (.ref pl)), some (D (.list (whole.map ltD))), some (D (.list (pile.map ltD))), some (NdP (byNames whole)), none, none, none, none, none, none, none]) rfl ?_
  have cut : Cut (byNames whole) (byNames pile) := cut_of hp hw.1.nod (fun x hx => (hw.1.nr x hx).1) hw.1.gots
  have hN : NdOk (byNames whole) := byNames_ok ⟨hw.1.ok, by omega⟩
  have hpl : pile.length ≤ 30 := Nat.le_trans hp.length_le hwl
  have hpo : PileOk pile := ⟨fun l hl => hw.1.ok l (hp.subset hl), by omega⟩
  have hC : NdOk (byNames pile) := byNames_ok hpo
  have nm : ∀ n, AskOk t (byNames pile) n → Sk n.1 ∧ Sk n.2.1 := fun n h => by
    obtain ⟨l, hl⟩ := h.l
    obtain ⟨h1, h2⟩ := hC.look hl
    rw [← h1]
    exact ⟨h2.h, h2.d⟩
  refine hr_forX (φ := fun zs : List PyData => ∀ z ∈ zs, ∃ n, z = nD n ∧ AskOk t (byNames pile) n) (ds := fun zs => zs) (itr_LX (ev_callX cSo (Ps := [IsV (.ref pl), Xp (fun ys : List Nm => ys.length ≤ 40 ∧ ∀ n ∈ ys, AskOk t (byNames pile) n) fun ys => D (.list (ys.map nD)), D (.int (8 : Nat))]) (ea_cons (ev_v 2) (ea2 (ev_call cA (t, byNames pile) hC (ea2 (ev_v 1) (ev_call cN pile (by show pile.length ≤ 1000; omega) (ea1 (ev_v 4))))) ev_int)) fun G vs q => ?_)) (fun zs i L' Γ' => ∃ o6 o7 o8 o9 o10 o11 o12 : Option MP, L' = [⟨pl, LeftR, true⟩] ∧ Γ' = [some (ScrP S.K ns), some (TownP t), some (IsV (.ref pl)), some (D (.list (whole.map ltD))), some (D (.list (pile.map ltD))), some (NdP (byNames whole)), o6, o7, o8, o9, o10, o11, o12]) (fun zs hz => ⟨_, _, _, _, _, _, _, rfl, rfl⟩) (fun zs hz i d L' Γ' hd hI => ?_) fun zs hz L' Γ' hI => ?_
  · obtain ⟨u, v, w, rfl, q1, ⟨ys, ⟨hy1, hy2⟩, q2⟩, q3⟩ := psa3 q
    refine ⟨⟨pl, ys.map nD, 8⟩, ⟨(ni_lst fun d hd => ?_ : Ni 2 _).mono (by decide), ?_, Nat.le_refl _⟩, psa_of3 q1 q2 q3, .inr ⟨_, rfl, _, List.mem_of_getElem? (i := 0) rfl, rfl, rfl⟩, Xp.le (β := Nat) fun zs hz => Xp.of (P := fun zs => D (.list zs)) (x := zs) fun z hzz => ?_⟩
    · obtain ⟨n, hn, rfl⟩ := List.mem_map.mp hd
      exact ni_nm (nm n (hy2 n hn))
    · show (ys.map nD).length ≤ 100000
      rw [List.length_map]; omega
    · obtain ⟨n, hn, e⟩ := List.mem_map.mp (hz z hzz)
      exact ⟨n, e.symm, hy2 n hn⟩
  · obtain ⟨o6, o7, o8, o9, o10, o11, o12, hL, hΓ⟩ := hI
    subst hL hΓ
    obtain ⟨n, rfl, ha⟩ := hz d (List.mem_of_getElem? hd)
    obtain ⟨dl, hdl⟩ := ha.d
    obtain ⟨l0, hl0⟩ := ha.l
    have dk := ht.ok _ _ hdl
    have req : rowOf (byNames whole) n = rowOf (byNames pile) n := cut.row_eq (by rw [hl0]; rfl) ha.b
    have hrow : ∀ l ∈ rowOf (byNames whole) n, LtOk l := fun l hl => (hN.look (rowOf_mem hN hl)).2
    have hrl : (rowOf (byNames whole) n).length ≤ 40 := Nat.le_trans rowOf_length hN.len
    have hpc : PcOk (t, pile, n, dl) := ⟨ht, hpo, hdl, (nm n ha).1⟩
    refine ⟨[6], _, tg_name 6, ?_⟩
    refine hr_set 7 (P := D (.list ((rowOf (byNames whole) n).map ltD))) (ev_call cR (byNames whole, n) hN (ea2 (ev_v 5) (ev_v 6))) ?_
    refine hr_set 8 (P := D (.list ((sees (byNames whole) (rowOf (byNames whole) n)).map sgD))) (ev_call cSe (byNames whole, rowOf (byNames whole) n) ⟨hN, hrow, hrl⟩ (ea2 (ev_v 5) (ev_v 7))) ?_
    refine hr_gam (Γ' := [some (ScrP S.K ns), some (TownP t), some (IsV (.ref pl)), some (D (.list (whole.map ltD))), some (D (.list (pile.map ltD))), some (NdP (byNames whole)), some (D (nD n)), some (D (.list ((rowOf (byNames whole) n).map ltD))), some (D (.list ((sees (byNames whole) (rowOf (byNames whole) n)).map sgD))), o9, o10, o11, o12]) rfl ?_
    have hno : ∀ {w : PyData}, True := fun {w} => True.intro
    obtain ⟨z0, hz0⟩ : ∃ z, (rowOf (byNames whole) n)[(rowOf (byNames whole) n).length - 1]? = some z := by
      have := rowOf_pos (cut.sub _ _ hl0)
      exact ⟨_, List.getElem?_eq_getElem (by omega)⟩
    have hz1 := row_mem cut.nm (List.mem_of_getElem? hz0)
    have hsg : ∀ s ∈ sees (byNames whole) (rowOf (byNames whole) n), LtOk s.2 ∧ 1 ≤ s.1 ∧ s.1 ≤ (rowOf (byNames whole) n).length := fun s hs => by
      have v := mem_sees.mp hs
      have hle := v.le
      obtain ⟨i, z, e1, e2, v⟩ := v
      refine ⟨?_, by omega, hle⟩
      rcases v with v | ⟨g, _, v⟩
      · rw [v]; exact hrow z (List.mem_of_getElem? e2)
      · exact (hN.look (rowOf_mem hN v)).2
    have hsl : (sees (byNames whole) (rowOf (byNames whole) n)).length ≤ 100000 := by
      have := seesOf_le hN hrow (rowOf (byNames whole) n).length
      unfold sees
      omega
    have hwa : WAOk ⟨t, n.2.1, dl, rowOf (byNames whole) n, sees (byNames whole) (rowOf (byNames whole) n), z0⟩ := ⟨ht, hz1.2.2.symm, hdl, hrow, hrl, hz0, hsg, hsl⟩
    have bth : Bth (byNames whole) (byNames pile) n ⟨t, n.2.1, dl, rowOf (byNames whole) n, sees (byNames whole) (rowOf (byNames whole) n), z0⟩ (cutLine (t, pile, n, dl)) (cutGaps (t, pile, n, dl)) := ⟨cut, rfl, rfl, hz1.2.1, rfl, rfl, rfl, rfl, rfl, req, rfl, rfl, rfl, hrow⟩
    refine hr_forX (φ := fun zs : List PyData => ∀ z ∈ zs, ∃ e, z = evD e ∧ EvtOk t n.2.1 dl e) (ds := fun zs => zs) (itr_LX (ev_call cSo ⟨pl, (evsOf dl).map evD, 6⟩ ⟨(ni_lst fun d hd => ?_ : Ni 2 _).mono (by decide), ?_, Nat.le_of_ble_eq_true rfl⟩ (ea_cons (ev_v 2) (ea2 (ev_call cE (t, n.2.1, dl) ⟨ht, hdl⟩ (ea2 (ev_v 1) (ev_ixT (ds := [.str n.1, .str n.2.1, .int n.2.2]) (d := .str n.2.1) (ev_v 6) ev_int rfl))) ev_int)) (hL := .inr ⟨_, rfl, _, List.mem_of_getElem? (i := 0) rfl, rfl, rfl⟩) (hq := Xp.le (β := Nat) fun zs hz => Xp.of (P := fun zs => D (.list zs)) (x := zs) fun z hzz => ?_))) (fun zs i L' Γ' => ∃ o9 o10 o11 : Option MP, L' = [⟨pl, LeftR, true⟩] ∧ Γ' = [some (ScrP S.K ns), some (TownP t), some (IsV (.ref pl)), some (D (.list (whole.map ltD))), some (D (.list (pile.map ltD))), some (NdP (byNames whole)), some (D (nD n)), some (D (.list ((rowOf (byNames whole) n).map ltD))), some (D (.list ((sees (byNames whole) (rowOf (byNames whole) n)).map sgD))), o9, o10, o11, o12]) (fun zs hz => ⟨_, _, _, rfl, rfl⟩) (fun zs hz i d L' Γ' hd hI => ?_) fun zs hz L' Γ' hI => ?_
    · obtain ⟨e, he, rfl⟩ := List.mem_map.mp hd
      exact ni_evt (evsOf_ok dk e he)
    · show ((evsOf dl).map evD).length ≤ 100000
      rw [List.length_map]; exact evsOf_len dk
    · obtain ⟨e, he, q⟩ := List.mem_map.mp (hz z hzz)
      exact ⟨e, q.symm, evsOf_ok dk e he⟩
    · obtain ⟨o9, o10, o11, hL, hΓ⟩ := hI
      subst hL hΓ
      obtain ⟨e, rfl, he⟩ := hz d (List.mem_of_getElem? hd)
      refine ⟨[9], _, tg_name 9, ?_⟩
      refine hr_asgX (φ := fun zs : List Nat => zs.length ≤ 60 ∧ ∀ y, y ∈ zs ↔ evSet (cutLine (t, pile, n, dl)) (cutGaps (t, pile, n, dl)) e y) (P := fun zs : List Nat => D (.tuple [oN (evSure (cutLine (t, pile, n, dl)) e), .list (zs.map nI)])) (ev_call cPl ((t, pile, n, dl), e) ⟨hpc, he⟩ (ea_cons (ev_v 1) (ea_cons (ev_v 4) (ea2 (ev_v 6) (ev_v 9))))) fun ys hy => ⟨[10, 11], _, tg_tup (n := 2) (ds := [oN (evSure (cutLine (t, pile, n, dl)) e), .list (ys.map nI)]) (tgs_cons (tg_name 10) (tgs_cons (tg_name 11) tgs_nil)), ?_⟩
      refine hr_gam (Γ' := [some (ScrP S.K ns), some (TownP t), some (IsV (.ref pl)), some (D (.list (whole.map ltD))), some (D (.list (pile.map ltD))), some (NdP (byNames whole)), some (D (nD n)), some (D (.list ((rowOf (byNames whole) n).map ltD))), some (D (.list ((sees (byNames whole) (rowOf (byNames whole) n)).map sgD))), some (D (evD e)), some (D (oN (evSure (cutLine (t, pile, n, dl)) e))), some (D (.list (ys.map nI))), o12]) rfl ?_
      have hin : minPlace (isEv t n.2.1 dl e) (sees (byNames whole) (rowOf (byNames whole) n)) ∈ ys.map some ++ [evSure (cutLine (t, pile, n, dl)) e] := by
        have hb := bth.ev e
        refine List.mem_append.mpr ?_
        cases em : minPlace (isEv t n.2.1 dl e) (sees (byNames whole) (rowOf (byNames whole) n)) with
        | none => exact .inr (by rw [hb.1 em]; simp)
        | some p =>
          rcases hb.2 p em with q | q
          · exact .inl (List.mem_map.mpr ⟨p, (hy.2 p).mpr q, rfl⟩)
          · have q' : evSure (cutLine (t, pile, n, dl)) e = some p := q
            exact .inr (by rw [q']; simp)
      have hlist : ys.map nI ++ [oN (evSure (cutLine (t, pile, n, dl)) e)] = (ys.map some ++ [evSure (cutLine (t, pile, n, dl)) e]).map oN := by rw [List.map_append, List.map_map]; rfl
      refine hr_ifR (T := (· = false)) ((et_cmp c_notInD (ev_call cLP (t, n.2.1, dl, e, sees (byNames whole) (rowOf (byNames whole) n)) ⟨ht, hdl, he, fun s hs => (hsg s hs).1, hsl⟩ (ea_cons (ev_v 1) (ea_cons (ev_ixT (ds := [.str n.1, .str n.2.1, .int n.2.2]) (d := .str n.2.1) (ev_v 6) ev_int rfl) (ea2 (ev_v 9) (ev_v 8))))) (ev_catL (ds := ys.map nI) (es := [oN (evSure (cutLine (t, pile, n, dl)) e)]) (ev_v 11) (ev_lst (ds := [oN (evSure (cutLine (t, pile, n, dl)) e)]) (ea1 (ev_v 10))) (by rw [List.length_map]; have := hy.1; simp; omega)) (rv_notInD (ni_oN (n := 0)).nice (by rw [hlist]; exact (ni_oNs (n := 0)).nice)).bo).le fun c hc => ?_) (fun z => absurd z (by decide)) fun _ => hr_nil ⟨_, _, _, rfl, rfl⟩
      rw [hc, hlist, oN_in hin]; rfl
    · obtain ⟨o9, o10, o11, hL, hΓ⟩ := hI
      subst hL hΓ
      refine hr_forX (φ := fun zs : List PyData => ∀ z ∈ zs, ∃ c : Nat, z = nI c ∧ c < dl.clauses.length) (ds := fun zs => zs) (itr_LX (ev_call cSo ⟨pl, rgD dl.clauses.length, 4⟩ ⟨(ni_lst fun d hd => ?_ : Ni 2 _).mono (by decide), ?_, Nat.le_of_ble_eq_true rfl⟩ (ea_cons (ev_v 2) (ea2 (ev_listRg (n := dl.clauses.length) b.list b.range (Ev.eq (ev_lenT (ds := dl.clauses.map claD) b.len (ev_ixT (ds := dlA dl) (d := .tuple (dl.clauses.map claD)) (ev_deal (ev_v 1) (ev_ixT (ds := [.str n.1, .str n.2.1, .int n.2.2]) (d := .str n.2.1) (ev_v 6) ev_int rfl) hdl) ev_int rfl)) (by rw [List.length_map])) (by have := dk.cs; omega)) ev_int)) (hL := .inr ⟨_, rfl, _, List.mem_of_getElem? (i := 0) rfl, rfl, rfl⟩) (hq := Xp.le (β := Nat) fun zs hz => Xp.of (P := fun zs => D (.list zs)) (x := zs) fun z hzz => ?_))) (fun zs i L' Γ' => ∃ o12 : Option MP, L' = [⟨pl, LeftR, true⟩] ∧ Γ' = [some (ScrP S.K ns), some (TownP t), some (IsV (.ref pl)), some (D (.list (whole.map ltD))), some (D (.list (pile.map ltD))), some (NdP (byNames whole)), some (D (nD n)), some (D (.list ((rowOf (byNames whole) n).map ltD))), some (D (.list ((sees (byNames whole) (rowOf (byNames whole) n)).map sgD))), o9, o10, o11, o12]) (fun zs hz => ⟨_, rfl, rfl⟩) (fun zs hz i d L' Γ' hd hI => ?_) fun zs hz L' Γ' hI => ?_
      · obtain ⟨i, hi⟩ := List.mem_iff_getElem?.mp hd
        rw [(rgD_get hi).2]; exact ni_int _
      · unfold rgD
        have := dk.cs
        show (List.map _ _).length ≤ 100000
        rw [List.length_map, List.length_range]; omega
      · obtain ⟨i, hi⟩ := List.mem_iff_getElem?.mp (hz z hzz)
        exact ⟨i, (rgD_get hi).2, (rgD_get hi).1⟩
      · obtain ⟨o12, hL, hΓ⟩ := hI
        subst hL hΓ
        obtain ⟨c, rfl, hc⟩ := hz d (List.mem_of_getElem? hd)
        refine ⟨[12], _, tg_name 12, ?_⟩
        refine hr_ifR (T := (· = false)) (et_cmp c_notInD (ev_call cLB (⟨t, n.2.1, dl, rowOf (byNames whole) n, sees (byNames whole) (rowOf (byNames whole) n), z0⟩, c) ⟨hwa, hc⟩ (ea_cons (ev_v 1) (ea_cons (ev_v 7) (ea2 (ev_v 8) (ev_v 12))))) (ev_call cB ((t, pile, n, dl), c) ⟨hpc, hc⟩ (ea_cons (ev_v 1) (ea_cons (ev_v 4) (ea2 (ev_v 6) (ev_v 12))))) (rv_exL fun o ho => rv_exR fun bs hbs => (rv_notInD (ni_oN (n := 0)).nice (ni_oNs (n := 0)).nice).le (BoolP.of ?_))) (fun z => absurd z (by decide)) fun _ => hr_nil ⟨_, rfl, rfl⟩
        rw [oN_in (bth.beg c ho hbs)]; rfl
      · obtain ⟨o12, hL, hΓ⟩ := hI
        subst hL hΓ
        exact hr_nil ⟨_, _, _, _, _, _, _, rfl, rfl⟩
  · obtain ⟨o6, o7, o8, o9, o10, o11, o12, hL, hΓ⟩ := hI
    subst hL hΓ
    exact hr_ret ev_bl .rfl
end
end Hw
set_option Elab.async false
set_option linter.all false
set_option maxRecDepth 100000
set_option maxHeartbeats 4000000
namespace Hw
open PySem PySem.Spec PyProof.Rows L2
section
variable {S : Sx} {h : Heap}
theorem bi_of (X : S.K.In h) (G : h.Ns mainGlobals S.mg) (c : He.SaysD fa fn S.K) : Bi S where
  list := He.free_ok X G (c.fact 46 (f := .free "list") rfl)
  reversed := He.free_ok X G (c.fact 47 (f := .free "reversed") rfl)
  enumerate := He.free_ok X G (c.fact 48 (f := .free "enumerate") rfl)
  sorted := He.free_ok X G (c.fact 49 (f := .free "sorted") rfl)
  dict := He.free_ok X G (c.fact 50 (f := .free "dict") rfl)
  max := He.free_ok X G (c.fact 51 (f := .free "max") rfl)
  min := He.free_ok X G (c.fact 52 (f := .free "min") rfl)
  any := He.free_ok X G (c.fact 53 (f := .free "any") rfl)
  int := He.free_ok X G (c.fact 54 (f := .free "int") rfl)
  len := He.free_ok X G (c.fact 55 (f := .free "len") rfl)
  range := He.free_ok X G (c.fact 56 (f := .free "range") rfl)
  tuple := He.free_ok X G (c.fact 57 (f := .free "tuple") rfl)
theorem lc_of (c : He.SaysD fa fn S.K) : LineC S (He.ga S.K "Line") where
  cls := He.cls_ok (c.fact 59 (f := .cls "Line") rfl)
  town := He.noat_ok (c.fact 61 (f := .noat "Line" "town") rfl)
  house := He.noat_ok (c.fact 62 (f := .noat "Line" "house") rfl)
  deal := He.noat_ok (c.fact 63 (f := .noat "Line" "deal") rfl)
  houses := He.noat_ok (c.fact 64 (f := .noat "Line" "houses") rfl)
  others := He.noat_ok (c.fact 65 (f := .noat "Line" "others") rfl)
  close := He.noat_ok (c.fact 66 (f := .noat "Line" "close") rfl)
  clauses := He.noat_ok (c.fact 67 (f := .noat "Line" "clauses") rfl)
  row := He.noat_ok (c.fact 68 (f := .noat "Line" "row") rfl)
  seen := He.noat_ok (c.fact 69 (f := .noat "Line" "seen") rfl)
theorem cl_of (X : S.K.In h) (G : h.Ns mainGlobals S.mg) {x q : Str} {pa : Arguments} {bo : List Stmt} {sc : Scope} {fd : FuncData} {j : Nat} {ps : List Str} {sp : Sp} (F : FunD S.K x q pa bo sc [] [] (He.ga S.K x) fd) (ok : OkF S j (He.ga S.K x) fd ps sp) (g : (He.Fa.glo x).ok S.K = true)
    (b : ∀ (kV doc pm : Value) (an : Option Addr) (cdv ct : Value) (us : List Value), us.length = ps.length → bindArgs (PySem.W.fnOf x q pa bo sc .none kV doc pm an cdv ct) ⟨us, []⟩ = pure (ps.zip us)) : Cl S x j sp :=
  ⟨_, _, _, ok, He.glo_ok X G g, F.kp, F.bindsN b⟩
theorem ml_of {x q m : Str} {C : Addr} {pa : Arguments} {bo : List Stmt} {sc : Scope} {fd : FuncData} {j : Nat} {ps : List Str} {sp : Sp} (F : FunD S.K x q pa bo sc [] [] (He.ma S.K C m) fd) (ok : OkF S j (He.ma S.K C m) fd ps sp) (g : Meth S.K C m (He.ma S.K C m))
    (b : ∀ (kV doc pm : Value) (an : Option Addr) (cdv ct : Value) (us : List Value), us.length = ps.length → bindArgs (PySem.W.fnOf x q pa bo sc .none kV doc pm an cdv ct) ⟨us, []⟩ = pure (ps.zip us)) : Ml S C m j sp :=
  ⟨_, _, _, ok, g, F.bindsN b⟩
theorem kl_of (X : S.K.In h) (G : h.Ns mainGlobals S.mg) {x q y : Str} {C f : Addr} {pa : Arguments} {bo : List Stmt} {sc : Scope} {fd : FuncData} {j : Nat} {ps : List Str} {sp : Sp} (F : FunD S.K x q pa bo sc [] [] f fd) (ok : OkF S j f fd ps sp) (g : (He.Fa.glo y).ok S.K = true) (hC : He.ga S.K y = C) (mk : Mk S.K C f)
    (b : ∀ (kV doc pm : Value) (an : Option Addr) (cdv ct : Value) (us : List Value), us.length = ps.length → bindArgs (PySem.W.fnOf x q pa bo sc .none kV doc pm an cdv ct) ⟨us, []⟩ = pure (ps.zip us)) : Kl S C y j sp :=
  ⟨_, _, _, ok, mk, by rw [← hC]; exact He.glo_ok X G g, F.bindsN b⟩
theorem law_ok (X : S.K.In h) (G : h.Ns mainGlobals S.mg) (c : He.SaysD fa fn S.K) {fd : FuncData} (F : FnP S "law" s_law (He.ga S.K "law") fd) : OkF S 7 (He.ga S.K "law") fd ["_law_script"] (SpLaw S.K) := by
  have b := bi_of X G c
  have lc := lc_of c
  have ⟨f_name_of, F_name_of⟩ : ∃ fd, FnP S "name_of" s_name_of (He.ga S.K "name_of") fd := c.def_ 0 (d := d_name_of) rfl
  have c_name_of : Cl S "name_of" 1 SpNameOf := cl_of X G F_name_of (ok_name_of F_name_of ) (c.fact 0 (f := .glo "name_of") rfl) (fun _ _ _ _ _ _ us hl => match us, hl with | [_], _ => rfl)
  have ⟨f_law_name, F_law_name⟩ : ∃ fd, FnP S "_law_name" s_law_name (He.ga S.K "_law_name") fd := c.def_ 27 (d := d_law_name) rfl
  have c_law_name : Cl S "_law_name" 1 SpNameOf := cl_of X G F_law_name (ok_law_name F_law_name ) (c.fact 27 (f := .glo "_law_name") rfl) (fun _ _ _ _ _ _ us hl => match us, hl with | [_], _ => rfl)
  have ⟨f_name_ahead, F_name_ahead⟩ : ∃ fd, FnP S "name_ahead" s_name_ahead (He.ga S.K "name_ahead") fd := c.def_ 1 (d := d_name_ahead) rfl
  have c_name_ahead : Cl S "name_ahead" 1 SpAhead := cl_of X G F_name_ahead (ok_name_ahead F_name_ahead ) (c.fact 1 (f := .glo "name_ahead") rfl) (fun _ _ _ _ _ _ us hl => match us, hl with | [_], _ => rfl)
  have ⟨f_by_names, F_by_names⟩ : ∃ fd, FnP S "by_names" s_by_names (He.ga S.K "by_names") fd := c.def_ 2 (d := d_by_names) rfl
  have c_by_names : Cl S "by_names" 2 SpByNames := cl_of X G F_by_names (ok_by_names F_by_names c_name_of) (c.fact 2 (f := .glo "by_names") rfl) (fun _ _ _ _ _ _ us hl => match us, hl with | [_], _ => rfl)
  have ⟨f_row_in, F_row_in⟩ : ∃ fd, FnP S "row_in" s_row_in (He.ga S.K "row_in") fd := c.def_ 3 (d := d_row_in) rfl
  have c_row_in : Cl S "row_in" 1 SpRow := cl_of X G F_row_in (ok_row_in F_row_in b) (c.fact 3 (f := .glo "row_in") rfl) (fun _ _ _ _ _ _ us hl => match us, hl with | [_, _], _ => rfl)
  have ⟨f_law_row, F_law_row⟩ : ∃ fd, FnP S "_law_row" s_law_row (He.ga S.K "_law_row") fd := c.def_ 33 (d := d_law_row) rfl
  have c_law_row : Cl S "_law_row" 1 SpRowL := cl_of X G F_law_row (ok_law_row F_law_row ) (c.fact 33 (f := .glo "_law_row") rfl) (fun _ _ _ _ _ _ us hl => match us, hl with | [_, _], _ => rfl)
  have ⟨f_law_named, F_law_named⟩ : ∃ fd, FnP S "_law_named" s_law_named (He.ga S.K "_law_named") fd := c.def_ 32 (d := d_law_named) rfl
  have c_law_named : Cl S "_law_named" 1 SpByNames := cl_of X G F_law_named (ok_law_named F_law_named b) (c.fact 32 (f := .glo "_law_named") rfl) (fun _ _ _ _ _ _ us hl => match us, hl with | [_], _ => rfl)
  have ⟨f_seen_along, F_seen_along⟩ : ∃ fd, FnP S "seen_along" s_seen_along (He.ga S.K "seen_along") fd := c.def_ 4 (d := d_seen_along) rfl
  have c_seen_along : Cl S "seen_along" 2 SpSeen := cl_of X G F_seen_along (ok_seen_along F_seen_along b c_name_of c_row_in) (c.fact 4 (f := .glo "seen_along") rfl) (fun _ _ _ _ _ _ us hl => match us, hl with | [_, _], _ => rfl)
  have ⟨f_is_did, F_is_did⟩ : ∃ fd, FnP S "is_did" s_is_did (He.ga S.K "is_did") fd := c.def_ 5 (d := d_is_did) rfl
  have c_is_did : Cl S "is_did" 1 SpDid := cl_of X G F_is_did (ok_is_did F_is_did ) (c.fact 5 (f := .glo "is_did") rfl) (fun _ _ _ _ _ _ us hl => match us, hl with | [_, _, _, _], _ => rfl)
  have ⟨f_is_event, F_is_event⟩ : ∃ fd, FnP S "is_event" s_is_event (He.ga S.K "is_event") fd := c.def_ 6 (d := d_is_event) rfl
  have c_is_event : Cl S "is_event" 2 SpIs := cl_of X G F_is_event (ok_is_event F_is_event c_is_did) (c.fact 6 (f := .glo "is_event") rfl) (fun _ _ _ _ _ _ us hl => match us, hl with | [_, _, _, _], _ => rfl)
  have ⟨f_event_place, F_event_place⟩ : ∃ fd, FnP S "event_place" s_event_place (He.ga S.K "event_place") fd := c.def_ 7 (d := d_event_place) rfl
  have c_event_place : Cl S "event_place" 3 SpEvPlace := cl_of X G F_event_place (ok_event_place F_event_place c_is_event) (c.fact 7 (f := .glo "event_place") rfl) (fun _ _ _ _ _ _ us hl => match us, hl with | [_, _, _, _], _ => rfl)
  have ⟨f_deed_place, F_deed_place⟩ : ∃ fd, FnP S "deed_place" s_deed_place (He.ga S.K "deed_place") fd := c.def_ 8 (d := d_deed_place) rfl
  have c_deed_place : Cl S "deed_place" 1 SpDeedPlace := cl_of X G F_deed_place (ok_deed_place F_deed_place ) (c.fact 8 (f := .glo "deed_place") rfl) (fun _ _ _ _ _ _ us hl => match us, hl with | [_, _, _, _], _ => rfl)
  have ⟨f_law_is, F_law_is⟩ : ∃ fd, FnP S "_law_is" s_law_is (He.ga S.K "_law_is") fd := c.def_ 35 (d := d_law_is) rfl
  have c_law_is : Cl S "_law_is" 1 SpIs := cl_of X G F_law_is (ok_law_is F_law_is ) (c.fact 35 (f := .glo "_law_is") rfl) (fun _ _ _ _ _ _ us hl => match us, hl with | [_, _, _, _], _ => rfl)
  have ⟨f_law_place, F_law_place⟩ : ∃ fd, FnP S "_law_place" s_law_place (He.ga S.K "_law_place") fd := c.def_ 36 (d := d_law_place) rfl
  have c_law_place : Cl S "_law_place" 2 SpLawPlace := cl_of X G F_law_place (ok_law_place F_law_place b c_law_is) (c.fact 36 (f := .glo "_law_place") rfl) (fun _ _ _ _ _ _ us hl => match us, hl with | [_, _, _, _], _ => rfl)
  have ⟨f_law_deed_place, F_law_deed_place⟩ : ∃ fd, FnP S "_law_deed_place" s_law_deed_place (He.ga S.K "_law_deed_place") fd := c.def_ 37 (d := d_law_deed_place) rfl
  have c_law_deed_place : Cl S "_law_deed_place" 1 SpLawDeed := cl_of X G F_law_deed_place (ok_law_deed_place F_law_deed_place b) (c.fact 37 (f := .glo "_law_deed_place") rfl) (fun _ _ _ _ _ _ us hl => match us, hl with | [_, _, _, _], _ => rfl)
  have ⟨f_law_sees, F_law_sees⟩ : ∃ fd, FnP S "_law_sees" s_law_sees (He.ga S.K "_law_sees") fd := c.def_ 34 (d := d_law_sees) rfl
  have c_law_sees : Cl S "_law_sees" 2 SpSees := cl_of X G F_law_sees (ok_law_sees F_law_sees b c_law_row) (c.fact 34 (f := .glo "_law_sees") rfl) (fun _ _ _ _ _ _ us hl => match us, hl with | [_, _], _ => rfl)
  have ⟨f_gap_of, F_gap_of⟩ : ∃ fd, FnP S "gap_of" s_gap_of (He.ga S.K "gap_of") fd := c.def_ 9 (d := d_gap_of) rfl
  have c_gap_of : Cl S "gap_of" 2 SpGap := cl_of X G F_gap_of (ok_gap_of F_gap_of c_name_ahead c_row_in) (c.fact 9 (f := .glo "gap_of") rfl) (fun _ _ _ _ _ _ us hl => match us, hl with | [_, _], _ => rfl)
  have ⟨f_gap_places, F_gap_places⟩ : ∃ fd, FnP S "gap_places" s_gap_places (He.ga S.K "gap_places") fd := c.def_ 10 (d := d_gap_places) rfl
  have c_gap_places : Cl S "gap_places" 3 SpGaps := cl_of X G F_gap_places (ok_gap_places F_gap_places b c_gap_of) (c.fact 10 (f := .glo "gap_places") rfl) (fun _ _ _ _ _ _ us hl => match us, hl with | [_, _], _ => rfl)
  have ⟨f_can_be, F_can_be⟩ : ∃ fd, FnP S "can_be" s_can_be (He.ga S.K "can_be") fd := c.def_ 11 (d := d_can_be) rfl
  have c_can_be : Cl S "can_be" 1 SpCanBe := cl_of X G F_can_be (ok_can_be F_can_be ) (c.fact 11 (f := .glo "can_be") rfl) (fun _ _ _ _ _ _ us hl => match us, hl with | [_, _, _, _, _], _ => rfl)
  have ⟨f_each_once, F_each_once⟩ : ∃ fd, FnP S "each_once" s_each_once (He.ga S.K "each_once") fd := c.def_ 12 (d := d_each_once) rfl
  have c_each_once : Cl S "each_once" 1 SpOnce := cl_of X G F_each_once (ok_each_once F_each_once b) (c.fact 12 (f := .glo "each_once") rfl) (fun _ _ _ _ _ _ us hl => match us, hl with | [_], _ => rfl)
  have ⟨f_below, F_below⟩ : ∃ fd, FnP S "below" s_below (He.ga S.K "below") fd := c.def_ 13 (d := d_below) rfl
  have c_below : Cl S "below" 2 SpBelow := cl_of X G F_below (ok_below F_below c_each_once) (c.fact 13 (f := .glo "below") rfl) (fun _ _ _ _ _ _ us hl => match us, hl with | [_, _], _ => rfl)
  have ⟨f_init, F_init⟩ : ∃ fd, MeP S "__init__" "Line.__init__" sm_init (He.ma S.K (He.ga S.K "Line") "__init__") fd := c.def_ 46 (d := dm_init) rfl
  have k_line : Kl S (He.ga S.K "Line") "Line" 3 (SpInit (He.ga S.K "Line")) := kl_of X G F_init (ok_init F_init lc c_row_in c_seen_along) (c.fact 58 (f := .glo "Line") rfl) rfl (He.mkr_ok (c.fact 60 (f := .mkr "Line") rfl)) (fun _ _ _ _ _ _ us hl => match us, hl with | [_, _, _, _], _ => rfl)
  have ⟨f_debtor, F_debtor⟩ : ∃ fd, MeP S "debtor" "Line.debtor" sm_debtor (He.ma S.K (He.ga S.K "Line") "debtor") fd := c.def_ 47 (d := dm_debtor) rfl
  have m_debtor : Ml S (He.ga S.K "Line") "debtor" 1 (SpDebtor (He.ga S.K "Line")) := ml_of F_debtor (ok_debtor F_debtor lc) (He.meth_ok (c.fact 70 (f := .meth "Line" "debtor") rfl)) (fun _ _ _ _ _ _ us hl => match us, hl with | [_, _], _ => rfl)
  have ⟨f_time, F_time⟩ : ∃ fd, MeP S "time" "Line.time" sm_time (He.ma S.K (He.ga S.K "Line") "time") fd := c.def_ 48 (d := dm_time) rfl
  have m_time : Ml S (He.ga S.K "Line") "time" 1 (SpTime (He.ga S.K "Line")) := ml_of F_time (ok_time F_time lc) (He.meth_ok (c.fact 71 (f := .meth "Line" "time") rfl)) (fun _ _ _ _ _ _ us hl => match us, hl with | [_, _], _ => rfl)
  have ⟨f_own_place, F_own_place⟩ : ∃ fd, MeP S "own_place" "Line.own_place" sm_own_place (He.ma S.K (He.ga S.K "Line") "own_place") fd := c.def_ 49 (d := dm_own_place) rfl
  have m_own_place : Ml S (He.ga S.K "Line") "own_place" 1 (SpOwn (He.ga S.K "Line")) := ml_of F_own_place (ok_own_place F_own_place b lc) (He.meth_ok (c.fact 72 (f := .meth "Line" "own_place") rfl)) (fun _ _ _ _ _ _ us hl => match us, hl with | [_, _], _ => rfl)
  have ⟨f_hand_place, F_hand_place⟩ : ∃ fd, MeP S "hand_place" "Line.hand_place" sm_hand_place (He.ma S.K (He.ga S.K "Line") "hand_place") fd := c.def_ 50 (d := dm_hand_place) rfl
  have m_hand_place : Ml S (He.ga S.K "Line") "hand_place" 2 (SpHand (He.ga S.K "Line")) := ml_of F_hand_place (ok_hand_place F_hand_place lc c_deed_place m_debtor) (He.meth_ok (c.fact 73 (f := .meth "Line" "hand_place") rfl)) (fun _ _ _ _ _ _ us hl => match us, hl with | [_, _], _ => rfl)
  have ⟨f_event_places, F_event_places⟩ : ∃ fd, FnP S "event_places" s_event_places (He.ga S.K "event_places") fd := c.def_ 14 (d := d_event_places) rfl
  have c_event_places : Cl S "event_places" 4 (SpEvPlaces (He.ga S.K "Line")) := cl_of X G F_event_places (ok_event_places F_event_places lc c_event_place c_can_be c_below) (c.fact 14 (f := .glo "event_places") rfl) (fun _ _ _ _ _ _ us hl => match us, hl with | [_, _, _, _], _ => rfl)
  have ⟨f_start_places, F_start_places⟩ : ∃ fd, FnP S "start_places" s_start_places (He.ga S.K "start_places") fd := c.def_ 15 (d := d_start_places) rfl
  have c_start_places : Cl S "start_places" 3 (SpStart (He.ga S.K "Line")) := cl_of X G F_start_places (ok_start_places F_start_places b lc c_below c_each_once m_debtor m_own_place m_hand_place) (c.fact 15 (f := .glo "start_places") rfl) (fun _ _ _ _ _ _ us hl => match us, hl with | [_, _, _], _ => rfl)
  have ⟨f_begins_along, F_begins_along⟩ : ∃ fd, FnP S "begins_along" s_begins_along (He.ga S.K "begins_along") fd := c.def_ 16 (d := d_begins_along) rfl
  have c_begins_along : Cl S "begins_along" 5 (SpBegAl (He.ga S.K "Line")) := cl_of X G F_begins_along (ok_begins_along F_begins_along b lc c_start_places c_event_places c_each_once m_time) (c.fact 16 (f := .glo "begins_along") rfl) (fun _ _ _ _ _ _ us hl => match us, hl with | [_, _, _, _], _ => rfl)
  have ⟨f_places, F_places⟩ : ∃ fd, FnP S "places" s_places (He.ga S.K "places") fd := c.def_ 17 (d := d_places) rfl
  have c_places : Cl S "places" 5 SpPlaces := cl_of X G F_places (ok_places F_places lc c_by_names k_line c_gap_places c_event_places) (c.fact 17 (f := .glo "places") rfl) (fun _ _ _ _ _ _ us hl => match us, hl with | [_, _, _, _], _ => rfl)
  have ⟨f_begins, F_begins⟩ : ∃ fd, FnP S "begins" s_begins (He.ga S.K "begins") fd := c.def_ 18 (d := d_begins) rfl
  have c_begins : Cl S "begins" 6 SpBegins := cl_of X G F_begins (ok_begins F_begins lc c_by_names k_line c_gap_places c_begins_along) (c.fact 18 (f := .glo "begins") rfl) (fun _ _ _ _ _ _ us hl => match us, hl with | [_, _, _, _], _ => rfl)
  have ⟨f_law_start, F_law_start⟩ : ∃ fd, FnP S "_law_start" s_law_start (He.ga S.K "_law_start") fd := c.def_ 38 (d := d_law_start) rfl
  have c_law_start : Cl S "_law_start" 2 SpWStart := cl_of X G F_law_start (ok_law_start F_law_start b c_law_deed_place) (c.fact 38 (f := .glo "_law_start") rfl) (fun _ _ _ _ _ _ us hl => match us, hl with | [_, _, _, _], _ => rfl)
  have ⟨f_law_begin, F_law_begin⟩ : ∃ fd, FnP S "_law_begin" s_law_begin (He.ga S.K "_law_begin") fd := c.def_ 39 (d := d_law_begin) rfl
  have c_law_begin : Cl S "_law_begin" 3 SpWBeg := cl_of X G F_law_begin (ok_law_begin F_law_begin b c_law_start c_law_place) (c.fact 39 (f := .glo "_law_begin") rfl) (fun _ _ _ _ _ _ us hl => match us, hl with | [_, _, _, _], _ => rfl)
  have ⟨f_law_cell_at, F_law_cell_at⟩ : ∃ fd, FnP S "_law_cell_at" s_law_cell_at (He.ga S.K "_law_cell_at") fd := c.def_ 19 (d := d_law_cell_at) rfl
  have c_law_cell_at : Cl S "_law_cell_at" 1 (SpCell S.K) := cl_of X G F_law_cell_at (ok_cell F_law_cell_at b) (c.fact 19 (f := .glo "_law_cell_at") rfl) (fun _ _ _ _ _ _ us hl => match us, hl with | [_, _], _ => rfl)
  have ⟨f_law_pick, F_law_pick⟩ : ∃ fd, FnP S "_law_pick" s_law_pick (He.ga S.K "_law_pick") fd := c.def_ 21 (d := d_law_pick) rfl
  have c_law_pick : Cl S "_law_pick" 1 SpPick := cl_of X G F_law_pick (ok_pick F_law_pick ) (c.fact 21 (f := .glo "_law_pick") rfl) (fun _ _ _ _ _ _ us hl => match us, hl with | [_, _], _ => rfl)
  have ⟨f_law_left, F_law_left⟩ : ∃ fd, FnP S "_law_left" s_law_left (He.ga S.K "_law_left") fd := c.def_ 20 (d := d_law_left) rfl
  have c_law_left : Cl S "_law_left" 2 (SpLeft S.K) := cl_of X G F_law_left (ok_left F_law_left b c_law_cell_at) (c.fact 20 (f := .glo "_law_left") rfl) (fun _ _ _ _ _ _ us hl => match us, hl with | [_, _], _ => rfl)
  have ⟨f_law_words, F_law_words⟩ : ∃ fd, FnP S "_law_words" s_law_words (He.ga S.K "_law_words") fd := c.def_ 22 (d := d_law_words) rfl
  have c_law_words : Cl S "_law_words" 2 SpWords := cl_of X G F_law_words (ok_words F_law_words b c_law_pick) (c.fact 22 (f := .glo "_law_words") rfl) (fun _ _ _ _ _ _ us hl => match us, hl with | [_, _], _ => rfl)
  have ⟨f_law_event, F_law_event⟩ : ∃ fd, FnP S "_law_event" s_law_event (He.ga S.K "_law_event") fd := c.def_ 23 (d := d_law_event) rfl
  have c_law_event : Cl S "_law_event" 2 SpEvent := cl_of X G F_law_event (ok_event F_law_event b c_law_pick) (c.fact 23 (f := .glo "_law_event") rfl) (fun _ _ _ _ _ _ us hl => match us, hl with | [_, _, _, _], _ => rfl)
  have ⟨f_law_clauses, F_law_clauses⟩ : ∃ fd, FnP S "_law_clauses" s_law_clauses (He.ga S.K "_law_clauses") fd := c.def_ 24 (d := d_law_clauses) rfl
  have c_law_clauses : Cl S "_law_clauses" 3 SpClauses := cl_of X G F_law_clauses (ok_clauses F_law_clauses b c_law_pick c_law_event) (c.fact 24 (f := .glo "_law_clauses") rfl) (fun _ _ _ _ _ _ us hl => match us, hl with | [_, _, _, _, _], _ => rfl)
  have ⟨f_law_town, F_law_town⟩ : ∃ fd, FnP S "_law_town" s_law_town (He.ga S.K "_law_town") fd := c.def_ 25 (d := d_law_town) rfl
  have c_law_town : Cl S "_law_town" 4 (SpTown S.K) := cl_of X G F_law_town (ok_town F_law_town b c_law_left c_law_pick c_law_words c_law_clauses) (c.fact 25 (f := .glo "_law_town") rfl) (fun _ _ _ _ _ _ us hl => match us, hl with | [_], _ => rfl)
  have ⟨f_law_deed, F_law_deed⟩ : ∃ fd, FnP S "_law_deed" s_law_deed (He.ga S.K "_law_deed") fd := c.def_ 26 (d := d_law_deed) rfl
  have c_law_deed : Cl S "_law_deed" 2 SpDeed := cl_of X G F_law_deed (ok_deed F_law_deed b c_law_pick) (c.fact 26 (f := .glo "_law_deed") rfl) (fun _ _ _ _ _ _ us hl => match us, hl with | [_, _], _ => rfl)
  have ⟨f_law_last, F_law_last⟩ : ∃ fd, FnP S "_law_last" s_law_last (He.ga S.K "_law_last") fd := c.def_ 28 (d := d_law_last) rfl
  have c_law_last : Cl S "_law_last" 1 SpLast := cl_of X G F_law_last (ok_last F_law_last ) (c.fact 28 (f := .glo "_law_last") rfl) (fun _ _ _ _ _ _ us hl => match us, hl with | [_, _, _], _ => rfl)
  have ⟨f_law_gots, F_law_gots⟩ : ∃ fd, FnP S "_law_gots" s_law_gots (He.ga S.K "_law_gots") fd := c.def_ 29 (d := d_law_gots) rfl
  have c_law_gots : Cl S "_law_gots" 2 SpGots := cl_of X G F_law_gots (ok_gots F_law_gots b c_law_pick c_law_name) (c.fact 29 (f := .glo "_law_gots") rfl) (fun _ _ _ _ _ _ us hl => match us, hl with | [_, _, _, _], _ => rfl)
  have ⟨f_law_letter, F_law_letter⟩ : ∃ fd, FnP S "_law_letter" s_law_letter (He.ga S.K "_law_letter") fd := c.def_ 30 (d := d_law_letter) rfl
  have c_law_letter : Cl S "_law_letter" 3 SpLetter := cl_of X G F_law_letter (ok_letter F_law_letter b c_law_pick c_law_last c_law_deed c_law_gots) (c.fact 30 (f := .glo "_law_letter") rfl) (fun _ _ _ _ _ _ us hl => match us, hl with | [_, _, _, _], _ => rfl)
  have ⟨f_law_pile, F_law_pile⟩ : ∃ fd, FnP S "_law_pile" s_law_pile (He.ga S.K "_law_pile") fd := c.def_ 31 (d := d_law_pile) rfl
  have c_law_pile : Cl S "_law_pile" 4 (SpPile S.K) := cl_of X G F_law_pile (ok_pile F_law_pile b c_law_left c_law_pick c_law_letter) (c.fact 31 (f := .glo "_law_pile") rfl) (fun _ _ _ _ _ _ us hl => match us, hl with | [_, _, _], _ => rfl)
  have ⟨f_law_asked, F_law_asked⟩ : ∃ fd, FnP S "_law_asked" s_law_asked (He.ga S.K "_law_asked") fd := c.def_ 40 (d := d_law_asked) rfl
  have c_law_asked : Cl S "_law_asked" 2 SpAsked := cl_of X G F_law_asked (ok_asked F_law_asked b c_law_row) (c.fact 40 (f := .glo "_law_asked") rfl) (fun _ _ _ _ _ _ us hl => match us, hl with | [_, _], _ => rfl)
  have ⟨f_law_some, F_law_some⟩ : ∃ fd, FnP S "_law_some" s_law_some (He.ga S.K "_law_some") fd := c.def_ 41 (d := d_law_some) rfl
  have c_law_some : Cl S "_law_some" 2 SpSome := cl_of X G F_law_some (ok_some F_law_some b c_law_pick) (c.fact 41 (f := .glo "_law_some") rfl) (fun _ _ _ _ _ _ us hl => match us, hl with | [_, _, _], _ => rfl)
  have ⟨f_law_events, F_law_events⟩ : ∃ fd, FnP S "_law_events" s_law_events (He.ga S.K "_law_events") fd := c.def_ 42 (d := d_law_events) rfl
  have c_law_events : Cl S "_law_events" 1 SpEvents := cl_of X G F_law_events (ok_events F_law_events b) (c.fact 42 (f := .glo "_law_events") rfl) (fun _ _ _ _ _ _ us hl => match us, hl with | [_, _], _ => rfl)
  have ⟨f_law_ringed, F_law_ringed⟩ : ∃ fd, FnP S "_law_ringed" s_law_ringed (He.ga S.K "_law_ringed") fd := c.def_ 43 (d := d_law_ringed) rfl
  have c_law_ringed : Cl S "_law_ringed" 2 SpRinged := cl_of X G F_law_ringed (ok_ringed F_law_ringed b c_law_pick c_law_last) (c.fact 43 (f := .glo "_law_ringed") rfl) (fun _ _ _ _ _ _ us hl => match us, hl with | [_, _], _ => rfl)
  have ⟨f_law_cut, F_law_cut⟩ : ∃ fd, FnP S "_law_cut" s_law_cut (He.ga S.K "_law_cut") fd := c.def_ 44 (d := d_law_cut) rfl
  have c_law_cut : Cl S "_law_cut" 2 SpCut := cl_of X G F_law_cut (ok_cut F_law_cut b c_law_pick) (c.fact 44 (f := .glo "_law_cut") rfl) (fun _ _ _ _ _ _ us hl => match us, hl with | [_, _], _ => rfl)
  exact ok_law F b c_law_town c_law_left c_law_pick c_law_pile c_law_ringed c_law_cut c_law_named c_law_some c_law_asked c_law_row c_law_sees c_law_events c_places c_law_place c_law_begin c_begins
end
theorem facts {P : Program} {w : World} {K : PySem.W.Frag} {h : Heap} {mg : Str → Option Value} {f : Addr} (X : K.In h) (G : h.Ns mainGlobals mg) (hfa : mg ("law" : Str) = some (.ref f)) (c : He.SaysD fa fn K) :
    ∃ fd : FuncData, (∀ (s : Shared) (v : Value), BindsTo s fd ⟨[v], []⟩ [("_law_script", v)]) ∧ ∀ base : Heap, K.In base → base.Ns mainGlobals mg → FnOk P w K mg base CX0 7 f fd ["_law_script"] (SpLaw K) := by
  obtain ⟨fd, F⟩ : ∃ fd, FunD K "law" "law" (defArgs s_law) (defBody s_law) (defScope s_law) [] [] (He.ga K "law") fd := c.def_ 45 (d := d_law) rfl
  have e := hfa.symm.trans (He.glo_ok X G (c.fact 45 (f := .glo "law") rfl))
  cases e
  have b := FunD.bindsA (ps := ["_law_script"]) F fun _ _ _ _ _ _ us hl => match us, hl with | [_], _ => rfl
  exact ⟨fd, fun s v => b s [v] rfl, fun base _ _ => law_ok (S := ⟨P, w, K, mg, base⟩) X G c F⟩
theorem law_true {K : PySem.W.Frag} {H : Hp} {a : Addr} {ns : List Int} (hl : ns.length ≤ 63) (hS : SqL K H a (ns.map V.int)) : SpLaw K [.ref a] H (fun v _ => v = .bl true) fun _ _ _ => False :=
  ⟨ns, H, hl, Sub.self H, ⟨List.nodup_nil, fun _ h => nomatch h⟩, .cons ⟨a, rfl, hS⟩ .nil, fun v G' H' _ _ _ r => Dg.bl_eq r⟩
end Hw
open PySem PySem.W PySem.Calls PyProof.Rows
theorem PySem.Challenge.cw_holdword_k37_whole_what_comes_was_told_holds : PySem.Challenge.rw_holdword_k37_whole_what_comes_was_told.Holds := by
  w_on; o_law
  refine HandSHeadRun.head_any (r := OpenLaw.row PySem.Challenge.rw_holdword_k37_whole_what_comes_was_told) (q := view (OpenLaw.row PySem.Challenge.rw_holdword_k37_whole_what_comes_was_told).prog [53]) (H := Hw.hk) (ob := Hw.ob) (M := 3000) (loose := Hw.loose) (d := HandSHeadRun.topDef (OpenLaw.row PySem.Challenge.rw_holdword_k37_whole_what_comes_was_told).prog 53) (kwd := []) Hw.ob_eq
    (by kernel_rfl) (fun s => by kernel_rfl) Hw.run (by kernel_rfl) (by kernel_rfl) (by kernel_rfl) (by rfl) (by first | assumption | decide +kernel) (by decide +kernel) ⟨rfl, rfl, rfl, rfl, rfl, by decide +kernel⟩ ?hw ?hc
  case hw => w_witness2
  case hc =>
    refine L2.walk_ofE (l := PySem.Challenge.rw_holdword_k37_whole_what_comes_was_told) (n := 63) (k := 7) (x := "_law_script") (CX := L2.CX0) rfl (by decide) (by kernel_rfl) ⟨rfl, by decide, by decide⟩ ?F (fun _ _ _ _ z => z)
    intro w mg fa h Y G hmg0
    obtain ⟨K, KX, c⟩ := Y
    have hmg : mg ("law" : PySem.Str) = some (.ref fa) := by
      have e : (HandSHeadRun.topDef (OpenLaw.row PySem.Challenge.rw_holdword_k37_whole_what_comes_was_told).prog 53).name = ("law" : PySem.Str) := by kernel_rfl
      rw [← e]
      exact hmg0
    obtain ⟨fd, hb, hF⟩ := Hw.facts (P := (PySem.Challenge.rw_holdword_k37_whole_what_comes_was_told).prog) (w := w) KX G hmg c
    exact ⟨K, fd, Hw.SpLaw K, KX, hb, fun H a ns hl _ hS => Hw.law_true hl hS, hF⟩
