import PyProof.Rows.All
import Wide.All
import OpenK.AllK
import Wide.FinOn
import HandS.ForMost
import HandS.ForExc
import HandS.Flow
import HandS.Style
import HandS.Defaults
import HandS.Walk
import HandS.Zip
import HandS.Conv
import HandS.IsInst
import HandS.DictComp
import HandS.SetKeys
import HandS.TupAny
import HandS.SortKw
import HandS.StrMore
import HandS.Steps
import HandS.RaiseMore
import HandS.Evl
import HandS.Head0
import HandS.Head1
import HandS.Head2
import HandS.HeadEnd
import HandS.HeadHook1
import HandS.HeadHook2
import HandS.HeadHook3
import HandS.HeadHook4
import PySem.Challenge.RW_firstfailing_k52_whole_most_tries_rising
import HandS.Replace
import KE.GoesMore
import KE.KDictPairs
import PyProof.ReprRoads
import PyProof.StrLawsRepr
import PyProof.FitsInt
import HandS.Set
import HandS.SetFor
import HandS.Strs
import HandS.SortOrd
import HandS.SortRule
import KE.KSortTupAny
set_option Elab.async false
set_option linter.all false
set_option maxRecDepth 100000
set_option maxHeartbeats 4000000
/-! the text by places: each def as it stands -/
namespace FF
open PySem PySem.Spec PyProof.Rows L2
abbrev PR : Program := PySem.Challenge.pw_firstfailing_k52_whole_most_tries_rising
def top (i : Nat) : Stmt := PR.main.body.getD i (.Pass ⟨0, 0, 0, 0⟩)
abbrev s_is_letter : Stmt := top 9
def d_is_letter : He.DefD := ⟨("is_letter", none), "is_letter", "is_letter", defArgs (top 9), defBody (top 9), defScope (top 9), [], []⟩
abbrev s_is_thing : Stmt := top 10
def d_is_thing : He.DefD := ⟨("is_thing", none), "is_thing", "is_thing", defArgs (top 10), defBody (top 10), defScope (top 10), [], []⟩
abbrev s_is_rising_row : Stmt := top 11
def d_is_rising_row : He.DefD := ⟨("is_rising_row", none), "is_rising_row", "is_rising_row", defArgs (top 11), defBody (top 11), defScope (top 11), [], []⟩
abbrev s_is_things : Stmt := top 12
def d_is_things : He.DefD := ⟨("is_things", none), "is_things", "is_things", defArgs (top 12), defBody (top 12), defScope (top 12), [], []⟩
abbrev s_is_letter_set : Stmt := top 13
def d_is_letter_set : He.DefD := ⟨("is_letter_set", none), "is_letter_set", "is_letter_set", defArgs (top 13), defBody (top 13), defScope (top 13), [], []⟩
abbrev s_is_pair : Stmt := top 14
def d_is_pair : He.DefD := ⟨("is_pair", none), "is_pair", "is_pair", defArgs (top 14), defBody (top 14), defScope (top 14), [], []⟩
abbrev s_is_test : Stmt := top 15
def d_is_test : He.DefD := ⟨("is_test", none), "is_test", "is_test", defArgs (top 15), defBody (top 15), defScope (top 15), [], []⟩
abbrev s_reached_letters : Stmt := top 16
def d_reached_letters : He.DefD := ⟨("reached_letters", none), "reached_letters", "reached_letters", defArgs (top 16), defBody (top 16), defScope (top 16), [], []⟩
abbrev s_want_stepusable : Stmt := top 19
def d_want_stepusable : He.DefD := ⟨("want_stepusable", none), "want", "want", defArgs (top 19), defBody (top 19), defScope (top 19), [.int (-1)], []⟩
abbrev s_known_letters_stepusable : Stmt := top 21
def d_known_letters_stepusable : He.DefD := ⟨("known_letters_stepusable", none), "known_letters", "known_letters", defArgs (top 21), defBody (top 21), defScope (top 21), [], []⟩
abbrev s_is_thing_of_stepusable : Stmt := top 23
def d_is_thing_of_stepusable : He.DefD := ⟨("is_thing_of_stepusable", none), "is_thing_of", "is_thing_of", defArgs (top 23), defBody (top 23), defScope (top 23), [], []⟩
abbrev s_is_test_of : Stmt := top 25
def d_is_test_of : He.DefD := ⟨("is_test_of", none), "is_test_of", "is_test_of", defArgs (top 25), defBody (top 25), defScope (top 25), [], []⟩
abbrev s_want_thing_stepusable : Stmt := top 26
def d_want_thing_stepusable : He.DefD := ⟨("want_thing_stepusable", none), "want_thing", "want_thing", defArgs (top 26), defBody (top 26), defScope (top 26), [], []⟩
abbrev s_want_test : Stmt := top 28
def d_want_test : He.DefD := ⟨("want_test", none), "want_test", "want_test", defArgs (top 28), defBody (top 28), defScope (top 28), [], []⟩
abbrev s_want_manner : Stmt := top 29
def d_want_manner : He.DefD := ⟨("want_manner", none), "want_manner", "want_manner", defArgs (top 29), defBody (top 29), defScope (top 29), [], []⟩
abbrev s_want_notes : Stmt := top 30
def d_want_notes : He.DefD := ⟨("want_notes", none), "want_notes", "want_notes", defArgs (top 30), defBody (top 30), defScope (top 30), [], []⟩
abbrev s_places_of : Stmt := top 32
def d_places_of : He.DefD := ⟨("places_of", none), "places_of", "places_of", defArgs (top 32), defBody (top 32), defScope (top 32), [], []⟩
abbrev s_dropped : Stmt := top 33
def d_dropped : He.DefD := ⟨("dropped", none), "dropped", "dropped", defArgs (top 33), defBody (top 33), defScope (top 33), [], []⟩
abbrev s_halved : Stmt := top 34
def d_halved : He.DefD := ⟨("halved", none), "halved", "halved", defArgs (top 34), defBody (top 34), defScope (top 34), [], []⟩
abbrev s_lowered : Stmt := top 35
def d_lowered : He.DefD := ⟨("lowered", none), "lowered", "lowered", defArgs (top 35), defBody (top 35), defScope (top 35), [], []⟩
abbrev s_put_results : Stmt := top 36
def d_put_results : He.DefD := ⟨("put_results", none), "put_results", "put_results", defArgs (top 36), defBody (top 36), defScope (top 36), [], []⟩
abbrev s_results_of : Stmt := top 37
def d_results_of : He.DefD := ⟨("results_of", none), "results_of", "results_of", defArgs (top 37), defBody (top 37), defScope (top 37), [], []⟩
abbrev s_steps_from : Stmt := top 38
def d_steps_from : He.DefD := ⟨("steps_from", none), "steps_from", "steps_from", defArgs (top 38), defBody (top 38), defScope (top 38), [], []⟩
abbrev s_letters_under : Stmt := top 39
def d_letters_under : He.DefD := ⟨("letters_under", none), "letters_under", "letters_under", defArgs (top 39), defBody (top 39), defScope (top 39), [], []⟩
abbrev s_falling_fault : Stmt := top 40
def d_falling_fault : He.DefD := ⟨("falling_fault", none), "falling_fault", "falling_fault", defArgs (top 40), defBody (top 40), defScope (top 40), [], []⟩
abbrev s_want_falling : Stmt := top 41
def d_want_falling : He.DefD := ⟨("want_falling", none), "want_falling", "want_falling", defArgs (top 41), defBody (top 41), defScope (top 41), [], []⟩
abbrev s_want_usable : Stmt := top 43
def d_want_usable : He.DefD := ⟨("want_usable", none), "want", "want", defArgs (top 43), defBody (top 43), defScope (top 43), [.int (-1)], []⟩
abbrev s_known_letters_usable : Stmt := top 45
def d_known_letters_usable : He.DefD := ⟨("known_letters_usable", none), "known_letters", "known_letters", defArgs (top 45), defBody (top 45), defScope (top 45), [], []⟩
abbrev s_is_thing_of_usable : Stmt := top 47
def d_is_thing_of_usable : He.DefD := ⟨("is_thing_of_usable", none), "is_thing_of", "is_thing_of", defArgs (top 47), defBody (top 47), defScope (top 47), [], []⟩
abbrev s_want_thing_usable : Stmt := top 49
def d_want_thing_usable : He.DefD := ⟨("want_thing_usable", none), "want_thing", "want_thing", defArgs (top 49), defBody (top 49), defScope (top 49), [], []⟩
abbrev s_next_ones : Stmt := top 52
def d_next_ones : He.DefD := ⟨("next_ones", none), "next_ones", "next_ones", defArgs (top 52), defBody (top 52), defScope (top 52), [], []⟩
abbrev s_lies_at_most : Stmt := top 53
def d_lies_at_most : He.DefD := ⟨("lies_at_most", none), "lies_at_most", "lies_at_most", defArgs (top 53), defBody (top 53), defScope (top 53), [], []⟩
abbrev s_is_at_most : Stmt := top 54
def d_is_at_most : He.DefD := ⟨("is_at_most", none), "is_at_most", "is_at_most", defArgs (top 54), defBody (top 54), defScope (top 54), [], []⟩
abbrev s_next_ones_below : Stmt := top 55
def d_next_ones_below : He.DefD := ⟨("next_ones_below", none), "next_ones_below", "next_ones_below", defArgs (top 55), defBody (top 55), defScope (top 55), [], []⟩
abbrev s_things_at_most : Stmt := top 56
def d_things_at_most : He.DefD := ⟨("things_at_most", none), "things_at_most", "things_at_most", defArgs (top 56), defBody (top 56), defScope (top 56), [], []⟩
abbrev s_has_lower : Stmt := top 58
def d_has_lower : He.DefD := ⟨("has_lower", none), "has_lower", "has_lower", defArgs (top 58), defBody (top 58), defScope (top 58), [], []⟩
abbrev s_words_given : Stmt := top 59
def d_words_given : He.DefD := ⟨("words_given", none), "words_given", "words_given", defArgs (top 59), defBody (top 59), defScope (top 59), [], []⟩
abbrev s_ring_of : Stmt := top 60
def d_ring_of : He.DefD := ⟨("ring_of", none), "ring_of", "ring_of", defArgs (top 60), defBody (top 60), defScope (top 60), [], []⟩
abbrev s_want_ending : Stmt := top 61
def d_want_ending : He.DefD := ⟨("want_ending", none), "want_ending", "want_ending", defArgs (top 61), defBody (top 61), defScope (top 61), [], []⟩
abbrev s_does_fail : Stmt := top 63
def d_does_fail : He.DefD := ⟨("does_fail", none), "does_fail", "does_fail", defArgs (top 63), defBody (top 63), defScope (top 63), [], []⟩
abbrev s_want_walk : Stmt := top 65
def d_want_walk : He.DefD := ⟨("want_walk", none), "want_walk", "want_walk", defArgs (top 65), defBody (top 65), defScope (top 65), [], []⟩
abbrev s_gone_on : Stmt := top 66
def d_gone_on : He.DefD := ⟨("gone_on", none), "gone_on", "gone_on", defArgs (top 66), defBody (top 66), defScope (top 66), [], []⟩
abbrev s_walked : Stmt := top 67
def d_walked : He.DefD := ⟨("walked", none), "walked", "walked", defArgs (top 67), defBody (top 67), defScope (top 67), [], []⟩
abbrev s_walk_of : Stmt := top 68
def d_walk_of : He.DefD := ⟨("walk_of", none), "walk_of", "walk_of", defArgs (top 68), defBody (top 68), defScope (top 68), [], [("manner", .str "again"), ("notes", .bl false)]⟩
abbrev s_last_of : Stmt := top 69
def d_last_of : He.DefD := ⟨("last_of", none), "last_of", "last_of", defArgs (top 69), defBody (top 69), defScope (top 69), [], [("manner", .str "again"), ("notes", .bl false)]⟩
abbrev s_tries_of : Stmt := top 70
def d_tries_of : He.DefD := ⟨("tries_of", none), "tries_of", "tries_of", defArgs (top 70), defBody (top 70), defScope (top 70), [], [("manner", .str "again"), ("notes", .bl false)]⟩
abbrev s_most_tries_rising : Stmt := top 72
def d_most_tries_rising : He.DefD := ⟨("most_tries_rising", none), "most_tries_rising", "most_tries_rising", defArgs (top 72), defBody (top 72), defScope (top 72), [], [("manner", .str "again"), ("notes", .bl false)]⟩
abbrev s_law_feed : Stmt := top 74
def d_law_feed : He.DefD := ⟨("_law_feed", none), "_law_feed", "_law_feed", defArgs (top 74), defBody (top 74), defScope (top 74), [], []⟩
abbrev s_law_draw : Stmt := top 75
def d_law_draw : He.DefD := ⟨("_law_draw", none), "_law_draw", "_law_draw", defArgs (top 75), defBody (top 75), defScope (top 75), [], []⟩
abbrev s_law_any : Stmt := top 76
def d_law_any : He.DefD := ⟨("_law_any", none), "_law_any", "_law_any", defArgs (top 76), defBody (top 76), defScope (top 76), [], []⟩
abbrev s_law_letters : Stmt := top 77
def d_law_letters : He.DefD := ⟨("_law_letters", none), "_law_letters", "_law_letters", defArgs (top 77), defBody (top 77), defScope (top 77), [], []⟩
abbrev s_law_rule : Stmt := top 78
def d_law_rule : He.DefD := ⟨("_law_rule", none), "_law_rule", "_law_rule", defArgs (top 78), defBody (top 78), defScope (top 78), [], []⟩
abbrev s_law_thing : Stmt := top 79
def d_law_thing : He.DefD := ⟨("_law_thing", none), "_law_thing", "_law_thing", defArgs (top 79), defBody (top 79), defScope (top 79), [], []⟩
abbrev s_law_book : Stmt := top 80
def d_law_book : He.DefD := ⟨("_law_book", none), "_law_book", "_law_book", defArgs (top 80), defBody (top 80), defScope (top 80), [], []⟩
abbrev s_law_results : Stmt := top 81
def d_law_results : He.DefD := ⟨("_law_results", none), "_law_results", "_law_results", defArgs (top 81), defBody (top 81), defScope (top 81), [], []⟩
abbrev s_law_steps : Stmt := top 82
def d_law_steps : He.DefD := ⟨("_law_steps", none), "_law_steps", "_law_steps", defArgs (top 82), defBody (top 82), defScope (top 82), [], []⟩
abbrev s_law_below : Stmt := top 83
def d_law_below : He.DefD := ⟨("_law_below", none), "_law_below", "_law_below", defArgs (top 83), defBody (top 83), defScope (top 83), [], []⟩
abbrev s_law_is_at_most : Stmt := top 84
def d_law_is_at_most : He.DefD := ⟨("_law_is_at_most", none), "_law_is_at_most", "_law_is_at_most", defArgs (top 84), defBody (top 84), defScope (top 84), [], []⟩
abbrev s_law_lesser_things : Stmt := top 85
def d_law_lesser_things : He.DefD := ⟨("_law_lesser_things", none), "_law_lesser_things", "_law_lesser_things", defArgs (top 85), defBody (top 85), defScope (top 85), [], []⟩
abbrev s_law_walked : Stmt := top 86
def d_law_walked : He.DefD := ⟨("_law_walked", none), "_law_walked", "_law_walked", defArgs (top 86), defBody (top 86), defScope (top 86), [], []⟩
abbrev s_law_same : Stmt := top 87
def d_law_same : He.DefD := ⟨("_law_same", none), "_law_same", "_law_same", defArgs (top 87), defBody (top 87), defScope (top 87), [], []⟩
abbrev s_law_walk_by : Stmt := top 88
def d_law_walk_by : He.DefD := ⟨("_law_walk_by", none), "_law_walk_by", "_law_walk_by", defArgs (top 88), defBody (top 88), defScope (top 88), [], []⟩
abbrev s_law_count : Stmt := top 89
def d_law_count : He.DefD := ⟨("_law_count", none), "_law_count", "_law_count", defArgs (top 89), defBody (top 89), defScope (top 89), [], []⟩
abbrev s_law : Stmt := top 90
def d_law : He.DefD := ⟨("law", none), "law", "law", defArgs (top 90), defBody (top 90), defScope (top 90), [], []⟩
def fn : List He.DefD := [d_is_letter, d_is_thing, d_is_rising_row, d_is_things, d_is_letter_set, d_is_pair, d_is_test, d_reached_letters, d_want_stepusable, d_known_letters_stepusable, d_is_thing_of_stepusable, d_is_test_of, d_want_thing_stepusable, d_want_test, d_want_manner, d_want_notes, d_places_of, d_dropped, d_halved, d_lowered, d_put_results, d_results_of, d_steps_from, d_letters_under, d_falling_fault, d_want_falling, d_want_usable, d_known_letters_usable, d_is_thing_of_usable, d_want_thing_usable, d_next_ones, d_lies_at_most, d_is_at_most, d_next_ones_below, d_things_at_most, d_has_lower, d_words_given, d_ring_of, d_want_ending, d_does_fail, d_want_walk, d_gone_on, d_walked, d_walk_of, d_last_of, d_tries_of, d_most_tries_rising, d_law_feed, d_law_draw, d_law_any, d_law_letters, d_law_rule, d_law_thing, d_law_book, d_law_results, d_law_steps, d_law_below, d_law_is_at_most, d_law_lesser_things, d_law_walked, d_law_same, d_law_walk_by, d_law_count, d_law]
def blts : List Str := ["all", "any", "bool", "dict", "enumerate", "int", "isinstance", "len", "list", "max", "range", "repr", "set", "sorted", "str", "sum", "tuple", "zip"]
def fa : List He.Fa := (fn.map fun d => He.Fa.glo d.at_.1) ++ (blts.map fun x => He.Fa.free x) ++ [.str "LOWERCASE" "abcdefghijklmnopqrstuvwxyz", .glo "THING_TESTS", .glo "MANNERS"]
/-- what every walk asks of the top -/
structure Txt (K : PySem.W.Frag) (mg : Str → Option Value) : Prop where
  d : ∀ (i : Nat) (d : He.DefD), fn[i]? = some d → ∃ (f : Addr) (fd : FuncData), FunD K d.name d.qual d.params d.body d.scope (d.dvs K) (d.kws K) f fd ∧ mg d.at_.1 = some (.ref f)
  b : ∀ (i : Nat) (x : Str), blts[i]? = some x → mg x = none
  low : ∃ t, mg "LOWERCASE" = some (.str "abcdefghijklmnopqrstuvwxyz" t)
  tests : ∃ a, mg "THING_TESTS" = some (.ref a) ∧ ∀ H, SqT K H a [.str "causes", .str "only", .str "but"]
  manners : ∃ a, mg "MANNERS" = some (.ref a) ∧ ∀ H, SqT K H a [.str "again", .str "on"]
section
variable {K : PySem.W.Frag} {mg : Str → Option Value}
theorem Txt.all_ (T : Txt K mg) : mg "all" = none := T.b 0 "all" rfl
theorem Txt.any_ (T : Txt K mg) : mg "any" = none := T.b 1 "any" rfl
theorem Txt.bool_ (T : Txt K mg) : mg "bool" = none := T.b 2 "bool" rfl
theorem Txt.dict_ (T : Txt K mg) : mg "dict" = none := T.b 3 "dict" rfl
theorem Txt.enumerate_ (T : Txt K mg) : mg "enumerate" = none := T.b 4 "enumerate" rfl
theorem Txt.int_ (T : Txt K mg) : mg "int" = none := T.b 5 "int" rfl
theorem Txt.isinstance_ (T : Txt K mg) : mg "isinstance" = none := T.b 6 "isinstance" rfl
theorem Txt.len_ (T : Txt K mg) : mg "len" = none := T.b 7 "len" rfl
theorem Txt.list_ (T : Txt K mg) : mg "list" = none := T.b 8 "list" rfl
theorem Txt.max_ (T : Txt K mg) : mg "max" = none := T.b 9 "max" rfl
theorem Txt.range_ (T : Txt K mg) : mg "range" = none := T.b 10 "range" rfl
theorem Txt.repr_ (T : Txt K mg) : mg "repr" = none := T.b 11 "repr" rfl
theorem Txt.set_ (T : Txt K mg) : mg "set" = none := T.b 12 "set" rfl
theorem Txt.sorted_ (T : Txt K mg) : mg "sorted" = none := T.b 13 "sorted" rfl
theorem Txt.str_ (T : Txt K mg) : mg "str" = none := T.b 14 "str" rfl
theorem Txt.sum_ (T : Txt K mg) : mg "sum" = none := T.b 15 "sum" rfl
theorem Txt.tuple_ (T : Txt K mg) : mg "tuple" = none := T.b 16 "tuple" rfl
theorem Txt.zip_ (T : Txt K mg) : mg "zip" = none := T.b 17 "zip" rfl
end
end FF
/-! data seen in the abstract heap; states by shapes -/
namespace FF
open PySem PySem.Spec PyProof.Rows L2
open Evl (Ex)

mutual
/-- hard data: scalars, tuples of hard data; .list: a tuple whose object is known to have no dict of its own -/
def Rp (H : Hp) : PyData → V → Prop
  | .none, v => v = .non
  | .bool b, v => v = .bl b
  | .int i, v => v = .int i
  | .str x, v => v = .str x
  | .tuple ds, v => ∃ p xs, v = .ref p ∧ Rd H p (.tup xs) ∧ RpAll H ds xs
  | .list ds, v => ∃ p o xs, v = .ref p ∧ H p = some (.frz o (.tup xs)) ∧ o.dict = none ∧ RpAll H ds xs
  | .dict _, _ => False
def RpAll (H : Hp) : List PyData → List V → Prop
  | [], [] => True
  | d :: ds, x :: xs => Rp H d x ∧ RpAll H ds xs
  | [], _ :: _ => False
  | _ :: _, [] => False
end
/-- the tuples stand -/
def isTupO : HO → Bool
  | .tup _ => true
  | .frz _ (.tup _) => true
  | _ => false
def Pr (H H' : Hp) : Prop := ∀ a o, isTupO o = true → H a = some o → H' a = some o
theorem Ex.pr {H H' : Hp} (e : Ex H H') : Pr H H' := fun a o _ h => e a o h
theorem Pr.refl (H : Hp) : Pr H H := fun _ _ _ h => h
theorem Pr.trans {H H1 H2 : Hp} (a : Pr H H1) (b : Pr H1 H2) : Pr H H2 := fun p o z h => b p o z (a p o z h)
theorem Pr.rd {H H' : Hp} (e : Pr H H') {p : Addr} {xs : List V} (h : Rd H p (.tup xs)) : Rd H' p (.tup xs) := by
  rcases h with h | ⟨o, h⟩
  · exact .inl (e _ _ rfl h)
  · exact .inr ⟨o, e _ _ rfl h⟩
mutual
theorem Rp.mono {H H' : Hp} (e : Pr H H') : ∀ {d : PyData} {v : V}, Rp H d v → Rp H' d v
  | .none, _, h => h
  | .bool _, _, h => h
  | .int _, _, h => h
  | .str _, _, h => h
  | .tuple ds, v, h => by
    obtain ⟨p, xs, e1, e2, e3⟩ := h
    exact ⟨p, xs, e1, e.rd e2, RpAll.mono e e3⟩
  | .list ds, v, h => by
    obtain ⟨p, o, xs, e1, e2, e3, e4⟩ := h
    exact ⟨p, o, xs, e1, e _ _ rfl e2, e3, RpAll.mono e e4⟩
  | .dict _, _, h => h.elim
theorem RpAll.mono {H H' : Hp} (e : Pr H H') : ∀ {ds : List PyData} {xs : List V}, RpAll H ds xs → RpAll H' ds xs
  | [], [], _ => trivial
  | _ :: _, _ :: _, h => ⟨Rp.mono e h.1, RpAll.mono e h.2⟩
  | [], _ :: _, h => h.elim
  | _ :: _, [], h => h.elim
end
theorem RpAll.length {H : Hp} : ∀ {ds : List PyData} {xs : List V}, RpAll H ds xs → ds.length = xs.length
  | [], [], _ => rfl
  | _ :: _, _ :: _, h => congrArg Nat.succ (RpAll.length h.2)
  | [], _ :: _, h => h.elim
  | _ :: _, [], h => h.elim
theorem RpAll.get {H : Hp} : ∀ {ds : List PyData} {xs : List V} {i : Nat} {d : PyData}, RpAll H ds xs → ds[i]? = some d → ∃ x, xs[i]? = some x ∧ Rp H d x
  | [], [], _, _, _, h => by cases h
  | d :: ds, x :: xs, 0, e, r, h => by
    have z : d = e := Option.some.inj h
    subst z
    exact ⟨x, rfl, r.1⟩
  | d :: ds, x :: xs, i + 1, e, r, h => RpAll.get (i := i) r.2 h
  | [], _ :: _, _, _, h, _ => h.elim
  | _ :: _, [], _, _, h, _ => h.elim
theorem RpAll.getV {H : Hp} : ∀ {ds : List PyData} {xs : List V} {i : Nat} {x : V}, RpAll H ds xs → xs[i]? = some x → ∃ d, ds[i]? = some d ∧ Rp H d x
  | [], [], _, _, _, h => by cases h
  | d :: ds, x :: xs, 0, e, r, h => by
    have z : x = e := Option.some.inj h
    subst z
    exact ⟨d, rfl, r.1⟩
  | d :: ds, x :: xs, i + 1, e, r, h => RpAll.getV (i := i) r.2 h
  | [], _ :: _, _, _, h, _ => h.elim
  | _ :: _, [], _, _, h, _ => h.elim
theorem RpAll.append {H : Hp} : ∀ {ds es : List PyData} {xs ys : List V}, RpAll H ds xs → RpAll H es ys → RpAll H (ds ++ es) (xs ++ ys)
  | [], _, [], _, _, h => h
  | _ :: _, _, _ :: _, _, r, h => ⟨r.1, RpAll.append r.2 h⟩
  | [], _, _ :: _, _, h, _ => h.elim
  | _ :: _, _, [], _, h, _ => h.elim
theorem RpAll.take {H : Hp} : ∀ {ds : List PyData} {xs : List V} (n : Nat), RpAll H ds xs → RpAll H (ds.take n) (xs.take n)
  | _, _, 0, _ => trivial
  | [], [], _ + 1, _ => trivial
  | _ :: _, _ :: _, n + 1, r => ⟨r.1, RpAll.take n r.2⟩
  | [], _ :: _, _, h => h.elim
  | _ :: _, [], _, h => h.elim
theorem RpAll.drop {H : Hp} : ∀ {ds : List PyData} {xs : List V} (n : Nat), RpAll H ds xs → RpAll H (ds.drop n) (xs.drop n)
  | _, _, 0, r => r
  | [], [], _ + 1, _ => trivial
  | _ :: _, _ :: _, n + 1, r => RpAll.drop n r.2
  | [], _ :: _, _, h => h.elim
  | _ :: _, [], _, h => h.elim
theorem RpAll.reverse {H : Hp} : ∀ {ds : List PyData} {xs : List V}, RpAll H ds xs → RpAll H ds.reverse xs.reverse
  | [], [], _ => trivial
  | d :: ds, x :: xs, r => by
    rw [List.reverse_cons, List.reverse_cons]
    exact RpAll.append (RpAll.reverse r.2) ⟨r.1, trivial⟩
  | [], _ :: _, h => h.elim
  | _ :: _, [], h => h.elim
theorem RpAll.one {H : Hp} {d : PyData} {v : V} (h : Rp H d v) : RpAll H [d] [v] := ⟨h, trivial⟩
/-- flat data lean on no heap -/
def flat : PyData → Bool
  | .none | .bool _ | .int _ | .str _ => true
  | _ => false
theorem Rp.any {H H' : Hp} : ∀ {d : PyData} {v : V}, flat d = true → Rp H d v → Rp H' d v
  | .none, _, _, h => h
  | .bool _, _, _, h => h
  | .int _, _, _, h => h
  | .str _, _, _, h => h
def vOf : PyData → V
  | .none => .non
  | .bool b => .bl b
  | .int i => .int i
  | .str x => .str x
  | _ => .non
theorem Rp.vOf {H : Hp} : ∀ {d : PyData} {v : V}, flat d = true → Rp H d v → v = vOf d
  | .none, _, _, h => h
  | .bool _, _, _, h => h
  | .int _, _, _, h => h
  | .str _, _, _, h => h
theorem RpAll.flat {H : Hp} : ∀ {ds : List PyData} {xs : List V}, (∀ d ∈ ds, flat d = true) → RpAll H ds xs → xs = ds.map vOf
  | [], [], _, _ => rfl
  | d :: ds, x :: xs, a, r => by
    rw [List.map_cons, Rp.vOf (a d (List.mem_cons_self ..)) r.1, ← RpAll.flat (fun e he => a e (List.mem_cons_of_mem _ he)) r.2]
  | [], _ :: _, _, h => h.elim
  | _ :: _, [], _, h => h.elim
theorem Rp.ofFlat {H : Hp} : ∀ {d : PyData}, FF.flat d = true → Rp H d (FF.vOf d)
  | .none, _ => rfl
  | .bool _, _ => rfl
  | .int _, _ => rfl
  | .str _, _ => rfl
theorem RpAll.ofFlat {H : Hp} : ∀ {ds : List PyData}, (∀ d ∈ ds, FF.flat d = true) → RpAll H ds (ds.map FF.vOf)
  | [], _ => trivial
  | d :: ds, a => ⟨Rp.ofFlat (a d (List.mem_cons_self ..)), RpAll.ofFlat fun e he => a e (List.mem_cons_of_mem _ he)⟩

/-! ### lists and dicts in the heap -/
def LsAt (H : Hp) (p : Addr) (ds : List PyData) : Prop := ∃ xs, H p = some (.lst xs) ∧ RpAll H ds xs
theorem LsAt.mono {H H' : Hp} {p : Addr} {ds : List PyData} (e : Ex H H') (h : LsAt H p ds) : LsAt H' p ds := by
  obtain ⟨xs, h1, h2⟩ := h
  exact ⟨xs, e _ _ h1, h2.mono (Ex.pr e)⟩
/-- shapes of values: hard data, a list, a dict of texts, a value itself, anything -/
inductive Sh where
  | hd (d : PyData)
  | ls (ds : List PyData)
  | dc (kvs : List (Str × PyData))
  | dl (kvs : List (Str × List PyData))
  | vl (v : V)
  | un
/-- a dict's pairs against data -/
def RpKv (H : Hp) : List (Str × PyData) → List (Key × V) → Prop
  | [], [] => True
  | (k, d) :: ds, (j, x) :: xs => j = Sum.inr k ∧ Rp H d x ∧ RpKv H ds xs
  | [], _ :: _ => False
  | _ :: _, [] => False
def RpKl (H : Hp) : List (Str × List PyData) → List (Key × V) → Prop
  | [], [] => True
  | (k, d) :: ds, (j, x) :: xs => j = Sum.inr k ∧ (∃ p, x = .ref p ∧ LsAt H p d) ∧ RpKl H ds xs
  | [], _ :: _ => False
  | _ :: _, [] => False
theorem RpKv.mono {H H' : Hp} (e : Pr H H') : ∀ {ds : List (Str × PyData)} {xs : List (Key × V)}, RpKv H ds xs → RpKv H' ds xs
  | [], [], _ => trivial
  | (_, _) :: _, (_, _) :: _, h => ⟨h.1, Rp.mono e h.2.1, RpKv.mono e h.2.2⟩
  | [], _ :: _, h => h.elim
  | (_, _) :: _, [], h => h.elim
theorem RpKl.mono {H H' : Hp} (e : Ex H H') : ∀ {ds : List (Str × List PyData)} {xs : List (Key × V)}, RpKl H ds xs → RpKl H' ds xs
  | [], [], _ => trivial
  | (_, _) :: _, (_, _) :: _, h => ⟨h.1, (let ⟨p, a, b⟩ := h.2.1; ⟨p, a, b.mono e⟩), RpKl.mono e h.2.2⟩
  | [], _ :: _, h => h.elim
  | (_, _) :: _, [], h => h.elim
def Sh.ok (H : Hp) : Sh → V → Prop
  | .hd d, v => Rp H d v
  | .ls ds, v => ∃ p, v = .ref p ∧ LsAt H p ds
  | .dc kvs, v => ∃ p es, v = .ref p ∧ H p = some (.dK es) ∧ RpKv H kvs es
  | .dl kvs, v => ∃ p es, v = .ref p ∧ H p = some (.dK es) ∧ RpKl H kvs es
  | .vl x, v => v = x
  | .un, _ => True
theorem Sh.mono {H H' : Hp} (e : Ex H H') : ∀ {s : Sh} {v : V}, s.ok H v → s.ok H' v
  | .hd _, _, h => Rp.mono (Ex.pr e) h
  | .ls _, _, h => let ⟨p, a, b⟩ := h; ⟨p, a, b.mono e⟩
  | .dc _, _, h => let ⟨p, es, a, b, c⟩ := h; ⟨p, es, a, e _ _ b, c.mono (Ex.pr e)⟩
  | .dl _, _, h => let ⟨p, es, a, b, c⟩ := h; ⟨p, es, a, e _ _ b, c.mono e⟩
  | .vl _, _, h => h
  | .un, _, _ => trivial
def ShAll (H : Hp) : List Sh → List V → Prop
  | [], [] => True
  | d :: ds, x :: xs => d.ok H x ∧ ShAll H ds xs
  | [], _ :: _ => False
  | _ :: _, [] => False
theorem ShAll.mono {H H' : Hp} (e : Ex H H') : ∀ {ds : List Sh} {xs : List V}, ShAll H ds xs → ShAll H' ds xs
  | [], [], _ => trivial
  | _ :: _, _ :: _, h => ⟨Sh.mono e h.1, ShAll.mono e h.2⟩
  | [], _ :: _, h => h.elim
  | _ :: _, [], h => h.elim
/-- the slots by shapes -/
def slOk (H : Hp) : Sh → Option V → Prop
  | .un, _ => True
  | s, some v => s.ok H v
  | _, none => False
def Sl (H : Hp) : List Sh → L2.St → Prop
  | [], [] => True
  | s :: cs, o :: σ => slOk H s o ∧ Sl H cs σ
  | [], _ :: _ => False
  | _ :: _, [] => False
theorem slOk.mono {H H' : Hp} (e : Ex H H') : ∀ {s : Sh} {o : Option V}, slOk H s o → slOk H' s o
  | .un, _, _ => trivial
  | .hd _, some _, h => Sh.mono (s := .hd _) e h
  | .ls _, some _, h => Sh.mono (s := .ls _) e h
  | .dc _, some _, h => Sh.mono (s := .dc _) e h
  | .dl _, some _, h => Sh.mono (s := .dl _) e h
  | .vl _, some _, h => h
theorem slOk.of {H : Hp} : ∀ {s : Sh} {v : V}, s.ok H v → slOk H s (some v)
  | .un, _, _ => trivial
  | .hd _, _, h => h
  | .ls _, _, h => h
  | .dc _, _, h => h
  | .dl _, _, h => h
  | .vl _, _, h => h
theorem Sl.mono {H H' : Hp} (e : Ex H H') : ∀ {cs : List Sh} {σ : L2.St}, Sl H cs σ → Sl H' cs σ
  | [], [], _ => trivial
  | _ :: _, _ :: _, h => ⟨slOk.mono e h.1, Sl.mono e h.2⟩
  | [], _ :: _, h => h.elim
  | _ :: _, [], h => h.elim
theorem Sl.get {H : Hp} : ∀ {cs : List Sh} {σ : L2.St} {i : Nat} {s : Sh}, Sl H cs σ → cs[i]? = some s → ∃ o, σ[i]? = some o ∧ slOk H s o
  | [], [], _, _, _, h => by cases h
  | d :: ds, x :: xs, 0, e, r, h => by
    have z : d = e := Option.some.inj h
    subst z
    exact ⟨x, rfl, r.1⟩
  | d :: ds, x :: xs, i + 1, e, r, h => Sl.get (i := i) r.2 h
  | [], _ :: _, _, _, h, _ => h.elim
  | _ :: _, [], _, _, h, _ => h.elim
theorem Sl.set {H : Hp} {s : Sh} {o : Option V} (h : slOk H s o) : ∀ {cs : List Sh} {σ : L2.St} (i : Nat), Sl H cs σ → Sl H (cs.set i s) (σ.set i o)
  | [], [], _, _ => trivial
  | _ :: _, _ :: _, 0, r => ⟨h, r.2⟩
  | _ :: _, _ :: _, i + 1, r => ⟨r.1, Sl.set h i r.2⟩
  | [], _ :: _, _, h => h.elim
  | _ :: _, [], _, h => h.elim
theorem Sl.length {H : Hp} : ∀ {cs : List Sh} {σ : L2.St}, Sl H cs σ → cs.length = σ.length
  | [], [], _ => rfl
  | _ :: _, _ :: _, h => congrArg Nat.succ (Sl.length h.2)
  | [], _ :: _, h => h.elim
  | _ :: _, [], h => h.elim
/-- forgetting shapes -/
theorem Sl.weak {H : Hp} : ∀ {cs cs' : List Sh} {σ : L2.St}, Sl H cs σ → cs'.length = cs.length → (∀ (i : Nat) (s : Sh), cs'[i]? = some s → s = Sh.un ∨ cs[i]? = some s) → Sl H cs' σ
  | [], [], [], _, _, _ => trivial
  | c :: cs, d :: ds, o :: σ, h, hl, hw => by
    refine ⟨?_, Sl.weak h.2 (Nat.succ.inj hl) fun i s hs => hw (i + 1) s hs⟩
    rcases hw 0 d rfl with e | e
    · subst e
      trivial
    · have e2 : c = d := Option.some.inj e
      subst e2
      exact h.1
  | [], _, _ :: _, h, _, _ => h.elim
  | _ :: _, _, [], h, _, _ => h.elim
  | [], _ :: _, [], _, hl, _ => by cases hl
  | _ :: _, [], _ :: _, _, hl, _ => by cases hl
def wipeC (cs : List Sh) : List Nat → List Sh
  | [] => cs
  | v :: vs => (wipeC cs vs).set v Sh.un
theorem Sl.wipe {H : Hp} {cs : List Sh} {σ : L2.St} (h : Sl H cs σ) : ∀ vs : List Nat, Sl H (wipeC cs vs) (L2.wipe σ vs)
  | [] => h
  | v :: vs => Sl.set (s := Sh.un) (o := none) trivial v (Sl.wipe h vs)
theorem wipe_get {σ : L2.St} : ∀ {vs : List Nat} {i : Nat}, (L2.wipe σ vs)[i]? = if i ∈ vs ∧ i < σ.length then some none else σ[i]?
  | [], i => by
    rw [if_neg (by simp)]
    rfl
  | v :: vs, i => by
    show ((L2.wipe σ vs).set v none)[i]? = _
    rw [List.getElem?_set]
    by_cases e : v = i
    · subst e
      rw [if_pos rfl, wipe_length]
      by_cases hl : v < σ.length
      · rw [if_pos hl, if_pos ⟨List.mem_cons_self .., hl⟩]
      · rw [if_neg hl, if_neg (fun z => hl z.2)]
        exact (List.getElem?_eq_none_iff.mpr (by omega)).symm
    · rw [if_neg e, wipe_get (vs := vs) (i := i)]
      have z : (i ∈ v :: vs) ↔ i ∈ vs := by
        constructor
        · intro h
          rcases List.mem_cons.mp h with h | h
          · exact absurd h.symm e
          · exact h
        · exact List.mem_cons_of_mem _
      simp only [z]
/-- stores to the wiped slots are wiped -/
theorem wipe_set {σ : L2.St} {vs : List Nat} {j : Nat} {o : Option V} (hj : j ∈ vs) : L2.wipe (σ.set j o) vs = L2.wipe σ vs := by
  apply List.ext_getElem?
  intro i
  rw [wipe_get, wipe_get, List.length_set]
  by_cases h : i ∈ vs ∧ i < σ.length
  · rw [if_pos h, if_pos h]
  · rw [if_neg h, if_neg h, List.getElem?_set]
    by_cases e : j = i
    · subst e
      by_cases hl : j < σ.length
      · exact absurd ⟨hj, hl⟩ h
      · rw [if_pos rfl, if_neg hl]
        exact (List.getElem?_eq_none_iff.mpr (by omega)).symm
    · rw [if_neg e]
theorem wipe_wipe {σ : L2.St} {vs : List Nat} : L2.wipe (L2.wipe σ vs) vs = L2.wipe σ vs := by
  apply List.ext_getElem?
  intro i
  rw [wipe_get, wipe_length, wipe_get]
  by_cases h : i ∈ vs ∧ i < σ.length
  · rw [if_pos h, if_pos h]
  · rw [if_neg h, if_neg h]
end FF
/-! the state of a walk, what expressions come to -/
namespace FF
open PySem PySem.Spec PyProof.Rows L2
open Evl (Ex EvT)

/-! ### contents of the objects that a def changes -/
/-- l: a list of hard data; d: a dict of texts; f: the feed -/
inductive MC where
  | l (ds : List PyData)
  | d (kvs : List (Str × PyData))
  | f (q : Addr)
  | x (es : List (Key × V))
def feedKvs (q : Addr) (t l d : Int) : List (Key × V) := [((Sum.inr ("cells" : Str) : Key), V.ref q), ((Sum.inr ("turn" : Str) : Key), V.int t), ((Sum.inr ("left" : Str) : Key), V.int l), ((Sum.inr ("drawn" : Str) : Key), V.int d)]
def FeedIs (Hb : Hp) (q : Addr) (es : List (Key × V)) : Prop := ∃ (ns : List Int) (t l d : Int), es = feedKvs q t l d ∧ LsAt Hb q (ns.map PyData.int) ∧ 0 ≤ t ∧ 0 ≤ l ∧ 0 ≤ d ∧ ns.length ≤ 63
theorem FeedIs.mono {H H' : Hp} {q : Addr} {es : List (Key × V)} (e : Ex H H') (h : FeedIs H q es) : FeedIs H' q es := by
  obtain ⟨ns, t, l, d, h1, h2, h3⟩ := h
  exact ⟨ns, t, l, d, h1, h2.mono e, h3⟩
def MC.ok (Hb H : Hp) : MC → HO → Prop
  | .l ds, .lst xs => RpAll H ds xs
  | .d kvs, .dK es => RpKv H kvs es
  | .f q, .dK es => FeedIs Hb q es
  | .x es, .dK fs => fs = es
  | _, _ => False
theorem MC.mono {Hb Hb' H H' : Hp} (e : Ex Hb Hb') (p : Pr H H') {m : MC} {o : HO} (h : m.ok Hb H o) : m.ok Hb' H' o := by
  cases m with
  | l ds => cases o with
    | lst xs => exact RpAll.mono p h
    | _ => exact False.elim h
  | d kvs => cases o with
    | dK es => exact RpKv.mono p h
    | _ => exact False.elim h
  | f q => cases o with
    | dK es => exact FeedIs.mono e h
    | _ => exact False.elim h
  | x fs => cases o with
    | dK es => exact h
    | _ => exact False.elim h
theorem MC.notup {Hb H : Hp} {m : MC} {o : HO} (h : m.ok Hb H o) : isTupO o = false := by
  cases m with
  | l ds => cases o with
    | lst xs => rfl
    | _ => exact False.elim h
  | d kvs => cases o with
    | dK es => rfl
    | _ => exact False.elim h
  | f q => cases o with
    | dK es => rfl
    | _ => exact False.elim h
  | x fs => cases o with
    | dK es => rfl
    | _ => exact False.elim h
abbrev Ms := List (Addr × MC)
/-- Hb: what stays; ms: what changes; cs: the slots by shapes (over Hb) -/
structure Cu (Hb : Hp) (ms : Ms) (cs : List Sh) (σ : L2.St) (H : Hp) : Prop where
  ex : Ex Hb H
  nw : ∀ m ∈ ms, Hb m.1 = none
  ct : ∀ m ∈ ms, ∃ o, H m.1 = some o ∧ m.2.ok Hb H o
  nd : (ms.map (·.1)).Nodup
  sl : Sl Hb cs σ
theorem prBut {H H1 : Hp} {ps : List Addr} (h : ∀ a o, H a = some o → a ∉ ps → H1 a = some o) (n : ∀ p ∈ ps, ∀ o, H p = some o → isTupO o = false) : Pr H H1 := fun a o t e => by
  by_cases z : a ∈ ps
  · rw [n a z o e] at t
    cases t
  · exact h a _ e z
section
variable {Hb H H1 : Hp} {ms : Ms} {cs : List Sh} {σ : L2.St}
theorem Cu.notup (c : Cu Hb ms cs σ H) {m : Addr × MC} (h : m ∈ ms) (o : HO) (e : H m.1 = some o) : isTupO o = false := by
  obtain ⟨o', e1, e2⟩ := c.ct m h
  rw [e] at e1
  cases e1
  exact MC.notup e2
theorem Cu.tracked (c : Cu Hb ms cs σ H) {p : Addr} (h : p ∈ ms.map (·.1)) : ∃ o, H p = some o := by
  obtain ⟨m, hm, rfl⟩ := List.mem_map.mp h
  obtain ⟨o, e, _⟩ := c.ct m hm
  exact ⟨o, e⟩
theorem Cu.out (c : Cu Hb ms cs σ H) {p : Addr} (h : H p = none) : p ∉ ms.map (·.1) := fun z => by
  obtain ⟨o, e⟩ := c.tracked z
  rw [h] at e
  cases e
theorem Cu.ext (c : Cu Hb ms cs σ H) (e : Ex H H1) : Cu Hb ms cs σ H1 where
  ex := c.ex.trans e
  nw := c.nw
  ct := fun m hm => let ⟨o, h1, h2⟩ := c.ct m hm; ⟨o, e _ _ h1, MC.mono (Ex.refl _) (Ex.pr e) h2⟩
  nd := c.nd
  sl := c.sl
/-- what stays, seen anew -/
def hide (ps : List Addr) (H : Hp) : Hp := fun a => if a ∈ ps then none else H a
theorem hide_in {ps : List Addr} {H : Hp} {a : Addr} (h : a ∈ ps) : hide ps H a = none := if_pos h
theorem hide_out {ps : List Addr} {H : Hp} {a : Addr} (h : a ∉ ps) : hide ps H a = H a := if_neg h
theorem hide_ex {ps : List Addr} {H : Hp} : Ex (hide ps H) H := fun a o h => by
  by_cases z : a ∈ ps
  · rw [hide_in z] at h
    cases h
  · rw [hide_out z] at h
    exact h
theorem Cu.exHide (c : Cu Hb ms cs σ H) (e : Ex H H1) : Ex Hb (hide (ms.map (·.1)) H1) := fun a o h => by
  have z : a ∉ ms.map (·.1) := fun y => by
    obtain ⟨m, hm, rfl⟩ := List.mem_map.mp y
    rw [c.nw m hm] at h
    cases h
  rw [hide_out z]
  exact e _ _ (c.ex _ _ h)
theorem Cu.prHide (c : Cu Hb ms cs σ H) : Pr H (hide (ms.map (·.1)) H) := prBut (ps := ms.map (·.1)) (fun a o h z => by rw [hide_out z]; exact h) fun p hp o e => by
  obtain ⟨m, hm, rfl⟩ := List.mem_map.mp hp
  exact c.notup hm o e
theorem Cu.rebase (c : Cu Hb ms cs σ H) (e : Ex H H1) : Cu (hide (ms.map (·.1)) H1) ms cs σ H1 where
  ex := hide_ex
  nw := fun m hm => hide_in (List.mem_map_of_mem hm)
  ct := fun m hm => let ⟨o, h1, h2⟩ := (c.ext e).ct m hm; ⟨o, h1, MC.mono (c.exHide e) (Pr.refl _) h2⟩
  nd := c.nd
  sl := c.sl.mono (c.exHide e)
theorem Cu.put (c : Cu Hb ms cs σ H) {i : Nat} {s : Sh} {v : V} (r : s.ok Hb v) : Cu Hb ms (cs.set i s) (σ.set i (some v)) H := ⟨c.ex, c.nw, c.ct, c.nd, c.sl.set (slOk.of r) i⟩
theorem Cu.store (c : Cu Hb ms cs σ H) (e : Ex H H1) (i : Nat) {d : PyData} {v : V} (r : Rp H1 d v) : ∃ Hb', Ex Hb Hb' ∧ Cu Hb' ms (cs.set i (.hd d)) (σ.set i (some v)) H1 :=
  ⟨_, c.exHide e, (c.rebase e).put (s := .hd d) (r.mono (c.ext e).prHide)⟩
/-- an object that is not among those that change, kept -/
theorem hideAt {ps : List Addr} {p : Addr} {o : HO} (h : H1 p = some o) (z : p ∉ ps) : hide ps H1 p = some o := by
  rw [hide_out z]
  exact h
theorem LsAt.hide (c : Cu Hb ms cs σ H1) {p : Addr} {ds : List PyData} (h : LsAt H1 p ds) (z : p ∉ ms.map (·.1)) : LsAt (hide (ms.map (·.1)) H1) p ds := by
  obtain ⟨xs, h1, h2⟩ := h
  exact ⟨xs, hideAt h1 z, h2.mono c.prHide⟩
/-- a new object that the def may change -/
theorem Cu.fresh (c : Cu Hb ms cs σ H) (e : Ex H H1) {p : Addr} {o : HO} {m : MC} (hp : H p = none) (h : H1 p = some o) (hm : ∀ Hx, Ex Hb Hx → m.ok Hx H1 o) : Cu (hide ((ms ++ [(p, m)]).map (·.1)) H1) (ms ++ [(p, m)]) cs σ H1 := by
  have z := c.out hp
  have hmap : (ms ++ [(p, m)]).map (·.1) = ms.map (·.1) ++ [p] := by rw [List.map_append]; rfl
  have hb : Ex Hb (hide ((ms ++ [(p, m)]).map (·.1)) H1) := fun a o' h' => by
    have z1 : a ∉ (ms ++ [(p, m)]).map (·.1) := fun y => by
      rw [hmap, List.mem_append] at y
      rcases y with y | y
      · obtain ⟨q, hq, rfl⟩ := List.mem_map.mp y
        rw [c.nw q hq] at h'
        cases h'
      · rw [List.mem_singleton.mp y] at h'
        rw [c.ex _ _ h'] at hp
        cases hp
    rw [hide_out z1]
    exact e _ _ (c.ex _ _ h')
  refine ⟨hide_ex, fun q hq => hide_in (List.mem_map_of_mem hq), fun q hq => ?_, ?_, c.sl.mono hb⟩
  · rcases List.mem_append.mp hq with hq | hq
    · obtain ⟨o', h1, h2⟩ := (c.ext e).ct q hq
      exact ⟨o', h1, MC.mono hb (Pr.refl _) h2⟩
    · rw [List.mem_singleton.mp hq]
      exact ⟨o, h, hm _ hb⟩
  · rw [hmap]
    exact List.nodup_append.mpr ⟨c.nd, List.nodup_cons.mpr ⟨List.not_mem_nil, List.nodup_nil⟩, fun a ha b hb e => z (by rw [← List.mem_singleton.mp hb, ← e]; exact ha)⟩
theorem Cu.freshEx (c : Cu Hb ms cs σ H) (e : Ex H H1) {p : Addr} {m : MC} (hp : H p = none) : Ex Hb (hide ((ms ++ [(p, m)]).map (·.1)) H1) := fun a o' h' => by
  have hmap : (ms ++ [(p, m)]).map (·.1) = ms.map (·.1) ++ [p] := by rw [List.map_append]; rfl
  have z1 : a ∉ (ms ++ [(p, m)]).map (·.1) := fun y => by
    rw [hmap, List.mem_append] at y
    rcases y with y | y
    · obtain ⟨q, hq, rfl⟩ := List.mem_map.mp y
      rw [c.nw q hq] at h'
      cases h'
    · rw [List.mem_singleton.mp y] at h'
      rw [c.ex _ _ h'] at hp
      cases hp
  rw [hide_out z1]
  exact e _ _ (c.ex _ _ h')
theorem nodup_fst {ms : Ms} (nd : (ms.map (·.1)).Nodup) {i j : Nat} {a b : Addr × MC} (hi : ms[i]? = some a) (hj : ms[j]? = some b) (e : a.1 = b.1) : i = j :=
  nd_ix nd (x := a.1) (by rw [List.getElem?_map, hi]; rfl) (by rw [List.getElem?_map, hj, e]; rfl)
/-- an object is changed -/
theorem Cu.upd (c : Cu Hb ms cs σ H) {k : Nat} {p : Addr} {m m' : MC} {o : HO} (hk : ms[k]? = some (p, m)) (hm : m'.ok Hb (upd H p o) o) : Cu Hb (ms.set k (p, m')) cs σ (upd H p o) := by
  have hp : (p, m) ∈ ms := List.mem_of_getElem? hk
  have hpr : Pr H (L2.upd H p o) := fun a o' t h => by
    by_cases e : a = p
    · subst e
      rw [c.notup hp o' h] at t
      cases t
    · rw [upd_ne e]
      exact h
  have hmap : (ms.set k (p, m')).map (·.1) = ms.map (·.1) := by
    apply List.ext_getElem?
    intro i
    rw [List.getElem?_map, List.getElem?_map, List.getElem?_set]
    by_cases e : k = i
    · subst e
      have hl : k < ms.length := (List.getElem?_eq_some_iff.mp hk).1
      rw [if_pos rfl, if_pos hl, hk]
      rfl
    · rw [if_neg e]
  refine ⟨fun a o' h => ?_, fun q hq => ?_, fun q hq => ?_, by rw [hmap]; exact c.nd, c.sl⟩
  · have e : a ≠ p := fun e => by
      rw [e, c.nw _ hp] at h
      cases h
    rw [upd_ne e]
    exact c.ex _ _ h
  · obtain ⟨j, hj⟩ := List.getElem?_of_mem hq
    rw [List.getElem?_set] at hj
    by_cases e : k = j
    · subst e
      have hl : k < ms.length := (List.getElem?_eq_some_iff.mp hk).1
      rw [if_pos rfl, if_pos hl] at hj
      cases hj
      exact c.nw (p, m) hp
    · rw [if_neg e] at hj
      exact c.nw _ (List.mem_of_getElem? hj)
  · obtain ⟨j, hj⟩ := List.getElem?_of_mem hq
    rw [List.getElem?_set] at hj
    by_cases e : k = j
    · subst e
      have hl : k < ms.length := (List.getElem?_eq_some_iff.mp hk).1
      rw [if_pos rfl, if_pos hl] at hj
      cases hj
      exact ⟨o, upd_same, hm⟩
    · rw [if_neg e] at hj
      obtain ⟨o', h1, h2⟩ := c.ct _ (List.mem_of_getElem? hj)
      have ne : q.1 ≠ p := fun z => e (nodup_fst c.nd hk hj z.symm)
      exact ⟨o', by rw [upd_ne ne]; exact h1, MC.mono (Ex.refl _) hpr h2⟩
theorem Cu.updPr (c : Cu Hb ms cs σ H) {k : Nat} {p : Addr} {m : MC} {o : HO} (hk : ms[k]? = some (p, m)) : Pr H (L2.upd H p o) := fun a o' t h => by
  by_cases e : a = p
  · subst e
    rw [c.notup (List.mem_of_getElem? hk) o' h] at t
    cases t
  · rw [upd_ne e]
    exact h
theorem Cu.drop (c : Cu Hb (ms ++ [m]) cs σ H) : Cu Hb ms cs σ H :=
  ⟨c.ex, fun q hq => c.nw q (List.mem_append_left _ hq), fun q hq => c.ct q (List.mem_append_left _ hq), by
    have := c.nd
    rw [List.map_append] at this
    exact (List.nodup_append.mp this).1, c.sl⟩
theorem Cu.weak (c : Cu Hb ms cs σ H) {cs' : List Sh} (hl : cs'.length = cs.length) (hw : ∀ (i : Nat) (s : Sh), cs'[i]? = some s → s = Sh.un ∨ cs[i]? = some s) : Cu Hb ms cs' σ H := ⟨c.ex, c.nw, c.ct, c.nd, c.sl.weak hl hw⟩
theorem Cu.lst (c : Cu Hb ms cs σ H) {k : Nat} {p : Addr} {ds : List PyData} (h : ms[k]? = some (p, .l ds)) : LsAt H p ds := by
  obtain ⟨o, h1, h2⟩ := c.ct _ (List.mem_of_getElem? h)
  cases o with
  | lst xs => exact ⟨xs, h1, h2⟩
  | _ => exact h2.elim
theorem Cu.dct (c : Cu Hb ms cs σ H) {k : Nat} {p : Addr} {kvs : List (Str × PyData)} (h : ms[k]? = some (p, .d kvs)) : ∃ es, H p = some (.dK es) ∧ RpKv H kvs es := by
  obtain ⟨o, h1, h2⟩ := c.ct _ (List.mem_of_getElem? h)
  cases o with
  | dK es => exact ⟨es, h1, h2⟩
  | _ => exact h2.elim
theorem Cu.exact_ (c : Cu Hb ms cs σ H) {k : Nat} {p : Addr} {es : List (Key × V)} (h : ms[k]? = some (p, .x es)) : H p = some (.dK es) := by
  obtain ⟨o, h1, h2⟩ := c.ct _ (List.mem_of_getElem? h)
  cases o with
  | dK fs =>
    have h2 : fs = es := h2
    rw [← h2]
    exact h1
  | _ => exact h2.elim
theorem Cu.feed (c : Cu Hb ms cs σ H) {k : Nat} {p q : Addr} (h : ms[k]? = some (p, .f q)) : ∃ es, H p = some (.dK es) ∧ FeedIs Hb q es := by
  obtain ⟨o, h1, h2⟩ := c.ct _ (List.mem_of_getElem? h)
  cases o with
  | dK es => exact ⟨es, h1, h2⟩
  | _ => exact h2.elim
/-- for pure pieces: all that stands now stays -/
theorem Cu.pure (c : Cu Hb ms cs σ H) (e : Ex H H1) : Cu H1 [] cs σ H1 := ⟨Ex.refl _, (nofun), (nofun), List.nodup_nil, c.sl.mono (c.ex.trans e)⟩
theorem Cu.start {sl : Sl H cs σ} : Cu H [] cs σ H := ⟨Ex.refl _, (nofun), (nofun), List.nodup_nil, sl⟩
end

/-! ### what an expression comes to -/
def EvP (te : TE) (σ : L2.St) (H : Hp) (P : V → Hp → Prop) : Prop := ∀ H1, Ex H H1 → ∀ Q : VK, (∀ v H2, Ex H1 H2 → P v H2 → Q v H2) → te σ H1 Q
abbrev EvS (te : TE) (σ : L2.St) (H : Hp) (s : Sh) : Prop := EvP te σ H fun v H2 => s.ok H2 v
abbrev EvD (te : TE) (σ : L2.St) (H : Hp) (d : PyData) : Prop := EvS te σ H (.hd d)
/-- a new object -/
def EvF (te : TE) (σ : L2.St) (H : Hp) (s : Sh) : Prop := ∀ H1, Ex H H1 → ∀ Q : VK, (∀ p H2, H1 p = none → Ex H1 H2 → s.ok H2 (.ref p) → Q (.ref p) H2) → te σ H1 Q
def EvAs (ta : TA) (σ : L2.St) (H : Hp) (ss : List Sh) : Prop := ∀ H1, Ex H H1 → ∀ Q : List V → Hp → Prop, (∀ vs H2, Ex H1 H2 → ShAll H2 ss vs → Q vs H2) → ta σ H1 Q
def Sh.known : Sh → Bool
  | .un => false
  | _ => true
theorem slOk.known {H : Hp} : ∀ {s : Sh} {o : Option V}, s.known = true → slOk H s o → ∃ v, o = some v ∧ s.ok H v
  | .hd _, some v, _, h => ⟨v, rfl, h⟩
  | .ls _, some v, _, h => ⟨v, rfl, h⟩
  | .dc _, some v, _, h => ⟨v, rfl, h⟩
  | .dl _, some v, _, h => ⟨v, rfl, h⟩
  | .vl _, some v, _, h => ⟨v, rfl, h⟩
section
variable {Hb H H1 : Hp} {ms : Ms} {cs : List Sh} {σ : L2.St} {te ta tb : TE} {K : PySem.W.Frag}
theorem EvF.s {s : Sh} (h : EvF te σ H s) : EvS te σ H s := fun H1 e Q q => h H1 e Q fun p H2 _ e2 r => q _ H2 e2 r
theorem EvP.mono {P : V → Hp → Prop} (e : Ex H H1) (h : EvP te σ H P) : EvP te σ H1 P := fun H2 e2 Q q => h H2 (e.trans e2) Q q
theorem EvP.imp {P P' : V → Hp → Prop} (h : EvP te σ H P) (k : ∀ v H1, Ex H H1 → P v H1 → P' v H1) : EvP te σ H P' := fun H1 e Q q => h H1 e Q fun v H2 e2 r => q v H2 e2 (k v H2 (e.trans e2) r)
theorem EvF.mono {s : Sh} (e : Ex H H1) (h : EvF te σ H s) : EvF te σ H1 s := fun H2 e2 Q q => h H2 (e.trans e2) Q q
theorem Cu.var (c : Cu Hb ms cs σ H) (i : Nat) {s : Sh} (h : cs[i]? = some s := by rfl) (hs : s.known = true := by rfl) : EvS (tVar i) σ H s := fun H1 e Q q => by
  obtain ⟨o, h1, h2⟩ := c.sl.get h
  obtain ⟨v, rfl, h3⟩ := slOk.known hs h2
  exact ⟨v, h1, q v H1 (Ex.refl _) (Sh.mono (c.ex.trans e) h3)⟩
theorem Cu.slot (c : Cu Hb ms cs σ H) (i : Nat) {v : V} (h : cs[i]? = some (.vl v) := by rfl) : σ[i]? = some (some v) := by
  obtain ⟨o, h1, h2⟩ := c.sl.get h
  obtain ⟨u, rfl, h3⟩ := slOk.known rfl h2
  have e : u = v := h3
  rw [h1, e]
theorem Cu.lvar (c : Cu Hb ms cs σ H) (i k : Nat) {p : Addr} {ds : List PyData} (h : cs[i]? = some (.vl (.ref p)) := by rfl) (hk : ms[k]? = some (p, .l ds) := by rfl) : EvS (tVar i) σ H (.ls ds) := fun H1 e Q q =>
  ⟨.ref p, c.slot i h, q _ H1 (Ex.refl _) ⟨p, rfl, (c.lst hk).mono e⟩⟩
theorem Cu.dvar (c : Cu Hb ms cs σ H) (i k : Nat) {p : Addr} {kvs : List (Str × PyData)} (h : cs[i]? = some (.vl (.ref p)) := by rfl) (hk : ms[k]? = some (p, .d kvs) := by rfl) : EvS (tVar i) σ H (.dc kvs) := fun H1 e Q q => by
  obtain ⟨es, h1, h2⟩ := c.dct hk
  exact ⟨.ref p, c.slot i h, q _ H1 (Ex.refl _) ⟨p, es, rfl, e _ _ h1, h2.mono (Ex.pr e)⟩⟩
theorem ev_c {d : PyData} (h : flat d = true) : EvD (tC (vOf d)) σ H d := fun H1 _ Q q => q _ H1 (Ex.refl _) (Rp.ofFlat h)
theorem ev_int {i : Int} : EvD (tC (.int i)) σ H (.int i) := fun H1 _ Q q => q _ H1 (Ex.refl _) rfl
theorem ev_str {x : Str} : EvD (tC (.str x)) σ H (.str x) := fun H1 _ Q q => q _ H1 (Ex.refl _) rfl
theorem ev_bl {b : Bool} : EvD (tC (.bl b)) σ H (.bool b) := fun H1 _ Q q => q _ H1 (Ex.refl _) rfl
theorem ev_non : EvD (tC .non) σ H .none := fun H1 _ Q q => q _ H1 (Ex.refl _) rfl
theorem ea_nil : EvAs tNil σ H [] := fun H1 _ Q q => q [] H1 (Ex.refl _) trivial
theorem ea_cons {tr : TA} {s : Sh} {ss : List Sh} (h : EvS te σ H s) (hr : EvAs tr σ H ss) : EvAs (tCons te tr) σ H (s :: ss) := fun H1 e Q q =>
  h H1 e _ fun v H2 e2 r => hr H2 (e.trans e2) _ fun vs H3 e3 rs => q _ H3 (e2.trans e3) ⟨Sh.mono e3 r, rs⟩
theorem ShAll.hd {H : Hp} : ∀ {ds : List PyData} {vs : List V}, ShAll H (ds.map Sh.hd) vs → RpAll H ds vs
  | [], [], _ => trivial
  | _ :: _, _ :: _, h => ⟨h.1, ShAll.hd h.2⟩
  | [], _ :: _, h => h.elim
  | _ :: _, [], h => h.elim
theorem ev_tup {ta : TA} {ds : List PyData} (h : EvAs ta σ H (ds.map Sh.hd)) (hl : ds.length ≤ 100000) : EvD (tTup ta) σ H (.tuple ds) := fun H1 e Q q =>
  h H1 e _ fun vs H2 e2 r => ⟨by rw [← (ShAll.hd r).length]; exact Nat.le_trans hl (by decide), fun p hp => q _ _ (e2.trans (Evl.Ex.new hp)) ⟨p, vs, rfl, .inl upd_same, (ShAll.hd r).mono (Ex.pr (Evl.Ex.new hp))⟩⟩
/-- a plain tuple is a tuple -/
theorem Rp.tup {H : Hp} {ds : List PyData} {v : V} (h : Rp H (.list ds) v) : Rp H (.tuple ds) v := by
  obtain ⟨p, o, xs, e1, e2, e3, e4⟩ := h
  exact ⟨p, xs, e1, .inr ⟨o, e2⟩, e4⟩
theorem ev_pt {ds : List PyData} (h : EvD te σ H (.list ds)) : EvD te σ H (.tuple ds) := h.imp fun _ _ _ r => Rp.tup r
theorem ef_lst {ta : TA} {ds : List PyData} (h : EvAs ta σ H (ds.map Sh.hd)) (hl : ds.length ≤ 100000) : EvF (tLst ta) σ H (.ls ds) := fun H1 e Q q =>
  h H1 e _ fun vs H2 e2 r => ⟨by rw [← (ShAll.hd r).length]; exact Nat.le_trans hl (by decide), fun p hp => q p _ (Evl.fresh_back e2 hp) (e2.trans (Evl.Ex.new hp)) ⟨p, rfl, vs, upd_same, (ShAll.hd r).mono (Ex.pr (Evl.Ex.new hp))⟩⟩

/-! ### operators -/
theorem ev_op {r : R2} {s t u : Sh} (ha : EvS ta σ H s) (hb : EvS tb σ H t) (hr : ∀ x y H1, Ex H H1 → s.ok H1 x → t.ok H1 y → ∀ Q : VK, (∀ v H2, Ex H1 H2 → u.ok H2 v → Q v H2) → r x y H1 Q) : EvS (tOp r ta tb) σ H u := fun H1 e Q q =>
  ha H1 e _ fun x H2 e2 rx => hb H2 (e.trans e2) _ fun y H3 e3 ry => hr x y H3 ((e.trans e2).trans e3) (Sh.mono e3 rx) ry Q fun v H4 e4 rv => q v H4 ((e2.trans e3).trans e4) rv
theorem ef_op {r : R2} {s t u : Sh} (ha : EvS ta σ H s) (hb : EvS tb σ H t) (hr : ∀ x y H1, Ex H H1 → s.ok H1 x → t.ok H1 y → ∀ Q : VK, (∀ p H2, H1 p = none → Ex H1 H2 → u.ok H2 (.ref p) → Q (.ref p) H2) → r x y H1 Q) : EvF (tOp r ta tb) σ H u := fun H1 e Q q =>
  ha H1 e _ fun x H2 e2 rx => hb H2 (e.trans e2) _ fun y H3 e3 ry => hr x y H3 ((e.trans e2).trans e3) (Sh.mono e3 rx) ry Q fun p H4 hp e4 rv => q p H4 (Evl.fresh_back (e2.trans e3) hp) ((e2.trans e3).trans e4) rv
theorem ev_opI {C : Int → Int → Prop} {g : Int → Int → V} {i j : Int} {d : PyData} (ha : EvD ta σ H (.int i)) (hb : EvD tb σ H (.int j)) (hc : C i j) (hg : g i j = vOf d) (hf : flat d = true) : EvD (tOp (rI C g) ta tb) σ H d :=
  ev_op ha hb fun x y H1 _ rx ry Q q => ⟨i, j, rx, ry, hc, q _ H1 (Ex.refl _) (by rw [hg]; exact Rp.ofFlat hf)⟩
theorem ev_opI0 {g : Int → Int → V} {i j : Int} {d : PyData} (ha : EvD ta σ H (.int i)) (hb : EvD tb σ H (.int j)) (hg : g i j = vOf d) (hf : flat d = true) : EvD (tOp (rI0 g) ta tb) σ H d :=
  ev_op ha hb fun x y H1 _ rx ry Q q => ⟨i, j, rx, ry, q _ H1 (Ex.refl _) (by rw [hg]; exact Rp.ofFlat hf)⟩
theorem ev_add {i j : Int} (ha : EvD ta σ H (.int i)) (hb : EvD tb σ H (.int j)) : EvD (tOp (rI0 fun i j => .int (i + j)) ta tb) σ H (.int (i + j)) := ev_opI0 ha hb rfl rfl
theorem ev_sub {i j : Int} (ha : EvD ta σ H (.int i)) (hb : EvD tb σ H (.int j)) : EvD (tOp (rI0 fun i j => .int (i - j)) ta tb) σ H (.int (i - j)) := ev_opI0 ha hb rfl rfl
theorem ev_mul {i j : Int} (ha : EvD ta σ H (.int i)) (hb : EvD tb σ H (.int j)) (hc : CMul i j) : EvD (tOp (rI CMul fun i j => .int (i * j)) ta tb) σ H (.int (i * j)) := ev_opI ha hb hc rfl rfl
theorem ev_div {i j : Int} (ha : EvD ta σ H (.int i)) (hb : EvD tb σ H (.int j)) (hc : CDiv i j) : EvD (tOp (rI CDiv fun i j => .int (i / j)) ta tb) σ H (.int (i / j)) := ev_opI ha hb hc rfl rfl
theorem ev_mod {i j : Int} (ha : EvD ta σ H (.int i)) (hb : EvD tb σ H (.int j)) (hc : 0 < j) : EvD (tOp (rI (fun _ j => 0 < j) fun i j => .int (i % j)) ta tb) σ H (.int (i % j)) := ev_opI ha hb hc rfl rfl
theorem ev_lt {i j : Int} (ha : EvD ta σ H (.int i)) (hb : EvD tb σ H (.int j)) : EvD (tOp (rI0 fun i j => .bl (decide (i < j))) ta tb) σ H (.bool (decide (i < j))) := ev_opI0 ha hb rfl rfl
theorem ev_le {i j : Int} (ha : EvD ta σ H (.int i)) (hb : EvD tb σ H (.int j)) : EvD (tOp (rI0 fun i j => .bl (decide (i ≤ j))) ta tb) σ H (.bool (decide (i ≤ j))) := ev_opI0 ha hb rfl rfl
theorem ev_gt {i j : Int} (ha : EvD ta σ H (.int i)) (hb : EvD tb σ H (.int j)) : EvD (tOp (rI0 fun i j => .bl (decide (j < i))) ta tb) σ H (.bool (decide (j < i))) := ev_opI0 ha hb rfl rfl
theorem ev_ge {i j : Int} (ha : EvD ta σ H (.int i)) (hb : EvD tb σ H (.int j)) : EvD (tOp (rI0 fun i j => .bl (decide (j ≤ i))) ta tb) σ H (.bool (decide (j ≤ i))) := ev_opI0 ha hb rfl rfl
theorem ev_neg {i : Int} (ha : EvD ta σ H (.int i)) : EvD (tUn (rU fun i => .int (-i)) ta) σ H (.int (-i)) := fun H1 e Q q => ha H1 e _ fun x H2 e2 rx => ⟨i, rx, q _ H2 e2 rfl⟩
/-- == of scalars that == tells apart -/
theorem ev_eq {a b : PyData} (ha : EvD ta σ H a) (hb : EvD tb σ H b) (fa : flat a = true) (fb : flat b = true) (hs : scal (vOf a) (vOf b) = true) {k : Bool} (hk : decide (vOf a = vOf b) = k) : EvD (tOp rEq ta tb) σ H (.bool k) :=
  ev_op ha hb fun x y H1 _ rx ry Q q => by
    rw [Rp.vOf fa rx, Rp.vOf fb ry]
    refine ⟨hs, ?_⟩
    rw [hk]
    exact q _ H1 (Ex.refl _) rfl
theorem ev_ne {a b : PyData} (ha : EvD ta σ H a) (hb : EvD tb σ H b) (fa : flat a = true) (fb : flat b = true) (hs : scal (vOf a) (vOf b) = true) {k : Bool} (hk : (!decide (vOf a = vOf b)) = k) : EvD (tOp rNe ta tb) σ H (.bool k) :=
  ev_op ha hb fun x y H1 _ rx ry Q q => by
    rw [Rp.vOf fa rx, Rp.vOf fb ry]
    refine ⟨hs, ?_⟩
    rw [hk]
    exact q _ H1 (Ex.refl _) rfl
theorem dec_vstr (a b : Str) : decide (V.str a = V.str b) = decide (a = b) := by
  by_cases h : a = b
  · subst h
    rw [decide_eq_true rfl, decide_eq_true rfl]
  · rw [decide_eq_false h, decide_eq_false fun e => h (V.str.inj e)]
theorem dec_vint (a b : Int) : decide (V.int a = V.int b) = decide (a = b) := by
  by_cases h : a = b
  · subst h
    rw [decide_eq_true rfl, decide_eq_true rfl]
  · rw [decide_eq_false h, decide_eq_false fun e => h (V.int.inj e)]
theorem ev_eqS {a b : Str} (ha : EvD ta σ H (.str a)) (hb : EvD tb σ H (.str b)) : EvD (tOp rEq ta tb) σ H (.bool (decide (a = b))) := ev_eq ha hb rfl rfl rfl (dec_vstr a b)
theorem ev_neS {a b : Str} (ha : EvD ta σ H (.str a)) (hb : EvD tb σ H (.str b)) : EvD (tOp rNe ta tb) σ H (.bool (!decide (a = b))) := ev_ne ha hb rfl rfl rfl (congrArg not (dec_vstr a b))
theorem ev_eqI {a b : Int} (ha : EvD ta σ H (.int a)) (hb : EvD tb σ H (.int b)) : EvD (tOp rEq ta tb) σ H (.bool (decide (a = b))) := ev_eq ha hb rfl rfl rfl (dec_vint a b)
theorem ev_neI {a b : Int} (ha : EvD ta σ H (.int a)) (hb : EvD tb σ H (.int b)) : EvD (tOp rNe ta tb) σ H (.bool (!decide (a = b))) := ev_ne ha hb rfl rfl rfl (congrArg not (dec_vint a b))
theorem ev_not {b : Bool} (ha : EvD ta σ H (.bool b)) : EvD (tNotV ta) σ H (.bool (!b)) := fun H1 e Q q => ha H1 e _ fun x H2 e2 rx => ⟨b, rx, q _ H2 e2 rfl⟩
theorem ev_and {a b : Bool} (h1 : EvD ta σ H (.bool a)) (h2 : a = true → EvD tb σ H (.bool b)) : EvD (tAndV ta tb) σ H (.bool (a && b)) := fun H1 e Q q => h1 H1 e _ fun x H2 e2 rx => ⟨a, rx, by
  cases a with
  | true => exact h2 rfl H2 (e.trans e2) Q fun v H3 e3 r => q v H3 (e2.trans e3) r
  | false => exact q _ H2 e2 rfl⟩
theorem ev_or {a b : Bool} (h1 : EvD ta σ H (.bool a)) (h2 : a = false → EvD tb σ H (.bool b)) : EvD (tOrV ta tb) σ H (.bool (a || b)) := fun H1 e Q q => h1 H1 e _ fun x H2 e2 rx => ⟨a, rx, by
  cases a with
  | false => exact h2 rfl H2 (e.trans e2) Q fun v H3 e3 r => q v H3 (e2.trans e3) r
  | true => exact q _ H2 e2 rfl⟩
theorem ev_if {t : TT} {b : Bool} {P : V → Hp → Prop} (h : EvT t σ H b) (h1 : b = true → EvP ta σ H P) (h2 : b = false → EvP tb σ H P) : EvP (tIf t ta tb) σ H P := fun H1 e Q q => h H1 e _ fun H2 e2 => by
  cases b with
  | true => exact h1 rfl H2 (e.trans e2) Q fun v H3 e3 r => q v H3 (e2.trans e3) r
  | false => exact h2 rfl H2 (e.trans e2) Q fun v H3 e3 r => q v H3 (e2.trans e3) r
theorem ef_if {t : TT} {b : Bool} {s : Sh} (h : EvT t σ H b) (h1 : b = true → EvF ta σ H s) (h2 : b = false → EvF tb σ H s) : EvF (tIf t ta tb) σ H s := fun H1 e Q q => h H1 e _ fun H2 e2 => by
  cases b with
  | true => exact h1 rfl H2 (e.trans e2) Q fun p H3 hp e3 r => q p H3 (Evl.fresh_back e2 hp) (e2.trans e3) r
  | false => exact h2 rfl H2 (e.trans e2) Q fun p H3 hp e3 r => q p H3 (Evl.fresh_back e2 hp) (e2.trans e3) r
theorem ev_isN {a : PyData} (ha : EvD ta σ H a) {k : Bool} (hk : ∀ v H1, Rp H1 a v → decide (v = .non) = k) : EvD (tIsN ta) σ H (.bool k) := fun H1 e Q q => ha H1 e _ fun x H2 e2 rx => by
  show Q (.bl (decide (x = .non))) H2
  rw [hk x H2 rx]
  exact q _ H2 e2 rfl
theorem ev_notN {a : PyData} (ha : EvD ta σ H a) {k : Bool} (hk : ∀ v H1, Rp H1 a v → decide (v = .non) = !k) : EvD (tNotN ta) σ H (.bool k) := fun H1 e Q q => ha H1 e _ fun x H2 e2 rx => by
  show Q (.bl (!decide (x = .non))) H2
  rw [hk x H2 rx, Bool.not_not]
  exact q _ H2 e2 rfl
/-! ### tests -/
theorem et_test {b : Bool} (h : EvD te σ H (.bool b)) : EvT (tTest te) σ H b := fun H1 e _ q => h H1 e _ fun v H2 e2 r => ⟨b, r, q H2 e2⟩
theorem et_B {b : Bool} (h : EvD te σ H (.bool b)) : EvT (tB te) σ H b := fun H1 e _ q => h H1 e _ fun v H2 e2 r => ⟨b, r, q H2 e2⟩
theorem et_is {t : TT} {a b : Bool} (h : EvT t σ H a) (e : a = b) : EvT t σ H b := e ▸ h
theorem ev_is {a b : PyData} (h : EvD te σ H a) (e : a = b) : EvD te σ H b := e ▸ h
theorem es_is {a b : Sh} (h : EvS te σ H a) (e : a = b) : EvS te σ H b := e ▸ h
theorem ef_is {a b : Sh} (h : EvF te σ H a) (e : a = b) : EvF te σ H b := e ▸ h
end
end FF
/-! more expressions: subscripts, membership, built-ins, lists; calls of defs -/
namespace FF
open PySem PySem.Spec PyProof.Rows L2
open Evl (Ex EvT)
section
variable {Hb H H1 : Hp} {ms : Ms} {cs : List Sh} {σ : L2.St} {te ta tb : TE} {K : PySem.W.Frag}
theorem atI_all {H : Hp} {ds : List PyData} {xs : List V} {i : Int} {d : PyData} (r : RpAll H ds xs) (h : atI ds i = some d) : ∃ x, atI xs i = some x ∧ Rp H d x := by
  unfold atI at h ⊢
  rw [← r.length]
  cases e : ixN ds.length i with
  | none => rw [e] at h; cases h
  | some j =>
    rw [e] at h
    exact r.get (i := j) h
theorem ev_ixT {ds : List PyData} {i : Int} {d : PyData} (ha : EvD ta σ H (.tuple ds)) (hb : EvD tb σ H (.int i)) (h : atI ds i = some d) : EvD (tOp (rIxT K) ta tb) σ H d :=
  ev_op ha hb fun x y H1 _ rx ry Q q => by
    obtain ⟨p, xs, rfl, e2, e3⟩ := rx
    obtain ⟨v, e4, e5⟩ := atI_all e3 h
    exact ⟨p, xs, i, v, rfl, ry, .inl e2, e4, q v H1 (Ex.refl _) e5⟩
theorem ev_ixL {ds : List PyData} {i : Int} {d : PyData} (ha : EvS ta σ H (.ls ds)) (hb : EvD tb σ H (.int i)) (h : atI ds i = some d) : EvD (tOp (rIxL K) ta tb) σ H d :=
  ev_op ha hb fun x y H1 _ rx ry Q q => by
    obtain ⟨p, rfl, xs, e2, e3⟩ := rx
    obtain ⟨v, e4, e5⟩ := atI_all e3 h
    exact ⟨p, xs, i, v, rfl, ry, SqL.of e2, e4, q v H1 (Ex.refl _) e5⟩
theorem ev_ixS {z : Str} {i : Int} {c : Nat} (ha : EvD ta σ H (.str z)) (hb : EvD tb σ H (.int i)) (hz : z.length ≤ 100000) (h : atI z.cps.toList i = some c) : EvD (tOp rIxS ta tb) σ H (.str ⟨#[c]⟩) :=
  ev_op ha hb fun x y H1 _ rx ry Q q => ⟨z, i, c, rx, ry, Nat.le_trans hz (by decide), h, q _ H1 (Ex.refl _) rfl⟩
/-! ### dicts of texts -/
def lkp {α : Type} (kvs : List (Str × α)) (k : Str) : Option α := (kvs.find? fun kv => decide (kv.1 = k)).map (·.2)
theorem RpKv.val {H : Hp} {k : Str} : ∀ {kvs : List (Str × PyData)} {es : List (Key × V)}, RpKv H kvs es → match lkp kvs k with
    | some d => ∃ v, valV es (Sum.inr k) = some v ∧ Rp H d v
    | none => valV es (Sum.inr k) = none
  | [], [], _ => rfl
  | (j, d) :: kvs, (j', x) :: es, h => by
    obtain ⟨rfl, h2, h3⟩ := h
    unfold lkp
    rw [List.find?_cons]
    by_cases e : j = k
    · subst e
      rw [show decide (((j, d) : Str × PyData).1 = j) = true from decide_eq_true rfl]
      exact ⟨x, valV_pos (p := ((Sum.inr j : Key), x)) rfl, h2⟩
    · rw [show decide (((j, d) : Str × PyData).1 = k) = false from decide_eq_false e, valV_neg (p := ((Sum.inr j : Key), x)) (fun z => e (Sum.inr.inj z))]
      exact RpKv.val h3
  | [], _ :: _, h => h.elim
  | (_, _) :: _, [], h => h.elim
theorem RpKl.val {H : Hp} {k : Str} : ∀ {kvs : List (Str × List PyData)} {es : List (Key × V)}, RpKl H kvs es → match lkp kvs k with
    | some d => ∃ p, valV es (Sum.inr k) = some (.ref p) ∧ LsAt H p d
    | none => valV es (Sum.inr k) = none
  | [], [], _ => rfl
  | (j, d) :: kvs, (j', x) :: es, h => by
    obtain ⟨rfl, ⟨p, rfl, h2⟩, h3⟩ := h
    unfold lkp
    rw [List.find?_cons]
    by_cases e : j = k
    · subst e
      rw [show decide (((j, d) : Str × List PyData).1 = j) = true from decide_eq_true rfl]
      exact ⟨p, valV_pos (p := ((Sum.inr j : Key), V.ref p)) rfl, h2⟩
    · rw [show decide (((j, d) : Str × List PyData).1 = k) = false from decide_eq_false e, valV_neg (p := ((Sum.inr j : Key), V.ref p)) (fun z => e (Sum.inr.inj z))]
      exact RpKl.val h3
  | [], _ :: _, h => h.elim
  | (_, _) :: _, [], h => h.elim
theorem ev_dget {kvs : List (Str × PyData)} {k : Str} {d : PyData} (ha : EvS ta σ H (.dc kvs)) (hb : EvD tb σ H (.str k)) (h : lkp kvs k = some d) : EvD (tDGet ta tb) σ H d := fun H1 e Q q =>
  ha H1 e _ fun x H2 e2 rx => hb H2 (e.trans e2) _ fun y H3 e3 ry => by
    obtain ⟨p, es, rfl, h1, h2⟩ := rx
    have h4 := RpKv.val (k := k) (h2.mono (Ex.pr e3))
    rw [h] at h4
    obtain ⟨v, h5, h6⟩ := h4
    have ey : y = .str k := ry
    subst ey
    exact ⟨p, v, rfl, .inl ⟨es, Sum.inr k, .inl (e3 _ _ h1), rfl, h5.symm⟩, q v H3 (e2.trans e3) h6⟩
theorem ev_dgetL {kvs : List (Str × List PyData)} {k : Str} {d : List PyData} (ha : EvS ta σ H (.dl kvs)) (hb : EvD tb σ H (.str k)) (h : lkp kvs k = some d) : EvS (tDGet ta tb) σ H (.ls d) := fun H1 e Q q =>
  ha H1 e _ fun x H2 e2 rx => hb H2 (e.trans e2) _ fun y H3 e3 ry => by
    obtain ⟨p, es, rfl, h1, h2⟩ := rx
    have h4 := RpKl.val (k := k) (h2.mono e3)
    rw [h] at h4
    obtain ⟨v, h5, h6⟩ := h4
    have ey : y = .str k := ry
    subst ey
    exact ⟨p, .ref v, rfl, .inl ⟨es, Sum.inr k, .inl (e3 _ _ h1), rfl, h5.symm⟩, q _ H3 (e2.trans e3) ⟨v, rfl, h6⟩⟩
theorem ev_din {kvs : List (Str × PyData)} {k : Str} (ha : EvD ta σ H (.str k)) (hb : EvS tb σ H (.dc kvs)) : EvD (tDIn ta tb) σ H (.bool (lkp kvs k).isSome) := fun H1 e Q q =>
  ha H1 e _ fun y H2 e2 ry => hb H2 (e.trans e2) _ fun x H3 e3 rx => by
    obtain ⟨p, es, rfl, h1, h2⟩ := rx
    have h4 := RpKv.val (k := k) h2
    have ey : y = .str k := ry
    subst ey
    refine ⟨p, valV es (Sum.inr k), rfl, .inl ⟨es, Sum.inr k, .inl h1, rfl, rfl⟩, ?_⟩
    cases z : lkp kvs k with
    | none =>
      rw [z] at h4
      rw [show valV es (Sum.inr k) = none from h4]
      rw [z] at q
      exact q _ H3 (e2.trans e3) rfl
    | some d =>
      rw [z] at h4
      obtain ⟨v, h5, _⟩ := h4
      rw [h5]
      rw [z] at q
      exact q _ H3 (e2.trans e3) rfl
theorem ev_dnotin {kvs : List (Str × PyData)} {k : Str} (ha : EvD ta σ H (.str k)) (hb : EvS tb σ H (.dc kvs)) : EvD (tDNotIn ta tb) σ H (.bool (!(lkp kvs k).isSome)) := fun H1 e Q q =>
  ha H1 e _ fun y H2 e2 ry => hb H2 (e.trans e2) _ fun x H3 e3 rx => by
    obtain ⟨p, es, rfl, h1, h2⟩ := rx
    have h4 := RpKv.val (k := k) h2
    have ey : y = .str k := ry
    subst ey
    refine ⟨p, valV es (Sum.inr k), rfl, .inl ⟨es, Sum.inr k, .inl h1, rfl, rfl⟩, ?_⟩
    cases z : lkp kvs k with
    | none =>
      rw [z] at h4
      rw [show valV es (Sum.inr k) = none from h4]
      rw [z] at q
      exact q _ H3 (e2.trans e3) rfl
    | some d =>
      rw [z] at h4
      obtain ⟨v, h5, _⟩ := h4
      rw [h5]
      rw [z] at q
      exact q _ H3 (e2.trans e3) rfl
/-! ### membership -/
theorem inV_str (x : Str) : ∀ ys : List Str, inV (.str x) ((ys.map PyData.str).map vOf) = decide (x ∈ ys)
  | [] => rfl
  | y :: ys => by
    show (eqV (.str y) (.str x) || inV (.str x) ((ys.map PyData.str).map vOf)) = _
    rw [inV_str x ys]
    show ((y == x) || _) = _
    by_cases e : y = x
    · subst e
      simp
    · have e2 : ¬ x = y := fun z => e z.symm
      simp [e, e2]
theorem flat_strs (ys : List Str) : ∀ d ∈ ys.map PyData.str, flat d = true := fun d hd => by
  obtain ⟨y, _, rfl⟩ := List.mem_map.mp hd
  rfl
theorem flatV_strs (ys : List Str) : ((ys.map PyData.str).map vOf).all flatV = true := by
  rw [List.all_eq_true]
  intro v hv
  obtain ⟨d, hd, rfl⟩ := List.mem_map.mp hv
  obtain ⟨y, _, rfl⟩ := List.mem_map.mp hd
  rfl
theorem ev_inL {x : Str} {ys : List Str} (ha : EvD ta σ H (.str x)) (hb : EvS tb σ H (.ls (ys.map PyData.str))) : EvD (tOp (rIn K false) ta tb) σ H (.bool (decide (x ∈ ys))) :=
  ev_op ha hb fun v y H1 _ rx ry Q q => by
    obtain ⟨p, rfl, xs, e2, e3⟩ := ry
    have ex := RpAll.flat (flat_strs ys) e3
    subst ex
    have ev : v = .str x := rx
    subst ev
    refine ⟨p, _, rfl, .inl (SqL.of e2), rfl, flatV_strs ys, ?_⟩
    show Q (.bl (inV (.str x) _)) H1
    rw [inV_str]
    exact q _ H1 (Ex.refl _) rfl
theorem ev_notInL {x : Str} {ys : List Str} (ha : EvD ta σ H (.str x)) (hb : EvS tb σ H (.ls (ys.map PyData.str))) : EvD (tOp (rIn K true) ta tb) σ H (.bool (!decide (x ∈ ys))) :=
  ev_op ha hb fun v y H1 _ rx ry Q q => by
    obtain ⟨p, rfl, xs, e2, e3⟩ := ry
    have ex := RpAll.flat (flat_strs ys) e3
    subst ex
    have ev : v = .str x := rx
    subst ev
    refine ⟨p, _, rfl, .inl (SqL.of e2), rfl, flatV_strs ys, ?_⟩
    show Q (.bl (!inV (.str x) _)) H1
    rw [inV_str]
    exact q _ H1 (Ex.refl _) rfl
theorem ev_inT {x : Str} {ys : List Str} (ha : EvD ta σ H (.str x)) (hb : EvD tb σ H (.tuple (ys.map PyData.str))) : EvD (tOp (rIn K false) ta tb) σ H (.bool (decide (x ∈ ys))) :=
  ev_op ha hb fun v y H1 _ rx ry Q q => by
    obtain ⟨p, xs, rfl, e2, e3⟩ := ry
    have ex := RpAll.flat (flat_strs ys) e3
    subst ex
    have ev : v = .str x := rx
    subst ev
    refine ⟨p, _, rfl, .inr (.inl e2), rfl, flatV_strs ys, ?_⟩
    show Q (.bl (inV (.str x) _)) H1
    rw [inV_str]
    exact q _ H1 (Ex.refl _) rfl
/-- in a written tuple of the top -/
theorem ev_inK {x : Str} {ys : List Str} {p : Addr} (ha : EvD ta σ H (.str x)) (hb : EvS tb σ H (.vl (.ref p))) (hk : ∀ H, SqT K H p (ys.map V.str)) : EvD (tOp (rIn K false) ta tb) σ H (.bool (decide (x ∈ ys))) :=
  ev_op ha hb fun v y H1 _ rx ry Q q => by
    have ey : y = .ref p := ry
    subst ey
    have ev : v = .str x := rx
    subst ev
    have e : ys.map V.str = (ys.map PyData.str).map vOf := by rw [List.map_map]; rfl
    refine ⟨p, _, rfl, .inr (by rw [← e]; exact hk H1), rfl, flatV_strs ys, ?_⟩
    show Q (.bl (inV (.str x) _)) H1
    rw [inV_str]
    exact q _ H1 (Ex.refl _) rfl
theorem ev_inS {c : Nat} {z : Str} (ha : EvD ta σ H (.str ⟨#[c]⟩)) (hb : EvD tb σ H (.str z)) : EvD (tOp (fun x y H Q => ∃ (c : Nat) (z : Str), x = .str ⟨#[c]⟩ ∧ y = .str z ∧ Q (.bl (decide (c ∈ z.cps.toList))) H) ta tb) σ H (.bool (decide (c ∈ z.cps.toList))) :=
  ev_op ha hb fun v y H1 _ rx ry Q q => ⟨c, z, rx, ry, q _ H1 (Ex.refl _) rfl⟩
theorem ev_ltS {a b : Str} (ha : EvD ta σ H (.str a)) (hb : EvD tb σ H (.str b)) : EvD (tOp (fun x y H Q => ∃ i j, x = .str i ∧ y = .str j ∧ Q (.bl (decide (i.cps.toList < j.cps.toList))) H) ta tb) σ H (.bool (decide (a.cps.toList < b.cps.toList))) :=
  ev_op ha hb fun v y H1 _ rx ry Q q => ⟨a, b, rx, ry, q _ H1 (Ex.refl _) rfl⟩
/-! ### texts -/
theorem ev_cat {a b : Str} (ha : EvD ta σ H (.str a)) (hb : EvD tb σ H (.str b)) (hl : a.length + b.length ≤ 100000) : EvD (tOp (fun x y H Q => ∃ i j, x = .str i ∧ y = .str j ∧ i.length + j.length ≤ sizeLine ∧ Q (.str (i ++ j)) H) ta tb) σ H (.str (a ++ b)) :=
  ev_op ha hb fun v y H1 _ rx ry Q q => ⟨a, b, rx, ry, Nat.le_trans hl (by decide), q _ H1 (Ex.refl _) rfl⟩
def EvO (to : TO) (σ : L2.St) (H : Hp) (o : Option Int) : Prop := ∀ H1, Ex H H1 → ∀ Q : Option Int → Hp → Prop, (∀ H2, Ex H1 H2 → Q o H2) → to σ H1 Q
theorem eo_none : EvO tNoPart σ H none := fun H1 _ Q q => q H1 (Ex.refl _)
theorem eo_some {i : Int} (h : EvD te σ H (.int i)) : EvO (tPart te) σ H (some i) := fun H1 e Q q => h H1 e _ fun v H2 e2 r => ⟨i, r, q H2 e2⟩
theorem ev_cutS {z : Str} {tl th : TO} {lo hi : Option Int} (h : EvD te σ H (.str z)) (h1 : EvO tl σ H lo) (h2 : EvO th σ H hi) (hz : z.length ≤ 100000) : EvD (tSl rSlS te tl th) σ H (.str (cutS z lo hi)) := fun H1 e Q q =>
  h H1 e _ fun v H2 e2 r => h1 H2 (e.trans e2) _ fun H3 e3 => h2 H3 ((e.trans e2).trans e3) _ fun H4 e4 => ⟨z, r, Nat.le_trans hz (by decide), q _ H4 ((e2.trans e3).trans e4) rfl⟩
/-! ### lists -/
theorem ef_cat {as bs : List PyData} (ha : EvS ta σ H (.ls as)) (hb : EvS tb σ H (.ls bs)) (hl : as.length + bs.length ≤ 100000) : EvF (tOp rCat ta tb) σ H (.ls (as ++ bs)) :=
  ef_op ha hb fun x y H1 _ rx ry Q q => by
    obtain ⟨p, rfl, xs, e2, e3⟩ := rx
    obtain ⟨r, rfl, ys, e4, e5⟩ := ry
    refine ⟨p, r, xs, ys, rfl, rfl, e2, e4, ?_, fun l hl => q l _ hl (Evl.Ex.new hl) ⟨l, rfl, _, upd_same, (RpAll.append e3 e5).mono (Ex.pr (Evl.Ex.new hl))⟩⟩
    rw [← e3.length, ← e5.length]
    exact Nat.le_trans hl (by decide)
/-- a call of a built-in by values -/
theorem ev_cb {r : List V → Hp → VK → Prop} {ta : TA} {ss : List Sh} {u : Sh} (ha : EvAs ta σ H ss) (hr : ∀ vs H1, Ex H H1 → ShAll H1 ss vs → ∀ Q : VK, (∀ v H2, Ex H1 H2 → u.ok H2 v → Q v H2) → r vs H1 Q) : EvS (tCB r ta) σ H u := fun H1 e Q q =>
  ha H1 e _ fun vs H2 e2 rs => hr vs H2 (e.trans e2) rs Q fun v H3 e3 rv => q v H3 (e2.trans e3) rv
theorem ef_cb {r : List V → Hp → VK → Prop} {ta : TA} {ss : List Sh} {u : Sh} (ha : EvAs ta σ H ss) (hr : ∀ vs H1, Ex H H1 → ShAll H1 ss vs → ∀ Q : VK, (∀ p H2, H1 p = none → Ex H1 H2 → u.ok H2 (.ref p) → Q (.ref p) H2) → r vs H1 Q) : EvF (tCB r ta) σ H u := fun H1 e Q q =>
  ha H1 e _ fun vs H2 e2 rs => hr vs H2 (e.trans e2) rs Q fun p H3 hp e3 rv => q p H3 (Evl.fresh_back e2 hp) (e2.trans e3) rv
theorem sh1 {H : Hp} {s : Sh} : ∀ {vs : List V}, ShAll H [s] vs → ∃ v, vs = [v] ∧ s.ok H v
  | [v], h => ⟨v, rfl, h.1⟩
  | [], h => h.elim
  | _ :: _ :: _, h => h.2.elim
theorem sh2 {H : Hp} {s t : Sh} : ∀ {vs : List V}, ShAll H [s, t] vs → ∃ v u, vs = [v, u] ∧ s.ok H v ∧ t.ok H u
  | [v, u], h => ⟨v, u, rfl, h.1, h.2.1⟩
  | [], h => h.elim
  | [_], h => h.2.elim
  | _ :: _ :: _ :: _, h => h.2.2.elim
theorem ev_lenL {ds : List PyData} (ha : EvS te σ H (.ls ds)) : EvD (tCB (fun xs H Q => ∃ p ys, xs = [.ref p] ∧ (SqL K H p ys ∨ SqT K H p ys) ∧ Q (.int ys.length) H) (tCons te tNil)) σ H (.int ds.length) :=
  ev_cb (ea_cons ha ea_nil) fun vs H1 _ r Q q => by
    obtain ⟨v, rfl, p, rfl, xs, e2, e3⟩ := sh1 r
    refine ⟨p, xs, rfl, .inl (SqL.of e2), ?_⟩
    rw [← e3.length]
    exact q _ H1 (Ex.refl _) rfl
theorem ev_lenT {ds : List PyData} (ha : EvD te σ H (.tuple ds)) : EvD (tCB (fun xs H Q => ∃ p ys, xs = [.ref p] ∧ (SqL K H p ys ∨ SqT K H p ys) ∧ Q (.int ys.length) H) (tCons te tNil)) σ H (.int ds.length) :=
  ev_cb (ea_cons ha ea_nil) fun vs H1 _ r Q q => by
    obtain ⟨v, rfl, p, xs, rfl, e2, e3⟩ := sh1 r
    refine ⟨p, xs, rfl, .inr (.inl e2), ?_⟩
    rw [← e3.length]
    exact q _ H1 (Ex.refl _) rfl
theorem ev_lenS {z : Str} (ha : EvD te σ H (.str z)) (hz : z.length ≤ 100000) : EvD (tCB (fun xs H Q => ∃ z, xs = [.str z] ∧ z.length ≤ sizeLine ∧ Q (.int z.length) H) (tCons te tNil)) σ H (.int z.length) :=
  ev_cb (ea_cons ha ea_nil) fun vs H1 _ r Q q => by
    obtain ⟨v, rfl, e⟩ := sh1 r
    have e : v = .str z := e
    subst e
    exact ⟨z, rfl, Nat.le_trans hz (by decide), q _ H1 (Ex.refl _) rfl⟩
theorem ev_intI {i : Int} (ha : EvD te σ H (.int i)) : EvD (tCB (fun xs H Q => (∃ i, xs = [.int i] ∧ Q (.int i) H) ∨ ∃ k, xs = [.bl k] ∧ Q (.int (if k then 1 else 0)) H) (tCons te tNil)) σ H (.int i) :=
  ev_cb (ea_cons ha ea_nil) fun vs H1 _ r Q q => by
    obtain ⟨v, rfl, e⟩ := sh1 r
    have e : v = .int i := e
    subst e
    exact .inl ⟨i, rfl, q _ H1 (Ex.refl _) rfl⟩
/-- list(l), list(t): a new list -/
theorem ef_listL {ds : List PyData} (ha : EvS te σ H (.ls ds)) : EvF (tCB (fun xs H Q => ∃ p ys, xs = [.ref p] ∧ (SqL K H p ys ∨ SqT K H p ys) ∧ ∀ l, H l = none → Q (.ref l) (upd H l (.lst ys))) (tCons te tNil)) σ H (.ls ds) :=
  ef_cb (ea_cons ha ea_nil) fun vs H1 _ r Q q => by
    obtain ⟨v, rfl, p, rfl, xs, e2, e3⟩ := sh1 r
    exact ⟨p, xs, rfl, .inl (SqL.of e2), fun l hl => q l _ hl (Evl.Ex.new hl) ⟨l, rfl, _, upd_same, e3.mono (Ex.pr (Evl.Ex.new hl))⟩⟩
theorem ef_listT {ds : List PyData} (ha : EvD te σ H (.tuple ds)) : EvF (tCB (fun xs H Q => ∃ p ys, xs = [.ref p] ∧ (SqL K H p ys ∨ SqT K H p ys) ∧ ∀ l, H l = none → Q (.ref l) (upd H l (.lst ys))) (tCons te tNil)) σ H (.ls ds) :=
  ef_cb (ea_cons ha ea_nil) fun vs H1 _ r Q q => by
    obtain ⟨v, rfl, p, xs, rfl, e2, e3⟩ := sh1 r
    exact ⟨p, xs, rfl, .inr (.inl e2), fun l hl => q l _ hl (Evl.Ex.new hl) ⟨l, rfl, _, upd_same, e3.mono (Ex.pr (Evl.Ex.new hl))⟩⟩
/-- tuple(l) -/
theorem ev_tupL {ds : List PyData} (ha : EvS te σ H (.ls ds)) : EvD (tCB (fun xs H Q => ∃ p ys, xs = [.ref p] ∧ ((SqL K H p ys ∧ ∀ l, H l = none → Q (.ref l) (upd H l (.tup ys))) ∨ (SqT K H p ys ∧ Q (.ref p) H))) (tCons te tNil)) σ H (.tuple ds) :=
  ev_cb (ea_cons ha ea_nil) fun vs H1 _ r Q q => by
    obtain ⟨v, rfl, p, rfl, xs, e2, e3⟩ := sh1 r
    exact ⟨p, xs, rfl, .inl ⟨SqL.of e2, fun l hl => q _ _ (Evl.Ex.new hl) ⟨l, xs, rfl, .inl upd_same, e3.mono (Ex.pr (Evl.Ex.new hl))⟩⟩⟩
theorem vOf_ints (ns : List Int) : (ns.map PyData.int).map vOf = ns.map V.int := by rw [List.map_map]; rfl
theorem flat_ints (ns : List Int) : ∀ d ∈ ns.map PyData.int, flat d = true := fun d hd => by
  obtain ⟨y, _, rfl⟩ := List.mem_map.mp hd
  rfl
theorem vOf_bls (ns : List Bool) : (ns.map PyData.bool).map vOf = ns.map V.bl := by rw [List.map_map]; rfl
theorem flat_bls (ns : List Bool) : ∀ d ∈ ns.map PyData.bool, flat d = true := fun d hd => by
  obtain ⟨y, _, rfl⟩ := List.mem_map.mp hd
  rfl
theorem vOf_strs (ns : List Str) : (ns.map PyData.str).map vOf = ns.map V.str := by rw [List.map_map]; rfl
theorem LsAt.ints {H : Hp} {p : Addr} {ns : List Int} (h : LsAt H p (ns.map PyData.int)) : H p = some (.lst (ns.map V.int)) := by
  obtain ⟨xs, h1, h2⟩ := h
  rw [← vOf_ints, ← RpAll.flat (flat_ints ns) h2]
  exact h1
theorem LsAt.bls {H : Hp} {p : Addr} {ns : List Bool} (h : LsAt H p (ns.map PyData.bool)) : H p = some (.lst (ns.map V.bl)) := by
  obtain ⟨xs, h1, h2⟩ := h
  rw [← vOf_bls, ← RpAll.flat (flat_bls ns) h2]
  exact h1
theorem LsAt.strs {H : Hp} {p : Addr} {ns : List Str} (h : LsAt H p (ns.map PyData.str)) : H p = some (.lst (ns.map V.str)) := by
  obtain ⟨xs, h1, h2⟩ := h
  rw [← vOf_strs, ← RpAll.flat (flat_strs ns) h2]
  exact h1
theorem ev_sum {ns : List Int} (ha : EvS te σ H (.ls (ns.map PyData.int))) : EvD (tCB (rSum K) (tCons te tNil)) σ H (.int ns.sum) :=
  ev_cb (ea_cons ha ea_nil) fun vs H1 _ r Q q => by
    obtain ⟨v, rfl, p, rfl, h⟩ := sh1 r
    exact ⟨p, ns, rfl, SqL.of h.ints, q _ H1 (Ex.refl _) rfl⟩
theorem ev_any {bs : List Bool} (ha : EvS te σ H (.ls (bs.map PyData.bool))) : EvD (tCB (rAny K) (tCons te tNil)) σ H (.bool (bs.any id)) :=
  ev_cb (ea_cons ha ea_nil) fun vs H1 _ r Q q => by
    obtain ⟨v, rfl, p, rfl, h⟩ := sh1 r
    exact ⟨p, bs, rfl, SqL.of h.bls, q _ H1 (Ex.refl _) rfl⟩
theorem ev_all {bs : List Bool} (ha : EvS te σ H (.ls (bs.map PyData.bool))) : EvD (tCB (rAll K) (tCons te tNil)) σ H (.bool (bs.all id)) :=
  ev_cb (ea_cons ha ea_nil) fun vs H1 _ r Q q => by
    obtain ⟨v, rfl, p, rfl, h⟩ := sh1 r
    exact ⟨p, bs, rfl, SqL.of h.bls, q _ H1 (Ex.refl _) rfl⟩
/-- the greatest of a list of whole numbers -/
def maxOf : List Int → Int
  | [] => 0
  | [x] => x
  | x :: y :: r => max x (maxOf (y :: r))
theorem maxOf_ge : ∀ {ns : List Int} {x : Int}, x ∈ ns → x ≤ maxOf ns
  | [], x, h => by cases h
  | [y], x, h => by
    rw [List.mem_singleton.mp h]
    exact Int.le_refl _
  | y :: z :: r, x, h => by
    rcases List.mem_cons.mp h with e | h
    · rw [e]
      exact Int.le_max_left ..
    · exact Int.le_trans (maxOf_ge h) (Int.le_max_right ..)
theorem maxOf_mem : ∀ {ns : List Int}, 0 < ns.length → maxOf ns ∈ ns
  | [], h => by cases h
  | [y], _ => List.mem_cons_self ..
  | y :: z :: r, _ => by
    show max y (maxOf (z :: r)) ∈ _
    rcases Int.le_total y (maxOf (z :: r)) with h | h
    · rw [Int.max_eq_right h]
      exact List.mem_cons_of_mem _ (maxOf_mem (by simp))
    · rw [Int.max_eq_left h]
      exact List.mem_cons_self ..
theorem ev_max {ns : List Int} (ha : EvS te σ H (.ls (ns.map PyData.int))) (hl : 0 < ns.length) : EvD (tCB (rMax K) (tCons te tNil)) σ H (.int (maxOf ns)) :=
  ev_cb (ea_cons ha ea_nil) fun vs H1 _ r Q q => by
    obtain ⟨v, rfl, p, rfl, h⟩ := sh1 r
    refine ⟨p, ns, rfl, SqL.of h.ints, hl, fun m hm hM => ?_⟩
    have e : m = maxOf ns := Int.le_antisymm (maxOf_ge hm) (hM _ (maxOf_mem hl))
    rw [e]
    exact q _ H1 (Ex.refl _) rfl
theorem ev_max2 {i j : Int} (ha : EvD ta σ H (.int i)) (hb : EvD tb σ H (.int j)) : EvD (tCB (fun xs H Q => ∃ i j, xs = [.int i, .int j] ∧ Q (.int (if j > i then j else i)) H) (tCons ta (tCons tb tNil))) σ H (.int (if j > i then j else i)) :=
  ev_cb (ea_cons ha (ea_cons hb ea_nil)) fun vs H1 _ r Q q => by
    obtain ⟨v, u, rfl, e1, e2⟩ := sh2 r
    have e1 : v = .int i := e1
    have e2 : u = .int j := e2
    subst e1 e2
    exact ⟨i, j, rfl, q _ H1 (Ex.refl _) rfl⟩
/-! ### isinstance -/
theorem ev_isi {d : PyData} {T C : String} {b : Bool} (ha : EvD ta σ H d) (hb : EvS tb σ H (.vl (.ty C))) (ht : ∀ v H1, Rp H1 d v → TyX K H1 v (.type T)) (hk : kitB T C = some b) : EvD (tCB (rIsi K) (tCons ta (tCons tb tNil))) σ H (.bool b) :=
  ev_cb (ea_cons ha (ea_cons hb ea_nil)) fun vs H1 _ r Q q => by
    obtain ⟨v, u, rfl, e1, e2⟩ := sh2 r
    have e2 : u = .ty C := e2
    subst e2
    exact ⟨v, .ty C, .type T, .type C, b, rfl, .ty C, ht v H1 e1, kit_ty hk, q _ H1 (Ex.refl _) rfl⟩
theorem ty_str {x : Str} : ∀ v H1, Rp H1 (.str x) v → TyX K H1 v (.type "str") := fun v H1 e => by
  have e : v = .str x := e
  subst e
  exact .base (.str x)
theorem ty_bool {x : Bool} : ∀ v H1, Rp H1 (.bool x) v → TyX K H1 v (.type "bool") := fun v H1 e => by
  have e : v = .bl x := e
  subst e
  exact .base (.bl x)
theorem ty_tup {ds : List PyData} : ∀ v H1, Rp H1 (.tuple ds) v → TyX K H1 v (.type "tuple") := fun v H1 e => by
  obtain ⟨p, xs, rfl, e2, _⟩ := e
  rcases e2 with e2 | ⟨o, e2⟩
  · exact .base (.tup e2)
  · exact .fTuple e2
theorem ev_vl {v : V} : EvS (tC v) σ H (.vl v) := fun H1 _ Q q => q _ H1 (Ex.refl _) rfl
end
end FF
/-! statements, loops, comprehensions, calls -/
namespace FF
open PySem PySem.Spec PyProof.Rows L2
open Evl (Ex EvT)
section
variable {Hb H H1 : Hp} {ms : Ms} {cs : List Sh} {σ : L2.St} {te ta tb : TE} {K : PySem.W.Frag} {D : Ends} {t : TT} {tu tw : TS}
/-! ### statements -/
theorem s_set (c : Cu Hb ms cs σ H) {i : Nat} {d : PyData} (h : EvD te σ H d) (k : ∀ Hb' σ' H', Ex Hb Hb' → Cu Hb' ms (cs.set i (.hd d)) σ' H' → D.nx σ' H') : tAsg te (gName i) D σ H :=
  h H (Ex.refl _) _ fun v H1 e r => by
    obtain ⟨Hb', e1, c1⟩ := c.store e i r
    exact k Hb' _ H1 e1 c1
/-- a new list that stays as it is -/
theorem s_setF (c : Cu Hb ms cs σ H) {i : Nat} {ds : List PyData} (h : EvF te σ H (.ls ds)) (k : ∀ Hb' σ' H', Ex Hb Hb' → Cu Hb' ms (cs.set i (.ls ds)) σ' H' → D.nx σ' H') : tAsg te (gName i) D σ H :=
  h H (Ex.refl _) _ fun p H1 hp e r => by
    obtain ⟨p', e1, e2⟩ := r
    have e1 := V.ref.inj e1
    subst e1
    have c1 := c.rebase e
    refine k _ _ H1 (c.exHide e) (c1.put (s := .ls ds) ⟨p, rfl, LsAt.hide (c.ext e) e2 (c.out hp)⟩)
/-- a new dict that stays as it is -/
theorem s_setFd (c : Cu Hb ms cs σ H) {i : Nat} {kvs : List (Str × PyData)} (h : EvF te σ H (.dc kvs)) (k : ∀ Hb' σ' H', Ex Hb Hb' → Cu Hb' ms (cs.set i (.dc kvs)) σ' H' → D.nx σ' H') : tAsg te (gName i) D σ H :=
  h H (Ex.refl _) _ fun p H1 hp e r => by
    obtain ⟨p', es, e1, e2, e3⟩ := r
    have e1 := V.ref.inj e1
    subst e1
    have c1 := c.rebase e
    refine k _ _ H1 (c.exHide e) (c1.put (s := .dc kvs) ⟨p, es, rfl, hideAt e2 (c.out hp), e3.mono (c.ext e).prHide⟩)
/-- a new list that the def will change -/
theorem s_setM (c : Cu Hb ms cs σ H) {i : Nat} {ds : List PyData} (h : EvF te σ H (.ls ds)) (k : ∀ p Hb' σ' H', Ex Hb Hb' → Hb p = none → Cu Hb' (ms ++ [(p, .l ds)]) (cs.set i (.vl (.ref p))) σ' H' → D.nx σ' H') : tAsg te (gName i) D σ H :=
  h H (Ex.refl _) _ fun p H1 hp e r => by
    obtain ⟨p', e1, xs, e2, e3⟩ := r
    have e1 := V.ref.inj e1
    subst e1
    have c1 := c.fresh e (m := .l ds) hp e2 (fun _ _ => e3)
    exact k p _ _ H1 (c.freshEx e (m := .l ds) hp) (Evl.fresh_back c.ex hp) (c1.put (s := .vl (.ref p)) rfl)
theorem s_setMd (c : Cu Hb ms cs σ H) {i : Nat} {ds : List (Str × PyData)} (h : EvF te σ H (.dc ds)) (k : ∀ p Hb' σ' H', Ex Hb Hb' → Hb p = none → Cu Hb' (ms ++ [(p, .d ds)]) (cs.set i (.vl (.ref p))) σ' H' → D.nx σ' H') : tAsg te (gName i) D σ H :=
  h H (Ex.refl _) _ fun p H1 hp e r => by
    obtain ⟨p', es, e1, e2, e3⟩ := r
    have e1 := V.ref.inj e1
    subst e1
    have c1 := c.fresh e (m := .d ds) hp e2 (fun _ _ => e3)
    exact k p _ _ H1 (c.freshEx e (m := .d ds) hp) (Evl.fresh_back c.ex hp) (c1.put (s := .vl (.ref p)) rfl)
theorem s_ret {s : Sh} (h : EvS te σ H s) (k : ∀ v H', Ex H H' → s.ok H' v → D.rt v H') : tRet te D σ H := h H (Ex.refl _) _ k
theorem s_retF {s : Sh} (h : EvF te σ H s) (k : ∀ p H', H p = none → Ex H H' → s.ok H' (.ref p) → D.rt (.ref p) H') : tRet te D σ H := h H (Ex.refl _) _ k
theorem s_if (c : Cu Hb ms cs σ H) {b : Bool} (h : EvT t σ H b) (h1 : b = true → ∀ H', Ex H H' → Cu Hb ms cs σ H' → tu D σ H') (h2 : b = false → ∀ H', Ex H H' → Cu Hb ms cs σ H' → tw D σ H') : tIfS t tu tw D σ H :=
  h H (Ex.refl _) _ fun H1 e => by
    cases b with
    | true => exact h1 rfl H1 e (c.ext e)
    | false => exact h2 rfl H1 e (c.ext e)
theorem s_aug (c : Cu Hb ms cs σ H) {i : Nat} {f : Int → Int → Int} {a b : Int} (hx : cs[i]? = some (.hd (.int a))) (h : EvD te σ H (.int b)) (k : ∀ Hb' σ' H', Ex Hb Hb' → Cu Hb' ms (cs.set i (.hd (.int (f a b)))) σ' H' → D.nx σ' H') : tAug i te (ipI f) D σ H := by
  obtain ⟨o, h1, h2⟩ := c.sl.get hx
  obtain ⟨v, rfl, h3⟩ := slOk.known rfl h2
  have h3 : v = .int a := h3
  subst h3
  refine ⟨.int a, h1, h H (Ex.refl _) _ fun y H1 e r => ?_⟩
  have r : y = .int b := r
  subst r
  obtain ⟨Hb', e1, c1⟩ := c.store (v := .int (f a b)) e i (d := .int (f a b)) rfl
  exact ⟨a, b, rfl, rfl, k _ _ _ e1 c1⟩
/-- an expression for itself -/
theorem s_drop {s : Sh} (h : EvS te σ H s) (k : ∀ H', Ex H H' → D.nx σ H') : tDrop te D σ H := h H (Ex.refl _) _ fun _ H1 e _ => k H1 e
/-- found.append(e) -/
theorem s_app (c : Cu Hb ms cs σ H) {i k : Nat} {p : Addr} {ds : List PyData} {d : PyData} (hi : cs[i]? = some (.vl (.ref p))) (hk : ms[k]? = some (p, .l ds)) (h : EvD te σ H d) (hz : ds.length ≤ 100000)
    (q : ∀ H', Cu Hb (ms.set k (p, .l (ds ++ [d]))) cs σ H' → D.nx σ H') : tDrop (tBM K "list" rAppend (tVar i) (tCons te tNil)) D σ H := by
  refine ⟨.ref p, c.slot i hi, ?_⟩
  obtain ⟨xs, h1, h2⟩ := c.lst hk
  refine ⟨.inl ⟨rfl, xs, SqL.of h1⟩, h H (Ex.refl _) _ fun v H1 e r => ?_⟩
  have c1 := c.ext e
  refine ⟨p, xs, v, rfl, rfl, e _ _ h1, by rw [← h2.length]; exact Nat.lt_of_le_of_lt hz (by decide), ?_⟩
  exact q _ (c1.upd hk (m' := .l (ds ++ [d])) (RpAll.mono (c1.updPr hk) (RpAll.append (h2.mono (Ex.pr e)) (RpAll.one r))))
/-- found.extend(l) -/
theorem s_ext (c : Cu Hb ms cs σ H) {i k : Nat} {p : Addr} {ds es : List PyData} (hi : cs[i]? = some (.vl (.ref p))) (hk : ms[k]? = some (p, .l ds)) (h : EvS te σ H (.ls es)) (hz : ds.length + es.length ≤ 100000)
    (q : ∀ H', Cu Hb (ms.set k (p, .l (ds ++ es))) cs σ H' → D.nx σ H') : tDrop (tBM K "list" rExtend (tVar i) (tCons te tNil)) D σ H := by
  refine ⟨.ref p, c.slot i hi, ?_⟩
  obtain ⟨xs, h1, h2⟩ := c.lst hk
  refine ⟨.inl ⟨rfl, xs, SqL.of h1⟩, h H (Ex.refl _) _ fun v H1 e r => ?_⟩
  obtain ⟨p2, rfl, ys, h3, h4⟩ := r
  have c1 := c.ext e
  refine ⟨p, p2, xs, ys, rfl, rfl, e _ _ h1, h3, by rw [← h2.length, ← h4.length]; exact Nat.le_trans hz (by decide), ?_⟩
  exact q _ (c1.upd hk (m' := .l (ds ++ es)) (RpAll.mono (c1.updPr hk) (RpAll.append (h2.mono (Ex.pr e)) h4)))
/-- found[k] = e -/
def putS (kvs : List (Str × PyData)) (k : Str) (d : PyData) : List (Str × PyData) := if (kvs.any fun kv => decide (kv.1 = k)) = true then kvs.map (fun kv => if kv.1 = k then (kv.1, d) else kv) else kvs ++ [(k, d)]
theorem RpKv.anyK {H : Hp} {k : Str} : ∀ {kvs : List (Str × PyData)} {es : List (Key × V)}, RpKv H kvs es → (es.any fun kv => decide (kv.1 = Sum.inr k)) = kvs.any fun kv => decide (kv.1 = k)
  | [], [], _ => rfl
  | (j, d) :: kvs, (j', x) :: es, h => by
    obtain ⟨rfl, _, h3⟩ := h
    rw [List.any_cons, List.any_cons, RpKv.anyK h3]
    have e : decide ((Sum.inr j : Key) = Sum.inr k) = decide (j = k) := by
      by_cases z : j = k
      · subst z
        simp
      · rw [decide_eq_false z, decide_eq_false fun y => z (Sum.inr.inj y)]
    show (decide ((Sum.inr j : Key) = Sum.inr k) || _) = _
    rw [e]
  | [], _ :: _, h => h.elim
  | (_, _) :: _, [], h => h.elim
theorem RpKv.mapK {H : Hp} {k : Str} {d : PyData} {v : V} (r : Rp H d v) : ∀ {kvs : List (Str × PyData)} {es : List (Key × V)}, RpKv H kvs es → RpKv H (kvs.map fun kv => if kv.1 = k then (kv.1, d) else kv) (es.map fun kv => if kv.1 = Sum.inr k then (kv.1, v) else kv)
  | [], [], _ => trivial
  | (j, e) :: kvs, (j', x) :: es, h => by
    obtain ⟨rfl, h2, h3⟩ := h
    rw [List.map_cons, List.map_cons]
    by_cases z : j = k
    · subst z
      rw [if_pos rfl, if_pos rfl]
      exact ⟨rfl, r, RpKv.mapK r h3⟩
    · rw [if_neg z, if_neg (show ¬ ((Sum.inr j : Key), x).1 = Sum.inr k from fun y => z (Sum.inr.inj y))]
      exact ⟨rfl, h2, RpKv.mapK r h3⟩
  | [], _ :: _, h => h.elim
  | (_, _) :: _, [], h => h.elim
theorem RpKv.snoc {H : Hp} {k : Str} {d : PyData} {v : V} (r : Rp H d v) : ∀ {kvs : List (Str × PyData)} {es : List (Key × V)}, RpKv H kvs es → RpKv H (kvs ++ [(k, d)]) (es ++ [(Sum.inr k, v)])
  | [], [], _ => ⟨rfl, r, trivial⟩
  | (j, e) :: kvs, (j', x) :: es, h => ⟨h.1, h.2.1, RpKv.snoc r h.2.2⟩
  | [], _ :: _, h => h.elim
  | (_, _) :: _, [], h => h.elim
theorem RpKv.put {H : Hp} {k : Str} {d : PyData} {v : V} {kvs : List (Str × PyData)} {es : List (Key × V)} (h : RpKv H kvs es) (r : Rp H d v) : RpKv H (putS kvs k d) (putK es (Sum.inr k) v) := by
  unfold putS putK
  rw [h.anyK]
  split
  · exact h.mapK r
  · exact h.snoc r
theorem RpKv.length {H : Hp} : ∀ {kvs : List (Str × PyData)} {es : List (Key × V)}, RpKv H kvs es → kvs.length = es.length
  | [], [], _ => rfl
  | (_, _) :: _, (_, _) :: _, h => congrArg Nat.succ (RpKv.length h.2.2)
  | [], _ :: _, h => h.elim
  | (_, _) :: _, [], h => h.elim
theorem s_dput (c : Cu Hb ms cs σ H) {i k : Nat} {p : Addr} {kvs : List (Str × PyData)} {x : Str} {d : PyData} (hi : cs[i]? = some (.vl (.ref p))) (hk : ms[k]? = some (p, .d kvs)) (hx : EvD ta σ H (.str x)) (h : EvD te σ H d) (hz : kvs.length ≤ 100000)
    (q : ∀ H', Cu Hb (ms.set k (p, .d (putS kvs x d))) cs σ H' → D.nx σ H') : sDPut (tVar i) ta te D σ H :=
  h H (Ex.refl _) _ fun v H1 e r => ⟨.ref p, c.slot i hi, hx H1 e _ fun y H2 e2 ry => by
    have c2 := (c.ext e).ext e2
    obtain ⟨es, h1, h2⟩ := c2.dct hk
    have ey : y = .str x := ry
    subst ey
    refine ⟨p, _, rfl, .inl ⟨es, Sum.inr x, h1, rfl, by rw [← h2.length]; exact Nat.lt_of_le_of_lt hz (by decide), rfl⟩, ?_⟩
    exact q _ (c2.upd hk (m' := .d (putS kvs x d)) (RpKv.mono (c2.updPr hk) (h2.put (r.mono (Ex.pr e2)))))⟩
/-- one = waiting.pop() -/
theorem s_pop (c : Cu Hb ms cs σ H) {i j k : Nat} {p : Addr} {ds : List PyData} {d : PyData} (hi : cs[i]? = some (.vl (.ref p))) (hk : ms[k]? = some (p, .l (ds ++ [d])))
    (q : ∀ Hb' σ' H', Ex Hb Hb' → Cu Hb' (ms.set k (p, .l ds)) (cs.set j (.hd d)) σ' H' → D.nx σ' H') : tAsg (tBM0 K "list" rPop (tVar i)) (gName j) D σ H := by
  refine ⟨.ref p, c.slot i hi, ?_⟩
  obtain ⟨xs, h1, h2⟩ := c.lst hk
  have hl : xs.length = ds.length + 1 := by rw [← h2.length, List.length_append]; rfl
  obtain ⟨y, h3, h4⟩ := h2.get (i := ds.length) (d := d) (by simp)
  have hxs : xs = xs.dropLast ++ [y] := by
    apply List.ext_getElem?
    intro n
    rw [List.getElem?_append, List.length_dropLast]
    by_cases z : n < xs.length - 1
    · rw [if_pos z, List.getElem?_dropLast, if_pos z]
    · rw [if_neg z]
      by_cases z2 : n = ds.length
      · subst z2
        rw [h3, show ds.length - (xs.length - 1) = 0 by omega]
        rfl
      · rw [List.getElem?_eq_none (by omega), List.getElem?_eq_none (by simp; omega)]
  have h5 : RpAll H ds xs.dropLast := by
    have := h2.take ds.length
    rw [List.take_left] at this
    have e : xs.take ds.length = xs.dropLast := by
      rw [List.dropLast_eq_take, hl, Nat.add_sub_cancel]
    rw [e] at this
    exact this
  refine ⟨.inl ⟨rfl, xs, SqL.of h1⟩, p, xs, y, rfl, rfl, h1, by rw [hl, Nat.add_sub_cancel]; exact h3, ?_⟩
  have c1 := c.upd hk (m' := .l ds) (o := .lst xs.dropLast) (RpAll.mono (c.updPr hk) h5)
  obtain ⟨Hb', e1, c2⟩ := c1.store (Ex.refl _) j (h4.mono (c.updPr hk))
  exact q _ _ _ e1 c2

/-! ### loops -/
theorem s_while {tc : TT} (c : Cu Hb ms cs σ H) (J : Nat → List Sh → Ms → Prop) {m0 : Nat} (h0 : J m0 cs ms)
    (hs : ∀ m Hb' ms' cs' σ' H', Ex Hb Hb' → Cu Hb' ms' cs' σ' H' → ms'.map (·.1) = ms.map (·.1) → J m cs' ms' → ∃ b, EvT tc σ' H' b ∧
      (b = true → ∀ H2 (N : L2.St → Hp → Prop), Cu Hb' ms' cs' σ' H2 → (∀ m2 Hb2 ms2 cs2 σ2 H3, m2 < m → Ex Hb Hb2 → Cu Hb2 ms2 cs2 σ2 H3 → ms2.map (·.1) = ms.map (·.1) → J m2 cs2 ms2 → N σ2 H3) → tu { D with nx := N, ct := N, bk := D.nx } σ' H2) ∧
      (b = false → ∀ H2, Cu Hb' ms' cs' σ' H2 → D.nx σ' H2)) : tWhile tc tu D σ H := by
  refine ⟨fun m σ' H' => ∃ Hb' ms' cs', Ex Hb Hb' ∧ Cu Hb' ms' cs' σ' H' ∧ ms'.map (·.1) = ms.map (·.1) ∧ J m cs' ms', ⟨m0, Hb, ms, cs, Ex.refl _, c, rfl, h0⟩, ?_⟩
  rintro m σ' H' ⟨Hb', ms', cs', e, c', em, j⟩
  obtain ⟨b, ht, h1, h2⟩ := hs m Hb' ms' cs' σ' H' e c' em j
  refine ht H' (Ex.refl _) _ fun H2 e2 => ?_
  cases b with
  | true =>
    show (if true = true then _ else _)
    rw [if_pos rfl]
    refine ⟨fun σ2 H3 => ∃ m2, m2 < m ∧ ∃ Hb2 ms2 cs2, Ex Hb Hb2 ∧ Cu Hb2 ms2 cs2 σ2 H3 ∧ ms2.map (·.1) = ms.map (·.1) ∧ J m2 cs2 ms2, fun σ2 H3 h => h, h1 rfl H2 _ (c'.ext e2) fun m2 Hb2 ms2 cs2 σ2 H3 l a b' d f => ⟨m2, l, Hb2, ms2, cs2, a, b', d, f⟩⟩
  | false =>
    show (if false = true then _ else _)
    rw [if_neg Bool.false_ne_true]
    exact h2 rfl H2 (c'.ext e2)
/-- what a for or a comprehension walks: the data ds; ps: what may change meanwhile -/
def But (ps : List Addr) (H H' : Hp) : Prop := ∀ a o, H a = some o → a ∉ ps → H' a = some o
def EvI (wi : TI) (σ : L2.St) (H : Hp) (ps : List Addr) (ds : List PyData) : Prop := ∀ H1, Ex H H1 → ∀ R : It → Hp → Prop,
  (∀ (J : It) (H2 : Hp) (G : Hp → Prop) (Y : Nat → Hp → V → Hp → Prop), Ex H1 H2 → Walk J ds.length G Y → (∀ H3, But ps H2 H3 → G H3) →
    (∀ i H3 x H4, i < ds.length → But ps H2 H3 → Pr H2 H3 → Y i H3 x H4 → Ex H3 H4 ∧ ∃ d, ds[i]? = some d ∧ Rp H4 d x) → R J H2) → wi σ H1 R
/-- a target takes a datum -/
def Tg (g : TG) (js : List Nat) (d : PyData) (u : List Sh → List Sh) : Prop := ∀ (x : V) (σ : L2.St) (H : Hp) (Q : L2.St → Hp → Prop) (Hb : Hp) (ms : Ms) (cs : List Sh), Cu Hb ms cs σ H → Rp Hb d x →
  (∀ σ', Cu Hb ms (u cs) σ' H → (∀ vs : List Nat, (∀ j ∈ js, j ∈ vs) → L2.wipe σ' vs = L2.wipe σ vs) → Q σ' H) → g x σ H Q
theorem tg_name {j : Nat} {d : PyData} : Tg (gName j) [j] d (fun cs => cs.set j (.hd d)) := fun x σ H Q Hb ms cs c r k => k _ (c.put r) fun vs hv => wipe_set (hv j (List.mem_cons_self ..))
theorem tg_two {i j : Nat} {a b : PyData} : Tg (gTup K 2 (gCons (gName i) (gCons (gName j) gNil))) [i, j] (.tuple [a, b]) (fun cs => (cs.set i (.hd a)).set j (.hd b)) := fun x σ H Q Hb ms cs c r k => by
  obtain ⟨p, xs, rfl, h1, h2⟩ := r
  match xs, h2 with
  | [x, y], h2 =>
    refine ⟨p, [x, y], rfl, .inl ((Ex.pr c.ex).rd h1), rfl, x, [y], rfl, y, [], rfl, rfl, ?_⟩
    exact k _ ((c.put (s := .hd a) h2.1).put (s := .hd b) h2.2.1) fun vs hv => by
      rw [wipe_set (hv j (List.mem_cons_of_mem _ (List.mem_cons_self ..))), wipe_set (hv i (List.mem_cons_self ..))]
  | [], h2 => exact h2.elim
  | [_], h2 => exact h2.2.elim
  | _ :: _ :: _ :: _, h2 => exact h2.2.2.elim
theorem ei_tup {ds : List PyData} {ps : List Addr} (h : EvD te σ H (.tuple ds)) (hp : ∀ H1, Ex H H1 → ∀ p ∈ ps, ∀ o, H1 p = some o → isTupO o = false) : EvI (iTup K te) σ H ps ds := fun H1 e R r =>
  h H1 e _ fun v H2 e2 rv => by
    obtain ⟨a, xs, rfl, h1, h2⟩ := rv
    have pr0 : ∀ {H3}, But ps H2 H3 → Pr H2 H3 := fun {H3} b => prBut b (hp H2 (e.trans e2))
    refine ⟨a, rfl, ⟨xs, .inl h1⟩, r (Itt K a) H2 (fun H3 => SqT K H3 a xs) (YAt xs) e2 (by rw [h2.length]; exact walk_tup) (fun H3 b => .inl ((pr0 b).rd h1)) fun i H3 x H4 hi b pr y => ?_⟩
    obtain ⟨rfl, y2⟩ := y
    obtain ⟨d, hd, rd⟩ := h2.getV y2
    exact ⟨Ex.refl _, d, hd, rd.mono pr⟩
/-- a list that is none of those that change -/
def EvX (te : TE) (σ : L2.St) (H : Hp) (ps : List Addr) (ds : List PyData) : Prop := EvP te σ H fun v H2 => ∃ p, v = .ref p ∧ LsAt H2 p ds ∧ p ∉ ps
theorem ex_0 {ds : List PyData} (h : EvS te σ H (.ls ds)) : EvX te σ H [] ds := h.imp fun v H1 _ r => let ⟨p, a, b⟩ := r; ⟨p, a, b, List.not_mem_nil⟩
theorem ex_f (c : Cu Hb ms cs σ H) {ds : List PyData} (h : EvF te σ H (.ls ds)) : EvX te σ H (ms.map (·.1)) ds := fun H1 e Q q => h H1 e Q fun p H2 hp e2 r => q _ H2 e2 (by
  obtain ⟨p', e3, r2⟩ := r
  have e3 := V.ref.inj e3
  subst e3
  exact ⟨p, rfl, r2, (c.ext e).out hp⟩)
theorem ex_v (c : Cu Hb ms cs σ H) (i : Nat) {ds : List PyData} (h : cs[i]? = some (.ls ds) := by rfl) : EvX (tVar i) σ H (ms.map (·.1)) ds := fun H1 e Q q => by
  obtain ⟨o, h1, h2⟩ := c.sl.get h
  obtain ⟨v, rfl, p, rfl, h3⟩ := slOk.known rfl h2
  refine ⟨_, h1, q _ H1 (Ex.refl _) ⟨p, rfl, h3.mono (c.ex.trans e), fun z => ?_⟩⟩
  obtain ⟨m, hm, rfl⟩ := List.mem_map.mp z
  obtain ⟨xs, h4, _⟩ := h3
  rw [c.nw m hm] at h4
  cases h4
theorem ei_lst {ds : List PyData} {ps : List Addr} (h : EvX te σ H ps ds) : EvI (iList K te) σ H ps ds := fun H1 e R r =>
  h H1 e _ fun v H2 e2 rv => by
    obtain ⟨a, rfl, ⟨xs, h1, h2⟩, hn⟩ := rv
    refine ⟨a, rfl, ⟨xs, SqL.of h1⟩, r (Itl K a) H2 (fun H3 => SqL K H3 a xs) (YAt xs) e2 (by rw [h2.length]; exact walk_list) (fun H3 b => SqL.of (b a _ h1 hn)) fun i H3 x H4 hi b pr y => ?_⟩
    obtain ⟨rfl, y2⟩ := y
    obtain ⟨d, hd, rd⟩ := h2.getV y2
    exact ⟨Ex.refl _, d, hd, rd.mono pr⟩
def signs (z : Str) : List PyData := z.cps.toList.map fun c => .str ⟨#[c]⟩
theorem ei_str {z : Str} {ps : List Addr} (h : EvD te σ H (.str z)) : EvI (iStr te) σ H ps (signs z) := fun H1 e R r =>
  h H1 e _ fun v H2 e2 rv => by
    have rv : v = .str z := rv
    subst rv
    refine ⟨z, rfl, r (Its z) H2 (fun _ => True) _ e2 (by unfold signs; rw [List.length_map, Array.length_toList]; exact walk_str) (fun _ _ => trivial) fun i H3 x H4 hi b pr y => ?_⟩
    obtain ⟨rfl, c, h1, rfl⟩ := y
    refine ⟨Ex.refl _, .str ⟨#[c]⟩, ?_, rfl⟩
    unfold signs
    rw [List.getElem?_map, Array.getElem?_toList, h1]
    rfl
def intsD (lo : Int) (n : Nat) : List PyData := (List.range n).map fun i => .int (lo + (i : Nat))
theorem intsD_length (lo : Int) (n : Nat) : (intsD lo n).length = n := by unfold intsD; rw [List.length_map, List.length_range]
theorem intsD_get {lo : Int} {n i : Nat} (h : i < n) : (intsD lo n)[i]? = some (.int (lo + (i : Nat))) := by
  unfold intsD
  rw [List.getElem?_map, List.getElem?_range h]
  rfl
theorem ei_rng1 {ta : TA} {n : Int} {ps : List Addr} (h : EvAs ta σ H [.hd (.int n)]) (h1 : -100000 ≤ n) (h2 : n ≤ 100000) : EvI (iRng1 ta) σ H ps (intsD 0 n.toNat) := fun H1 e R r =>
  h H1 e _ fun vs H2 e2 rv => by
    obtain ⟨v, rfl, r1⟩ := sh1 rv
    have r1 : v = .int n := r1
    subst r1
    refine ⟨n, rfl, by omega, by omega, r (Itr 0 n.toNat) H2 (fun _ => True) _ e2 (by rw [intsD_length]; exact walk_range) (fun _ _ => trivial) fun i H3 x H4 hi b pr y => ?_⟩
    obtain ⟨rfl, rfl⟩ := y
    rw [intsD_length] at hi
    exact ⟨Ex.refl _, _, intsD_get hi, rfl⟩
theorem ei_rng2 {ta : TA} {lo hi : Int} {ps : List Addr} (h : EvAs ta σ H [.hd (.int lo), .hd (.int hi)]) (h1 : -100000 ≤ lo ∧ lo ≤ 100000) (h2 : -100000 ≤ hi ∧ hi ≤ 100000) : EvI (iRng2 ta) σ H ps (intsD lo (hi - lo).toNat) := fun H1 e R r =>
  h H1 e _ fun vs H2 e2 rv => by
    obtain ⟨v, u, rfl, r1, r2⟩ := sh2 rv
    have r1 : v = .int lo := r1
    have r2 : u = .int hi := r2
    subst r1 r2
    refine ⟨lo, hi, rfl, ⟨by omega, by omega, by omega, by omega⟩, r (Itr lo (hi - lo).toNat) H2 (fun _ => True) _ e2 (by rw [intsD_length]; exact walk_range) (fun _ _ => trivial) fun i H3 x H4 hi b pr y => ?_⟩
    obtain ⟨rfl, rfl⟩ := y
    rw [intsD_length] at hi
    exact ⟨Ex.refl _, _, intsD_get hi, rfl⟩
theorem s_for (c : Cu Hb ms cs σ H) {wi : TI} {g : TG} {ds : List PyData} {js : List Nat} {u : PyData → List Sh → List Sh} (src : EvI wi σ H (ms.map (·.1)) ds) (tg : ∀ d ∈ ds, Tg g js d (u d)) (J : Nat → List Sh → Ms → Prop) (h0 : J 0 cs ms)
    (hs : ∀ Hs, Ex Hb Hs → ∀ i d Hb' ms' cs' σ' H' (N : L2.St → Hp → Prop), ds[i]? = some d → Ex Hs Hb' → Cu Hb' ms' (u d cs') σ' H' → ms'.map (·.1) = ms.map (·.1) → J i cs' ms' →
      (∀ Hb2 ms2 cs2 σ2 H3, Ex Hs Hb2 → Cu Hb2 ms2 cs2 σ2 H3 → ms2.map (·.1) = ms.map (·.1) → J (i + 1) cs2 ms2 → N σ2 H3) → tu { D with nx := N, ct := N, bk := D.nx } σ' H')
    (hd : ∀ Hb' ms' cs' σ' H', Ex Hb Hb' → Cu Hb' ms' cs' σ' H' → ms'.map (·.1) = ms.map (·.1) → J ds.length cs' ms' → D.nx σ' H') : tFor wi g tu D σ H := by
  refine src H (Ex.refl _) _ fun It H2 G Y e2 w hG hY => ?_
  have c2 := c.ext e2
  have cb := c.rebase e2
  have eb := c.exHide e2
  have b2 : ∀ {H3 Hb3 : Hp}, Ex (hide (ms.map (·.1)) H2) Hb3 → Ex Hb3 H3 → But (ms.map (·.1)) H2 H3 := fun {H3 Hb3} e3 e4 a o h1 h2 => e4 _ _ (e3 _ _ (hideAt h1 h2))
  have nt : ∀ p ∈ ms.map (·.1), ∀ o, H2 p = some o → isTupO o = false := fun p hp o e => by
    obtain ⟨m, hm, rfl⟩ := List.mem_map.mp hp
    exact c2.notup hm o e
  refine for_it w (fun i σ' H' => ∃ Hb' ms' cs', Ex (hide (ms.map (·.1)) H2) Hb' ∧ Cu Hb' ms' cs' σ' H' ∧ ms'.map (·.1) = ms.map (·.1) ∧ J i cs' ms') ⟨_, ms, cs, Ex.refl _, cb, rfl, h0⟩ ?_ ?_ ?_
  · rintro i σ' H' _ ⟨Hb', ms', cs', e3, c3, em, j⟩
    exact hG H' (b2 e3 c3.ex)
  · rintro i x σ' H3 H4 hi ⟨Hb', ms', cs', e3, c3, em, j⟩ y
    obtain ⟨e4, d, hd', rd⟩ := hY i H3 x H4 hi (b2 e3 c3.ex) (prBut (b2 e3 c3.ex) nt) y
    have c4 := c3.rebase e4
    have e5 := c3.exHide e4
    refine tg d (List.mem_of_getElem? hd') x σ' H4 _ _ ms' cs' c4 (rd.mono (c3.ext e4).prHide) fun σ2 c5 _ => ?_
    exact hs _ eb i d _ ms' cs' σ2 H4 _ hd' (e3.trans e5) c5 em j fun Hb2 ms2 cs2 σ3 H5 e6 c6 em2 j2 => ⟨Hb2, ms2, cs2, e6, c6, em2, j2⟩
  · rintro σ' H' ⟨Hb', ms', cs', e3, c3, em, j⟩
    exact hd Hb' ms' cs' σ' H' (eb.trans e3) c3 em j
end
end FF
/-! comprehensions; calls; a def under its name -/
namespace FF
open PySem PySem.Spec PyProof.Rows L2
open Evl (Ex EvT)
section
variable {Hb H H1 : Hp} {ms : Ms} {cs : List Sh} {σ : L2.St} {te ta tb : TE} {K : PySem.W.Frag} {D : Ends} {t : TT} {tu tw : TS}
/-! ### comprehensions: pure ones -/
theorem ef_lc (c : Cu Hb ms cs σ H) {wi : TI} {g : TG} {tt : TT} {vs : List Nat} {ds : List PyData} {js : List Nat} {u : PyData → List Sh → List Sh} (src : EvI wi σ H [] ds) (tg : ∀ d ∈ ds, Tg g js d (u d)) (hj : ∀ j ∈ js, j ∈ vs) (p : PyData → Bool) (f : PyData → PyData)
    (ht : ∀ d ∈ ds, ∀ σ' H', Cu H' [] (u d (wipeC cs vs)) σ' H' → EvT tt σ' H' (p d)) (he : ∀ d ∈ ds, p d = true → ∀ σ' H', Cu H' [] (u d (wipeC cs vs)) σ' H' → EvD te σ' H' (f d)) (hl : ds.length ≤ 100000) :
    EvF (tLc wi g tt te vs) σ H (.ls ((ds.filter p).map f)) := fun H1 e Q q => by
  refine src H1 e _ fun It H2 G Y e2 w hG hY Dd hD => ?_
  have cw : ∀ {H3 : Hp}, Ex H2 H3 → Cu H3 [] (wipeC cs vs) (L2.wipe σ vs) H3 := fun {H3} e3 => ⟨Ex.refl _, (nofun), (nofun), List.nodup_nil, (c.sl.mono (((c.ex.trans e).trans e2).trans e3)).wipe vs⟩
  refine lc_it w (fun i H3 => (∀ a o, H2 a = some o → H3 a = some o) ∧ LsAt H3 Dd (((ds.take i).filter p).map f)) ⟨fun a o h => by rw [upd_ne (ne_of_none h hD)]; exact h, [], upd_same, trivial⟩ (fun i H3 _ z => hG H3 fun a o h _ => z.1 a o h) ?_ ?_
  · rintro i x H3 H4 hi ⟨e3, xs, h3, r3⟩ y
    obtain ⟨e4, d, hd, rd⟩ := hY i H3 x H4 hi (fun a o h _ => e3 a o h) (fun a o _ h => e3 a o h) y
    have hm : d ∈ ds := List.mem_of_getElem? hd
    have e34 : Ex H2 H4 := fun a o h => e4 _ _ (e3 a o h)
    refine tg d hm x (L2.wipe σ vs) H4 _ H4 [] _ (cw e34) rd fun σ2 c2 hw => ⟨(hw vs hj).trans wipe_wipe, ?_⟩
    refine ht d hm σ2 H4 c2 H4 (Ex.refl _) _ fun H5 e5 => ?_
    have ht2 : (ds.take (i + 1)).filter p = (ds.take i).filter p ++ (if p d = true then [d] else []) := by
      rw [List.take_add_one, hd, List.filter_append]
      congr 1
      show List.filter p [d] = _
      rw [List.filter_cons]
      rfl
    cases hp : p d with
    | false =>
      rw [if_neg Bool.false_ne_true]
      refine ⟨fun a o h => e5 _ _ (e34 a o h), xs, e5 _ _ (e4 _ _ h3), ?_⟩
      rw [ht2, hp, if_neg Bool.false_ne_true, List.append_nil]
      exact (r3.mono (Ex.pr e4)).mono (Ex.pr e5)
    | true =>
      rw [if_pos rfl]
      refine he d hm hp σ2 H4 c2 H5 e5 _ fun v H6 e6 rv => ?_
      have hD6 : H6 Dd = some (.lst xs) := e6 _ _ (e5 _ _ (e4 _ _ h3))
      have r6 : RpAll H6 (((ds.take i).filter p).map f) xs := ((r3.mono (Ex.pr e4)).mono (Ex.pr e5)).mono (Ex.pr e6)
      have hz : xs.length ≤ ds.length := by
        rw [← r3.length, List.length_map]
        exact Nat.le_trans (List.length_filter_le _ _) (by rw [List.length_take]; exact Nat.min_le_right _ _)
      have pr : Pr H6 (L2.upd H6 Dd (.lst (xs ++ [v]))) := fun a ys t h => by
        have : a ≠ Dd := fun z => by
          rw [z, hD6] at h
          cases h
          cases t
        rw [upd_ne this]
        exact h
      refine ⟨xs, hD6, Nat.lt_of_le_of_lt (Nat.le_trans hz hl) (by decide), fun a o h => ?_, xs ++ [v], upd_same, ?_⟩
      · rw [upd_ne (ne_of_none h hD)]
        exact e6 _ _ (e5 _ _ (e34 a o h))
      · rw [ht2, hp, if_pos rfl, List.map_append]
        exact (RpAll.append r6 (RpAll.one rv)).mono pr
  · rintro H3 ⟨e3, r3⟩
    rw [List.take_length] at r3
    exact q Dd H3 (Evl.fresh_back e2 hD) (fun a o h => e3 a o (e2 _ _ h)) ⟨Dd, rfl, r3⟩
theorem et_yes : EvT tYes σ H true := fun H1 _ Q q => q H1 (Ex.refl _)
/-- without an if -/
theorem ef_map (c : Cu Hb ms cs σ H) {wi : TI} {g : TG} {vs : List Nat} {ds : List PyData} {js : List Nat} {u : PyData → List Sh → List Sh} (src : EvI wi σ H [] ds) (tg : ∀ d ∈ ds, Tg g js d (u d)) (hj : ∀ j ∈ js, j ∈ vs) (f : PyData → PyData)
    (he : ∀ d ∈ ds, ∀ σ' H', Cu H' [] (u d (wipeC cs vs)) σ' H' → EvD te σ' H' (f d)) (hl : ds.length ≤ 100000) : EvF (tLc wi g tYes te vs) σ H (.ls (ds.map f)) := by
  have h := ef_lc (te := te) c src tg hj (fun _ => true) f (fun _ _ _ _ _ => et_yes) (fun d hd _ => he d hd) hl
  rw [List.filter_eq_self.mpr (fun _ _ => rfl)] at h
  exact h
theorem yes_of {H : Hp} {σ : L2.St} {Q : Bool → Hp → Prop} (h : Q true H) : tYes σ H Q := h
/-- two fors, no ifs: es d the data that d's own source gives -/
theorem ef_lc2 (c : Cu Hb ms cs σ H) {wi wi1 : TI} {g g1 : TG} {vs vs1 : List Nat} {ds : List PyData} {js js1 : List Nat} {u : PyData → List Sh → List Sh} {u1 : PyData → List Sh → List Sh} (src : EvI wi σ H [] ds) (tg : ∀ d ∈ ds, Tg g js d (u d)) (hj : ∀ j ∈ js, j ∈ vs)
    (es : PyData → List PyData) (tg1 : ∀ d ∈ ds, ∀ e ∈ es d, Tg g1 js1 e (u1 e)) (hj1 : ∀ j ∈ js1, j ∈ vs1) (f : PyData → PyData → PyData)
    (src1 : ∀ d ∈ ds, ∀ Hb' p acc σ' H', Cu Hb' [(p, .l acc)] (u d (wipeC cs vs)) σ' H' → EvI wi1 σ' H' [p] (es d))
    (he : ∀ d ∈ ds, ∀ e ∈ es d, ∀ Hb' p acc σ' H', Cu Hb' [(p, .l acc)] (u1 e (wipeC (u d (wipeC cs vs)) vs1)) σ' H' → EvD te σ' H' (f d e)) (hl : ∀ i, ((ds.take i).flatMap es).length ≤ 50000) (hl2 : ∀ d ∈ ds, (es d).length ≤ 50000) :
    EvF (tLc2 wi g tYes wi1 g1 tYes te vs vs1) σ H (.ls (ds.flatMap fun d => (es d).map (f d))) := fun H1 e0 Q q => by
  refine src H1 e0 _ fun It H2 G Y e2 w hG hY Dd hD => ?_
  let acc : Nat → List PyData := fun i => (ds.take i).flatMap fun d => (es d).map (f d)
  have hacc : ∀ i, (acc i).length ≤ 50000 := fun i => by
    have : (acc i).length = ((ds.take i).flatMap es).length := by
      show ((ds.take i).flatMap fun d => (es d).map (f d)).length = _
      rw [List.length_flatMap, List.length_flatMap]
      congr 1
      apply List.map_congr_left
      intro d _
      rw [List.length_map]
    rw [this]
    exact hl i
  have slw : Sl H2 (wipeC cs vs) (L2.wipe σ vs) := (c.sl.mono ((c.ex.trans e0).trans e2)).wipe vs
  let Pv : Nat → Hp → Prop := fun i H3 => Ex H2 H3 ∧ LsAt H3 Dd (acc i)
  refine ⟨fun i m H3 => m = ds.length - i ∧ i ≤ ds.length ∧ Pv i H3, ⟨ds.length, by simp, Nat.zero_le _, fun a o h => by rw [upd_ne (ne_of_none h hD)]; exact h, [], upd_same, trivial⟩, ?_⟩
  rintro i m H3 ⟨rfl, hi, pv⟩
  have gg : G H3 := hG H3 fun a o h _ => pv.1 a o h
  by_cases hlt : i < ds.length
  · refine .inr ⟨w.goes i H3 hlt gg, Pv (i + 1), fun H' p' => ⟨ds.length - (i + 1), by omega, rfl, hlt, p'⟩, fun x H4 y0 => ?_⟩
    obtain ⟨e3, xs, h3, r3⟩ := pv
    have y := w.yields i H3 x H4 hlt gg y0
    obtain ⟨e4, d, hd, rd⟩ := hY i H3 x H4 hlt (fun a o h _ => e3 a o h) (fun a o _ h => e3 a o h) y
    have hm : d ∈ ds := List.mem_of_getElem? hd
    have c3 : Cu H2 [(Dd, .l (acc i))] (wipeC cs vs) (L2.wipe σ vs) H3 := ⟨e3, fun m hm => by rw [List.mem_singleton.mp hm]; exact hD, fun m hm => by rw [List.mem_singleton.mp hm]; exact ⟨_, h3, r3⟩, by simp, slw⟩
    have c4 := c3.rebase e4
    have e24 := c3.exHide e4
    refine tg d hm x (L2.wipe σ vs) H4 _ _ _ _ c4 (rd.mono (c3.ext e4).prHide) fun σ2 c5 hw => ⟨(hw vs hj).trans wipe_wipe, ?_⟩
    refine yes_of ?_
    try dsimp only
    rw [if_pos rfl]
    refine src1 d hm _ _ _ σ2 H4 c5 H4 (Ex.refl _) _ fun It1 H5 G1 Y1 e5 w1 hG1 hY1 => ?_
    have c6 := c5.rebase e5
    have e26 := e24.trans (c5.exHide e5)
    have hout : ∀ {H6 : Hp}, Ex (hide [Dd] H5) H6 → But [Dd] H5 H6 := fun {H6} e a o h z => e a o (hideAt h z)
    have nt5 : ∀ p ∈ [Dd], ∀ o, H5 p = some o → isTupO o = false := fun p hp o e => by
      rw [List.mem_singleton.mp hp] at e
      exact (c5.ext e5).notup (List.mem_singleton.mpr rfl) o e
    refine ⟨fun j k H6 => k = (es d).length - j ∧ j ≤ (es d).length ∧ Ex (hide [Dd] H5) H6 ∧ LsAt H6 Dd (acc i ++ ((es d).take j).map (f d)), ⟨(es d).length, by simp, Nat.zero_le _, hide_ex, by
      have := c6.lst (k := 0) rfl
      simpa using this⟩, ?_⟩
    rintro j k H6 ⟨rfl, hj', e6, l6⟩
    have gg1 : G1 H6 := hG1 H6 (hout e6)
    by_cases hlt1 : j < (es d).length
    · refine .inr ⟨w1.goes j H6 hlt1 gg1, fun H' => j + 1 ≤ (es d).length ∧ Ex (hide [Dd] H5) H' ∧ LsAt H' Dd (acc i ++ ((es d).take (j + 1)).map (f d)), fun H' p' => ⟨(es d).length - (j + 1), by omega, rfl, p'⟩, fun x1 H7 y1 => ?_⟩
      have y1' := w1.yields j H6 x1 H7 hlt1 gg1 y1
      obtain ⟨e7, d1, hd1, rd1⟩ := hY1 j H6 x1 H7 hlt1 (hout e6) (prBut (hout e6) nt5) y1'
      have hm1 : d1 ∈ es d := List.mem_of_getElem? hd1
      obtain ⟨xs6, h6, r6⟩ := l6
      have c7 : Cu (hide [Dd] H5) [(Dd, .l (acc i ++ ((es d).take j).map (f d)))] (wipeC (u d (wipeC cs vs)) vs1) (L2.wipe σ2 vs1) H6 :=
        ⟨e6, fun m hm => by rw [List.mem_singleton.mp hm]; exact hide_in (List.mem_singleton.mpr rfl), fun m hm => by rw [List.mem_singleton.mp hm]; exact ⟨_, h6, r6⟩, by simp, c6.sl.wipe vs1⟩
      refine tg1 d hm d1 hm1 x1 (L2.wipe σ2 vs1) H7 _ _ _ _ (c7.rebase e7) (rd1.mono (c7.ext e7).prHide) fun σ3 c8 hw1 => ⟨(hw1 vs1 hj1).trans wipe_wipe, ?_⟩
      refine yes_of ?_
      try dsimp only
      rw [if_pos rfl]
      refine he d hm d1 hm1 _ _ _ σ3 H7 c8 H7 (Ex.refl _) _ fun v H8 e8 rv => ?_
      have e78 : Ex H6 H8 := e7.trans e8
      refine ⟨xs6, e78 _ _ h6, ?_, hlt1, fun a o h => ?_, xs6 ++ [v], upd_same, ?_⟩
      · have h1 : xs6.length ≤ 50000 + 50000 := by
          rw [← r6.length, List.length_append, List.length_map, List.length_take]
          have := hacc i
          have := hl2 d hm
          omega
        exact Nat.lt_of_le_of_lt h1 (by decide)
      · have : a ≠ Dd := fun z => by
          rw [z, hide_in (List.mem_singleton.mpr rfl)] at h
          cases h
        rw [upd_ne this]
        exact e78 _ _ (e6 _ _ h)
      · have pr : Pr H8 (L2.upd H8 Dd (.lst (xs6 ++ [v]))) := fun a ys t h => by
          have : a ≠ Dd := fun z => by
            rw [z, e78 _ _ h6] at h
            cases h
            cases t
          rw [upd_ne this]
          exact h
        rw [List.take_add_one, hd1, List.map_append, ← List.append_assoc]
        exact (RpAll.append (r6.mono (Ex.pr e78)) (RpAll.one rv)).mono pr
    · have ej : j = (es d).length := by omega
      subst ej
      refine .inl ⟨w1.stops H6 gg1, e26.trans e6, ?_⟩
      rw [List.take_length] at l6
      have : acc (i + 1) = acc i ++ (es d).map (f d) := by
        show (ds.take (i + 1)).flatMap _ = (ds.take i).flatMap _ ++ _
        rw [List.take_add_one, hd, List.flatMap_append]
        simp
      rw [this]
      exact l6
  · have ei : i = ds.length := by omega
    subst ei
    obtain ⟨e3, r3⟩ := pv
    have : acc ds.length = ds.flatMap fun d => (es d).map (f d) := by
      show (ds.take ds.length).flatMap _ = _
      rw [List.take_length]
    rw [this] at r3
    exact .inl ⟨w.stops H3 gg, q Dd H3 (Evl.fresh_back e2 hD) (fun a o h => e3 a o (e2 _ _ h)) ⟨Dd, rfl, r3⟩⟩
/-! ### calls -/
def spD (dom : List Sh → PyData → Prop) : Sp := fun vs H Q _ => ∃ ss d, ShAll H ss vs ∧ dom ss d ∧ ∀ v H', Ex H H' → Rp H' d v → Q v H'
def spF (dom : List Sh → Sh → Prop) : Sp := fun vs H Q _ => ∃ ss s, ShAll H ss vs ∧ dom ss s ∧ ∀ p H', H p = none → Ex H H' → s.ok H' (.ref p) → Q (.ref p) H'
theorem ShAll.append {H : Hp} : ∀ {ss ts : List Sh} {xs ys : List V}, ShAll H ss xs → ShAll H ts ys → ShAll H (ss ++ ts) (xs ++ ys)
  | [], _, [], _, _, h => h
  | _ :: _, _, _ :: _, _, r, h => ⟨r.1, ShAll.append r.2 h⟩
  | [], _, _ :: _, _, h, _ => h.elim
  | _ :: _, _, [], _, h, _ => h.elim
theorem ShAll.length {H : Hp} : ∀ {ds : List Sh} {xs : List V}, ShAll H ds xs → ds.length = xs.length
  | [], [], _ => rfl
  | _ :: _, _ :: _, h => congrArg Nat.succ (ShAll.length h.2)
  | [], _ :: _, h => h.elim
  | _ :: _, [], h => h.elim
theorem ev_call {dom : List Sh → PyData → Prop} {dvs : List V} {E : XK} {ta : TA} {ss es : List Sh} {d : PyData} (h : EvAs ta σ H ss) (hd : dom (ss ++ es) d) (he : ∀ H, ShAll H es dvs) : EvD (tCall (spD dom) dvs E ta) σ H d := fun H1 e Q q =>
  h H1 e _ fun vs H2 e2 r => ⟨ss ++ es, d, r.append (he H2), hd, fun v H3 e3 rv => q v H3 (e2.trans e3) rv⟩
theorem ev_call0 {dom : List Sh → PyData → Prop} {E : XK} {ta : TA} {ss : List Sh} {d : PyData} (h : EvAs ta σ H ss) (hd : dom ss d) : EvD (tCall (spD dom) [] E ta) σ H d := ev_call (es := []) h (by rw [List.append_nil]; exact hd) fun _ => trivial
theorem ef_call0 {dom : List Sh → Sh → Prop} {E : XK} {ta : TA} {ss : List Sh} {s : Sh} (h : EvAs ta σ H ss) (hd : dom ss s) : EvF (tCall (spF dom) [] E ta) σ H s := fun H1 e Q q =>
  h H1 e _ fun vs H2 e2 r => ⟨ss, s, by rw [List.append_nil]; exact r, hd, fun p H3 hp e3 rv => q p H3 (Evl.fresh_back e2 hp) (e2.trans e3) rv⟩
end
theorem slOk.un {H : Hp} {o : Option V} : slOk H Sh.un o := trivial
theorem Sl.nones {H : Hp} : ∀ n : Nat, Sl H (List.replicate n Sh.un) (List.replicate n none)
  | 0 => trivial
  | n + 1 => ⟨trivial, Sl.nones n⟩
theorem Sl.of {H : Hp} {m : Nat} : ∀ {ss : List Sh} {vs : List V}, ShAll H ss vs → Sl H (ss ++ List.replicate m Sh.un) (vs.map some ++ List.replicate m none)
  | [], [], _ => Sl.nones m
  | _ :: _, _ :: _, h => ⟨slOk.of h.1, Sl.of h.2⟩
  | [], _ :: _, h => h.elim
  | _ :: _, [], h => h.elim
/-- the state at a def's entry -/
theorem Cu.entry {H : Hp} {ss : List Sh} {vs : List V} {N : List Str} (h : ShAll H ss vs) : Cu H [] (ss ++ List.replicate (N.length - ss.length) Sh.un) (L2.start N vs) H := by
  refine ⟨Ex.refl _, (nofun), (nofun), List.nodup_nil, ?_⟩
  unfold L2.start
  rw [← h.length]
  exact Sl.of h
/-! ### a def under its name -/
structure Cal (P : Program) (w : World) (K : PySem.W.Frag) (mg : Str → Option Value) (base : Heap) (k : Nat) (x : Str) (sp : Sp) (dvs : List V) : Prop where
  ex : ∃ (f : Addr) (fd : FuncData) (ps : List Str) (ds : List Value), FnOk P w K mg base CX0 k f fd ps sp ∧ mg x = some (.ref f) ∧ PySem.W.keepIn K (.ref f) = true ∧ Binds K fd ps ds ∧ Vals dvs ds
section
variable {X : Cx} {k j : Nat} {x : Str} {sp : Sp} {dvs : List V} {p pos : Pos} {e : Expr} {es : List Expr} {t : TA}
theorem pe_c (c : Cal X.prog X.w X.K X.mg X.base k x sp dvs) (hr : Room j X.A) (hk : k ≤ j) (hg : Gl X x) (ha : PA X (e :: es) t)
    (hdb : (x == ("__debug__" : Str)) = false := by decide) (he : starEach (e :: es) X.env = (false, eval e X.env) :: starEach es X.env := by rfl)
    (hpl : (backTo pos (starEach es X.env)).any (·.1) = false := by rfl) : PE X (.Call (.Name x p) (e :: es) [] pos) (tCall sp dvs E0 t) := by
  obtain ⟨f, fd, ps, ds, F, hm, hkp, hb, hd⟩ := c.ex
  exact pe_call F (hr.mono hk) hg hm hkp hb hd pass0 ha hdb he hpl
end
section
variable {P : Program} {w : World} {K : PySem.W.Frag} {mg : Str → Option Value} {base : Heap}
theorem cal_of (T : Txt K mg) (i : Nat) {d : He.DefD} (hd : fn[i]? = some d) {N ps : List Str} {k : Nat} {sp : Sp} (S : FnScope N ps d.scope) (hdf : d.dvs K = []) (hkw : d.kws K = [])
    (b : ∀ (kV doc pm : Value) (an : Option Addr) (cdv ct : Value) (us : List Value), us.length = ps.length → bindArgs (PySem.W.fnOf d.name d.qual d.params d.body d.scope .none kV doc pm an cdv ct) ⟨us, []⟩ = pure (ps.zip us)) (len : ∀ vs H Q E, sp vs H Q E → vs.length = ps.length)
    (body : ∀ (f : Addr) (cdv : Value) (A : Around) (outer : List Env) (s : Shared) (H : Hp) (vs : List V) (Q : VK) (E : XK), Room k (A.deeper (envOfC d.qual d.scope s.heap.objs.size f cdv)) → sp vs H Q E →
      ∃ t, PSs (cxOf CX0 P w K mg base N d.qual d.scope f cdv A outer s H E).nox d.body t ∧ t { nx := fun _ H' => Q .non H', rt := Q } (start N vs) H) : Cal P w K mg base (k + 1) d.at_.1 sp [] := by
  obtain ⟨f, fd, F, hm⟩ := T.d i d hd
  rw [hdf] at F
  rw [hkw] at F
  exact ⟨f, fd, ps, [], F.ok S len fun cdv A outer s H vs Q E hr hsp => let ⟨t, h1, h2⟩ := body f cdv A outer s H vs Q E hr hsp; ⟨t, h1.nox, h2⟩, hm, F.kp, F.bindsN b, .nil⟩
theorem len_D {dom : List Sh → PyData → Prop} {n : Nat} (h : ∀ ss d, dom ss d → ss.length = n) : ∀ vs H Q E, spD dom vs H Q E → vs.length = n := fun vs H Q E ⟨ss, d, r, hd, _⟩ => by
  rw [← r.length]
  exact h ss d hd
theorem len_F {dom : List Sh → Sh → Prop} {n : Nat} (h : ∀ ss d, dom ss d → ss.length = n) : ∀ vs H Q E, spF dom vs H Q E → vs.length = n := fun vs H Q E ⟨ss, d, r, hd, _⟩ => by
  rw [← r.length]
  exact h ss d hd
end
end FF
/-! the data of the program -/
namespace FF
open PySem PySem.Spec PyProof.Rows L2
open Evl (Ex EvT)
abbrev Thing := List Nat
def tS (t : Thing) : Str := ⟨t.toArray⟩
abbrev eT (t : Thing) : PyData := .str (tS t)
abbrev eC (c : Nat) : PyData := .str ⟨#[c]⟩
theorem eC_eT (c : Nat) : eC c = eT [c] := rfl
/-- letters: a letter and its directly lesser ones -/
abbrev Tab := List (Nat × List Nat)
def eTab (L : Tab) : PyData := .list (L.map fun p => .tuple [eC p.1, .tuple (p.2.map eC)])
inductive Rule where
  | drop (n : Nat) (l : Bool)
  | half (l : Bool)
  | empty
  | lower (l : Bool)
  | put (c : Nat) (w : Thing) (l : Bool)
  deriving DecidableEq
def eSide (l : Bool) : PyData := .str (if l then "left" else "right")
def eRule : Rule → PyData
  | .drop n l => .tuple [.str "drop", .int n, eSide l]
  | .half l => .tuple [.str "half", eSide l]
  | .empty => .tuple [.str "empty"]
  | .lower l => .tuple [.str "lower", eSide l]
  | .put c w l => .tuple [.str "put", eC c, eT w, eSide l]
structure Book where
  tab : Tab
  rules : List Rule
def eBook (B : Book) : PyData := .tuple [eTab B.tab, .tuple (B.rules.map eRule)]
def dTab (L : Tab) : Sh := .dc (L.map fun p => ((⟨#[p.1]⟩ : Str), PyData.tuple (p.2.map eC)))
/-- the directly lesser letters -/
def look (L : Tab) (c : Nat) : List Nat := match L.find? (fun p => p.1 == c) with
  | some p => p.2
  | none => []
def low (c : Nat) : Prop := 97 ≤ c ∧ c ≤ 122
theorem tS_list (t : Thing) : (tS t).cps.toList = t := by unfold tS; simp
theorem tS_len (t : Thing) : (tS t).length = t.length := by unfold tS Str.length; simp
theorem signs_tS (t : Thing) : signs (tS t) = t.map eC := by unfold signs; rw [tS_list]
theorem tS_inj {a b : Thing} (h : tS a = tS b) : a = b := by
  rw [← tS_list a, ← tS_list b, h]
theorem tS_cat (a b : Thing) : tS a ++ tS b = tS (a ++ b) := by
  show (⟨a.toArray ++ b.toArray⟩ : Str) = ⟨(a ++ b).toArray⟩
  rw [List.append_toArray]
theorem tS_dec (a b : Thing) : decide (tS a = tS b) = decide (a = b) := by
  by_cases h : a = b
  · subst h
    rw [decide_eq_true rfl, decide_eq_true rfl]
  · rw [decide_eq_false h, decide_eq_false fun e => h (tS_inj e)]
theorem lowS : ("abcdefghijklmnopqrstuvwxyz" : Str).cps.toList = (List.range 26).map (· + 97) := by decide +kernel
theorem low_in {c : Nat} (h : low c) : c ∈ ("abcdefghijklmnopqrstuvwxyz" : Str).cps.toList := by
  rw [lowS]
  exact List.mem_map.mpr ⟨c - 97, List.mem_range.mpr (by have := h.2; have := h.1; omega), by have := h.1; omega⟩
end FF
/-! zip of two tuples; defs with a default, with keyword-only parameters -/
namespace FF
open PySem PySem.Spec PyProof.Rows L2
open Evl (Ex EvT)
section
variable {Hb H H1 : Hp} {ms : Ms} {cs : List Sh} {σ : L2.St} {te ta tb : TE} {K : PySem.W.Frag}
theorem walk_zipT {a b : Addr} {xs ys : List V} {n : Nat} (hn : n = min xs.length ys.length) : Walk (RZ.ItzT K a b) n (fun H => SqT K H a xs ∧ SqT K H b ys) (YPair (fun i => xs[i]?) (fun i => ys[i]?)) := by
  subst hn
  refine ⟨fun i _ hi q => ?_, fun _ q => ⟨xs, ys, q.1, q.2, by omega⟩, fun i H v H' _ q y => ?_⟩
  · have h1 : i < xs.length := by omega
    have h2 : i < ys.length := by omega
    exact ⟨xs, ys, xs[i], ys[i], q.1, q.2, by simp [h1], by simp [h2]⟩
  · obtain ⟨T, x, z, h1, h2, h3, h4, h5⟩ := y
    exact ⟨T, x, z, h1, h2, h3, h4 xs q.1, h5 ys q.2⟩
def pairUp (as bs : List PyData) : List PyData := List.zipWith (fun a b => .tuple [a, b]) as bs
theorem ei_zipT {ta : TA} {as bs : List PyData} (h : EvAs ta σ H [.hd (.tuple as), .hd (.tuple bs)]) : EvI (RZ.iZipA K ta) σ H [] (pairUp as bs) := fun H1 e R r =>
  h H1 e _ fun vs H2 e2 rv => by
    obtain ⟨v, u, rfl, ⟨p, xs, rfl, h1, r1⟩, ⟨p2, ys, rfl, h2, r2⟩⟩ := sh2 rv
    refine ⟨p, p2, xs, ys, rfl, .inr ⟨.inl h1, .inl h2, ?_⟩⟩
    refine r (RZ.ItzT K p p2) H2 (fun H3 => SqT K H3 p xs ∧ SqT K H3 p2 ys) (YPair (fun i => xs[i]?) (fun i => ys[i]?)) e2 ?_ (fun H3 b => ⟨.inl ((Ex.pr (fun a o h => b a o h List.not_mem_nil)).rd h1), .inl ((Ex.pr (fun a o h => b a o h List.not_mem_nil)).rd h2)⟩) fun i H3 x H4 hi b pr y => ?_
    · refine walk_zipT ?_
      unfold pairUp
      rw [List.length_zipWith, r1.length, r2.length]
    · obtain ⟨T, x1, y1, rfl, hT, rfl, g1, g2⟩ := y
      obtain ⟨d1, hd1, rd1⟩ := r1.getV g1
      obtain ⟨d2, hd2, rd2⟩ := r2.getV g2
      have en : Ex H3 (L2.upd H3 T (.tup [x1, y1])) := Evl.Ex.new hT
      refine ⟨en, .tuple [d1, d2], ?_, T, [x1, y1], rfl, .inl upd_same, (rd1.mono pr).mono (Ex.pr en), (rd2.mono pr).mono (Ex.pr en), trivial⟩
      unfold pairUp
      rw [List.getElem?_zipWith, hd1, hd2]
/-- t[1:] of a tuple that isn't empty -/
theorem ev_tail {tl th : TO} {d : PyData} {ds : List PyData} (h : EvD te σ H (.tuple (d :: ds))) (h1 : EvO tl σ H (some 1)) (h2 : EvO th σ H none) : EvD (tSl (rSlT K) te tl th) σ H (.tuple ds) := fun H1 e Q q =>
  h H1 e _ fun v H2 e2 r => h1 H2 (e.trans e2) _ fun H3 e3 => h2 H3 ((e.trans e2).trans e3) _ fun H4 e4 => by
    obtain ⟨p, xs, rfl, g1, g2⟩ := r
    match xs, g2 with
    | x :: xs, g2 =>
      have e5 := e3.trans e4
      have hi : HT.sIx (x :: xs).length 0 (some 1) = 1 := by
        rw [show ((some 1 : Option Int)) = some ((1 : Nat) : Int) from rfl, HT.sIx_nat]
        exact Nat.min_eq_left (Nat.succ_le_succ (Nat.zero_le _))
      refine ⟨p, x :: xs, rfl, .inl ((Ex.pr e5).rd g1), ?_, fun l hl => ?_⟩
      · rintro ⟨z, _⟩
        rw [hi] at z
        cases z
      · have ec : cutV (x :: xs) (some 1) none = xs := by
          unfold cutV
          rw [hi, HT.sIx_none]
          show List.take ((x :: xs).length - 1) xs = xs
          exact List.take_length
        rw [ec]
        exact q _ _ ((e2.trans e5).trans (Evl.Ex.new hl)) ⟨l, xs, rfl, .inl upd_same, (g2.2.mono (Ex.pr e5)).mono (Ex.pr (Evl.Ex.new hl))⟩
    | [], g2 => exact g2.elim
end
section
variable {P : Program} {w : World} {K : PySem.W.Frag} {mg : Str → Option Value} {base : Heap}
/-- a def with defaults behind its last parameters, called without them -/
theorem cal_dfl (T : Txt K mg) (i : Nat) {d : He.DefD} (hd : fn[i]? = some d) {N ps : List Str} {k : Nat} {sp : Sp} (S : FnScope N ps d.scope) (n : Nat) (hdf : d.dvs K ≠ []) (hn : n + ((d.dvs K).length - 0) = ps.length)
    (b : ∀ (T : Addr) (kV doc pm : Value) (an : Option Addr) (cdv ct : Value) (us its : List Value), us.length = n → its.length = (d.dvs K).length →
      ∃ k, bindArgs (PySem.W.fnOf d.name d.qual d.params d.body d.scope (.ref T) kV doc pm an cdv ct) ⟨us, []⟩ = seqItems? (.ref T) >>= k ∧ k (some its.toArray) = pure (ps.zip (us ++ its.drop 0))) (len : ∀ vs H Q E, sp vs H Q E → vs.length = ps.length)
    (body : ∀ (f : Addr) (cdv : Value) (A : Around) (outer : List Env) (s : Shared) (H : Hp) (vs : List V) (Q : VK) (E : XK), Room k (A.deeper (envOfC d.qual d.scope s.heap.objs.size f cdv)) → sp vs H Q E →
      ∃ t, PSs (cxOf CX0 P w K mg base N d.qual d.scope f cdv A outer s H E).nox d.body t ∧ t { nx := fun _ H' => Q .non H', rt := Q } (start N vs) H) : Cal P w K mg base (k + 1) d.at_.1 sp ((d.dvs K).drop 0) := by
  obtain ⟨f, fd, F, hm⟩ := T.d i d hd
  obtain ⟨ds, hds, hb⟩ := F.binds1 n 0 hdf hn b
  exact ⟨f, fd, ps, ds, F.ok S len fun cdv A outer s H vs Q E hr hsp => let ⟨t, h1, h2⟩ := body f cdv A outer s H vs Q E hr hsp; ⟨t, h1.nox, h2⟩, hm, F.kp, hb, hds⟩
end
end FF
/-! the rules whose reading names the written part, with that part said -/
namespace FF
open PySem PySem.Spec PyProof.Rows L2
section
variable {X : Cx} {K : PySem.W.Frag}
theorem ix_tupK (hK : X.K = K) : IxR X (rIxT K) := by subst hK; exact ix_tup
theorem ix_listK (hK : X.K = K) : IxR X (rIxL K) := by subst hK; exact ix_list
theorem ix_anyK (hK : X.K = K) : IxR X (fun x y H Q => rIxL K x y H Q ∨ rIxT K x y H Q) := by subst hK; exact ix_list.or ix_tup
theorem op_in_seqK (hK : X.K = K) : OpR X (compareOp .In) (rIn K false) := by subst hK; exact op_in_seq
theorem op_notIn_seqK (hK : X.K = K) : OpR X (compareOp .NotIn) (rIn K true) := by subst hK; exact op_notIn_seq
theorem op_eqDK (hK : X.K = K) (hu : X.A.units + 64 < cLine) : OpR X (compareOp .Eq) (rEqD K) := by subst hK; exact op_eqD hu
theorem op_neDK (hK : X.K = K) (hu : X.A.units + 64 < cLine) : OpR X (compareOp .NotEq) (rNeD K) := by subst hK; exact op_neD hu
theorem call_len_seqK (hK : X.K = K) : CallR X (.builtin "len") (fun xs H Q => ∃ p ys, xs = [.ref p] ∧ (SqL K H p ys ∨ SqT K H p ys) ∧ Q (.int ys.length) H) := by subst hK; exact call_len_seq
theorem call_list_ofK (hK : X.K = K) : CallR X (.type "list") (fun xs H Q => ∃ p ys, xs = [.ref p] ∧ (SqL K H p ys ∨ SqT K H p ys) ∧ ∀ l, H l = none → Q (.ref l) (upd H l (.lst ys))) := by subst hK; exact call_list_of
theorem call_tuple_ofK (hK : X.K = K) : CallR X (.type "tuple") (fun xs H Q => ∃ p ys, xs = [.ref p] ∧ ((SqL K H p ys ∧ ∀ l, H l = none → Q (.ref l) (upd H l (.tup ys))) ∨ (SqT K H p ys ∧ Q (.ref p) H))) := by subst hK; exact call_tuple_of
theorem cr_sumK (hK : X.K = K) (hc : X.calm = true) : CallR X (.builtin "sum") (rSum K) := by subst hK; exact cr_sum hc
theorem cr_maxK (hK : X.K = K) (hc : X.calm = true) : CallR X (.builtin "max") (rMax K) := by subst hK; exact cr_max hc
theorem cr_anyK (hK : X.K = K) (hc : X.calm = true) : CallR X (.builtin "any") (rAny K) := by subst hK; exact cr_any hc
theorem cr_allK (hK : X.K = K) (hc : X.calm = true) : CallR X (.builtin "all") (rAll K) := by subst hK; exact cr_all hc
theorem cr_sortedSK (hK : X.K = K) : CallR X (.builtin "sorted") (rSortedS K) := by subst hK; exact cr_sortedS
theorem call_isiK' (hK : X.K = K) : CallR X (.builtin "isinstance") (rIsi K) := by subst hK; exact call_isi
theorem sl_listK (hK : X.K = K) : SlR X (rSlL K) := by subst hK; exact sl_list
theorem sl_tupK (hK : X.K = K) : SlR X (rSlT K) := by subst hK; exact sl_tup
theorem pi_listK {tg l : Expr} {tl : TE} (hK : X.K = K) (hl : PE X l tl) : PI X tg l (iList K tl) := by subst hK; exact pi_list hl
theorem pi_tupK {tg l : Expr} {tl : TE} (hK : X.K = K) (hl : PE X l tl) : PI X tg l (iTup K tl) := by subst hK; exact pi_tup hl
theorem pi_zipK {e e2 : Expr} {ta : TA} {p pos tpos : Pos} {elts : List Expr} {kk : Nat} (hK : X.K = K) (hg : Gl X "zip") (hm : X.mg "zip" = none) (ha : PA X [e, e2] ta) (hs : starEach [e, e2] X.env = (false, eval e X.env) :: starEach [e2] X.env := by rfl) (hpl : (backTo pos (starEach [e2] X.env)).any (·.1) = false := by rfl) :
    PI X (.Tuple elts kk tpos) (.Call (.Name "zip" p) [e, e2] [] pos) (RZ.iZipA K ta) := by subst hK; exact RZ.pi_zipA hg hm ha hs hpl
theorem pg_tupK {es : List Expr} {k : Nat} {pos : Pos} {t : TGs} {n : Nat} (hK : X.K = K) (hc : X.calm = true) (h : PGs X es t) (hn : (assignEach es X.env).length = n) (hst : (assignEach es X.env).findIdx? (·.1) = none) : PG X (.Tuple es k pos) (gTup K n t) := by subst hK; exact pg_tup hc h hn hst
theorem pg_two {i j : Nat} {x y : Str} {px py pos : Pos} {k : Nat} (hK : X.K = K) (hc : X.calm = true) (hN : X.N.Nodup) (hi : X.N[i]? = some x) (hj : X.N[j]? = some y) (lx : Loc X.env.scope x) (ly : Loc X.env.scope y)
    (fx : X.fn x = true ∨ X.env.scope.names.lookup x = some .local) (fy : X.fn y = true ∨ X.env.scope.names.lookup y = some .local) : PG X (.Tuple [.Name x px, .Name y py] k pos) (gTup K 2 (gCons (gName i) (gCons (gName j) gNil))) :=
  pg_tupK hK hc (pgs_cons (pg_name hN hi lx fx) (pgs_cons (pg_name hN hj ly fy) pgs_nil)) rfl rfl
theorem pe_bm0K' {o : Expr} {to : TE} {name : Str} {apos cpos : Pos} {T id : String} {r : V → List V → Hp → VK → Prop} (hK : X.K = K) (pa : PlainAttrs T) (slot : Slot T name id) (hty : typeOf (.builtin id) = pure (.type "method_descriptor")) (hm : MtR X id r) (ho : PE X o to)
    (hbase : attributeBase o name X.env (eval o X.env) = eval o X.env := by rfl) (hline : (apos.endLine == cpos.line) = true := by rfl) : PE X (.Call (.Attribute o name apos) [] [] cpos) (tBM0 K T r to) := by subst hK; exact pe_bm0 pa slot hty hm ho hbase hline
theorem pe_bmK {o e : Expr} {es : List Expr} {to : TE} {t : TA} {name : Str} {apos cpos : Pos} {T id : String} {r : V → List V → Hp → VK → Prop} (hK : X.K = K) (pa : PlainAttrs T) (slot : Slot T name id) (hty : typeOf (.builtin id) = pure (.type "method_descriptor")) (hm : MtR X id r) (ho : PE X o to) (ha : PA X (e :: es) t)
    (hbase : attributeBase o name X.env (eval o X.env) = eval o X.env := by rfl)
    (hfew : ((backTo cpos (starEach (e :: es) X.env)).all (fun x => !x.1) && (backToKw cpos (keywordEach [] X.env)).all (fun x => x.1.isSome)
      && decide ((e :: es).length + ([] : List Keyword).length + (if ([] : List Keyword).isEmpty then 0 else 1) < 30)) = true := by rfl)
    (hline : (apos.endLine == cpos.line) = true := by rfl) (hs : starEach (e :: es) X.env = (false, eval e X.env) :: starEach es X.env := by rfl) (hplain : (backTo cpos (starEach es X.env)).any (·.1) = false := by rfl) :
    PE X (.Call (.Attribute o name apos) (e :: es) [] cpos) (tBM K T r to t) := by subst hK; exact pe_bm pa slot hty hm ho ha hbase hfew hline hs hplain
end
end FF
/-! enumerate of a text, of a tuple; dict of a plain tuple -/
namespace FF
open PySem PySem.Spec PyProof.Rows L2
open Evl (Ex EvT)
/-! ### enumerate(text) -/
def IteS (z : Str) : It :=
  ⟨fun i _ => i < z.cps.size, fun i H v H' => ∃ T c, v = .ref T ∧ H T = none ∧ H' = L2.upd H T (.tup [.int (i : Nat), .str ⟨#[c]⟩]) ∧ z.cps[i]? = some c, fun i _ => z.cps.size ≤ i⟩
theorem turn_enumS {P : Program} {w : World} {K : PySem.W.Frag} {elts : List Expr} {kk : Nat} {tpos : Pos} (z : Str) (t : Tok) (e it : Addr) :
    Turn P w K (.Tuple elts kk tpos) (IteS z) [e, it] e (fun i h => (∃ old, IsEnum h e it ((i : Nat) : Int) old) ∧ h.IsStrIter it (strIterType z) z t i ∧ e ≠ it ∧ i ≤ z.cps.size) where
  mem := by simp
  obj := fun i h st b hb => by
    obtain ⟨⟨old, he⟩, ⟨o, ho, hc, hd⟩, _, _⟩ := st
    have e' : b = e ∨ b = it := by simpa using hb
    rcases e' with z | z
    · rw [z]; exact ⟨_, he, fun v q => nomatch q⟩
    · rw [z]; exact ⟨o, ho, fun v q => by rw [hd] at q; cases q⟩
  keep := fun i h h' st k => let ⟨⟨old, he⟩, ⟨o, ho, r⟩, hne, hi⟩ := st; ⟨⟨old, k e (by simp) _ he⟩, ⟨o, k it (by simp) _ ho, r⟩, hne, hi⟩
  item := by
    intro X hP hw hK hc i pins s σ H E I hf st hg
    subst hP hw hK
    obtain ⟨⟨old, he⟩, hit, hne, hi⟩ := st
    have hg : i < z.cps.size := hg
    have hel : e < s.heap.objs.size := Heap.lt_size he
    have hil : it < s.heap.objs.size := by obtain ⟨_, q, _⟩ := hit; exact Heap.lt_size q
    refine wpAny_pyNext_enum_itemD (Draws.text (A := X.A.in1) (by rw [show X.A.in1.handled = X.A.handled from rfl]; exact I.ok.hd hc) it z t) he hit hg hne (by simpa using hne) fun u h' tk hu ho hit' hT hsz hk => ?_
    obtain ⟨c, tu, hcx, rfl⟩ := hu
    refine ⟨_, rfl, wpAny_letOwnedTupleGo_enum (s := { s with heap := h', toks := _ }) ho fun h'' he' sb => ?_⟩
    have hT2 := (sb.2 _ (Nat.ne_of_gt hel)).trans hT
    have new : ObjOk X.prog X.w (L2.upd H s.heap.objs.size (.tup [.int (i : Nat), .str ⟨#[c]⟩])) h'' s.heap.objs.size (.tup [.int (i : Nat), .str ⟨#[c]⟩]) :=
      ⟨by show 2 ≤ sizeLine; decide, [.int i tk, .str ⟨#[c]⟩ tu], .cons ⟨_, rfl⟩ (.cons ⟨_, rfl⟩ .nil), ⟨_, hT2, rfl, _, rfl⟩⟩
    obtain ⟨oi, hi1, hi2⟩ := hit'
    refine ⟨.ref s.heap.objs.size, _, I.turnedNew (ch := [e, it]) (fun b ob hb q => (sb.2 b (fun z => hb (by simp [z]))).trans (hk b ob (fun z => hb (by simp [z])) (fun z => hb (by simp [z])) q)) hf (Nat.le_refl _) new, rfl, ⟨_, c, rfl, I.hok.fresh (Nat.le_refl _), rfl, hcx⟩, ⟨⟨.str ⟨#[c]⟩ tu, ?_⟩, ⟨oi, (sb.2 it (Ne.symm hne)).trans hi1, hi2⟩, hne, hg⟩, fun b hb => ?_⟩
    · have e1 : ((i + 1 : Nat) : Int) = (i : Int) + 1 := by omega
      rw [e1]; exact he'
    · have hb' : b < s.heap.objs.size := by
        have e' : b = e ∨ b = it := by simpa using hb
        rcases e' with z | z
        · rw [z]; exact hel
        · rw [z]; exact hil
      rw [upd_ne (Nat.ne_of_lt hb')]
      exact (hf b hb).1
  done := by
    intro X hP hw hK hc i pins s σ H E I hf st hg
    subst hP hw hK
    obtain ⟨⟨old, he⟩, hit, hne, hi⟩ := st
    have hg : z.cps.size ≤ i := hg
    obtain ⟨f0, f1, f2, f3, f4, f5⟩ := hf it (by simp)
    have ei : i = z.cps.size := Nat.le_antisymm hi hg
    subst ei
    exact wpAny_pyNext_enum_endD (Draws.text (A := X.A.in1) (by rw [show X.A.in1.handled = X.A.handled from rfl]; exact I.ok.hd hc) it z t) he hit fun h' eb => ⟨rfl, I.turned (t' := s.toks) (fun b o hb q => eb b o hb q) f0 f1 f3 f4 f5⟩
  self := fun A i s Q E st h => let ⟨⟨_, he⟩, _⟩ := st; wpAny_pyIter_enum he h
def iEnumS (ta : TA) : TI := fun σ H R => ta σ H fun vs H1 => ∃ z, vs = [.str z] ∧ R (IteS z) H1
theorem pi_enumS {X : Cx} {e : Expr} {ta : TA} {p pos tpos : Pos} {elts : List Expr} {kk : Nat} (hg : Gl X "enumerate") (hm : X.mg "enumerate" = none) (ha : PA X [e] ta) (hs : starEach [e] X.env = [(false, eval e X.env)] := by rfl) :
    PI X (.Tuple elts kk tpos) (.Call (.Name "enumerate" p) [e] [] pos) (iEnumS ta) := by
  refine ⟨fun pins s σ H R I h => ?_⟩
  refine Call_ (ld_blt I hg hm boot_enumerate (PyProof.Rows.callWith_type1 (thn (ha.run pos pins s σ H _ I h) fun us s1 ⟨vs, H1, I1, r1, q1⟩ => ?_) hs rfl))
  obtain ⟨z, ex, q⟩ := q1
  subst ex
  cases r1 with
  | cons r rr =>
    cases rr
    obtain ⟨t, rfl⟩ := r
    refine call_enumerate_str fun h' he hit hsz hk => wpAny_pyIter_enum he ?_
    have I2 : Inv X pins σ H1 { s1 with heap := h' } := I1.kept (t' := s1.toks) hk
    refine ⟨s1.heap.objs.size + 1, [s1.heap.objs.size + 1, s1.heap.objs.size], _, _, H1, rfl, I2, turn_enumS z t (s1.heap.objs.size + 1) s1.heap.objs.size, ⟨⟨.none, he⟩, hit, Nat.succ_ne_self _, Nat.zero_le _⟩, fun b hb => ?_, q⟩
    have e' : b = s1.heap.objs.size + 1 ∨ b = s1.heap.objs.size := by simpa using hb
    have hle : s1.heap.objs.size ≤ b := by
      rcases e' with z | z
      · rw [z]; exact Nat.le_add_right _ _
      · rw [z]; exact Nat.le_refl _
    exact I1.fpOk hle (I1.hok.fresh hle)
/-! ### enumerate(tuple) -/
theorem meets_enum1 {v : Value} {o : Obj} {H : Heap → Prop} (B : Begins v o H) :
    Meets (Builtin.«enumerate.__new__» ⟨[.type "enumerate", v], []⟩) (fun _ R s => H s.heap ∧
      R (.ok (.ret (.ref (s.heap.push o).objs.size))) { s with heap := (s.heap.push o).push { cls := .type "enumerate", data := .fields #[.none, .bool false, .ref s.heap.objs.size, rawInt 0, .none, .none] } }) :=
  .of_wp fun prog w A R s h => by
    obtain ⟨hp, g, d, tk, os⟩ := s
    obtain ⟨h1, h⟩ := h
    have hsub := sub_enumerate
    have q1 : ∀ {A' : Around} {E : Value → Shared → Prop} {Q : Value → Shared → Prop}, Q (.ref hp.objs.size) ⟨(hp.push o), g, d, tk, os⟩ → wpAny (model prog w) A' (pyIter v) Q E ⟨hp, g, d, tk, os⟩ :=
      fun q => B.iter prog w _ _ ⟨hp, g, d, tk, os⟩ _ (B.keeps _ _ h1 fun b o' e => e) q
    wp_walk using q1
    refine wpAny_stack_any fun st => wpAny_pure ?_
    split
    · rename_i c _ _ _ _ _
      cases (c == Value.type "enumerate")
      · wp_walk using q1
        exact ⟨_, rfl, h⟩
      · wp_walk using q1
        exact ⟨_, rfl, h⟩
    · wp_walk using q1
      exact ⟨_, rfl, h⟩
section
variable {prog : Program} {w : World} {A : Around} {E : Value → Shared → Prop} {s : Shared}
theorem enum_begins1 {v : Value} {o : Obj} {H : Heap → Prop} {Q : Value → Shared → Prop} (B : Begins v o H) (h1 : H s.heap)
    (h : ∀ h', IsEnum h' (s.heap.objs.size + 1) s.heap.objs.size 0 .none → h'.get? s.heap.objs.size = some o → h'.objs.size = s.heap.objs.size + 2 →
      (∀ b o, s.heap.get? b = some o → h'.get? b = some o) → Q (.ref (s.heap.objs.size + 1)) { s with heap := h' }) :
    wpAny (model prog w) A (call (.type "enumerate") [v]) Q E s := by
  refine callType_new F.called_enumerate (by decide) (F.typeCall_enumerate_1 _) (F.newCall_enumerate_1 _) (fun obj => F.args_object_init_2 obj _) F.entry_enumerate_new
    (meets_enum1 B) ⟨h1, ?_⟩
  have hz : (s.heap.push o).objs.size = s.heap.objs.size + 1 := Heap.size_push ..
  show _ ∧ _
  rw [hz]
  have he : IsEnum ((s.heap.push o).push { cls := .type "enumerate", data := .fields #[.none, .bool false, .ref s.heap.objs.size, rawInt 0, .none, .none] }) (s.heap.objs.size + 1) s.heap.objs.size 0 .none := by
    have := Heap.get?_push_size (s.heap.push o) (o := { cls := .type "enumerate", data := .fields #[.none, .bool false, .ref s.heap.objs.size, rawInt 0, .none, .none] }) rfl
    rw [hz] at this; exact this
  exact ⟨⟨_, he, rfl⟩, h _ he (Heap.get?_push_of_some _ (Heap.get?_push_size _ B.free)) (by rw [Heap.size_push, hz]) fun b o y => Heap.get?_push_of_some _ (Heap.get?_push_of_some _ y)⟩
end
def IteT (K : PySem.W.Frag) (a : Addr) : It :=
  ⟨fun i H => ∃ (xs : List V) (x : V), SqT K H a xs ∧ xs[i]? = some x, fun i H v H' => ∃ T x, v = .ref T ∧ H T = none ∧ H' = L2.upd H T (.tup [.int (i : Nat), x]) ∧ ∀ xs, SqT K H a xs → xs[i]? = some x, fun i H => ∃ xs : List V, SqT K H a xs ∧ xs.length = i⟩
theorem turn_enumT {P : Program} {w : World} {K : PySem.W.Frag} {elts : List Expr} {kk : Nat} {tpos : Pos} (a e it : Addr) :
    Turn P w K (.Tuple elts kk tpos) (IteT K a) [e, it] e (fun i h => (∃ old, IsEnum h e it ((i : Nat) : Int) old) ∧ h.IsTupleIter it a i ∧ e ≠ it) where
  mem := by simp
  obj := fun i h st b hb => by
    obtain ⟨⟨old, he⟩, ⟨o, ho, hc, hd⟩, _⟩ := st
    have e' : b = e ∨ b = it := by simpa using hb
    rcases e' with z | z
    · rw [z]; exact ⟨_, he, fun v q => nomatch q⟩
    · rw [z]; exact ⟨o, ho, fun v q => by rw [hd] at q; cases q⟩
  keep := fun i h h' st k => let ⟨⟨old, he⟩, ⟨o, ho, r⟩, hne⟩ := st; ⟨⟨old, k e (by simp) _ he⟩, ⟨o, k it (by simp) _ ho, r⟩, hne⟩
  item := by
    intro X hP hw hK hc i pins s σ H E I hf st hg
    subst hP hw hK
    obtain ⟨⟨old, he⟩, hit, hne⟩ := st
    obtain ⟨xs, x, hq, hx⟩ := hg
    obtain ⟨its, rv, p, hz⟩ := I.tuple hq
    obtain ⟨u, hu, ru⟩ := rv.get hx
    have hel : e < s.heap.objs.size := Heap.lt_size he
    have hil : it < s.heap.objs.size := by obtain ⟨_, q, _⟩ := hit; exact Heap.lt_size q
    have ta : s.heap.IsTuple a its.toArray := p
    have hai : a ≠ it := fun z => by
      obtain ⟨oa, ha, ca, _⟩ := ta
      obtain ⟨oi, hi, ci, _⟩ := hit
      rw [z, hi] at ha
      cases ha
      rw [ci] at ca
      exact absurd (Value.type.inj ca) (by decide)
    have hae : a ≠ e := fun z => by
      obtain ⟨oa, ha, ca, _⟩ := ta
      rw [z, he] at ha
      cases ha
      exact absurd (Value.type.inj ca) (by decide)
    refine wpAny_pyNext_enum_itemD (Draws.tuple (A := X.A.in1) (by rw [show X.A.in1.handled = X.A.handled from rfl]; exact I.ok.hd hc) it a hai its.toArray) he ⟨hit, ta⟩ (by have := (List.getElem?_eq_some_iff.mp hu).1; simpa using this) hne (by simp [hne, Ne.symm hae]) fun u' h' tk hu' ho hit' hT hsz hk => ?_
    have eu : u' = u := by
      have : its.toArray[i]? = some u := by simpa using hu
      rw [this] at hu'
      exact (Option.some.inj hu').symm
    subst eu
    refine ⟨_, rfl, wpAny_letOwnedTupleGo_enum (s := { s with heap := h', toks := _ }) ho fun h'' he' sb => ?_⟩
    have hT2 := (sb.2 _ (Nat.ne_of_gt hel)).trans hT
    have new : ObjOk X.prog X.w (L2.upd H s.heap.objs.size (.tup [.int (i : Nat), x])) h'' s.heap.objs.size (.tup [.int (i : Nat), x]) :=
      ⟨by show 2 ≤ sizeLine; decide, [.int i tk, u'], .cons ⟨_, rfl⟩ (.cons ru .nil), ⟨_, hT2, rfl, _, rfl⟩⟩
    obtain ⟨⟨oi, hi1, hi2⟩, _⟩ := hit'
    refine ⟨.ref s.heap.objs.size, _, I.turnedNew (ch := [e, it]) (fun b ob hb q => (sb.2 b (fun z => hb (by simp [z]))).trans (hk b ob (fun z => hb (by simp [z])) (fun z => hb (by simp [z])) q)) hf (Nat.le_refl _) new, rfl, ⟨_, x, rfl, I.hok.fresh (Nat.le_refl _), rfl, fun ys hy => by rw [I.tuple_inj hy hq]; exact hx⟩, ⟨⟨u', ?_⟩, ⟨oi, (sb.2 it (Ne.symm hne)).trans hi1, hi2⟩, hne⟩, fun b hb => ?_⟩
    · have e1 : ((i + 1 : Nat) : Int) = (i : Int) + 1 := by omega
      rw [e1]; exact he'
    · have hb' : b < s.heap.objs.size := by
        have e' : b = e ∨ b = it := by simpa using hb
        rcases e' with z | z
        · rw [z]; exact hel
        · rw [z]; exact hil
      rw [upd_ne (Nat.ne_of_lt hb')]
      exact (hf b hb).1
  done := by
    intro X hP hw hK hc i pins s σ H E I hf st hg
    subst hP hw hK
    obtain ⟨⟨old, he⟩, hit, hne⟩ := st
    obtain ⟨xs, hq, hl⟩ := hg
    obtain ⟨its, rv, p, hz⟩ := I.tuple hq
    obtain ⟨f0, f1, f2, f3, f4, f5⟩ := hf it (by simp)
    have ta : s.heap.IsTuple a its.toArray := p
    have hai : a ≠ it := fun z => by
      obtain ⟨oa, ha, ca, _⟩ := ta
      obtain ⟨oi, hi, ci, _⟩ := hit
      rw [z, hi] at ha
      cases ha
      rw [ci] at ca
      exact absurd (Value.type.inj ca) (by decide)
    have ei : i = its.toArray.size := by rw [← hl, rv.length]; simp
    subst ei
    exact wpAny_pyNext_enum_endD (Draws.tuple (A := X.A.in1) (by rw [show X.A.in1.handled = X.A.handled from rfl]; exact I.ok.hd hc) it a hai its.toArray) he ⟨hit, ta⟩ fun h' eb => ⟨rfl, I.turned (t' := s.toks) (fun b o hb q => eb b o hb q) f0 f1 f3 f4 f5⟩
  self := fun A i s Q E st h => let ⟨⟨_, he⟩, _⟩ := st; wpAny_pyIter_enum he h
def iEnumT (K : PySem.W.Frag) (ta : TA) : TI := fun σ H R => ta σ H fun vs H1 => ∃ a xs, vs = [.ref a] ∧ SqT K H1 a xs ∧ R (IteT K a) H1
theorem pi_enumT {X : Cx} {K : PySem.W.Frag} {e : Expr} {ta : TA} {p pos tpos : Pos} {elts : List Expr} {kk : Nat} (hK : X.K = K) (hg : Gl X "enumerate") (hm : X.mg "enumerate" = none) (ha : PA X [e] ta) (hs : starEach [e] X.env = [(false, eval e X.env)] := by rfl) :
    PI X (.Tuple elts kk tpos) (.Call (.Name "enumerate" p) [e] [] pos) (iEnumT K ta) := by
  subst hK
  refine ⟨fun pins s σ H R I h => ?_⟩
  refine Call_ (ld_blt I hg hm boot_enumerate (PyProof.Rows.callWith_type1 (thn (ha.run pos pins s σ H _ I h) fun us s1 ⟨vs, H1, I1, r1, q1⟩ => ?_) hs rfl))
  obtain ⟨a, xs, ex, hq, q⟩ := q1
  subst ex
  cases r1 with
  | cons r rr =>
    cases rr
    cases r
    obtain ⟨its, rv, p', hz⟩ := I1.tuple hq
    refine enum_begins1 (begins_tuple a its.toArray) p' fun h' he hit hsz hk => wpAny_pyIter_enum he ?_
    have I2 : Inv X pins σ H1 { s1 with heap := h' } := I1.kept (t' := s1.toks) hk
    refine ⟨s1.heap.objs.size + 1, [s1.heap.objs.size + 1, s1.heap.objs.size], _, _, H1, rfl, I2, turn_enumT a (s1.heap.objs.size + 1) s1.heap.objs.size, ⟨⟨.none, he⟩, ⟨_, hit, rfl, rfl⟩, Nat.succ_ne_self _⟩, fun b hb => ?_, q⟩
    have e' : b = s1.heap.objs.size + 1 ∨ b = s1.heap.objs.size := by simpa using hb
    have hle : s1.heap.objs.size ≤ b := by
      rcases e' with z | z
      · rw [z]; exact Nat.le_add_right _ _
      · rw [z]; exact Nat.le_refl _
    exact I1.fpOk hle (I1.hok.fresh hle)
/-! ### what they walk -/
def enumD (ds : List PyData) : List PyData := List.zipWith (fun (i : Nat) d => .tuple [.int i, d]) (List.range ds.length) ds
theorem enumD_length (ds : List PyData) : (enumD ds).length = ds.length := by unfold enumD; rw [List.length_zipWith, List.length_range]; exact Nat.min_self _
theorem enumD_get {ds : List PyData} {i : Nat} {d : PyData} (h : ds[i]? = some d) : (enumD ds)[i]? = some (.tuple [.int i, d]) := by
  have hl : i < ds.length := (List.getElem?_eq_some_iff.mp h).1
  unfold enumD
  rw [List.getElem?_zipWith, List.getElem?_range hl, h]
theorem enumD_mem {ds : List PyData} {d : PyData} (h : d ∈ enumD ds) : ∃ (i : Nat) (e : PyData), d = .tuple [.int i, e] ∧ ds[i]? = some e := by
  obtain ⟨i, hi⟩ := List.getElem?_of_mem h
  have hl : i < ds.length := by rw [← enumD_length ds]; exact (List.getElem?_eq_some_iff.mp hi).1
  obtain ⟨e, he⟩ : ∃ e, ds[i]? = some e := ⟨ds[i], List.getElem?_eq_getElem hl⟩
  rw [enumD_get he] at hi
  exact ⟨i, e, (Option.some.inj hi).symm, he⟩
section
variable {Hb H H1 : Hp} {ms : Ms} {cs : List Sh} {σ : L2.St} {te ta tb : TE} {K : PySem.W.Frag}
theorem ei_enumS {ta : TA} {z : Str} {ps : List Addr} (h : EvAs ta σ H [.hd (.str z)]) : EvI (iEnumS ta) σ H ps (enumD (signs z)) := fun H1 e R r =>
  h H1 e _ fun vs H2 e2 rv => by
    obtain ⟨v, rfl, rw_⟩ := sh1 rv
    have rw_ : v = .str z := rw_
    subst rw_
    have hlen : (enumD (signs z)).length = z.cps.size := by rw [enumD_length]; unfold signs; rw [List.length_map, Array.length_toList]
    refine ⟨z, rfl, r (IteS z) H2 (fun _ => True) _ e2 (by rw [hlen]; exact ⟨fun i _ h _ => h, fun _ _ => Nat.le_refl _, fun i H v H' _ _ y => y⟩) (fun _ _ => trivial) fun i H3 x H4 hi b pr y => ?_⟩
    obtain ⟨T, c, rfl, hT, rfl, hc⟩ := y
    refine ⟨Evl.Ex.new hT, _, enumD_get (d := .str ⟨#[c]⟩) ?_, T, _, rfl, .inl upd_same, rfl, rfl, trivial⟩
    unfold signs
    rw [List.getElem?_map, Array.getElem?_toList, hc]
    rfl
theorem ei_enumT {ta : TA} {ds : List PyData} {ps : List Addr} (h : EvAs ta σ H [.hd (.tuple ds)]) (hp : ∀ H1, Ex H H1 → ∀ p ∈ ps, ∀ o, H1 p = some o → isTupO o = false) : EvI (iEnumT K ta) σ H ps (enumD ds) := fun H1 e R r =>
  h H1 e _ fun vs H2 e2 rv => by
    obtain ⟨v, rfl, a, xs, rfl, h1, h2⟩ := sh1 rv
    have pr0 : ∀ {H3}, But ps H2 H3 → Pr H2 H3 := fun {H3} b => prBut b (hp H2 (e.trans e2))
    refine ⟨a, xs, rfl, .inl h1, r (IteT K a) H2 (fun H3 => SqT K H3 a xs) (fun i H v H' => ∃ T x, v = .ref T ∧ H T = none ∧ H' = L2.upd H T (.tup [.int (i : Nat), x]) ∧ xs[i]? = some x) e2 ?_ (fun H3 b => .inl ((pr0 b).rd h1)) fun i H3 x H4 hi b pr y => ?_⟩
    · rw [enumD_length, h2.length]
      refine ⟨fun i _ hi q => ?_, fun _ q => ⟨xs, q, rfl⟩, fun i H v H' _ q y => ?_⟩
      · exact ⟨xs, xs[i], q, by simp [hi]⟩
      · obtain ⟨T, x, e1, e2, e3, e4⟩ := y
        exact ⟨T, x, e1, e2, e3, e4 xs q⟩
    · obtain ⟨T, y, rfl, hT, rfl, hy⟩ := y
      obtain ⟨d, hd, rd⟩ := h2.getV hy
      have en : Ex H3 (L2.upd H3 T (.tup [.int (i : Nat), y])) := Evl.Ex.new hT
      exact ⟨en, _, enumD_get hd, T, _, rfl, .inl upd_same, rfl, (rd.mono pr).mono (Ex.pr en), trivial⟩
end
end FF
/-! dict of a plain tuple of pairs -/
namespace FF
open PySem PySem.Spec PyProof.Rows L2
open Evl (Ex EvT)
section
variable {X : Cx}
theorem pairs_ofT {pins : List (Addr × Obj)} {σ : L2.St} {H : Hp} {s : Shared} (I : Inv X pins σ H s) : ∀ {ps : List Addr} {kvs : List (Key × V)}, Paired (fun p kv => SqT X.K H p [kV kv.1, kv.2]) ps kvs →
    ∃ (prs : List (Key × Value)) (uvs : List (Value × Value)), KV kvs prs ∧ prs.length = ps.length ∧ uvs.length = ps.length ∧ ∀ (j : Nat) (u v : Value), uvs[j]? = some (u, v) → ∃ (b : Addr) (k : Key), ps[j]? = some b ∧ IsTup s.heap b #[u, v] ∧ prs[j]? = some (k, v) ∧ keyIs k u = true
  | _, _, .nil => ⟨[], [], .nil, rfl, rfl, fun j u v e => by simp at e⟩
  | _, _, .cons (a := p) (b := kv) h t => by
    obtain ⟨prs, uvs, r, hl, hl2, hp⟩ := pairs_ofT I t
    obtain ⟨its, rv, ht, _⟩ := I.tuple h
    obtain ⟨u, y, ei, ru, ry⟩ := vals2 rv
    subst ei
    refine ⟨(kv.1, y) :: prs, (u, y) :: uvs, .cons ⟨rfl, ry⟩ r, by rw [List.length_cons, List.length_cons, hl], by rw [List.length_cons, List.length_cons, hl2], fun j u' v' e => ?_⟩
    cases j with
    | zero =>
      have e' : (u, y) = (u', v') := Option.some.inj e
      cases e'
      exact ⟨p, kv.1, rfl, ht, rfl, kV_is (P := X.prog) (w := X.w) ru⟩
    | succ j =>
      obtain ⟨b, k, e1, e2, e3, e4⟩ := hp j u' v' (by simpa using e)
      exact ⟨b, k, by simpa using e1, e2, by simpa using e3, e4⟩
def rDictT (K : PySem.W.Frag) : List V → Hp → VK → Prop := fun xs H Q => ∃ (a : Addr) (o : Obj) (ps : List Addr) (kvs : List (Key × V)), xs = [.ref a] ∧ H a = some (.frz o (.tup (ps.map V.ref))) ∧ o.dict = none ∧ Paired (fun p kv => SqT K H p [kV kv.1, kv.2]) ps kvs ∧
    ∀ p, H p = none → Q (.ref p) (L2.upd H p (.dK (mergeK [] kvs)))
theorem call_dictT {K : PySem.W.Frag} (hK : X.K = K) (hcalm : X.calm = true) : CallR X (.type "dict") (rDictT K) := by
  subst hK
  intro pins s σ H xs us Q I r q
  obtain ⟨a, o, ps, kvs, ex, hq, hdict, hp, q⟩ := q
  subst ex
  obtain ⟨u, eu, rx⟩ := vals1 r
  subst eu
  cases rx
  obtain ⟨ho, hx⟩ := I.hok a _ hq
  obtain ⟨its, rv, pt, hz⟩ := I.tuple (.inl (.inr ⟨o, hq⟩) : SqT X.K H a (ps.map V.ref))
  have ei := refs_at rv
  subst ei
  rw [List.length_map] at hz
  obtain ⟨prs, uvs, rel, hl, hl2, hpr⟩ := pairs_ofT I hp
  obtain ⟨o2, ho2, hc2, n2, hd2⟩ := pt
  rw [ho] at ho2
  cases ho2
  have hpt : PlainSeq "tuple" s.heap a (ps.map Value.ref).toArray := ⟨o, n2, ho, hc2, hdict, hd2⟩
  have hpi : PairItems s.heap (ps.map Value.ref).toArray (fun j => (ps[j]?).getD 0) uvs := by
    refine ⟨by simp [hl2], fun j u v e => ?_⟩
    obtain ⟨b, k, e1, e2, e3, e4⟩ := hpr j u v e
    refine ⟨by simp [e1], ?_⟩
    show PairAt s.heap ((ps[j]?).getD 0) u v
    rw [e1]
    exact .inl e2
  refine PySem.call_dict_pairs (knd := mixKind X.prog X.w) (kvs := prs) (PairArg.tuple (prog := X.prog) (w := X.w) a (ps.map Value.ref).toArray (fun j => (ps[j]?).getD 0) uvs) (I.ok.hd hcalm) ⟨hpt, hpi⟩ ⟨by rw [hl, hl2], fun i key v e => ?_⟩ (by rw [hl2]; exact hz) fun h' tk hd' k => ?_
  · obtain ⟨b, kk, e1, e2, e3, e4⟩ := hpr i key v e
    exact ⟨kk, e3, e4⟩
  · have hm : (s.heap.objs.size == sysModules) = false := beq_eq_false_iff_ne.mpr (Nat.ne_of_gt I.big)
    have hlen : (mergeK [] kvs).length ≤ sizeLine := by
      refine Nat.le_trans (length_mergeK kvs []) ?_
      rw [List.length_nil, Nat.zero_add, rel.length, hl]
      exact hz
    exact ⟨.ref s.heap.objs.size, L2.upd H s.heap.objs.size (.dK (mergeK [] kvs)), I.laid (t' := tk) (fun b o' e => k b o' List.not_mem_nil e) (Nat.le_refl _) (show ObjOk X.prog X.w _ _ _ (.dK (mergeK [] kvs)) from ⟨hlen, hm, merged [] prs, KV.merge rel .nil, hd'⟩), rfl, q _ (I.hok.fresh (Nat.le_refl _))⟩
end
/-- the pairs of a table -/
def eRow (r : Str × PyData) : PyData := .tuple [.str r.1, r.2]
theorem rows_at {H : Hp} {K : PySem.W.Frag} : ∀ {rows : List (Str × PyData)} {xs : List V}, RpAll H (rows.map eRow) xs → ∃ (ps : List Addr) (kvs : List (Key × V)), xs = ps.map V.ref ∧ Paired (fun p kv => SqT K H p [kV kv.1, kv.2]) ps kvs ∧ RpKv H rows kvs
  | [], [], _ => ⟨[], [], rfl, .nil, trivial⟩
  | r :: rows, x :: xs, h => by
    obtain ⟨ps, kvs, e1, e2, e3⟩ := rows_at (K := K) h.2
    obtain ⟨p, ys, rfl, h1, h2⟩ := h.1
    match ys, h2 with
    | [k, v], h2 =>
      have hk : k = .str r.1 := h2.1
      subst hk
      exact ⟨p :: ps, (Sum.inr r.1, v) :: kvs, by rw [e1]; rfl, .cons (.inl h1) e2, rfl, h2.2.1, e3⟩
    | [], h2 => exact h2.elim
    | [_], h2 => exact h2.2.elim
    | _ :: _ :: _ :: _, h2 => exact h2.2.2.elim
  | [], _ :: _, h => h.elim
  | _ :: _, [], h => h.elim
theorem mergeK_fresh : ∀ {kvs acc : List (Key × V)}, (kvs.map (·.1)).Nodup → (∀ k ∈ acc.map (·.1), k ∉ kvs.map (·.1)) → mergeK acc kvs = acc ++ kvs
  | [], acc, _, _ => (List.append_nil _).symm
  | kv :: kvs, acc, nd, h => by
    have e : putK acc kv.1 kv.2 = acc ++ [kv] := by
      unfold putK
      rw [if_neg]
      intro z
      obtain ⟨q, hq, e⟩ := List.any_eq_true.mp z
      exact h q.1 (List.mem_map_of_mem hq) (by rw [of_decide_eq_true e]; exact List.mem_cons_self ..)
    show mergeK (putK acc kv.1 kv.2) kvs = _
    rw [e, mergeK_fresh (List.nodup_cons.mp nd).2, List.append_assoc]
    · rfl
    · intro k hk z
      rw [List.map_append, List.mem_append] at hk
      rcases hk with hk | hk
      · exact h k hk (List.mem_cons_of_mem _ z)
      · have : k = kv.1 := by simpa using hk
        subst this
        exact (List.nodup_cons.mp nd).1 z
theorem RpKv.keys {H : Hp} : ∀ {rows : List (Str × PyData)} {kvs : List (Key × V)}, RpKv H rows kvs → kvs.map (·.1) = rows.map fun r => (Sum.inr r.1 : Key)
  | [], [], _ => rfl
  | (_, _) :: _, (_, _) :: _, h => by
    rw [List.map_cons, List.map_cons, h.1, RpKv.keys h.2.2]
  | [], _ :: _, h => h.elim
  | (_, _) :: _, [], h => h.elim
theorem inr_nodup {l : List Str} (h : l.Nodup) : (l.map fun r => (Sum.inr r : Key)).Nodup := List.Pairwise.map _ (fun a b z e => z (Sum.inr.inj e)) h
section
variable {H : Hp} {σ : L2.St} {te : TE} {K : PySem.W.Frag}
theorem ef_dictT {rows : List (Str × PyData)} (ha : EvD te σ H (.list (rows.map eRow))) (nd : (rows.map (·.1)).Nodup) : EvF (tCB (rDictT K) (tCons te tNil)) σ H (.dc rows) :=
  ef_cb (ea_cons ha ea_nil) fun vs H1 _ r Q q => by
    obtain ⟨v, rfl, p, o, xs, rfl, e2, e3, e4⟩ := sh1 r
    obtain ⟨ps, kvs, rfl, h1, h2⟩ := rows_at (K := K) e4
    have nk : (kvs.map (·.1)).Nodup := by
      rw [h2.keys]
      have := inr_nodup nd
      rw [List.map_map] at this
      exact this
    refine ⟨p, o, ps, kvs, rfl, e2, e3, h1, fun l hl => ?_⟩
    rw [mergeK_fresh nk (fun k hk => by cases hk), List.nil_append]
    exact q l _ hl (Evl.Ex.new hl) ⟨l, kvs, rfl, upd_same, h2.mono (Ex.pr (Evl.Ex.new hl))⟩
end
end FF
/-! mirrors: what the defs compute, in plain Lean -/
namespace FF
open PySem PySem.Spec
def names (L : Tab) : List Nat := L.map (·.1)
/-! ### growing a list with what is not in it -/
section
variable {α : Type} [DecidableEq α]
def addNew (f : List α) : List α → List α
  | [] => f
  | a :: r => if a ∈ f then addNew f r else addNew (f ++ [a]) r
/-- the stack stands with its top first -/
def pushNew (f w : List α) : List α → List α × List α
  | [] => (f, w)
  | a :: r => if a ∈ f then pushNew f w r else pushNew (f ++ [a]) (a :: w) r
def growLoop (g : α → List α) : Nat → List α → List α → Option (List α)
  | 0, _, _ => none
  | _ + 1, f, [] => some f
  | n + 1, f, a :: w => growLoop g n (pushNew f w (g a)).1 (pushNew f w (g a)).2
def reachLoop (g : α → List α) : Nat → List α → List α → Option (List α)
  | 0, _, _ => none
  | _ + 1, f, [] => some f
  | n + 1, f, a :: w => if a ∈ f then reachLoop g n f w else reachLoop g n (f ++ [a]) ((g a).reverse ++ w)
def underLoop (g : α → List α) : Nat → Nat → List α → Option (List α)
  | 0, _, _ => none
  | n + 1, k, f => match f[k]? with
    | none => some f
    | some a => underLoop g n (k + 1) (addNew f (g a))
theorem addNew_len : ∀ (f r : List α), f.length ≤ (addNew f r).length
  | f, [] => Nat.le_refl _
  | f, a :: r => by
    unfold addNew
    split
    · exact addNew_len f r
    · have := addNew_len (f ++ [a]) r
      rw [List.length_append] at this
      exact Nat.le_trans (Nat.le_add_right _ _) this
theorem addNew_le : ∀ (f r : List α), (addNew f r).length ≤ f.length + r.length
  | f, [] => Nat.le_refl _
  | f, a :: r => by
    unfold addNew
    split
    · exact Nat.le_trans (addNew_le f r) (by simp)
    · have := addNew_le (f ++ [a]) r
      simp only [List.length_append, List.length_cons, List.length_nil] at this ⊢
      omega
theorem pushNew_fst : ∀ (f w r : List α), (pushNew f w r).1 = addNew f r
  | f, w, [] => rfl
  | f, w, a :: r => by
    unfold pushNew addNew
    split
    · exact pushNew_fst f w r
    · exact pushNew_fst _ _ r
theorem growLoop_len {g : α → List α} : ∀ {n : Nat} {f w r : List α}, growLoop g n f w = some r → f.length ≤ r.length ∧ w.length < n
  | 0, _, _, _, h => by cases h
  | n + 1, f, [], r, h => by
    have e : f = r := Option.some.inj h
    subst e
    exact ⟨Nat.le_refl _, Nat.succ_pos _⟩
  | n + 1, f, a :: w, r, h => by
    have h1 := growLoop_len (n := n) h
    rw [pushNew_fst] at h1
    refine ⟨Nat.le_trans (addNew_len _ _) h1.1, ?_⟩
    have h2 : w.length ≤ (pushNew f w (g a)).2.length := by
      generalize g a = l
      clear h h1
      induction l generalizing f w with
      | nil => exact Nat.le_refl _
      | cons b l ih =>
        unfold pushNew
        split
        · exact ih _ _
        · have := ih (f ++ [b]) (b :: w)
          simp only [List.length_cons] at this
          omega
    have := h1.2
    simp only [List.length_cons]
    omega
theorem reachLoop_len {g : α → List α} : ∀ {n : Nat} {f w r : List α}, reachLoop g n f w = some r → f.length ≤ r.length ∧ w.length < n
  | 0, _, _, _, h => by cases h
  | n + 1, f, [], r, h => by
    have e : f = r := Option.some.inj h
    subst e
    exact ⟨Nat.le_refl _, Nat.succ_pos _⟩
  | n + 1, f, a :: w, r, h => by
    unfold reachLoop at h
    split at h
    · have := reachLoop_len h
      exact ⟨this.1, Nat.succ_lt_succ this.2⟩
    · have := reachLoop_len h
      rw [List.length_append, List.length_append] at this
      refine ⟨Nat.le_trans (Nat.le_add_right _ _) this.1, ?_⟩
      simp only [List.length_cons]
      omega
theorem underLoop_len {g : α → List α} : ∀ {n k : Nat} {f r : List α}, underLoop g n k f = some r → f.length ≤ r.length
  | 0, _, _, _, h => by cases h
  | n + 1, k, f, r, h => by
    unfold underLoop at h
    split at h
    · have e : f = r := Option.some.inj h
      subst e
      exact Nat.le_refl _
    · exact Nat.le_trans (addNew_len _ _) (underLoop_len h)
end
/-- the letters below a letter: three ways -/
def reach (L : Tab) (c : Nat) : List Nat := (reachLoop (look L) 40 [] (look L c).reverse).getD []
def under (L : Tab) (c : Nat) : List Nat := (underLoop (look L) 40 0 (look L c)).getD []
def below (L : Tab) (c : Nat) : List Nat := (growLoop (look L) 40 [] [c]).getD []
/-- the next lesser letters -/
def nextOnes (L : Tab) (c : Nat) : List Nat := (look L c).filter fun d => !decide (d ∈ (look L c).flatMap (reach L))
/-- what is left of u once v is gone through -/
def amStep (R : Nat → List Nat) (u : Thing) (c : Nat) : Thing := match u with
  | [] => []
  | a :: r => if a = c ∨ a ∈ R c then r else a :: r
def amRest (R : Nat → List Nat) (u v : Thing) : Thing := v.foldl (amStep R) u
def atMost (R : Nat → List Nat) (u v : Thing) : Bool := (amRest R u v).isEmpty
/-- the next less things -/
def nbAt (L : Tab) (x : Thing) (k : Nat) (c : Nat) : List Thing := if (look L c).length = 0 then [x.take k ++ x.drop (k + 1)] else (nextOnes L c).map fun d => x.take k ++ [d] ++ x.drop (k + 1)
def nbFrom (L : Tab) (x : Thing) : Nat → Thing → List Thing
  | _, [] => []
  | k, c :: r => nbAt L x k c ++ nbFrom L x (k + 1) r
def nb (L : Tab) (x : Thing) : List Thing := nbFrom L x 0 x
/-- the letters of a book, with all that the walks ask of them -/
structure GoodTab (L : Tab) : Prop where
  nd : (L.map (·.1)).Nodup
  lo : ∀ p ∈ L, low p.1
  kn : ∀ p ∈ L, ∀ c ∈ p.2, c ∈ L.map (·.1)
  len : L.length ≤ 3
  les : ∀ p ∈ L, p.2.length ≤ 3
  rch : ∀ c ∈ names L, reachLoop (look L) 40 [] (look L c).reverse = some (reach L c)
  rln : ∀ c ∈ names L, (reach L c).length ≤ 3
  rkn : ∀ c ∈ names L, ∀ d ∈ reach L c, d ∈ names L
  udr : ∀ c ∈ names L, underLoop (look L) 40 0 (look L c) = some (under L c)
  uln : ∀ c ∈ names L, (under L c).length ≤ 3
  blw : ∀ c ∈ names L, growLoop (look L) 40 [] [c] = some (below L c)
  bln : ∀ c ∈ names L, (below L c).length ≤ 3
  rnk : ∀ c ∈ names L, ∀ d ∈ look L c, (below L d).length < (below L c).length
structure IsThing (L : Tab) (t : Thing) : Prop where
  kn : ∀ c ∈ t, c ∈ names L
  len : t.length ≤ 4
theorem look_of {L : Tab} (nd : (L.map (·.1)).Nodup) {p : Nat × List Nat} (h : p ∈ L) : look L p.1 = p.2 := by
  unfold look
  induction L with
  | nil => cases h
  | cons q r ih =>
    rw [List.map_cons, List.nodup_cons] at nd
    rw [List.find?_cons]
    rcases List.mem_cons.mp h with e | h
    · subst e
      rw [show (p.1 == p.1) = true from beq_self_eq_true _]
    · have ne : q.1 ≠ p.1 := fun e => nd.1 (by rw [e]; exact List.mem_map_of_mem h)
      rw [show (q.1 == p.1) = false from beq_eq_false_iff_ne.mpr ne]
      exact ih nd.2 h
theorem GoodTab.look_kn {L : Tab} (g : GoodTab L) {c : Nat} (h : c ∈ names L) : ∀ d ∈ look L c, d ∈ names L := by
  obtain ⟨p, hp, rfl⟩ := List.mem_map.mp h
  rw [look_of g.nd hp]
  exact g.kn p hp
theorem GoodTab.look_len {L : Tab} (g : GoodTab L) {c : Nat} (h : c ∈ names L) : (look L c).length ≤ 3 := by
  obtain ⟨p, hp, rfl⟩ := List.mem_map.mp h
  rw [look_of g.nd hp]
  exact g.les p hp
theorem GoodTab.low {L : Tab} (g : GoodTab L) {t : Thing} (h : IsThing L t) : ∀ c ∈ t, low c := fun c hc => by
  obtain ⟨p, hp, rfl⟩ := List.mem_map.mp (h.kn c hc)
  exact g.lo p hp
theorem GoodTab.next_kn {L : Tab} (g : GoodTab L) {c : Nat} (h : c ∈ names L) : ∀ d ∈ nextOnes L c, d ∈ names L := fun d hd => g.look_kn h d (List.mem_filter.mp hd).1
end FF
/-! mirrors of rules and steps -/
namespace FF
open PySem PySem.Spec
def places (n : Nat) (l : Bool) : List Nat := if l then List.range n else (List.range n).reverse
def dropR (n : Nat) (l : Bool) (x : Thing) : List Thing := (places (x.length + 1 - n) l).map fun k => x.take k ++ x.drop (k + n)
def halfR (l : Bool) (x : Thing) : List Thing := [if l then x.take (x.length / 2) else x.drop (x.length - x.length / 2)]
def sgn (x : Thing) (k : Nat) : Nat := x[k]?.getD 0
def lowR (L : Tab) (l : Bool) (x : Thing) : List Thing := (places x.length l).flatMap fun k => (look L (sgn x k)).map fun d => x.take k ++ [d] ++ x.drop (k + 1)
def putR (c : Nat) (w : Thing) (l : Bool) (x : Thing) : List Thing := ((places x.length l).filter fun k => decide (sgn x k = c)).map fun k => x.take k ++ w ++ x.drop (k + 1)
def results (L : Tab) (x : Thing) : Rule → List Thing
  | .drop n l => dropR n l x
  | .half l => halfR l x
  | .empty => [[]]
  | .lower l => lowR L l x
  | .put c w l => putR c w l x
/-- the steps found so far get those of one rule -/
def addSteps (x : Thing) (k : Nat) (f : List (Thing × Nat)) : List Thing → List (Thing × Nat)
  | [] => f
  | s :: r => if s = x ∨ s ∈ f.map (·.1) then addSteps x k f r else addSteps x k (f ++ [(s, k)]) r
def rOf (B : Book) (k : Nat) : Rule := B.rules[k]?.getD .empty
def addRules (B : Book) (x : Thing) (f : List (Thing × Nat)) (ks : List Nat) : List (Thing × Nat) := ks.foldl (fun f k => addSteps x k f (results B.tab x (rOf B k))) f
def order (n first : Nat) : List Nat := (List.range' first (n - first)) ++ List.range first
/-- the steps of x, the rules from first on, then those before: pairs (step, rule) -/
def steps (B : Book) (x : Thing) (first : Nat) : List (Thing × Nat) := addRules B x [] (order B.rules.length first)
def RuleOk (L : Tab) : Rule → Prop
  | .drop n _ => 1 ≤ n ∧ n ≤ 2
  | .put c w _ => c ∈ names L ∧ (w = [] ∨ ∃ d ∈ look L c, w = [d])
  | _ => True
structure GoodBook (B : Book) : Prop where
  tab : GoodTab B.tab
  rul : ∀ r ∈ B.rules, RuleOk B.tab r
  len : B.rules.length ≤ 4
  pos : 0 < B.rules.length
theorem places_lt {n : Nat} {l : Bool} {k : Nat} (h : k ∈ places n l) : k < n := by
  unfold places at h
  split at h
  · exact List.mem_range.mp h
  · exact List.mem_range.mp (List.mem_reverse.mp h)
theorem places_len (n : Nat) (l : Bool) : (places n l).length = n := by
  unfold places
  split <;> simp
theorem sgn_get {x : Thing} {k : Nat} (h : k < x.length) : x[k]? = some (sgn x k) := by
  unfold sgn
  rw [List.getElem?_eq_getElem h]
  rfl
theorem sgn_mem {x : Thing} {k : Nat} (h : k < x.length) : sgn x k ∈ x := List.mem_of_getElem? (sgn_get h)
theorem rOf_mem {B : Book} {k : Nat} (h : k < B.rules.length) : rOf B k ∈ B.rules := by
  unfold rOf
  rw [List.getElem?_eq_getElem h]
  exact List.getElem_mem h
theorem rOf_get {B : Book} {k : Nat} (h : k < B.rules.length) : B.rules[k]? = some (rOf B k) := by
  unfold rOf
  rw [List.getElem?_eq_getElem h]
  rfl
/-- results stay things -/
theorem IsThing.cut {L : Tab} {x : Thing} (ix : IsThing L x) {k j : Nat} {w : Thing} (hw : ∀ c ∈ w, c ∈ names L) (hl : w.length ≤ 1) (hk : k < x.length) (hj : k < j) : IsThing L (x.take k ++ w ++ x.drop j) := by
  refine ⟨fun c hc => ?_, ?_⟩
  · rcases List.mem_append.mp hc with h | h
    · rcases List.mem_append.mp h with h | h
      · exact ix.kn c (List.mem_of_mem_take h)
      · exact hw c h
    · exact ix.kn c (List.mem_of_mem_drop h)
  · have := ix.len
    rw [List.length_append, List.length_append, List.length_take, List.length_drop]
    omega
theorem results_thing {L : Tab} (g : GoodTab L) {x : Thing} (ix : IsThing L x) {r : Rule} (ok : RuleOk L r) : ∀ y ∈ results L x r, IsThing L y := fun y hy => by
  have hx := ix.len
  cases r with
  | drop n l =>
    obtain ⟨k, hk, rfl⟩ := List.mem_map.mp hy
    have := places_lt hk
    have ok : 1 ≤ n ∧ n ≤ 2 := ok
    have := ix.cut (w := []) (k := k) (j := k + n) (nofun) (Nat.zero_le _) (by omega) (by omega)
    rw [List.append_nil] at this
    exact this
  | half l =>
    have hy := List.mem_singleton.mp hy
    rw [hy]
    split
    · exact ⟨fun c hc => ix.kn c (List.mem_of_mem_take hc), by rw [List.length_take]; omega⟩
    · exact ⟨fun c hc => ix.kn c (List.mem_of_mem_drop hc), by rw [List.length_drop]; omega⟩
  | empty =>
    rw [List.mem_singleton.mp hy]
    exact ⟨nofun, Nat.zero_le _⟩
  | lower l =>
    obtain ⟨k, hk, hy⟩ := List.mem_flatMap.mp hy
    obtain ⟨d, hd, rfl⟩ := List.mem_map.mp hy
    have hk := places_lt hk
    exact ix.cut (fun c hc => by rw [List.mem_singleton.mp hc]; exact g.look_kn (ix.kn _ (sgn_mem hk)) d hd) (Nat.le_refl _) hk (Nat.lt_succ_self _)
  | put c w l =>
    obtain ⟨k, hk, rfl⟩ := List.mem_map.mp hy
    have hk := places_lt (List.mem_filter.mp hk).1
    obtain ⟨hc, hw⟩ : c ∈ names L ∧ (w = [] ∨ ∃ d ∈ look L c, w = [d]) := ok
    refine ix.cut (fun e he => ?_) ?_ hk (Nat.lt_succ_self _)
    · rcases hw with rfl | ⟨d, hd, rfl⟩
      · cases he
      · rw [List.mem_singleton.mp he]
        exact g.look_kn hc d hd
    · rcases hw with rfl | ⟨d, hd, rfl⟩
      · exact Nat.zero_le _
      · exact Nat.le_refl _
theorem flatMap_len {α β : Type} {f : α → List β} {m : Nat} : ∀ {l : List α}, (∀ a ∈ l, (f a).length ≤ m) → (l.flatMap f).length ≤ m * l.length
  | [], _ => Nat.le_refl _
  | a :: l, h => by
    have h1 := h a (List.mem_cons_self ..)
    have h2 := flatMap_len (l := l) fun b hb => h b (List.mem_cons_of_mem _ hb)
    rw [List.flatMap_cons, List.length_append, List.length_cons, Nat.mul_succ]
    omega
theorem results_len {L : Tab} (g : GoodTab L) {x : Thing} (ix : IsThing L x) {r : Rule} (ok : RuleOk L r) : (results L x r).length ≤ 20 := by
  have hx := ix.len
  cases r with
  | drop n l =>
    show ((places _ _).map _).length ≤ _
    rw [List.length_map, places_len]
    omega
  | half l => exact Nat.le_trans (Nat.le_refl 1) (by decide)
  | empty => exact Nat.le_trans (Nat.le_refl 1) (by decide)
  | lower l =>
    have h := flatMap_len (m := 3) (l := places x.length l) (f := fun k => (look L (sgn x k)).map fun d => x.take k ++ [d] ++ x.drop (k + 1)) fun k hk => by
      rw [List.length_map]
      exact g.look_len (ix.kn _ (sgn_mem (places_lt hk)))
    rw [places_len] at h
    show (List.flatMap _ _).length ≤ _
    omega
  | put c w l =>
    have h := List.length_filter_le (fun k => decide (sgn x k = c)) (places x.length l)
    rw [places_len] at h
    show ((List.filter _ _).map _).length ≤ _
    rw [List.length_map]
    omega
theorem addSteps_mem {x : Thing} {k : Nat} : ∀ {f : List (Thing × Nat)} {l : List Thing} {p : Thing × Nat}, p ∈ addSteps x k f l → p ∈ f ∨ (p.1 ∈ l ∧ p.2 = k ∧ p.1 ≠ x)
  | f, [], p, h => .inl h
  | f, s :: r, p, h => by
    unfold addSteps at h
    split at h
    · rcases addSteps_mem h with h | h
      · exact .inl h
      · exact .inr ⟨List.mem_cons_of_mem _ h.1, h.2⟩
    · rename_i ns
      rcases addSteps_mem h with h | h
      · rcases List.mem_append.mp h with h | h
        · exact .inl h
        · rw [List.mem_singleton.mp h]
          exact .inr ⟨List.mem_cons_self .., rfl, fun e => ns (.inl e)⟩
      · exact .inr ⟨List.mem_cons_of_mem _ h.1, h.2⟩
theorem addSteps_len {x : Thing} {k : Nat} : ∀ {f : List (Thing × Nat)} {l : List Thing}, (addSteps x k f l).length ≤ f.length + l.length
  | f, [] => Nat.le_refl _
  | f, s :: r => by
    unfold addSteps
    split
    · exact Nat.le_trans (addSteps_len (l := r)) (by simp)
    · have := addSteps_len (x := x) (k := k) (f := f ++ [(s, k)]) (l := r)
      simp only [List.length_append, List.length_cons, List.length_nil] at this ⊢
      omega
theorem addSteps_snoc {x : Thing} {k : Nat} : ∀ (f : List (Thing × Nat)) (l : List Thing) (s : Thing), addSteps x k f (l ++ [s]) = addSteps x k (addSteps x k f l) [s]
  | f, [], s => rfl
  | f, a :: l, s => by
    rw [List.cons_append]
    conv => lhs; unfold addSteps
    conv => rhs; arg 3; unfold addSteps
    split
    · exact addSteps_snoc f l s
    · exact addSteps_snoc _ l s
end FF
/-! the checks of things, tests, manners -/
namespace FF
open PySem PySem.Spec PyProof.Rows L2
open Evl (Ex EvT)
/-- letters, rules and things as the law draws them -/
def sC (c : Nat) : Str := ⟨#[c]⟩
theorem sC_inj {a b : Nat} (h : sC a = sC b) : a = b := tS_inj (a := [a]) (b := [b]) h |> fun e => by injection e
theorem all_true {α : Type} {l : List α} : (l.map fun _ => true).all id = true := List.all_eq_true.mpr fun b hb => by
  obtain ⟨_, _, rfl⟩ := List.mem_map.mp hb
  rfl
def eTest (cs : List Thing) : PyData := .tuple [.str "causes", .tuple (cs.map eT)]
structure GoodCauses (L : Tab) (cs : List Thing) : Prop where
  ne : cs ≠ []
  th : ∀ t ∈ cs, IsThing L t
  up : cs.Pairwise (· < ·)
  len : cs.length ≤ 100
section
variable {P : Program} {w : World} {K : PySem.W.Frag} {mg : Str → Option Value} {base : Heap}
def domThing (ss : List Sh) (d : PyData) : Prop := ∃ t : Thing, ss = [.hd (eT t)] ∧ (∀ c ∈ t, low c) ∧ t.length ≤ 100 ∧ d = .bool true
theorem sc_is_thing : FnScope ["thing", "sign"] ["thing"] (defScope (top 10)) := ⟨rfl, rfl, rfl, by decide +kernel, rfl, by decide +kernel, by decide +kernel⟩
theorem c_is_thing (T : Txt K mg) : Cal P w K mg base 1 "is_thing" (spD domThing) [] := by
  refine cal_of (k := 0) T 1 (d := d_is_thing) rfl sc_is_thing rfl rfl (fun _ _ _ _ _ _ us hl => match us, hl with | [_], _ => rfl) (len_D fun _ _ ⟨_, e, _⟩ => by rw [e]; rfl) (fun f cdv A outer s H vs Q E hr h => ?_)
  obtain ⟨ss, d, r, ⟨t, rfl, ht, hl, rfl⟩, q⟩ := h
  have c := Cu.entry (N := ["thing", "sign"]) r
  refine ⟨_, (pss_one (ps_ret (pe_and (pe_callB (call_isiK' (K := K) rfl) rfl T.isinstance_ (by decide +kernel) (pa_cons (pv 0) (pa_cons (pe_bltn (v := .ty "str") rfl T.str_ (by decide +kernel) rfl) pa_nil))) (pe_one (pe_callB (cr_allK (K := K) rfl rfl) rfl T.all_ (by decide +kernel) (pa_cons (pe_lc (own := [("sign", 1)]) rfl sc_is_thing.nd (pi_str (pv 0)) (blkOk_by (N := ["thing", "sign"]) (sc := defScope (top 10)) (by decide +kernel)) (by intros; exact (pg_name (i := 1) sc_is_thing.nd rfl (by first | exact Or.inl rfl | exact Or.inr rfl))) (by intros; exact pts_nil) (by intros; exact (pe_cmpR op_in_sign (pv 1) (pe_glob (v := .str "abcdefghijklmnopqrstuvwxyz") rfl T.low.choose_spec ⟨_, rfl⟩) rfl))) pa_nil)))))), ?_⟩
  refine s_ret (ev_is (ev_and (b := true) (ev_isi (T := "str") (C := "str") (b := true) (c.var 0) ev_vl ty_str (by decide +kernel)) fun _ => ev_is (ev_all (bs := t.map fun _ => true) (es_is (ef_map c (ei_str (c.var 0)) (fun d _ => tg_name) (by decide) (fun _ => .bool true) (fun d hd σ' H' c' => ?_) ?_).s ?_)) ?_) rfl) fun v H' e rv => q v H' e rv
  · rw [signs_tS] at hd
    obtain ⟨x, hx, rfl⟩ := List.mem_map.mp hd
    exact ev_is (ev_inS (c'.var 1) ((ev_str (x := "abcdefghijklmnopqrstuvwxyz")))) (congrArg PyData.bool (decide_eq_true (low_in (ht x hx))))
  · rw [signs_tS, List.length_map]
    omega
  · rw [signs_tS, List.map_map, List.map_map]
    rfl
  · rw [all_true]
def domRising (ss : List Sh) (d : PyData) : Prop := ∃ cs : List Thing, ss = [.hd (.tuple (cs.map eT))] ∧ cs ≠ [] ∧ cs.Pairwise (· < ·) ∧ cs.length ≤ 100 ∧ d = .bool true
theorem pairUp_mem {cs : List Thing} (h : cs.Pairwise (· < ·)) : ∀ d ∈ pairUp (cs.map eT) ((cs.drop 1).map eT), ∃ a b : Thing, d = .tuple [eT a, eT b] ∧ a < b := fun d hd => by
  cases cs with
  | nil => cases hd
  | cons x r =>
    obtain ⟨i, hi⟩ := List.getElem?_of_mem hd
    unfold pairUp at hi
    rw [List.getElem?_zipWith, List.getElem?_map, List.getElem?_map] at hi
    cases e1 : (x :: r)[i]? with
    | none => rw [e1] at hi; cases hi
    | some a =>
      cases e2 : ((x :: r).drop 1)[i]? with
      | none => rw [e1, e2] at hi; cases hi
      | some b =>
        rw [e1, e2] at hi
        refine ⟨a, b, (Option.some.inj hi).symm, ?_⟩
        rw [List.getElem?_drop] at e2
        obtain ⟨h1, e1⟩ := List.getElem?_eq_some_iff.mp e1
        obtain ⟨h2, e2⟩ := List.getElem?_eq_some_iff.mp e2
        rw [← e1, ← e2]
        exact List.pairwise_iff_getElem.mp h i (1 + i) h1 h2 (by omega)
theorem sc_is_rising_row : FnScope ["row", "one", "other"] ["row"] (defScope (top 11)) := ⟨rfl, rfl, rfl, by decide +kernel, rfl, by decide +kernel, by decide +kernel⟩
theorem c_is_rising_row (T : Txt K mg) : Cal P w K mg base 1 "is_rising_row" (spD domRising) [] := by
  refine cal_of (k := 0) T 2 (d := d_is_rising_row) rfl sc_is_rising_row rfl rfl (fun _ _ _ _ _ _ us hl => match us, hl with | [_], _ => rfl) (len_D fun _ _ ⟨_, e, _⟩ => by rw [e]; rfl) (fun f cdv A outer s H vs Q E hr h => ?_)
  obtain ⟨ss, d, r, ⟨t, rfl, hne, hup, hl, rfl⟩, q⟩ := h
  have c := Cu.entry (N := ["row", "one", "other"]) r
  refine ⟨_, (pss_one (ps_ret (pe_callB (cr_allK (K := K) rfl rfl) rfl T.all_ (by decide +kernel) (pa_cons (pe_lc (own := [("one", 1), ("other", 2)]) rfl sc_is_rising_row.nd (pi_zipK (K := K) rfl rfl T.zip_ (pa_cons (pv 0) (pa_cons (pe_slice (sl_tupK (K := K) rfl) (pv 0) (po_some pe_int) po_none) pa_nil))) (blkOk_by (N := ["row", "one", "other"]) (sc := defScope (top 11)) (by decide +kernel)) (by intros; exact (pg_two (K := K) (i := 1) (j := 2) rfl rfl sc_is_rising_row.nd rfl rfl (by first | exact Or.inl rfl | exact Or.inr rfl) (by first | exact Or.inl rfl | exact Or.inr rfl) (by first | exact Or.inl rfl | exact Or.inr rfl) (by first | exact Or.inl rfl | exact Or.inr rfl))) (by intros; exact pts_nil) (by intros; exact (pe_cmpR op_lt_str (pv 1) (pv 2) (nomark _)))) pa_nil)))), ?_⟩
  have htail : EvAs (tCons (tVar 0) (tCons (tSl (rSlT K) (tVar 0) (tPart (tC (.int 1))) tNoPart) tNil)) (start ["row", "one", "other"] vs) H [.hd (.tuple (t.map eT)), .hd (.tuple ((t.drop 1).map eT))] := by
    cases t with
    | nil => exact absurd rfl hne
    | cons a as => exact ea_cons (c.var 0) (ea_cons (ev_tail (c.var 0) (eo_some ev_int) eo_none) ea_nil)
  refine s_ret (s := .hd (.bool true)) (ev_is (ev_all (bs := (pairUp (t.map eT) ((t.drop 1).map eT)).map fun _ => true) (es_is (ef_map c (ei_zipT htail) (js := [1, 2]) (u := fun d => match d with | .tuple [a, b] => fun cs => (cs.set 1 (.hd a)).set 2 (.hd b) | _ => id) (fun d hd => ?_) (by decide) (fun _ => .bool true) (fun d hd σ' H' c' => ?_) ?_).s ?_)) ?_) fun v H' e rv => q v H' e rv
  · obtain ⟨a, b, rfl, _⟩ := pairUp_mem hup d hd
    exact tg_two
  · obtain ⟨a, b, rfl, hab⟩ := pairUp_mem hup d hd
    refine ev_is (ev_ltS (a := tS a) (b := tS b) (c'.var 1) (c'.var 2)) (congrArg PyData.bool (decide_eq_true ?_))
    rw [tS_list, tS_list]
    exact hab
  · unfold pairUp
    rw [List.length_zipWith, List.length_map]
    omega
  · rw [List.map_map]
    rfl
  · rw [all_true]
def domThings (ss : List Sh) (d : PyData) : Prop := ∃ cs : List Thing, ss = [.hd (.tuple (cs.map eT))] ∧ cs ≠ [] ∧ (∀ t ∈ cs, (∀ c ∈ t, low c) ∧ t.length ≤ 100) ∧ cs.Pairwise (· < ·) ∧ cs.length ≤ 100 ∧ d = .bool true
theorem sc_is_things : FnScope ["thing", "one"] ["thing"] (defScope (top 12)) := ⟨rfl, rfl, rfl, by decide +kernel, rfl, by decide +kernel, by decide +kernel⟩
theorem c_is_things (T : Txt K mg) : Cal P w K mg base 2 "is_things" (spD domThings) [] := by
  refine cal_of (k := 1) T 3 (d := d_is_things) rfl sc_is_things rfl rfl (fun _ _ _ _ _ _ us hl => match us, hl with | [_], _ => rfl) (len_D fun _ _ ⟨_, e, _⟩ => by rw [e]; rfl) (fun f cdv A outer s H vs Q E hr h => ?_)
  obtain ⟨ss, d, r, ⟨cs, rfl, hne, ht, hup, hl, rfl⟩, q⟩ := h
  have c := Cu.entry (N := ["thing", "one"]) r
  refine ⟨_, (pss_one (ps_ret (pe_and (pe_callB (call_isiK' (K := K) rfl) rfl T.isinstance_ (by decide +kernel) (pa_cons (pv 0) (pa_cons (pe_bltn (v := .ty "tuple") rfl T.tuple_ (by decide +kernel) rfl) pa_nil))) (pe_and (pe_callB (cr_allK (K := K) rfl rfl) rfl T.all_ (by decide +kernel) (pa_cons (pe_lc (own := [("one", 1)]) rfl sc_is_things.nd (pi_tupK (K := K) rfl (pv 0)) (blkOk_by (N := ["thing", "one"]) (sc := defScope (top 12)) (by decide +kernel)) (by intros; exact (pg_name (i := 1) sc_is_things.nd rfl (by first | exact Or.inl rfl | exact Or.inr rfl))) (by intros; exact pts_nil) (by intros; exact (pe_c (c_is_thing T) hr (by decide) rfl (pa_cons (pv 1) pa_nil)))) pa_nil)) (pe_one (pe_c (c_is_rising_row T) hr (by decide) rfl (pa_cons (pv 0) pa_nil))))))), ?_⟩
  refine s_ret (ev_is (ev_and (b := true) (ev_isi (T := "tuple") (C := "tuple") (b := true) (c.var 0) ev_vl ty_tup (by decide +kernel)) fun _ => ev_is (ev_and (b := true) (ev_all (bs := cs.map fun _ => true) (es_is (ef_map c (ei_tup (c.var 0) (nofun)) (fun d _ => tg_name) (by decide) (fun _ => .bool true) (fun d hd σ' H' c' => ?_) ?_).s ?_)) fun _ => ?_) ?_) rfl) fun v H' e rv => q v H' e rv
  · obtain ⟨t, h1, rfl⟩ := List.mem_map.mp hd
    exact ev_call0 (ea_cons (c'.var 1) ea_nil) ⟨t, rfl, (ht t h1).1, (ht t h1).2, rfl⟩
  · rw [List.length_map]
    omega
  · rw [List.map_map, List.map_map]
    rfl
  · exact ev_call0 (ea_cons (c.var 0) ea_nil) ⟨cs, rfl, hne, hup, hl, rfl⟩
  · rw [all_true]
    rfl
def domPair (ss : List Sh) (d : PyData) : Prop := ∃ a b : PyData, ss = [.hd (.tuple [a, b])] ∧ d = .bool true
theorem sc_is_pair : FnScope ["thing"] ["thing"] (defScope (top 14)) := ⟨rfl, rfl, rfl, by decide +kernel, rfl, by decide +kernel, by decide +kernel⟩
theorem c_is_pair (T : Txt K mg) : Cal P w K mg base 1 "is_pair" (spD domPair) [] := by
  refine cal_of (k := 0) T 5 (d := d_is_pair) rfl sc_is_pair rfl rfl (fun _ _ _ _ _ _ us hl => match us, hl with | [_], _ => rfl) (len_D fun _ _ ⟨_, _, e, _⟩ => by rw [e]; rfl) (fun f cdv A outer s H vs Q E hr h => ?_)
  obtain ⟨ss, d, r, ⟨a, b, rfl, rfl⟩, q⟩ := h
  have c := Cu.entry (N := ["thing"]) r
  refine ⟨_, (pss_one (ps_ret (pe_and (pe_callB (call_isiK' (K := K) rfl) rfl T.isinstance_ (by decide +kernel) (pa_cons (pv 0) (pa_cons (pe_bltn (v := .ty "tuple") rfl T.tuple_ (by decide +kernel) rfl) pa_nil))) (pe_one (pe_cmpR op_eq (pe_callB (call_len_seqK (K := K) rfl) rfl T.len_ (by decide +kernel) (pa_cons (pv 0) pa_nil)) pe_int (nomark _)))))), ?_⟩
  exact s_ret (ev_is (ev_and (b := true) (ev_isi (T := "tuple") (C := "tuple") (b := true) (c.var 0) ev_vl ty_tup (by decide +kernel)) fun _ => ev_is (ev_eqI (ev_lenT (c.var 0)) ev_int) rfl) rfl) fun v H' e rv => q v H' e rv
def domTest (ss : List Sh) (d : PyData) : Prop := ∃ cs : List Thing, ss = [.hd (eTest cs)] ∧ cs ≠ [] ∧ (∀ t ∈ cs, (∀ c ∈ t, low c) ∧ t.length ≤ 100) ∧ cs.Pairwise (· < ·) ∧ cs.length ≤ 100 ∧ d = .bool true
theorem sc_is_test : FnScope ["thing"] ["thing"] (defScope (top 15)) := ⟨rfl, rfl, rfl, by decide +kernel, rfl, by decide +kernel, by decide +kernel⟩
theorem c_is_test (T : Txt K mg) : Cal P w K mg base 3 "is_test" (spD domTest) [] := by
  refine cal_of (k := 2) T 6 (d := d_is_test) rfl sc_is_test rfl rfl (fun _ _ _ _ _ _ us hl => match us, hl with | [_], _ => rfl) (len_D fun _ _ ⟨_, e, _⟩ => by rw [e]; rfl) (fun f cdv A outer s H vs Q E hr h => ?_)
  obtain ⟨ss, d, r, ⟨cs, rfl, hne, ht, hup, hl, rfl⟩, q⟩ := h
  have c := Cu.entry (N := ["thing"]) r
  refine ⟨_, (pss_cons (ps_if (PW.pt (pw_or (pt_not (pt_val (pe_c (c_is_pair T) hr (by decide) rfl (pa_cons (pv 0) pa_nil)))) (pw_or1 (pt_not (pt_val (pe_callB (call_isiK' (K := K) rfl) rfl T.isinstance_ (by decide +kernel) (pa_cons (pe_ix (ix_tupK (K := K) rfl) (pv 0) pe_int (fun _ _ => rfl)) (pa_cons (pe_bltn (v := .ty "str") rfl T.str_ (by decide +kernel) rfl) pa_nil)))))))) pss_never pss_nil)
  (pss_cons (ps_if (pt_cmpR op_eq (pe_ix (ix_tupK (K := K) rfl) (pv 0) pe_int (fun _ _ => rfl)) pe_str (nomark _)) pss_never pss_nil)
  (pss_one (ps_ret (pe_and (pe_cmpR (op_in_seqK (K := K) rfl) (pe_ix (ix_tupK (K := K) rfl) (pv 0) pe_int (fun _ _ => rfl)) (pe_glob (v := .ref T.tests.choose) rfl T.tests.choose_spec.1 rfl) rfl) (pe_one (pe_c (c_is_things T) hr (by decide) rfl (pa_cons (pe_ix (ix_tupK (K := K) rfl) (pv 0) pe_int (fun _ _ => rfl)) pa_nil)))))))), ?_⟩
  have h0 : ∀ {Hb σ' H'}, Cu Hb [] [.hd (eTest cs)] σ' H' → EvD (tOp (rIxT K) (tVar 0) (tC (.int 0))) σ' H' (.str "causes") := fun c => ev_ixT (c.var 0) ev_int rfl
  refine s_if c (b := false) (Evl.et_is (Evl.et_or (a := false) (b := false) (Evl.et_is (Evl.et_not (et_B (ev_call0 (ea_cons (c.var 0) ea_nil) ⟨_, _, rfl, rfl⟩))) rfl) fun _ => Evl.et_is (Evl.et_not (et_B (ev_isi (T := "str") (C := "str") (b := true) (h0 c) ev_vl ty_str (by decide +kernel)))) rfl) rfl) (nofun) fun _ H1 e1 c1 => ?_
  refine st_seq (s_if c1 (b := false) (et_test (ev_is (ev_eqS (h0 c1) ev_str) (congrArg PyData.bool (by decide +kernel)))) (nofun) fun _ H2 e2 c2 => ?_)
  obtain ⟨hk1, hk2⟩ := T.tests.choose_spec
  refine s_ret (ev_is (ev_and (a := true) (b := true) (ev_is (ev_inK (p := T.tests.choose) (ys := ["causes", "only", "but"]) (h0 c2) ev_vl hk2) (congrArg PyData.bool (by decide +kernel))) fun _ => ev_call0 (ea_cons (ev_ixT (c2.var 0) ev_int rfl) ea_nil) ⟨cs, rfl, hne, ht, hup, hl, rfl⟩) rfl) fun v H' e rv => q v H' ((e1.trans e2).trans e) rv
end
end FF
/-! what is wanted of parameters -/
namespace FF
open PySem PySem.Spec PyProof.Rows L2
open Evl (Ex EvT)
theorem mem_sC {c : Nat} {l : List Nat} (h : c ∈ l) : sC c ∈ l.map sC := List.mem_map.mpr ⟨c, h, rfl⟩
theorem mem_sC_iff {c : Nat} {l : List Nat} : sC c ∈ l.map sC ↔ c ∈ l := ⟨fun h => by
  obtain ⟨d, h1, h2⟩ := List.mem_map.mp h
  rw [← sC_inj h2]
  exact h1, mem_sC⟩
theorem eC_str (l : List Nat) : l.map eC = (l.map sC).map PyData.str := by rw [List.map_map]; rfl
section
variable {P : Program} {w : World} {K : PySem.W.Frag} {mg : Str → Option Value} {base : Heap}
def domWant (ss : List Sh) (d : PyData) : Prop := ∃ x : Str, ss = [.hd (.bool true), .hd (.str x), .hd (.int (-1))] ∧ d = .none
def domKnown (ss : List Sh) (d : PyData) : Prop := ∃ B : Book, ss = [.hd (eBook B)] ∧ B.tab.length ≤ 3 ∧ d = .tuple ((names B.tab).map eC)
def domThingOf (ss : List Sh) (d : PyData) : Prop := ∃ (B : Book) (t : Thing), ss = [.hd (eBook B), .hd (eT t)] ∧ GoodTab B.tab ∧ IsThing B.tab t ∧ d = .bool true
theorem want_at (H : Hp) : ShAll H [.hd (.int (-1))] [.int (-1)] := ⟨rfl, trivial⟩
theorem sc_want_stepusable : FnScope ["is_right", "name", "at"] ["is_right", "name", "at"] (defScope (top 19)) := ⟨rfl, rfl, rfl, by decide +kernel, rfl, by decide +kernel, by decide +kernel⟩
theorem c_want_stepusable (T : Txt K mg) : Cal P w K mg base 1 "want_stepusable" (spD domWant) [.int (-1)] := by
  refine cal_dfl (k := 0) T 8 (d := d_want_stepusable) rfl sc_want_stepusable 2 (List.cons_ne_nil _ _) rfl (fun _ _ _ _ _ _ _ us its hl hl2 => match us, hl, its, hl2 with | [_, _], _, [_], _ => ⟨_, rfl, rfl⟩) (len_D fun _ _ ⟨_, e, _⟩ => by rw [e]; rfl) (fun f cdv A outer s H vs Q E hr h => ?_)
  obtain ⟨ss, d, r, ⟨x, rfl, rfl⟩, q⟩ := h
  have c := Cu.entry (N := ["is_right", "name", "at"]) r
  refine ⟨_, (pss_one (ps_if (pt_not (pt_val (pv 0))) pss_never pss_nil)), ?_⟩
  exact s_if c (b := false) (Evl.et_is (Evl.et_not (et_B (c.var 0))) rfl) (nofun) fun _ H1 e1 c1 => q .non H1 e1 rfl
theorem sc_known_letters_stepusable : FnScope ["book", "letter", "lessers"] ["book"] (defScope (top 21)) := ⟨rfl, rfl, rfl, by decide +kernel, rfl, by decide +kernel, by decide +kernel⟩
theorem c_known_letters_stepusable (T : Txt K mg) : Cal P w K mg base 1 "known_letters_stepusable" (spD domKnown) [] := by
  refine cal_of (k := 0) T 9 (d := d_known_letters_stepusable) rfl sc_known_letters_stepusable rfl rfl (fun _ _ _ _ _ _ us hl => match us, hl with | [_], _ => rfl) (len_D fun _ _ ⟨_, e, _⟩ => by rw [e]; rfl) (fun f cdv A outer s H vs Q E hr h => ?_)
  obtain ⟨ss, d, r, ⟨B, rfl, hl, rfl⟩, q⟩ := h
  have c := Cu.entry (N := ["book", "letter", "lessers"]) r
  refine ⟨_, (pss_one (ps_ret (pe_callTy (call_tuple_ofK (K := K) rfl) rfl T.tuple_ (by decide +kernel) (pa_cons (pe_lc (own := [("letter", 1), ("lessers", 2)]) rfl sc_known_letters_stepusable.nd (pi_tupK (K := K) rfl (pe_ix (ix_tupK (K := K) rfl) (pv 0) pe_int (fun _ _ => rfl))) (blkOk_by (N := ["book", "letter", "lessers"]) (sc := defScope (top 21)) (by decide +kernel)) (by intros; exact (pg_two (K := K) (i := 1) (j := 2) rfl rfl sc_known_letters_stepusable.nd rfl rfl (by first | exact Or.inl rfl | exact Or.inr rfl) (by first | exact Or.inl rfl | exact Or.inr rfl) (by first | exact Or.inl rfl | exact Or.inr rfl) (by first | exact Or.inl rfl | exact Or.inr rfl))) (by intros; exact pts_nil) (by intros; exact (pv 1))) pa_nil)))), ?_⟩
  refine s_ret (s := .hd (.tuple ((names B.tab).map eC))) (ev_is (ev_tupL (ef_map c (ei_tup (ds := B.tab.map fun p => .tuple [eC p.1, .tuple (p.2.map eC)]) (ev_pt (ev_ixT (c.var 0) ev_int rfl)) (nofun)) (js := [1, 2]) (u := fun d => match d with | .tuple [a, b] => fun cs => (cs.set 1 (.hd a)).set 2 (.hd b) | _ => id) (fun d hd => ?_) (by decide) (fun d => match d with | .tuple [a, b] => a | _ => .none) (fun d hd σ' H' c' => ?_) ?_).s) ?_) q
  · obtain ⟨p, _, rfl⟩ := List.mem_map.mp hd
    exact tg_two
  · obtain ⟨p, _, rfl⟩ := List.mem_map.mp hd
    exact c'.var 1
  · rw [List.length_map]
    omega
  · unfold names
    rw [List.map_map, List.map_map]
    rfl
theorem sc_want_usable : FnScope ["is_right", "word", "at"] ["is_right", "word", "at"] (defScope (top 43)) := ⟨rfl, rfl, rfl, by decide +kernel, rfl, by decide +kernel, by decide +kernel⟩
theorem c_want_usable (T : Txt K mg) : Cal P w K mg base 1 "want_usable" (spD domWant) [.int (-1)] := by
  refine cal_dfl (k := 0) T 26 (d := d_want_usable) rfl sc_want_usable 2 (List.cons_ne_nil _ _) rfl (fun _ _ _ _ _ _ _ us its hl hl2 => match us, hl, its, hl2 with | [_, _], _, [_], _ => ⟨_, rfl, rfl⟩) (len_D fun _ _ ⟨_, e, _⟩ => by rw [e]; rfl) (fun f cdv A outer s H vs Q E hr h => ?_)
  obtain ⟨ss, d, r, ⟨x, rfl, rfl⟩, q⟩ := h
  have c := Cu.entry (N := ["is_right", "word", "at"]) r
  refine ⟨_, (pss_one (ps_if (pt_not (pt_val (pv 0))) pss_never pss_nil)), ?_⟩
  exact s_if c (b := false) (Evl.et_is (Evl.et_not (et_B (c.var 0))) rfl) (nofun) fun _ H1 e1 c1 => q .non H1 e1 rfl
theorem sc_known_letters_usable : FnScope ["book", "letter", "lessers"] ["book"] (defScope (top 45)) := ⟨rfl, rfl, rfl, by decide +kernel, rfl, by decide +kernel, by decide +kernel⟩
theorem c_known_letters_usable (T : Txt K mg) : Cal P w K mg base 1 "known_letters_usable" (spD domKnown) [] := by
  refine cal_of (k := 0) T 27 (d := d_known_letters_usable) rfl sc_known_letters_usable rfl rfl (fun _ _ _ _ _ _ us hl => match us, hl with | [_], _ => rfl) (len_D fun _ _ ⟨_, e, _⟩ => by rw [e]; rfl) (fun f cdv A outer s H vs Q E hr h => ?_)
  obtain ⟨ss, d, r, ⟨B, rfl, hl, rfl⟩, q⟩ := h
  have c := Cu.entry (N := ["book", "letter", "lessers"]) r
  refine ⟨_, (pss_one (ps_ret (pe_callTy (call_tuple_ofK (K := K) rfl) rfl T.tuple_ (by decide +kernel) (pa_cons (pe_lc (own := [("letter", 1), ("lessers", 2)]) rfl sc_known_letters_usable.nd (pi_tupK (K := K) rfl (pe_ix (ix_tupK (K := K) rfl) (pv 0) pe_int (fun _ _ => rfl))) (blkOk_by (N := ["book", "letter", "lessers"]) (sc := defScope (top 45)) (by decide +kernel)) (by intros; exact (pg_two (K := K) (i := 1) (j := 2) rfl rfl sc_known_letters_usable.nd rfl rfl (by first | exact Or.inl rfl | exact Or.inr rfl) (by first | exact Or.inl rfl | exact Or.inr rfl) (by first | exact Or.inl rfl | exact Or.inr rfl) (by first | exact Or.inl rfl | exact Or.inr rfl))) (by intros; exact pts_nil) (by intros; exact (pv 1))) pa_nil)))), ?_⟩
  refine s_ret (s := .hd (.tuple ((names B.tab).map eC))) (ev_is (ev_tupL (ef_map c (ei_tup (ds := B.tab.map fun p => .tuple [eC p.1, .tuple (p.2.map eC)]) (ev_pt (ev_ixT (c.var 0) ev_int rfl)) (nofun)) (js := [1, 2]) (u := fun d => match d with | .tuple [a, b] => fun cs => (cs.set 1 (.hd a)).set 2 (.hd b) | _ => id) (fun d hd => ?_) (by decide) (fun d => match d with | .tuple [a, b] => a | _ => .none) (fun d hd σ' H' c' => ?_) ?_).s) ?_) q
  · obtain ⟨p, _, rfl⟩ := List.mem_map.mp hd
    exact tg_two
  · obtain ⟨p, _, rfl⟩ := List.mem_map.mp hd
    exact c'.var 1
  · rw [List.length_map]
    omega
  · unfold names
    rw [List.map_map, List.map_map]
    rfl
theorem sc_is_thing_of_stepusable : FnScope ["book", "thing", "known", "sign"] ["book", "thing"] (defScope (top 23)) := ⟨rfl, rfl, rfl, by decide +kernel, rfl, by decide +kernel, by decide +kernel⟩
theorem c_is_thing_of_stepusable (T : Txt K mg) : Cal P w K mg base 2 "is_thing_of_stepusable" (spD domThingOf) [] := by
  refine cal_of (k := 1) T 10 (d := d_is_thing_of_stepusable) rfl sc_is_thing_of_stepusable rfl rfl (fun _ _ _ _ _ _ us hl => match us, hl with | [_, _], _ => rfl) (len_D fun _ _ ⟨_, _, e, _⟩ => by rw [e]; rfl) (fun f cdv A outer s H vs Q E hr h => ?_)
  obtain ⟨ss, d, r, ⟨B, t, rfl, gt, it, rfl⟩, q⟩ := h
  have c := Cu.entry (N := ["book", "thing", "known", "sign"]) r
  refine ⟨_, (pss_cons (ps_set (i := 2) sc_is_thing_of_stepusable.nd rfl (by first | exact Or.inl rfl | exact Or.inr rfl) (pe_c (c_known_letters_stepusable T) hr (by decide) rfl (pa_cons (pv 0) pa_nil)))
  (pss_one (ps_ret (pe_and (pe_c (c_is_thing T) hr (by decide) rfl (pa_cons (pv 1) pa_nil)) (pe_one (pe_callB (cr_allK (K := K) rfl rfl) rfl T.all_ (by decide +kernel) (pa_cons (pe_lc (own := [("sign", 3)]) rfl sc_is_thing_of_stepusable.nd (pi_str (pv 1)) (blkOk_by (N := ["book", "thing", "known", "sign"]) (sc := defScope (top 23)) (by decide +kernel)) (by intros; exact (pg_name (i := 3) sc_is_thing_of_stepusable.nd rfl (by first | exact Or.inl rfl | exact Or.inr rfl))) (by intros; exact pts_nil) (by intros; exact (pe_cmpR (op_in_seqK (K := K) rfl) (pv 3) (pv 2) rfl))) pa_nil))))))), ?_⟩
  refine st_seq (s_set c (ev_call0 (ea_cons (c.var 0) ea_nil) ⟨B, rfl, gt.len, rfl⟩) fun Hb' σ' H1 e1 c1 => ?_)
  refine s_ret (s := .hd (.bool true)) (ev_is (ev_and (a := true) (b := true) (ev_call0 (ea_cons (c1.var 1) ea_nil) ⟨t, rfl, gt.low it, Nat.le_trans it.len (by decide), rfl⟩) fun _ => ev_is (ev_all (bs := t.map fun _ => true) (es_is (ef_map c1 (ei_str (c1.var 1)) (fun d _ => tg_name) (by decide) (fun _ => .bool true) (fun d hd σ' H' c' => ?_) ?_).s ?_)) ?_) rfl) fun v H' e rv => q v H' ((e1.trans c1.ex).trans e) rv
  · rw [signs_tS] at hd
    obtain ⟨x, hx, rfl⟩ := List.mem_map.mp hd
    exact ev_is (ev_inT (x := sC x) (ys := (names B.tab).map sC) (c'.var 3) (ev_is (c'.var 2) (by rw [eC_str]))) (congrArg PyData.bool (decide_eq_true (mem_sC (it.kn x hx))))
  · rw [signs_tS, List.length_map]
    exact Nat.le_trans it.len (by decide)
  · rw [signs_tS, List.map_map, List.map_map]
    rfl
  · rw [all_true]
theorem sc_is_thing_of_usable : FnScope ["book", "thing", "known", "letter"] ["book", "thing"] (defScope (top 47)) := ⟨rfl, rfl, rfl, by decide +kernel, rfl, by decide +kernel, by decide +kernel⟩
theorem c_is_thing_of_usable (T : Txt K mg) : Cal P w K mg base 2 "is_thing_of_usable" (spD domThingOf) [] := by
  refine cal_of (k := 1) T 28 (d := d_is_thing_of_usable) rfl sc_is_thing_of_usable rfl rfl (fun _ _ _ _ _ _ us hl => match us, hl with | [_, _], _ => rfl) (len_D fun _ _ ⟨_, _, e, _⟩ => by rw [e]; rfl) (fun f cdv A outer s H vs Q E hr h => ?_)
  obtain ⟨ss, d, r, ⟨B, t, rfl, gt, it, rfl⟩, q⟩ := h
  have c := Cu.entry (N := ["book", "thing", "known", "letter"]) r
  refine ⟨_, (pss_cons (ps_set (i := 2) sc_is_thing_of_usable.nd rfl (by first | exact Or.inl rfl | exact Or.inr rfl) (pe_c (c_known_letters_usable T) hr (by decide) rfl (pa_cons (pv 0) pa_nil)))
  (pss_one (ps_ret (pe_and (pe_c (c_is_thing T) hr (by decide) rfl (pa_cons (pv 1) pa_nil)) (pe_one (pe_callB (cr_allK (K := K) rfl rfl) rfl T.all_ (by decide +kernel) (pa_cons (pe_lc (own := [("letter", 3)]) rfl sc_is_thing_of_usable.nd (pi_str (pv 1)) (blkOk_by (N := ["book", "thing", "known", "letter"]) (sc := defScope (top 47)) (by decide +kernel)) (by intros; exact (pg_name (i := 3) sc_is_thing_of_usable.nd rfl (by first | exact Or.inl rfl | exact Or.inr rfl))) (by intros; exact pts_nil) (by intros; exact (pe_cmpR (op_in_seqK (K := K) rfl) (pv 3) (pv 2) rfl))) pa_nil))))))), ?_⟩
  refine st_seq (s_set c (ev_call0 (ea_cons (c.var 0) ea_nil) ⟨B, rfl, gt.len, rfl⟩) fun Hb' σ' H1 e1 c1 => ?_)
  refine s_ret (s := .hd (.bool true)) (ev_is (ev_and (a := true) (b := true) (ev_call0 (ea_cons (c1.var 1) ea_nil) ⟨t, rfl, gt.low it, Nat.le_trans it.len (by decide), rfl⟩) fun _ => ev_is (ev_all (bs := t.map fun _ => true) (es_is (ef_map c1 (ei_str (c1.var 1)) (fun d _ => tg_name) (by decide) (fun _ => .bool true) (fun d hd σ' H' c' => ?_) ?_).s ?_)) ?_) rfl) fun v H' e rv => q v H' ((e1.trans c1.ex).trans e) rv
  · rw [signs_tS] at hd
    obtain ⟨x, hx, rfl⟩ := List.mem_map.mp hd
    exact ev_is (ev_inT (x := sC x) (ys := (names B.tab).map sC) (c'.var 3) (ev_is (c'.var 2) (by rw [eC_str]))) (congrArg PyData.bool (decide_eq_true (mem_sC (it.kn x hx))))
  · rw [signs_tS, List.length_map]
    exact Nat.le_trans it.len (by decide)
  · rw [signs_tS, List.map_map, List.map_map]
    rfl
  · rw [all_true]
def domWantThing (ss : List Sh) (d : PyData) : Prop := ∃ (B : Book) (t : Thing) (x : Str), ss = [.hd (eBook B), .hd (.str x), .hd (eT t)] ∧ GoodTab B.tab ∧ IsThing B.tab t ∧ d = .none
theorem sc_want_thing_stepusable : FnScope ["book", "name", "thing"] ["book", "name", "thing"] (defScope (top 26)) := ⟨rfl, rfl, rfl, by decide +kernel, rfl, by decide +kernel, by decide +kernel⟩
theorem c_want_thing_stepusable (T : Txt K mg) : Cal P w K mg base 3 "want_thing_stepusable" (spD domWantThing) [] := by
  refine cal_of (k := 2) T 12 (d := d_want_thing_stepusable) rfl sc_want_thing_stepusable rfl rfl (fun _ _ _ _ _ _ us hl => match us, hl with | [_, _, _], _ => rfl) (len_D fun _ _ ⟨_, _, _, e, _⟩ => by rw [e]; rfl) (fun f cdv A outer s H vs Q E hr h => ?_)
  obtain ⟨ss, d, r, ⟨B, t, x, rfl, gt, it, rfl⟩, q⟩ := h
  have c := Cu.entry (N := ["book", "name", "thing"]) r
  refine ⟨_, (pss_one (ps_expr (pe_c (c_want_stepusable T) hr (by decide) rfl (pa_cons (pe_c (c_is_thing_of_stepusable T) hr (by decide) rfl (pa_cons (pv 0) (pa_cons (pv 2) pa_nil))) (pa_cons (pv 1) pa_nil))))), ?_⟩
  exact s_drop (s := .hd .none) (ev_call (ea_cons (ev_call0 (ea_cons (c.var 0) (ea_cons (c.var 2) ea_nil)) ⟨B, t, rfl, gt, it, rfl⟩) (ea_cons (c.var 1) ea_nil)) ⟨x, rfl, rfl⟩ want_at) fun H1 e1 => q .non H1 e1 rfl
def domWantThing2 (ss : List Sh) (d : PyData) : Prop := ∃ (B : Book) (t : Thing) (x : Str), ss = [.hd (.str x), .hd (eBook B), .hd (eT t)] ∧ GoodTab B.tab ∧ IsThing B.tab t ∧ d = .none
theorem sc_want_thing_usable : FnScope ["word", "book", "thing"] ["word", "book", "thing"] (defScope (top 49)) := ⟨rfl, rfl, rfl, by decide +kernel, rfl, by decide +kernel, by decide +kernel⟩
theorem c_want_thing_usable (T : Txt K mg) : Cal P w K mg base 3 "want_thing_usable" (spD domWantThing2) [] := by
  refine cal_of (k := 2) T 29 (d := d_want_thing_usable) rfl sc_want_thing_usable rfl rfl (fun _ _ _ _ _ _ us hl => match us, hl with | [_, _, _], _ => rfl) (len_D fun _ _ ⟨_, _, _, e, _⟩ => by rw [e]; rfl) (fun f cdv A outer s H vs Q E hr h => ?_)
  obtain ⟨ss, d, r, ⟨B, t, x, rfl, gt, it, rfl⟩, q⟩ := h
  have c := Cu.entry (N := ["word", "book", "thing"]) r
  refine ⟨_, (pss_one (ps_expr (pe_c (c_want_usable T) hr (by decide) rfl (pa_cons (pe_c (c_is_thing_of_usable T) hr (by decide) rfl (pa_cons (pv 1) (pa_cons (pv 2) pa_nil))) (pa_cons (pv 0) pa_nil))))), ?_⟩
  exact s_drop (s := .hd .none) (ev_call (ea_cons (ev_call0 (ea_cons (c.var 1) (ea_cons (c.var 2) ea_nil)) ⟨B, t, rfl, gt, it, rfl⟩) (ea_cons (c.var 0) ea_nil)) ⟨x, rfl, rfl⟩ want_at) fun H1 e1 => q .non H1 e1 rfl
def domTestOf (ss : List Sh) (d : PyData) : Prop := ∃ (B : Book) (cs : List Thing), ss = [.hd (eBook B), .hd (eTest cs)] ∧ GoodTab B.tab ∧ GoodCauses B.tab cs ∧ d = .bool true
theorem sc_is_test_of : FnScope ["book", "test", "one"] ["book", "test"] (defScope (top 25)) := ⟨rfl, rfl, rfl, by decide +kernel, rfl, by decide +kernel, by decide +kernel⟩
theorem c_is_test_of (T : Txt K mg) : Cal P w K mg base 4 "is_test_of" (spD domTestOf) [] := by
  refine cal_of (k := 3) T 11 (d := d_is_test_of) rfl sc_is_test_of rfl rfl (fun _ _ _ _ _ _ us hl => match us, hl with | [_, _], _ => rfl) (len_D fun _ _ ⟨_, _, e, _⟩ => by rw [e]; rfl) (fun f cdv A outer s H vs Q E hr h => ?_)
  obtain ⟨ss, d, r, ⟨B, cs, rfl, gt, gc, rfl⟩, q⟩ := h
  have c := Cu.entry (N := ["book", "test", "one"]) r
  refine ⟨_, (pss_one (ps_ret (pe_and (pe_c (c_is_test T) hr (by decide) rfl (pa_cons (pv 1) pa_nil)) (pe_one (pe_callB (cr_allK (K := K) rfl rfl) rfl T.all_ (by decide +kernel) (pa_cons (pe_lc (own := [("one", 2)]) rfl sc_is_test_of.nd (pi_tupK (K := K) rfl (pe_ix (ix_tupK (K := K) rfl) (pv 1) pe_int (fun _ _ => rfl))) (blkOk_by (N := ["book", "test", "one"]) (sc := defScope (top 25)) (by decide +kernel)) (by intros; exact (pg_name (i := 2) sc_is_test_of.nd rfl (by first | exact Or.inl rfl | exact Or.inr rfl))) (by intros; exact pts_nil) (by intros; exact (pe_c (c_is_thing_of_stepusable T) hr (by decide) rfl (pa_cons (pv 0) (pa_cons (pv 2) pa_nil))))) pa_nil)))))), ?_⟩
  refine s_ret (s := .hd (.bool true)) (ev_is (ev_and (a := true) (b := true) (ev_call0 (ea_cons (c.var 1) ea_nil) ⟨cs, rfl, gc.ne, fun t ht => ⟨gt.low (gc.th t ht), Nat.le_trans (gc.th t ht).len (by decide)⟩, gc.up, gc.len, rfl⟩) fun _ => ev_is (ev_all (bs := cs.map fun _ => true) (es_is (ef_map c (ei_tup (ds := cs.map eT) (ev_ixT (c.var 1) ev_int rfl) (nofun)) (fun d _ => tg_name) (by decide) (fun _ => .bool true) (fun d hd σ' H' c' => ?_) ?_).s ?_)) ?_) rfl) q
  · obtain ⟨t, ht, rfl⟩ := List.mem_map.mp hd
    exact ev_call0 (ea_cons (c'.var 0) (ea_cons (c'.var 2) ea_nil)) ⟨B, t, rfl, gt, gc.th t ht, rfl⟩
  · rw [List.length_map]
    exact Nat.le_trans gc.len (by decide)
  · rw [List.map_map, List.map_map]
    rfl
  · rw [all_true]
def domWantTest (ss : List Sh) (d : PyData) : Prop := ∃ (B : Book) (cs : List Thing), ss = [.hd (eBook B), .hd (eTest cs)] ∧ GoodTab B.tab ∧ GoodCauses B.tab cs ∧ d = .none
theorem sc_want_test : FnScope ["book", "test"] ["book", "test"] (defScope (top 28)) := ⟨rfl, rfl, rfl, by decide +kernel, rfl, by decide +kernel, by decide +kernel⟩
theorem c_want_test (T : Txt K mg) : Cal P w K mg base 5 "want_test" (spD domWantTest) [] := by
  refine cal_of (k := 4) T 13 (d := d_want_test) rfl sc_want_test rfl rfl (fun _ _ _ _ _ _ us hl => match us, hl with | [_, _], _ => rfl) (len_D fun _ _ ⟨_, _, e, _⟩ => by rw [e]; rfl) (fun f cdv A outer s H vs Q E hr h => ?_)
  obtain ⟨ss, d, r, ⟨B, cs, rfl, gt, gc, rfl⟩, q⟩ := h
  have c := Cu.entry (N := ["book", "test"]) r
  refine ⟨_, (pss_one (ps_expr (pe_c (c_want_stepusable T) hr (by decide) rfl (pa_cons (pe_c (c_is_test_of T) hr (by decide) rfl (pa_cons (pv 0) (pa_cons (pv 1) pa_nil))) (pa_cons pe_str pa_nil))))), ?_⟩
  exact s_drop (s := .hd .none) (ev_call (ea_cons (ev_call0 (ea_cons (c.var 0) (ea_cons (c.var 1) ea_nil)) ⟨B, cs, rfl, gt, gc, rfl⟩) (ea_cons ev_str ea_nil)) ⟨_, rfl, rfl⟩ want_at) fun H1 e1 => q .non H1 e1 rfl
/-- the two manners -/
def eMan (on : Bool) : PyData := .str (if on then "on" else "again")
def domWantMan (ss : List Sh) (d : PyData) : Prop := ∃ on : Bool, ss = [.hd (eMan on)] ∧ d = .none
theorem sc_want_manner : FnScope ["manner"] ["manner"] (defScope (top 29)) := ⟨rfl, rfl, rfl, by decide +kernel, rfl, by decide +kernel, by decide +kernel⟩
theorem c_want_manner (T : Txt K mg) : Cal P w K mg base 2 "want_manner" (spD domWantMan) [] := by
  refine cal_of (k := 1) T 14 (d := d_want_manner) rfl sc_want_manner rfl rfl (fun _ _ _ _ _ _ us hl => match us, hl with | [_], _ => rfl) (len_D fun _ _ ⟨_, e, _⟩ => by rw [e]; rfl) (fun f cdv A outer s H vs Q E hr h => ?_)
  obtain ⟨ss, d, r, ⟨on, rfl, rfl⟩, q⟩ := h
  have c := Cu.entry (N := ["manner"]) r
  refine ⟨_, (pss_one (ps_expr (pe_c (c_want_stepusable T) hr (by decide) rfl (pa_cons (pe_and (pe_callB (call_isiK' (K := K) rfl) rfl T.isinstance_ (by decide +kernel) (pa_cons (pv 0) (pa_cons (pe_bltn (v := .ty "str") rfl T.str_ (by decide +kernel) rfl) pa_nil))) (pe_one (pe_cmpR (op_in_seqK (K := K) rfl) (pv 0) (pe_glob (v := .ref T.manners.choose) rfl T.manners.choose_spec.1 rfl) rfl))) (pa_cons pe_str pa_nil))))), ?_⟩
  obtain ⟨hk1, hk2⟩ := T.manners.choose_spec
  have hin : decide ((if on then ("on" : Str) else "again") ∈ [("again" : Str), "on"]) = true := by cases on <;> decide +kernel
  exact s_drop (s := .hd .none) (ev_call (ea_cons (s := .hd (.bool true)) (ev_is (ev_and (a := true) (b := true) (ev_isi (T := "str") (C := "str") (b := true) (c.var 0) ev_vl ty_str (by decide +kernel)) fun _ => ev_is (ev_inK (p := T.manners.choose) (ys := ["again", "on"]) (c.var 0) ev_vl hk2) (congrArg PyData.bool hin)) rfl) (ea_cons ev_str ea_nil)) ⟨_, rfl, rfl⟩ want_at) fun H1 e1 => q .non H1 e1 rfl
def domWantNotes (ss : List Sh) (d : PyData) : Prop := ∃ b : Bool, ss = [.hd (.bool b)] ∧ d = .none
theorem sc_want_notes : FnScope ["notes"] ["notes"] (defScope (top 30)) := ⟨rfl, rfl, rfl, by decide +kernel, rfl, by decide +kernel, by decide +kernel⟩
theorem c_want_notes (T : Txt K mg) : Cal P w K mg base 2 "want_notes" (spD domWantNotes) [] := by
  refine cal_of (k := 1) T 15 (d := d_want_notes) rfl sc_want_notes rfl rfl (fun _ _ _ _ _ _ us hl => match us, hl with | [_], _ => rfl) (len_D fun _ _ ⟨_, e, _⟩ => by rw [e]; rfl) (fun f cdv A outer s H vs Q E hr h => ?_)
  obtain ⟨ss, d, r, ⟨b, rfl, rfl⟩, q⟩ := h
  have c := Cu.entry (N := ["notes"]) r
  refine ⟨_, (pss_one (ps_expr (pe_c (c_want_stepusable T) hr (by decide) rfl (pa_cons (pe_callB (call_isiK' (K := K) rfl) rfl T.isinstance_ (by decide +kernel) (pa_cons (pv 0) (pa_cons (pe_bltn (v := .ty "bool") rfl T.bool_ (by decide +kernel) rfl) pa_nil))) (pa_cons pe_str pa_nil))))), ?_⟩
  exact s_drop (s := .hd .none) (ev_call (ea_cons (ev_isi (T := "bool") (C := "bool") (b := true) (c.var 0) ev_vl ty_bool (by decide +kernel)) (ea_cons ev_str ea_nil)) ⟨_, rfl, rfl⟩ want_at) fun H1 e1 => q .non H1 e1 rfl
end
end FF
/-! letters below, which things are at most others -/
namespace FF
open PySem PySem.Spec PyProof.Rows L2
open Evl (Ex EvT)
theorem lkp_tab {L : Tab} {x : Nat} (h : x ∈ names L) : lkp (L.map fun p => ((⟨#[p.1]⟩ : Str), PyData.tuple (p.2.map eC))) ⟨#[x]⟩ = some (.tuple ((look L x).map eC)) := by
  unfold lkp look
  induction L with
  | nil => cases h
  | cons p r ih =>
    rw [List.map_cons, List.find?_cons, List.find?_cons]
    by_cases e : p.1 = x
    · subst e
      rw [show decide ((((⟨#[p.1]⟩ : Str), PyData.tuple (p.2.map eC)) : Str × PyData).1 = ⟨#[p.1]⟩) = true from decide_eq_true rfl, show (p.1 == p.1) = true from beq_self_eq_true _]
      rfl
    · rw [show decide ((((⟨#[p.1]⟩ : Str), PyData.tuple (p.2.map eC)) : Str × PyData).1 = ⟨#[x]⟩) = false from decide_eq_false fun z => e (sC_inj z), show (p.1 == x) = false from beq_eq_false_iff_ne.mpr e]
      rcases List.mem_cons.mp h with z | z
      · exact absurd z.symm e
      · exact ih z
theorem eC_mem {c : Nat} {l : List Nat} : (⟨#[c]⟩ : Str) ∈ l.map sC ↔ c ∈ l := mem_sC_iff (c := c)
theorem decC {c : Nat} {l : List Nat} : decide ((⟨#[c]⟩ : Str) ∈ l.map sC) = decide (c ∈ l) := decide_eq_decide.mpr eC_mem
theorem s_retL {Hb H : Hp} {ms : Ms} {cs : List Sh} {σ : L2.St} {D : Ends} (c : Cu Hb ms cs σ H) {i k : Nat} {p : Addr} {ds : List PyData} (hi : cs[i]? = some (.vl (.ref p))) (hk : ms[k]? = some (p, .l ds)) (q : LsAt H p ds → D.rt (.ref p) H) : tRet (tVar i) D σ H := ⟨.ref p, c.slot i hi, q (c.lst hk)⟩
def cOf : PyData → Nat
  | .str z => z.cps.toList.headD 0
  | _ => 0
theorem cOf_eC (c : Nat) : cOf (eC c) = c := rfl
section
variable {H : Hp} {σ : L2.St} {te ta tb : TE}
theorem ev_takeS {t : Thing} {k : Nat} {i : Int} (h : EvD te σ H (eT t)) (hk : EvD ta σ H (.int i)) (e : i = (k : Int)) (hl : t.length ≤ 1000) : EvD (tSl rSlS te tNoPart (tPart ta)) σ H (eT (t.take k)) := by
  subst e
  refine ev_is (ev_cutS h eo_none (eo_some hk) (by rw [tS_len]; omega)) ?_
  unfold cutS
  rw [HT.sIx_none, HT.sIx_nat, tS_list, tS_len, List.drop_zero, Nat.sub_zero]
  show PyData.str (tS (t.take (min k t.length))) = _
  congr 2
  rw [List.take_eq_take_iff]
  omega
theorem ev_dropS {t : Thing} {k : Nat} {i : Int} (h : EvD te σ H (eT t)) (hk : EvD ta σ H (.int i)) (e : i = (k : Int)) (hl : t.length ≤ 1000) : EvD (tSl rSlS te (tPart ta) tNoPart) σ H (eT (t.drop k)) := by
  subst e
  refine ev_is (ev_cutS h (eo_some hk) eo_none (by rw [tS_len]; omega)) ?_
  unfold cutS
  rw [HT.sIx_none, HT.sIx_nat, tS_list, tS_len]
  show PyData.str (tS ((t.drop (min k t.length)).take (t.length - min k t.length))) = _
  congr 2
  rw [List.take_of_length_le (by rw [List.length_drop]; exact Nat.le_refl _)]
  by_cases hk : k ≤ t.length
  · rw [Nat.min_eq_left hk]
  · rw [Nat.min_eq_right (by omega), List.drop_eq_nil_of_le (Nat.le_refl _), List.drop_eq_nil_of_le (by omega)]
theorem ev_signT {t : Thing} {k c : Nat} {i : Int} (h : EvD te σ H (eT t)) (hk : EvD ta σ H (.int i)) (e : i = (k : Int)) (hc : t[k]? = some c) (hl : t.length ≤ 1000) : EvD (tOp rIxS te ta) σ H (eC c) := by
  subst e
  exact ev_ixS h hk (by rw [tS_len]; omega) (by rw [tS_list]; exact atI_nat hc)
theorem ev_catT {a b : Thing} (ha : EvD ta σ H (eT a)) (hb : EvD tb σ H (eT b)) (hl : a.length + b.length ≤ 1000) : EvD (tOp (fun x y H Q => ∃ i j, x = .str i ∧ y = .str j ∧ i.length + j.length ≤ sizeLine ∧ Q (.str (i ++ j)) H) ta tb) σ H (eT (a ++ b)) := by
  refine ev_is (ev_cat ha hb (by rw [tS_len, tS_len]; omega)) ?_
  rw [tS_cat]
theorem ev_lenT' {t : Thing} (h : EvD te σ H (eT t)) (hl : t.length ≤ 1000) : EvD (tCB (fun xs H Q => ∃ z, xs = [.str z] ∧ z.length ≤ sizeLine ∧ Q (.int z.length) H) (tCons te tNil)) σ H (.int (t.length : Nat)) := by
  refine ev_is (ev_lenS h (by rw [tS_len]; omega)) ?_
  rw [tS_len]
end
theorem amStep_pos {R : Nat → List Nat} {a c : Nat} {r : Thing} (h : a = c ∨ a ∈ R c) : amStep R (a :: r) c = r := if_pos h
theorem amStep_neg {R : Nat → List Nat} {a c : Nat} {r : Thing} (h : ¬ (a = c ∨ a ∈ R c)) : amStep R (a :: r) c = a :: r := if_neg h
theorem amRest_snoc (R : Nat → List Nat) (u v : Thing) (c : Nat) : amRest R u (v ++ [c]) = amStep R (amRest R u v) c := by
  unfold amRest
  rw [List.foldl_append]
  rfl
section
variable {P : Program} {w : World} {K : PySem.W.Frag} {mg : Str → Option Value} {base : Heap}
def domReach (ss : List Sh) (s : Sh) : Prop := ∃ (L : Tab) (x : Nat), ss = [dTab L, .hd (eC x)] ∧ GoodTab L ∧ x ∈ names L ∧ s = .ls ((reach L x).map eC)
theorem sc_reached_letters : FnScope ["lessers", "letter", "found", "waiting", "one"] ["lessers", "letter"] (defScope (top 16)) := ⟨rfl, rfl, rfl, by decide +kernel, rfl, by decide +kernel, by decide +kernel⟩
theorem c_reached_letters (T : Txt K mg) : Cal P w K mg base 1 "reached_letters" (spF domReach) [] := by
  refine cal_of (k := 0) T 7 (d := d_reached_letters) rfl sc_reached_letters rfl rfl (fun _ _ _ _ _ _ us hl => match us, hl with | [_, _], _ => rfl) (len_F fun _ _ ⟨_, _, e, _⟩ => by rw [e]; rfl) (fun f cdv A outer s H vs Q E hr h => ?_)
  obtain ⟨ss, s, r, ⟨L, x, rfl, gt, hx, rfl⟩, q⟩ := h
  have c := Cu.entry (N := ["lessers", "letter", "found", "waiting", "one"]) r
  refine ⟨_, (pss_cons (ps_set (i := 2) sc_reached_letters.nd rfl (by first | exact Or.inl rfl | exact Or.inr rfl) (pe_lst pa_nil))
  (pss_cons (ps_set (i := 3) sc_reached_letters.nd rfl (by first | exact Or.inl rfl | exact Or.inr rfl) (pe_callTy (call_list_ofK (K := K) rfl) rfl T.list_ (by decide +kernel) (pa_cons (pe_dget (hu_of hr) (pv 0) (pv 1) (fun _ _ => rfl)) pa_nil)))
  (pss_cons (ps_while PassesOwn.never (pt_cmpR op_gt (pe_callB (call_len_seqK (K := K) rfl) rfl T.len_ (by decide +kernel) (pa_cons (pv 3) pa_nil)) pe_int (nomark _)) (pss_cons (ps_set (i := 4) sc_reached_letters.nd rfl (by first | exact Or.inl rfl | exact Or.inr rfl) (pe_bm0K' (K := K) rfl PySem.F.plainAttrs_list PySem.F.slot_list_pop PySem.F.type_list_pop mt_pop (pv 3)))
  (pss_one (ps_if (pt_cmpR (op_notIn_seqK (K := K) rfl) (pv 4) (pv 2) rfl) (pss_cons (ps_expr (pe_bmK (K := K) rfl PySem.F.plainAttrs_list PySem.F.slot_list_append PySem.F.type_list_append mt_append (pv 2) (pa_cons (pv 4) pa_nil)))
  (pss_one (ps_expr (pe_bmK (K := K) rfl PySem.F.plainAttrs_list PySem.F.slot_list_extend PySem.F.type_list_extend mt_extend (pv 3) (pa_cons (pe_callTy (call_list_ofK (K := K) rfl) rfl T.list_ (by decide +kernel) (pa_cons (pe_dget (hu_of hr) (pv 0) (pv 4) (fun _ _ => rfl)) pa_nil)) pa_nil))))) pss_nil))))
  (pss_one (ps_ret (pv 2)))))), ?_⟩
  refine st_seq (s_setM c (ef_lst (ds := []) ea_nil (by decide)) fun p Hb1 σ1 H1 e1 hp c1 => ?_)
  refine st_seq (s_setM c1 (ef_listT (ds := (look L x).map eC) (ev_dget (c1.var 0) (c1.var 1) (lkp_tab hx))) fun p2 Hb2 σ2 H2 e2 hp2 c2 => ?_)
  refine st_seq (s_while c2 (fun m cs ms => ∃ (f w : List Nat) (u : Sh), cs = [dTab L, .hd (eC x), .vl (.ref p), .vl (.ref p2), u] ∧ ms = [(p, .l (f.map eC)), (p2, .l (w.reverse.map eC))] ∧ reachLoop (look L) m f w = some (reach L x) ∧ m ≤ 40 ∧ (∀ a ∈ w, a ∈ names L)) (m0 := 40) ⟨[], (look L x).reverse, .un, rfl, by simp, gt.rch x hx, Nat.le_refl _, fun a ha => gt.look_kn hx a (List.mem_reverse.mp ha)⟩ ?_)
  rintro m Hb' ms' cs' σ' H' e' c' em ⟨f, w, u, rfl, rfl, hl, hm, hk⟩
  refine ⟨_, et_test (ev_gt (ev_lenL (c'.lvar 3 1)) ev_int), fun hb H3 N c3 hN => ?_, fun hb H3 c3 => ?_⟩
  · cases w with
    | nil => cases hb
    | cons a w =>
      cases m with
      | zero => cases hl
      | succ m =>
        have ha := hk a (List.mem_cons_self ..)
        refine st_seq (s_pop (ds := w.reverse.map eC) (d := eC a) c3 rfl (k := 1) (by rw [List.reverse_cons, List.map_append]; rfl) fun Hb4 σ4 H4 e4 c4 => ?_)
        have hin : EvD _ σ4 H4 (.bool (!decide (a ∈ f))) := ev_is (ev_notInL (x := ⟨#[a]⟩) (ys := f.map sC) (K := K) (c4.var 4) (es_is (c4.lvar 2 0) (by rw [List.map_map]; rfl))) (by rw [decC])
        have hfl := reachLoop_len hl
        unfold reachLoop at hl
        refine s_if c4 (et_test hin) (fun hb' H5 e5 c5 => ?_) (fun hb' H5 e5 c5 => ?_)
        · have nf : a ∉ f := by simpa using hb'
          rw [if_neg nf] at hl
          have := reachLoop_len hl
          have := gt.rln x hx
          have := gt.look_len ha
          refine st_seq (s_app c5 rfl (k := 0) rfl (c5.var 4) (by simp at *; omega) fun H6 c6 => ?_)
          refine s_ext c6 rfl (k := 1) rfl (ef_listT (ds := (look L a).map eC) (ev_dget (c6.var 0) (c6.var 4) (lkp_tab ha))).s (by simp at *; omega) fun H7 c7 => ?_
          refine hN m Hb4 _ _ _ _ (Nat.lt_succ_self m) (e'.trans e4) c7 rfl ⟨f ++ [a], (look L a).reverse ++ w, _, rfl, ?_, hl, by omega, fun b hb => ?_⟩
          · simp
          · rcases List.mem_append.mp hb with hb | hb
            · exact gt.look_kn ha b (List.mem_reverse.mp hb)
            · exact hk b (List.mem_cons_of_mem _ hb)
        · have nf : a ∈ f := by simpa using hb'
          rw [if_pos nf] at hl
          exact hN m Hb4 _ _ _ _ (Nat.lt_succ_self m) (e'.trans e4) c5 rfl ⟨f, w, _, rfl, rfl, hl, by omega, fun b hb => hk b (List.mem_cons_of_mem _ hb)⟩
  · cases w with
    | cons a w => simp at hb
    | nil =>
      cases m with
      | zero => cases hl
      | succ m =>
        have ef : f = reach L x := Option.some.inj hl
        subst ef
        exact s_retL c3 rfl (k := 0) rfl fun ls => q p H3 hp (e1.trans (e2.trans (e'.trans c3.ex))) ⟨p, rfl, ls⟩
def domNext (ss : List Sh) (s : Sh) : Prop := ∃ (L : Tab) (x : Nat), ss = [dTab L, .hd (eC x)] ∧ GoodTab L ∧ x ∈ names L ∧ s = .ls ((nextOnes L x).map eC)
theorem sc_next_ones : FnScope ["lessers", "letter", "own", "beyond", "other", "one"] ["lessers", "letter"] (defScope (top 52)) := ⟨rfl, rfl, rfl, by decide +kernel, rfl, by decide +kernel, by decide +kernel⟩
theorem c_next_ones (T : Txt K mg) : Cal P w K mg base 2 "next_ones" (spF domNext) [] := by
  refine cal_of (k := 1) T 30 (d := d_next_ones) rfl sc_next_ones rfl rfl (fun _ _ _ _ _ _ us hl => match us, hl with | [_, _], _ => rfl) (len_F fun _ _ ⟨_, _, e, _⟩ => by rw [e]; rfl) (fun f cdv A outer s H vs Q E hr h => ?_)
  obtain ⟨ss, s, r, ⟨L, x, rfl, gt, hx, rfl⟩, q⟩ := h
  have c := Cu.entry (N := ["lessers", "letter", "own", "beyond", "other", "one"]) r
  refine ⟨_, (pss_cons (ps_set (i := 2) sc_next_ones.nd rfl (by first | exact Or.inl rfl | exact Or.inr rfl) (pe_dget (hu_of hr) (pv 0) (pv 1) (fun _ _ => rfl)))
  (pss_cons (ps_set (i := 3) sc_next_ones.nd rfl (by first | exact Or.inl rfl | exact Or.inr rfl) (pe_lc2 (own := [("other", 4), ("one", 5)]) (vs1 := [5]) rfl sc_next_ones.nd (pi_tupK (K := K) rfl (pv 2)) (blkOk_by (N := ["lessers", "letter", "own", "beyond", "other", "one"]) (sc := defScope (top 52)) (by decide +kernel)) (by decide) (by intros; exact (pg_name (i := 4) sc_next_ones.nd rfl (by first | exact Or.inl rfl | exact Or.inr rfl))) (by intros; exact pts_nil) (by intros; exact (pi_listK (K := K) rfl (pe_c (c_reached_letters T) hr (by decide) rfl (pa_cons (pv 0) (pa_cons (pv 4) pa_nil))))) (by intros; exact (pg_name (i := 5) sc_next_ones.nd rfl (by first | exact Or.inl rfl | exact Or.inr rfl))) (by intros; exact pts_nil) (by intros; exact (pv 5))))
  (pss_one (ps_ret (pe_lc (own := [("one", 5)]) rfl sc_next_ones.nd (pi_tupK (K := K) rfl (pv 2)) (blkOk_by (N := ["lessers", "letter", "own", "beyond", "other", "one"]) (sc := defScope (top 52)) (by decide +kernel)) (by intros; exact (pg_name (i := 5) sc_next_ones.nd rfl (by first | exact Or.inl rfl | exact Or.inr rfl))) (by intros; exact (pts_one (pt_cmpR (op_notIn_seqK (K := K) rfl) (pv 5) (pv 3) rfl))) (by intros; exact (pv 5))))))), ?_⟩
  have hll := gt.look_len hx
  have hmem : ∀ d ∈ (look L x).map eC, ∃ a ∈ look L x, d = eC a := fun d hd => by
    obtain ⟨a, ha, rfl⟩ := List.mem_map.mp hd
    exact ⟨a, ha, rfl⟩
  have hrl : ∀ l : List Nat, (∀ a ∈ l, a ∈ look L x) → ((l.map eC).flatMap fun d => (reach L (cOf d)).map eC).length ≤ 3 * l.length := fun l => by
    induction l with
    | nil => intro _; exact Nat.le_refl _
    | cons a l ih =>
      intro hl
      have h1 := ih fun b hb => hl b (List.mem_cons_of_mem _ hb)
      have h2 := gt.rln a (gt.look_kn hx a (hl a (List.mem_cons_self ..)))
      rw [List.map_cons, List.flatMap_cons, List.length_append, List.length_map, cOf_eC, List.length_cons]
      omega
  refine st_seq (s_set c (ev_dget (c.var 0) (c.var 1) (lkp_tab hx)) fun Hb1 σ1 H1 e1 c1 => ?_)
  refine st_seq (s_setF (ds := ((look L x).flatMap (reach L)).map eC) c1 (ef_is (ef_lc2 c1 (ei_tup (c1.var 2) (nofun)) (fun d _ => tg_name) (by decide) (fun d => (reach L (cOf d)).map eC) (fun d _ e _ => tg_name) (by decide) (fun d e => e) (fun d hd Hb' p acc σ' H' c' => ?_) (fun d hd e he Hb' p acc σ' H' c' => c'.var 5) (fun i => ?_) fun d hd => ?_) ?_) fun Hb2 σ2 H2 e2 c2 => ?_)
  · obtain ⟨a, ha, rfl⟩ := hmem d hd
    exact ei_lst (ex_f c' (ef_call0 (ea_cons (c'.var 0) (ea_cons (c'.var 4) ea_nil)) ⟨L, a, rfl, gt, gt.look_kn hx a ha, rfl⟩))
  · rw [← List.map_take]
    have h1 := hrl ((look L x).take i) fun a ha => List.mem_of_mem_take ha
    rw [List.length_take] at h1
    omega
  · obtain ⟨a, ha, rfl⟩ := hmem d hd
    have := gt.rln a (gt.look_kn hx a ha)
    rw [List.length_map, cOf_eC]
    omega
  · rw [List.flatMap_map, List.map_flatMap]
    simp [cOf_eC, Function.comp_def]
  · refine s_retF (s := .ls ((nextOnes L x).map eC)) (ef_is (ef_lc c2 (ei_tup (c2.var 2) (nofun)) (fun d _ => tg_name) (by decide) (fun d => !decide (cOf d ∈ (look L x).flatMap (reach L))) (fun d => d) (fun d hd σ' H' c' => ?_) (fun d hd _ σ' H' c' => c'.var 5) ?_) ?_) fun p H' hp e3 rv => q p H' (Evl.fresh_back (e1.trans (e2.trans c2.ex)) hp) ((e1.trans (e2.trans c2.ex)).trans e3) rv
    · obtain ⟨a, ha, rfl⟩ := hmem d hd
      exact et_test (ev_is (ev_notInL (x := ⟨#[a]⟩) (ys := ((look L x).flatMap (reach L)).map sC) (K := K) (c'.var 5) (es_is (c'.var 3) (by rw [List.map_map]; rfl))) (by rw [decC, cOf_eC]))
    · rw [List.length_map]
      omega
    · unfold nextOnes
      rw [List.filter_map, List.map_map]
      rfl
def domLies (ss : List Sh) (d : PyData) : Prop := ∃ (L : Tab) (u v : Thing), ss = [dTab L, .hd (eT u), .hd (eT v)] ∧ GoodTab L ∧ IsThing L v ∧ u.length ≤ 100 ∧ d = .bool (atMost (reach L) u v)
theorem sc_lies_at_most : FnScope ["lessers", "u", "v", "at", "letter"] ["lessers", "u", "v"] (defScope (top 53)) := ⟨rfl, rfl, rfl, by decide +kernel, rfl, by decide +kernel, by decide +kernel⟩
theorem c_lies_at_most (T : Txt K mg) : Cal P w K mg base 2 "lies_at_most" (spD domLies) [] := by
  refine cal_of (k := 1) T 31 (d := d_lies_at_most) rfl sc_lies_at_most rfl rfl (fun _ _ _ _ _ _ us hl => match us, hl with | [_, _, _], _ => rfl) (len_D fun _ _ ⟨_, _, _, e, _⟩ => by rw [e]; rfl) (fun f cdv A outer s H vs Q E hr h => ?_)
  obtain ⟨ss, d, r, ⟨L, u, v, rfl, gt, iv, hu, rfl⟩, q⟩ := h
  have c := Cu.entry (N := ["lessers", "u", "v", "at", "letter"]) r
  refine ⟨_, (pss_cons (ps_set (i := 3) sc_lies_at_most.nd rfl (by first | exact Or.inl rfl | exact Or.inr rfl) pe_int)
  (pss_cons (ps_for PassesOwn.never rfl (pi_str (pv 2)) (pg_name (i := 4) sc_lies_at_most.nd rfl (by first | exact Or.inl rfl | exact Or.inr rfl)) (pss_one (ps_if (PW.pt (pw_and (pt_cmpR op_lt (pv 3) (pe_callB call_len_str rfl T.len_ (by decide +kernel) (pa_cons (pv 1) pa_nil)) (nomark _)) (pw_and1 (PW.pt (pw_or (pt_cmpR op_eq (pe_ix ix_str (pv 1) (pv 3) (fun _ _ => rfl)) (pv 4) (nomark _)) (pw_or1 (pt_cmpR (op_in_seqK (K := K) rfl) (pe_ix ix_str (pv 1) (pv 3) (fun _ _ => rfl)) (pe_c (c_reached_letters T) hr (by decide) rfl (pa_cons (pv 0) (pa_cons (pv 4) pa_nil))) rfl))))))) (pss_one (ps_set (i := 3) sc_lies_at_most.nd rfl (by first | exact Or.inl rfl | exact Or.inr rfl) (pe_op op_add (pv 3) pe_int))) pss_nil)))
  (pss_one (ps_ret (pe_cmpR op_eq (pv 3) (pe_callB call_len_str rfl T.len_ (by decide +kernel) (pa_cons (pv 1) pa_nil)) (nomark _)))))), ?_⟩
  refine st_seq (s_set c ev_int fun Hb1 σ1 H1 e1 c1 => ?_)
  refine st_seq (s_for c1 (ei_str (c1.var 2)) (fun d _ => tg_name) (fun i cs ms => ms = [] ∧ ∃ (n : Nat) (s : Sh), cs = [dTab L, .hd (eT u), .hd (eT v), .hd (.int n), s] ∧ n ≤ u.length ∧ u.drop n = amRest (reach L) u (v.take i)) ⟨rfl, 0, .un, rfl, Nat.zero_le _, rfl⟩ ?_ ?_)
  · rintro Hs es i d Hb' ms' cs' σ' H' N hd e' c' em ⟨rfl, n, s, rfl, hn, hr⟩ hN
    rw [signs_tS, List.getElem?_map] at hd
    obtain ⟨x, hx, rfl⟩ := Option.map_eq_some_iff.mp hd
    have hkn : x ∈ names L := iv.kn x (List.mem_of_getElem? hx)
    have hnx : amRest (reach L) u (v.take (i + 1)) = amStep (reach L) (u.drop n) x := by
      rw [List.take_add_one, hx, hr]
      exact amRest_snoc _ _ _ _
    have hlt : EvD _ σ' H' (.bool (decide (n < u.length))) := ev_is (ev_lt (c'.var 3) (ev_lenT' (c'.var 1) (by omega))) (congrArg PyData.bool (decide_eq_decide.mpr (by omega)))
    by_cases hlen : n < u.length
    · obtain ⟨a, ha⟩ : ∃ a, u[n]? = some a := ⟨u[n], List.getElem?_eq_getElem hlen⟩
      have hdr : u.drop n = a :: u.drop (n + 1) := by
        rw [List.drop_eq_getElem_cons hlen]
        congr 1
        rw [List.getElem?_eq_getElem hlen] at ha
        exact Option.some.inj ha
      have hix : EvD _ σ' H' (eC a) := ev_signT (c'.var 1) (c'.var 3) rfl ha (by omega)
      refine s_if c' (Evl.et_and (et_test hlt) fun _ => Evl.et_or (et_test (ev_eqS hix (c'.var 4))) fun _ => et_test (ev_inL (x := ⟨#[a]⟩) (ys := (reach L x).map sC) (K := K) hix (es_is (ef_call0 (ea_cons (c'.var 0) (ea_cons (c'.var 4) ea_nil)) ⟨L, x, rfl, gt, hkn, rfl⟩).s (by rw [List.map_map]; rfl)))) (fun hb H3 e3 c3 => ?_) (fun hb H3 e3 c3 => ?_)
      · rw [Bool.and_eq_true, Bool.or_eq_true, decC] at hb
        refine s_set c3 (ev_is (ev_add (c3.var 3) ev_int) (by rfl : _ = PyData.int ((n + 1 : Nat) : Int))) fun Hb4 σ4 H4 e4 c4 => ?_
        refine hN Hb4 _ _ _ _ (e'.trans e4) c4 em ⟨rfl, n + 1, _, rfl, hlen, ?_⟩
        rw [hnx, hdr, amStep_pos]
        rcases hb.2 with h | h
        · exact .inl (sC_inj (of_decide_eq_true h))
        · exact .inr (of_decide_eq_true h)
      · refine hN Hb' _ _ _ _ e' c3 em ⟨rfl, n, _, rfl, hn, ?_⟩
        rw [hnx, hdr, amStep_neg]
        intro z
        rw [decide_eq_true hlen, Bool.true_and, Bool.or_eq_false_iff, decC] at hb
        rcases z with z | z
        · subst z
          simp at hb
        · simp [z] at hb
    · refine s_if c' (b := false) (Evl.et_is (Evl.et_and (a := false) (b := false) (et_test (ev_is hlt (congrArg PyData.bool (decide_eq_false hlen)))) (nofun)) rfl) (nofun) (fun hb H3 e3 c3 => ?_)
      refine hN Hb' _ _ _ _ e' c3 em ⟨rfl, n, _, rfl, hn, ?_⟩
      rw [hnx, List.drop_eq_nil_of_le (by omega)]
      rfl
  · rintro Hb' ms' cs' σ' H' e' c' em ⟨rfl, n, s, rfl, hn, hr⟩
    rw [signs_tS, List.length_map, List.take_length] at hr
    refine s_ret (s := .hd (.bool (atMost (reach L) u v))) (ev_is (ev_eqI (c'.var 3) (ev_lenT' (c'.var 1) (by omega))) ?_) fun v H' e rv => q v H' ((e1.trans (e'.trans c'.ex)).trans e) rv
    unfold atMost
    rw [← hr]
    congr 1
    by_cases hlen : n < u.length
    · rw [List.drop_eq_getElem_cons hlen]
      exact decide_eq_false (by omega)
    · rw [List.drop_eq_nil_of_le (by omega)]
      exact decide_eq_true (by omega)
def domAtMost (ss : List Sh) (d : PyData) : Prop := ∃ (B : Book) (u v : Thing), ss = [.hd (eBook B), .hd (eT u), .hd (eT v)] ∧ GoodTab B.tab ∧ IsThing B.tab u ∧ IsThing B.tab v ∧ d = .bool (atMost (reach B.tab) u v)
theorem tab_rows (L : Tab) : eTab L = .list ((L.map fun p => ((⟨#[p.1]⟩ : Str), PyData.tuple (p.2.map eC))).map eRow) := by
  unfold eTab
  rw [List.map_map]
  rfl
theorem tab_nd {L : Tab} (g : GoodTab L) : ((L.map fun p => ((⟨#[p.1]⟩ : Str), PyData.tuple (p.2.map eC))).map (·.1)).Nodup := by
  rw [List.map_map]
  have := g.nd
  have h : ((L.map (·.1)).map sC).Nodup := List.Pairwise.map _ (fun a b z e => z (sC_inj e)) this
  rw [List.map_map] at h
  exact h
theorem ev_tab {H : Hp} {σ : L2.St} {te : TE} {B : Book} (h : EvD te σ H (eBook B)) : EvD (tOp (rIxT K) te (tC (.int 0))) σ H (.list ((B.tab.map fun p => ((⟨#[p.1]⟩ : Str), PyData.tuple (p.2.map eC))).map eRow)) := by
  rw [← tab_rows]
  exact ev_ixT h ev_int rfl
theorem ef_tab {H : Hp} {σ : L2.St} {te : TE} {B : Book} (g : GoodTab B.tab) (h : EvD te σ H (eBook B)) : EvF (tCB (rDictT K) (tCons (tOp (rIxT K) te (tC (.int 0))) tNil)) σ H (dTab B.tab) := ef_dictT (ev_tab h) (tab_nd g)
theorem sc_is_at_most : FnScope ["book", "u", "v"] ["book", "u", "v"] (defScope (top 54)) := ⟨rfl, rfl, rfl, by decide +kernel, rfl, by decide +kernel, by decide +kernel⟩
theorem c_is_at_most (T : Txt K mg) : Cal P w K mg base 4 "is_at_most" (spD domAtMost) [] := by
  refine cal_of (k := 3) T 32 (d := d_is_at_most) rfl sc_is_at_most rfl rfl (fun _ _ _ _ _ _ us hl => match us, hl with | [_, _, _], _ => rfl) (len_D fun _ _ ⟨_, _, _, e, _⟩ => by rw [e]; rfl) (fun f cdv A outer s H vs Q E hr h => ?_)
  obtain ⟨ss, d, r, ⟨B, u, v, rfl, gt, iu, iv, rfl⟩, q⟩ := h
  have c := Cu.entry (N := ["book", "u", "v"]) r
  refine ⟨_, (pss_cons (ps_expr (pe_c (c_want_thing_usable T) hr (by decide) rfl (pa_cons pe_str (pa_cons (pv 0) (pa_cons (pv 1) pa_nil)))))
  (pss_cons (ps_expr (pe_c (c_want_thing_usable T) hr (by decide) rfl (pa_cons pe_str (pa_cons (pv 0) (pa_cons (pv 2) pa_nil)))))
  (pss_one (ps_ret (pe_c (c_lies_at_most T) hr (by decide) rfl (pa_cons (pe_callTy (call_dictT (K := K) rfl rfl) rfl T.dict_ (by decide +kernel) (pa_cons (pe_ix (ix_tupK (K := K) rfl) (pv 0) pe_int (fun _ _ => rfl)) pa_nil)) (pa_cons (pv 1) (pa_cons (pv 2) pa_nil)))))))), ?_⟩
  refine st_seq (s_drop (s := .hd .none) (ev_call0 (ea_cons ev_str (ea_cons (c.var 0) (ea_cons (c.var 1) ea_nil))) ⟨B, u, _, rfl, gt, iu, rfl⟩) fun H1 e1 => ?_)
  refine st_seq (s_drop (s := .hd .none) (ev_call0 (ea_cons ev_str (ea_cons ((c.ext e1).var 0) (ea_cons ((c.ext e1).var 2) ea_nil))) ⟨B, v, _, rfl, gt, iv, rfl⟩) fun H2 e2 => ?_)
  have c2 := (c.ext e1).ext e2
  exact s_ret (s := .hd (.bool (atMost (reach B.tab) u v))) (ev_call0 (ea_cons (ef_tab gt (c2.var 0)).s (ea_cons (c2.var 1) (ea_cons (c2.var 2) ea_nil))) ⟨B.tab, u, v, rfl, gt, iv, Nat.le_trans iu.len (by decide), rfl⟩) fun v H' e rv => q v H' ((e1.trans e2).trans e) rv
def domNb (ss : List Sh) (s : Sh) : Prop := ∃ (L : Tab) (x : Thing), ss = [dTab L, .hd (eT x)] ∧ GoodTab L ∧ IsThing L x ∧ s = .ls ((nb L x).map eT)
theorem nbAt_len {L : Tab} (g : GoodTab L) (x : Thing) (k : Nat) {c : Nat} (h : c ∈ names L) : (nbAt L x k c).length ≤ 3 := by
  unfold nbAt
  split
  · exact Nat.le_succ_of_le (Nat.le_succ _)
  · rw [List.length_map]
    exact Nat.le_trans (List.length_filter_le _ _) (g.look_len h)
theorem nbFrom_len {L : Tab} (g : GoodTab L) (x : Thing) : ∀ (r : Thing) (k : Nat), (∀ c ∈ r, c ∈ names L) → (nbFrom L x k r).length ≤ 3 * r.length
  | [], _, _ => Nat.le_refl _
  | c :: r, k, h => by
    have h1 := nbAt_len g x k (h c (List.mem_cons_self ..))
    have h2 := nbFrom_len g x r (k + 1) fun d hd => h d (List.mem_cons_of_mem _ hd)
    unfold nbFrom
    rw [List.length_append, List.length_cons]
    omega
theorem nbFrom_snoc (L : Tab) (x : Thing) : ∀ (r : Thing) (k : Nat) (c : Nat), nbFrom L x k (r ++ [c]) = nbFrom L x k r ++ nbAt L x (k + r.length) c
  | [], k, c => by simp [nbFrom]
  | a :: r, k, c => by
    show nbAt L x k a ++ nbFrom L x (k + 1) (r ++ [c]) = (nbAt L x k a ++ nbFrom L x (k + 1) r) ++ _
    rw [nbFrom_snoc L x r (k + 1) c, List.append_assoc, List.length_cons, show k + 1 + r.length = k + (r.length + 1) by omega]
theorem sc_next_ones_below : FnScope ["lessers", "x", "found", "k", "letter", "less"] ["lessers", "x"] (defScope (top 55)) := ⟨rfl, rfl, rfl, by decide +kernel, rfl, by decide +kernel, by decide +kernel⟩
theorem c_next_ones_below (T : Txt K mg) : Cal P w K mg base 3 "next_ones_below" (spF domNb) [] := by
  refine cal_of (k := 2) T 33 (d := d_next_ones_below) rfl sc_next_ones_below rfl rfl (fun _ _ _ _ _ _ us hl => match us, hl with | [_, _], _ => rfl) (len_F fun _ _ ⟨_, _, e, _⟩ => by rw [e]; rfl) (fun f cdv A outer s H vs Q E hr h => ?_)
  obtain ⟨ss, s, r, ⟨L, x, rfl, gt, ix, rfl⟩, q⟩ := h
  have c := Cu.entry (N := ["lessers", "x", "found", "k", "letter", "less"]) r
  refine ⟨_, (pss_cons (ps_set (i := 2) sc_next_ones_below.nd rfl (by first | exact Or.inl rfl | exact Or.inr rfl) (pe_lst pa_nil))
  (pss_cons (ps_for PassesOwn.never rfl (pi_enumS rfl T.enumerate_ (pa_cons (pv 1) pa_nil)) (pg_two (K := K) (i := 3) (j := 4) rfl rfl sc_next_ones_below.nd rfl rfl (by first | exact Or.inl rfl | exact Or.inr rfl) (by first | exact Or.inl rfl | exact Or.inr rfl) (by first | exact Or.inl rfl | exact Or.inr rfl) (by first | exact Or.inl rfl | exact Or.inr rfl)) (pss_one (ps_if (pt_cmpR op_eq (pe_callB (call_len_seqK (K := K) rfl) rfl T.len_ (by decide +kernel) (pa_cons (pe_dget (hu_of hr) (pv 0) (pv 4) (fun _ _ => rfl)) pa_nil)) pe_int (nomark _)) (pss_one (ps_expr (pe_bmK (K := K) rfl PySem.F.plainAttrs_list PySem.F.slot_list_append PySem.F.type_list_append mt_append (pv 2) (pa_cons (pe_op op_add_str (pe_slice sl_str (pv 1) po_none (po_some (pv 3))) (pe_slice sl_str (pv 1) (po_some (pe_op op_add (pv 3) pe_int)) po_none)) pa_nil)))) (pss_one (ps_expr (pe_bmK (K := K) rfl PySem.F.plainAttrs_list PySem.F.slot_list_extend PySem.F.type_list_extend mt_extend (pv 2) (pa_cons (pe_lc (own := [("less", 5)]) rfl sc_next_ones_below.nd (pi_listK (K := K) rfl (pe_c (c_next_ones T) hr (by decide) rfl (pa_cons (pv 0) (pa_cons (pv 4) pa_nil)))) (blkOk_by (N := ["lessers", "x", "found", "k", "letter", "less"]) (sc := defScope (top 55)) (by decide +kernel)) (by intros; exact (pg_name (i := 5) sc_next_ones_below.nd rfl (by first | exact Or.inl rfl | exact Or.inr rfl))) (by intros; exact pts_nil) (by intros; exact (pe_op op_add_str (pe_op op_add_str (pe_slice sl_str (pv 1) po_none (po_some (pv 3))) (pv 5)) (pe_slice sl_str (pv 1) (po_some (pe_op op_add (pv 3) pe_int)) po_none)))) pa_nil)))))))
  (pss_one (ps_ret (pv 2))))), ?_⟩
  have hxl := ix.len
  refine st_seq (s_setM c (ef_lst (ds := []) ea_nil (by decide)) fun p Hb1 σ1 H1 e1 hp c1 => ?_)
  refine st_seq (s_for c1 (ei_enumS (ea_cons (c1.var 1) ea_nil)) (js := [3, 4]) (u := fun d => match d with | .tuple [a, b] => fun cs => (cs.set 3 (.hd a)).set 4 (.hd b) | _ => id) (fun d hd => ?_) (fun i cs ms => ms = [(p, .l ((nbFrom L x 0 (x.take i)).map eT))] ∧ ∃ s s' s'' : Sh, cs = [dTab L, .hd (eT x), .vl (.ref p), s, s', s'']) ⟨rfl, .un, .un, .un, rfl⟩ ?_ ?_)
  · obtain ⟨i, e, rfl, _⟩ := enumD_mem hd
    exact tg_two
  · rintro Hs es i d Hb' ms' cs' σ' H' N hd e' c' em ⟨rfl, s, s', s'', rfl⟩ hN
    have hil : i < (enumD (signs (tS x))).length := (List.getElem?_eq_some_iff.mp hd).1
    rw [enumD_length, signs_tS, List.length_map] at hil
    have hc0 : x[i]? = some x[i] := List.getElem?_eq_getElem hil
    have hgi : (signs (tS x))[i]? = some (eC x[i]) := by rw [signs_tS, List.getElem?_map, hc0]; rfl
    rw [enumD_get hgi] at hd
    have hd := (Option.some.inj hd).symm
    subst hd
    generalize x[i] = a at hc0 hgi c'
    have ha : a ∈ names L := ix.kn a (List.mem_of_getElem? hc0)
    have hll := gt.look_len ha
    have hnl := nbFrom_len gt x (x.take i) 0 fun d hd => ix.kn d (List.mem_of_mem_take hd)
    have htl : (x.take i).length = i := by rw [List.length_take]; omega
    have hsn : nbFrom L x 0 (x.take (i + 1)) = nbFrom L x 0 (x.take i) ++ nbAt L x i a := by
      rw [List.take_add_one, hc0]
      show nbFrom L x 0 (x.take i ++ [a]) = _
      rw [nbFrom_snoc, htl, Nat.zero_add]
    have hget : EvD _ σ' H' (.tuple ((look L a).map eC)) := ev_dget (c'.var 0) (c'.var 4) (lkp_tab ha)
    refine s_if c' (et_test (ev_eqI (ev_lenT hget) ev_int)) (fun hb H3 e3 c3 => ?_) (fun hb H3 e3 c3 => ?_)
    · refine s_app c3 rfl (k := 0) rfl (ev_catT (ev_takeS (c3.var 1) (c3.var 3) rfl (by omega)) (ev_dropS (c3.var 1) (ev_add (c3.var 3) ev_int) (by rfl : _ = ((i + 1 : Nat) : Int)) (by omega)) (by simp; omega)) (by rw [List.length_map]; omega) fun H4 c4 => ?_
      refine hN Hb' _ _ _ _ e' c4 em ⟨?_, _, _, _, rfl⟩
      rw [hsn]
      unfold nbAt
      rw [if_pos (by simpa using hb)]
      simp
    · refine s_ext c3 rfl (k := 0) rfl (ef_map c3 (ei_lst (ex_0 (ef_call0 (ea_cons (c3.var 0) (ea_cons (c3.var 4) ea_nil)) ⟨L, a, rfl, gt, ha, rfl⟩).s)) (fun d _ => tg_name) (by decide) (fun d => eT (x.take i ++ [cOf d] ++ x.drop (i + 1))) (fun d hd σ'' H'' c'' => ?_) ?_).s ?_ fun H4 c4 => ?_
      · obtain ⟨b, hb, rfl⟩ := List.mem_map.mp hd
        exact ev_catT (ev_catT (b := [b]) (ev_takeS (c''.var 1) (c''.var 3) rfl (by omega)) (c''.var 5) (by simp; omega)) (ev_dropS (c''.var 1) (ev_add (c''.var 3) ev_int) (by rfl : _ = ((i + 1 : Nat) : Int)) (by omega)) (by simp; omega)
      · have := List.length_filter_le (fun d => !decide (d ∈ (look L a).flatMap (reach L))) (look L a)
        rw [List.length_map]
        unfold nextOnes
        omega
      · have := List.length_filter_le (fun d => !decide (d ∈ (look L a).flatMap (reach L))) (look L a)
        rw [List.length_map, List.length_map, List.length_map]
        unfold nextOnes
        omega
      · refine hN Hb' _ _ _ _ e' c4 em ⟨?_, _, _, _, rfl⟩
        rw [hsn]
        unfold nbAt
        rw [if_neg (by simpa using hb), List.map_append, List.map_map, List.map_map]
        rfl
  · rintro Hb' ms' cs' σ' H' e' c' em ⟨rfl, s, s', s'', rfl⟩
    refine s_retL c' rfl (k := 0) rfl fun ls => q p H' hp (e1.trans (e'.trans c'.ex)) ⟨p, rfl, ?_⟩
    rw [enumD_length, signs_tS, List.length_map, List.take_length] at ls
    exact ls
end
end FF
/-! the things at most a thing -/
namespace FF
open PySem PySem.Spec PyProof.Rows L2
open Evl (Ex EvT)
/-! ### sorted texts -/
def srt (l : List Thing) : List Thing := l.mergeSort fun a b => !decide (b < a)
theorem srt_perm (l : List Thing) : (srt l).Perm l := List.mergeSort_perm _ _
theorem le_of_not {a b : Thing} (h : ¬ b < a) : a ≤ b := List.not_lt.mp h
theorem srt_pw (l : List Thing) : (srt l).Pairwise (· ≤ ·) := by
  have h := List.pairwise_mergeSort (le := fun a b : Thing => !decide (b < a)) (fun a b c h1 h2 => ?_) (fun a b => ?_) l
  · exact h.imp fun {a b} h => le_of_not (by simpa using h)
  · have h1 : a ≤ b := le_of_not (by simpa using h1)
    have h2 : b ≤ c := le_of_not (by simpa using h2)
    have h3 : a ≤ c := List.le_trans h1 h2
    have : ¬ c < a := List.not_lt.mpr h3
    simpa using this
  · rcases List.le_total a b with h | h
    · have : ¬ b < a := List.not_lt.mpr h
      simp [this]
    · have : ¬ a < b := List.not_lt.mpr h
      simp [this]
theorem rising_pw : ∀ (l : List Thing) (p : Thing), risingS (tS p) (l.map tS) = true → (p :: l).Pairwise (· ≤ ·)
  | [], p, _ => List.pairwise_singleton _ _
  | x :: l, p, h => by
    have h : (!ltCps (tS x).cps.toList (tS p).cps.toList && risingS (tS x) (l.map tS)) = true := h
    rw [Bool.and_eq_true] at h
    have h1 : p ≤ x := by
      have h1 := h.1
      rw [tS_list, tS_list, ltCps_eq] at h1
      exact le_of_not (by simpa using h1)
    have ih := rising_pw l x h.2
    refine List.pairwise_cons.mpr ⟨fun y hy => ?_, ih⟩
    rcases List.mem_cons.mp hy with e | hy
    · rw [e]
      exact h1
    · exact List.le_trans h1 ((List.pairwise_cons.mp ih).1 y hy)
theorem sorted_pw {l : List Thing} (h : sortedS (l.map tS) = true) : l.Pairwise (· ≤ ·) := by
  cases l with
  | nil => exact List.Pairwise.nil
  | cons p l => exact rising_pw l p h
theorem sorted_is {l m : List Thing} (h : sortedS (m.map tS) = true) (p : m.Perm l) : m = srt l :=
  List.Perm.eq_of_pairwise (le := (· ≤ ·)) (fun a b _ _ h1 h2 => List.le_antisymm h1 h2) (sorted_pw h) (srt_pw l) (p.trans (srt_perm l).symm)
theorem perm_tS {ys : List Str} {l : List Thing} (h : ys.Perm (l.map tS)) : ∃ m : List Thing, ys = m.map tS ∧ m.Perm l := by
  refine ⟨ys.map fun y => y.cps.toList, ?_, ?_⟩
  · rw [List.map_map]
    conv => lhs; rw [← List.map_id ys]
    apply List.map_congr_left
    intro y hy
    obtain ⟨t, _, rfl⟩ := List.mem_map.mp (h.subset hy)
    show tS t = tS (tS t).cps.toList
    rw [tS_list]
  · have := h.map fun y => y.cps.toList
    rw [List.map_map] at this
    have e : (l.map ((fun y : Str => y.cps.toList) ∘ tS)) = l := by
      conv => rhs; rw [← List.map_id l]
      apply List.map_congr_left
      intro t _
      exact tS_list t
    rw [e] at this
    exact this
theorem eT_str (l : List Thing) : l.map eT = (l.map tS).map PyData.str := by rw [List.map_map]; rfl
section
variable {Hb H : Hp} {ms : Ms} {cs : List Sh} {σ : L2.St} {te ta tb : TE} {K : PySem.W.Frag} {D : Ends}
theorem ef_sortedS {l : List Thing} (ha : EvS te σ H (.ls (l.map eT))) (hl : l.length < 64) : EvF (tCB (rSortedS K) (tCons te tNil)) σ H (.ls ((srt l).map eT)) :=
  ef_cb (ea_cons ha ea_nil) fun vs H1 _ r Q q => by
    obtain ⟨v, rfl, p, rfl, h⟩ := sh1 r
    rw [eT_str] at h
    refine ⟨p, l.map tS, rfl, SqL.of h.strs, by rw [List.length_map]; exact hl, fun ys a hp hs ha => ?_⟩
    obtain ⟨m, rfl, hm⟩ := perm_tS hp
    have e := sorted_is hs hm
    subst e
    refine q a _ ha (Evl.Ex.new ha) ⟨a, rfl, _, upd_same, ?_⟩
    have e2 : ((srt l).map tS).map V.str = ((srt l).map eT).map vOf := by rw [List.map_map, List.map_map]; rfl
    rw [e2]
    exact RpAll.ofFlat (by rw [eT_str]; exact flat_strs _)
theorem RpKv.keyVs {H : Hp} : ∀ {kvs : List (Str × PyData)} {es : List (Key × V)}, RpKv H kvs es → es.map (fun kv => kV kv.1) = (kvs.map fun kv => PyData.str kv.1).map vOf
  | [], [], _ => rfl
  | (_, _) :: _, (_, _) :: _, h => by
    rw [List.map_cons, List.map_cons, List.map_cons, h.1, RpKv.keyVs h.2.2]
    rfl
  | [], _ :: _, h => h.elim
  | (_, _) :: _, [], h => h.elim
/-- list(d) -/
theorem ef_listD {kvs : List (Str × PyData)} (ha : EvS te σ H (.dc kvs)) : EvF (tCB rListD (tCons te tNil)) σ H (.ls (kvs.map fun kv => PyData.str kv.1)) :=
  ef_cb (ea_cons ha ea_nil) fun vs H1 _ r Q q => by
    obtain ⟨v, rfl, p, es, rfl, h1, h2⟩ := sh1 r
    refine ⟨p, es, rfl, h1, fun l hl => ?_⟩
    rw [h2.keyVs]
    exact q l _ hl (Evl.Ex.new hl) ⟨l, rfl, _, upd_same, RpAll.ofFlat fun d hd => by
      obtain ⟨kv, _, rfl⟩ := List.mem_map.mp hd
      rfl⟩
/-- {x: d} -/
theorem ef_disp1 {k : Str} {d : PyData} (h1 : EvD ta σ H (.str k)) (h2 : EvD tb σ H d) : EvF (tDisp [(ta, tb)]) σ H (.dc [(k, d)]) := fun H1 e Q q p hp => by
  have e1 : Ex H1 (L2.upd H1 p (.dK [])) := Evl.Ex.new hp
  refine h1 _ (e.trans e1) _ fun v H2 e2 rv => h2 _ ((e.trans e1).trans e2) _ fun u H3 e3 ru => ?_
  have rv : v = .str k := rv
  subst rv
  have hp3 : H3 p = some (.dK []) := e3 _ _ (e2 _ _ upd_same)
  refine ⟨hp3, [(Sum.inr k, u)], rfl, (by show 1 ≤ 15; decide), ?_⟩
  have ex : Ex H1 (L2.upd H3 p (.dK (mergeK [] [(Sum.inr k, u)]))) := fun a o h => by
    have : a ≠ p := fun z => by rw [z, hp] at h; cases h
    rw [upd_ne this]
    exact e3 _ _ (e2 _ _ (e1 _ _ h))
  have pr : Pr H3 (L2.upd H3 p (.dK (mergeK [] [(Sum.inr k, u)]))) := fun a o t h => by
    have : a ≠ p := fun z => by
      rw [z, hp3] at h
      cases h
      cases t
    rw [upd_ne this]
    exact h
  exact q p _ hp ex ⟨p, _, rfl, upd_same, rfl, ru.mono pr, trivial⟩
/-- one is popped -/
theorem Cu.popped (c : Cu Hb ms cs σ H) {k : Nat} {p : Addr} {ds : List PyData} {d : PyData} (hk : ms[k]? = some (p, .l (ds ++ [d]))) :
    ∃ xs y, H p = some (.lst xs) ∧ xs[xs.length - 1]? = some y ∧ Rp H d y ∧ Cu Hb (ms.set k (p, .l ds)) cs σ (L2.upd H p (.lst xs.dropLast)) := by
  obtain ⟨xs, h1, h2⟩ := c.lst hk
  have hl : xs.length = ds.length + 1 := by rw [← h2.length, List.length_append]; rfl
  obtain ⟨y, h3, h4⟩ := h2.get (i := ds.length) (d := d) (by simp)
  have h5 : RpAll H ds xs.dropLast := by
    have := h2.take ds.length
    rw [List.take_left] at this
    have e : xs.take ds.length = xs.dropLast := by
      rw [List.dropLast_eq_take, hl, Nat.add_sub_cancel]
    rw [e] at this
    exact this
  exact ⟨xs, y, h1, by rw [hl, Nat.add_sub_cancel]; exact h3, h4, c.upd hk (m' := .l ds) (o := .lst xs.dropLast) (RpAll.mono (c.updPr hk) h5)⟩
/-- a for that walks what another source, from another heap, would walk -/
theorem s_forBy {wi wi0 : TI} {g : TG} {tu : TS} {Hm : Hp} (h : ∀ R, wi0 σ Hm R → wi σ H R) (k : tFor wi0 g tu D σ Hm) : tFor wi g tu D σ H := h _ k
end
section
variable {α : Type} [DecidableEq α]
theorem pushNew_new : ∀ (f w l : List α) (a : α), a ∉ (pushNew f w l).1 → pushNew f w (l ++ [a]) = ((pushNew f w l).1 ++ [a], a :: (pushNew f w l).2)
  | f, w, [], a, h => by
    show (if a ∈ f then pushNew f w [] else pushNew (f ++ [a]) (a :: w) []) = _
    rw [if_neg (show ¬ a ∈ f from h)]
    rfl
  | f, w, b :: l, a, h => by
    rw [List.cons_append]
    unfold pushNew at h ⊢
    split
    · rename_i z
      rw [if_pos z] at h
      exact pushNew_new f w l a h
    · rename_i z
      rw [if_neg z] at h
      exact pushNew_new _ _ l a h
theorem pushNew_old : ∀ (f w l : List α) (a : α), a ∈ (pushNew f w l).1 → pushNew f w (l ++ [a]) = pushNew f w l
  | f, w, [], a, h => by
    show (if a ∈ f then pushNew f w [] else pushNew (f ++ [a]) (a :: w) []) = _
    rw [if_pos (show a ∈ f from h)]
  | f, w, b :: l, a, h => by
    rw [List.cons_append]
    unfold pushNew at h ⊢
    split
    · rename_i z
      rw [if_pos z] at h
      exact pushNew_old f w l a h
    · rename_i z
      rw [if_neg z] at h
      exact pushNew_old _ _ l a h
theorem pushNew_snd : ∀ (f w l : List α), (pushNew f w l).2.length ≤ w.length + l.length
  | f, w, [] => Nat.le_refl _
  | f, w, b :: l => by
    unfold pushNew
    split
    · exact Nat.le_trans (pushNew_snd f w l) (by simp)
    · have := pushNew_snd (f ++ [b]) (b :: w) l
      simp only [List.length_cons] at this ⊢
      omega
theorem pushNew_mem : ∀ (f w l : List α) (x : α), x ∈ (pushNew f w l).2 → x ∈ w ∨ x ∈ l
  | f, w, [], x, h => .inl h
  | f, w, b :: l, x, h => by
    unfold pushNew at h
    split at h
    · rcases pushNew_mem f w l x h with h | h
      · exact .inl h
      · exact .inr (List.mem_cons_of_mem _ h)
    · rcases pushNew_mem _ _ l x h with h | h
      · rcases List.mem_cons.mp h with h | h
        · subst h
          exact .inr (List.mem_cons_self ..)
        · exact .inl h
      · exact .inr (List.mem_cons_of_mem _ h)
end
theorem nbAt_thing {L : Tab} (g : GoodTab L) {x : Thing} (ix : IsThing L x) {k c : Nat} (hc : x[k]? = some c) : ∀ y ∈ nbAt L x k c, IsThing L y := fun y hy => by
  have hk : k < x.length := (List.getElem?_eq_some_iff.mp hc).1
  have hcn := ix.kn c (List.mem_of_getElem? hc)
  have hx := ix.len
  unfold nbAt at hy
  split at hy
  · rw [List.mem_singleton.mp hy]
    refine ⟨fun d hd => ?_, ?_⟩
    · rcases List.mem_append.mp hd with hd | hd
      · exact ix.kn d (List.mem_of_mem_take hd)
      · exact ix.kn d (List.mem_of_mem_drop hd)
    · simp
      omega
  · obtain ⟨d, hd, rfl⟩ := List.mem_map.mp hy
    refine ⟨fun e he => ?_, ?_⟩
    · rcases List.mem_append.mp he with he | he
      · rcases List.mem_append.mp he with he | he
        · exact ix.kn e (List.mem_of_mem_take he)
        · rw [List.mem_singleton.mp he]
          exact g.next_kn hcn d hd
      · exact ix.kn e (List.mem_of_mem_drop he)
    · simp
      omega
theorem nbFrom_mem {L : Tab} {x : Thing} : ∀ {r : Thing} {k : Nat} {y : Thing}, y ∈ nbFrom L x k r → ∃ (i c : Nat), r[i]? = some c ∧ y ∈ nbAt L x (k + i) c
  | [], _, _, h => by cases h
  | c :: r, k, y, h => by
    unfold nbFrom at h
    rcases List.mem_append.mp h with h | h
    · exact ⟨0, c, rfl, h⟩
    · obtain ⟨i, d, h1, h2⟩ := nbFrom_mem h
      exact ⟨i + 1, d, h1, by rw [show k + (i + 1) = k + 1 + i by omega]; exact h2⟩
theorem nb_thing {L : Tab} (g : GoodTab L) {x : Thing} (ix : IsThing L x) : ∀ y ∈ nb L x, IsThing L y := fun y hy => by
  obtain ⟨i, c, h1, h2⟩ := nbFrom_mem hy
  rw [Nat.zero_add] at h2
  exact nbAt_thing g ix h1 y h2
def seen (f : List Thing) : List (Str × PyData) := f.map fun t => (tS t, .bool true)
theorem lkp_seen (f : List Thing) (a : Thing) : (lkp (seen f) (tS a)).isSome = decide (a ∈ f) := by
  unfold lkp seen
  rw [Option.isSome_map]
  induction f with
  | nil => rfl
  | cons b f ih =>
    rw [List.map_cons, List.find?_cons]
    by_cases e : b = a
    · subst e
      rw [show decide (((tS b, PyData.bool true) : Str × PyData).1 = tS b) = true from decide_eq_true rfl]
      simp
    · rw [show decide (((tS b, PyData.bool true) : Str × PyData).1 = tS a) = false from decide_eq_false fun z => e (tS_inj z)]
      exact ih.trans (decide_eq_decide.mpr ⟨List.mem_cons_of_mem _, fun h => (List.mem_cons.mp h).resolve_left fun z => e z.symm⟩)
theorem putS_new {kvs : List (Str × PyData)} {k : Str} {d : PyData} (h : (lkp kvs k).isSome = false) : putS kvs k d = kvs ++ [(k, d)] := by
  unfold putS
  rw [if_neg]
  intro z
  obtain ⟨q, hq, e⟩ := List.any_eq_true.mp z
  unfold lkp at h
  rw [Option.isSome_map, Option.isSome_eq_false_iff, Option.isNone_iff_eq_none] at h
  exact absurd e (List.find?_eq_none.mp h q hq)
section
variable {P : Program} {w : World} {K : PySem.W.Frag} {mg : Str → Option Value} {base : Heap}
def domThAt (ss : List Sh) (d : PyData) : Prop := ∃ (B : Book) (x : Thing) (n : Nat) (r : List Thing), ss = [.hd (eBook B), .hd (eT x)] ∧ GoodTab B.tab ∧ IsThing B.tab x ∧ growLoop (nb B.tab) n [x] [x] = some r ∧ r.length < 64 ∧ n ≤ 1000 ∧ d = .tuple ((srt r).map eT)
theorem sc_things_at_most : FnScope ["book", "x", "lessers", "found", "waiting", "thing"] ["book", "x"] (defScope (top 56)) := ⟨rfl, rfl, rfl, by decide +kernel, rfl, by decide +kernel, by decide +kernel⟩
theorem c_things_at_most (T : Txt K mg) : Cal P w K mg base 4 "things_at_most" (spD domThAt) [] := by
  refine cal_of (k := 3) T 34 (d := d_things_at_most) rfl sc_things_at_most rfl rfl (fun _ _ _ _ _ _ us hl => match us, hl with | [_, _], _ => rfl) (len_D fun _ _ ⟨_, _, _, _, e, _⟩ => by rw [e]; rfl) (fun f cdv A outer s H vs Q E hr h => ?_)
  obtain ⟨ss, d, r0, ⟨B, x, n, r, rfl, gt, ix, hg, hr64, hn, rfl⟩, q⟩ := h
  have c := Cu.entry (N := ["book", "x", "lessers", "found", "waiting", "thing"]) r0
  refine ⟨_, (pss_cons (ps_expr (pe_c (c_want_thing_usable T) hr (by decide) rfl (pa_cons pe_str (pa_cons (pv 0) (pa_cons (pv 1) pa_nil)))))
  (pss_cons (ps_set (i := 2) sc_things_at_most.nd rfl (by first | exact Or.inl rfl | exact Or.inr rfl) (pe_callTy (call_dictT (K := K) rfl rfl) rfl T.dict_ (by decide +kernel) (pa_cons (pe_ix (ix_tupK (K := K) rfl) (pv 0) pe_int (fun _ _ => rfl)) pa_nil)))
  (pss_cons (ps_set (i := 3) sc_things_at_most.nd rfl (by first | exact Or.inl rfl | exact Or.inr rfl) (pe_disp (pps_cons (pv 1) pe_bl pps_nil) rfl rfl (fun z => by cases z) (by decide)))
  (pss_cons (ps_set (i := 4) sc_things_at_most.nd rfl (by first | exact Or.inl rfl | exact Or.inr rfl) (pe_lst (pa_cons (pv 1) pa_nil)))
  (pss_cons (ps_while PassesOwn.never (pt_cmpR op_gt (pe_callB (call_len_seqK (K := K) rfl) rfl T.len_ (by decide +kernel) (pa_cons (pv 4) pa_nil)) pe_int (nomark _)) (pss_one (ps_for PassesOwn.never rfl (pi_listK (K := K) rfl (pe_c (c_next_ones_below T) hr (by decide) rfl (pa_cons (pv 2) (pa_cons (pe_bm0K' (K := K) rfl PySem.F.plainAttrs_list PySem.F.slot_list_pop PySem.F.type_list_pop mt_pop (pv 4)) pa_nil)))) (pg_name (i := 5) sc_things_at_most.nd rfl (by first | exact Or.inl rfl | exact Or.inr rfl)) (pss_one (ps_if (pt_cmp (pc_dnotin (hu_of hr) (pv 5) (pv 3)) rfl) (pss_cons (ps_dput (hu_of hr) (pv 3) (pv 5) pe_bl rfl)
  (pss_one (ps_expr (pe_bmK (K := K) rfl PySem.F.plainAttrs_list PySem.F.slot_list_append PySem.F.type_list_append mt_append (pv 4) (pa_cons (pv 5) pa_nil))))) pss_nil)))))
  (pss_one (ps_ret (pe_callTy (call_tuple_ofK (K := K) rfl) rfl T.tuple_ (by decide +kernel) (pa_cons (pe_callB (cr_sortedSK (K := K) rfl) rfl T.sorted_ (by decide +kernel) (pa_cons (pe_callTy (call_list_dK rfl) rfl T.list_ (by decide +kernel) (pa_cons (pv 3) pa_nil)) pa_nil)) pa_nil))))))))), ?_⟩
  refine st_seq (s_drop (s := .hd .none) (ev_call0 (ea_cons ev_str (ea_cons (c.var 0) (ea_cons (c.var 1) ea_nil))) ⟨B, x, _, rfl, gt, ix, rfl⟩) fun H1 e1 => ?_)
  have c1 := c.ext e1
  refine st_seq (s_setFd c1 (ef_tab gt (c1.var 0)) fun Hb2 σ2 H2 e2 c2 => ?_)
  refine st_seq (s_setMd c2 (ef_disp1 (c2.var 1) ev_bl) fun pf Hb3 σ3 H3 e3 hpf c3 => ?_)
  refine st_seq (s_setM c3 (ef_lst (ds := [eT x]) (ea_cons (c3.var 1) ea_nil) (by show 1 ≤ 100000; decide)) fun pw Hb4 σ4 H4 e4 hpw c4 => ?_)
  refine st_seq (s_while c4 (fun m cs ms => ∃ (f w : List Thing) (s : Sh), cs = [.hd (eBook B), .hd (eT x), dTab B.tab, .vl (.ref pf), .vl (.ref pw), s] ∧ ms = [(pf, .d (seen f)), (pw, .l (w.reverse.map eT))] ∧ growLoop (nb B.tab) m f w = some r ∧ m ≤ 1000 ∧ ∀ t ∈ w, IsThing B.tab t) (m0 := n) ⟨[x], [x], .un, rfl, rfl, hg, hn, fun t ht => by rw [List.mem_singleton.mp ht]; exact ix⟩ ?_)
  rintro m Hb' ms' cs' σ' H' e' c' em ⟨f, w, s, rfl, rfl, hl, hm, hk⟩
  refine ⟨_, et_test (ev_gt (ev_lenL (c'.lvar 4 1)) ev_int), fun hb H5 N c5 hN => ?_, fun hb H5 c5 => ?_⟩
  · cases w with
    | nil => cases hb
    | cons a w =>
      cases m with
      | zero => cases hl
      | succ m =>
        have ha := hk a (List.mem_cons_self ..)
        have hfl := growLoop_len hl
        unfold growLoop at hl
        have hnl : (nb B.tab a).length ≤ 12 := Nat.le_trans (nbFrom_len gt a a 0 ha.kn) (by have := ha.len; omega)
        have hwl : w.length ≤ 1000 := by have := hfl.2; simp only [List.length_cons] at this; omega
        obtain ⟨xs, y, g1, g2, g3, c6⟩ := c5.popped (k := 1) (ds := w.reverse.map eT) (d := eT a) (by rw [List.reverse_cons, List.map_append]; rfl)
        have g3 : y = .str (tS a) := g3
        subst g3
        refine s_forBy (wi0 := iList K (tCall (spF domNb) [] E0 (tCons (tVar 2) (tCons (tC (.str (tS a))) tNil)))) (fun R h => ?_) (s_for c6 (ei_lst (ex_f c6 (ef_call0 (ea_cons (c6.var 2) (ea_cons (ev_str (x := tS a)) ea_nil)) ⟨B.tab, a, rfl, gt, ha, rfl⟩))) (fun d _ => tg_name) (fun i cs ms => ∃ s, cs = [.hd (eBook B), .hd (eT x), dTab B.tab, .vl (.ref pf), .vl (.ref pw), s] ∧ ms = [(pf, .d (seen (pushNew f w ((nb B.tab a).take i)).1)), (pw, .l ((pushNew f w ((nb B.tab a).take i)).2.reverse.map eT))]) ⟨_, rfl, rfl⟩ ?_ ?_)
        · obtain ⟨v, hv, h⟩ := h
          exact ⟨v, hv, .ref pw, c5.slot 4, .inl ⟨rfl, xs, SqL.of g1⟩, pw, xs, _, rfl, rfl, g1, g2, h⟩
        · rintro Hs es i d Hb7 ms7 cs7 σ7 H7 N7 hd e7 c7 em7 ⟨s7, rfl, rfl⟩ hN7
          rw [List.getElem?_map] at hd
          obtain ⟨t, ht, rfl⟩ := Option.map_eq_some_iff.mp hd
          have htk : (nb B.tab a).take (i + 1) = (nb B.tab a).take i ++ [t] := by rw [List.take_add_one, ht]; rfl
          have hl1 : (pushNew f w ((nb B.tab a).take i)).1.length ≤ 64 + 12 := by
            rw [pushNew_fst]
            have := addNew_le f ((nb B.tab a).take i)
            rw [List.length_take] at this
            have := hfl.1
            omega
          have hl2 : (pushNew f w ((nb B.tab a).take i)).2.length ≤ 1000 + 12 := by
            have := pushNew_snd f w ((nb B.tab a).take i)
            rw [List.length_take] at this
            omega
          refine s_if c7 (et_test (ev_is (ev_dnotin (c7.var 5) (c7.dvar 3 0)) (by rw [lkp_seen]))) (fun hb' H8 e8 c8 => ?_) (fun hb' H8 e8 c8 => ?_)
          · have nf : t ∉ (pushNew f w ((nb B.tab a).take i)).1 := by simpa using hb'
            have hsn := pushNew_new _ _ _ _ nf
            rw [← htk] at hsn
            refine st_seq (s_dput c8 rfl (k := 0) rfl (c8.var 5) ev_bl (by unfold seen; rw [List.length_map]; omega) fun H9 c9 => ?_)
            refine s_app c9 rfl (k := 1) rfl (c9.var 5) (by rw [List.length_map, List.length_reverse]; omega) fun H10 c10 => ?_
            refine hN7 Hb7 _ _ _ _ e7 c10 em7 ⟨_, rfl, ?_⟩
            rw [hsn, putS_new (by rw [lkp_seen]; exact decide_eq_false nf)]
            unfold seen
            rw [List.reverse_cons, List.map_append, List.map_append]
            rfl
          · have nf : t ∈ (pushNew f w ((nb B.tab a).take i)).1 := by simpa using hb'
            have hsn := pushNew_old _ _ _ _ nf
            rw [← htk] at hsn
            exact hN7 Hb7 _ _ _ _ e7 c8 em7 ⟨_, rfl, by rw [hsn]⟩
        · rintro Hb7 ms7 cs7 σ7 H7 e7 c7 em7 ⟨s7, rfl, rfl⟩
          rw [List.length_map, List.take_length] at c7
          refine hN m Hb7 _ _ _ _ (Nat.lt_succ_self m) (e'.trans e7) c7 em7 ⟨_, _, _, rfl, rfl, hl, by omega, fun t ht => ?_⟩
          rcases pushNew_mem _ _ _ _ ht with h | h
          · exact hk t (List.mem_cons_of_mem _ h)
          · exact nb_thing gt ha t h
  · cases w with
    | cons a w => simp at hb
    | nil =>
      cases m with
      | zero => cases hl
      | succ m =>
        have ef : f = r := Option.some.inj hl
        subst ef
        refine s_ret (s := .hd (.tuple ((srt f).map eT))) (ev_tupL (ef_sortedS (es_is (ef_listD (c5.dvar 3 0)).s (by unfold seen; rw [List.map_map]; rfl)) hr64).s) fun v H6 e6 rv => q v H6 ((e2.trans (e3.trans (e4.trans (e'.trans c5.ex)))).trans e6) rv
end
end FF
/-! lists of ranges; dict comprehensions -/
namespace FF
open PySem PySem.Spec PyProof.Rows L2
open Evl (Ex EvT)
section
variable {X : Cx}
/-! ### list(range(a, b, -1)) -/
def rgD (a b : Int) : List V := (List.range (a - b).toNat).map fun i => V.int (a - (i : Nat))
def tLstRgD (ta : TA) : TE := fun σ H Q => ta σ H fun vs H1 => ∃ i j : Int, vs = [.int i, .int j, .int (-1)] ∧ -100000 ≤ i ∧ i ≤ 100000 ∧ -100000 ≤ j ∧ j ≤ 100000 ∧ ∀ q, H1 q = none → Q (.ref q) (L2.upd H1 q (.lst (rgD i j)))
theorem vals_rgD {a b : Int} {acc : Array Value} (h : ItemsOf (fun i v => ∃ t, v = .int (a + i * (-1)) t) acc (a - b).toNat) : Vals (rgD a b) acc.toList := by
  have e : acc.toList.length = (a - b).toNat := by rw [Array.length_toList]; exact h.1
  unfold rgD
  rw [← e]
  refine vals_of_get acc.toList _ fun j u hj => ?_
  obtain ⟨t, rfl⟩ := h.2 j u (by rw [← hj, Array.getElem?_toList])
  exact ⟨t, by rw [show a + (j : Int) * (-1) = a - (j : Nat) by omega]⟩
theorem pe_listRgD {a b c : Expr} {ta : TA} {p p2 pos pos2 : Pos} (hc : X.calm = true) (hg : Gl X "list") (hm : X.mg "list" = none) (hg2 : Gl X "range") (hm2 : X.mg "range" = none) (ha : PA X [a, b, c] ta)
    (hs : starEach [a, b, c] X.env = (false, eval a X.env) :: starEach [b, c] X.env := by rfl) (hpl : (backTo pos2 (starEach [b, c] X.env)).any (·.1) = false := by rfl)
    (na : starEach [.Call (.Name "range" p2) [a, b, c] [] pos2] X.env = (false, eval (.Call (.Name "range" p2) [a, b, c] [] pos2) X.env) :: starEach [] X.env := by rfl) :
    PE X (.Call (.Name "list" p) [.Call (.Name "range" p2) [a, b, c] [] pos2] [] pos) (tLstRgD ta) := by
  refine ⟨fun pins s σ H Q I h => ?_⟩
  have inner : wpAny (model X.prog X.w) X.A (eval (.Call (.Name "range" p2) [a, b, c] [] pos2) X.env) (fun x s' => ∃ r i j t u v H', x = .ref r ∧ IsRange s'.heap r i j (-1) t u v ∧ Inv X pins σ H' s' ∧ -100000 ≤ i ∧ i ≤ 100000 ∧ -100000 ≤ j ∧ j ≤ 100000 ∧ ∀ q, H' q = none → Q (.ref q) (L2.upd H' q (.lst (rgD i j)))) X.xe s := by
    refine Call_ (ld_blt I hg2 hm2 boot_range (PyProof.Rows.callWith_type1 (thn (ha.run pos2 pins s σ H _ I h) fun us s1 ⟨vs, H1, I1, r1, q1⟩ => ?_) hs hpl))
    obtain ⟨i, j, e, c1, c2, c3, c4, q⟩ := q1
    subst e
    cases r1 with
    | cons r rr =>
      cases rr with
      | cons r' rr =>
        cases rr with
        | cons r'' rr =>
          cases rr
          obtain ⟨t, rfl⟩ := r
          obtain ⟨t', rfl⟩ := r'
          obtain ⟨t'', rfl⟩ := r''
          refine call_range_3 (by decide) ?_ (.inl (PyProof.noPylong_small (by decide)))
          exact ⟨_, i, j, _, _, _, H1, rfl, IsRange.new _ _ _ _ _ _ _, I1.kept (t' := s1.toks) fun b o e => Heap.get?_push_of_some _ e, c1, c2, c3, c4, q⟩
  refine Call_ (ld_blt I hg hm boot_list (PyProof.Rows.callWith_type1 (args_cons (thn inner fun x s1 ⟨r, i, j, t, u, v, H1, ex, hr, I1, c1, c2, c3, c4, q⟩ => args_nil ?_) na) na))
  subst ex
  refine call_list_range (n := (i - j).toNat) (I1.ok.hd hc) hr (PySem.W.small_down (by omega) (by omega) (by omega) (by omega)) (PySem.W.rangeSize_downNat i j) (by omega) fun h' tk acc c' hk e' hi => ?_
  refine ⟨.ref s1.heap.objs.size, L2.upd H1 s1.heap.objs.size (.lst (rgD i j)), I1.laid hk (Nat.le_refl _) (show ObjOk X.prog X.w _ _ _ (.lst (rgD i j)) from ⟨?_, acc.toList, c', vals_rgD hi, ?_⟩), rfl, q _ (I1.hok.fresh (Nat.le_refl _))⟩
  · unfold rgD
    rw [List.length_map, List.length_range, sizeLine_eq]
    omega
  · rw [Array.toArray_toList]; exact e'
/-! ### a dict comprehension that goes to a local -/
theorem ps_setDc {i : Nat} {y : Str} {py : Pos} {kx vx tg iter : Expr} {ifs : List Expr} {scope : Scope} {own : List (Str × Nat)} {pos spos : Pos} {wi : TI} {g : TG} {tt : TT} {tk tv : TE} (hc : X.calm = true) (hN : X.N.Nodup) (hy : X.N[i]? = some y) (hyl : X.env.scope.names.lookup y = some .local)
    (hsw : swapsWith (.DictComp kx vx [⟨tg, iter, ifs, 0⟩] scope pos) (some (.Name y py)) spos.line X.env = pure true) (hi : PI X tg iter wi) (ok : BlkOk X.N X.env.scope scope own)
    (hg : ∀ (s : Shared) (H : Hp) (C : Addr) (cl : List (Str × Addr)) (fp : List Addr), PG (X.blk s H scope (compEnvC scope cl C X.env) fp) tg g) (ht : ∀ (s : Shared) (H : Hp) (C : Addr) (cl : List (Str × Addr)) (fp : List Addr), PTs (X.blk s H scope (compEnvC scope cl C X.env) fp) ifs tt)
    (hk : ∀ (s : Shared) (H : Hp) (C : Addr) (cl : List (Str × Addr)) (fp : List Addr), PE (X.blk s H scope (compEnvC scope cl C X.env) fp) kx tk)
    (he : ∀ (s : Shared) (H : Hp) (C : Addr) (cl : List (Str × Addr)) (fp : List Addr), PE (X.blk s H scope (compEnvC scope cl C X.env) fp) vx tv) (hs : ∀ x, foldedSetIterable iter X.env x = pure x := by intro _; rfl) :
    PS X (.Assign [.Name y py] (.DictComp kx vx [⟨tg, iter, ifs, 0⟩] scope pos) spos) (tAsg (tDc wi g tt tk tv (own.map (·.2))) (gName i)) := by
  refine ⟨fun pins s σ H D I h => ?_⟩
  rw [exec_Assign_Name_used _ _ _ _ hsw]
  refine wpAny_bind (wpAny_standAt (wpAny_bind ?_))
  show wpAny _ X.A (do let _ ← comprehension (.DictComp kx vx [⟨tg, iter, ifs, 0⟩] scope pos) scope X.env (firstIterPos [⟨tg, iter, ifs, 0⟩] pos) newDict false (eval iter X.env) (some (assign (.Name y py) X.env))) _ _ s
  have h : tDc wi g tt tk tv (own.map (·.2)) σ H (fun x H1 => gName i x σ H1 D.nx) := h
  refine wpAny_bind (thn (dc_core (Qf := fun _ s' => SP X pins D .next s') hc hN I hi ok hg ht hk he hs h fun L C s' m H' I' q hn f => ?_) fun _ s' hq => wpAny_pure (wpAny_pure hq))
  show wpAny _ _ (assign (.Name y py) X.env (.ref L)) _ _ _
  refine wpAny_assign_Name (store_ok2 (v := V.ref L) I' hN hy (.inl hyl) rfl (fun s2 I2 ⟨a, sb, ha⟩ => ?_) (.inr hyl))
  obtain ⟨f0, f1, f2, f3, f4, f5⟩ := f
  have haC : C ≠ a := by
    rcases ha with z | z
    · rw [z]; exact f1
    · exact fun e => f4 y a z e.symm
  refine ⟨m, hn.sameBut sb haC, fun h3 sb3 => ?_⟩
  exact ⟨_, H', I2.turned (t' := s2.toks) (fun b o hb e => (sb3.2 b hb).trans e) f0 f1 f3 f4 f5, q⟩
theorem sw_trueD {kx vx : Expr} {gs : List Comprehension} {scope : Scope} {pos py : Pos} {y : Str} {l : Nat} {env : Env} (hk : env.scope.kind = .function) (hy : env.scope.names.lookup y = some .local) (hl : (py.line == pos.line) = true)
    (ha : (scope.names.any fun (n, k) => n == y && (k == .local || k == .cell)) = false) : swapsWith (.DictComp kx vx gs scope pos) (some (.Name y py)) l env = pure true := by
  have ky : env.kindOf y = some .local := hy
  have hb : env.blockKind = .function := by unfold Env.blockKind; rw [hk]; rfl
  unfold swapsWith
  simp only [hb, ky, ha, Expr.pos, hl]
  rfl
end
/-! ### readings -/
section
variable {Hb H : Hp} {ms : Ms} {cs : List Sh} {σ : L2.St} {te ta tb : TE} {K : PySem.W.Frag} {D : Ends}
theorem rgV_d (lo hi : Int) : rgV lo hi = (intsD lo (hi - lo).toNat).map vOf := by
  unfold rgV intsD
  rw [List.map_map]
  rfl
theorem flat_intsD (lo : Int) (n : Nat) : ∀ d ∈ intsD lo n, flat d = true := fun d hd => by
  obtain ⟨y, _, rfl⟩ := List.mem_map.mp hd
  rfl
theorem ef_rg1 {n : Int} (h : EvD te σ H (.int n)) (h1 : -100000 ≤ n ∧ n ≤ 100000) : EvF (tLstRg (tRg1 te)) σ H (.ls (intsD 0 n.toNat)) := fun H1 e Q q =>
  h H1 e _ fun v H2 e2 rv => by
    have rv : v = .int n := rv
    subst rv
    refine ⟨n, rfl, ⟨by omega, by omega, by omega, by omega, by omega⟩, fun l hl => ?_⟩
    rw [rgV_d, Int.sub_zero]
    exact q l _ (Evl.fresh_back e2 hl) (e2.trans (Evl.Ex.new hl)) ⟨l, rfl, _, upd_same, RpAll.ofFlat (flat_intsD _ _)⟩
theorem ef_rg2 {lo hi : Int} (h : EvD ta σ H (.int lo)) (h' : EvD tb σ H (.int hi)) (h1 : -100000 ≤ lo ∧ lo ≤ 100000) (h2 : -100000 ≤ hi ∧ hi ≤ 100000) : EvF (tLstRg (tRg2 ta tb)) σ H (.ls (intsD lo (hi - lo).toNat)) := fun H1 e Q q =>
  h H1 e _ fun v H2 e2 rv => h' H2 (e.trans e2) _ fun u H3 e3 ru => by
    have rv : v = .int lo := rv
    have ru : u = .int hi := ru
    subst rv ru
    refine ⟨lo, hi, rfl, rfl, ⟨by omega, by omega, by omega, by omega, by omega⟩, fun l hl => ?_⟩
    rw [rgV_d]
    exact q l _ (Evl.fresh_back (e2.trans e3) hl) ((e2.trans e3).trans (Evl.Ex.new hl)) ⟨l, rfl, _, upd_same, RpAll.ofFlat (flat_intsD _ _)⟩
def downD (a : Int) (n : Nat) : List PyData := (List.range n).map fun i => .int (a - (i : Nat))
theorem ef_rgD {ta : TA} {i j : Int} (h : EvAs ta σ H [.hd (.int i), .hd (.int j), .hd (.int (-1))]) (h1 : -100000 ≤ i ∧ i ≤ 100000) (h2 : -100000 ≤ j ∧ j ≤ 100000) : EvF (tLstRgD ta) σ H (.ls (downD i (i - j).toNat)) := fun H1 e Q q =>
  h H1 e _ fun vs H2 e2 rv => by
    match vs, rv with
    | [v1, v2, v3], rv =>
      have r1 : v1 = .int i := rv.1
      have r2 : v2 = .int j := rv.2.1
      have r3 : v3 = .int (-1) := rv.2.2.1
      subst r1 r2 r3
      refine ⟨i, j, rfl, h1.1, h1.2, h2.1, h2.2, fun l hl => ?_⟩
      have e3 : rgD i j = (downD i (i - j).toNat).map vOf := by
        unfold rgD downD
        rw [List.map_map]
        rfl
      rw [e3]
      exact q l _ (Evl.fresh_back e2 hl) (e2.trans (Evl.Ex.new hl)) ⟨l, rfl, _, upd_same, RpAll.ofFlat fun d hd => by
        obtain ⟨y, _, rfl⟩ := List.mem_map.mp hd
        rfl⟩
    | [], rv => exact rv.elim
    | [_], rv => exact rv.2.elim
    | [_, _], rv => exact rv.2.2.elim
    | _ :: _ :: _ :: _ :: _, rv => exact rv.2.2.2.elim
end
end FF
/-! readings of dict comprehensions -/
namespace FF
open PySem PySem.Spec PyProof.Rows L2
open Evl (Ex EvT)
abbrev Stays (H H' : Hp) : Prop := ∀ a o, (∀ es, o ≠ HO.dK es) → H a = some o → H' a = some o
theorem Stays.pr {H H' : Hp} (s : Stays H H') : Pr H H' := fun a o t h => s a o (fun es z => by rw [z] at t; cases t) h
theorem RpKv.stay {H H' : Hp} (s : Stays H H') {rows : List (Str × PyData)} {es : List (Key × V)} (h : RpKv H rows es) : RpKv H' rows es := h.mono s.pr
theorem LsAt.stay {H H' : Hp} (s : Stays H H') {p : Addr} {ds : List PyData} (h : LsAt H p ds) : LsAt H' p ds := let ⟨xs, a, b⟩ := h; ⟨xs, s p _ (fun es z => by cases z) a, b.mono s.pr⟩
theorem RpKl.stay {H H' : Hp} (s : Stays H H') : ∀ {rows : List (Str × List PyData)} {es : List (Key × V)}, RpKl H rows es → RpKl H' rows es
  | [], [], _ => trivial
  | (_, _) :: _, (_, _) :: _, h => ⟨h.1, (let ⟨p, a, b⟩ := h.2.1; ⟨p, a, b.stay s⟩), RpKl.stay s h.2.2⟩
  | [], _ :: _, h => h.elim
  | (_, _) :: _, [], h => h.elim
theorem RpKv.snoc2 {H : Hp} {k : Str} {d : PyData} {v : V} (r : Rp H d v) {kvs : List (Str × PyData)} {es : List (Key × V)} (h : RpKv H kvs es) : RpKv H (kvs ++ [(k, d)]) (es ++ [(Sum.inr k, v)]) := h.snoc r
theorem RpKl.snoc2 {H : Hp} {k : Str} {d : List PyData} {p : Addr} (r : LsAt H p d) : ∀ {kvs : List (Str × List PyData)} {es : List (Key × V)}, RpKl H kvs es → RpKl H (kvs ++ [(k, d)]) (es ++ [(Sum.inr k, .ref p)])
  | [], [], _ => ⟨rfl, ⟨p, rfl, r⟩, trivial⟩
  | (_, _) :: _, (_, _) :: _, h => ⟨h.1, h.2.1, RpKl.snoc2 r h.2.2⟩
  | [], _ :: _, h => h.elim
  | (_, _) :: _, [], h => h.elim
theorem RpKl.length {H : Hp} : ∀ {ds : List (Str × List PyData)} {xs : List (Key × V)}, RpKl H ds xs → ds.length = xs.length
  | [], [], _ => rfl
  | (_, _) :: _, (_, _) :: _, h => congrArg Nat.succ (RpKl.length h.2.2)
  | [], _ :: _, h => h.elim
  | (_, _) :: _, [], h => h.elim
theorem RpKl.keys {H : Hp} : ∀ {rows : List (Str × List PyData)} {kvs : List (Key × V)}, RpKl H rows kvs → kvs.map (·.1) = rows.map fun r => (Sum.inr r.1 : Key)
  | [], [], _ => rfl
  | (_, _) :: _, (_, _) :: _, h => by
    rw [List.map_cons, List.map_cons, h.1, RpKl.keys h.2.2]
  | [], _ :: _, h => h.elim
  | (_, _) :: _, [], h => h.elim
section
variable {Hb H : Hp} {ms : Ms} {cs : List Sh} {σ : L2.St} {te ta tb : TE} {K : PySem.W.Frag} {D : Ends}

theorem ef_dcv (c : Cu Hb ms cs σ H) {wi : TI} {g : TG} {vs : List Nat} {ds : List PyData} {js : List Nat} {u : PyData → List Sh → List Sh} (src : EvI wi σ H [] ds) (tg : ∀ d ∈ ds, Tg g js d (u d)) (hj : ∀ j ∈ js, j ∈ vs) (kf : PyData → Str) (vf : PyData → PyData)
    (hk : ∀ d ∈ ds, ∀ Hb' σ' H', Cu Hb' [] (u d (wipeC cs vs)) σ' H' → EvD ta σ' H' (.str (kf d))) (he : ∀ d ∈ ds, ∀ Hb' σ' H', Cu Hb' [] (u d (wipeC cs vs)) σ' H' → EvD tb σ' H' ( (vf d))) (hl : ds.length ≤ 100000) (nd : (ds.map kf).Nodup) :
    EvF (tDc wi g tYes ta tb vs) σ H (.dc (ds.map fun d => (kf d, vf d))) := fun H1 e Q q => by
  refine src H1 e _ fun It H2 G Y e2 w hG hY Dd hD => ?_
  let rows : Nat → List (Str × PyData) := fun i => (ds.take i).map fun d => (kf d, vf d)
  let Pv : Nat → Hp → Prop := fun i H3 => Ex H2 H3 ∧ ∃ es, H3 Dd = some (.dK es) ∧ RpKv H3 (rows i) es
  refine ⟨fun i m H3 => m = ds.length - i ∧ i ≤ ds.length ∧ Pv i H3, ⟨ds.length, by simp, Nat.zero_le _, fun a o h => by rw [upd_ne (ne_of_none h hD)]; exact h, [], upd_same, trivial⟩, ?_⟩
  rintro i m H3 ⟨rfl, hi, e3, es, h3, r3⟩
  have gg : G H3 := hG H3 fun a o h _ => e3 a o h
  by_cases hlt : i < ds.length
  · refine .inr ⟨w.goes i H3 hlt gg, Pv (i + 1), fun H' p' => ⟨ds.length - (i + 1), by omega, rfl, hlt, p'⟩, fun x H4 y0 => ?_⟩
    have y := w.yields i H3 x H4 hlt gg y0
    obtain ⟨e4, d, hd, rd⟩ := hY i H3 x H4 hlt (fun a o h _ => e3 a o h) (fun a o _ h => e3 a o h) y
    have hm : d ∈ ds := List.mem_of_getElem? hd
    have e24 : Ex H2 H4 := e3.trans e4
    have cw : Cu H4 [] (wipeC cs vs) (L2.wipe σ vs) H4 := ⟨Ex.refl _, (nofun), (nofun), List.nodup_nil, (c.sl.mono (((c.ex.trans e).trans e2).trans e24)).wipe vs⟩
    refine tg d hm x (L2.wipe σ vs) H4 _ _ _ _ cw rd fun σ2 c5 hw => ⟨(hw vs hj).trans wipe_wipe, ?_⟩
    refine yes_of ?_
    try dsimp only
    rw [if_pos rfl]
    refine hk d hm H4 σ2 H4 c5 H4 (Ex.refl _) _ fun v H5 e5 rv => ?_
    refine he d hm H4 σ2 H5 (c5.ext e5) H5 (Ex.refl _) _ fun z H6 e6 rz => ?_
    have rv : v = .str (kf d) := rv
    subst rv
    have hD6 : H6 Dd = some (.dK es) := e6 _ _ (e5 _ _ (e4 _ _ h3))
    have hz : es.length ≤ ds.length := by
      rw [← r3.length]
      show ((ds.take i).map _).length ≤ _
      rw [List.length_map, List.length_take]
      exact Nat.min_le_right _ _
    have hkey : ∀ q ∈ es, q.1 ≠ (Sum.inr (kf d) : Key) := fun q hq ez => by
      have : q.1 ∈ es.map (·.1) := List.mem_map_of_mem hq
      rw [r3.keys, ez] at this
      obtain ⟨rw_, h1, h2⟩ := List.mem_map.mp this
      obtain ⟨d', h3', rfl⟩ := List.mem_map.mp h1
      have h2 : kf d' = kf d := Sum.inr.inj h2
      obtain ⟨j, hj'⟩ := List.getElem?_of_mem h3'
      rw [List.getElem?_take] at hj'
      split at hj'
      · rename_i hji
        have a1 : (ds.map kf)[j]? = some (kf d) := by rw [List.getElem?_map, hj', ← h2]; rfl
        have a2 : (ds.map kf)[i]? = some (kf d) := by rw [List.getElem?_map, hd]; rfl
        have := nd_ix nd a1 a2
        omega
      · cases hj'
    have hput : ∀ z, putK es (Sum.inr (kf d)) z = es ++ [(Sum.inr (kf d), z)] := fun z => by
      unfold putK
      rw [if_neg]
      intro t
      obtain ⟨q, hq, e⟩ := List.any_eq_true.mp t
      exact hkey q hq (of_decide_eq_true e)
    refine ⟨es, Sum.inr (kf d), rfl, hD6, Nat.lt_of_le_of_lt (Nat.le_trans hz hl) (by decide), fun a o h => ?_, es ++ [(Sum.inr (kf d), z)], by rw [hput]; exact upd_same, ?_⟩
    · have : a ≠ Dd := fun z => by
        rw [z, hD] at h
        cases h
      rw [upd_ne this]
      exact e6 _ _ (e5 _ _ (e24 _ _ h))
    · have ex : ∀ a o, (∀ es, o ≠ HO.dK es) → H6 a = some o → ∀ o2, (L2.upd H6 Dd o2) a = some o := fun a o n h o2 => by
        have : a ≠ Dd := fun z => by
          rw [z, hD6] at h
          cases h
          exact n _ rfl
        rw [upd_ne this]
        exact h
      have ht : rows (i + 1) = rows i ++ [(kf d, vf d)] := by
        show (ds.take (i + 1)).map _ = _
        rw [List.take_add_one, hd, List.map_append]
        rfl
      rw [ht]
      exact RpKv.snoc2 (Rp.mono (Stays.pr (fun a o n h => ex a o n h _)) rz) (RpKv.stay (fun a o n h => ex a o n h _) (r3.mono (Ex.pr (e4.trans (e5.trans e6)))))
  · have e : i = ds.length := by omega
    subst e
    refine .inl ⟨w.stops H3 gg, q Dd H3 (Evl.fresh_back e2 hD) (e2.trans e3) ⟨Dd, es, rfl, h3, ?_⟩⟩
    have : rows ds.length = ds.map fun d => (kf d, vf d) := by
      show (ds.take ds.length).map _ = _
      rw [List.take_length]
    rw [this] at r3
    exact r3

theorem ef_dcl (c : Cu Hb ms cs σ H) {wi : TI} {g : TG} {vs : List Nat} {ds : List PyData} {js : List Nat} {u : PyData → List Sh → List Sh} (src : EvI wi σ H [] ds) (tg : ∀ d ∈ ds, Tg g js d (u d)) (hj : ∀ j ∈ js, j ∈ vs) (kf : PyData → Str) (vf : PyData → List PyData)
    (hk : ∀ d ∈ ds, ∀ Hb' σ' H', Cu Hb' [] (u d (wipeC cs vs)) σ' H' → EvD ta σ' H' (.str (kf d))) (he : ∀ d ∈ ds, ∀ Hb' σ' H', Cu Hb' [] (u d (wipeC cs vs)) σ' H' → EvF tb σ' H' (.ls (vf d))) (hl : ds.length ≤ 100000) (nd : (ds.map kf).Nodup) :
    EvF (tDc wi g tYes ta tb vs) σ H (.dl (ds.map fun d => (kf d, vf d))) := fun H1 e Q q => by
  refine src H1 e _ fun It H2 G Y e2 w hG hY Dd hD => ?_
  let rows : Nat → List (Str × List PyData) := fun i => (ds.take i).map fun d => (kf d, vf d)
  let Pv : Nat → Hp → Prop := fun i H3 => Ex H2 H3 ∧ ∃ es, H3 Dd = some (.dK es) ∧ RpKl H3 (rows i) es
  refine ⟨fun i m H3 => m = ds.length - i ∧ i ≤ ds.length ∧ Pv i H3, ⟨ds.length, by simp, Nat.zero_le _, fun a o h => by rw [upd_ne (ne_of_none h hD)]; exact h, [], upd_same, trivial⟩, ?_⟩
  rintro i m H3 ⟨rfl, hi, e3, es, h3, r3⟩
  have gg : G H3 := hG H3 fun a o h _ => e3 a o h
  by_cases hlt : i < ds.length
  · refine .inr ⟨w.goes i H3 hlt gg, Pv (i + 1), fun H' p' => ⟨ds.length - (i + 1), by omega, rfl, hlt, p'⟩, fun x H4 y0 => ?_⟩
    have y := w.yields i H3 x H4 hlt gg y0
    obtain ⟨e4, d, hd, rd⟩ := hY i H3 x H4 hlt (fun a o h _ => e3 a o h) (fun a o _ h => e3 a o h) y
    have hm : d ∈ ds := List.mem_of_getElem? hd
    have e24 : Ex H2 H4 := e3.trans e4
    have cw : Cu H4 [] (wipeC cs vs) (L2.wipe σ vs) H4 := ⟨Ex.refl _, (nofun), (nofun), List.nodup_nil, (c.sl.mono (((c.ex.trans e).trans e2).trans e24)).wipe vs⟩
    refine tg d hm x (L2.wipe σ vs) H4 _ _ _ _ cw rd fun σ2 c5 hw => ⟨(hw vs hj).trans wipe_wipe, ?_⟩
    refine yes_of ?_
    try dsimp only
    rw [if_pos rfl]
    refine hk d hm H4 σ2 H4 c5 H4 (Ex.refl _) _ fun v H5 e5 rv => ?_
    refine he d hm H4 σ2 H5 (c5.ext e5) H5 (Ex.refl _) _ fun z H6 hz0 e6 rz0 => ?_
    obtain ⟨z', ez, rz⟩ := rz0
    have ez := V.ref.inj ez
    subst ez
    have rv : v = .str (kf d) := rv
    subst rv
    have hD6 : H6 Dd = some (.dK es) := e6 _ _ (e5 _ _ (e4 _ _ h3))
    have hz : es.length ≤ ds.length := by
      rw [← r3.length]
      show ((ds.take i).map _).length ≤ _
      rw [List.length_map, List.length_take]
      exact Nat.min_le_right _ _
    have hkey : ∀ q ∈ es, q.1 ≠ (Sum.inr (kf d) : Key) := fun q hq ez => by
      have : q.1 ∈ es.map (·.1) := List.mem_map_of_mem hq
      rw [r3.keys, ez] at this
      obtain ⟨rw_, h1, h2⟩ := List.mem_map.mp this
      obtain ⟨d', h3', rfl⟩ := List.mem_map.mp h1
      have h2 : kf d' = kf d := Sum.inr.inj h2
      obtain ⟨j, hj'⟩ := List.getElem?_of_mem h3'
      rw [List.getElem?_take] at hj'
      split at hj'
      · rename_i hji
        have a1 : (ds.map kf)[j]? = some (kf d) := by rw [List.getElem?_map, hj', ← h2]; rfl
        have a2 : (ds.map kf)[i]? = some (kf d) := by rw [List.getElem?_map, hd]; rfl
        have := nd_ix nd a1 a2
        omega
      · cases hj'
    have hput : ∀ z, putK es (Sum.inr (kf d)) z = es ++ [(Sum.inr (kf d), z)] := fun z => by
      unfold putK
      rw [if_neg]
      intro t
      obtain ⟨q, hq, e⟩ := List.any_eq_true.mp t
      exact hkey q hq (of_decide_eq_true e)
    refine ⟨es, Sum.inr (kf d), rfl, hD6, Nat.lt_of_le_of_lt (Nat.le_trans hz hl) (by decide), fun a o h => ?_, es ++ [(Sum.inr (kf d), .ref z)], by rw [hput]; exact upd_same, ?_⟩
    · have : a ≠ Dd := fun z => by
        rw [z, hD] at h
        cases h
      rw [upd_ne this]
      exact e6 _ _ (e5 _ _ (e24 _ _ h))
    · have ex : ∀ a o, (∀ es, o ≠ HO.dK es) → H6 a = some o → ∀ o2, (L2.upd H6 Dd o2) a = some o := fun a o n h o2 => by
        have : a ≠ Dd := fun z => by
          rw [z, hD6] at h
          cases h
          exact n _ rfl
        rw [upd_ne this]
        exact h
      have ht : rows (i + 1) = rows i ++ [(kf d, vf d)] := by
        show (ds.take (i + 1)).map _ = _
        rw [List.take_add_one, hd, List.map_append]
        rfl
      rw [ht]
      exact RpKl.snoc2 (LsAt.stay (fun a o n h => ex a o n h _) rz) (RpKl.stay (fun a o n h => ex a o n h _) (r3.mono (e4.trans (e5.trans e6))))
  · have e : i = ds.length := by omega
    subst e
    refine .inl ⟨w.stops H3 gg, q Dd H3 (Evl.fresh_back e2 hD) (e2.trans e3) ⟨Dd, es, rfl, h3, ?_⟩⟩
    have : rows ds.length = ds.map fun d => (kf d, vf d) := by
      show (ds.take ds.length).map _ = _
      rw [List.take_length]
    rw [this] at r3
    exact r3
end
end FF
/-! the results of rules, steps -/
namespace FF
open PySem PySem.Spec PyProof.Rows L2
open Evl (Ex EvT)
def iOf : PyData → Int
  | .int i => i
  | _ => 0
def nOf (d : PyData) : Nat := (iOf d).toNat
def eI (n : Nat) : PyData := .int (n : Int)
theorem nOf_eI (n : Nat) : nOf (eI n) = n := rfl
theorem intsD_eI (n : Nat) : intsD 0 n = (List.range n).map eI := by
  unfold intsD eI
  apply List.map_congr_left
  intro i _
  rw [Int.zero_add]
theorem intsD_from (a n : Nat) : intsD (a : Int) n = (List.range' a n).map eI := by
  apply List.ext_getElem?
  intro i
  unfold intsD eI
  rw [List.getElem?_map, List.getElem?_map]
  by_cases h : i < n
  · rw [List.getElem?_range h, List.getElem?_range' h, Nat.one_mul]
    show some (PyData.int ((a : Int) + (i : Nat))) = some (PyData.int ((a + i : Nat) : Int))
    congr 2
  · rw [List.getElem?_eq_none (by simp; omega), List.getElem?_eq_none (by simp; omega)]
    rfl
theorem downD_eI (n : Nat) : downD ((n : Int) - 1) (((n : Int) - 1) - (-1)).toNat = (List.range n).reverse.map eI := by
  have e : (((n : Int) - 1) - (-1)).toNat = n := by omega
  rw [e]
  apply List.ext_getElem?
  intro i
  unfold downD eI
  rw [List.getElem?_map, List.getElem?_map]
  by_cases h : i < n
  · rw [List.getElem?_range h, List.getElem?_reverse (by simpa using h), List.length_range, List.getElem?_range (by omega)]
    show some (PyData.int ((n : Int) - 1 - (i : Nat))) = some (PyData.int ((n - 1 - i : Nat) : Int))
    congr 2
    omega
  · rw [List.getElem?_eq_none (by simp; omega), List.getElem?_eq_none (by simp; omega)]
    rfl
theorem side_left (l : Bool) : decide ((if l then ("left" : Str) else "right") = "left") = l := by cases l <;> decide +kernel
theorem wipeC_length (cs : List Sh) : ∀ vs : List Nat, (wipeC cs vs).length = cs.length
  | [] => rfl
  | v :: vs => by
    show ((wipeC cs vs).set v _).length = _
    rw [List.length_set]
    exact wipeC_length cs vs
/-- {letter: lessers for letter, lessers in book[0]}, the names at i and j -/
theorem ef_tabC {Hb H : Hp} {ms : Ms} {cs : List Sh} {σ : L2.St} {te : TE} {K : PySem.W.Frag} {B : Book} {i j : Nat} {vs : List Nat} (g : GoodTab B.tab) (c : Cu Hb ms cs σ H) (h : EvD te σ H (eBook B)) (hj : ∀ a ∈ [i, j], a ∈ vs) (hl : i < cs.length) (hl2 : j < cs.length) (ij : j ≠ i) :
    EvF (tDc (iTup K (tOp (rIxT K) te (tC (.int 0)))) (gTup K 2 (gCons (gName i) (gCons (gName j) gNil))) tYes (tVar i) (tVar j) vs) σ H (dTab B.tab) := by
  have hrow : ∀ d ∈ B.tab.map (fun p => PyData.tuple [eC p.1, .tuple (p.2.map eC)]), ∃ p ∈ B.tab, d = .tuple [eC p.1, .tuple (p.2.map eC)] := fun d hd => by
    obtain ⟨p, hp, rfl⟩ := List.mem_map.mp hd
    exact ⟨p, hp, rfl⟩
  have := g.len
  refine ef_is (ef_dcv c (ei_tup (ds := B.tab.map fun p => .tuple [eC p.1, .tuple (p.2.map eC)]) (ev_pt (ev_ixT h ev_int rfl)) (nofun)) (js := [i, j]) (u := fun d => match d with | .tuple [a, b] => fun cs => (cs.set i (.hd a)).set j (.hd b) | _ => id) (fun d hd => ?_) hj
    (fun d => match d with | .tuple [.str a, _] => a | _ => ⟨#[]⟩) (fun d => match d with | .tuple [_, b] => b | _ => .none) (fun d hd Hb' σ' H' c' => ?_) (fun d hd Hb' σ' H' c' => ?_) (by rw [List.length_map]; omega) ?_) ?_
  · obtain ⟨p, hp, rfl⟩ := hrow d hd
    exact tg_two
  · obtain ⟨p, hp, rfl⟩ := hrow d hd
    refine c'.var i ?_
    rw [List.getElem?_set_ne ij, List.getElem?_set_self (by rw [wipeC_length]; exact hl)]
  · obtain ⟨p, hp, rfl⟩ := hrow d hd
    refine c'.var j ?_
    rw [List.getElem?_set_self (by rw [List.length_set, wipeC_length]; exact hl2)]
  · have := tab_nd g
    rw [List.map_map] at this ⊢
    exact this
  · unfold dTab
    rw [List.map_map]
    rfl
def kindS : Rule → Str
  | .drop _ _ => "drop"
  | .half _ => "half"
  | .empty => "empty"
  | .lower _ => "lower"
  | .put _ _ _ => "put"
theorem ev_kind {H : Hp} {σ : L2.St} {te : TE} {K : PySem.W.Frag} {r : Rule} (h : EvD te σ H (eRule r)) : EvD (tOp (rIxT K) te (tC (.int 0))) σ H (.str (kindS r)) := by
  cases r <;> exact ev_ixT h ev_int rfl
theorem et_kindT {H : Hp} {σ : L2.St} {te : TE} {K : PySem.W.Frag} {r : Rule} {x : Str} (h : EvD te σ H (eRule r)) (e : kindS r = x) : EvT (tTest (tOp rEq (tOp (rIxT K) te (tC (.int 0))) (tC (.str x)))) σ H true := et_test (ev_is (ev_eqS (ev_kind h) ev_str) (congrArg PyData.bool (decide_eq_true e)))
theorem et_kindF {H : Hp} {σ : L2.St} {te : TE} {K : PySem.W.Frag} {r : Rule} {x : Str} (h : EvD te σ H (eRule r)) (e : kindS r ≠ x) : EvT (tTest (tOp rEq (tOp (rIxT K) te (tC (.int 0))) (tC (.str x)))) σ H false := et_test (ev_is (ev_eqS (ev_kind h) ev_str) (congrArg PyData.bool (decide_eq_false e)))
section
variable {P : Program} {w : World} {K : PySem.W.Frag} {mg : Str → Option Value} {base : Heap}
def domPlaces (ss : List Sh) (s : Sh) : Prop := ∃ (n : Nat) (l : Bool), ss = [.hd (eI n), .hd (eSide l)] ∧ n ≤ 1000 ∧ s = .ls ((places n l).map eI)
theorem sc_places_of : FnScope ["many", "side"] ["many", "side"] (defScope (top 32)) := ⟨rfl, rfl, rfl, by decide +kernel, rfl, by decide +kernel, by decide +kernel⟩
theorem c_places_of (T : Txt K mg) : Cal P w K mg base 1 "places_of" (spF domPlaces) [] := by
  refine cal_of (k := 0) T 16 (d := d_places_of) rfl sc_places_of rfl rfl (fun _ _ _ _ _ _ us hl => match us, hl with | [_, _], _ => rfl) (len_F fun _ _ ⟨_, _, e, _⟩ => by rw [e]; rfl) (fun f cdv A outer s H vs Q E hr h => ?_)
  obtain ⟨ss, d, r, ⟨n, l, rfl, hn, rfl⟩, q⟩ := h
  have c := Cu.entry (N := ["many", "side"]) r
  refine ⟨_, (pss_one (ps_ret (pe_ifExp (pt_cmpR op_eq (pv 1) pe_str (nomark _)) (pe_listRg rfl rfl T.list_ (prg_1 rfl T.range_ (pv 0))) (pe_listRgD rfl rfl T.list_ rfl T.range_ (pa_cons (pe_op op_sub (pv 0) pe_int) (pa_cons (pe_un un_neg pe_int) (pa_cons (pe_un un_neg pe_int) pa_nil))))))), ?_⟩
  refine s_retF (s := .ls ((places n l).map eI)) (ef_if (b := l) (et_test (ev_is (ev_eqS (c.var 1) ev_str) (congrArg PyData.bool (side_left l)))) (fun hb => ef_is (ef_rg1 (c.var 0) (by omega)) ?_) fun hb => ef_is (ef_rgD (ea_cons (ev_sub (c.var 0) ev_int) (ea_cons (ev_neg ev_int) (ea_cons (ev_neg ev_int) ea_nil))) (by omega) (by omega)) ?_) q
  · rw [hb]
    exact congrArg Sh.ls (intsD_eI n)
  · rw [hb]
    exact congrArg Sh.ls (downD_eI n)
def domRes (f : Rule → Thing → List Thing) (good : Rule → Prop) (ss : List Sh) (s : Sh) : Prop := ∃ (r : Rule) (x : Thing), ss = [.hd (eRule r), .hd (eT x)] ∧ good r ∧ x.length ≤ 4 ∧ s = .ls ((f r x).map eT)
def domDrop (ss : List Sh) (s : Sh) : Prop := ∃ (n : Nat) (l : Bool) (x : Thing), ss = [.hd (eRule (.drop n l)), .hd (eT x)] ∧ n ≤ 2 ∧ x.length ≤ 4 ∧ s = .ls ((dropR n l x).map eT)
theorem sc_dropped : FnScope ["rule", "x", "many", "k"] ["rule", "x"] (defScope (top 33)) := ⟨rfl, rfl, rfl, by decide +kernel, rfl, by decide +kernel, by decide +kernel⟩
theorem c_dropped (T : Txt K mg) : Cal P w K mg base 2 "dropped" (spF domDrop) [] := by
  refine cal_of (k := 1) T 17 (d := d_dropped) rfl sc_dropped rfl rfl (fun _ _ _ _ _ _ us hl => match us, hl with | [_, _], _ => rfl) (len_F fun _ _ ⟨_, _, _, e, _⟩ => by rw [e]; rfl) (fun f cdv A outer s H vs Q E hr h => ?_)
  obtain ⟨ss, s, r, ⟨n, l, x, rfl, hn, hx, rfl⟩, q⟩ := h
  have c := Cu.entry (N := ["rule", "x", "many", "k"]) r
  refine ⟨_, (pss_cons (ps_set (i := 2) sc_dropped.nd rfl (by first | exact Or.inl rfl | exact Or.inr rfl) (pe_callB (call_max2 rfl) rfl T.max_ (by decide +kernel) (pa_cons pe_int (pa_cons (pe_op op_add (pe_op op_sub (pe_callB call_len_str rfl T.len_ (by decide +kernel) (pa_cons (pv 1) pa_nil)) (pe_ix (ix_tupK (K := K) rfl) (pv 0) pe_int (fun _ _ => rfl))) pe_int) pa_nil))))
  (pss_one (ps_ret (pe_lc (own := [("k", 3)]) rfl sc_dropped.nd (pi_listK (K := K) rfl (pe_c (c_places_of T) hr (by decide) rfl (pa_cons (pv 2) (pa_cons (pe_ix (ix_tupK (K := K) rfl) (pv 0) pe_int (fun _ _ => rfl)) pa_nil)))) (blkOk_by (N := ["rule", "x", "many", "k"]) (sc := defScope (top 33)) (by decide +kernel)) (by intros; exact (pg_name (i := 3) sc_dropped.nd rfl (by first | exact Or.inl rfl | exact Or.inr rfl))) (by intros; exact pts_nil) (by intros; exact (pe_op op_add_str (pe_slice sl_str (pv 1) po_none (po_some (pv 3))) (pe_slice sl_str (pv 1) (po_some (pe_op op_add (pv 3) (pe_ix (ix_tupK (K := K) rfl) (pv 0) pe_int (fun _ _ => rfl)))) po_none))))))), ?_⟩
  refine st_seq (s_set (d := eI (x.length + 1 - n)) c (ev_is (ev_max2 ev_int (ev_add (ev_sub (ev_lenT' (c.var 1) (by omega)) (ev_ixT (c.var 0) ev_int rfl)) ev_int)) ?_) fun Hb1 σ1 H1 e1 c1 => ?_)
  · unfold eI
    congr 1
    split <;> omega
  refine s_retF (s := .ls ((dropR n l x).map eT)) (ef_is (ef_map c1 (ei_lst (ex_0 (ef_call0 (ea_cons (c1.var 2) (ea_cons (ev_ixT (c1.var 0) ev_int rfl) ea_nil)) ⟨_, l, rfl, by omega, rfl⟩).s)) (fun d _ => tg_name) (by decide) (fun d => eT (x.take (nOf d) ++ x.drop (nOf d + n))) (fun d hd σ' H' c' => ?_) ?_) ?_) fun p H' hp e rv => q p H' (Evl.fresh_back (e1.trans c1.ex) hp) ((e1.trans c1.ex).trans e) rv
  · obtain ⟨k, hk, rfl⟩ := List.mem_map.mp hd
    rw [nOf_eI]
    exact ev_catT (ev_takeS (c'.var 1) (c'.var 3) rfl (by omega)) (ev_dropS (c'.var 1) (ev_add (c'.var 3) (ev_ixT (c'.var 0) ev_int rfl)) (by rfl : _ = ((k + n : Nat) : Int)) (by omega)) (by rw [List.length_take, List.length_drop]; omega)
  · rw [List.length_map, places_len]
    omega
  · unfold dropR
    rw [List.map_map, List.map_map]
    rfl
def domHalf (ss : List Sh) (s : Sh) : Prop := ∃ (l : Bool) (x : Thing), ss = [.hd (eRule (.half l)), .hd (eT x)] ∧ x.length ≤ 4 ∧ s = .ls ((halfR l x).map eT)
theorem sc_halved : FnScope ["rule", "x", "size"] ["rule", "x"] (defScope (top 34)) := ⟨rfl, rfl, rfl, by decide +kernel, rfl, by decide +kernel, by decide +kernel⟩
theorem c_halved (T : Txt K mg) : Cal P w K mg base 1 "halved" (spF domHalf) [] := by
  refine cal_of (k := 0) T 18 (d := d_halved) rfl sc_halved rfl rfl (fun _ _ _ _ _ _ us hl => match us, hl with | [_, _], _ => rfl) (len_F fun _ _ ⟨_, _, e, _⟩ => by rw [e]; rfl) (fun f cdv A outer s H vs Q E hr h => ?_)
  obtain ⟨ss, s, r, ⟨l, x, rfl, hx, rfl⟩, q⟩ := h
  have c := Cu.entry (N := ["rule", "x", "size"]) r
  refine ⟨_, (pss_cons (ps_set (i := 2) sc_halved.nd rfl (by first | exact Or.inl rfl | exact Or.inr rfl) (pe_op op_fdiv (pe_callB call_len_str rfl T.len_ (by decide +kernel) (pa_cons (pv 1) pa_nil)) pe_int))
  (pss_one (ps_ret (pe_lst (pa_cons (pe_ifExp (pt_cmpR op_eq (pe_ix (ix_tupK (K := K) rfl) (pv 0) pe_int (fun _ _ => rfl)) pe_str (nomark _)) (pe_slice sl_str (pv 1) po_none (po_some (pv 2))) (pe_slice sl_str (pv 1) (po_some (pe_op op_sub (pe_callB call_len_str rfl T.len_ (by decide +kernel) (pa_cons (pv 1) pa_nil)) (pv 2))) po_none)) pa_nil))))), ?_⟩
  refine st_seq (s_set (d := eI (x.length / 2)) c (ev_div (ev_lenT' (c.var 1) (by omega)) ev_int ⟨by decide, by decide⟩) fun Hb1 σ1 H1 e1 c1 => ?_)
  refine s_retF (s := .ls ((halfR l x).map eT)) (ef_lst (ds := (halfR l x).map eT) (ea_cons (ev_is (ev_if (b := l) (et_test (ev_is (ev_eqS (ev_ixT (c1.var 0) ev_int rfl) ev_str) (congrArg PyData.bool (side_left l)))) (fun hb => ?_) fun hb => ?_) rfl) ea_nil) (by show 1 ≤ 100000; decide)) fun p H' hp e rv => q p H' (Evl.fresh_back (e1.trans c1.ex) hp) ((e1.trans c1.ex).trans e) rv
  · rw [hb]
    exact ev_takeS (c1.var 1) (c1.var 2) rfl (by omega)
  · rw [hb]
    exact ev_dropS (c1.var 1) (ev_sub (ev_lenT' (c1.var 1) (by omega)) (c1.var 2)) (by omega) (by omega)
def domLow (ss : List Sh) (s : Sh) : Prop := ∃ (L : Tab) (l : Bool) (x : Thing), ss = [dTab L, .hd (eRule (.lower l)), .hd (eT x)] ∧ GoodTab L ∧ IsThing L x ∧ s = .ls ((lowR L l x).map eT)
theorem sc_lowered : FnScope ["lessers", "rule", "x", "k", "less"] ["lessers", "rule", "x"] (defScope (top 35)) := ⟨rfl, rfl, rfl, by decide +kernel, rfl, by decide +kernel, by decide +kernel⟩
theorem c_lowered (T : Txt K mg) : Cal P w K mg base 2 "lowered" (spF domLow) [] := by
  refine cal_of (k := 1) T 19 (d := d_lowered) rfl sc_lowered rfl rfl (fun _ _ _ _ _ _ us hl => match us, hl with | [_, _, _], _ => rfl) (len_F fun _ _ ⟨_, _, _, e, _⟩ => by rw [e]; rfl) (fun f cdv A outer s H vs Q E hr h => ?_)
  obtain ⟨ss, s, r, ⟨L, l, x, rfl, gt, ix, rfl⟩, q⟩ := h
  have c := Cu.entry (N := ["lessers", "rule", "x", "k", "less"]) r
  refine ⟨_, (pss_one (ps_ret (pe_lc2 (own := [("k", 3), ("less", 4)]) (vs1 := [4]) rfl sc_lowered.nd (pi_listK (K := K) rfl (pe_c (c_places_of T) hr (by decide) rfl (pa_cons (pe_callB call_len_str rfl T.len_ (by decide +kernel) (pa_cons (pv 2) pa_nil)) (pa_cons (pe_ix (ix_tupK (K := K) rfl) (pv 1) pe_int (fun _ _ => rfl)) pa_nil)))) (blkOk_by (N := ["lessers", "rule", "x", "k", "less"]) (sc := defScope (top 35)) (by decide +kernel)) (by decide) (by intros; exact (pg_name (i := 3) sc_lowered.nd rfl (by first | exact Or.inl rfl | exact Or.inr rfl))) (by intros; exact pts_nil) (by intros; exact (pi_tupK (K := K) rfl (pe_dget (hu_of hr) (pv 0) (pe_ix ix_str (pv 2) (pv 3) (fun _ _ => rfl)) (fun _ _ => rfl)))) (by intros; exact (pg_name (i := 4) sc_lowered.nd rfl (by first | exact Or.inl rfl | exact Or.inr rfl))) (by intros; exact pts_nil) (by intros; exact (pe_op op_add_str (pe_op op_add_str (pe_slice sl_str (pv 2) po_none (po_some (pv 3))) (pv 4)) (pe_slice sl_str (pv 2) (po_some (pe_op op_add (pv 3) pe_int)) po_none)))))), ?_⟩
  have hx := ix.len
  have hb : ∀ ks : List Nat, (∀ k ∈ ks, k < x.length) → ((ks.map eI).flatMap fun d => (look L (sgn x (nOf d))).map eC).length ≤ 3 * ks.length := fun ks hk => by
    have := flatMap_len (m := 3) (l := ks.map eI) (f := fun d => (look L (sgn x (nOf d))).map eC) fun d hd => by
      obtain ⟨k, hk', rfl⟩ := List.mem_map.mp hd
      rw [List.length_map, nOf_eI]
      exact gt.look_len (ix.kn _ (sgn_mem (hk k hk')))
    rw [List.length_map] at this
    exact this
  refine s_retF (s := .ls ((lowR L l x).map eT)) (ef_is (ef_lc2 c (ei_lst (ex_0 (ef_call0 (ea_cons (ev_lenT' (c.var 2) (by omega)) (ea_cons (ev_ixT (c.var 1) ev_int rfl) ea_nil)) ⟨_, l, rfl, by omega, rfl⟩).s)) (fun d _ => tg_name) (by decide) (fun d => (look L (sgn x (nOf d))).map eC) (fun d _ e _ => tg_name) (by decide) (fun d e => eT (x.take (nOf d) ++ [cOf e] ++ x.drop (nOf d + 1))) (fun d hd Hb' p acc σ' H' c' => ?_) (fun d hd e he Hb' p acc σ' H' c' => ?_) (fun i => ?_) fun d hd => ?_) ?_) q
  · obtain ⟨k, hk, rfl⟩ := List.mem_map.mp hd
    have hk := places_lt hk
    refine ei_tup (ev_dget (c'.var 0) (ev_signT (c'.var 2) (c'.var 3) rfl (sgn_get hk) (by omega)) (lkp_tab (ix.kn _ (sgn_mem hk)))) fun H1 e1 a ha o ho => ?_
    rw [List.mem_singleton.mp ha] at ho
    exact (c'.ext e1).notup (List.mem_singleton.mpr rfl) o ho
  · obtain ⟨k, hk, rfl⟩ := List.mem_map.mp hd
    have hk := places_lt hk
    obtain ⟨b, hb, rfl⟩ := List.mem_map.mp he
    exact ev_catT (ev_catT (b := [b]) (ev_takeS (c'.var 2) (c'.var 3) rfl (by omega)) (c'.var 4) (by simp [List.length_take]; omega)) (ev_dropS (c'.var 2) (ev_add (c'.var 3) ev_int) (by rfl : _ = ((k + 1 : Nat) : Int)) (by omega)) (by simp [List.length_take, List.length_drop]; omega)
  · rw [← List.map_take]
    have h1 := hb ((places x.length l).take i) fun k hk => places_lt (List.mem_of_mem_take hk)
    rw [List.length_take, places_len] at h1
    omega
  · obtain ⟨k, hk, rfl⟩ := List.mem_map.mp hd
    have := gt.look_len (ix.kn _ (sgn_mem (places_lt hk)))
    rw [List.length_map, nOf_eI]
    omega
  · unfold lowR
    rw [List.flatMap_map, List.map_flatMap]
    simp [cOf_eC, nOf_eI, Function.comp_def]
def domPut (ss : List Sh) (s : Sh) : Prop := ∃ (a : Nat) (w : Thing) (l : Bool) (x : Thing), ss = [.hd (eRule (.put a w l)), .hd (eT x)] ∧ w.length ≤ 1 ∧ x.length ≤ 4 ∧ s = .ls ((putR a w l x).map eT)
theorem sc_put_results : FnScope ["rule", "x", "k"] ["rule", "x"] (defScope (top 36)) := ⟨rfl, rfl, rfl, by decide +kernel, rfl, by decide +kernel, by decide +kernel⟩
theorem c_put_results (T : Txt K mg) : Cal P w K mg base 2 "put_results" (spF domPut) [] := by
  refine cal_of (k := 1) T 20 (d := d_put_results) rfl sc_put_results rfl rfl (fun _ _ _ _ _ _ us hl => match us, hl with | [_, _], _ => rfl) (len_F fun _ _ ⟨_, _, _, _, e, _⟩ => by rw [e]; rfl) (fun f cdv A outer s H vs Q E hr h => ?_)
  obtain ⟨ss, s, r, ⟨a, w, l, x, rfl, hw, hx, rfl⟩, q⟩ := h
  have c := Cu.entry (N := ["rule", "x", "k"]) r
  refine ⟨_, (pss_one (ps_ret (pe_lc (own := [("k", 2)]) rfl sc_put_results.nd (pi_listK (K := K) rfl (pe_c (c_places_of T) hr (by decide) rfl (pa_cons (pe_callB call_len_str rfl T.len_ (by decide +kernel) (pa_cons (pv 1) pa_nil)) (pa_cons (pe_ix (ix_tupK (K := K) rfl) (pv 0) pe_int (fun _ _ => rfl)) pa_nil)))) (blkOk_by (N := ["rule", "x", "k"]) (sc := defScope (top 36)) (by decide +kernel)) (by intros; exact (pg_name (i := 2) sc_put_results.nd rfl (by first | exact Or.inl rfl | exact Or.inr rfl))) (by intros; exact (pts_one (pt_cmpR op_eq (pe_ix ix_str (pv 1) (pv 2) (fun _ _ => rfl)) (pe_ix (ix_tupK (K := K) rfl) (pv 0) pe_int (fun _ _ => rfl)) (nomark _)))) (by intros; exact (pe_op op_add_str (pe_op op_add_str (pe_slice sl_str (pv 1) po_none (po_some (pv 2))) (pe_ix (ix_tupK (K := K) rfl) (pv 0) pe_int (fun _ _ => rfl))) (pe_slice sl_str (pv 1) (po_some (pe_op op_add (pv 2) pe_int)) po_none)))))), ?_⟩
  refine s_retF (s := .ls ((putR a w l x).map eT)) (ef_is (ef_lc c (ei_lst (ex_0 (ef_call0 (ea_cons (ev_lenT' (c.var 1) (by omega)) (ea_cons (ev_ixT (c.var 0) ev_int rfl) ea_nil)) ⟨_, l, rfl, by omega, rfl⟩).s)) (fun d _ => tg_name) (by decide) (fun d => decide (sgn x (nOf d) = a)) (fun d => eT (x.take (nOf d) ++ w ++ x.drop (nOf d + 1))) (fun d hd σ' H' c' => ?_) (fun d hd _ σ' H' c' => ?_) ?_) ?_) q
  · obtain ⟨k, hk, rfl⟩ := List.mem_map.mp hd
    have hk := places_lt hk
    refine et_test (ev_is (ev_eqS (ev_signT (c'.var 1) (c'.var 2) rfl (sgn_get hk) (by omega)) (ev_ixT (c'.var 0) ev_int rfl)) (congrArg PyData.bool ?_))
    rw [nOf_eI]
    exact decide_eq_decide.mpr ⟨fun h => sC_inj h, fun h => congrArg sC h⟩
  · obtain ⟨k, hk, rfl⟩ := List.mem_map.mp hd
    exact ev_catT (ev_catT (ev_takeS (c'.var 1) (c'.var 2) rfl (by omega)) (ev_ixT (c'.var 0) ev_int rfl) (by rw [List.length_take]; omega)) (ev_dropS (c'.var 1) (ev_add (c'.var 2) ev_int) (by rfl : _ = ((k + 1 : Nat) : Int)) (by omega)) (by rw [List.length_append, List.length_take, List.length_drop]; omega)
  · rw [List.length_map, places_len]
    omega
  · unfold putR
    rw [List.filter_map, List.map_map, List.map_map]
    rfl
def domResults (ss : List Sh) (s : Sh) : Prop := ∃ (B : Book) (k : Nat) (x : Thing), ss = [.hd (eBook B), .hd (eI k), .hd (eT x)] ∧ GoodBook B ∧ k < B.rules.length ∧ IsThing B.tab x ∧ s = .ls ((results B.tab x (rOf B k)).map eT)
theorem sc_results_of : FnScope ["book", "k", "x", "rule", "letter", "lessers"] ["book", "k", "x"] (defScope (top 37)) := ⟨rfl, rfl, rfl, by decide +kernel, rfl, by decide +kernel, by decide +kernel⟩
theorem c_results_of (T : Txt K mg) : Cal P w K mg base 3 "results_of" (spF domResults) [] := by
  refine cal_of (k := 2) T 21 (d := d_results_of) rfl sc_results_of rfl rfl (fun _ _ _ _ _ _ us hl => match us, hl with | [_, _, _], _ => rfl) (len_F fun _ _ ⟨_, _, _, e, _⟩ => by rw [e]; rfl) (fun f cdv A outer s H vs Q E hr h => ?_)
  obtain ⟨ss, s, r, ⟨B, k, x, rfl, gb, hk, ix, rfl⟩, q⟩ := h
  have c := Cu.entry (N := ["book", "k", "x", "rule", "letter", "lessers"]) r
  refine ⟨_, (pss_cons (ps_set (i := 3) sc_results_of.nd rfl (by first | exact Or.inl rfl | exact Or.inr rfl) (pe_ix (ix_tupK (K := K) rfl) (pe_ix (ix_tupK (K := K) rfl) (pv 0) pe_int (fun _ _ => rfl)) (pv 1) (fun _ _ => rfl)))
  (pss_cons (ps_if (pt_cmpR op_eq (pe_ix (ix_tupK (K := K) rfl) (pv 3) pe_int (fun _ _ => rfl)) pe_str (nomark _)) (pss_one (ps_ret (pe_c (c_dropped T) hr (by decide) rfl (pa_cons (pv 3) (pa_cons (pv 2) pa_nil))))) pss_nil)
  (pss_cons (ps_if (pt_cmpR op_eq (pe_ix (ix_tupK (K := K) rfl) (pv 3) pe_int (fun _ _ => rfl)) pe_str (nomark _)) (pss_one (ps_ret (pe_c (c_halved T) hr (by decide) rfl (pa_cons (pv 3) (pa_cons (pv 2) pa_nil))))) pss_nil)
  (pss_cons (ps_if (pt_cmpR op_eq (pe_ix (ix_tupK (K := K) rfl) (pv 3) pe_int (fun _ _ => rfl)) pe_str (nomark _)) (pss_one (ps_ret (pe_c (c_lowered T) hr (by decide) rfl (pa_cons (pe_dc (own := [("letter", 4), ("lessers", 5)]) rfl sc_results_of.nd (pi_tupK (K := K) rfl (pe_ix (ix_tupK (K := K) rfl) (pv 0) pe_int (fun _ _ => rfl))) (blkOk_by (N := ["book", "k", "x", "rule", "letter", "lessers"]) (sc := defScope (top 37)) (by decide +kernel)) (by intros; exact (pg_two (K := K) (i := 4) (j := 5) rfl rfl sc_results_of.nd rfl rfl (by first | exact Or.inl rfl | exact Or.inr rfl) (by first | exact Or.inl rfl | exact Or.inr rfl) (by first | exact Or.inl rfl | exact Or.inr rfl) (by first | exact Or.inl rfl | exact Or.inr rfl))) (by intros; exact pts_nil) (by intros; exact (pv 4)) (by intros; exact (pv 5))) (pa_cons (pv 3) (pa_cons (pv 2) pa_nil)))))) pss_nil)
  (pss_one (ps_ret (pe_ifExp (pt_cmpR op_eq (pe_ix (ix_tupK (K := K) rfl) (pv 3) pe_int (fun _ _ => rfl)) pe_str (nomark _)) (pe_c (c_put_results T) hr (by decide) rfl (pa_cons (pv 3) (pa_cons (pv 2) pa_nil))) (pe_lst (pa_cons pe_str pa_nil))))))))), ?_⟩
  have hx := ix.len
  have ok := gb.rul _ (rOf_mem hk)
  have hg : (B.rules.map eRule)[k]? = some (eRule (rOf B k)) := by rw [List.getElem?_map, rOf_get hk]; rfl
  generalize rOf B k = ru at ok hg q
  refine st_seq (s_set (d := eRule ru) c (ev_ixT (ds := B.rules.map eRule) (ev_ixT (c.var 0) ev_int rfl) (c.var 1) (atI_nat hg)) fun Hb1 σ1 H1 e1 c1 => ?_)
  have fin : ∀ {H2 : Hp}, Ex H1 H2 → ∀ (p : Addr) (H' : Hp), H2 p = none → Ex H2 H' → (Sh.ls ((results B.tab x ru).map eT)).ok H' (.ref p) → Q (.ref p) H' := fun e2 p H' hp e rv => q p H' (Evl.fresh_back (e1.trans (c1.ex.trans e2)) hp) ((e1.trans (c1.ex.trans e2)).trans e) rv
  clear hg
  cases ru with
  | drop n l =>
    dsimp only
    refine st_seq ?_
    refine s_if c1 (b := true) (et_kindT (c1.var 3) (by simp only [kindS] <;> decide +kernel)) (fun _ H2 e2 c2 => ?_) (nofun)
    dsimp only
    exact s_retF (ef_call0 (ea_cons (c2.var 3) (ea_cons (c2.var 2) ea_nil)) ⟨n, l, x, rfl, ok.2, hx, rfl⟩) (fin e2)
  | half l =>
    dsimp only
    refine st_seq ?_
    refine s_if c1 (b := false) (et_kindF (c1.var 3) (by simp only [kindS] <;> decide +kernel)) (nofun) (fun _ H2 e2 c2 => ?_)
    dsimp only
    refine st_seq ?_
    refine s_if c2 (b := true) (et_kindT (c2.var 3) (by simp only [kindS] <;> decide +kernel)) (fun _ H3 e3 c3 => ?_) (nofun)
    dsimp only
    exact s_retF (ef_call0 (ea_cons (c3.var 3) (ea_cons (c3.var 2) ea_nil)) ⟨l, x, rfl, hx, rfl⟩) (fin (e2.trans e3))
  | lower l =>
    dsimp only
    refine st_seq ?_
    refine s_if c1 (b := false) (et_kindF (c1.var 3) (by simp only [kindS] <;> decide +kernel)) (nofun) (fun _ H2 e2 c2 => ?_)
    dsimp only
    refine st_seq ?_
    refine s_if c2 (b := false) (et_kindF (c2.var 3) (by simp only [kindS] <;> decide +kernel)) (nofun) (fun _ H3 e3 c3 => ?_)
    dsimp only
    refine st_seq ?_
    refine s_if c3 (b := true) (et_kindT (c3.var 3) (by simp only [kindS] <;> decide +kernel)) (fun _ H4 e4 c4 => ?_) (nofun)
    refine s_retF (ef_call0 (ea_cons (ef_tabC gb.tab c4 (c4.var 0) (by decide) (by show 4 < 6; decide) (by show 5 < 6; decide) (by decide)).s (ea_cons (c4.var 3) (ea_cons (c4.var 2) ea_nil))) ⟨B.tab, l, x, rfl, gb.tab, ix, rfl⟩) (fin (e2.trans (e3.trans e4)))
  | put a w l =>
    dsimp only
    refine st_seq ?_
    refine s_if c1 (b := false) (et_kindF (c1.var 3) (by simp only [kindS] <;> decide +kernel)) (nofun) (fun _ H2 e2 c2 => ?_)
    dsimp only
    refine st_seq ?_
    refine s_if c2 (b := false) (et_kindF (c2.var 3) (by simp only [kindS] <;> decide +kernel)) (nofun) (fun _ H3 e3 c3 => ?_)
    dsimp only
    refine st_seq ?_
    refine s_if c3 (b := false) (et_kindF (c3.var 3) (by simp only [kindS] <;> decide +kernel)) (nofun) (fun _ H4 e4 c4 => ?_)
    have hw : w.length ≤ 1 := by
      rcases ok.2 with rfl | ⟨d, _, rfl⟩
      · exact Nat.zero_le _
      · exact Nat.le_refl _
    dsimp only
    exact s_retF (ef_if (b := true) (et_kindT (c4.var 3) (by simp only [kindS] <;> decide +kernel)) (fun _ => ef_call0 (ea_cons (c4.var 3) (ea_cons (c4.var 2) ea_nil)) ⟨a, w, l, x, rfl, hw, hx, rfl⟩) (nofun)) (fin (e2.trans (e3.trans e4)))
  | empty =>
    dsimp only
    refine st_seq ?_
    refine s_if c1 (b := false) (et_kindF (c1.var 3) (by simp only [kindS] <;> decide +kernel)) (nofun) (fun _ H2 e2 c2 => ?_)
    dsimp only
    refine st_seq ?_
    refine s_if c2 (b := false) (et_kindF (c2.var 3) (by simp only [kindS] <;> decide +kernel)) (nofun) (fun _ H3 e3 c3 => ?_)
    dsimp only
    refine st_seq ?_
    refine s_if c3 (b := false) (et_kindF (c3.var 3) (by simp only [kindS] <;> decide +kernel)) (nofun) (fun _ H4 e4 c4 => ?_)
    dsimp only
    exact s_retF (ef_if (b := false) (et_kindF (c4.var 3) (by simp only [kindS] <;> decide +kernel)) (nofun) (fun _ => ef_lst (ds := [eT []]) (ea_cons ev_str ea_nil) (by show 1 ≤ 100000; decide))) (fin (e2.trans (e3.trans e4)))
end
end FF
/-! steps, falling -/
namespace FF
open PySem PySem.Spec PyProof.Rows L2
open Evl (Ex EvT)
/-- the dict of the steps found so far -/
def fdS (x : Thing) (f : List (Thing × Nat)) : List (Str × PyData) := (tS x, .int (-1)) :: f.map fun p => (tS p.1, eI p.2)
def sOf : PyData → Str
  | .str z => z
  | _ => ⟨#[]⟩
def fstD : PyData → PyData
  | .tuple [a, _] => a
  | _ => .none
def sndD : PyData → PyData
  | .tuple [_, b] => b
  | _ => .none
def u2 (i j : Nat) (d : PyData) (cs : List Sh) : List Sh := (cs.set i (.hd (fstD d))).set j (.hd (sndD d))
theorem tg_2 {K : PySem.W.Frag} {i j : Nat} {d : PyData} (h : ∃ a b, d = .tuple [a, b]) : Tg (gTup K 2 (gCons (gName i) (gCons (gName j) gNil))) [i, j] d (u2 i j d) := by
  obtain ⟨a, b, rfl⟩ := h
  exact tg_two
theorem lkp_cons {α : Type} (k j : Str) (d : α) (r : List (Str × α)) : (lkp ((j, d) :: r) k).isSome = (decide (j = k) || (lkp r k).isSome) := by
  unfold lkp
  rw [List.find?_cons]
  by_cases e : j = k
  · subst e
    rw [show decide (((j, d) : Str × α).1 = j) = true from decide_eq_true rfl]
    rfl
  · rw [show decide (((j, d) : Str × α).1 = k) = false from decide_eq_false e]
    rfl
theorem lkp_keys {α : Type} (k : Thing) : ∀ (l : List (Thing × α)) (g : Thing × α → PyData), (lkp (l.map fun p => (tS p.1, g p)) (tS k)).isSome = decide (k ∈ l.map (·.1))
  | [], g => rfl
  | p :: l, g => by
    rw [List.map_cons, lkp_cons, lkp_keys k l g, tS_dec]
    by_cases e : p.1 = k
    · subst e
      simp
    · have : ¬ k = p.1 := fun z => e z.symm
      simp [e, this]
theorem lkp_fdS (x : Thing) (f : List (Thing × Nat)) (s : Thing) : (lkp (fdS x f) (tS s)).isSome = decide (s = x ∨ s ∈ f.map (·.1)) := by
  unfold fdS
  rw [lkp_cons, lkp_keys s f (fun p => eI p.2), tS_dec, Bool.decide_or]
  congr 1
  exact decide_eq_decide.mpr ⟨Eq.symm, Eq.symm⟩
theorem addRules_snoc (B : Book) (x : Thing) (f : List (Thing × Nat)) (ks : List Nat) (k : Nat) : addRules B x f (ks ++ [k]) = addSteps x k (addRules B x f ks) (results B.tab x (rOf B k)) := by
  unfold addRules
  rw [List.foldl_append]
  rfl
theorem addRules_mem {B : Book} {x : Thing} : ∀ {ks : List Nat} {f : List (Thing × Nat)} {p : Thing × Nat}, p ∈ addRules B x f ks → p ∈ f ∨ (p.2 ∈ ks ∧ p.1 ∈ results B.tab x (rOf B p.2) ∧ p.1 ≠ x)
  | [], f, p, h => .inl h
  | k :: ks, f, p, h => by
    have h : p ∈ addRules B x (addSteps x k f (results B.tab x (rOf B k))) ks := h
    rcases addRules_mem h with h | h
    · rcases addSteps_mem h with h | ⟨h1, h2, h3⟩
      · exact .inl h
      · rw [h2]
        exact .inr ⟨List.mem_cons_self .., h1, h3⟩
    · exact .inr ⟨List.mem_cons_of_mem _ h.1, h.2⟩
theorem addRules_len {B : Book} {x : Thing} (gb : GoodBook B) (ix : IsThing B.tab x) : ∀ {ks : List Nat} {f : List (Thing × Nat)}, (∀ k ∈ ks, k < B.rules.length) → (addRules B x f ks).length ≤ f.length + 20 * ks.length
  | [], f, _ => Nat.le_refl _
  | k :: ks, f, h => by
    have h1 := addRules_len (f := addSteps x k f (results B.tab x (rOf B k))) gb ix fun j hj => h j (List.mem_cons_of_mem _ hj)
    have h2 := addSteps_len (x := x) (k := k) (f := f) (l := results B.tab x (rOf B k))
    have h3 := results_len gb.tab ix (gb.rul _ (rOf_mem (h k (List.mem_cons_self ..))))
    show (addRules B x (addSteps x k f (results B.tab x (rOf B k))) ks).length ≤ _
    rw [List.length_cons]
    omega
theorem order_lt {n first : Nat} (h : first ≤ n) : ∀ k ∈ order n first, k < n := fun k hk => by
  unfold order at hk
  rcases List.mem_append.mp hk with hk | hk
  · have := List.mem_range'_1.mp hk
    omega
  · have := List.mem_range.mp hk
    omega
theorem order_len {n first : Nat} (h : first ≤ n) : (order n first).length = n := by
  unfold order
  rw [List.length_append, List.length_range', List.length_range]
  omega
theorem steps_ne {B : Book} {x : Thing} {first : Nat} : ∀ p ∈ steps B x first, p.1 ≠ x := fun p hp => by
  rcases addRules_mem hp with h | h
  · cases h
  · exact h.2.2
theorem RpKv.getE {H : Hp} : ∀ {kvs : List (Str × PyData)} {es : List (Key × V)} {i : Nat} {k : Key} {v : V}, RpKv H kvs es → es[i]? = some (k, v) → ∃ row, kvs[i]? = some row ∧ k = Sum.inr row.1 ∧ Rp H row.2 v
  | [], [], _, _, _, _, g => by cases g
  | (_, _) :: _, (_, _) :: _, 0, _, _, h, g => by
    have g := Option.some.inj g
    cases g
    exact ⟨_, rfl, h.1, h.2.1⟩
  | (_, _) :: _, (_, _) :: _, i + 1, _, _, h, g => RpKv.getE (i := i) h.2.2 g
  | [], _ :: _, _, _, _, h, _ => h.elim
  | (_, _) :: _, [], _, _, _, h, _ => h.elim
section
variable {Hb H : Hp} {ms : Ms} {cs : List Sh} {σ : L2.St} {te ta tb : TE} {K : PySem.W.Frag} {D : Ends}
/-- what the items of a tracked dict give, while it is locked -/
theorem s_retItems (c : Cu Hb ms cs σ H) {i k : Nat} {p : Addr} {kvs : List (Str × PyData)} {t : TE} {ds : List PyData} (hi : cs[i]? = some (.vl (.ref p))) (hk : ms[k]? = some (p, .d kvs))
    (h : ∀ H1, Cu Hb [] cs σ H1 → EvI (iItems (tVar i)) σ H1 [] (kvs.map eRow) → EvF t σ H1 (.ls ds))
    (q : ∀ l H', H l = none → Ex Hb H' → LsAt H' l ds → D.rt (.ref l) H') : tRet (tLockE t) D σ H := by
  obtain ⟨es, h1, h2⟩ := c.dct hk
  have hp : Hb p = none := c.nw _ (List.mem_of_getElem? hk)
  refine ⟨p, .dK es, h1, trivial, fun od => ?_⟩
  have eb : ∀ o, Ex Hb (L2.upd H p o) := fun o a o' h => by
    have : a ≠ p := fun z => by rw [z, hp] at h; cases h
    rw [upd_ne this]
    exact c.ex _ _ h
  have c1 : Cu Hb [] cs σ (L2.upd H p (.frz od (.dK es))) := ⟨eb _, (nofun), (nofun), List.nodup_nil, c.sl⟩
  have pr1 : Pr H (L2.upd H p (.frz od (.dK es))) := fun a o t h => by
    have : a ≠ p := fun z => by
      rw [z, h1] at h
      cases h
      cases t
    rw [upd_ne this]
    exact h
  refine h _ c1 (fun H1 e R r => ?_) _ (Ex.refl _) _ fun l H' hl e rv => ?_
  · have hf : H1 p = some (.frz od (.dK es)) := e _ _ upd_same
    refine ⟨.ref p, c.slot i hi, p, od, es, rfl, hf, r (Iti p od es) H1 (fun H3 => H3 p = some (.frz od (.dK es))) (fun i H x H' => ∃ T k v, es[i]? = some (k, v) ∧ x = .ref T ∧ H T = none ∧ H' = L2.upd H T (.tup [kV k, v])) (Ex.refl _) ?_ (fun H3 b => b p _ hf List.not_mem_nil) fun i H3 x H4 hi b pr y => ?_⟩
    · rw [List.length_map, h2.length]
      exact ⟨fun i H hi g => ⟨g, hi⟩, fun H g => ⟨g, Nat.le_refl _⟩, fun i H v H' _ _ y => y⟩
    · obtain ⟨T, k', v, g1, rfl, hT, rfl⟩ := y
      obtain ⟨row, hr1, rfl, hr2⟩ := h2.getE g1
      have en : Ex H3 (L2.upd H3 T (.tup [kV (Sum.inr row.1), v])) := Evl.Ex.new hT
      exact ⟨en, eRow row, by rw [List.getElem?_map, hr1]; rfl, T, _, rfl, .inl upd_same, rfl, (((hr2.mono pr1).mono (Ex.pr e)).mono pr).mono (Ex.pr en), trivial⟩
  · have hlp : l ≠ p := fun z => by
      rw [z, upd_same] at hl
      cases hl
    have hf : H' p = some (.frz od (.dK es)) := e _ _ upd_same
    refine ⟨hf, q l _ (by rw [upd_ne hlp] at hl; exact hl) (fun a o h => ?_) ?_⟩
    · have : a ≠ p := fun z => by rw [z, hp] at h; cases h
      rw [upd_ne this]
      exact e _ _ (eb _ _ _ h)
    · obtain ⟨l', el, xs, g1, g2⟩ := rv
      have el := V.ref.inj el
      subst el
      refine ⟨xs, by rw [upd_ne hlp]; exact g1, g2.mono fun a o t h => ?_⟩
      have : a ≠ p := fun z => by
        rw [z, hf] at h
        cases h
        cases t
      rw [upd_ne this]
      exact h
end
section
variable {P : Program} {w : World} {K : PySem.W.Frag} {mg : Str → Option Value} {base : Heap}
def domSteps (ss : List Sh) (s : Sh) : Prop := ∃ (B : Book) (x : Thing) (first : Nat), ss = [.hd (eBook B), .hd (eT x), .hd (eI first)] ∧ GoodBook B ∧ IsThing B.tab x ∧ first ≤ B.rules.length ∧ s = .ls ((steps B x first).map fun p => .tuple [eI p.2, eT p.1])
theorem sc_steps_from : FnScope ["book", "x", "first", "found", "k", "step"] ["book", "x", "first"] (defScope (top 38)) := ⟨rfl, rfl, rfl, by decide +kernel, rfl, by decide +kernel, by decide +kernel⟩
theorem c_steps_from (T : Txt K mg) : Cal P w K mg base 4 "steps_from" (spF domSteps) [] := by
  refine cal_of (k := 3) T 22 (d := d_steps_from) rfl sc_steps_from rfl rfl (fun _ _ _ _ _ _ us hl => match us, hl with | [_, _, _], _ => rfl) (len_F fun _ _ ⟨_, _, _, e, _⟩ => by rw [e]; rfl) (fun f cdv A outer s H vs Q E hr h => ?_)
  obtain ⟨ss, s, r, ⟨B, x, first, rfl, gb, ix, hf, rfl⟩, q⟩ := h
  have c := Cu.entry (N := ["book", "x", "first", "found", "k", "step"]) r
  refine ⟨_, (pss_cons (ps_set (i := 3) sc_steps_from.nd rfl (by first | exact Or.inl rfl | exact Or.inr rfl) (pe_disp (pps_cons (pv 1) (pe_un un_neg pe_int) pps_nil) rfl rfl (fun z => by cases z) (by decide)))
  (pss_cons (ps_for PassesOwn.never rfl (pi_listK (K := K) rfl (pe_op op_cat (pe_listRg rfl rfl T.list_ (prg_2 rfl T.range_ (pv 2) (pe_callB (call_len_seqK (K := K) rfl) rfl T.len_ (by decide +kernel) (pa_cons (pe_ix (ix_tupK (K := K) rfl) (pv 0) pe_int (fun _ _ => rfl)) pa_nil)))) (pe_listRg rfl rfl T.list_ (prg_1 rfl T.range_ (pv 2))))) (pg_name (i := 4) sc_steps_from.nd rfl (by first | exact Or.inl rfl | exact Or.inr rfl)) (pss_one (ps_for PassesOwn.never rfl (pi_listK (K := K) rfl (pe_c (c_results_of T) hr (by decide) rfl (pa_cons (pv 0) (pa_cons (pv 4) (pa_cons (pv 1) pa_nil))))) (pg_name (i := 5) sc_steps_from.nd rfl (by first | exact Or.inl rfl | exact Or.inr rfl)) (pss_one (ps_if (pt_cmp (pc_dnotin (hu_of hr) (pv 5) (pv 3)) rfl) (pss_one (ps_dput (hu_of hr) (pv 3) (pv 5) (pv 4) rfl)) pss_nil)))))
  (pss_one (ps_ret (pe_lock (pe_lc (own := [("step", 5), ("k", 4)]) rfl sc_steps_from.nd (pi_items (pv 3)) (blkOk_by (N := ["book", "x", "first", "found", "k", "step"]) (sc := defScope (top 38)) (by decide +kernel)) (by intros; exact (pg_two (K := K) (i := 5) (j := 4) rfl rfl sc_steps_from.nd rfl rfl (by first | exact Or.inl rfl | exact Or.inr rfl) (by first | exact Or.inl rfl | exact Or.inr rfl) (by first | exact Or.inl rfl | exact Or.inr rfl) (by first | exact Or.inl rfl | exact Or.inr rfl))) (by intros; exact (pts_one (pt_cmpR op_ne (pv 5) (pv 1) (nomark _)))) (by intros; exact (pe_tup (pa_cons (pv 4) (pa_cons (pv 5) pa_nil)))))))))), ?_⟩
  have hx := ix.len
  have hrl := gb.len
  have hol := order_len hf
  have hot : ∀ i, ∀ k ∈ (order B.rules.length first).take i, k < B.rules.length := fun i k hk => order_lt hf k (List.mem_of_mem_take hk)
  refine st_seq (s_setMd c (ef_disp1 (c.var 1) (ev_neg ev_int)) fun pf Hb1 σ1 H1 e1 hpf c1 => ?_)
  have hit : EvI (iList K (tOp rCat (tLstRg (tRg2 (tVar 2) (tCB (fun xs H Q => ∃ p ys, xs = [.ref p] ∧ (SqL K H p ys ∨ SqT K H p ys) ∧ Q (.int ys.length) H) (tCons (tOp (rIxT K) (tVar 0) (tC (.int 1))) tNil)))) (tLstRg (tRg1 (tVar 2))))) σ1 H1 [pf] ((order B.rules.length first).map eI) := by
    have h0 := ei_lst (K := K) (ex_f c1 (ef_cat (ef_rg2 (c1.var 2) (ev_lenT (K := K) (ds := B.rules.map eRule) (ev_ixT (K := K) (i := 1) (c1.var 0) ev_int rfl)) (by omega) (by rw [List.length_map]; omega)).s (ef_rg1 (c1.var 2) (by omega)).s (by rw [intsD_length, intsD_length, List.length_map]; omega)))
    have e : intsD (first : Int) (((B.rules.map eRule).length : Int) - (first : Int)).toNat ++ intsD 0 ((first : Int)).toNat = (order B.rules.length first).map eI := by
      rw [intsD_from, Int.toNat_natCast, intsD_eI, List.length_map]
      unfold order
      rw [List.map_append]
      congr 3
      omega
    rw [e] at h0
    exact h0
  refine st_seq ?_
  refine s_for c1 hit (fun d _ => tg_name) (fun i cs ms => ∃ s4 s5, cs = [.hd (eBook B), .hd (eT x), .hd (eI first), .vl (.ref pf), s4, s5] ∧ ms = [(pf, .d (fdS x (addRules B x [] ((order B.rules.length first).take i))))]) ⟨_, _, rfl, rfl⟩ ?_ ?_
  · rintro Hs es i d Hb' ms' cs' σ' H' N hd e' c' em ⟨s4, s5, rfl, rfl⟩ hN
    rw [List.getElem?_map] at hd
    obtain ⟨k, hk, rfl⟩ := Option.map_eq_some_iff.mp hd
    have hkl := order_lt hf k (List.mem_of_getElem? hk)
    have htk : addRules B x [] ((order B.rules.length first).take (i + 1)) = addSteps x k (addRules B x [] ((order B.rules.length first).take i)) (results B.tab x (rOf B k)) := by
      rw [List.take_add_one, hk]
      exact addRules_snoc _ _ _ _ _
    have hfl := addRules_len (f := []) gb ix (hot i)
    rw [List.length_take, hol] at hfl
    have hrs := results_len gb.tab ix (gb.rul _ (rOf_mem hkl))
    generalize addRules B x [] ((order B.rules.length first).take i) = f at hfl htk c'
    rw [htk] at hN
    refine s_for c' (ei_lst (ex_f c' (ef_call0 (ea_cons (c'.var 0) (ea_cons (c'.var 4) (ea_cons (c'.var 1) ea_nil))) ⟨B, k, x, rfl, gb, hkl, ix, rfl⟩))) (fun d _ => tg_name) (fun j cs ms => ∃ s5, cs = [.hd (eBook B), .hd (eT x), .hd (eI first), .vl (.ref pf), .hd (eI k), s5] ∧ ms = [(pf, .d (fdS x (addSteps x k f ((results B.tab x (rOf B k)).take j))))]) ⟨_, rfl, rfl⟩ ?_ ?_
    · rintro Hs2 es2 j d Hb2 ms2 cs2 σ2 H2 N2 hd2 e2 c2 em2 ⟨s5', rfl, rfl⟩ hN2
      rw [List.getElem?_map] at hd2
      obtain ⟨t, ht, rfl⟩ := Option.map_eq_some_iff.mp hd2
      have htj : addSteps x k f ((results B.tab x (rOf B k)).take (j + 1)) = addSteps x k (addSteps x k f ((results B.tab x (rOf B k)).take j)) [t] := by
        rw [List.take_add_one, ht]
        exact addSteps_snoc _ _ _
      have hgl := addSteps_len (x := x) (k := k) (f := f) (l := (results B.tab x (rOf B k)).take j)
      rw [List.length_take] at hgl
      rw [htj] at hN2
      generalize addSteps x k f ((results B.tab x (rOf B k)).take j) = g at hgl hN2 c2
      refine s_if c2 (et_test (ev_is (ev_dnotin (c2.var 5) (c2.dvar 3 0)) (by rw [lkp_fdS]))) (fun hb H3 e3 c3 => ?_) (fun hb H3 e3 c3 => ?_)
      · have nf : ¬ (t = x ∨ t ∈ g.map (·.1)) := fun z => by rw [decide_eq_true z] at hb; cases hb
        refine s_dput c3 rfl (k := 0) rfl (c3.var 5) (c3.var 4) (by unfold fdS; rw [List.length_cons, List.length_map]; simp at hfl; omega) fun H4 c4 => ?_
        refine hN2 Hb2 _ _ _ _ e2 c4 em2 ⟨_, rfl, ?_⟩
        rw [putS_new (by rw [lkp_fdS]; exact decide_eq_false nf)]
        show _ = [(pf, MC.d (fdS x (if t = x ∨ t ∈ g.map (·.1) then g else g ++ [(t, k)])))]
        rw [if_neg nf]
        unfold fdS
        rw [List.map_append]
        rfl
      · have nf : t = x ∨ t ∈ g.map (·.1) := Decidable.byContradiction fun z => by rw [decide_eq_false z] at hb; cases hb
        refine hN2 Hb2 _ _ _ _ e2 c3 em2 ⟨_, rfl, ?_⟩
        show _ = [(pf, MC.d (fdS x (if t = x ∨ t ∈ g.map (·.1) then g else g ++ [(t, k)])))]
        rw [if_pos nf]
    · rintro Hb2 ms2 cs2 σ2 H2 e2 c2 em2 ⟨s5', rfl, rfl⟩
      rw [List.length_map, List.take_length] at c2
      exact hN Hb2 _ _ _ _ (e'.trans e2) c2 em2 ⟨_, _, rfl, rfl⟩
  · rintro Hb' ms' cs' σ' H' e' c' em ⟨s4, s5, rfl, rfl⟩
    rw [List.length_map, List.take_length] at c'
    have hne := steps_ne (B := B) (x := x) (first := first)
    have hsl := addRules_len (f := []) gb ix (order_lt hf)
    rw [hol] at hsl
    refine s_retItems (ds := (steps B x first).map fun p => .tuple [eI p.2, eT p.1]) (i := 3) c' rfl (k := 0) rfl (fun H2 c2 src => ?_) fun l H2 hl e2 ls => q l H2 (Evl.fresh_back (e1.trans (e'.trans c'.ex)) hl) (e1.trans (e'.trans e2)) ⟨l, rfl, ls⟩
    refine ef_is (ef_lc c2 src (js := [5, 4]) (u := u2 5 4) (fun d hd => ?_) (by decide) (fun d => !decide (sOf (fstD d) = tS x)) (fun d => .tuple [sndD d, fstD d]) (fun d hd σ3 H3 c3 => ?_) (fun d hd _ σ3 H3 c3 => ?_) ?_) ?_
    · obtain ⟨row, _, rfl⟩ := List.mem_map.mp hd
      exact tg_2 ⟨_, _, rfl⟩
    · obtain ⟨row, _, rfl⟩ := List.mem_map.mp hd
      exact et_test (ev_neS (c3.var 5) (c3.var 1))
    · obtain ⟨row, _, rfl⟩ := List.mem_map.mp hd
      exact ev_tup (ds := [_, _]) (ea_cons (c3.var 4) (ea_cons (c3.var 5) ea_nil)) (by show 2 ≤ 100000; decide)
    · rw [List.length_map]
      unfold fdS
      rw [List.length_cons, List.length_map]
      simp at hsl
      omega
    · show Sh.ls (((fdS x (steps B x first)).map eRow).filter _ |>.map _) = _
      congr 1
      unfold fdS
      rw [List.map_cons, List.filter_cons]
      have e0 : (!decide (sOf (fstD (eRow (tS x, PyData.int (-1)))) = tS x)) = false := by
        show (!decide (tS x = tS x)) = false
        rw [decide_eq_true rfl]
        rfl
      rw [if_neg (by rw [e0]; exact Bool.false_ne_true), List.map_map, List.filter_eq_self.mpr, List.map_map]
      · rfl
      · intro d hd
        obtain ⟨p, hp, rfl⟩ := List.mem_map.mp hd
        show (!decide (tS p.1 = tS x)) = true
        rw [decide_eq_false fun z => hne p hp (tS_inj z)]
        rfl
end
end FF
/-! letters under a letter, falling -/
namespace FF
open PySem PySem.Spec PyProof.Rows L2
open Evl (Ex EvT)
section
variable {α : Type} [DecidableEq α]
theorem addNew_new {f l : List α} {a : α} (h : a ∉ addNew f l) : addNew f (l ++ [a]) = addNew f l ++ [a] := by
  rw [← pushNew_fst f [] l] at h ⊢
  rw [← pushNew_fst f [] (l ++ [a]), pushNew_new f [] l a h]
theorem addNew_old {f l : List α} {a : α} (h : a ∈ addNew f l) : addNew f (l ++ [a]) = addNew f l := by
  rw [← pushNew_fst f [] l] at h ⊢
  rw [← pushNew_fst f [] (l ++ [a]), pushNew_old f [] l a h]
theorem addNew_sub : ∀ {f l : List α} {a : α}, a ∈ f → a ∈ addNew f l
  | f, [], a, h => h
  | f, b :: l, a, h => by
    unfold addNew
    split
    · exact addNew_sub h
    · exact addNew_sub (List.mem_append_left _ h)
theorem addNew_mem : ∀ {f l : List α} {a : α}, a ∈ addNew f l → a ∈ f ∨ a ∈ l
  | f, [], a, h => .inl h
  | f, b :: l, a, h => by
    unfold addNew at h
    split at h
    · rcases addNew_mem h with h | h
      · exact .inl h
      · exact .inr (List.mem_cons_of_mem _ h)
    · rcases addNew_mem h with h | h
      · rcases List.mem_append.mp h with h | h
        · exact .inl h
        · rw [List.mem_singleton.mp h]
          exact .inr (List.mem_cons_self ..)
      · exact .inr (List.mem_cons_of_mem _ h)
theorem underLoop_sub {g : α → List α} : ∀ {n k : Nat} {f r : List α} {a : α}, underLoop g n k f = some r → a ∈ f → a ∈ r
  | 0, _, _, _, _, h, _ => by cases h
  | n + 1, k, f, r, a, h, ha => by
    unfold underLoop at h
    split at h
    · have e : f = r := Option.some.inj h
      subst e
      exact ha
    · exact underLoop_sub h (addNew_sub ha)
end
section
variable {P : Program} {w : World} {K : PySem.W.Frag} {mg : Str → Option Value} {base : Heap}
def domUnder (ss : List Sh) (s : Sh) : Prop := ∃ (B : Book) (x : Nat), ss = [.hd (eBook B), .hd (eC x)] ∧ GoodTab B.tab ∧ x ∈ names B.tab ∧ s = .ls ((under B.tab x).map eC)
theorem sc_letters_under : FnScope ["book", "letter", "lessers", "found", "k", "less", "own"] ["book", "letter"] (defScope (top 39)) := ⟨rfl, rfl, rfl, by decide +kernel, rfl, by decide +kernel, by decide +kernel⟩
theorem c_letters_under (T : Txt K mg) : Cal P w K mg base 1 "letters_under" (spF domUnder) [] := by
  refine cal_of (k := 0) T 23 (d := d_letters_under) rfl sc_letters_under rfl rfl (fun _ _ _ _ _ _ us hl => match us, hl with | [_, _], _ => rfl) (len_F fun _ _ ⟨_, _, e, _⟩ => by rw [e]; rfl) (fun f cdv A outer s H vs Q E hr h => ?_)
  obtain ⟨ss, s, r, ⟨B, x, rfl, gt, hx, rfl⟩, q⟩ := h
  have c := Cu.entry (N := ["book", "letter", "lessers", "found", "k", "less", "own"]) r
  refine ⟨_, (pss_cons (ps_setDc (i := 2) (own := [("own", 6), ("less", 5)]) rfl sc_letters_under.nd rfl rfl (sw_trueD rfl rfl rfl (by decide +kernel))  (pi_tupK (K := K) rfl (pe_ix (ix_tupK (K := K) rfl) (pv 0) pe_int (fun _ _ => rfl))) (blkOk_by (N := ["book", "letter", "lessers", "found", "k", "less", "own"]) (sc := defScope (top 39)) (by decide +kernel)) (by intros; exact (pg_two (K := K) (i := 6) (j := 5) rfl rfl sc_letters_under.nd rfl rfl (by first | exact Or.inl rfl | exact Or.inr rfl) (by first | exact Or.inl rfl | exact Or.inr rfl) (by first | exact Or.inl rfl | exact Or.inr rfl) (by first | exact Or.inl rfl | exact Or.inr rfl))) (by intros; exact pts_nil) (by intros; exact (pv 6)) (by intros; exact (pv 5)))
  (pss_cons (ps_set (i := 3) sc_letters_under.nd rfl (by first | exact Or.inl rfl | exact Or.inr rfl) (pe_callTy (call_list_ofK (K := K) rfl) rfl T.list_ (by decide +kernel) (pa_cons (pe_dget (hu_of hr) (pv 2) (pv 1) (fun _ _ => rfl)) pa_nil)))
  (pss_cons (ps_set (i := 4) sc_letters_under.nd rfl (by first | exact Or.inl rfl | exact Or.inr rfl) pe_int)
  (pss_cons (ps_while PassesOwn.never (pt_cmpR op_lt (pv 4) (pe_callB (call_len_seqK (K := K) rfl) rfl T.len_ (by decide +kernel) (pa_cons (pv 3) pa_nil)) (nomark _)) (pss_cons (ps_for PassesOwn.never rfl (pi_tupK (K := K) rfl (pe_dget (hu_of hr) (pv 2) (pe_ix (ix_listK (K := K) rfl) (pv 3) (pv 4) (fun _ _ => rfl)) (fun _ _ => rfl))) (pg_name (i := 5) sc_letters_under.nd rfl (by first | exact Or.inl rfl | exact Or.inr rfl)) (pss_one (ps_if (pt_cmpR (op_notIn_seqK (K := K) rfl) (pv 5) (pv 3) rfl) (pss_one (ps_expr (pe_bmK (K := K) rfl PySem.F.plainAttrs_list PySem.F.slot_list_append PySem.F.type_list_append mt_append (pv 3) (pa_cons (pv 5) pa_nil)))) pss_nil)))
  (pss_one (ps_aug (i := 4) sc_letters_under.nd rfl (by first | exact Or.inl rfl | exact Or.inr rfl) pe_int ip_add))))
  (pss_one (ps_ret (pv 3))))))), ?_⟩
  refine st_seq (s_setFd c (ef_tabC gt c (c.var 0) (by decide) (by show 6 < 7; decide) (by show 5 < 7; decide) (by decide)) fun Hb1 σ1 H1 e1 c1 => ?_)
  refine st_seq (s_setM c1 (ef_listT (ds := (look B.tab x).map eC) (ev_dget (c1.var 2) (c1.var 1) (lkp_tab hx))) fun p Hb2 σ2 H2 e2 hp c2 => ?_)
  dsimp only
  refine st_seq ?_
  refine s_set (d := .int 0) c2 ev_int fun Hb3 σ3 H3 e3 c3 => ?_
  dsimp only
  refine st_seq ?_
  refine s_while c3 (fun m cs ms => ∃ (f : List Nat) (k : Nat) (s5 s6 : Sh), cs = [.hd (eBook B), .hd (eC x), dTab B.tab, .vl (.ref p), .hd (eI k), s5, s6] ∧ ms = [(p, .l (f.map eC))] ∧ underLoop (look B.tab) m k f = some (under B.tab x) ∧ ∀ a ∈ f, a ∈ names B.tab) (m0 := 40) ⟨look B.tab x, 0, _, _, rfl, rfl, gt.udr x hx, gt.look_kn hx⟩ ?_
  rintro m Hb' ms' cs' σ' H' e' c' em ⟨f, k, s5, s6, rfl, rfl, hl, hk⟩
  have hfl := Nat.le_trans (underLoop_len hl) (gt.uln x hx)
  cases m with
  | zero => cases hl
  | succ m =>
    refine ⟨_, et_test (ev_lt (c'.var 4) (ev_lenL (c'.lvar 3 0))), fun hb H4 N c4 hN => ?_, fun hb H4 c4 => ?_⟩
    · have hlt : k < f.length := by
        have := of_decide_eq_true hb
        rw [List.length_map] at this
        omega
      obtain ⟨a, ha⟩ : ∃ a, f[k]? = some a := ⟨f[k], List.getElem?_eq_getElem hlt⟩
      have han := hk a (List.mem_of_getElem? ha)
      have hll := gt.look_len han
      unfold underLoop at hl
      rw [ha] at hl
      have hl : underLoop (look B.tab) m (k + 1) (addNew f (look B.tab a)) = some (under B.tab x) := hl
      refine st_seq ?_
      refine s_for c4 (ei_tup (ds := (look B.tab a).map eC) (ev_dget (c4.var 2) (ev_ixL (i := (k : Int)) (d := eC a) (c4.lvar 3 0) (c4.var 4) (atI_nat (by rw [List.getElem?_map, ha]; rfl))) (lkp_tab han)) fun H5 e5 b hb o ho => ?_) (fun d _ => tg_name) (fun j cs ms => ∃ (s5 s6 : Sh), cs = [.hd (eBook B), .hd (eC x), dTab B.tab, .vl (.ref p), .hd (eI k), s5, s6] ∧ ms = [(p, .l ((addNew f ((look B.tab a).take j)).map eC))]) ⟨_, _, rfl, rfl⟩ ?_ ?_
      · rw [List.mem_singleton.mp hb] at ho
        exact (c4.ext e5).notup (List.mem_singleton.mpr rfl) o ho
      · rintro Hs es j d Hb5 ms5 cs5 σ5 H5 N5 hd e5 c5 em5 ⟨t5, t6, rfl, rfl⟩ hN5
        rw [List.getElem?_map] at hd
        obtain ⟨b, hb', rfl⟩ := Option.map_eq_some_iff.mp hd
        have htk : (look B.tab a).take (j + 1) = (look B.tab a).take j ++ [b] := by rw [List.take_add_one, hb']; rfl
        have hgl := addNew_le f ((look B.tab a).take j)
        rw [List.length_take] at hgl
        refine s_if c5 (et_test (ev_is (ev_notInL (x := ⟨#[b]⟩) (ys := (addNew f ((look B.tab a).take j)).map sC) (K := K) (c5.var 5) (es_is (c5.lvar 3 0) (by rw [List.map_map]; rfl))) (by rw [decC]))) (fun hb H6 e6 c6 => ?_) (fun hb H6 e6 c6 => ?_)
        · have nf : b ∉ addNew f ((look B.tab a).take j) := by simpa using hb
          refine s_app c6 rfl (k := 0) rfl (c6.var 5) (by rw [List.length_map]; omega) fun H7 c7 => ?_
          refine hN5 Hb5 _ _ _ _ e5 c7 em5 ⟨_, _, rfl, ?_⟩
          rw [htk, addNew_new nf, List.map_append]
          rfl
        · have nf : b ∈ addNew f ((look B.tab a).take j) := by simpa using hb
          refine hN5 Hb5 _ _ _ _ e5 c6 em5 ⟨_, _, rfl, ?_⟩
          rw [htk, addNew_old nf]
      · rintro Hb5 ms5 cs5 σ5 H5 e5 c5 em5 ⟨t5, t6, rfl, rfl⟩
        rw [List.length_map, List.take_length] at c5
        refine s_aug c5 (a := (k : Int)) (b := 1) rfl ev_int fun Hb6 σ6 H6 e6 c6 => ?_
        refine hN m Hb6 _ _ _ _ (Nat.lt_succ_self m) (e'.trans (e5.trans e6)) c6 em5 ⟨_, k + 1, _, _, rfl, rfl, hl, fun b hb => ?_⟩
        rcases addNew_mem hb with h | h
        · exact hk b h
        · exact gt.look_kn han b h
    · have hlt : ¬ k < f.length := by
        have := of_decide_eq_false hb
        rw [List.length_map] at this
        omega
      unfold underLoop at hl
      rw [List.getElem?_eq_none (by omega)] at hl
      have ef : f = under B.tab x := Option.some.inj hl
      subst ef
      exact s_retL c4 rfl (k := 0) rfl fun ls => q p H4 (Evl.fresh_back e1 hp) (e1.trans (e2.trans (e3.trans (e'.trans c4.ex)))) ⟨p, rfl, ls⟩
def domFall (ss : List Sh) (d : PyData) : Prop := ∃ (B : Book), ss = [.hd (eBook B)] ∧ GoodBook B ∧ d = .none
theorem sc_falling_fault : FnScope ["book", "k", "rule"] ["book"] (defScope (top 40)) := ⟨rfl, rfl, rfl, by decide +kernel, rfl, by decide +kernel, by decide +kernel⟩
theorem c_falling_fault (T : Txt K mg) : Cal P w K mg base 2 "falling_fault" (spD domFall) [] := by
  refine cal_of (k := 1) T 24 (d := d_falling_fault) rfl sc_falling_fault rfl rfl (fun _ _ _ _ _ _ us hl => match us, hl with | [_], _ => rfl) (len_D fun _ _ ⟨_, e, _⟩ => by rw [e]; rfl) (fun f cdv A outer s H vs Q E hr h => ?_)
  obtain ⟨ss, d, r, ⟨B, rfl, gb, rfl⟩, q⟩ := h
  have c := Cu.entry (N := ["book", "k", "rule"]) r
  refine ⟨_, (pss_cons (ps_for PassesOwn.never rfl (pi_enumT (K := K) rfl rfl T.enumerate_ (pa_cons (pe_ix (ix_tupK (K := K) rfl) (pv 0) pe_int (fun _ _ => rfl)) pa_nil)) (pg_two (K := K) (i := 1) (j := 2) rfl rfl sc_falling_fault.nd rfl rfl (by first | exact Or.inl rfl | exact Or.inr rfl) (by first | exact Or.inl rfl | exact Or.inr rfl) (by first | exact Or.inl rfl | exact Or.inr rfl) (by first | exact Or.inl rfl | exact Or.inr rfl)) (pss_one (ps_if (PW.pt (pw_and (pt_cmpR op_eq (pe_ix (ix_tupK (K := K) rfl) (pv 2) pe_int (fun _ _ => rfl)) pe_str (nomark _)) (pw_and (pt_cmpR op_ne (pe_ix (ix_tupK (K := K) rfl) (pv 2) pe_int (fun _ _ => rfl)) pe_str (nomark _)) (pw_and1 (pt_cmpR (op_notIn_seqK (K := K) rfl) (pe_ix (ix_tupK (K := K) rfl) (pv 2) pe_int (fun _ _ => rfl)) (pe_c (c_letters_under T) hr (by decide) rfl (pa_cons (pv 0) (pa_cons (pe_ix (ix_tupK (K := K) rfl) (pv 2) pe_int (fun _ _ => rfl)) pa_nil))) rfl))))) (pss_one (ps_ret (pv 1))) pss_nil)))
  (pss_one (ps_ret pe_non))), ?_⟩
  refine st_seq ?_
  refine s_for c (ei_enumT (ds := B.rules.map eRule) (ea_cons (ev_ixT (c.var 0) ev_int rfl) ea_nil) (nofun)) (js := [1, 2]) (u := u2 1 2) (fun d hd => ?_) (fun i cs ms => ∃ s1 s2, cs = [.hd (eBook B), s1, s2] ∧ ms = []) ⟨_, _, rfl, rfl⟩ ?_ ?_
  · obtain ⟨i, e, rfl, _⟩ := enumD_mem hd
    exact tg_2 ⟨_, _, rfl⟩
  · rintro Hs es i d Hb' ms' cs' σ' H' N hd e' c' em ⟨s1, s2, rfl, rfl⟩ hN
    obtain ⟨j, e, rfl, he⟩ := enumD_mem (List.mem_of_getElem? hd)
    rw [List.getElem?_map] at he
    obtain ⟨ru, hru, rfl⟩ := Option.map_eq_some_iff.mp he
    have ok := gb.rul ru (List.mem_of_getElem? hru)
    have c' : Cu Hb' [] [.hd (eBook B), .hd (eI j), .hd (eRule ru)] σ' H' := c'
    have fin : ∀ H3, Cu Hb' [] [.hd (eBook B), .hd (eI j), .hd (eRule ru)] σ' H3 → N σ' H3 := fun H3 c3 => hN Hb' _ _ _ _ e' c3 em ⟨_, _, rfl, rfl⟩
    clear hN hd hru he
    cases ru with
    | put a w l =>
      have hh : EvT (tTest (tOp rEq (tOp (rIxT K) (tVar 2) (tC (.int 0))) (tC (.str "put")))) σ' H' true := et_kindT (r := .put a w l) (c'.var 2) (by simp only [kindS] <;> decide +kernel)
      obtain ⟨ha, hw⟩ := ok
      rcases hw with rfl | ⟨d, hd, rfl⟩
      · refine s_if c' (b := false) (Evl.et_is (Evl.et_and hh fun _ => Evl.et_and (a := false) (b := false) (et_test (ev_is (ev_neS (a := tS []) (ev_ixT (c'.var 2) ev_int rfl) ev_str) (congrArg PyData.bool (by decide +kernel)))) (nofun)) rfl) (nofun) fun _ H3 e3 c3 => fin H3 c3
      · have hu : d ∈ under B.tab a := underLoop_sub (gb.tab.udr a ha) hd
        refine s_if c' (b := false) (Evl.et_is (Evl.et_and hh fun _ => Evl.et_and (a := true) (b := false) (et_test (ev_is (ev_neS (a := sC d) (ev_ixT (c'.var 2) ev_int rfl) ev_str) (congrArg PyData.bool ?_))) fun _ => et_test (ev_is (ev_notInL (x := ⟨#[d]⟩) (ys := (under B.tab a).map sC) (K := K) (ev_ixT (c'.var 2) ev_int rfl) (es_is (ef_call0 (ea_cons (c'.var 0) (ea_cons (ev_ixT (c'.var 2) ev_int rfl) ea_nil)) ⟨B, a, rfl, gb.tab, ha, rfl⟩).s (by rw [List.map_map]; rfl))) (by rw [decC, decide_eq_true hu]; rfl))) rfl) (nofun) fun _ H3 e3 c3 => fin H3 c3
        have : ¬ sC d = tS [] := fun z => by
          have := tS_inj (a := [d]) (b := []) z
          cases this
        show (!decide (sC d = tS [])) = true
        rw [decide_eq_false this]
        rfl
    | _ => exact s_if c' (b := false) (Evl.et_is (Evl.et_and (a := false) (b := false) (et_kindF (c'.var 2) (by simp only [kindS] <;> decide +kernel)) (nofun)) rfl) (nofun) fun _ H3 e3 c3 => fin H3 c3
  · rintro Hb' ms' cs' σ' H' e' c' em ⟨s1, s2, rfl, rfl⟩
    dsimp only
    refine s_ret (s := .hd .none) ev_non ?_
    exact fun v H2 e2 rv => q v H2 ((e'.trans c'.ex).trans e2) rv
theorem sc_want_falling : FnScope ["book", "fault"] ["book"] (defScope (top 41)) := ⟨rfl, rfl, rfl, by decide +kernel, rfl, by decide +kernel, by decide +kernel⟩
theorem c_want_falling (T : Txt K mg) : Cal P w K mg base 3 "want_falling" (spD domFall) [] := by
  refine cal_of (k := 2) T 25 (d := d_want_falling) rfl sc_want_falling rfl rfl (fun _ _ _ _ _ _ us hl => match us, hl with | [_], _ => rfl) (len_D fun _ _ ⟨_, e, _⟩ => by rw [e]; rfl) (fun f cdv A outer s H vs Q E hr h => ?_)
  obtain ⟨ss, d, r, ⟨B, rfl, gb, rfl⟩, q⟩ := h
  have c := Cu.entry (N := ["book", "fault"]) r
  refine ⟨_, (pss_cons (ps_set (i := 1) sc_want_falling.nd rfl (by first | exact Or.inl rfl | exact Or.inr rfl) (pe_c (c_falling_fault T) hr (by decide) rfl (pa_cons (pv 0) pa_nil)))
  (pss_one (ps_if (pt_cmp (pc_notN (pv 1)) rfl) pss_never pss_nil))), ?_⟩
  refine st_seq (s_set c (ev_call0 (ea_cons (c.var 0) ea_nil) ⟨B, rfl, gb, rfl⟩) fun Hb1 σ1 H1 e1 c1 => ?_)
  exact s_if c1 (b := false) (et_B (ev_notN (a := .none) (k := false) (c1.var 1) fun v H e => decide_eq_true (show v = .non from e))) (nofun) fun _ H2 e2 c2 => q .non H2 ((e1.trans c1.ex).trans e2) rfl
end
end FF
/-! whether shrinking ends; which things fail -/
namespace FF
open PySem PySem.Spec PyProof.Rows L2
open Evl (Ex EvT)
def isLow : Rule → Bool
  | .lower _ => true
  | _ => false
def isPut (c : Nat) : Rule → Bool
  | .put a _ _ => decide (a = c)
  | _ => false
def wordOf : Rule → Thing
  | .put _ w _ => w
  | _ => []
def hasLow (B : Book) : Bool := B.rules.any isLow
def wordsOf (B : Book) (c : Nat) : List Thing := (B.rules.filter (isPut c)).map wordOf ++ (if hasLow B then B.tab.flatMap fun p => (p.2.filter fun _ => decide (p.1 = c)).map fun d => [d] else [])
theorem wordsOf_mem {B : Book} (gb : GoodBook B) {c : Nat} {w : Thing} (h : w ∈ wordsOf B c) : w = [] ∨ ∃ d ∈ look B.tab c, w = [d] := by
  unfold wordsOf at h
  rcases List.mem_append.mp h with h | h
  · obtain ⟨r, hr, rfl⟩ := List.mem_map.mp h
    obtain ⟨h1, h2⟩ := List.mem_filter.mp hr
    cases r with
    | put a w l =>
      have e : a = c := of_decide_eq_true h2
      subst e
      exact (gb.rul _ h1).2
    | _ => cases h2
  · split at h
    · obtain ⟨p, hp, h⟩ := List.mem_flatMap.mp h
      obtain ⟨d, hd, rfl⟩ := List.mem_map.mp h
      obtain ⟨h1, h2⟩ := List.mem_filter.mp hd
      have e : p.1 = c := of_decide_eq_true h2
      subst e
      exact .inr ⟨d, by rw [look_of gb.tab.nd hp]; exact h1, rfl⟩
    · cases h
theorem wordsOf_len {B : Book} (gb : GoodBook B) (c : Nat) : (wordsOf B c).length ≤ 20 := by
  unfold wordsOf
  rw [List.length_append, List.length_map]
  have h1 := List.length_filter_le (isPut c) B.rules
  have h2 := gb.len
  split
  · have h3 := flatMap_len (m := 3) (l := B.tab) (f := fun p => (p.2.filter fun _ => decide (p.1 = c)).map fun d => [d]) fun p hp => by
      rw [List.length_map]
      exact Nat.le_trans (List.length_filter_le _ _) (gb.tab.les p hp)
    have := gb.tab.len
    omega
  · simp only [List.length_nil]
    omega
/-- what is kept of left -/
def keptOf (B : Book) (left : List Nat) : List Nat := left.filter fun c => (wordsOf B c).any fun w => w.any fun d => decide (d ∈ left)
theorem keptOf_lt {B : Book} (gb : GoodBook B) {left : List Nat} (hk : ∀ c ∈ left, c ∈ names B.tab) (hn : left ≠ []) : (keptOf B left).length < left.length := by
  rcases Nat.lt_or_ge (keptOf B left).length left.length with h | h
  · exact h
  · exfalso
    have e : keptOf B left = left := List.Sublist.eq_of_length_le List.filter_sublist h
    have all : ∀ c ∈ left, ∃ d ∈ left, d ∈ look B.tab c := fun c hc => by
      rw [← e] at hc
      obtain ⟨w, hw, h1⟩ := List.any_eq_true.mp (List.mem_filter.mp hc).2
      obtain ⟨d, hd, h2⟩ := List.any_eq_true.mp h1
      have h2 := of_decide_eq_true h2
      rcases wordsOf_mem gb hw with rfl | ⟨d', hd', rfl⟩
      · cases hd
      · rw [List.mem_singleton.mp hd] at h2
        exact ⟨d', h2, hd'⟩
    have go : ∀ (n : Nat) (c : Nat), c ∈ left → (below B.tab c).length < n → False := fun n => by
      induction n with
      | zero => intro c _ h; cases h
      | succ n ih =>
        intro c hc hlt
        obtain ⟨d, hd, hdl⟩ := all c hc
        have := gb.tab.rnk c (hk c hc) d hdl
        exact ih d hd (by omega)
    cases left with
    | nil => exact hn rfl
    | cons c l => exact go _ c (List.mem_cons_self ..) (Nat.lt_succ_self _)
theorem any_map {α β : Type} (l : List α) (f : α → β) (p : β → Bool) : (l.map f).any p = l.any fun a => p (f a) := by
  rw [List.any_map]
  rfl
section
variable {H : Hp} {σ : L2.St} {ta tb : TE} {K : PySem.W.Frag}
theorem ev_neNil (ha : EvD ta σ H (.tuple [])) (hb : EvD tb σ H (.tuple [])) : EvD (tOp (rNeD K) ta tb) σ H (.bool false) :=
  ev_op ha hb fun x y H1 _ rx ry Q q => by
    obtain ⟨p, xs, rfl, h1, h2⟩ := rx
    obtain ⟨p2, ys, rfl, h3, h4⟩ := ry
    cases xs with
    | cons a b => exact h2.elim
    | nil => cases ys with
      | cons a b => exact h4.elim
      | nil => exact ⟨.tuple [], .tuple [], .tup (.inl h1) .nil, .tup (.inl h3) .nil, rfl, rfl, q _ H1 (Ex.refl _) rfl⟩
end
section
variable {P : Program} {w : World} {K : PySem.W.Frag} {mg : Str → Option Value} {base : Heap}
theorem kind_low (r : Rule) : decide (kindS r = "lower") = isLow r := by
  cases r with
  | lower l => exact decide_eq_true rfl
  | _ => exact decide_eq_false (by simp only [kindS] <;> decide +kernel)
theorem kind_put (c : Nat) (r : Rule) (h : isPut c r = true) : kindS r = "put" := by
  cases r with
  | put a w l => rfl
  | _ => cases h
def domHasLow (ss : List Sh) (d : PyData) : Prop := ∃ (B : Book), ss = [.hd (eBook B)] ∧ GoodBook B ∧ d = .bool (hasLow B)
theorem sc_has_lower : FnScope ["book", "rule"] ["book"] (defScope (top 58)) := ⟨rfl, rfl, rfl, by decide +kernel, rfl, by decide +kernel, by decide +kernel⟩
theorem c_has_lower (T : Txt K mg) : Cal P w K mg base 1 "has_lower" (spD domHasLow) [] := by
  refine cal_of (k := 0) T 35 (d := d_has_lower) rfl sc_has_lower rfl rfl (fun _ _ _ _ _ _ us hl => match us, hl with | [_], _ => rfl) (len_D fun _ _ ⟨_, e, _⟩ => by rw [e]; rfl) (fun f cdv A outer s H vs Q E hr h => ?_)
  obtain ⟨ss, d, r, ⟨B, rfl, gb, rfl⟩, q⟩ := h
  have c := Cu.entry (N := ["book", "rule"]) r
  refine ⟨_, (pss_one (ps_ret (pe_callB (cr_anyK (K := K) rfl rfl) rfl T.any_ (by decide +kernel) (pa_cons (pe_lc (own := [("rule", 1)]) rfl sc_has_lower.nd (pi_tupK (K := K) rfl (pe_ix (ix_tupK (K := K) rfl) (pv 0) pe_int (fun _ _ => rfl))) (blkOk_by (N := ["book", "rule"]) (sc := defScope (top 58)) (by decide +kernel)) (by intros; exact (pg_name (i := 1) sc_has_lower.nd rfl (by first | exact Or.inl rfl | exact Or.inr rfl))) (by intros; exact pts_nil) (by intros; exact (pe_cmpR op_eq (pe_ix (ix_tupK (K := K) rfl) (pv 1) pe_int (fun _ _ => rfl)) pe_str (nomark _)))) pa_nil)))), ?_⟩
  have := gb.len
  refine s_ret (s := .hd (.bool (hasLow B))) (ev_is (ev_any (bs := B.rules.map isLow) (es_is (ef_map c (ei_tup (ds := B.rules.map eRule) (ev_ixT (c.var 0) ev_int rfl) (nofun)) (fun d _ => tg_name) (by decide) (fun d => .bool (decide (sOf (match d with | .tuple (a :: _) => a | _ => .none) = "lower"))) (fun d hd σ' H' c' => ?_) ?_).s ?_)) ?_) q
  · obtain ⟨ru, _, rfl⟩ := List.mem_map.mp hd
    refine ev_is (ev_eqS (ev_kind (c'.var 1)) ev_str) ?_
    cases ru <;> rfl
  · rw [List.length_map]
    omega
  · rw [List.map_map, List.map_map]
    congr 1
    apply List.map_congr_left
    intro ru _
    show PyData.bool _ = PyData.bool (isLow ru)
    rw [← kind_low]
    cases ru <;> rfl
  · rw [any_map]
    rfl
def domWords (ss : List Sh) (s : Sh) : Prop := ∃ (B : Book) (x : Nat), ss = [.hd (eBook B), .hd (eC x)] ∧ GoodBook B ∧ s = .ls ((wordsOf B x).map eT)
theorem rule_ix {H : Hp} {σ : L2.St} {te : TE} {a : Nat} {w : Thing} {l : Bool} (h : EvD te σ H (eRule (.put a w l))) : EvD (tOp (rIxT K) te (tC (.int 1))) σ H (eC a) := ev_ixT h ev_int rfl
theorem rule_ix2 {H : Hp} {σ : L2.St} {te : TE} {a : Nat} {w : Thing} {l : Bool} (h : EvD te σ H (eRule (.put a w l))) : EvD (tOp (rIxT K) te (tC (.int 2))) σ H (eT w) := ev_ixT h ev_int rfl
def ruleOf : PyData → Rule
  | .tuple [.str a, .str c, .str w, _] => .put (c.cps.toList.headD 0) w.cps.toList true
  | .tuple [.str a, .int n, _] => .drop n.toNat true
  | _ => .empty
theorem ruleOf_put (c : Nat) (r : Rule) : isPut c (ruleOf (eRule r)) = isPut c r := by
  cases r <;> rfl
theorem ruleOf_word (r : Rule) : wordOf (ruleOf (eRule r)) = wordOf r := by
  cases r with
  | put a w l => exact tS_list w
  | _ => rfl
theorem sc_words_given : FnScope ["book", "letter", "found", "own", "lessers", "rule", "less"] ["book", "letter"] (defScope (top 59)) := ⟨rfl, rfl, rfl, by decide +kernel, rfl, by decide +kernel, by decide +kernel⟩
theorem c_words_given (T : Txt K mg) : Cal P w K mg base 2 "words_given" (spF domWords) [] := by
  refine cal_of (k := 1) T 36 (d := d_words_given) rfl sc_words_given rfl rfl (fun _ _ _ _ _ _ us hl => match us, hl with | [_, _], _ => rfl) (len_F fun _ _ ⟨_, _, e, _⟩ => by rw [e]; rfl) (fun f cdv A outer s H vs Q E hr h => ?_)
  obtain ⟨ss, s, r, ⟨B, x, rfl, gb, rfl⟩, q⟩ := h
  have c := Cu.entry (N := ["book", "letter", "found", "own", "lessers", "rule", "less"]) r
  refine ⟨_, (pss_cons (ps_setLc (i := 2) (own := [("rule", 5)]) rfl sc_words_given.nd rfl rfl (sw_true rfl rfl rfl (by decide +kernel)) (pi_tupK (K := K) rfl (pe_ix (ix_tupK (K := K) rfl) (pv 0) pe_int (fun _ _ => rfl))) (blkOk_by (N := ["book", "letter", "found", "own", "lessers", "rule", "less"]) (sc := defScope (top 59)) (by decide +kernel)) (by intros; exact (pg_name (i := 5) sc_words_given.nd rfl (by first | exact Or.inl rfl | exact Or.inr rfl))) (by intros; exact (pts_one (PW.pt (pw_and (pt_cmpR op_eq (pe_ix (ix_tupK (K := K) rfl) (pv 5) pe_int (fun _ _ => rfl)) pe_str (nomark _)) (pw_and1 (pt_cmpR op_eq (pe_ix (ix_tupK (K := K) rfl) (pv 5) pe_int (fun _ _ => rfl)) (pv 1) (nomark _))))))) (by intros; exact (pe_ix (ix_tupK (K := K) rfl) (pv 5) pe_int (fun _ _ => rfl))))
  (pss_cons (ps_if (pt_val (pe_c (c_has_lower T) hr (by decide) rfl (pa_cons (pv 0) pa_nil))) (pss_one (ps_for PassesOwn.never rfl (pi_tupK (K := K) rfl (pe_ix (ix_tupK (K := K) rfl) (pv 0) pe_int (fun _ _ => rfl))) (pg_two (K := K) (i := 3) (j := 4) rfl rfl sc_words_given.nd rfl rfl (by first | exact Or.inl rfl | exact Or.inr rfl) (by first | exact Or.inl rfl | exact Or.inr rfl) (by first | exact Or.inl rfl | exact Or.inr rfl) (by first | exact Or.inl rfl | exact Or.inr rfl)) (pss_one (ps_expr (pe_bmK (K := K) rfl PySem.F.plainAttrs_list PySem.F.slot_list_extend PySem.F.type_list_extend mt_extend (pv 2) (pa_cons (pe_lc (own := [("less", 6)]) rfl sc_words_given.nd (pi_tupK (K := K) rfl (pv 4)) (blkOk_by (N := ["book", "letter", "found", "own", "lessers", "rule", "less"]) (sc := defScope (top 59)) (by decide +kernel)) (by intros; exact (pg_name (i := 6) sc_words_given.nd rfl (by first | exact Or.inl rfl | exact Or.inr rfl))) (by intros; exact (pts_one (pt_cmpR op_eq (pv 3) (pv 1) (nomark _)))) (by intros; exact (pv 6))) pa_nil)))))) pss_nil)
  (pss_one (ps_ret (pv 2))))), ?_⟩
  have hrl := gb.len
  have htl := gb.tab.len
  have hfl := List.length_filter_le (isPut x) B.rules
  refine st_seq ?_
  refine s_setM (ds := ((B.rules.filter (isPut x)).map wordOf).map eT) c (ef_is (ef_lc c (ei_tup (ds := B.rules.map eRule) (ev_ixT (c.var 0) ev_int rfl) (nofun)) (fun d _ => tg_name) (by decide) (fun d => isPut x (ruleOf d)) (fun d => eT (wordOf (ruleOf d))) (fun d hd σ' H' c' => ?_) (fun d hd hp σ' H' c' => ?_) ?_) ?_) fun p Hb1 σ1 H1 e1 hp c1 => ?_
  · obtain ⟨ru, _, rfl⟩ := List.mem_map.mp hd
    have c' : Cu H' [] [.hd (eBook B), .hd (eC x), .un, .un, .un, .hd (eRule ru), .un] σ' H' := c'
    rw [ruleOf_put]
    cases ru with
    | put a w l => exact Evl.et_is (Evl.et_and (et_kindT (r := .put a w l) (c'.var 5) (by simp only [kindS] <;> decide +kernel)) fun _ => et_test (ev_eqS (rule_ix (c'.var 5)) (c'.var 1))) ((Bool.true_and _).trans (decide_eq_decide.mpr ⟨fun h => sC_inj h, fun h => congrArg sC h⟩))
    | _ => exact Evl.et_is (Evl.et_and (a := false) (b := false) (et_kindF (c'.var 5) (by simp only [kindS] <;> decide +kernel)) (nofun)) rfl
  · obtain ⟨ru, _, rfl⟩ := List.mem_map.mp hd
    have c' : Cu H' [] [.hd (eBook B), .hd (eC x), .un, .un, .un, .hd (eRule ru), .un] σ' H' := c'
    rw [ruleOf_put] at hp
    cases ru with
    | put a w l => exact ev_is (rule_ix2 (c'.var 5)) (by show eT w = eT (wordOf (ruleOf (eRule (.put a w l)))); rw [ruleOf_word]; rfl)
    | _ => cases hp
  · rw [List.length_map]
    omega
  · rw [List.filter_map, List.map_map, List.map_map]
    congr 1
    have e1 : B.rules.filter ((fun d => isPut x (ruleOf d)) ∘ eRule) = B.rules.filter (isPut x) := List.filter_congr fun r _ => ruleOf_put x r
    rw [e1]
    apply List.map_congr_left
    intro r _
    show eT (wordOf (ruleOf (eRule r))) = eT (wordOf r)
    rw [ruleOf_word]
  dsimp only
  refine st_seq ?_
  refine s_if c1 (et_B (ev_call0 (ea_cons (c1.var 0) ea_nil) ⟨B, rfl, gb, rfl⟩)) (fun hb H2 e2 c2 => ?_) (fun hb H2 e2 c2 => ?_)
  · refine s_for c2 (ei_tup (ds := B.tab.map fun p => .tuple [eC p.1, .tuple (p.2.map eC)]) (ev_pt (ev_ixT (c2.var 0) ev_int rfl)) fun H3 e3 b hb o ho => ?_) (js := [3, 4]) (u := u2 3 4) (fun d hd => ?_) (fun i cs ms => ∃ s3 s4 s5 s6, cs = [.hd (eBook B), .hd (eC x), .vl (.ref p), s3, s4, s5, s6] ∧ ms = [(p, .l (((B.rules.filter (isPut x)).map wordOf ++ (B.tab.take i).flatMap fun p => (p.2.filter fun _ => decide (p.1 = x)).map fun d => [d]).map eT))]) ⟨_, _, _, _, rfl, by simp⟩ ?_ ?_
    · rw [List.mem_singleton.mp hb] at ho
      exact (c2.ext e3).notup (List.mem_singleton.mpr rfl) o ho
    · obtain ⟨p, _, rfl⟩ := List.mem_map.mp hd
      exact tg_2 ⟨_, _, rfl⟩
    · rintro Hs es i d Hb' ms' cs' σ' H' N hd e' c' em ⟨s3, s4, s5, s6, rfl, rfl⟩ hN
      rw [List.getElem?_map] at hd
      obtain ⟨row, hrow, rfl⟩ := Option.map_eq_some_iff.mp hd
      have c' : Cu Hb' _ [.hd (eBook B), .hd (eC x), .vl (.ref p), .hd (eC row.1), .hd (.tuple (row.2.map eC)), s5, s6] σ' H' := c'
      have hles := gb.tab.les row (List.mem_of_getElem? hrow)
      have hlen := flatMap_len (m := 3) (l := B.tab.take i) (f := fun p => (p.2.filter fun _ => decide (p.1 = x)).map fun d => [d]) fun p hp => by
        rw [List.length_map]
        exact Nat.le_trans (List.length_filter_le _ _) (gb.tab.les p (List.mem_of_mem_take hp))
      rw [List.length_take] at hlen
      have hfl2 := List.length_filter_le (fun _ => decide (row.1 = x)) row.2
      refine s_ext c' rfl (k := 0) rfl (es := ((row.2.filter fun _ => decide (row.1 = x)).map fun d => [d]).map eT) (es_is (ef_lc c' (ei_tup (ds := row.2.map eC) (c'.var 4) (nofun)) (fun d _ => tg_name) (by decide) (fun _ => decide (row.1 = x)) (fun d => d) (fun d hd σ'' H'' c'' => et_test (ev_is (ev_eqS (c''.var 3) (c''.var 1)) (congrArg PyData.bool (decide_eq_decide.mpr ⟨fun h => sC_inj h, fun h => congrArg sC h⟩)))) (fun d hd _ σ'' H'' c'' => c''.var 6) (by rw [List.length_map]; omega)).s ?_) ?_ fun H3 c3 => ?_
      · rw [List.filter_map, List.map_map, List.map_map]
        rfl
      · rw [List.length_map, List.length_append, List.length_map, List.length_map, List.length_map]
        omega
      · refine hN Hb' _ _ _ _ e' c3 em ⟨_, _, _, _, rfl, ?_⟩
        rw [List.take_add_one, hrow]
        simp
    · rintro Hb' ms' cs' σ' H' e' c' em ⟨s3, s4, s5, s6, rfl, rfl⟩
      rw [List.length_map, List.take_length] at c'
      dsimp only
      refine s_retL c' (i := 2) rfl (k := 0) rfl fun ls => q p H' hp (e1.trans (e'.trans c'.ex)) ⟨p, rfl, ?_⟩
      unfold wordsOf
      rw [if_pos hb]
      exact ls
  · dsimp only [tNext]
    refine s_retL c2 (i := 2) rfl (k := 0) rfl fun ls => q p H2 hp (e1.trans c2.ex) ⟨p, rfl, ?_⟩
    unfold wordsOf
    rw [if_neg (by rw [hb]; exact Bool.false_ne_true), List.append_nil]
    exact ls
end
end FF
/-! rings, tests, what a walk asks for -/
namespace FF
open PySem PySem.Spec PyProof.Rows L2
open Evl (Ex EvT)
theorem lkp_mapC {α : Type} {L : Tab} (g : Nat → α) {x : Nat} (h : x ∈ names L) : lkp (L.map fun p => (sC p.1, g p.1)) (sC x) = some (g x) := by
  unfold lkp
  induction L with
  | nil => cases h
  | cons p r ih =>
    rw [List.map_cons, List.find?_cons]
    by_cases e : p.1 = x
    · subst e
      rw [show decide (((sC p.1, g p.1) : Str × α).1 = sC p.1) = true from decide_eq_true rfl]
      rfl
    · rw [show decide (((sC p.1, g p.1) : Str × α).1 = sC x) = false from decide_eq_false fun z => e (sC_inj z)]
      rcases List.mem_cons.mp h with z | z
      · exact absurd z.symm e
      · exact ih z
theorem any_flat {α β : Type} (l : List α) (f : α → List β) (p : β → Bool) : (l.flatMap f).any p = l.any fun a => (f a).any p := by
  induction l with
  | nil => rfl
  | cons a l ih => rw [List.flatMap_cons, List.any_append, List.any_cons, ih]
section
variable {Hb H : Hp} {ms : Ms} {cs : List Sh} {σ : L2.St} {te ta tb : TE} {K : PySem.W.Frag} {D : Ends}
/-- y = x of a list that stays -/
theorem s_setLv (c : Cu Hb ms cs σ H) {i j : Nat} {ds : List PyData} (hj : cs[j]? = some (.ls ds)) (k : ∀ Hb' σ' H', Ex Hb Hb' → Cu Hb' ms (cs.set i (.ls ds)) σ' H' → D.nx σ' H') : tAsg (tVar j) (gName i) D σ H := by
  obtain ⟨o, h1, h2⟩ := c.sl.get hj
  obtain ⟨v, rfl, h3⟩ := slOk.known rfl h2
  exact ⟨v, h1, k _ _ H (Ex.refl _) (c.put (s := .ls ds) h3)⟩
theorem s_setFl (c : Cu Hb [] cs σ H) {i : Nat} {kvs : List (Str × List PyData)} (h : EvF te σ H (.dl kvs)) (k : ∀ Hb' σ' H', Ex Hb Hb' → Cu Hb' [] (cs.set i (.dl kvs)) σ' H' → D.nx σ' H') : tAsg te (gName i) D σ H :=
  h H (Ex.refl _) _ fun p H1 hp e r => k _ _ H1 (c.exHide e) ((c.rebase e).put (s := .dl kvs) (Sh.mono (fun a o h => by rw [hide_out (by exact List.not_mem_nil)]; exact h) r))
theorem RpKl.keyVs {H : Hp} : ∀ {kvs : List (Str × List PyData)} {es : List (Key × V)}, RpKl H kvs es → es.map (fun kv => kV kv.1) = (kvs.map fun kv => PyData.str kv.1).map vOf
  | [], [], _ => rfl
  | (_, _) :: _, (_, _) :: _, h => by
    rw [List.map_cons, List.map_cons, List.map_cons, h.1, RpKl.keyVs h.2.2]
    rfl
  | [], _ :: _, h => h.elim
  | (_, _) :: _, [], h => h.elim
theorem ef_listDl {kvs : List (Str × List PyData)} (ha : EvS te σ H (.dl kvs)) : EvF (tCB rListD (tCons te tNil)) σ H (.ls (kvs.map fun kv => PyData.str kv.1)) :=
  ef_cb (ea_cons ha ea_nil) fun vs H1 _ r Q q => by
    obtain ⟨v, rfl, p, es, rfl, h1, h2⟩ := sh1 r
    refine ⟨p, es, rfl, h1, fun l hl => ?_⟩
    rw [h2.keyVs]
    exact q l _ hl (Evl.Ex.new hl) ⟨l, rfl, _, upd_same, RpAll.ofFlat fun d hd => by
      obtain ⟨kv, _, rfl⟩ := List.mem_map.mp hd
      rfl⟩
end
/-- whether x fails by causes -/
def failsBy (L : Tab) (cs : List Thing) (x : Thing) : Bool := cs.any fun u => atMost (reach L) u x
section
variable {P : Program} {w : World} {K : PySem.W.Frag} {mg : Str → Option Value} {base : Heap}
def domRing (ss : List Sh) (d : PyData) : Prop := ∃ (B : Book), ss = [.hd (eBook B)] ∧ GoodBook B ∧ d = .tuple []
theorem sc_ring_of : FnScope ["book", "words", "left", "is_changed", "kept", "letter", "lessers", "word", "sign"] ["book"] (defScope (top 60)) := ⟨rfl, rfl, rfl, by decide +kernel, rfl, by decide +kernel, by decide +kernel⟩
theorem c_ring_of (T : Txt K mg) : Cal P w K mg base 3 "ring_of" (spD domRing) [] := by
  refine cal_of (k := 2) T 37 (d := d_ring_of) rfl sc_ring_of rfl rfl (fun _ _ _ _ _ _ us hl => match us, hl with | [_], _ => rfl) (len_D fun _ _ ⟨_, e, _⟩ => by rw [e]; rfl) (fun f cdv A outer s H vs Q E hr h => ?_)
  obtain ⟨ss, d, r, ⟨B, rfl, gb, rfl⟩, q⟩ := h
  have c := Cu.entry (N := ["book", "words", "left", "is_changed", "kept", "letter", "lessers", "word", "sign"]) r
  refine ⟨_, (pss_cons (ps_set (i := 1) sc_ring_of.nd rfl (by first | exact Or.inl rfl | exact Or.inr rfl) (pe_dc (own := [("letter", 5), ("lessers", 6)]) rfl sc_ring_of.nd (pi_tupK (K := K) rfl (pe_ix (ix_tupK (K := K) rfl) (pv 0) pe_int (fun _ _ => rfl))) (blkOk_by (N := ["book", "words", "left", "is_changed", "kept", "letter", "lessers", "word", "sign"]) (sc := defScope (top 60)) (by decide +kernel)) (by intros; exact (pg_two (K := K) (i := 5) (j := 6) rfl rfl sc_ring_of.nd rfl rfl (by first | exact Or.inl rfl | exact Or.inr rfl) (by first | exact Or.inl rfl | exact Or.inr rfl) (by first | exact Or.inl rfl | exact Or.inr rfl) (by first | exact Or.inl rfl | exact Or.inr rfl))) (by intros; exact pts_nil) (by intros; exact (pv 5)) (by intros; exact (pe_c (c_words_given T) hr (by decide) rfl (pa_cons (pv 0) (pa_cons (pv 5) pa_nil))))))
  (pss_cons (ps_set (i := 2) sc_ring_of.nd rfl (by first | exact Or.inl rfl | exact Or.inr rfl) (pe_callTy (call_list_dK rfl) rfl T.list_ (by decide +kernel) (pa_cons (pv 1) pa_nil)))
  (pss_cons (ps_set (i := 3) sc_ring_of.nd rfl (by first | exact Or.inl rfl | exact Or.inr rfl) pe_bl)
  (pss_cons (ps_while PassesOwn.never (pt_val (pv 3)) (pss_cons (ps_setLc (i := 4) (own := [("letter", 5)]) rfl sc_ring_of.nd rfl rfl (sw_true rfl rfl rfl (by decide +kernel)) (pi_listK (K := K) rfl (pv 2)) (blkOk_by (N := ["book", "words", "left", "is_changed", "kept", "letter", "lessers", "word", "sign"]) (sc := defScope (top 60)) (by decide +kernel)) (by intros; exact (pg_name (i := 5) sc_ring_of.nd rfl (by first | exact Or.inl rfl | exact Or.inr rfl))) (by intros; exact (pts_one (pt_val (pe_callB (cr_anyK (K := K) rfl rfl) rfl T.any_ (by decide +kernel) (pa_cons (pe_lc2 (own := [("word", 7), ("sign", 8)]) (vs1 := [8]) rfl sc_ring_of.nd (pi_listK (K := K) rfl (pe_dget (hu_of hr) (pv 1) (pv 5) (fun _ _ => rfl))) (blkOk_by (N := ["book", "words", "left", "is_changed", "kept", "letter", "lessers", "word", "sign"]) (sc := { kind := ScopeKind.function, names := [(".0", .local), ("letter", .local), ("any", .globalImplicit), ("left", .cell), ("words", .cell)], isGenerator := false, isCoroutine := false }) (by decide +kernel)) (by decide) (by intros; exact (pg_name (i := 7) sc_ring_of.nd rfl (by first | exact Or.inl rfl | exact Or.inr rfl))) (by intros; exact pts_nil) (by intros; exact (pi_str (pv 7))) (by intros; exact (pg_name (i := 8) sc_ring_of.nd rfl (by first | exact Or.inl rfl | exact Or.inr rfl))) (by intros; exact pts_nil) (by intros; exact (pe_cmpR (op_in_seqK (K := K) rfl) (pv 8) (pv 2) rfl))) pa_nil))))) (by intros; exact (pv 5)))
  (pss_cons (ps_set (i := 3) sc_ring_of.nd rfl (by first | exact Or.inl rfl | exact Or.inr rfl) (pe_cmpR op_lt (pe_callB (call_len_seqK (K := K) rfl) rfl T.len_ (by decide +kernel) (pa_cons (pv 4) pa_nil)) (pe_callB (call_len_seqK (K := K) rfl) rfl T.len_ (by decide +kernel) (pa_cons (pv 2) pa_nil)) (nomark _)))
  (pss_one (ps_set (i := 2) sc_ring_of.nd rfl (by first | exact Or.inl rfl | exact Or.inr rfl) (pv 4))))))
  (pss_one (ps_ret (pe_callTy (call_tuple_ofK (K := K) rfl) rfl T.tuple_ (by decide +kernel) (pa_cons (pv 2) pa_nil)))))))), ?_⟩
  have htl := gb.tab.len
  have hrow : ∀ d ∈ B.tab.map (fun p => PyData.tuple [eC p.1, .tuple (p.2.map eC)]), ∃ p ∈ B.tab, d = .tuple [eC p.1, .tuple (p.2.map eC)] := fun d hd => by
    obtain ⟨p, hp, rfl⟩ := List.mem_map.mp hd
    exact ⟨p, hp, rfl⟩
  refine st_seq ?_
  have hdc : EvF (tDc (iTup K (tOp (rIxT K) (tVar 0) (tC (.int 0)))) (gTup K 2 (gCons (gName 5) (gCons (gName 6) gNil))) tYes (tVar 5) (tCall (spF domWords) [] E0 (tCons (tVar 0) (tCons (tVar 5) tNil))) [5, 6]) (start ["book", "words", "left", "is_changed", "kept", "letter", "lessers", "word", "sign"] vs) H (.dl (B.tab.map fun p => (sC p.1, (wordsOf B p.1).map eT))) := ef_is (ef_dcl (tb := tCall (spF domWords) [] E0 (tCons (tVar 0) (tCons (tVar 5) tNil))) (ta := tVar 5) (vs := [5, 6]) c (ei_tup (K := K) (ds := B.tab.map fun p => .tuple [eC p.1, .tuple (p.2.map eC)]) (ev_pt (ev_ixT (K := K) (i := 0) (c.var 0) ev_int rfl)) (nofun)) (js := [5, 6]) (u := u2 5 6) (fun d hd => by
      obtain ⟨p, hp, rfl⟩ := hrow d hd
      exact tg_2 (K := K) ⟨_, _, rfl⟩) (by decide) (fun d => sOf (fstD d)) (fun d => (wordsOf B (cOf (fstD d))).map eT) (fun d hd Hb' σ' H' c' => by
      obtain ⟨p, hp, rfl⟩ := hrow d hd
      exact c'.var 5) (fun d hd Hb' σ' H' c' => by
      obtain ⟨p, hp, rfl⟩ := hrow d hd
      exact ef_call0 (ea_cons (c'.var 0) (ea_cons (c'.var 5) ea_nil)) ⟨B, p.1, rfl, gb, rfl⟩) (by rw [List.length_map]; omega) (by
      have := tab_nd gb.tab
      rw [List.map_map] at this ⊢
      exact this)) (by rw [List.map_map]; rfl)
  refine s_setFl c hdc fun Hb1 σ1 H1 e1 c1 => ?_
  dsimp only
  refine st_seq ?_
  refine s_setF (ds := (names B.tab).map eC) c1 (ef_is (ef_listDl (c1.var 1)) ?_) fun Hb2 σ2 H2 e2 c2 => ?_
  · unfold names
    rw [List.map_map, List.map_map]
    rfl
  dsimp only
  refine st_seq ?_
  refine s_set (d := .bool true) c2 ev_bl fun Hb3 σ3 H3 e3 c3 => ?_
  dsimp only
  refine st_seq ?_
  refine s_while c3 (fun m cs ms => ms = [] ∧ ∃ (left : List Nat) (b : Bool) (s4 s5 s6 s7 s8 : Sh), cs = [.hd (eBook B), .dl (B.tab.map fun p => (sC p.1, (wordsOf B p.1).map eT)), .ls (left.map eC), .hd (.bool b), s4, s5, s6, s7, s8] ∧ (∀ x ∈ left, x ∈ names B.tab) ∧ left.length ≤ 3 ∧ (b = false → left = []) ∧ m = 2 * left.length + (if b then 1 else 0)) (m0 := 2 * (names B.tab).length + 1) ⟨rfl, names B.tab, true, _, _, _, _, _, rfl, fun x hx => hx, by unfold names; rw [List.length_map]; exact htl, (nofun), rfl⟩ ?_
  rintro m Hb' ms' cs' σ' H' e' c' em ⟨rfl, left, b, s4, s5, s6, s7, s8, rfl, hk, hl3, hb0, rfl⟩
  refine ⟨b, et_B (c'.var 3), fun hb H4 N c4 hN => ?_, fun hb H4 c4 => ?_⟩
  · subst hb
    refine st_seq ?_
    refine s_setF (ds := (keptOf B left).map eC) c4 (ef_is (ef_lc c4 (ei_lst (ex_0 (c4.var 2))) (fun d _ => tg_name) (by decide) (fun d => (wordsOf B (cOf d)).any fun w => w.any fun e => decide (e ∈ left)) (fun d => d) (fun d hd σ5 H5 c5 => ?_) (fun d hd _ σ5 H5 c5 => c5.var 5) ?_) ?_) fun Hb5 σ5 H5 e5 c5 => ?_
    · obtain ⟨x, hx, rfl⟩ := List.mem_map.mp hd
      have hxn := hk x hx
      have hwl := wordsOf_len gb x
      have hw1 : ∀ w ∈ wordsOf B x, w.length ≤ 1 := fun w hw => by
        rcases wordsOf_mem gb hw with rfl | ⟨d, _, rfl⟩
        · exact Nat.zero_le _
        · exact Nat.le_refl _
      have hes : ∀ w : Thing, (match eT w with | .str z => signs z | _ => []) = w.map eC := fun w => signs_tS w
      have hbnd : ∀ l : List Thing, (∀ w ∈ l, w.length ≤ 1) → ((l.map eT).flatMap fun d => signs (sOf d)).length ≤ l.length := fun l hl => by
        have := flatMap_len (m := 1) (l := l.map eT) (f := fun d => signs (sOf d)) fun d hd => by
          obtain ⟨w, hw, rfl⟩ := List.mem_map.mp hd
          show (signs (tS w)).length ≤ 1
          rw [signs_tS, List.length_map]
          exact hl w hw
        rw [List.length_map, Nat.one_mul] at this
        exact this
      refine et_B (ev_is (ev_any (bs := ((wordsOf B x).flatMap fun w => w.map fun e => decide (e ∈ left))) (es_is (ef_lc2 c5 (ei_lst (ex_0 (ev_dgetL (c5.var 1) (c5.var 5) (lkp_mapC (fun y => (wordsOf B y).map eT) hxn)))) (fun d _ => tg_name) (by decide) (fun d => signs (sOf d)) (fun d _ e _ => tg_name) (by decide) (fun d e => .bool (decide (cOf e ∈ left))) (fun d hd Hb6 p acc σ6 H6 c6 => ?_) (fun d hd e he Hb6 p acc σ6 H6 c6 => ?_) (fun i => ?_) fun d hd => ?_).s ?_)) ?_)
      · obtain ⟨w, hw, rfl⟩ := List.mem_map.mp hd
        exact ei_str (c6.var 7)
      · obtain ⟨w, hw, rfl⟩ := List.mem_map.mp hd
        have he : e ∈ signs (tS w) := he
        rw [signs_tS] at he
        obtain ⟨y, hy, rfl⟩ := List.mem_map.mp he
        exact ev_is (ev_inL (x := ⟨#[y]⟩) (ys := left.map sC) (K := K) (c6.var 8) (es_is (c6.var 2) (by rw [List.map_map]; rfl))) (by rw [decC]; rfl)
      · rw [← List.map_take]
        have h1 := hbnd ((wordsOf B x).take i) fun w hw => hw1 w (List.mem_of_mem_take hw)
        rw [List.length_take] at h1
        omega
      · obtain ⟨w, hw, rfl⟩ := List.mem_map.mp hd
        show (signs (tS w)).length ≤ _
        rw [signs_tS, List.length_map]
        have := hw1 w hw
        omega
      · rw [List.flatMap_map, List.map_flatMap]
        congr 1
        congr 1
        funext w
        show (signs (tS w)).map _ = _
        rw [signs_tS, List.map_map, List.map_map]
        rfl
      · rw [any_flat]
        congr 1
        show _ = (wordsOf B x).any _
        congr 1
        funext w
        rw [any_map]
        rfl
    · rw [List.length_map]
      omega
    · unfold keptOf
      rw [List.filter_map, List.map_map]
      rfl
    have hkl : (keptOf B left).length ≤ left.length := List.length_filter_le _ _
    dsimp only
    refine st_seq ?_
    refine s_set c5 (ev_lt (ev_lenL (c5.var 4)) (ev_lenL (c5.var 2))) fun Hb6 σ6 H6 e6 c6 => ?_
    refine s_setLv c6 (i := 2) (j := 4) rfl fun Hb7 σ7 H7 e7 c7 => ?_
    have e0 : decide ((((keptOf B left).map eC).length : Int) < ((left.map eC).length : Int)) = decide ((keptOf B left).length < left.length) := decide_eq_decide.mpr (by rw [List.length_map, List.length_map]; omega)
    rw [e0] at c7
    have hne : left ≠ [] → (keptOf B left).length < left.length := keptOf_lt gb hk
    refine hN _ Hb7 _ _ _ _ ?_ (e'.trans (e5.trans (e6.trans e7))) c7 em ⟨rfl, keptOf B left, decide ((keptOf B left).length < left.length), _, _, _, _, _, rfl, fun x hx => hk x (List.mem_filter.mp hx).1, by omega, fun hf => ?_, rfl⟩
    · by_cases hz : left = []
      · subst hz
        have hk0 : (keptOf B []).length = 0 := rfl
        rw [hk0, List.length_nil, decide_eq_false (Nat.lt_irrefl 0)]
        exact Nat.zero_lt_one
      · have := hne hz
        rw [decide_eq_true this]
        show 2 * (keptOf B left).length + 1 < 2 * left.length + 1
        omega
    · by_cases hz : left = []
      · subst hz
        rfl
      · have := hne hz
        rw [decide_eq_true this] at hf
        cases hf
  · have hz := hb0 hb
    subst hz
    dsimp only
    refine s_ret (s := .hd (.tuple [])) (ev_tupL (c4.var 2)) ?_
    exact fun v H5 e5 rv => q v H5 ((e1.trans (e2.trans (e3.trans (e'.trans c4.ex)))).trans e5) rv
def domEnding (ss : List Sh) (d : PyData) : Prop := ∃ (B : Book), ss = [.hd (eBook B)] ∧ GoodBook B ∧ d = .none
theorem sc_want_ending : FnScope ["book", "ring"] ["book"] (defScope (top 61)) := ⟨rfl, rfl, rfl, by decide +kernel, rfl, by decide +kernel, by decide +kernel⟩
theorem c_want_ending (T : Txt K mg) : Cal P w K mg base 4 "want_ending" (spD domEnding) [] := by
  refine cal_of (k := 3) T 38 (d := d_want_ending) rfl sc_want_ending rfl rfl (fun _ _ _ _ _ _ us hl => match us, hl with | [_], _ => rfl) (len_D fun _ _ ⟨_, e, _⟩ => by rw [e]; rfl) (fun f cdv A outer s H vs Q E hr h => ?_)
  obtain ⟨ss, d, r, ⟨B, rfl, gb, rfl⟩, q⟩ := h
  have c := Cu.entry (N := ["book", "ring"]) r
  refine ⟨_, (pss_cons (ps_set (i := 1) sc_want_ending.nd rfl (by first | exact Or.inl rfl | exact Or.inr rfl) (pe_c (c_ring_of T) hr (by decide) rfl (pa_cons (pv 0) pa_nil)))
  (pss_one (ps_if (pt_cmpR (op_neDK (K := K) rfl hr.units) (pv 1) (pe_tup pa_nil) (nomark _)) pss_never pss_nil))), ?_⟩
  refine st_seq (s_set c (ev_call0 (ea_cons (c.var 0) ea_nil) ⟨B, rfl, gb, rfl⟩) fun Hb1 σ1 H1 e1 c1 => ?_)
  exact s_if c1 (b := false) (et_test (ev_neNil (c1.var 1) (ev_tup (ds := []) ea_nil (by decide)))) (nofun) fun _ H2 e2 c2 => q .non H2 ((e1.trans c1.ex).trans e2) rfl
theorem s_asgT {Hb H : Hp} {ms : Ms} {cs : List Sh} {σ : L2.St} {te : TE} {D : Ends} (c : Cu Hb ms cs σ H) {g : TG} {js : List Nat} {d : PyData} {u : List Sh → List Sh} (h : EvD te σ H d) (tg : Tg g js d u) (k : ∀ Hb' σ' H', Ex Hb Hb' → Cu Hb' ms (u cs) σ' H' → D.nx σ' H') : tAsg te g D σ H :=
  h H (Ex.refl _) _ fun v H1 e r => tg v σ H1 _ _ ms cs (c.rebase e) (r.mono (c.ext e).prHide) fun σ' c' _ => k _ _ H1 (c.exHide e) c'
def domDoes (ss : List Sh) (d : PyData) : Prop := ∃ (B : Book) (cs : List Thing) (x : Thing), ss = [.hd (eBook B), .hd (eTest cs), .hd (eT x)] ∧ GoodTab B.tab ∧ GoodCauses B.tab cs ∧ IsThing B.tab x ∧ d = .bool (failsBy B.tab cs x)
theorem sc_does_fail : FnScope ["book", "test", "x", "word", "things", "letter", "cause"] ["book", "test", "x"] (defScope (top 63)) := ⟨rfl, rfl, rfl, by decide +kernel, rfl, by decide +kernel, by decide +kernel⟩
theorem c_does_fail (T : Txt K mg) : Cal P w K mg base 5 "does_fail" (spD domDoes) [] := by
  refine cal_of (k := 4) T 39 (d := d_does_fail) rfl sc_does_fail rfl rfl (fun _ _ _ _ _ _ us hl => match us, hl with | [_, _, _], _ => rfl) (len_D fun _ _ ⟨_, _, _, e, _⟩ => by rw [e]; rfl) (fun f cdv A outer s H vs Q E hr h => ?_)
  obtain ⟨ss, d, r, ⟨B, cs, x, rfl, gt, gc, ix, rfl⟩, q⟩ := h
  have c := Cu.entry (N := ["book", "test", "x", "word", "things", "letter", "cause"]) r
  refine ⟨_, (pss_cons (ps_asg (pv 1) (pg_two (K := K) (i := 3) (j := 4) rfl rfl sc_does_fail.nd rfl rfl (by first | exact Or.inl rfl | exact Or.inr rfl) (by first | exact Or.inl rfl | exact Or.inr rfl) (by first | exact Or.inl rfl | exact Or.inr rfl) (by first | exact Or.inl rfl | exact Or.inr rfl)))
  (pss_cons (ps_if (pt_cmpR op_eq (pv 3) pe_str (nomark _)) pss_never pss_nil)
  (pss_cons (ps_if (pt_cmpR op_eq (pv 3) pe_str (nomark _)) pss_never pss_nil)
  (pss_cons (ps_if (pt_cmpR op_eq (pv 3) pe_str (nomark _)) pss_never pss_nil)
  (pss_one (ps_ret (pe_callB (cr_anyK (K := K) rfl rfl) rfl T.any_ (by decide +kernel) (pa_cons (pe_lc (own := [("cause", 6)]) rfl sc_does_fail.nd (pi_tupK (K := K) rfl (pv 4)) (blkOk_by (N := ["book", "test", "x", "word", "things", "letter", "cause"]) (sc := defScope (top 63)) (by decide +kernel)) (by intros; exact (pg_name (i := 6) sc_does_fail.nd rfl (by first | exact Or.inl rfl | exact Or.inr rfl))) (by intros; exact pts_nil) (by intros; exact (pe_c (c_is_at_most T) hr (by decide) rfl (pa_cons (pv 0) (pa_cons (pv 6) (pa_cons (pv 2) pa_nil)))))) pa_nil)))))))), ?_⟩
  have hcl := gc.len
  refine st_seq (s_asgT c (c.var 1) (tg_2 (K := K) (i := 3) (j := 4) ⟨_, _, rfl⟩) fun Hb1 σ1 H1 e1 c1 => ?_)
  have c1 : Cu Hb1 [] [.hd (eBook B), .hd (eTest cs), .hd (eT x), .hd (.str "causes"), .hd (.tuple (cs.map eT)), .un, .un] σ1 H1 := c1
  dsimp only
  refine st_seq ?_
  refine s_if c1 (b := false) (et_test (ev_is (ev_eqS (c1.var 3) ev_str) (congrArg PyData.bool (by decide +kernel)))) (nofun) fun _ H2 e2 c2 => ?_
  dsimp only [tNext]
  refine st_seq ?_
  refine s_if c2 (b := false) (et_test (ev_is (ev_eqS (c2.var 3) ev_str) (congrArg PyData.bool (by decide +kernel)))) (nofun) fun _ H3 e3 c3 => ?_
  dsimp only [tNext]
  refine st_seq ?_
  refine s_if c3 (b := false) (et_test (ev_is (ev_eqS (c3.var 3) ev_str) (congrArg PyData.bool (by decide +kernel)))) (nofun) fun _ H4 e4 c4 => ?_
  dsimp only [tNext]
  refine s_ret (s := .hd (.bool (failsBy B.tab cs x))) (ev_is (ev_any (bs := cs.map fun u => atMost (reach B.tab) u x) (es_is (ef_map c4 (ei_tup (c4.var 4) (nofun)) (fun d _ => tg_name) (by decide) (fun d => .bool (atMost (reach B.tab) (sOf d).cps.toList x)) (fun d hd σ' H' c' => ?_) ?_).s ?_)) ?_) ?_
  · obtain ⟨u, hu, rfl⟩ := List.mem_map.mp hd
    exact ev_call0 (ea_cons (c'.var 0) (ea_cons (c'.var 6) (ea_cons (c'.var 2) ea_nil))) ⟨B, u, x, rfl, gt, gc.th u hu, ix, by show PyData.bool (atMost (reach B.tab) (tS u).cps.toList x) = _; rw [tS_list]⟩
  · rw [List.length_map]
    omega
  · rw [List.map_map, List.map_map]
    rfl
  · rw [any_map]
    rfl
  · exact fun v H5 e5 rv => q v H5 (((e1.trans c4.ex)).trans e5) rv
def domWantWalk (ss : List Sh) (d : PyData) : Prop := ∃ (B : Book) (cs : List Thing) (x : Thing) (on nt : Bool), ss = [.hd (eBook B), .hd (eTest cs), .hd (eT x), .hd (eMan on), .hd (.bool nt)] ∧ GoodBook B ∧ GoodCauses B.tab cs ∧ IsThing B.tab x ∧ failsBy B.tab cs x = true ∧ d = .none
theorem sc_want_walk : FnScope ["book", "test", "x", "manner", "notes"] ["book", "test", "x", "manner", "notes"] (defScope (top 65)) := ⟨rfl, rfl, rfl, by decide +kernel, rfl, by decide +kernel, by decide +kernel⟩
theorem c_want_walk (T : Txt K mg) : Cal P w K mg base 6 "want_walk" (spD domWantWalk) [] := by
  refine cal_of (k := 5) T 40 (d := d_want_walk) rfl sc_want_walk rfl rfl (fun _ _ _ _ _ _ us hl => match us, hl with | [_, _, _, _, _], _ => rfl) (len_D fun _ _ ⟨_, _, _, _, _, e, _⟩ => by rw [e]; rfl) (fun f cdv A outer s H vs Q E hr h => ?_)
  obtain ⟨ss, d, r, ⟨B, cs, x, on, nt, rfl, gb, gc, ix, hf, rfl⟩, q⟩ := h
  have c := Cu.entry (N := ["book", "test", "x", "manner", "notes"]) r
  refine ⟨_, (pss_cons (ps_expr (pe_c (c_want_test T) hr (by decide) rfl (pa_cons (pv 0) (pa_cons (pv 1) pa_nil))))
  (pss_cons (ps_expr (pe_c (c_want_stepusable T) hr (by decide) rfl (pa_cons (pe_and (pe_c (c_is_thing_of_stepusable T) hr (by decide) rfl (pa_cons (pv 0) (pa_cons (pv 2) pa_nil))) (pe_one (pe_c (c_does_fail T) hr (by decide) rfl (pa_cons (pv 0) (pa_cons (pv 1) (pa_cons (pv 2) pa_nil)))))) (pa_cons pe_str pa_nil))))
  (pss_cons (ps_expr (pe_c (c_want_manner T) hr (by decide) rfl (pa_cons (pv 3) pa_nil)))
  (pss_cons (ps_expr (pe_c (c_want_notes T) hr (by decide) rfl (pa_cons (pv 4) pa_nil)))
  (pss_one (ps_expr (pe_c (c_want_ending T) hr (by decide) rfl (pa_cons (pv 0) pa_nil)))))))), ?_⟩
  refine st_seq (s_drop (s := .hd .none) (ev_call0 (ea_cons (c.var 0) (ea_cons (c.var 1) ea_nil)) ⟨B, cs, rfl, gb.tab, gc, rfl⟩) fun H1 e1 => ?_)
  have c1 := c.ext e1
  dsimp only
  refine st_seq ?_
  refine s_drop (s := .hd .none) (ev_call (ea_cons (s := .hd (.bool true)) (ev_is (ev_and (a := true) (b := true) (ev_call0 (ea_cons (c1.var 0) (ea_cons (c1.var 2) ea_nil)) ⟨B, x, rfl, gb.tab, ix, rfl⟩) fun _ => ev_call0 (ea_cons (c1.var 0) (ea_cons (c1.var 1) (ea_cons (c1.var 2) ea_nil))) ⟨B, cs, x, rfl, gb.tab, gc, ix, by rw [hf]⟩) rfl) (ea_cons ev_str ea_nil)) ⟨_, rfl, rfl⟩ want_at) fun H2 e2 => ?_
  have c2 := c1.ext e2
  dsimp only
  refine st_seq ?_
  refine s_drop (s := .hd .none) (ev_call0 (ea_cons (c2.var 3) ea_nil) ⟨on, rfl, rfl⟩) fun H3 e3 => ?_
  have c3 := c2.ext e3
  dsimp only
  refine st_seq ?_
  refine s_drop (s := .hd .none) (ev_call0 (ea_cons (c3.var 4) ea_nil) ⟨nt, rfl, rfl⟩) fun H4 e4 => ?_
  have c4 := c3.ext e4
  dsimp only
  refine s_drop (s := .hd .none) (ev_call0 (ea_cons (c4.var 0) ea_nil) ⟨B, rfl, gb, rfl⟩) fun H5 e5 => ?_
  exact q .non H5 ((((e1.trans e2).trans e3).trans e4).trans e5) rfl
end
end FF
/-! calls that change one object of the caller's -/
namespace FF
open PySem PySem.Spec PyProof.Rows L2
open Evl (Ex EvT)
/-- shapes that lean on tuples alone -/
def Sh.hard : Sh → Bool
  | .hd _ | .vl _ | .un => true
  | _ => false
theorem Sh.monoP {H H' : Hp} (p : Pr H H') : ∀ {s : Sh} {v : V}, s.hard = true → s.ok H v → s.ok H' v
  | .hd _, _, _, h => Rp.mono p h
  | .vl _, _, _, h => h
  | .un, _, _, _ => trivial
theorem ShAll.monoP {H H' : Hp} (p : Pr H H') : ∀ {ss : List Sh} {vs : List V}, (ss.all Sh.hard) = true → ShAll H ss vs → ShAll H' ss vs
  | [], [], _, _ => trivial
  | s :: ss, v :: vs, t, h => by
    rw [List.all_cons, Bool.and_eq_true] at t
    exact ⟨Sh.monoP p t.1 h.1, ShAll.monoP p t.2 h.2⟩
  | [], _ :: _, _, h => h.elim
  | _ :: _, [], _, h => h.elim
section
variable {Hb H H' : Hp} {ms : Ms} {cs : List Sh} {σ : L2.St}
theorem set_fst {ms : Ms} {k : Nat} {p : Addr} {m m' : MC} (hk : ms[k]? = some (p, m)) : (ms.set k (p, m')).map (·.1) = ms.map (·.1) := by
  apply List.ext_getElem?
  intro i
  rw [List.getElem?_map, List.getElem?_map, List.getElem?_set]
  by_cases e : k = i
  · subst e
    have hl : k < ms.length := (List.getElem?_eq_some_iff.mp hk).1
    rw [if_pos rfl, if_pos hl, hk]
    rfl
  · rw [if_neg e]
/-- one object of ms has changed, the others stand -/
theorem Cu.jump (c : Cu Hb ms cs σ H) {k : Nat} {p : Addr} {m m' : MC} {o' : HO} (hk : ms[k]? = some (p, m)) (b : But [p] H H') (h : H' p = some o') (hm : ∀ Hx, Ex Hb Hx → m'.ok Hx H' o') :
    Ex Hb (hide (ms.map (·.1)) H') ∧ Cu (hide (ms.map (·.1)) H') (ms.set k (p, m')) cs σ H' := by
  have hp : (p, m) ∈ ms := List.mem_of_getElem? hk
  have hpr : Pr H H' := prBut (ps := [p]) b fun q hq o e => by
    rw [List.mem_singleton.mp hq] at e
    exact c.notup hp o e
  have hb : Ex Hb (hide (ms.map (·.1)) H') := fun a o e => by
    have z : a ∉ ms.map (·.1) := fun y => by
      obtain ⟨q, hq, rfl⟩ := List.mem_map.mp y
      rw [c.nw q hq] at e
      cases e
    rw [hide_out z]
    exact b a o (c.ex _ _ e) fun y => z (by rw [List.mem_singleton.mp y]; exact List.mem_map_of_mem hp)
  have hmap := set_fst (m' := m') hk
  refine ⟨hb, hide_ex, fun q hq => hide_in (by rw [← hmap]; exact List.mem_map_of_mem hq), fun q hq => ?_, by rw [hmap]; exact c.nd, c.sl.mono hb⟩
  obtain ⟨j, hj⟩ := List.getElem?_of_mem hq
  rw [List.getElem?_set] at hj
  by_cases e : k = j
  · subst e
    have hl : k < ms.length := (List.getElem?_eq_some_iff.mp hk).1
    rw [if_pos rfl, if_pos hl] at hj
    cases hj
    exact ⟨o', h, hm _ hb⟩
  · rw [if_neg e] at hj
    obtain ⟨o, h1, h2⟩ := c.ct _ (List.mem_of_getElem? hj)
    have ne : q.1 ≠ p := fun z => e (nodup_fst c.nd hk hj z.symm)
    exact ⟨o, b _ _ h1 fun z => ne (List.mem_singleton.mp z), MC.mono hb hpr h2⟩
/-- the state at the entry of a def that changes an object of the caller's -/
theorem Cu.entryM {vs : List V} {N : List Str} {ss : List Sh} {p : Addr} {m : MC} {o : HO} (h : ShAll (hide [p] H) ss vs) (hp : H p = some o) (hm : m.ok (hide [p] H) H o) : Cu (hide [p] H) [(p, m)] (ss ++ List.replicate (N.length - ss.length) Sh.un) (L2.start N vs) H := by
  have c0 := Cu.entry (N := N) h
  exact ⟨hide_ex, fun q hq => by rw [List.mem_singleton.mp hq]; exact hide_in (List.mem_singleton.mpr rfl), fun q hq => by rw [List.mem_singleton.mp hq]; exact ⟨o, hp, hm⟩, by simp, c0.sl⟩
theorem hide_pr {p : Addr} {o : HO} (hp : H p = some o) (n : isTupO o = false) : Pr H (hide [p] H) := fun a o' t e => by
  have : a ∉ [p] := fun z => by
    rw [List.mem_singleton.mp z, hp] at e
    cases e
    rw [n] at t
    cases t
  rw [hide_out this]
  exact e
theorem exHide_but {p : Addr} (e : Ex (hide [p] H) H') : But [p] H H' := fun a o h z => e a o (hideAt h z)
end
end FF
/-! the walk -/
namespace FF
open PySem PySem.Spec PyProof.Rows L2
open Evl (Ex EvT)
def addOne (K : List Thing) (s : Thing) : List Thing := if s ∈ K then K else K ++ [s]
def asks (nt : Bool) (K : List Thing) (s : Thing) : Bool := !nt || !decide (s ∈ K)
/-- the tries at a place: how many, where to go on, what was asked -/
def goOn (F : Thing → Bool) (nt : Bool) : List (Thing × Nat) → Nat → List Thing → Nat × Option (Nat × Thing) × List Thing
  | [], t, K => (t, none, K)
  | (s, k) :: r, t, K => if F s = true then ((if asks nt K s = true then t + 1 else t), some (k, s), addOne K s) else goOn F nt r (if asks nt K s = true then t + 1 else t) (addOne K s)
def walkP (B : Book) (F : Thing → Bool) (nt on : Bool) : Nat → Nat × Thing → List Thing → Option (List (Thing × Nat))
  | 0, _, _ => none
  | n + 1, pl, K => match (goOn F nt (steps B pl.2 (if on then pl.1 else 0)) 0 K).2.1 with
    | none => some [(pl.2, (goOn F nt (steps B pl.2 (if on then pl.1 else 0)) 0 K).1)]
    | some q => (walkP B F nt on n q (goOn F nt (steps B pl.2 (if on then pl.1 else 0)) 0 K).2.2).map fun r => (pl.2, (goOn F nt (steps B pl.2 (if on then pl.1 else 0)) 0 K).1) :: r
def eNext : Option (Nat × Thing) → PyData
  | none => .none
  | some (k, s) => .tuple [eI k, eT s]
def kn (F : Thing → Bool) (K : List Thing) : List (Str × PyData) := K.map fun s => (tS s, .bool (F s))
theorem addOne_len (K : List Thing) (s : Thing) : (addOne K s).length ≤ K.length + 1 := by
  unfold addOne
  split
  · exact Nat.le_succ _
  · simp
theorem addOne_mem (K : List Thing) (s : Thing) : s ∈ addOne K s := by
  unfold addOne
  split
  · assumption
  · simp
theorem addOne_old {K : List Thing} {s : Thing} (h : s ∈ K) : addOne K s = K := if_pos h
theorem goOn_len {F : Thing → Bool} {nt : Bool} : ∀ {st : List (Thing × Nat)} {t : Nat} {K : List Thing}, (goOn F nt st t K).2.2.length ≤ K.length + st.length
  | [], _, _ => Nat.le_refl _
  | (s, k) :: r, t, K => by
    have h1 := addOne_len K s
    unfold goOn
    split
    · show (addOne K s).length ≤ _
      rw [List.length_cons]
      omega
    · have := goOn_len (F := F) (nt := nt) (st := r) (t := if asks nt K s = true then t + 1 else t) (K := addOne K s)
      rw [List.length_cons]
      omega
theorem goOn_next {F : Thing → Bool} {nt : Bool} : ∀ {st : List (Thing × Nat)} {t : Nat} {K : List Thing} {k : Nat} {s : Thing}, (goOn F nt st t K).2.1 = some (k, s) → (s, k) ∈ st ∧ F s = true
  | [], _, _, _, _, h => by cases h
  | (s, k) :: r, t, K, k', s', h => by
    unfold goOn at h
    split at h
    · rename_i hf
      have h : some (k, s) = some (k', s') := h
      cases h
      exact ⟨List.mem_cons_self .., hf⟩
    · have := goOn_next h
      exact ⟨List.mem_cons_of_mem _ this.1, this.2⟩
theorem lkp_kn (F : Thing → Bool) (K : List Thing) (s : Thing) : (lkp (kn F K) (tS s)).isSome = decide (s ∈ K) := by
  unfold kn
  induction K with
  | nil => rfl
  | cons a K ih =>
    rw [List.map_cons, lkp_cons, ih, tS_dec]
    by_cases e : a = s
    · subst e
      simp
    · have : ¬ s = a := fun z => e z.symm
      simp [e, this]
theorem lkp_kn_get (F : Thing → Bool) {K : List Thing} {s : Thing} (h : s ∈ K) : lkp (kn F K) (tS s) = some (.bool (F s)) := by
  unfold kn lkp
  induction K with
  | nil => cases h
  | cons a K ih =>
    rw [List.map_cons, List.find?_cons]
    by_cases e : a = s
    · subst e
      rw [show decide (((tS a, PyData.bool (F a)) : Str × PyData).1 = tS a) = true from decide_eq_true rfl]
      rfl
    · rw [show decide (((tS a, PyData.bool (F a)) : Str × PyData).1 = tS s) = false from decide_eq_false fun z => e (tS_inj z)]
      exact ih ((List.mem_cons.mp h).resolve_left fun z => e z.symm)
theorem putS_kn (F : Thing → Bool) (K : List Thing) (s : Thing) : putS (kn F K) (tS s) (.bool (F s)) = kn F (addOne K s) := by
  unfold addOne
  split
  · rename_i h
    have ha : ((kn F K).any fun kv => decide (kv.1 = tS s)) = true := List.any_eq_true.mpr ⟨(tS s, .bool (F s)), List.mem_map.mpr ⟨s, h, rfl⟩, decide_eq_true rfl⟩
    unfold putS
    rw [if_pos ha]
    unfold kn
    rw [List.map_map]
    apply List.map_congr_left
    intro a _
    show (if tS a = tS s then (tS a, PyData.bool (F s)) else (tS a, PyData.bool (F a))) = _
    split
    · rename_i e
      rw [tS_inj e]
    · rfl
  · rename_i h
    rw [putS_new (by rw [lkp_kn]; exact decide_eq_false h)]
    unfold kn
    rw [List.map_append]
    rfl
theorem steps_ok {B : Book} (gb : GoodBook B) {x : Thing} (ix : IsThing B.tab x) {first : Nat} (hf : first ≤ B.rules.length) {p : Thing × Nat} (h : p ∈ steps B x first) : IsThing B.tab p.1 ∧ p.2 < B.rules.length ∧ p.1 ≠ x := by
  rcases addRules_mem h with h | ⟨h1, h2, h3⟩
  · cases h
  · have := order_lt hf _ h1
    exact ⟨results_thing gb.tab ix (gb.rul _ (rOf_mem this)) _ h2, this, h3⟩
theorem steps_len {B : Book} (gb : GoodBook B) {x : Thing} (ix : IsThing B.tab x) {first : Nat} (hf : first ≤ B.rules.length) : (steps B x first).length ≤ 80 := by
  have h := addRules_len (f := []) gb ix (order_lt hf)
  rw [order_len hf] at h
  have := gb.len
  simp only [List.length_nil] at h
  show (addRules B x [] (order B.rules.length first)).length ≤ 80
  omega
section
variable {P : Program} {w : World} {K : PySem.W.Frag} {mg : Str → Option Value} {base : Heap}
def eMan' (on : Bool) : Str := if on then "on" else "again"
theorem man_on (on : Bool) : decide ((if on then ("on" : Str) else "again") = "on") = on := by cases on <;> decide +kernel
/-- the promise of gone_on: known is the dict at p -/
def spGo : Sp := fun vs H Q _ => ∃ (B : Book) (cs : List Thing) (k0 : Nat) (x : Thing) (on nt : Bool) (p : Addr) (es : List (Key × V)) (Kn : List Thing),
  ShAll (hide [p] H) [.hd (eBook B), .hd (eTest cs), .hd (.tuple [eI k0, eT x]), .vl (.ref p), .hd (eMan on), .hd (.bool nt)] vs ∧ H p = some (.dK es) ∧ RpKv (hide [p] H) (kn (failsBy B.tab cs) Kn) es ∧
  GoodBook B ∧ GoodCauses B.tab cs ∧ IsThing B.tab x ∧ k0 ≤ B.rules.length ∧ Kn.length ≤ 90000 ∧
  ∀ v H' es', But [p] H H' → H' p = some (.dK es') → RpKv H' (kn (failsBy B.tab cs) (goOn (failsBy B.tab cs) nt (steps B x (if on then k0 else 0)) 0 Kn).2.2) es' →
    Rp H' (.tuple [eI (goOn (failsBy B.tab cs) nt (steps B x (if on then k0 else 0)) 0 Kn).1, eNext (goOn (failsBy B.tab cs) nt (steps B x (if on then k0 else 0)) 0 Kn).2.1]) v → Q v H'
theorem sc_gone_on : FnScope ["book", "test", "place", "known", "manner", "notes", "tries", "k", "step"] ["book", "test", "place", "known", "manner", "notes"] (defScope (top 66)) := ⟨rfl, rfl, rfl, by decide +kernel, rfl, by decide +kernel, by decide +kernel⟩
theorem c_gone_on (T : Txt K mg) : Cal P w K mg base 6 "gone_on" (spGo) [] := by
  refine cal_of (k := 5) T 41 (d := d_gone_on) rfl sc_gone_on rfl rfl (fun _ _ _ _ _ _ us hl => match us, hl with | [_, _, _, _, _, _], _ => rfl) (fun vs H Q E ⟨_, _, _, _, _, _, _, _, _, r, _⟩ => r.length.symm) (fun f cdv A outer s H vs Q E hr h => ?_)
  obtain ⟨B, cs, k0, x, on, nt, p, es, Kn, r, hp, hes, gb, gc, ix, hk0, hKn, q⟩ := h
  have c := Cu.entryM (N := ["book", "test", "place", "known", "manner", "notes", "tries", "k", "step"]) (m := .d (kn (failsBy B.tab cs) Kn)) r hp (RpKv.mono (Ex.pr hide_ex) hes)
  refine ⟨_, (pss_cons (ps_set (i := 6) sc_gone_on.nd rfl (by first | exact Or.inl rfl | exact Or.inr rfl) pe_int)
  (pss_cons (ps_for PassesOwn.never rfl (pi_listK (K := K) rfl (pe_c (c_steps_from T) hr (by decide) rfl (pa_cons (pv 0) (pa_cons (pe_ix (ix_tupK (K := K) rfl) (pv 2) pe_int (fun _ _ => rfl)) (pa_cons (pe_ifExp (pt_cmpR op_eq (pv 4) pe_str (nomark _)) (pe_ix (ix_tupK (K := K) rfl) (pv 2) pe_int (fun _ _ => rfl)) pe_int) pa_nil))))) (pg_two (K := K) (i := 7) (j := 8) rfl rfl sc_gone_on.nd rfl rfl (by first | exact Or.inl rfl | exact Or.inr rfl) (by first | exact Or.inl rfl | exact Or.inr rfl) (by first | exact Or.inl rfl | exact Or.inr rfl) (by first | exact Or.inl rfl | exact Or.inr rfl)) (pss_cons (ps_if (PW.pt (pw_or (pt_not (pt_val (pv 5))) (pw_or1 (pt_cmp (pc_dnotin (hu_of hr) (pv 8) (pv 3)) rfl)))) (pss_cons (ps_dput (hu_of hr) (pv 3) (pv 8) (pe_c (c_does_fail T) hr (by decide) rfl (pa_cons (pv 0) (pa_cons (pv 1) (pa_cons (pv 8) pa_nil)))) rfl)
  (pss_one (ps_aug (i := 6) sc_gone_on.nd rfl (by first | exact Or.inl rfl | exact Or.inr rfl) pe_int ip_add))) pss_nil)
  (pss_one (ps_if (pt_val (pe_dget (hu_of hr) (pv 3) (pv 8) (fun _ _ => rfl))) (pss_one (ps_ret (pe_tup (pa_cons (pv 6) (pa_cons (pe_tup (pa_cons (pv 7) (pa_cons (pv 8) pa_nil))) pa_nil))))) pss_nil))))
  (pss_one (ps_ret (pe_tup (pa_cons (pv 6) (pa_cons pe_non pa_nil))))))), ?_⟩
  have hfirst : (if on then k0 else 0) ≤ B.rules.length := by
    split
    · exact hk0
    · exact Nat.zero_le _
  have hsl := steps_len gb ix hfirst
  have hok := fun p hp => steps_ok (p := p) gb ix hfirst hp
  generalize hst : steps B x (if on then k0 else 0) = st at q hsl hok
  generalize hF : failsBy B.tab cs = F at q c
  have c : Cu (hide [p] H) [(p, .d (kn F Kn))] [.hd (eBook B), .hd (eTest cs), .hd (.tuple [eI k0, eT x]), .vl (.ref p), .hd (eMan on), .hd (.bool nt), .un, .un, .un] (start ["book", "test", "place", "known", "manner", "notes", "tries", "k", "step"] vs) H := c
  refine st_seq ?_
  refine s_set (d := eI 0) c ev_int fun Hb1 σ1 H1 e1 c1 => ?_
  dsimp only
  refine st_seq ?_
  refine s_for c1 (ei_lst (K := K) (ds := st.map fun p => .tuple [eI p.2, eT p.1]) (ex_f c1 (ef_is (ef_call0 (ea_cons (c1.var 0) (ea_cons (ev_ixT (c1.var 2) ev_int rfl) (ea_cons (s := .hd (eI (if on then k0 else 0))) (ev_if (b := on) (et_test (ev_is (ev_eqS (c1.var 4) ev_str) (congrArg PyData.bool (man_on on)))) (fun hb => by rw [hb]; exact ev_ixT (c1.var 2) ev_int rfl) (fun hb => by rw [hb]; exact ev_int)) ea_nil))) ⟨B, x, if on then k0 else 0, rfl, gb, ix, hfirst, rfl⟩) (by rw [hst])))) (js := [7, 8]) (u := u2 7 8) (fun d hd => ?_) (fun i cs' ms => ∃ (t : Nat) (K' : List Thing) (s7 s8 : Sh), cs' = [.hd (eBook B), .hd (eTest cs), .hd (.tuple [eI k0, eT x]), .vl (.ref p), .hd (eMan on), .hd (.bool nt), .hd (eI t), s7, s8] ∧ ms = [(p, .d (kn F K'))] ∧ goOn F nt (st.drop i) t K' = goOn F nt st 0 Kn ∧ K'.length ≤ 90000 + i) ⟨0, Kn, _, _, rfl, rfl, by rw [List.drop_zero], hKn⟩ ?_ ?_
  · obtain ⟨p', _, rfl⟩ := List.mem_map.mp hd
    exact tg_2 ⟨_, _, rfl⟩
  · rintro Hs es2 i d Hb' ms' cs' σ' H' N hd e' c' em ⟨t, K', s7, s8, rfl, rfl, hgo, hKl⟩ hN
    rw [List.getElem?_map] at hd
    obtain ⟨pr, hpr, rfl⟩ := Option.map_eq_some_iff.mp hd
    obtain ⟨s, k⟩ := pr
    have hil : i < st.length := (List.getElem?_eq_some_iff.mp hpr).1
    obtain ⟨is, hk, hsx⟩ := hok _ (List.mem_of_getElem? hpr)
    have c' : Cu Hb' [(p, .d (kn F K'))] [.hd (eBook B), .hd (eTest cs), .hd (.tuple [eI k0, eT x]), .vl (.ref p), .hd (eMan on), .hd (.bool nt), .hd (eI t), .hd (eI k), .hd (eT s)] σ' H' := c'
    have hdr : st.drop i = (s, k) :: st.drop (i + 1) := by
      rw [List.drop_eq_getElem_cons hil]
      congr 1
      rw [List.getElem?_eq_getElem hil] at hpr
      exact Option.some.inj hpr
    rw [hdr] at hgo
    have hgo : (if F s = true then ((if asks nt K' s = true then t + 1 else t), some (k, s), addOne K' s) else goOn F nt (st.drop (i + 1)) (if asks nt K' s = true then t + 1 else t) (addOne K' s)) = goOn F nt st 0 Kn := hgo
    have hal := addOne_len K' s
    have fin : ∀ (D : Ends), D.nx = N → D.rt = Q → ∀ (t' : Nat), t' = (if asks nt K' s = true then t + 1 else t) → ∀ Hb2 σ2 H2, Ex Hs Hb2 → Cu Hb2 [(p, .d (kn F (addOne K' s)))] [.hd (eBook B), .hd (eTest cs), .hd (.tuple [eI k0, eT x]), .vl (.ref p), .hd (eMan on), .hd (.bool nt), .hd (eI t'), .hd (eI k), .hd (eT s)] σ2 H2 →
        tIfS (tTest (tDGet (tVar 3) (tVar 8))) (tRet (tTup (tCons (tVar 6) (tCons (tTup (tCons (tVar 7) (tCons (tVar 8) tNil))) tNil)))) tNext D σ2 H2 := fun D hD1 hD2 t' ht Hb2 σ2 H2 e2 c2 => by
      rw [← ht] at hgo
      refine s_if c2 (et_test (ev_dget (c2.dvar 3 0) (c2.var 8) (lkp_kn_get F (addOne_mem K' s)))) (fun hb H3 e3 c3 => ?_) (fun hb H3 e3 c3 => ?_)
      · rw [if_pos hb] at hgo
        refine s_ret (s := .hd (.tuple [eI t', .tuple [eI k, eT s]])) (ev_tup (ds := [_, _]) (ea_cons (c3.var 6) (ea_cons (ev_tup (ds := [_, _]) (ea_cons (c3.var 7) (ea_cons (c3.var 8) ea_nil)) (by show 2 ≤ 100000; decide)) ea_nil)) (by show 2 ≤ 100000; decide)) fun v H4 e4 rv => ?_
        obtain ⟨es4, g1, g2⟩ := (c3.ext e4).dct (k := 0) rfl
        rw [← hgo] at q
        rw [hD2]
        exact q v H4 es4 (exHide_but (e1.trans (es2.trans (e2.trans (c3.ex.trans e4))))) g1 g2 rv
      · rw [if_neg (by rw [hb]; exact Bool.false_ne_true)] at hgo
        show D.nx σ2 H3
        rw [hD1]
        exact hN Hb2 _ _ _ _ e2 c3 em ⟨t', addOne K' s, _, _, rfl, rfl, hgo, by omega⟩
    have hkl : (kn F K').length ≤ 100000 := by
      unfold kn
      rw [List.length_map]
      omega
    refine st_seq ?_
    refine s_if c' (b := asks nt K' s) (Evl.et_or (Evl.et_not (et_B (c'.var 5))) fun _ => et_test (ev_is (ev_dnotin (c'.var 8) (c'.dvar 3 0)) (by rw [lkp_kn]))) (fun hb H3 e3 c3 => ?_) (fun hb H3 e3 c3 => ?_)
    · refine st_seq ?_
      refine s_dput (d := .bool (F s)) c3 rfl (k := 0) rfl (c3.var 8) (ev_call0 (ea_cons (c3.var 0) (ea_cons (c3.var 1) (ea_cons (c3.var 8) ea_nil))) ⟨B, cs, s, rfl, gb.tab, gc, is, by rw [hF]⟩) hkl fun H4 c4 => ?_
      rw [putS_kn] at c4
      refine s_aug c4 (a := (t : Int)) (b := 1) rfl ev_int fun Hb5 σ5 H5 e5 c5 => ?_
      exact fin _ rfl rfl (t + 1) (by rw [if_pos hb]) Hb5 σ5 H5 (e'.trans e5) c5
    · have hin : s ∈ K' := Decidable.byContradiction fun z => by
        unfold asks at hb
        rw [decide_eq_false z, Bool.not_false, Bool.or_true] at hb
        cases hb
      rw [addOne_old hin] at fin
      exact fin _ rfl rfl t (by rw [if_neg (by rw [hb]; exact Bool.false_ne_true)]) Hb' σ' H3 e' c3
  · rintro Hb' ms' cs' σ' H' e' c' em ⟨t, K', s7, s8, rfl, rfl, hgo, hKl⟩
    rw [List.length_map, List.drop_length] at hgo
    dsimp only
    refine s_ret (s := .hd (.tuple [eI t, .none])) (ev_tup (ds := [_, _]) (ea_cons (c'.var 6) (ea_cons ev_non ea_nil)) (by show 2 ≤ 100000; decide)) fun v H4 e4 rv => ?_
    obtain ⟨es4, g1, g2⟩ := (c'.ext e4).dct (k := 0) rfl
    have hgo : (t, none, K') = goOn F nt st 0 Kn := hgo
    rw [← hgo] at q
    exact q v H4 es4 (exHide_but (e1.trans (e'.trans (c'.ex.trans e4)))) g1 g2 rv
end
end FF
/-! the walk as a whole -/
namespace FF
open PySem PySem.Spec PyProof.Rows L2
open Evl (Ex EvT)
def walkO (B : Book) (F : Thing → Bool) (nt on : Bool) (n : Nat) (o : Option (Nat × Thing)) (K : List Thing) : Option (List (Thing × Nat)) := match o with
  | none => some []
  | some q => walkP B F nt on n q K
theorem walkP_succ (B : Book) (F : Thing → Bool) (nt on : Bool) (n : Nat) (pl : Nat × Thing) (K : List Thing) : walkP B F nt on (n + 1) pl K = (walkO B F nt on n (goOn F nt (steps B pl.2 (if on then pl.1 else 0)) 0 K).2.1 (goOn F nt (steps B pl.2 (if on then pl.1 else 0)) 0 K).2.2).map fun r => (pl.2, (goOn F nt (steps B pl.2 (if on then pl.1 else 0)) 0 K).1) :: r := by
  conv => lhs; unfold walkP
  unfold walkO
  generalize (goOn F nt (steps B pl.2 (if on then pl.1 else 0)) 0 K).2.1 = o
  cases o <;> rfl
def eTry (p : Thing × Nat) : PyData := .tuple [eT p.1, eI p.2]
section
variable {Hb H : Hp} {ms : Ms} {cs : List Sh} {σ : L2.St} {ta : TA} {te : TE} {D : Ends}
theorem s_go (c : Cu Hb ms cs σ H) {k : Nat} {pk : Addr} {B : Book} {cc : List Thing} {k0 : Nat} {x : Thing} {on nt : Bool} {Kn : List Thing} {g : TG} {js : List Nat} {u : List Sh → List Sh} (hk : ms[k]? = some (pk, .d (kn (failsBy B.tab cc) Kn)))
    (args : EvAs ta σ H [.hd (eBook B), .hd (eTest cc), .hd (.tuple [eI k0, eT x]), .vl (.ref pk), .hd (eMan on), .hd (.bool nt)]) (gb : GoodBook B) (gc : GoodCauses B.tab cc) (ix : IsThing B.tab x) (hk0 : k0 ≤ B.rules.length) (hKn : Kn.length ≤ 90000)
    (tg : Tg g js (.tuple [eI (goOn (failsBy B.tab cc) nt (steps B x (if on then k0 else 0)) 0 Kn).1, eNext (goOn (failsBy B.tab cc) nt (steps B x (if on then k0 else 0)) 0 Kn).2.1]) u)
    (cont : ∀ Hb' σ' H', Ex Hb Hb' → Cu Hb' (ms.set k (pk, .d (kn (failsBy B.tab cc) (goOn (failsBy B.tab cc) nt (steps B x (if on then k0 else 0)) 0 Kn).2.2))) (u cs) σ' H' → D.nx σ' H') : tAsg (tCall spGo [] E0 ta) g D σ H :=
  args H (Ex.refl _) _ fun vs H1 e r => by
    have c1 := c.ext e
    obtain ⟨es, h1, h2⟩ := c1.dct hk
    refine ⟨B, cc, k0, x, on, nt, pk, es, Kn, by rw [List.append_nil]; exact r.monoP (hide_pr h1 rfl) rfl, h1, h2.mono (hide_pr h1 rfl), gb, gc, ix, hk0, hKn, fun v H' es' b g1 g2 rv => ?_⟩
    obtain ⟨eb, c2⟩ := c1.jump (m' := .d (kn (failsBy B.tab cc) (goOn (failsBy B.tab cc) nt (steps B x (if on then k0 else 0)) 0 Kn).2.2)) hk b g1 fun _ _ => g2
    have pr := c2.prHide
    rw [set_fst hk] at pr
    exact tg v σ H' _ _ _ _ c2 (rv.mono pr) fun σ' c3 _ => cont _ _ _ eb c3
theorem ef_dnewK : EvF tDNewK σ H (.dc []) := fun H1 e Q q p hp => q p _ hp (Evl.Ex.new hp) ⟨p, [], rfl, upd_same, trivial⟩
end
theorem next_non : ∀ (o : Option (Nat × Thing)) (v : V) (H : Hp), Rp H (eNext o) v → decide (v = .non) = !o.isSome
  | none, v, H, r => decide_eq_true (show v = .non from r)
  | some (k, s), v, H, r => by
    obtain ⟨p, xs, e, _⟩ := r
    subst e
    rfl
section
variable {P : Program} {w : World} {K : PySem.W.Frag} {mg : Str → Option Value} {base : Heap}
def domWalked (ss : List Sh) (d : PyData) : Prop := ∃ (B : Book) (cs : List Thing) (x : Thing) (on nt : Bool) (n : Nat) (rows : List (Thing × Nat)), ss = [.hd (eBook B), .hd (eTest cs), .hd (eT x), .hd (eMan on), .hd (.bool nt)] ∧ GoodBook B ∧ GoodCauses B.tab cs ∧ IsThing B.tab x ∧ failsBy B.tab cs x = true ∧ n ≤ 1000 ∧ walkP B (failsBy B.tab cs) nt on n (0, x) [] = some rows ∧ rows.length ≤ 1000 ∧ d = .tuple (rows.map eTry)
theorem sc_walked : FnScope ["book", "test", "x", "manner", "notes", "rows", "known", "place", "thing", "tries"] ["book", "test", "x", "manner", "notes"] (defScope (top 67)) := ⟨rfl, rfl, rfl, by decide +kernel, rfl, by decide +kernel, by decide +kernel⟩
theorem c_walked (T : Txt K mg) : Cal P w K mg base 7 "walked" (spD domWalked) [] := by
  refine cal_of (k := 6) T 42 (d := d_walked) rfl sc_walked rfl rfl (fun _ _ _ _ _ _ us hl => match us, hl with | [_, _, _, _, _], _ => rfl) (len_D fun _ _ ⟨_, _, _, _, _, _, _, e, _⟩ => by rw [e]; rfl) (fun f cdv A outer s H vs Q E hr h => ?_)
  obtain ⟨ss, d, r, ⟨B, cs, x, on, nt, n, rows, rfl, gb, gc, ix, hfx, hn, hw, hrl, rfl⟩, q⟩ := h
  have c := Cu.entry (N := ["book", "test", "x", "manner", "notes", "rows", "known", "place", "thing", "tries"]) r
  refine ⟨_, (pss_cons (ps_set (i := 5) sc_walked.nd rfl (by first | exact Or.inl rfl | exact Or.inr rfl) (pe_lst pa_nil))
  (pss_cons (ps_set (i := 6) sc_walked.nd rfl (by first | exact Or.inl rfl | exact Or.inr rfl) pe_dnewK)
  (pss_cons (ps_set (i := 7) sc_walked.nd rfl (by first | exact Or.inl rfl | exact Or.inr rfl) (pe_tup (pa_cons pe_int (pa_cons (pv 2) pa_nil))))
  (pss_cons (ps_while PassesOwn.never (pt_cmp (pc_notN (pv 7)) rfl) (pss_cons (ps_set (i := 8) sc_walked.nd rfl (by first | exact Or.inl rfl | exact Or.inr rfl) (pe_ix (ix_tupK (K := K) rfl) (pv 7) pe_int (fun _ _ => rfl)))
  (pss_cons (ps_asg (pe_c (c_gone_on T) hr (by decide) rfl (pa_cons (pv 0) (pa_cons (pv 1) (pa_cons (pv 7) (pa_cons (pv 6) (pa_cons (pv 3) (pa_cons (pv 4) pa_nil))))))) (pg_two (K := K) (i := 9) (j := 7) rfl rfl sc_walked.nd rfl rfl (by first | exact Or.inl rfl | exact Or.inr rfl) (by first | exact Or.inl rfl | exact Or.inr rfl) (by first | exact Or.inl rfl | exact Or.inr rfl) (by first | exact Or.inl rfl | exact Or.inr rfl)))
  (pss_one (ps_expr (pe_bmK (K := K) rfl PySem.F.plainAttrs_list PySem.F.slot_list_append PySem.F.type_list_append mt_append (pv 5) (pa_cons (pe_tup (pa_cons (pv 8) (pa_cons (pv 9) pa_nil))) pa_nil)))))))
  (pss_one (ps_ret (pe_callTy (call_tuple_ofK (K := K) rfl) rfl T.tuple_ (by decide +kernel) (pa_cons (pv 5) pa_nil)))))))), ?_⟩
  refine st_seq ?_
  refine s_setM c (ef_lst (ds := []) ea_nil (by decide)) fun pr Hb1 σ1 H1 e1 hpr c1 => ?_
  dsimp only
  refine st_seq ?_
  refine s_setMd (ds := kn (failsBy B.tab cs) []) c1 ef_dnewK fun pk Hb2 σ2 H2 e2 hpk c2 => ?_
  dsimp only
  refine st_seq ?_
  refine s_set (d := eNext (some (0, x))) c2 (ev_tup (ds := [eI 0, eT x]) (ea_cons ev_int (ea_cons (c2.var 2) ea_nil)) (by show 2 ≤ 100000; decide)) fun Hb3 σ3 H3 e3 c3 => ?_
  dsimp only
  refine st_seq ?_
  refine s_while c3 (fun m cs' ms => ∃ (o : Option (Nat × Thing)) (r0 : List (Thing × Nat)) (Kn : List Thing) (s8 s9 : Sh), cs' = [.hd (eBook B), .hd (eTest cs), .hd (eT x), .hd (eMan on), .hd (.bool nt), .vl (.ref pr), .vl (.ref pk), .hd (eNext o), s8, s9] ∧ ms = [(pr, .l (r0.map eTry)), (pk, .d (kn (failsBy B.tab cs) Kn))] ∧
    (walkO B (failsBy B.tab cs) nt on m o Kn).map (fun r => r0 ++ r) = some rows ∧ (∀ k y, o = some (k, y) → IsThing B.tab y ∧ k ≤ B.rules.length) ∧ Kn.length + 80 * m ≤ 90000) (m0 := n) ⟨some (0, x), [], [], _, _, rfl, rfl, by rw [show walkO B (failsBy B.tab cs) nt on n (some (0, x)) [] = walkP B (failsBy B.tab cs) nt on n (0, x) [] from rfl, hw]; rfl, fun k y e => by cases e; exact ⟨ix, Nat.zero_le _⟩, by simp; omega⟩ ?_
  rintro m Hb' ms' cs' σ' H' e' c' em ⟨o, r0, Kn, s8, s9, rfl, rfl, hgo, hok, hKn⟩
  refine ⟨o.isSome, et_B (ev_notN (c'.var 7) (next_non o)), fun hb H4 N c4 hN => ?_, fun hb H4 c4 => ?_⟩
  · cases o with
    | none => cases hb
    | some pl =>
      obtain ⟨k0, y⟩ := pl
      obtain ⟨iy, hk0⟩ := hok k0 y rfl
      cases m with
      | zero => cases hgo
      | succ m =>
        have hgo : ((walkP B (failsBy B.tab cs) nt on (m + 1) (k0, y) Kn).map fun r => r0 ++ r) = some rows := hgo
        rw [walkP_succ, Option.map_map] at hgo
        have hfirst : (if on then k0 else 0) ≤ B.rules.length := by
          split
          · exact hk0
          · exact Nat.zero_le _
        have hsl := steps_len gb iy hfirst
        have hgl := goOn_len (F := failsBy B.tab cs) (nt := nt) (st := steps B y (if on then k0 else 0)) (t := 0) (K := Kn)
        have hnx := fun k s h => goOn_next (F := failsBy B.tab cs) (nt := nt) (st := steps B y (if on then k0 else 0)) (t := 0) (K := Kn) (k := k) (s := s) h
        have hr0 : r0.length ≤ 1000 := by
          obtain ⟨r, hr, e⟩ := Option.map_eq_some_iff.mp hgo
          have := congrArg List.length e
          simp only [Function.comp, List.length_append] at this
          omega
        refine st_seq ?_
        refine s_set (d := eT y) c4 (ev_ixT (c4.var 7) ev_int rfl) fun Hb5 σ5 H5 e5 c5 => ?_
        dsimp only
        refine st_seq ?_
        refine s_go (k := 1) (x := y) (k0 := k0) c5 rfl (ea_cons (c5.var 0) (ea_cons (c5.var 1) (ea_cons (c5.var 7) (ea_cons (fun H1 e Q q => ⟨.ref pk, c5.slot 6, q _ H1 (Ex.refl _) rfl⟩) (ea_cons (c5.var 3) (ea_cons (c5.var 4) ea_nil)))))) gb gc iy hk0 (by omega) (tg_2 (i := 9) (j := 7) ⟨_, _, rfl⟩) fun Hb6 σ6 H6 e6 c6 => ?_
        generalize goOn (failsBy B.tab cs) nt (steps B y (if on then k0 else 0)) 0 Kn = g at hgo hgl hnx c6
        obtain ⟨t, o', K'⟩ := g
        have c6 : Cu Hb6 [(pr, .l (r0.map eTry)), (pk, .d (kn (failsBy B.tab cs) K'))] [.hd (eBook B), .hd (eTest cs), .hd (eT x), .hd (eMan on), .hd (.bool nt), .vl (.ref pr), .vl (.ref pk), .hd (eNext o'), .hd (eT y), .hd (eI t)] σ6 H6 := c6
        dsimp only
        refine s_app (d := eTry (y, t)) c6 (i := 5) rfl (k := 0) rfl (ev_tup (ds := [_, _]) (ea_cons (c6.var 8) (ea_cons (c6.var 9) ea_nil)) (by show 2 ≤ 100000; decide)) (by rw [List.length_map]; omega) fun H7 c7 => ?_
        refine hN m Hb6 _ _ _ _ (Nat.lt_succ_self m) (e'.trans (e5.trans e6)) c7 em ⟨o', r0 ++ [(y, t)], K', _, _, rfl, ?_, ?_, fun k s e => ?_, ?_⟩
        · rw [List.map_append]
          rfl
        · rw [← hgo]
          congr 1
          funext r
          show (r0 ++ [(y, t)]) ++ r = r0 ++ ((y, t) :: r)
          rw [List.append_assoc]
          rfl
        · have h1 := (hnx k s (by rw [e])).1
          obtain ⟨a1, a2, _⟩ := steps_ok gb iy hfirst h1
          exact ⟨a1, Nat.le_of_lt a2⟩
        · have hgl : K'.length ≤ Kn.length + (steps B y (if on then k0 else 0)).length := hgl
          omega
  · cases o with
    | some pl => cases hb
    | none =>
      have hgo : some (r0 ++ []) = some rows := hgo
      rw [List.append_nil] at hgo
      have hgo := Option.some.inj hgo
      subst hgo
      dsimp only
      refine s_ret (s := .hd (.tuple (r0.map eTry))) (ev_tupL (c4.lvar 5 0)) ?_
      exact fun v H5 e5 rv => q v H5 ((e1.trans (e2.trans (e3.trans (e'.trans c4.ex)))).trans e5) rv
end
end FF
/-! defs with keyword-only parameters -/
namespace FF
open PySem PySem.Spec PyProof.Rows L2
open Evl (Ex EvT)
structure CalX (P : Program) (w : World) (K : PySem.W.Frag) (mg : Str → Option Value) (base : Heap) (k : Nat) (d : He.DefD) (ps : List Str) (sp : Sp) : Prop where
  ex : ∃ (f : Addr) (fd : FuncData), FnOk P w K mg base CX0 k f fd ps sp ∧ mg d.at_.1 = some (.ref f) ∧ FunD K d.name d.qual d.params d.body d.scope (d.dvs K) (d.kws K) f fd
structure CalK (P : Program) (w : World) (K : PySem.W.Frag) (mg : Str → Option Value) (base : Heap) (k : Nat) (x : Str) (sp : Sp) (n : Nat) (ks : List Str) : Prop where
  ex : ∃ (f : Addr) (fd : FuncData) (ps : List Str), FnOk P w K mg base CX0 k f fd ps sp ∧ mg x = some (.ref f) ∧ PySem.W.keepIn K (.ref f) = true ∧ KBn K fd ps n ks (fun us ws => us ++ ws) (fun vs zs => vs ++ zs)
section
variable {P : Program} {w : World} {K : PySem.W.Frag} {mg : Str → Option Value} {base : Heap}
theorem cal_x (T : Txt K mg) (i : Nat) {d : He.DefD} (hd : fn[i]? = some d) {N ps : List Str} {k : Nat} {sp : Sp} (S : FnScope N ps d.scope) (len : ∀ vs H Q E, sp vs H Q E → vs.length = ps.length)
    (body : ∀ (f : Addr) (cdv : Value) (A : Around) (outer : List Env) (s : Shared) (H : Hp) (vs : List V) (Q : VK) (E : XK), Room k (A.deeper (envOfC d.qual d.scope s.heap.objs.size f cdv)) → sp vs H Q E →
      ∃ t, PSs (cxOf CX0 P w K mg base N d.qual d.scope f cdv A outer s H E).nox d.body t ∧ t { nx := fun _ H' => Q .non H', rt := Q } (start N vs) H) : CalX P w K mg base (k + 1) d ps sp := by
  obtain ⟨f, fd, F, hm⟩ := T.d i d hd
  exact ⟨f, fd, F.ok S len fun cdv A outer s H vs Q E hr hsp => let ⟨t, h1, h2⟩ := body f cdv A outer s H vs Q E hr hsp; ⟨t, h1.nox, h2⟩, hm, F⟩
theorem CalX.kw {k : Nat} {d : He.DefD} {ps : List Str} {sp : Sp} (c : CalX P w K mg base k d ps sp) (n : Nat) (ks : List Str) (hdf : d.dvs K = [])
    (b : ∀ (kV doc pm : Value) (an : Option Addr) (cdv ct : Value) (us ws : List Value), us.length = n → ws.length = ks.length → bindArgs (PySem.W.fnOf d.name d.qual d.params d.body d.scope .none kV doc pm an cdv ct) ⟨us, ks.zip ws⟩ = pure (ps.zip (us ++ ws))) : CalK P w K mg base k d.at_.1 sp n ks := by
  obtain ⟨f, fd, F, hm, FD⟩ := c.ex
  refine ⟨f, fd, ps, F, hm, FD.kp, ⟨fun s us ws X l1 l2 => ?_, fun r1 r2 => r1.append r2⟩⟩
  obtain ⟨oc, od, dV, kV, doc, pm, an, cdv, ct, osl, rfl, lk, hcd, hD, hK⟩ := FD.ex
  rcases hD with ⟨_, rfl⟩ | ⟨e, _⟩
  · exact .of_eq (b kV doc pm an cdv ct us ws l1 l2)
  · exact absurd hdf e
theorem CalX.dfl {k : Nat} {d : He.DefD} {ps : List Str} {sp : Sp} (c : CalX P w K mg base k d ps sp) (n : Nat) (hdf : d.dvs K = []) (hk : d.kws K ≠ []) (hn : n + (d.kws K).length = ps.length)
    (h : ∀ (D : Addr) (doc pm : Value) (an : Option Addr) (cdv ct : Value) (us ks : List Value), us.length = n → ks.length = (d.kws K).length →
      KwChain D (((d.kws K).map (·.1)).zip ks) (bindArgs (PySem.W.fnOf d.name d.qual d.params d.body d.scope .none (.ref D) doc pm an cdv ct) ⟨us, []⟩) (ps.zip (us ++ ks))) : Cal P w K mg base k d.at_.1 sp ((d.kws K).map (·.2)) := by
  obtain ⟨f, fd, F, hm, FD⟩ := c.ex
  rw [hdf] at FD
  obtain ⟨ds, r, hb⟩ := FD.binds0 n hk hn h
  exact ⟨f, fd, ps, ds, F, hm, FD.kp, hb, r⟩
end
section
variable {X : Cx} {k j n : Nat} {x : Str} {sp : Sp} {ks : List Str} {p pos : Pos} {e : Expr} {es : List Expr} {t tk : TA} {kws : List Keyword}
theorem pe_ck (c : CalK X.prog X.w X.K X.mg X.base k x sp n ks) (hr : Room j X.A) (hk : k ≤ j) (hg : Gl X x) (ha : PA X (e :: es) t) (hkw : PK X kws tk)
    (hall : (backToKw pos (keywordEach kws X.env)).all (·.1.isSome) = true := by rfl) (hks : (backToKw pos (keywordEach kws X.env)).filterMap (·.1) = ks := by rfl)
    (hdb : (x == ("__debug__" : Str)) = false := by decide) (he : starEach (e :: es) X.env = (false, eval e X.env) :: starEach es X.env := by rfl)
    (hpl : ((backTo pos (starEach (e :: es) X.env)).any (·.1) || (backToKw pos (keywordEach kws X.env)).any (·.1.isNone)) = false := by rfl) :
    PE X (.Call (.Name x p) (e :: es) kws pos) (tCallN n ks.length sp (fun vs zs => vs ++ zs) E0 t tk) := by
  obtain ⟨f, fd, ps, F, hm, hkp, hb⟩ := c.ex
  exact pe_callN F (hr.mono hk) hg hm hkp hb pass0 ha hkw hall hks hdb he hpl
end
theorem ev_callN {σ : L2.St} {H : Hp} {dom : List Sh → PyData → Prop} {n m : Nat} {t tk : TA} {ss zs : List Sh} {d : PyData} (h : EvAs t σ H ss) (hk : EvAs tk σ H zs) (hd : dom (ss ++ zs) d) (h1 : ss.length = n) (h2 : zs.length = m) : EvD (tCallN n m (spD dom) (fun vs zs => vs ++ zs) E0 t tk) σ H d := fun H1 e Q q =>
  h H1 e _ fun vs H2 e2 r => hk H2 (e.trans e2) _ fun us H3 e3 r2 => ⟨by rw [← r.length]; exact h1, by rw [← r2.length]; exact h2, ss ++ zs, d, (ShAll.mono e3 r).append r2, hd, fun v H4 e4 rv => q v H4 ((e2.trans e3).trans e4) rv⟩
end FF
/-! walk_of, last_of, tries_of, most_tries_rising -/
namespace FF
open PySem PySem.Spec PyProof.Rows L2
open Evl (Ex EvT)
def cnt (rows : List (Thing × Nat)) : Int := (rows.map fun p => (p.2 : Int)).sum
section
variable {P : Program} {w : World} {K : PySem.W.Frag} {mg : Str → Option Value} {base : Heap}
theorem sc_walk_of : FnScope ["book", "test", "x", "manner", "notes"] ["book", "test", "x", "manner", "notes"] (defScope (top 68)) := ⟨rfl, rfl, rfl, by decide +kernel, rfl, by decide +kernel, by decide +kernel⟩
theorem x_walk_of (T : Txt K mg) : CalX P w K mg base 8 d_walk_of ["book", "test", "x", "manner", "notes"] (spD domWalked) := by
  refine cal_x (k := 7) T 43 (d := d_walk_of) rfl sc_walk_of (len_D fun _ _ ⟨_, _, _, _, _, _, _, e, _⟩ => by rw [e]; rfl) (fun f cdv A outer s H vs Q E hr h => ?_)
  obtain ⟨ss, d, r, ⟨B, cs, x, on, nt, n, rows, rfl, gb, gc, ix, hfx, hn, hw, hrl, rfl⟩, q⟩ := h
  have c := Cu.entry (N := ["book", "test", "x", "manner", "notes"]) r
  refine ⟨_, (pss_cons (ps_expr (pe_c (c_want_walk T) hr (by decide) rfl (pa_cons (pv 0) (pa_cons (pv 1) (pa_cons (pv 2) (pa_cons (pv 3) (pa_cons (pv 4) pa_nil)))))))
  (pss_one (ps_ret (pe_c (c_walked T) hr (by decide) rfl (pa_cons (pv 0) (pa_cons (pv 1) (pa_cons (pv 2) (pa_cons (pv 3) (pa_cons (pv 4) pa_nil))))))))), ?_⟩
  refine st_seq ?_
  refine s_drop (s := .hd .none) (ev_call0 (ea_cons (c.var 0) (ea_cons (c.var 1) (ea_cons (c.var 2) (ea_cons (c.var 3) (ea_cons (c.var 4) ea_nil))))) ⟨B, cs, x, on, nt, rfl, gb, gc, ix, hfx, rfl⟩) fun H1 e1 => ?_
  have c1 := c.ext e1
  dsimp only
  refine s_ret (s := .hd (.tuple (rows.map eTry))) (ev_call0 (ea_cons (c1.var 0) (ea_cons (c1.var 1) (ea_cons (c1.var 2) (ea_cons (c1.var 3) (ea_cons (c1.var 4) ea_nil))))) ⟨B, cs, x, on, nt, n, rows, rfl, gb, gc, ix, hfx, hn, hw, hrl, rfl⟩) ?_
  exact fun v H2 e2 rv => q v H2 (e1.trans e2) rv
theorem c_walk_of (T : Txt K mg) : CalK P w K mg base 8 "walk_of" (spD domWalked) 3 ["manner", "notes"] := (x_walk_of T).kw 3 ["manner", "notes"] rfl (fun _ _ _ _ _ _ us ws hl hl2 => match us, hl, ws, hl2 with | [_, _, _], _, [_, _], _ => rfl)
structure Walks (B : Book) (cs : List Thing) (x : Thing) (on nt : Bool) (rows : List (Thing × Nat)) : Prop where
  fx : failsBy B.tab cs x = true
  ex : ∃ n, n ≤ 1000 ∧ walkP B (failsBy B.tab cs) nt on n (0, x) [] = some rows
  len : rows.length ≤ 1000
def domLast (ss : List Sh) (d : PyData) : Prop := ∃ (B : Book) (cs : List Thing) (x : Thing) (on nt : Bool) (rows : List (Thing × Nat)) (z : Thing) (t : Nat), ss = [.hd (eBook B), .hd (eTest cs), .hd (eT x), .hd (eMan on), .hd (.bool nt)] ∧ GoodBook B ∧ GoodCauses B.tab cs ∧ IsThing B.tab x ∧ Walks B cs x on nt (rows ++ [(z, t)]) ∧ d = eT z
theorem sc_last_of : FnScope ["book", "test", "x", "manner", "notes"] ["book", "test", "x", "manner", "notes"] (defScope (top 69)) := ⟨rfl, rfl, rfl, by decide +kernel, rfl, by decide +kernel, by decide +kernel⟩
theorem x_last_of (T : Txt K mg) : CalX P w K mg base 9 d_last_of ["book", "test", "x", "manner", "notes"] (spD domLast) := by
  refine cal_x (k := 8) T 44 (d := d_last_of) rfl sc_last_of (len_D fun _ _ ⟨_, _, _, _, _, _, _, _, e, _⟩ => by rw [e]; rfl) (fun f cdv A outer s H vs Q E hr h => ?_)
  obtain ⟨ss, d, r, ⟨B, cs, x, on, nt, rows, z, t, rfl, gb, gc, ix, hw, rfl⟩, q⟩ := h
  have c := Cu.entry (N := ["book", "test", "x", "manner", "notes"]) r
  refine ⟨_, (pss_one (ps_ret (pe_ix (ix_tupK (K := K) rfl) (pe_ix (ix_tupK (K := K) rfl) (pe_ck (c_walk_of T) hr (by decide) rfl (pa_cons (pv 0) (pa_cons (pv 1) (pa_cons (pv 2) pa_nil))) (pk_cons (pv 3) (pk_cons (pv 4) pk_nil))) (pe_un un_neg pe_int) (fun _ _ => rfl)) pe_int (fun _ _ => rfl)))), ?_⟩
  obtain ⟨n, hn, hwn⟩ := hw.ex
  have hl : (((rows ++ [(z, t)]).map eTry) : List PyData) = rows.map eTry ++ [eTry (z, t)] := by rw [List.map_append]; rfl
  refine s_ret (s := .hd (eT z)) (ev_ixT (ds := [eT z, eI t]) (ev_ixT (ds := (rows ++ [(z, t)]).map eTry) (ev_callN (ea_cons (c.var 0) (ea_cons (c.var 1) (ea_cons (c.var 2) ea_nil))) (ea_cons (c.var 3) (ea_cons (c.var 4) ea_nil)) ⟨B, cs, x, on, nt, n, rows ++ [(z, t)], rfl, gb, gc, ix, hw.fx, hn, hwn, hw.len, rfl⟩ rfl rfl) (ev_neg ev_int) (by rw [hl]; exact atI_last _ _)) ev_int rfl) q
theorem c_last_of (T : Txt K mg) : CalK P w K mg base 9 "last_of" (spD domLast) 3 ["manner", "notes"] := (x_last_of T).kw 3 ["manner", "notes"] rfl (fun _ _ _ _ _ _ us ws hl hl2 => match us, hl, ws, hl2 with | [_, _, _], _, [_, _], _ => rfl)
def domTries (ss : List Sh) (d : PyData) : Prop := ∃ (B : Book) (cs : List Thing) (x : Thing) (on nt : Bool) (rows : List (Thing × Nat)), ss = [.hd (eBook B), .hd (eTest cs), .hd (eT x), .hd (eMan on), .hd (.bool nt)] ∧ GoodBook B ∧ GoodCauses B.tab cs ∧ IsThing B.tab x ∧ Walks B cs x on nt rows ∧ d = .int (cnt rows)
theorem sc_tries_of : FnScope ["book", "test", "x", "manner", "notes", "thing", "tries"] ["book", "test", "x", "manner", "notes"] (defScope (top 70)) := ⟨rfl, rfl, rfl, by decide +kernel, rfl, by decide +kernel, by decide +kernel⟩
theorem x_tries_of (T : Txt K mg) : CalX P w K mg base 9 d_tries_of ["book", "test", "x", "manner", "notes"] (spD domTries) := by
  refine cal_x (k := 8) T 45 (d := d_tries_of) rfl sc_tries_of (len_D fun _ _ ⟨_, _, _, _, _, _, e, _⟩ => by rw [e]; rfl) (fun f cdv A outer s H vs Q E hr h => ?_)
  obtain ⟨ss, d, r, ⟨B, cs, x, on, nt, rows, rfl, gb, gc, ix, hw, rfl⟩, q⟩ := h
  have c := Cu.entry (N := ["book", "test", "x", "manner", "notes", "thing", "tries"]) r
  refine ⟨_, (pss_one (ps_ret (pe_callB (cr_sumK (K := K) rfl rfl) rfl T.sum_ (by decide +kernel) (pa_cons (pe_lc (own := [("thing", 5), ("tries", 6)]) rfl sc_tries_of.nd (pi_tupK (K := K) rfl (pe_ck (c_walk_of T) hr (by decide) rfl (pa_cons (pv 0) (pa_cons (pv 1) (pa_cons (pv 2) pa_nil))) (pk_cons (pv 3) (pk_cons (pv 4) pk_nil)))) (blkOk_by (N := ["book", "test", "x", "manner", "notes", "thing", "tries"]) (sc := defScope (top 70)) (by decide +kernel)) (by intros; exact (pg_two (K := K) (i := 5) (j := 6) rfl rfl sc_tries_of.nd rfl rfl (by first | exact Or.inl rfl | exact Or.inr rfl) (by first | exact Or.inl rfl | exact Or.inr rfl) (by first | exact Or.inl rfl | exact Or.inr rfl) (by first | exact Or.inl rfl | exact Or.inr rfl))) (by intros; exact pts_nil) (by intros; exact (pv 6))) pa_nil)))), ?_⟩
  obtain ⟨n, hn, hwn⟩ := hw.ex
  have hl := hw.len
  refine s_ret (s := .hd (.int (cnt rows))) (ev_sum (ns := rows.map fun p => (p.2 : Int)) (es_is (ef_map c (ei_tup (ds := rows.map eTry) (ev_callN (ea_cons (c.var 0) (ea_cons (c.var 1) (ea_cons (c.var 2) ea_nil))) (ea_cons (c.var 3) (ea_cons (c.var 4) ea_nil)) ⟨B, cs, x, on, nt, n, rows, rfl, gb, gc, ix, hw.fx, hn, hwn, hw.len, rfl⟩ rfl rfl) (nofun)) (js := [5, 6]) (u := u2 5 6) (fun d hd => ?_) (by decide) sndD (fun d hd σ' H' c' => ?_) ?_).s ?_)) q
  · obtain ⟨p, _, rfl⟩ := List.mem_map.mp hd
    exact tg_2 ⟨_, _, rfl⟩
  · obtain ⟨p, _, rfl⟩ := List.mem_map.mp hd
    exact c'.var 6
  · rw [List.length_map]
    omega
  · rw [List.map_map, List.map_map]
    rfl
theorem c_tries_of (T : Txt K mg) : CalK P w K mg base 9 "tries_of" (spD domTries) 3 ["manner", "notes"] := (x_tries_of T).kw 3 ["manner", "notes"] rfl (fun _ _ _ _ _ _ us ws hl hl2 => match us, hl, ws, hl2 with | [_, _, _], _, [_, _], _ => rfl)
theorem good_one {L : Tab} {z : Thing} (h : IsThing L z) : GoodCauses L [z] := ⟨List.cons_ne_nil _ _, fun t ht => by rw [List.mem_singleton.mp ht]; exact h, List.pairwise_singleton _ _, by show 1 ≤ 100; decide⟩
def domMost (ss : List Sh) (d : PyData) : Prop := ∃ (B : Book) (x : Thing) (on nt : Bool) (n : Nat) (r : List Thing) (W : Thing → List (Thing × Nat)), ss = [.hd (eBook B), .hd (eT x), .hd (eMan on), .hd (.bool nt)] ∧ GoodBook B ∧ IsThing B.tab x ∧ growLoop (nb B.tab) n [x] [x] = some r ∧ r.length < 64 ∧ n ≤ 1000 ∧
  (∀ z ∈ r, IsThing B.tab z ∧ Walks B [z] x on nt (W z)) ∧ d = .int (maxOf ((srt r).map fun z => cnt (W z)))
theorem sc_most_tries_rising : FnScope ["book", "x", "manner", "notes", "tests", "z", "test"] ["book", "x", "manner", "notes"] (defScope (top 72)) := ⟨rfl, rfl, rfl, by decide +kernel, rfl, by decide +kernel, by decide +kernel⟩
theorem x_most_tries_rising (T : Txt K mg) : CalX P w K mg base 10 d_most_tries_rising ["book", "x", "manner", "notes"] (spD domMost) := by
  refine cal_x (k := 9) T 46 (d := d_most_tries_rising) rfl sc_most_tries_rising (len_D fun _ _ ⟨_, _, _, _, _, _, _, e, _⟩ => by rw [e]; rfl) (fun f cdv A outer s H vs Q E hr h => ?_)
  obtain ⟨ss, d, r0, ⟨B, x, on, nt, n, r, W, rfl, gb, ix, hg, hrl, hn, hw, rfl⟩, q⟩ := h
  have c := Cu.entry (N := ["book", "x", "manner", "notes", "tests", "z", "test"]) r0
  refine ⟨_, (pss_cons (ps_expr (pe_c (c_want_thing_stepusable T) hr (by decide) rfl (pa_cons (pv 0) (pa_cons pe_str (pa_cons (pv 1) pa_nil)))))
  (pss_cons (ps_expr (pe_c (c_want_manner T) hr (by decide) rfl (pa_cons (pv 2) pa_nil)))
  (pss_cons (ps_expr (pe_c (c_want_notes T) hr (by decide) rfl (pa_cons (pv 3) pa_nil)))
  (pss_cons (ps_expr (pe_c (c_want_falling T) hr (by decide) rfl (pa_cons (pv 0) pa_nil)))
  (pss_cons (ps_setLc (i := 4) (own := [("z", 5)]) rfl sc_most_tries_rising.nd rfl rfl (sw_true rfl rfl rfl (by decide +kernel)) (pi_tupK (K := K) rfl (pe_c (c_things_at_most T) hr (by decide) rfl (pa_cons (pv 0) (pa_cons (pv 1) pa_nil)))) (blkOk_by (N := ["book", "x", "manner", "notes", "tests", "z", "test"]) (sc := defScope (top 72)) (by decide +kernel)) (by intros; exact (pg_name (i := 5) sc_most_tries_rising.nd rfl (by first | exact Or.inl rfl | exact Or.inr rfl))) (by intros; exact pts_nil) (by intros; exact (pe_tup (pa_cons pe_str (pa_cons (pe_tup (pa_cons (pv 5) pa_nil)) pa_nil)))))
  (pss_one (ps_ret (pe_callB (cr_maxK (K := K) rfl rfl) rfl T.max_ (by decide +kernel) (pa_cons (pe_lc (own := [("test", 6)]) rfl sc_most_tries_rising.nd (pi_listK (K := K) rfl (pv 4)) (blkOk_by (N := ["book", "x", "manner", "notes", "tests", "z", "test"]) (sc := defScope (top 72)) (by decide +kernel)) (by intros; exact (pg_name (i := 6) sc_most_tries_rising.nd rfl (by first | exact Or.inl rfl | exact Or.inr rfl))) (by intros; exact pts_nil) (by intros; exact (pe_callTy call_int1 rfl T.int_ (by decide +kernel) (pa_cons (pe_ck (c_tries_of T) hr (by decide) rfl (pa_cons (pv 0) (pa_cons (pv 6) (pa_cons (pv 1) pa_nil))) (pk_cons (pv 2) (pk_cons (pv 3) pk_nil))) pa_nil)))) pa_nil))))))))), ?_⟩
  have hx : 0 < r.length := by
    have := (growLoop_len hg).1
    exact this
  have hsl : (srt r).length = r.length := (srt_perm r).length_eq
  have hmem : ∀ z ∈ srt r, IsThing B.tab z ∧ Walks B [z] x on nt (W z) := fun z hz => hw z ((srt_perm r).subset hz)
  refine st_seq ?_
  refine s_drop (s := .hd .none) (ev_call0 (ea_cons (c.var 0) (ea_cons ev_str (ea_cons (c.var 1) ea_nil))) ⟨B, x, _, rfl, gb.tab, ix, rfl⟩) fun H1 e1 => ?_
  have c1 := c.ext e1
  dsimp only
  refine st_seq ?_
  refine s_drop (s := .hd .none) (ev_call0 (ea_cons (c1.var 2) ea_nil) ⟨on, rfl, rfl⟩) fun H2 e2 => ?_
  have c2 := c1.ext e2
  dsimp only
  refine st_seq ?_
  refine s_drop (s := .hd .none) (ev_call0 (ea_cons (c2.var 3) ea_nil) ⟨nt, rfl, rfl⟩) fun H3 e3 => ?_
  have c3 := c2.ext e3
  dsimp only
  refine st_seq ?_
  refine s_drop (s := .hd .none) (ev_call0 (ea_cons (c3.var 0) ea_nil) ⟨B, rfl, gb, rfl⟩) fun H4 e4 => ?_
  have c4 := c3.ext e4
  dsimp only
  refine st_seq ?_
  refine s_setF (ds := (srt r).map fun z => eTest [z]) c4 (ef_is (ef_map c4 (ei_tup (ds := (srt r).map eT) (ev_call0 (ea_cons (c4.var 0) (ea_cons (c4.var 1) ea_nil)) ⟨B, x, n, r, rfl, gb.tab, ix, hg, hrl, hn, rfl⟩) (nofun)) (fun d _ => tg_name) (by decide) (fun d => .tuple [.str "causes", .tuple [d]]) (fun d hd σ' H' c' => ev_tup (ds := [_, _]) (ea_cons ev_str (ea_cons (ev_tup (ds := [_]) (ea_cons (c'.var 5) ea_nil) (by show 1 ≤ 100000; decide)) ea_nil)) (by show 2 ≤ 100000; decide)) (by rw [List.length_map]; omega)) (by rw [List.map_map]; rfl)) fun Hb5 σ5 H5 e5 c5 => ?_
  dsimp only
  refine s_ret (s := .hd (.int (maxOf ((srt r).map fun z => cnt (W z))))) (ev_max (ns := (srt r).map fun z => cnt (W z)) (es_is (ef_map c5 (ei_lst (ex_0 (c5.var 4))) (fun d _ => tg_name) (by decide) (fun d => .int (cnt (W (match d with | .tuple [_, .tuple [.str z]] => z.cps.toList | _ => [])))) (fun d hd σ' H' c' => ?_) ?_).s ?_) ?_) ?_
  · obtain ⟨z, hz, rfl⟩ := List.mem_map.mp hd
    obtain ⟨iz, wz⟩ := hmem z hz
    exact ev_intI (ev_callN (d := .int (cnt (W z))) (ea_cons (c'.var 0) (ea_cons (c'.var 6) (ea_cons (c'.var 1) ea_nil))) (ea_cons (c'.var 2) (ea_cons (c'.var 3) ea_nil)) ⟨B, [z], x, on, nt, W z, rfl, gb, good_one iz, ix, wz, rfl⟩ rfl rfl)
  · rw [List.length_map]
    omega
  · rw [List.map_map, List.map_map]
    rfl
  · rw [List.length_map]
    omega
  · exact fun v H6 e6 rv => q v H6 ((e5.trans c5.ex).trans e6) rv
theorem c_most_tries_rising (T : Txt K mg) : CalK P w K mg base 10 "most_tries_rising" (spD domMost) 2 ["manner", "notes"] := (x_most_tries_rising T).kw 2 ["manner", "notes"] rfl (fun _ _ _ _ _ _ us ws hl hl2 => match us, hl, ws, hl2 with | [_, _], _, [_, _], _ => rfl)
theorem c0_most_tries_rising (T : Txt K mg) : Cal P w K mg base 10 "most_tries_rising" (spD domMost) [.str "again", .bl false] := (x_most_tries_rising T).dfl 2 rfl (List.cons_ne_nil _ _) rfl (fun D doc pm an cdv ct us ks hl hl2 => match us, hl, ks, hl2 with | [_, _], _, [_, _], _ => ⟨_, _, _, _, _, _, rfl, rfl, _, _, _, _, _, _, rfl, rfl, rfl⟩)
end
end FF
/-! values on their way to names; more readings for the law -/
namespace FF
open PySem PySem.Spec PyProof.Rows L2
open Evl (Ex EvT)
section
variable {Hb H : Hp} {ms : Ms} {cs : List Sh} {σ : L2.St} {te ta tb : TE} {K : PySem.W.Frag} {D : Ends}
/-! ### a value, not yet in a slot -/
theorem v_hd (c : Cu Hb ms cs σ H) {d : PyData} {Q : VK} (h : EvD te σ H d) (k : ∀ v Hb' H', Ex Hb Hb' → Cu Hb' ms cs σ H' → Rp Hb' d v → Q v H') : te σ H Q :=
  h H (Ex.refl _) _ fun v H1 e r => k v _ H1 (c.exHide e) (c.rebase e) (r.mono (c.ext e).prHide)
theorem v_ls (c : Cu Hb ms cs σ H) {ds : List PyData} {Q : VK} (h : EvF te σ H (.ls ds)) (k : ∀ p Hb' H', Ex Hb Hb' → Cu Hb' ms cs σ H' → LsAt Hb' p ds → Q (.ref p) H') : te σ H Q :=
  h H (Ex.refl _) _ fun p H1 hp e r => by
    obtain ⟨p', e1, e2⟩ := r
    have e1 := V.ref.inj e1
    subst e1
    exact k p _ H1 (c.exHide e) (c.rebase e) (LsAt.hide (c.ext e) e2 (c.out hp))
theorem v_dc (c : Cu Hb ms cs σ H) {kvs : List (Str × PyData)} {Q : VK} (h : EvF te σ H (.dc kvs)) (k : ∀ p Hb' H', Ex Hb Hb' → Cu Hb' ms cs σ H' → (Sh.dc kvs).ok Hb' (.ref p) → Q (.ref p) H') : te σ H Q :=
  h H (Ex.refl _) _ fun p H1 hp e r => by
    obtain ⟨p', es, e1, e2, e3⟩ := r
    have e1 := V.ref.inj e1
    subst e1
    exact k p _ H1 (c.exHide e) (c.rebase e) ⟨p, es, rfl, hideAt e2 (c.out hp), e3.mono (c.ext e).prHide⟩
theorem v_new (c : Cu Hb ms cs σ H) {ds : List PyData} {Q : VK} (h : EvF te σ H (.ls ds)) (k : ∀ p Hb' H', Ex Hb Hb' → Hb p = none → Cu Hb' (ms ++ [(p, .l ds)]) cs σ H' → Q (.ref p) H') : te σ H Q :=
  h H (Ex.refl _) _ fun p H1 hp e r => by
    obtain ⟨p', e1, xs, e2, e3⟩ := r
    have e1 := V.ref.inj e1
    subst e1
    exact k p _ H1 (c.freshEx e (m := .l ds) hp) (Evl.fresh_back c.ex hp) (c.fresh e (m := .l ds) hp e2 (fun _ _ => e3))
theorem la_hd {tr : TA} (c : Cu Hb ms cs σ H) {d : PyData} {Q : List V → Hp → Prop} (h : EvD te σ H d) (k : ∀ v Hb' H', Ex Hb Hb' → Cu Hb' ms cs σ H' → Rp Hb' d v → tr σ H' fun vs H2 => Q (v :: vs) H2) : tCons te tr σ H Q := v_hd c h k
theorem la_ls {tr : TA} (c : Cu Hb ms cs σ H) {ds : List PyData} {Q : List V → Hp → Prop} (h : EvF te σ H (.ls ds)) (k : ∀ p Hb' H', Ex Hb Hb' → Cu Hb' ms cs σ H' → LsAt Hb' p ds → tr σ H' fun vs H2 => Q (.ref p :: vs) H2) : tCons te tr σ H Q := v_ls c h k
theorem la_dc {tr : TA} (c : Cu Hb ms cs σ H) {kvs : List (Str × PyData)} {Q : List V → Hp → Prop} (h : EvF te σ H (.dc kvs)) (k : ∀ p Hb' H', Ex Hb Hb' → Cu Hb' ms cs σ H' → (Sh.dc kvs).ok Hb' (.ref p) → tr σ H' fun vs H2 => Q (.ref p :: vs) H2) : tCons te tr σ H Q := v_dc c h k
theorem la_new {tr : TA} (c : Cu Hb ms cs σ H) {ds : List PyData} {Q : List V → Hp → Prop} (h : EvF te σ H (.ls ds)) (k : ∀ p Hb' H', Ex Hb Hb' → Hb p = none → Cu Hb' (ms ++ [(p, .l ds)]) cs σ H' → tr σ H' fun vs H2 => Q (.ref p :: vs) H2) : tCons te tr σ H Q := v_new c h k
theorem la_nil {Q : List V → Hp → Prop} (h : Q [] H) : tNil σ H Q := h
theorem s_par {i j : Nat} {ta : TA} (h : ta σ H fun vs H1 => ∃ v w, vs = [v, w] ∧ D.nx ((σ.set i (some v)).set j (some w)) H1) : tPar i j ta D σ H := h
theorem s_par3 {i j l : Nat} {ta : TA} (h : ta σ H fun vs H1 => ∃ u v w, vs = [u, v, w] ∧ D.nx (((σ.set i (some u)).set j (some v)).set l (some w)) H1) : tPar3 i j l ta D σ H := h
/-- an if whose branches meet again -/
theorem s_ifJ {t : TT} {tu tw : TS} {cs' : List Sh} (c : Cu Hb ms cs σ H) {b : Bool} (h : EvT t σ H b)
    (h1 : b = true → ∀ H' N, Cu Hb ms cs σ H' → (∀ Hb' σ' H', Ex Hb Hb' → Cu Hb' ms cs' σ' H' → N σ' H') → tu { D with nx := N } σ H')
    (h2 : b = false → ∀ H' N, Cu Hb ms cs σ H' → (∀ Hb' σ' H', Ex Hb Hb' → Cu Hb' ms cs' σ' H' → N σ' H') → tw { D with nx := N } σ H')
    (k : ∀ Hb' σ' H', Ex Hb Hb' → Cu Hb' ms cs' σ' H' → D.nx σ' H') : tIfS t tu tw D σ H :=
  s_if c h (fun hb H' _ c' => h1 hb H' D.nx c' k) (fun hb H' _ c' => h2 hb H' D.nx c' k)
/-- found += l, l none of those that change -/
theorem s_augL (c : Cu Hb ms cs σ H) {i k : Nat} {p : Addr} {ds es : List PyData} (hi : cs[i]? = some (.vl (.ref p))) (hk : ms[k]? = some (p, .l ds)) (hin : i < cs.length) (h : EvS te σ H (.ls es)) (hz : ds.length + es.length ≤ 100000)
    (q : ∀ σ' H', Cu Hb (ms.set k (p, .l (ds ++ es))) cs σ' H' → D.nx σ' H') : tAug i te rExt2 D σ H := by
  refine ⟨.ref p, c.slot i hi, h H (Ex.refl _) _ fun v H1 e r => ?_⟩
  obtain ⟨p2, rfl, ys, h3, h4⟩ := r
  have c1 := c.ext e
  obtain ⟨xs, h1, h2⟩ := c1.lst hk
  refine ⟨p, p2, xs, ys, rfl, rfl, h1, h3, by rw [← h2.length, ← h4.length]; exact Nat.le_trans hz (by decide), ?_⟩
  have c2 := c1.upd hk (m' := .l (ds ++ es)) (o := .lst (xs ++ ys)) (RpAll.mono (c1.updPr hk) (RpAll.append h2 h4))
  have c3 := c2.put (i := i) (s := .vl (.ref p)) (v := .ref p) rfl
  have e1 : cs.set i (.vl (.ref p)) = cs := by
    apply List.ext_getElem?
    intro j
    rw [List.getElem?_set]
    by_cases z : i = j
    · subst z
      rw [if_pos rfl, if_pos hin, hi]
    · rw [if_neg z]
  rw [e1] at c3
  exact q _ _ c3
theorem ef_revL {ds : List PyData} (ha : EvS te σ H (.ls ds)) : EvF (tRevL K te) σ H (.ls ds.reverse) := fun H1 e Q q =>
  ha H1 e _ fun v H2 e2 r => by
    obtain ⟨p, rfl, xs, h1, h2⟩ := r
    exact ⟨p, xs, rfl, SqL.of h1, fun l hl => q l _ (Evl.fresh_back e2 hl) (e2.trans (Evl.Ex.new hl)) ⟨l, rfl, _, upd_same, (h2.reverse).mono (Ex.pr (Evl.Ex.new hl))⟩⟩
/-- dict of a list of pairs -/
theorem ef_dictP {rows : List (Str × PyData)} (ha : EvS te σ H (.ls (rows.map eRow))) (nd : (rows.map (·.1)).Nodup) :
    EvF (tCB (fun xs H Q => ∃ (a : Addr) (ps : List Addr) (kvs : List (Key × V)), xs = [.ref a] ∧ SqL K H a (ps.map V.ref) ∧ Paired (fun p kv => SqT K H p [kV kv.1, kv.2]) ps kvs ∧ ∀ p, H p = none → Q (.ref p) (L2.upd H p (.dK (mergeK [] kvs)))) (tCons te tNil)) σ H (.dc rows) :=
  ef_cb (ea_cons ha ea_nil) fun vs H1 _ r Q q => by
    obtain ⟨v, rfl, p, rfl, xs, e2, e4⟩ := sh1 r
    obtain ⟨ps, kvs, rfl, h1, h2⟩ := rows_at (K := K) e4
    have nk : (kvs.map (·.1)).Nodup := by
      rw [h2.keys]
      have := inr_nodup nd
      rw [List.map_map] at this
      exact this
    refine ⟨p, ps, kvs, rfl, SqL.of e2, h1, fun l hl => ?_⟩
    rw [mergeK_fresh nk (fun k hk => by cases hk), List.nil_append]
    exact q l _ hl (Evl.Ex.new hl) ⟨l, kvs, rfl, upd_same, h2.mono (Ex.pr (Evl.Ex.new hl))⟩
theorem dp_strs {H : Hp} : ∀ {l : List Str} {xs : List V}, RpAll H (l.map PyData.str) xs → DpAll K H xs (l.map PyData.str)
  | [], [], _ => .nil
  | a :: l, x :: xs, h => by
    have e : x = .str a := h.1
    subst e
    exact .cons (.str a) (dp_strs h.2)
  | [], _ :: _, h => h.elim
  | _ :: _, [], h => h.elim
theorem lay_strs : ∀ l : List Str, (∀ a ∈ l, PyData.strOk a = true) → PyData.canLayAll0 (l.map PyData.str) = true
  | [], _ => rfl
  | a :: l, h => by
    rw [List.map_cons]
    simp only [PyData.canLayAll0, PyData.canLay0, lay_strs l (fun b hb => h b (List.mem_cons_of_mem _ hb)), h a (List.mem_cons_self ..), Bool.and_self]
theorem depth_strs : ∀ l : List Str, PyData.depthAll (l.map PyData.str) ≤ 1
  | [] => by simp [PyData.depthAll]
  | a :: l => by
    rw [List.map_cons]
    have := depth_strs l
    simp only [PyData.depthAll, PyData.depth]
    omega
theorem shaped_strs (l : List Str) (h : ∀ a ∈ l, PyData.strOk a = true) : SeqAt.shaped (.list (l.map PyData.str)) = true := by
  unfold SeqAt.shaped
  have h1 := lay_strs l h
  have h2 := depth_strs l
  rw [Bool.and_eq_true]
  refine ⟨by simpa [PyData.canLay0] using h1, decide_eq_true ?_⟩
  simp only [PyData.depth]
  omega
theorem ev_neL0 {l : List Str} (hok : ∀ a ∈ l, PyData.strOk a = true) (ha : EvS ta σ H (.ls (l.map PyData.str))) (hb : EvS tb σ H (.ls [])) : EvD (tOp (rNeD K) ta tb) σ H (.bool (!l.isEmpty)) :=
  ev_op ha hb fun x y H1 _ rx ry Q q => by
    obtain ⟨p, rfl, xs, h1, h2⟩ := rx
    obtain ⟨p2, rfl, ys, h3, h4⟩ := ry
    have e : PyData.eqv (.list (l.map PyData.str)) (.list []) = l.isEmpty := by
      cases l <;> simp [PyData.eqv, PyData.eqvAll]
    cases ys with
    | cons a b => exact h4.elim
    | nil => exact ⟨.list (l.map PyData.str), .list [], .lst (SqL.of h1) (dp_strs h2), .lst (SqL.of h3) .nil, shaped_strs l hok, rfl, by rw [e]; exact q _ H1 (Ex.refl _) rfl⟩
end
theorem ip_addL {X : Cx} : PIp X .Add rExt2 := iop_ext
end FF
/-! the law's own results and steps -/
namespace FF
open PySem PySem.Spec PyProof.Rows L2
open Evl (Ex EvT)
def leftOf : Rule → Bool
  | .drop _ l => l
  | .half l => l
  | .empty => true
  | .lower l => l
  | .put _ _ l => l
/-- what the law adds at a place -/
def stepAt (L : Tab) (r : Rule) (x : Thing) (k : Nat) : List Thing := match r with
  | .drop n _ => if k + n ≤ x.length then [x.take k ++ x.drop (k + n)] else []
  | .lower _ => (look L (sgn x k)).map fun d => x.take k ++ [d] ++ x.drop (k + 1)
  | .put c w _ => if sgn x k = c then [x.take k ++ w ++ x.drop (k + 1)] else []
  | _ => []
theorem flatMap_if {α β : Type} (p : α → Prop) [DecidablePred p] (f : α → β) : ∀ l : List α, (l.flatMap fun a => if p a then [f a] else []) = (l.filter fun a => decide (p a)).map f
  | [] => rfl
  | a :: l => by
    rw [List.flatMap_cons, List.filter_cons, flatMap_if p f l]
    by_cases h : p a
    · rw [if_pos h, decide_eq_true h]
      rfl
    · rw [if_neg h, decide_eq_false h]
      rfl
theorem range_filter (m n : Nat) (h1 : 1 ≤ n) : (List.range m).filter (fun k => decide (k + n ≤ m)) = List.range (m + 1 - n) := by
  rcases Nat.lt_or_ge m n with h | h
  · rw [show m + 1 - n = 0 by omega, List.range_zero, List.filter_eq_nil_iff]
    intro k _
    simp
    omega
  · have e : List.range m = List.range (m + 1 - n) ++ (List.range (m - (m + 1 - n))).map ((m + 1 - n) + ·) := by
      rw [← List.range_add]
      congr 1
      omega
    rw [e, List.filter_append, List.filter_eq_self.mpr, List.filter_eq_nil_iff.mpr, List.append_nil]
    · intro k hk
      obtain ⟨j, hj, rfl⟩ := List.mem_map.mp hk
      have := List.mem_range.mp hj
      have : ¬ (m + 1 - n + j + n ≤ m) := by omega
      simpa using this
    · intro k hk
      have := List.mem_range.mp hk
      exact decide_eq_true (by omega)
theorem places_filter (m n : Nat) (l : Bool) (h1 : 1 ≤ n) : (places m l).filter (fun k => decide (k + n ≤ m)) = places (m + 1 - n) l := by
  unfold places
  split
  · exact range_filter m n h1
  · rw [List.filter_reverse, range_filter m n h1]
theorem results_at (L : Tab) (x : Thing) (r : Rule) (ok : RuleOk L r) (h : ∀ l, r ≠ .half l) (h2 : r ≠ .empty) : (places x.length (leftOf r)).flatMap (stepAt L r x) = results L x r := by
  cases r with
  | drop n l =>
    show (places x.length l).flatMap (fun k => if k + n ≤ x.length then [x.take k ++ x.drop (k + n)] else []) = dropR n l x
    rw [flatMap_if (fun k => k + n ≤ x.length), places_filter _ _ _ ok.1]
    rfl
  | half l => exact absurd rfl (h l)
  | empty => exact absurd rfl h2
  | lower l => rfl
  | put c w l => exact flatMap_if (fun k => sgn x k = c) (fun k => x.take k ++ w ++ x.drop (k + 1)) _
section
variable {H : Hp} {σ : L2.St} {te : TE} {K : PySem.W.Frag}
theorem et_right {r : Rule} (h : EvD te σ H (eRule r)) : EvT (tTest (tOp rEq (tOp (rIxT K) te (tUn (rU fun i => .int (-i)) (tC (.int 1)))) (tC (.str "right")))) σ H (!leftOf r) := by
  have side : ∀ l : Bool, decide ((if l then ("left" : Str) else "right") = "right") = !l := fun l => by cases l <;> decide +kernel
  cases r with
  | empty => exact et_test (ev_is (ev_eqS (a := "empty") (ev_ixT h (ev_neg ev_int) rfl) ev_str) (congrArg PyData.bool (by decide +kernel)))
  | _ => exact et_test (ev_is (ev_eqS (ev_ixT h (ev_neg ev_int) rfl) ev_str) (congrArg PyData.bool (side _)))
theorem ef_tabP {L : Tab} (g : GoodTab L) (h : EvD te σ H (eTab L)) : EvF (tCB (fun xs H Q => ∃ (a : Addr) (ps : List Addr) (kvs : List (Key × V)), xs = [.ref a] ∧ SqL K H a (ps.map V.ref) ∧ Paired (fun p kv => SqT K H p [kV kv.1, kv.2]) ps kvs ∧ ∀ p, H p = none → Q (.ref p) (L2.upd H p (.dK (mergeK [] kvs))))
    (tCons (tCB (fun xs H Q => ∃ p ys, xs = [.ref p] ∧ (SqL K H p ys ∨ SqT K H p ys) ∧ ∀ l, H l = none → Q (.ref l) (upd H l (.lst ys))) (tCons te tNil)) tNil)) σ H (dTab L) := by
  rw [tab_rows] at h
  exact ef_dictP (ef_listT (ev_pt h)).s (tab_nd g)
end
section
variable {P : Program} {w : World} {K : PySem.W.Frag} {mg : Str → Option Value} {base : Heap}
def domLRes (ss : List Sh) (s : Sh) : Prop := ∃ (L : Tab) (r : Rule) (x : Thing), ss = [.hd (eTab L), .hd (eRule r), .hd (eT x)] ∧ GoodTab L ∧ RuleOk L r ∧ IsThing L x ∧ s = .ls ((results L x r).map eT)
theorem sc_law_results : FnScope ["_law_letters_here", "_law_rule_here", "_law_x", "_law_word", "_law_places", "_law_found", "_law_many", "_law_k", "_law_late"] ["_law_letters_here", "_law_rule_here", "_law_x"] (defScope (top 81)) := ⟨rfl, rfl, rfl, by decide +kernel, rfl, by decide +kernel, by decide +kernel⟩
theorem c_law_results (T : Txt K mg) : Cal P w K mg base 1 "_law_results" (spF domLRes) [] := by
  refine cal_of (k := 0) T 54 (d := d_law_results) rfl sc_law_results rfl rfl (fun _ _ _ _ _ _ us hl => match us, hl with | [_, _, _], _ => rfl) (len_F fun _ _ ⟨_, _, _, e, _⟩ => by rw [e]; rfl) (fun f cdv A outer s H vs Q E hr h => ?_)
  obtain ⟨ss, s, r, ⟨L, ru, x, rfl, gt, ok, ix, rfl⟩, q⟩ := h
  have c := Cu.entry (N := ["_law_letters_here", "_law_rule_here", "_law_x", "_law_word", "_law_places", "_law_found", "_law_many", "_law_k", "_law_late"]) r
  refine ⟨_, (pss_cons (ps_par3 (i := 3) (j := 4) (l := 5) rfl sc_law_results.nd rfl rfl rfl (by decide) (by decide) (by decide) rfl rfl rfl (pa_cons (pe_ix (ix_tupK (K := K) rfl) (pv 1) pe_int (fun _ _ => rfl)) (pa_cons (pe_listRg rfl rfl T.list_ (prg_1 rfl T.range_ (pe_callB call_len_str rfl T.len_ (by decide +kernel) (pa_cons (pv 2) pa_nil)))) (pa_cons (pe_lst pa_nil) pa_nil))) rfl)
  (pss_cons (ps_if (pt_cmpR op_eq (pe_ix (ix_tupK (K := K) rfl) (pv 1) (pe_un un_neg pe_int) (fun _ _ => rfl)) pe_str (nomark _)) (pss_one (ps_set (i := 4) sc_law_results.nd rfl (by first | exact Or.inl rfl | exact Or.inr rfl) (pe_revL (pv 4)))) pss_nil)
  (pss_cons (ps_if (pt_cmpR op_eq (pv 3) pe_str (nomark _)) (pss_one (ps_ret (pe_lst (pa_cons pe_str pa_nil)))) pss_nil)
  (pss_cons (ps_if (pt_cmpR op_eq (pv 3) pe_str (nomark _)) (pss_cons (ps_set (i := 6) sc_law_results.nd rfl (by first | exact Or.inl rfl | exact Or.inr rfl) (pe_op op_fdiv (pe_callB call_len_str rfl T.len_ (by decide +kernel) (pa_cons (pv 2) pa_nil)) pe_int))
  (pss_one (ps_ret (pe_lst (pa_cons (pe_ifExp (pt_cmpR op_eq (pe_ix (ix_tupK (K := K) rfl) (pv 1) pe_int (fun _ _ => rfl)) pe_str (nomark _)) (pe_slice sl_str (pv 2) po_none (po_some (pv 6))) (pe_slice sl_str (pv 2) (po_some (pe_op op_sub (pe_callB call_len_str rfl T.len_ (by decide +kernel) (pa_cons (pv 2) pa_nil)) (pv 6))) po_none)) pa_nil))))) pss_nil)
  (pss_cons (ps_for PassesOwn.never rfl (pi_listK (K := K) rfl (pv 4)) (pg_name (i := 7) sc_law_results.nd rfl (by first | exact Or.inl rfl | exact Or.inr rfl)) (pss_cons (ps_if (PW.pt (pw_and (pt_cmpR op_eq (pv 3) pe_str (nomark _)) (pw_and1 (pt_cmpR op_le (pe_op op_add (pv 7) (pe_ix (ix_tupK (K := K) rfl) (pv 1) pe_int (fun _ _ => rfl))) (pe_callB call_len_str rfl T.len_ (by decide +kernel) (pa_cons (pv 2) pa_nil)) (nomark _))))) (pss_one (ps_expr (pe_bmK (K := K) rfl PySem.F.plainAttrs_list PySem.F.slot_list_append PySem.F.type_list_append mt_append (pv 5) (pa_cons (pe_op op_add_str (pe_slice sl_str (pv 2) po_none (po_some (pv 7))) (pe_slice sl_str (pv 2) (po_some (pe_op op_add (pv 7) (pe_ix (ix_tupK (K := K) rfl) (pv 1) pe_int (fun _ _ => rfl)))) po_none)) pa_nil)))) pss_nil)
  (pss_cons (ps_if (pt_cmpR op_eq (pv 3) pe_str (nomark _)) (pss_one (ps_aug (i := 5) sc_law_results.nd rfl (by first | exact Or.inl rfl | exact Or.inr rfl) (pe_lc (own := [("_law_late", 8)]) rfl sc_law_results.nd (pi_tupK (K := K) rfl (pe_dget (hu_of hr) (pe_callTy (call_dictP rfl) rfl T.dict_ (by decide +kernel) (pa_cons (pe_callTy (call_list_ofK (K := K) rfl) rfl T.list_ (by decide +kernel) (pa_cons (pv 0) pa_nil)) pa_nil)) (pe_ix ix_str (pv 2) (pv 7) (fun _ _ => rfl)) (fun _ _ => rfl))) (blkOk_by (N := ["_law_letters_here", "_law_rule_here", "_law_x", "_law_word", "_law_places", "_law_found", "_law_many", "_law_k", "_law_late"]) (sc := defScope (top 81)) (by decide +kernel)) (by intros; exact (pg_name (i := 8) sc_law_results.nd rfl (by first | exact Or.inl rfl | exact Or.inr rfl))) (by intros; exact pts_nil) (by intros; exact (pe_op op_add_str (pe_op op_add_str (pe_slice sl_str (pv 2) po_none (po_some (pv 7))) (pv 8)) (pe_slice sl_str (pv 2) (po_some (pe_op op_add (pv 7) pe_int)) po_none)))) ip_addL)) pss_nil)
  (pss_one (ps_if (PW.pt (pw_and (pt_cmpR op_eq (pv 3) pe_str (nomark _)) (pw_and1 (pt_cmpR op_eq (pe_ix ix_str (pv 2) (pv 7) (fun _ _ => rfl)) (pe_ix (ix_tupK (K := K) rfl) (pv 1) pe_int (fun _ _ => rfl)) (nomark _))))) (pss_one (ps_expr (pe_bmK (K := K) rfl PySem.F.plainAttrs_list PySem.F.slot_list_append PySem.F.type_list_append mt_append (pv 5) (pa_cons (pe_op op_add_str (pe_op op_add_str (pe_slice sl_str (pv 2) po_none (po_some (pv 7))) (pe_ix (ix_tupK (K := K) rfl) (pv 1) pe_int (fun _ _ => rfl))) (pe_slice sl_str (pv 2) (po_some (pe_op op_add (pv 7) pe_int)) po_none)) pa_nil)))) pss_nil)))))
  (pss_one (ps_ret (pv 5)))))))), ?_⟩
  have hx := ix.len
  refine st_seq ?_
  refine s_par3 (la_hd c (ev_kind (c.var 1)) fun v1 Hb1 H1 e1 c1 r1 => la_ls c1 (ef_rg1 (ev_lenT' (c1.var 2) (by omega)) (by omega)) fun p2 Hb2 H2 e2 c2 r2 => la_new c2 (ef_lst (ds := []) ea_nil (by decide)) fun p3 Hb3 H3 e3 hp3 c3 => la_nil ⟨_, _, _, rfl, ?_⟩)
  have hp0 : H p3 = none := Evl.fresh_back (e1.trans e2) hp3
  have c4 := ((c3.put (i := 3) (s := .hd (.str (kindS ru))) (v := v1) (Rp.mono (Ex.pr (e2.trans e3)) r1)).put (i := 4) (s := .ls (intsD 0 (x.length : Int).toNat)) (v := .ref p2) ⟨p2, rfl, r2.mono e3⟩).put (i := 5) (s := .vl (.ref p3)) (v := .ref p3) rfl
  rw [Int.toNat_natCast, intsD_eI] at c4
  have c4 : Cu Hb3 [(p3, .l ([].map eT))] [.hd (eTab L), .hd (eRule ru), .hd (eT x), .hd (.str (kindS ru)), .ls ((List.range x.length).map eI), .vl (.ref p3), .un, .un, .un] _ H3 := c4
  dsimp only
  refine st_seq ?_
  refine s_ifJ (cs' := [.hd (eTab L), .hd (eRule ru), .hd (eT x), .hd (.str (kindS ru)), .ls ((places x.length (leftOf ru)).map eI), .vl (.ref p3), .un, .un, .un]) c4 (et_right (c4.var 1)) (fun hb H5 N c5 k => ?_) (fun hb H5 N c5 k => ?_) fun Hb5 σ5 H5 e5 c5 => ?_
  · refine s_setF c5 (ef_revL (c5.var 4)) fun Hb6 σ6 H6 e6 c6 => ?_
    refine k Hb6 _ _ e6 ?_
    have e : places x.length (leftOf ru) = (List.range x.length).reverse := by
      unfold places
      rw [if_neg (by intro z; rw [z] at hb; cases hb)]
    rw [e, List.map_reverse]
    exact c6
  · have e : places x.length (leftOf ru) = List.range x.length := by
      unfold places
      rw [if_pos (by cases h : leftOf ru with | true => rfl | false => rw [h] at hb; cases hb)]
    rw [e] at k
    exact k Hb3 _ _ (Ex.refl _) c5
  have ex05 : Ex H Hb5 := e1.trans (e2.trans (e3.trans e5))
  dsimp only
  refine st_seq ?_
  refine s_if c5 (b := decide (kindS ru = "empty")) (et_test (ev_eqS (c5.var 3) ev_str)) (fun hb H6 e6 c6 => ?_) (fun hb H6 e6 c6 => ?_)
  · have hru : ru = .empty := by
      cases ru with
      | empty => rfl
      | _ => exact absurd (of_decide_eq_true hb) (by simp only [kindS] <;> decide +kernel)
    subst hru
    refine s_retF (ef_lst (ds := [eT []]) (ea_cons ev_str ea_nil) (by show 1 ≤ 100000; decide)) ?_
    exact fun p H' hp e rv => q p H' (Evl.fresh_back (ex05.trans c6.ex) hp) ((ex05.trans c6.ex).trans e) rv
  have hne : ru ≠ .empty := fun z => by
    subst z
    exact of_decide_eq_false hb rfl
  dsimp only [tNext]
  refine st_seq ?_
  refine s_if c6 (b := decide (kindS ru = "half")) (et_test (ev_eqS (c6.var 3) ev_str)) (fun hb H7 e7 c7 => ?_) (fun hb H7 e7 c7 => ?_)
  · obtain ⟨l, hru⟩ : ∃ l, ru = .half l := by
      cases ru with
      | half l => exact ⟨l, rfl⟩
      | _ => exact absurd (of_decide_eq_true hb) (by simp only [kindS] <;> decide +kernel)
    subst hru
    refine st_seq ?_
    refine s_set (d := eI (x.length / 2)) c7 (ev_div (ev_lenT' (c7.var 2) (by omega)) ev_int ⟨by decide, by decide⟩) fun Hb8 σ8 H8 e8 c8 => ?_
    dsimp only
    have c8 : Cu Hb8 [(p3, .l ([].map eT))] [.hd (eTab L), .hd (eRule (.half l)), .hd (eT x), .hd (.str (kindS (.half l))), .ls ((places x.length (leftOf (.half l))).map eI), .vl (.ref p3), .hd (eI (x.length / 2)), .un, .un] σ8 H8 := c8
    refine s_retF (ef_lst (ds := (halfR l x).map eT) (ea_cons (ev_is (ev_if (b := l) (et_test (ev_is (ev_eqS (ev_ixT (c8.var 1) ev_int rfl) ev_str) (congrArg PyData.bool (side_left l)))) (fun hb => ?_) fun hb => ?_) rfl) ea_nil) (by show 1 ≤ 100000; decide)) ?_
    · rw [hb]
      exact ev_takeS (c8.var 2) (c8.var 6) rfl (by omega)
    · rw [hb]
      exact ev_dropS (c8.var 2) (ev_sub (ev_lenT' (c8.var 2) (by omega)) (c8.var 6)) (by omega) (by omega)
    · exact fun p H' hp e rv => q p H' (Evl.fresh_back (ex05.trans (e8.trans c8.ex)) hp) ((ex05.trans (e8.trans c8.ex)).trans e) rv
  have hnh : ∀ l, ru ≠ .half l := fun l z => by
    subst z
    exact of_decide_eq_false hb rfl
  dsimp only [tNext]
  refine st_seq ?_
  have hat := results_at L x ru ok hnh hne
  have hstl : ∀ k, k < x.length → (stepAt L ru x k).length ≤ 3 := fun k hk => by
    cases ru with
    | drop n l =>
      show (if k + n ≤ x.length then [x.take k ++ x.drop (k + n)] else []).length ≤ 3
      split <;> simp
    | lower l =>
      show ((look L (sgn x k)).map _).length ≤ 3
      rw [List.length_map]
      exact gt.look_len (ix.kn _ (sgn_mem hk))
    | put a w l =>
      show (if sgn x k = a then [x.take k ++ w ++ x.drop (k + 1)] else []).length ≤ 3
      split <;> simp
    | half l => exact Nat.zero_le _
    | empty => exact Nat.zero_le _
  have hacc : ∀ i, (((places x.length (leftOf ru)).take i).flatMap (stepAt L ru x)).length ≤ 12 := fun i => by
    have h1 := flatMap_len (m := 3) (l := (places x.length (leftOf ru)).take i) (f := stepAt L ru x) fun k hk => hstl k (places_lt (List.mem_of_mem_take hk))
    rw [List.length_take, places_len] at h1
    omega
  refine s_for c7 (ei_lst (ex_v c7 4)) (fun d _ => tg_name) (fun i cs ms => ∃ s6 s7 s8, cs = [.hd (eTab L), .hd (eRule ru), .hd (eT x), .hd (.str (kindS ru)), .ls ((places x.length (leftOf ru)).map eI), .vl (.ref p3), s6, s7, s8] ∧ ms = [(p3, .l ((((places x.length (leftOf ru)).take i).flatMap (stepAt L ru x)).map eT))]) ⟨_, _, _, rfl, rfl⟩ ?_ ?_
  · rintro Hs es2 i d Hb' ms' cs' σ' H' N hd e' c' em ⟨s6, s7, s8, rfl, rfl⟩ hN
    rw [List.getElem?_map] at hd
    obtain ⟨k, hk, rfl⟩ := Option.map_eq_some_iff.mp hd
    have hkl := places_lt (List.mem_of_getElem? hk)
    have c' : Cu Hb' [(p3, .l ((((places x.length (leftOf ru)).take i).flatMap (stepAt L ru x)).map eT))] [.hd (eTab L), .hd (eRule ru), .hd (eT x), .hd (.str (kindS ru)), .ls ((places x.length (leftOf ru)).map eI), .vl (.ref p3), s6, .hd (eI k), s8] σ' H' := c'
    have hnx : ((places x.length (leftOf ru)).take (i + 1)).flatMap (stepAt L ru x) = ((places x.length (leftOf ru)).take i).flatMap (stepAt L ru x) ++ stepAt L ru x k := by
      rw [List.take_add_one, hk, List.flatMap_append]
      simp
    have hai := hacc i
    have hsk := hstl k hkl
    rw [hnx] at hN
    generalize ((places x.length (leftOf ru)).take i).flatMap (stepAt L ru x) = acc at hai hN c'
    have hlen : (acc.map eT).length ≤ 100000 := by rw [List.length_map]; omega
    have sg := sgn_get hkl
    have sm := ix.kn _ (sgn_mem hkl)
    have last : ∀ (acc2 : List Thing) σ2 H2, Cu Hb' [(p3, .l (acc2.map eT))] [.hd (eTab L), .hd (eRule ru), .hd (eT x), .hd (.str (kindS ru)), .ls ((places x.length (leftOf ru)).map eI), .vl (.ref p3), s6, .hd (eI k), s8] σ2 H2 → acc2 = acc ++ stepAt L ru x k → N σ2 H2 := fun acc2 σ2 H2 c2 e => by
      subst e
      exact hN Hb' _ _ _ _ e' c2 em ⟨_, _, _, rfl, rfl⟩
    cases ru with
    | half l => exact absurd rfl (hnh l)
    | empty => exact absurd rfl hne
    | drop n l =>
      refine st_seq ?_
      refine s_if c' (b := decide (k + n ≤ x.length)) (Evl.et_is (Evl.et_and (a := true) (et_test (ev_is (ev_eqS (c'.var 3) ev_str) (congrArg PyData.bool (decide_eq_true rfl)))) fun _ => et_test (ev_is (ev_le (ev_add (c'.var 7) (ev_ixT (i := 1) (d := .int n) (c'.var 1) ev_int rfl)) (ev_lenT' (c'.var 2) (by omega))) (congrArg PyData.bool (a₂ := decide (k + n ≤ x.length)) (decide_eq_decide.mpr (by omega))))) (Bool.true_and _)) (fun hb H3 e3 c3 => ?_) (fun hb H3 e3 c3 => ?_)
      · refine s_app (d := eT (x.take k ++ x.drop (k + n))) c3 (i := 5) rfl (k := 0) rfl (ev_catT (ev_takeS (c3.var 2) (c3.var 7) rfl (by omega)) (ev_dropS (c3.var 2) (ev_add (c3.var 7) (ev_ixT (i := 1) (d := .int n) (c3.var 1) ev_int rfl)) (by rfl : _ = ((k + n : Nat) : Int)) (by omega)) (by rw [List.length_take, List.length_drop]; omega)) hlen fun H4 c4 => ?_
        dsimp only
        refine st_seq ?_
        refine s_if c4 (b := false) (et_test (ev_is (ev_eqS (c4.var 3) ev_str) (congrArg PyData.bool (decide_eq_false (by simp only [kindS] <;> decide +kernel))))) (nofun) fun _ H5 e5 c5 => ?_
        dsimp only [tNext]
        refine s_if c5 (b := false) (Evl.et_is (Evl.et_and (a := false) (b := false) (et_test (ev_is (ev_eqS (c5.var 3) ev_str) (congrArg PyData.bool (decide_eq_false (by simp only [kindS] <;> decide +kernel))))) (nofun)) rfl) (nofun) fun _ H6 e6 c6 => ?_
        refine last (acc ++ [x.take k ++ x.drop (k + n)]) _ _ (by rw [List.map_append]; exact c6) ?_
        show _ = acc ++ (if k + n ≤ x.length then [x.take k ++ x.drop (k + n)] else [])
        rw [if_pos (of_decide_eq_true hb)]
      · dsimp only [tNext]
        refine st_seq ?_
        refine s_if c3 (b := false) (et_test (ev_is (ev_eqS (c3.var 3) ev_str) (congrArg PyData.bool (decide_eq_false (by simp only [kindS] <;> decide +kernel))))) (nofun) fun _ H5 e5 c5 => ?_
        dsimp only [tNext]
        refine s_if c5 (b := false) (Evl.et_is (Evl.et_and (a := false) (b := false) (et_test (ev_is (ev_eqS (c5.var 3) ev_str) (congrArg PyData.bool (decide_eq_false (by simp only [kindS] <;> decide +kernel))))) (nofun)) rfl) (nofun) fun _ H6 e6 c6 => ?_
        refine last acc _ _ c6 ?_
        show _ = acc ++ (if k + n ≤ x.length then [x.take k ++ x.drop (k + n)] else [])
        rw [if_neg (of_decide_eq_false hb), List.append_nil]
    | lower l =>
      refine st_seq ?_
      refine s_if c' (b := false) (Evl.et_is (Evl.et_and (a := false) (b := false) (et_test (ev_is (ev_eqS (c'.var 3) ev_str) (congrArg PyData.bool (decide_eq_false (by simp only [kindS] <;> decide +kernel))))) (nofun)) rfl) (nofun) fun _ H3 e3 c3 => ?_
      dsimp only [tNext]
      refine st_seq ?_
      refine s_if c3 (b := true) (et_test (ev_is (ev_eqS (c3.var 3) ev_str) (congrArg PyData.bool (decide_eq_true rfl)))) (fun _ H4 e4 c4 => ?_) (nofun)
      have hll := gt.look_len sm
      refine s_augL (es := (stepAt L (.lower l) x k).map eT) c4 (i := 5) rfl (k := 0) rfl (by show 5 < 9; decide) (es_is (ef_map c4 (ei_tup (ds := (look L (sgn x k)).map eC) (ev_dget (ef_tabP gt (c4.var 0)).s (ev_signT (c4.var 2) (c4.var 7) rfl sg (by omega)) (lkp_tab sm)) (nofun)) (fun d _ => tg_name) (by decide) (fun d => eT (x.take k ++ [cOf d] ++ x.drop (k + 1))) (fun d hd σ'' H'' c'' => ?_) ?_).s ?_) ?_ fun σ5 H5 c5 => ?_
      · obtain ⟨b, hb, rfl⟩ := List.mem_map.mp hd
        exact ev_catT (ev_catT (b := [b]) (ev_takeS (c''.var 2) (c''.var 7) rfl (by omega)) (c''.var 8) (by simp [List.length_take]; omega)) (ev_dropS (c''.var 2) (ev_add (c''.var 7) ev_int) (by rfl : _ = ((k + 1 : Nat) : Int)) (by omega)) (by simp [List.length_take, List.length_drop]; omega)
      · rw [List.length_map]
        omega
      · show Sh.ls _ = Sh.ls (((look L (sgn x k)).map fun d => x.take k ++ [d] ++ x.drop (k + 1)).map eT)
        rw [List.map_map, List.map_map]
        rfl
      · rw [List.length_map, List.length_map]
        omega
      dsimp only
      refine s_if c5 (b := false) (Evl.et_is (Evl.et_and (a := false) (b := false) (et_test (ev_is (ev_eqS (c5.var 3) ev_str) (congrArg PyData.bool (decide_eq_false (by simp only [kindS] <;> decide +kernel))))) (nofun)) rfl) (nofun) fun _ H6 e6 c6 => ?_
      exact last (acc ++ stepAt L (.lower l) x k) _ _ (by rw [List.map_append]; exact c6) rfl
    | put a w l =>
      have hw : w.length ≤ 1 := by
        rcases ok.2 with rfl | ⟨d, _, rfl⟩
        · exact Nat.zero_le _
        · exact Nat.le_refl _
      refine st_seq ?_
      refine s_if c' (b := false) (Evl.et_is (Evl.et_and (a := false) (b := false) (et_test (ev_is (ev_eqS (c'.var 3) ev_str) (congrArg PyData.bool (decide_eq_false (by simp only [kindS] <;> decide +kernel))))) (nofun)) rfl) (nofun) fun _ H3 e3 c3 => ?_
      dsimp only [tNext]
      refine st_seq ?_
      refine s_if c3 (b := false) (et_test (ev_is (ev_eqS (c3.var 3) ev_str) (congrArg PyData.bool (decide_eq_false (by simp only [kindS] <;> decide +kernel))))) (nofun) fun _ H4 e4 c4 => ?_
      dsimp only [tNext]
      refine s_if c4 (b := decide (sgn x k = a)) (Evl.et_is (Evl.et_and (a := true) (et_test (ev_is (ev_eqS (c4.var 3) ev_str) (congrArg PyData.bool (decide_eq_true rfl)))) fun _ => et_test (ev_is (ev_eqS (ev_signT (c4.var 2) (c4.var 7) rfl sg (by omega)) (ev_ixT (i := 1) (d := eC a) (c4.var 1) ev_int rfl)) (congrArg PyData.bool (a₂ := decide (sgn x k = a)) (decide_eq_decide.mpr ⟨fun h => sC_inj h, fun h => congrArg sC h⟩)))) (Bool.true_and _)) (fun hb H5 e5 c5 => ?_) (fun hb H5 e5 c5 => ?_)
      · refine s_app (d := eT (x.take k ++ w ++ x.drop (k + 1))) c5 (i := 5) rfl (k := 0) rfl (ev_catT (ev_catT (ev_takeS (c5.var 2) (c5.var 7) rfl (by omega)) (ev_ixT (i := 2) (d := eT w) (c5.var 1) ev_int rfl) (by rw [List.length_take]; omega)) (ev_dropS (c5.var 2) (ev_add (c5.var 7) ev_int) (by rfl : _ = ((k + 1 : Nat) : Int)) (by omega)) (by rw [List.length_append, List.length_take, List.length_drop]; omega)) hlen fun H6 c6 => ?_
        refine last (acc ++ [x.take k ++ w ++ x.drop (k + 1)]) _ _ (by rw [List.map_append]; exact c6) ?_
        show _ = acc ++ (if sgn x k = a then [x.take k ++ w ++ x.drop (k + 1)] else [])
        rw [if_pos (of_decide_eq_true hb)]
      · refine last acc _ _ c5 ?_
        show _ = acc ++ (if sgn x k = a then [x.take k ++ w ++ x.drop (k + 1)] else [])
        rw [if_neg (of_decide_eq_false hb), List.append_nil]
  · rintro Hb' ms' cs' σ' H' e' c' em ⟨s6, s7, s8, rfl, rfl⟩
    rw [List.length_map, List.take_length, hat] at c'
    dsimp only
    refine s_retL c' (i := 5) rfl (k := 0) rfl fun ls => q p3 H' hp0 (ex05.trans (e'.trans c'.ex)) ⟨p3, rfl, ls⟩
end
end FF
/-! the law's own steps, letters below, at most -/
namespace FF
open PySem PySem.Spec PyProof.Rows L2
open Evl (Ex EvT)
theorem order_mod {n first : Nat} (h : first ≤ n) (hn : 0 < n) : (List.range n).map (fun lap => (first + lap) % n) = order n first := by
  unfold order
  have e : List.range n = List.range (n - first) ++ (List.range first).map ((n - first) + ·) := by
    rw [← List.range_add]
    congr 1
    omega
  rw [e, List.map_append, List.map_map]
  congr 1
  · rw [List.range'_eq_map_range]
    apply List.map_congr_left
    intro k hk
    have := List.mem_range.mp hk
    exact Nat.mod_eq_of_lt (by omega)
  · conv => rhs; rw [← List.map_id (List.range first)]
    apply List.map_congr_left
    intro k hk
    have := List.mem_range.mp hk
    show (first + (n - first + k)) % n = k
    rw [show first + (n - first + k) = k + n by omega, Nat.add_mod_right]
    exact Nat.mod_eq_of_lt (by omega)
section
variable {P : Program} {w : World} {K : PySem.W.Frag} {mg : Str → Option Value} {base : Heap}
def domLSteps (ss : List Sh) (s : Sh) : Prop := ∃ (B : Book) (x : Thing) (first : Nat), ss = [.hd (eBook B), .hd (eT x), .hd (eI first)] ∧ GoodBook B ∧ IsThing B.tab x ∧ first ≤ B.rules.length ∧ s = .ls ((steps B x first).map eTry)
theorem sc_law_steps : FnScope ["_law_book_here", "_law_x", "_law_first", "_law_found", "_law_many", "_law_lap", "_law_r", "_law_late", "_law_pair"] ["_law_book_here", "_law_x", "_law_first"] (defScope (top 82)) := ⟨rfl, rfl, rfl, by decide +kernel, rfl, by decide +kernel, by decide +kernel⟩
theorem c_law_steps (T : Txt K mg) : Cal P w K mg base 2 "_law_steps" (spF domLSteps) [] := by
  refine cal_of (k := 1) T 55 (d := d_law_steps) rfl sc_law_steps rfl rfl (fun _ _ _ _ _ _ us hl => match us, hl with | [_, _, _], _ => rfl) (len_F fun _ _ ⟨_, _, _, e, _⟩ => by rw [e]; rfl) (fun f cdv A outer s H vs Q E hr h => ?_)
  obtain ⟨ss, s, r, ⟨B, x, first, rfl, gb, ix, hf, rfl⟩, q⟩ := h
  have c := Cu.entry (N := ["_law_book_here", "_law_x", "_law_first", "_law_found", "_law_many", "_law_lap", "_law_r", "_law_late", "_law_pair"]) r
  refine ⟨_, (pss_cons (ps_par (i := 3) (j := 4) rfl sc_law_steps.nd rfl rfl (by decide) rfl rfl (pa_cons (pe_lst pa_nil) (pa_cons (pe_callB (call_len_seqK (K := K) rfl) rfl T.len_ (by decide +kernel) (pa_cons (pe_ix (ix_tupK (K := K) rfl) (pv 0) pe_int (fun _ _ => rfl)) pa_nil)) pa_nil)) rfl)
  (pss_cons (ps_for PassesOwn.never rfl (pi_range1 rfl T.range_ (pa_cons (pv 4) pa_nil)) (pg_name (i := 5) sc_law_steps.nd rfl (by first | exact Or.inl rfl | exact Or.inr rfl)) (pss_cons (ps_set (i := 6) sc_law_steps.nd rfl (by first | exact Or.inl rfl | exact Or.inr rfl) (pe_op op_mod (pe_callTy call_int1 rfl T.int_ (by decide +kernel) (pa_cons (pe_op op_add (pv 2) (pv 5)) pa_nil)) (pv 4)))
  (pss_one (ps_for PassesOwn.never rfl (pi_listK (K := K) rfl (pe_c (c_law_results T) hr (by decide) rfl (pa_cons (pe_ix (ix_tupK (K := K) rfl) (pv 0) pe_int (fun _ _ => rfl)) (pa_cons (pe_ix (ix_tupK (K := K) rfl) (pe_ix (ix_tupK (K := K) rfl) (pv 0) pe_int (fun _ _ => rfl)) (pv 6) (fun _ _ => rfl)) (pa_cons (pv 1) pa_nil))))) (pg_name (i := 7) sc_law_steps.nd rfl (by first | exact Or.inl rfl | exact Or.inr rfl)) (pss_one (ps_if (PW.pt (pw_and (pt_cmpR op_ne (pv 7) (pv 1) (nomark _)) (pw_and1 (pt_cmpR (op_notIn_seqK (K := K) rfl) (pv 7) (pe_lc (own := [("_law_pair", 8)]) rfl sc_law_steps.nd (pi_listK (K := K) rfl (pv 3)) (blkOk_by (N := ["_law_book_here", "_law_x", "_law_first", "_law_found", "_law_many", "_law_lap", "_law_r", "_law_late", "_law_pair"]) (sc := defScope (top 82)) (by decide +kernel)) (by intros; exact (pg_name (i := 8) sc_law_steps.nd rfl (by first | exact Or.inl rfl | exact Or.inr rfl))) (by intros; exact pts_nil) (by intros; exact (pe_ix (ix_tupK (K := K) rfl) (pv 8) pe_int (fun _ _ => rfl)))) rfl)))) (pss_one (ps_expr (pe_bmK (K := K) rfl PySem.F.plainAttrs_list PySem.F.slot_list_append PySem.F.type_list_append mt_append (pv 3) (pa_cons (pe_tup (pa_cons (pv 7) (pa_cons (pv 6) pa_nil))) pa_nil)))) pss_nil))))))
  (pss_one (ps_ret (pv 3))))), ?_⟩
  have hx := ix.len
  have hrl := gb.len
  have hpos := gb.pos
  have hom := order_mod hf hpos
  have hol := order_len hf
  have hot : ∀ i, ∀ k ∈ (order B.rules.length first).take i, k < B.rules.length := fun i k hk => order_lt hf k (List.mem_of_mem_take hk)
  refine st_seq ?_
  refine s_par (la_new c (ef_lst (ds := []) ea_nil (by decide)) fun p Hb1 H1 e1 hp c1 => la_hd c1 (ev_lenT (ds := B.rules.map eRule) (ev_ixT (i := 1) (c1.var 0) ev_int rfl)) fun v Hb2 H2 e2 c2 r2 => la_nil ⟨_, _, rfl, ?_⟩)
  rw [List.length_map] at r2
  have c3 : Cu Hb2 [(p, .l (([] : List (Thing × Nat)).map eTry))] [.hd (eBook B), .hd (eT x), .hd (eI first), .vl (.ref p), .hd (eI B.rules.length), .un, .un, .un, .un] _ H2 := (c2.put (i := 3) (s := .vl (.ref p)) (v := .ref p) rfl).put (i := 4) (s := .hd (eI B.rules.length)) (v := v) r2
  dsimp only
  refine st_seq ?_
  refine s_for c3 (ei_rng1 (ea_cons (c3.var 4) ea_nil) (by omega) (by omega)) (fun d _ => tg_name) (fun i cs ms => ∃ s5 s6 s7 s8, cs = [.hd (eBook B), .hd (eT x), .hd (eI first), .vl (.ref p), .hd (eI B.rules.length), s5, s6, s7, s8] ∧ ms = [(p, .l ((addRules B x [] ((order B.rules.length first).take i)).map eTry))]) ⟨_, _, _, _, rfl, rfl⟩ ?_ ?_
  · rintro Hs es i d Hb' ms' cs' σ' H' N hd e' c' em ⟨s5, s6, s7, s8, rfl, rfl⟩ hN
    rw [Int.toNat_natCast] at hd
    have hil : i < B.rules.length := by
      have := (List.getElem?_eq_some_iff.mp hd).1
      rw [intsD_length] at this
      exact this
    rw [intsD_get hil] at hd
    have hd := (Option.some.inj hd).symm
    subst hd
    rw [Int.zero_add] at c'
    have hk : (order B.rules.length first)[i]? = some ((first + i) % B.rules.length) := by
      rw [← hom, List.getElem?_map, List.getElem?_range hil]
      rfl
    have hkl := order_lt hf _ (List.mem_of_getElem? hk)
    generalize hkk : (first + i) % B.rules.length = k at hk hkl
    have htk : addRules B x [] ((order B.rules.length first).take (i + 1)) = addSteps x k (addRules B x [] ((order B.rules.length first).take i)) (results B.tab x (rOf B k)) := by
      rw [List.take_add_one, hk]
      exact addRules_snoc _ _ _ _ _
    have hfl := addRules_len (f := []) gb ix (hot i)
    rw [List.length_take, hol] at hfl
    have hrs := results_len gb.tab ix (gb.rul _ (rOf_mem hkl))
    generalize addRules B x [] ((order B.rules.length first).take i) = f at hfl htk c'
    rw [htk] at hN
    refine st_seq ?_
    refine s_set (d := eI k) c' (ev_is (ev_mod (ev_intI (ev_add (c'.var 2) (c'.var 5))) (c'.var 4) (by omega)) ?_) fun Hb2 σ2 H2 e2 c2 => ?_
    · rw [← hkk]
      show PyData.int _ = PyData.int _
      congr 1
    dsimp only
    refine s_for c2 (ei_lst (ex_f c2 (ef_call0 (ea_cons (ev_ixT (i := 0) (d := eTab B.tab) (c2.var 0) ev_int rfl) (ea_cons (ev_ixT (d := eRule (rOf B k)) (ds := B.rules.map eRule) (ev_ixT (i := 1) (c2.var 0) ev_int rfl) (c2.var 6) (atI_nat (by rw [List.getElem?_map, rOf_get hkl]; rfl))) (ea_cons (c2.var 1) ea_nil))) ⟨B.tab, rOf B k, x, rfl, gb.tab, gb.rul _ (rOf_mem hkl), ix, rfl⟩))) (fun d _ => tg_name) (fun j cs ms => ∃ s7 s8, cs = [.hd (eBook B), .hd (eT x), .hd (eI first), .vl (.ref p), .hd (eI B.rules.length), .hd (eI i), .hd (eI k), s7, s8] ∧ ms = [(p, .l ((addSteps x k f ((results B.tab x (rOf B k)).take j)).map eTry))]) ⟨_, _, rfl, rfl⟩ ?_ ?_
    · rintro Hs2 es2 j d Hb3 ms3 cs3 σ3 H3 N3 hd3 e3 c3 em3 ⟨s7', s8', rfl, rfl⟩ hN3
      rw [List.getElem?_map] at hd3
      obtain ⟨t, ht, rfl⟩ := Option.map_eq_some_iff.mp hd3
      have htj : addSteps x k f ((results B.tab x (rOf B k)).take (j + 1)) = addSteps x k (addSteps x k f ((results B.tab x (rOf B k)).take j)) [t] := by
        rw [List.take_add_one, ht]
        exact addSteps_snoc _ _ _
      have hgl := addSteps_len (x := x) (k := k) (f := f) (l := (results B.tab x (rOf B k)).take j)
      rw [List.length_take] at hgl
      rw [htj] at hN3
      generalize addSteps x k f ((results B.tab x (rOf B k)).take j) = g at hgl hN3 c3
      simp only [List.length_nil] at hfl
      have hdt : addSteps x k g [t] = if t = x ∨ t ∈ g.map (·.1) then g else g ++ [(t, k)] := rfl
      have c3 : Cu Hb3 [(p, .l (g.map eTry))] [.hd (eBook B), .hd (eT x), .hd (eI first), .vl (.ref p), .hd (eI B.rules.length), .hd (eI i), .hd (eI k), .hd (eT t), s8'] σ3 H3 := c3
      refine s_if c3 (b := !decide (t = x ∨ t ∈ g.map (·.1))) (Evl.et_is (Evl.et_and (et_test (ev_neS (c3.var 7) (c3.var 1))) fun _ => et_test (ev_notInL (x := tS t) (ys := (g.map (·.1)).map tS) (K := K) (c3.var 7) (es_is (ef_map c3 (ei_lst (ex_0 (c3.lvar 3 0))) (fun d _ => tg_name) (by decide) fstD (fun d hd σ'' H'' c'' => ?_) ?_).s ?_))) ?_) (fun hb H4 e4 c4 => ?_) (fun hb H4 e4 c4 => ?_)
      · obtain ⟨pr, _, rfl⟩ := List.mem_map.mp hd
        exact ev_ixT (i := 0) (d := eT pr.1) (c''.var 8) ev_int rfl
      · rw [List.length_map]
        omega
      · rw [List.map_map, List.map_map, List.map_map]
        rfl
      · rw [tS_dec, Bool.decide_or, Bool.not_or]
        congr 2
        exact decide_eq_decide.mpr ⟨fun h => by
          obtain ⟨y, hy, e⟩ := List.mem_map.mp h
          rw [← tS_inj e]
          exact hy, fun h => List.mem_map_of_mem h⟩
      · have nf : ¬ (t = x ∨ t ∈ g.map (·.1)) := fun z => by rw [decide_eq_true z] at hb; cases hb
        refine s_app (d := eTry (t, k)) c4 (i := 3) rfl (k := 0) rfl (ev_tup (ds := [_, _]) (ea_cons (c4.var 7) (ea_cons (c4.var 6) ea_nil)) (by show 2 ≤ 100000; decide)) (by rw [List.length_map]; omega) fun H5 c5 => ?_
        refine hN3 Hb3 _ _ _ _ e3 c5 em3 ⟨_, _, rfl, ?_⟩
        rw [hdt, if_neg nf, List.map_append]
        rfl
      · have nf : t = x ∨ t ∈ g.map (·.1) := Decidable.byContradiction fun z => by rw [decide_eq_false z] at hb; cases hb
        refine hN3 Hb3 _ _ _ _ e3 c4 em3 ⟨_, _, rfl, ?_⟩
        rw [hdt, if_pos nf]
    · rintro Hb3 ms3 cs3 σ3 H3 e3 c3 em3 ⟨s7', s8', rfl, rfl⟩
      rw [List.length_map, List.take_length] at c3
      exact hN Hb3 _ _ _ _ (e'.trans (e2.trans e3)) c3 em ⟨_, _, _, _, rfl, rfl⟩
  · rintro Hb' ms' cs' σ' H' e' c' em ⟨s5, s6, s7, s8, rfl, rfl⟩
    rw [Int.toNat_natCast, intsD_length, List.take_of_length_le (Nat.le_of_eq hol)] at c'
    dsimp only
    refine s_retL c' (i := 3) rfl (k := 0) rfl fun ls => q p H' hp (e1.trans (e2.trans (e'.trans c'.ex))) ⟨p, rfl, ls⟩
end
end FF
/-! the law's own letters below, at most, lesser things -/
namespace FF
open PySem PySem.Spec PyProof.Rows L2
open Evl (Ex EvT)
theorem ok_sC {c : Nat} (h : low c) : PyData.strOk (sC c) = true := by
  unfold PyData.strOk sC
  have := h.2
  simp
  omega
section
variable {P : Program} {w : World} {K : PySem.W.Frag} {mg : Str → Option Value} {base : Heap}
def domBelow (ss : List Sh) (s : Sh) : Prop := ∃ (L : Tab) (x : Nat), ss = [.hd (eTab L), .hd (eC x)] ∧ GoodTab L ∧ x ∈ names L ∧ s = .ls ((below L x).map eC)
theorem sc_law_below : FnScope ["_law_letters_here", "_law_letter", "_law_found", "_law_waiting", "_law_row", "_law_late"] ["_law_letters_here", "_law_letter"] (defScope (top 83)) := ⟨rfl, rfl, rfl, by decide +kernel, rfl, by decide +kernel, by decide +kernel⟩
theorem c_law_below (T : Txt K mg) : Cal P w K mg base 1 "_law_below" (spF domBelow) [] := by
  refine cal_of (k := 0) T 56 (d := d_law_below) rfl sc_law_below rfl rfl (fun _ _ _ _ _ _ us hl => match us, hl with | [_, _], _ => rfl) (len_F fun _ _ ⟨_, _, e, _⟩ => by rw [e]; rfl) (fun f cdv A outer s H vs Q E hr h => ?_)
  obtain ⟨ss, s, r, ⟨L, x, rfl, gt, hx, rfl⟩, q⟩ := h
  have c := Cu.entry (N := ["_law_letters_here", "_law_letter", "_law_found", "_law_waiting", "_law_row", "_law_late"]) r
  refine ⟨_, (pss_cons (ps_par3 (i := 2) (j := 3) (l := 4) rfl sc_law_below.nd rfl rfl rfl (by decide) (by decide) (by decide) rfl rfl rfl (pa_cons (pe_lst pa_nil) (pa_cons (pe_lst (pa_cons (pv 1) pa_nil)) (pa_cons (pe_callTy (call_dictP rfl) rfl T.dict_ (by decide +kernel) (pa_cons (pe_callTy (call_list_ofK (K := K) rfl) rfl T.list_ (by decide +kernel) (pa_cons (pv 0) pa_nil)) pa_nil)) pa_nil))) rfl)
  (pss_cons (ps_while PassesOwn.never (pt_cmpR (op_neDK (K := K) rfl hr.units) (pv 3) (pe_lst pa_nil) (nomark _)) (pss_one (ps_for PassesOwn.never rfl (pi_tupK (K := K) rfl (pe_dget (hu_of hr) (pv 4) (pe_bm0K' (K := K) rfl PySem.F.plainAttrs_list PySem.F.slot_list_pop PySem.F.type_list_pop mt_pop (pv 3)) (fun _ _ => rfl))) (pg_name (i := 5) sc_law_below.nd rfl (by first | exact Or.inl rfl | exact Or.inr rfl)) (pss_one (ps_if (pt_cmpR (op_notIn_seqK (K := K) rfl) (pv 5) (pv 2) rfl) (pss_cons (ps_expr (pe_bmK (K := K) rfl PySem.F.plainAttrs_list PySem.F.slot_list_append PySem.F.type_list_append mt_append (pv 2) (pa_cons (pv 5) pa_nil)))
  (pss_one (ps_expr (pe_bmK (K := K) rfl PySem.F.plainAttrs_list PySem.F.slot_list_append PySem.F.type_list_append mt_append (pv 3) (pa_cons (pv 5) pa_nil))))) pss_nil)))))
  (pss_one (ps_ret (pv 2))))), ?_⟩
  have hlow : ∀ a ∈ names L, low a := fun a ha => by
    obtain ⟨p, hp, rfl⟩ := List.mem_map.mp ha
    exact gt.lo p hp
  refine st_seq ?_
  refine s_par3 (la_new c (ef_lst (ds := []) ea_nil (by decide)) fun pf Hb1 H1 e1 hpf c1 => la_new c1 (ef_lst (ds := [eC x]) (ea_cons (c1.var 1) ea_nil) (by show 1 ≤ 100000; decide)) fun pw Hb2 H2 e2 hpw c2 => la_dc c2 (ef_tabP gt (c2.var 0)) fun pd Hb3 H3 e3 c3 r3 => la_nil ⟨_, _, _, rfl, ?_⟩)
  have c4 : Cu Hb3 [(pf, .l (([] : List Nat).map eC)), (pw, .l ([x].reverse.map eC))] [.hd (eTab L), .hd (eC x), .vl (.ref pf), .vl (.ref pw), dTab L, .un] _ H3 := ((c3.put (i := 2) (s := .vl (.ref pf)) (v := .ref pf) rfl).put (i := 3) (s := .vl (.ref pw)) (v := .ref pw) rfl).put (i := 4) (s := dTab L) (v := .ref pd) r3
  dsimp only
  refine st_seq ?_
  refine s_while c4 (fun m cs ms => ∃ (f w : List Nat) (s : Sh), cs = [.hd (eTab L), .hd (eC x), .vl (.ref pf), .vl (.ref pw), dTab L, s] ∧ ms = [(pf, .l (f.map eC)), (pw, .l (w.reverse.map eC))] ∧ growLoop (look L) m f w = some (below L x) ∧ m ≤ 40 ∧ ∀ t ∈ w, t ∈ names L) (m0 := 40) ⟨[], [x], .un, rfl, rfl, gt.blw x hx, Nat.le_refl _, fun t ht => by rw [List.mem_singleton.mp ht]; exact hx⟩ ?_
  rintro m Hb' ms' cs' σ' H' e' c' em ⟨f, w, s, rfl, rfl, hl, hm, hk⟩
  refine ⟨!(w.reverse.map sC).isEmpty, et_test (ev_neL0 (l := w.reverse.map sC) (fun a ha => by
    obtain ⟨b, hb, rfl⟩ := List.mem_map.mp ha
    exact ok_sC (hlow b (hk b (List.mem_reverse.mp hb)))) (es_is (c'.lvar 3 1) (by rw [eC_str])) (ef_lst (ds := []) ea_nil (by decide)).s), fun hb H5 N c5 hN => ?_, fun hb H5 c5 => ?_⟩
  · cases w with
    | nil => cases hb
    | cons a w =>
      cases m with
      | zero => cases hl
      | succ m =>
        have ha := hk a (List.mem_cons_self ..)
        have hfl := growLoop_len hl
        have hbl := gt.bln x hx
        unfold growLoop at hl
        have hnl := gt.look_len ha
        have hwl : w.length ≤ 40 := by have := hfl.2; simp only [List.length_cons] at this; omega
        obtain ⟨xs, y, g1, g2, g3, c6⟩ := c5.popped (k := 1) (ds := w.reverse.map eC) (d := eC a) (by rw [List.reverse_cons, List.map_append]; rfl)
        have g3 : y = .str (sC a) := g3
        subst g3
        refine s_forBy (wi0 := iTup K (tDGet (tVar 4) (tC (.str (sC a))))) (fun R h => ?_) (s_for c6 (ei_tup (ds := (look L a).map eC) (ev_dget (c6.var 4) (ev_str (x := sC a)) (lkp_tab ha)) fun H7 e7 b hb o ho => ?_) (fun d _ => tg_name) (fun i cs ms => ∃ s, cs = [.hd (eTab L), .hd (eC x), .vl (.ref pf), .vl (.ref pw), dTab L, s] ∧ ms = [(pf, .l ((pushNew f w ((look L a).take i)).1.map eC)), (pw, .l ((pushNew f w ((look L a).take i)).2.reverse.map eC))]) ⟨_, rfl, rfl⟩ ?_ ?_)
        · obtain ⟨v, hv, h⟩ := h
          exact ⟨v, hv, .ref pw, c5.slot 3, .inl ⟨rfl, xs, SqL.of g1⟩, pw, xs, _, rfl, rfl, g1, g2, h⟩
        · obtain ⟨mm, hmm, rfl⟩ := List.mem_map.mp hb
          exact (c6.ext e7).notup hmm o ho
        · rintro Hs es i d Hb7 ms7 cs7 σ7 H7 N7 hd e7 c7 em7 ⟨s7, rfl, rfl⟩ hN7
          rw [List.getElem?_map] at hd
          obtain ⟨t, ht, rfl⟩ := Option.map_eq_some_iff.mp hd
          have htk : (look L a).take (i + 1) = (look L a).take i ++ [t] := by rw [List.take_add_one, ht]; rfl
          have hl1 : (pushNew f w ((look L a).take i)).1.length ≤ 40 := by
            rw [pushNew_fst]
            have := addNew_le f ((look L a).take i)
            rw [List.length_take] at this
            have := hfl.1
            omega
          have hl2 : (pushNew f w ((look L a).take i)).2.length ≤ 100 := by
            have := pushNew_snd f w ((look L a).take i)
            rw [List.length_take] at this
            omega
          refine s_if c7 (et_test (ev_is (ev_notInL (x := ⟨#[t]⟩) (ys := (pushNew f w ((look L a).take i)).1.map sC) (K := K) (c7.var 5) (es_is (c7.lvar 2 0) (by rw [List.map_map]; rfl))) (by rw [decC]))) (fun hb' H8 e8 c8 => ?_) (fun hb' H8 e8 c8 => ?_)
          · have nf : t ∉ (pushNew f w ((look L a).take i)).1 := by simpa using hb'
            have hsn := pushNew_new _ _ _ _ nf
            rw [← htk] at hsn
            refine st_seq (s_app c8 (i := 2) rfl (k := 0) rfl (c8.var 5) (by rw [List.length_map]; omega) fun H9 c9 => ?_)
            dsimp only
            refine s_app c9 (i := 3) rfl (k := 1) rfl (c9.var 5) (by rw [List.length_map, List.length_reverse]; omega) fun H10 c10 => ?_
            refine hN7 Hb7 _ _ _ _ e7 c10 em7 ⟨_, rfl, ?_⟩
            rw [hsn, List.reverse_cons, List.map_append, List.map_append]
            rfl
          · have nf : t ∈ (pushNew f w ((look L a).take i)).1 := by simpa using hb'
            have hsn := pushNew_old _ _ _ _ nf
            rw [← htk] at hsn
            exact hN7 Hb7 _ _ _ _ e7 c8 em7 ⟨_, rfl, by rw [hsn]⟩
        · rintro Hb7 ms7 cs7 σ7 H7 e7 c7 em7 ⟨s7, rfl, rfl⟩
          rw [List.length_map, List.take_length] at c7
          refine hN m Hb7 _ _ _ _ (Nat.lt_succ_self m) (e'.trans e7) c7 em7 ⟨_, _, _, rfl, rfl, hl, by omega, fun t ht => ?_⟩
          rcases pushNew_mem _ _ _ _ ht with h | h
          · exact hk t (List.mem_cons_of_mem _ h)
          · exact gt.look_kn ha t h
  · cases w with
    | cons a w => simp at hb
    | nil =>
      cases m with
      | zero => cases hl
      | succ m =>
        have ef : f = below L x := Option.some.inj hl
        subst ef
        dsimp only
        refine s_retL c5 (i := 2) rfl (k := 0) rfl fun ls => q pf H5 hpf (e1.trans (e2.trans (e3.trans (e'.trans c5.ex)))) ⟨pf, rfl, ls⟩
end
end FF
/-! the law's own at most, lesser things -/
namespace FF
open PySem PySem.Spec PyProof.Rows L2
open Evl (Ex EvT)
abbrev sTab (L : Tab) : Sh := .hd (eTab L)
def less1 (L : Tab) (c : Nat) (g : List Thing) (w : Thing) : List Thing := (c :: below L c).foldl (fun g s => addOne g (w ++ [s])) g
def lessF (L : Tab) (f : List Thing) (c : Nat) : List Thing := f.foldl (less1 L c) f
/-- the things at most x, the law's way -/
def lesser (L : Tab) (x : Thing) : List Thing := x.foldl (lessF L) [[]]
theorem foldl_snoc {α β : Type} (f : β → α → β) (b : β) (l : List α) (i : Nat) {a : α} (h : l[i]? = some a) : (l.take (i + 1)).foldl f b = f ((l.take i).foldl f b) a := by
  rw [List.take_add_one, h, List.foldl_append]
  rfl
theorem addOne_mem_iff {K : List Thing} {s t : Thing} : t ∈ addOne K s ↔ t ∈ K ∨ t = s := by
  unfold addOne
  split
  · rename_i h
    exact ⟨.inl, fun z => z.elim id fun e => e ▸ h⟩
  · rw [List.mem_append, List.mem_singleton]
theorem addOnes_len {α : Type} (f : α → Thing) : ∀ (l : List α) (g : List Thing), (l.foldl (fun g s => addOne g (f s)) g).length ≤ g.length + l.length
  | [], g => Nat.le_refl _
  | a :: l, g => by
    have h1 := addOnes_len f l (addOne g (f a))
    have h2 := addOne_len g (f a)
    rw [List.foldl_cons, List.length_cons]
    omega
theorem addOnes_mem {α : Type} (f : α → Thing) : ∀ (l : List α) (g : List Thing) (t : Thing), t ∈ l.foldl (fun g s => addOne g (f s)) g ↔ t ∈ g ∨ ∃ a ∈ l, t = f a
  | [], g, t => by simp
  | a :: l, g, t => by
    rw [List.foldl_cons, addOnes_mem f l, addOne_mem_iff]
    constructor
    · rintro ((h | h) | ⟨b, hb, h⟩)
      · exact .inl h
      · exact .inr ⟨a, List.mem_cons_self .., h⟩
      · exact .inr ⟨b, List.mem_cons_of_mem _ hb, h⟩
    · rintro (h | ⟨b, hb, h⟩)
      · exact .inl (.inl h)
      · rcases List.mem_cons.mp hb with e | hb
        · exact .inl (.inr (by rw [h, e]))
        · exact .inr ⟨b, hb, h⟩
theorem less1_mem {L : Tab} {c : Nat} {g : List Thing} {w t : Thing} : t ∈ less1 L c g w ↔ t ∈ g ∨ ∃ s ∈ c :: below L c, t = w ++ [s] := addOnes_mem (fun s => w ++ [s]) _ _ _
theorem lessG_mem {L : Tab} {c : Nat} : ∀ {l g : List Thing} {t : Thing}, t ∈ l.foldl (less1 L c) g ↔ t ∈ g ∨ ∃ w ∈ l, ∃ s ∈ c :: below L c, t = w ++ [s]
  | [], g, t => by simp
  | w :: l, g, t => by
    rw [List.foldl_cons, lessG_mem (l := l), less1_mem]
    constructor
    · rintro ((h | ⟨s, hs, h⟩) | ⟨b, hb, h⟩)
      · exact .inl h
      · exact .inr ⟨w, List.mem_cons_self .., s, hs, h⟩
      · exact .inr ⟨b, List.mem_cons_of_mem _ hb, h⟩
    · rintro (h | ⟨b, hb, h⟩)
      · exact .inl (.inl h)
      · rcases List.mem_cons.mp hb with e | hb
        · subst e
          exact .inl (.inr h)
        · exact .inr ⟨b, hb, h⟩
theorem less1_len {L : Tab} {c : Nat} (h : (below L c).length ≤ 3) {g : List Thing} {w : Thing} : (less1 L c g w).length ≤ g.length + 4 := by
  have := addOnes_len (fun s => w ++ [s]) (c :: below L c) g
  rw [List.length_cons] at this
  unfold less1
  omega
theorem lessG_len {L : Tab} {c : Nat} (h : (below L c).length ≤ 3) : ∀ {l g : List Thing}, (l.foldl (less1 L c) g).length ≤ g.length + 4 * l.length
  | [], g => Nat.le_refl _
  | w :: l, g => by
    have h1 := lessG_len h (l := l) (g := less1 L c g w)
    have h2 := less1_len h (g := g) (w := w)
    rw [List.foldl_cons, List.length_cons]
    omega
/-- words have at most as many letters as were gone through -/
theorem lesser_word {L : Tab} : ∀ (x : Thing), ∀ t ∈ lesser L x, t.length ≤ x.length := fun x => by
  have go : ∀ (x : Thing) (f : List Thing) (n : Nat), (∀ t ∈ f, t.length ≤ n) → ∀ t ∈ x.foldl (lessF L) f, t.length ≤ n + x.length := fun x => by
    induction x with
    | nil => intro f n h t ht; exact h t ht
    | cons c x ih =>
      intro f n h t ht
      rw [List.foldl_cons] at ht
      have := ih (lessF L f c) (n + 1) (fun t ht => by
        rcases lessG_mem.mp ht with h' | ⟨w, hw, s, _, rfl⟩
        · exact Nat.le_succ_of_le (h t h')
        · rw [List.length_append]
          exact Nat.succ_le_succ (h w hw)) t ht
      rw [List.length_cons]
      omega
  intro t ht
  have := go x [[]] 0 (fun t ht => by rw [List.mem_singleton.mp ht]; exact Nat.le_refl _) t ht
  omega
theorem lesser_len {L : Tab} (g : GoodTab L) : ∀ (x : Thing), (∀ c ∈ x, c ∈ names L) → (lesser L x).length ≤ 5 ^ x.length := fun x hx => by
  have go : ∀ (x : Thing) (f : List Thing), (∀ c ∈ x, c ∈ names L) → (x.foldl (lessF L) f).length ≤ f.length * 5 ^ x.length := fun x => by
    induction x with
    | nil => intro f _; simp
    | cons c x ih =>
      intro f h
      rw [List.foldl_cons, List.length_cons, Nat.pow_succ]
      have h1 := ih (lessF L f c) fun d hd => h d (List.mem_cons_of_mem _ hd)
      have h2 : (lessF L f c).length ≤ f.length * 5 := by
        have := lessG_len (g.bln c (h c (List.mem_cons_self ..))) (l := f) (g := f)
        show (f.foldl (less1 L c) f).length ≤ _
        omega
      calc _ ≤ (lessF L f c).length * 5 ^ x.length := h1
        _ ≤ (f.length * 5) * 5 ^ x.length := Nat.mul_le_mul_right _ h2
        _ = f.length * (5 ^ x.length * 5) := by rw [Nat.mul_assoc, Nat.mul_comm 5]
  have := go x [[]] hx
  rw [List.length_singleton, Nat.one_mul] at this
  exact this
section
variable {P : Program} {w : World} {K : PySem.W.Frag} {mg : Str → Option Value} {base : Heap}
def domLAt (ss : List Sh) (d : PyData) : Prop := ∃ (L : Tab) (u v : Thing), ss = [sTab L, .hd (eT u), .hd (eT v)] ∧ GoodTab L ∧ IsThing L v ∧ u.length ≤ 100 ∧ d = .bool (atMost (below L) u v)
theorem sc_law_is_at_most : FnScope ["_law_letters_here", "_law_u", "_law_v", "_law_k", "_law_letter"] ["_law_letters_here", "_law_u", "_law_v"] (defScope (top 84)) := ⟨rfl, rfl, rfl, by decide +kernel, rfl, by decide +kernel, by decide +kernel⟩
theorem c_law_is_at_most (T : Txt K mg) : Cal P w K mg base 2 "_law_is_at_most" (spD domLAt) [] := by
  refine cal_of (k := 1) T 57 (d := d_law_is_at_most) rfl sc_law_is_at_most rfl rfl (fun _ _ _ _ _ _ us hl => match us, hl with | [_, _, _], _ => rfl) (len_D fun _ _ ⟨_, _, _, e, _⟩ => by rw [e]; rfl) (fun f cdv A outer s H vs Q E hr h => ?_)
  obtain ⟨ss, d, r, ⟨L, u, v, rfl, gt, iv, hu, rfl⟩, q⟩ := h
  have c := Cu.entry (N := ["_law_letters_here", "_law_u", "_law_v", "_law_k", "_law_letter"]) r
  refine ⟨_, (pss_cons (ps_set (i := 3) sc_law_is_at_most.nd rfl (by first | exact Or.inl rfl | exact Or.inr rfl) pe_int)
  (pss_cons (ps_for PassesOwn.never rfl (pi_str (pv 2)) (pg_name (i := 4) sc_law_is_at_most.nd rfl (by first | exact Or.inl rfl | exact Or.inr rfl)) (pss_one (ps_if (PW.pt (pw_and (pt_cmpR op_lt (pv 3) (pe_callB call_len_str rfl T.len_ (by decide +kernel) (pa_cons (pv 1) pa_nil)) (nomark _)) (pw_and1 (PW.pt (pw_or (pt_cmpR op_eq (pe_ix ix_str (pv 1) (pv 3) (fun _ _ => rfl)) (pv 4) (nomark _)) (pw_or1 (pt_cmpR (op_in_seqK (K := K) rfl) (pe_ix ix_str (pv 1) (pv 3) (fun _ _ => rfl)) (pe_c (c_law_below T) hr (by decide) rfl (pa_cons (pv 0) (pa_cons (pv 4) pa_nil))) rfl))))))) (pss_one (ps_set (i := 3) sc_law_is_at_most.nd rfl (by first | exact Or.inl rfl | exact Or.inr rfl) (pe_op op_add (pv 3) pe_int))) pss_nil)))
  (pss_one (ps_ret (pe_cmpR op_eq (pv 3) (pe_callB call_len_str rfl T.len_ (by decide +kernel) (pa_cons (pv 1) pa_nil)) (nomark _)))))), ?_⟩
  refine st_seq (s_set c ev_int fun Hb1 σ1 H1 e1 c1 => ?_)
  refine st_seq (s_for c1 (ei_str (c1.var 2)) (fun d _ => tg_name) (fun i cs ms => ms = [] ∧ ∃ (n : Nat) (s : Sh), cs = [sTab L, .hd (eT u), .hd (eT v), .hd (.int n), s] ∧ n ≤ u.length ∧ u.drop n = amRest (below L) u (v.take i)) ⟨rfl, 0, .un, rfl, Nat.zero_le _, rfl⟩ ?_ ?_)
  · rintro Hs es i d Hb' ms' cs' σ' H' N hd e' c' em ⟨rfl, n, s, rfl, hn, hr⟩ hN
    rw [signs_tS, List.getElem?_map] at hd
    obtain ⟨x, hx, rfl⟩ := Option.map_eq_some_iff.mp hd
    have hkn : x ∈ names L := iv.kn x (List.mem_of_getElem? hx)
    have hnx : amRest (below L) u (v.take (i + 1)) = amStep (below L) (u.drop n) x := by
      rw [List.take_add_one, hx, hr]
      exact amRest_snoc _ _ _ _
    have hlt : EvD _ σ' H' (.bool (decide (n < u.length))) := ev_is (ev_lt (c'.var 3) (ev_lenT' (c'.var 1) (by omega))) (congrArg PyData.bool (decide_eq_decide.mpr (by omega)))
    by_cases hlen : n < u.length
    · obtain ⟨a, ha⟩ : ∃ a, u[n]? = some a := ⟨u[n], List.getElem?_eq_getElem hlen⟩
      have hdr : u.drop n = a :: u.drop (n + 1) := by
        rw [List.drop_eq_getElem_cons hlen]
        congr 1
        rw [List.getElem?_eq_getElem hlen] at ha
        exact Option.some.inj ha
      have hix : EvD _ σ' H' (eC a) := ev_signT (c'.var 1) (c'.var 3) rfl ha (by omega)
      refine s_if c' (Evl.et_and (et_test hlt) fun _ => Evl.et_or (et_test (ev_eqS hix (c'.var 4))) fun _ => et_test (ev_inL (x := ⟨#[a]⟩) (ys := (below L x).map sC) (K := K) hix (es_is (ef_call0 (ea_cons (c'.var 0) (ea_cons (c'.var 4) ea_nil)) ⟨L, x, rfl, gt, hkn, rfl⟩).s (by rw [List.map_map]; rfl)))) (fun hb H3 e3 c3 => ?_) (fun hb H3 e3 c3 => ?_)
      · rw [Bool.and_eq_true, Bool.or_eq_true, decC] at hb
        refine s_set c3 (ev_is (ev_add (c3.var 3) ev_int) (by rfl : _ = PyData.int ((n + 1 : Nat) : Int))) fun Hb4 σ4 H4 e4 c4 => ?_
        refine hN Hb4 _ _ _ _ (e'.trans e4) c4 em ⟨rfl, n + 1, _, rfl, hlen, ?_⟩
        rw [hnx, hdr, amStep_pos]
        rcases hb.2 with h | h
        · exact .inl (sC_inj (of_decide_eq_true h))
        · exact .inr (of_decide_eq_true h)
      · refine hN Hb' _ _ _ _ e' c3 em ⟨rfl, n, _, rfl, hn, ?_⟩
        rw [hnx, hdr, amStep_neg]
        intro z
        rw [decide_eq_true hlen, Bool.true_and, Bool.or_eq_false_iff, decC] at hb
        rcases z with z | z
        · subst z
          simp at hb
        · simp [z] at hb
    · refine s_if c' (b := false) (Evl.et_is (Evl.et_and (a := false) (b := false) (et_test (ev_is hlt (congrArg PyData.bool (decide_eq_false hlen)))) (nofun)) rfl) (nofun) (fun hb H3 e3 c3 => ?_)
      refine hN Hb' _ _ _ _ e' c3 em ⟨rfl, n, _, rfl, hn, ?_⟩
      rw [hnx, List.drop_eq_nil_of_le (by omega)]
      rfl
  · rintro Hb' ms' cs' σ' H' e' c' em ⟨rfl, n, s, rfl, hn, hr⟩
    rw [signs_tS, List.length_map, List.take_length] at hr
    refine s_ret (s := .hd (.bool (atMost (below L) u v))) (ev_is (ev_eqI (c'.var 3) (ev_lenT' (c'.var 1) (by omega))) ?_) fun v H' e rv => q v H' ((e1.trans (e'.trans c'.ex)).trans e) rv
    unfold atMost
    rw [← hr]
    congr 1
    by_cases hlen : n < u.length
    · rw [List.drop_eq_getElem_cons hlen]
      exact decide_eq_false (by omega)
    · rw [List.drop_eq_nil_of_le (by omega)]
      exact decide_eq_true (by omega)
def domLesser (ss : List Sh) (s : Sh) : Prop := ∃ (L : Tab) (x : Thing), ss = [.hd (eTab L), .hd (eT x)] ∧ GoodTab L ∧ IsThing L x ∧ s = .ls ((lesser L x).map eT)
theorem putS_seen (K : List Thing) (s : Thing) : putS (seen K) (tS s) (.bool true) = seen (addOne K s) := putS_kn (fun _ => true) K s
theorem sc_law_lesser_things : FnScope ["_law_letters_here", "_law_x", "_law_found", "_law_letter", "_law_word", "_law_sign"] ["_law_letters_here", "_law_x"] (defScope (top 85)) := ⟨rfl, rfl, rfl, by decide +kernel, rfl, by decide +kernel, by decide +kernel⟩
theorem c_law_lesser_things (T : Txt K mg) : Cal P w K mg base 2 "_law_lesser_things" (spF domLesser) [] := by
  refine cal_of (k := 1) T 58 (d := d_law_lesser_things) rfl sc_law_lesser_things rfl rfl (fun _ _ _ _ _ _ us hl => match us, hl with | [_, _], _ => rfl) (len_F fun _ _ ⟨_, _, e, _⟩ => by rw [e]; rfl) (fun f cdv A outer s H vs Q E hr h => ?_)
  obtain ⟨ss, s, r, ⟨L, x, rfl, gt, ix, rfl⟩, q⟩ := h
  have c := Cu.entry (N := ["_law_letters_here", "_law_x", "_law_found", "_law_letter", "_law_word", "_law_sign"]) r
  refine ⟨_, (pss_cons (ps_set (i := 2) sc_law_lesser_things.nd rfl (by first | exact Or.inl rfl | exact Or.inr rfl) (pe_disp (pps_cons pe_str pe_bl pps_nil) rfl rfl (fun z => by cases z) (by decide)))
  (pss_cons (ps_for PassesOwn.never rfl (pi_str (pv 1)) (pg_name (i := 3) sc_law_lesser_things.nd rfl (by first | exact Or.inl rfl | exact Or.inr rfl)) (pss_one (ps_for PassesOwn.never rfl (pi_listK (K := K) rfl (pe_callTy (call_list_dK rfl) rfl T.list_ (by decide +kernel) (pa_cons (pv 2) pa_nil))) (pg_name (i := 4) sc_law_lesser_things.nd rfl (by first | exact Or.inl rfl | exact Or.inr rfl)) (pss_one (ps_for PassesOwn.never rfl (pi_listK (K := K) rfl (pe_op op_cat (pe_lst (pa_cons (pv 3) pa_nil)) (pe_c (c_law_below T) hr (by decide) rfl (pa_cons (pv 0) (pa_cons (pv 3) pa_nil))))) (pg_name (i := 5) sc_law_lesser_things.nd rfl (by first | exact Or.inl rfl | exact Or.inr rfl)) (pss_one (ps_dput (hu_of hr) (pv 2) (pe_op op_add_str (pv 4) (pv 5)) pe_bl rfl)))))))
  (pss_one (ps_ret (pe_callTy (call_list_dK rfl) rfl T.list_ (by decide +kernel) (pa_cons (pv 2) pa_nil)))))), ?_⟩
  have hx := ix.len
  have hpart : ∀ i, ((x.take i).foldl (lessF L) [[]]).length ≤ 625 ∧ ∀ t ∈ (x.take i).foldl (lessF L) [[]], t.length ≤ 4 := fun i => by
    have h0 : (x.take i).length ≤ 4 := by rw [List.length_take]; omega
    have h1 := lesser_len gt (x.take i) fun c hc => ix.kn c (List.mem_of_mem_take hc)
    have h2 := lesser_word (L := L) (x.take i)
    refine ⟨Nat.le_trans h1 (Nat.pow_le_pow_right (by decide) h0), fun t ht => Nat.le_trans (h2 t ht) h0⟩
  refine st_seq ?_
  refine s_setMd (ds := seen [[]]) c (ef_disp1 (k := tS []) ev_str ev_bl) fun p Hb1 σ1 H1 e1 hp c1 => ?_
  dsimp only
  refine st_seq ?_
  refine s_for c1 (ei_str (c1.var 1)) (fun d _ => tg_name) (fun i cs ms => ∃ s3 s4 s5, cs = [.hd (eTab L), .hd (eT x), .vl (.ref p), s3, s4, s5] ∧ ms = [(p, .d (seen ((x.take i).foldl (lessF L) [[]])))]) ⟨_, _, _, rfl, rfl⟩ ?_ ?_
  · rintro Hs es i d Hb2 ms2 cs2 σ2 H2 N2 hd e2 c2 em2 ⟨s3, s4, s5, rfl, rfl⟩ hN2
    rw [signs_tS, List.getElem?_map] at hd
    obtain ⟨a, ha, rfl⟩ := Option.map_eq_some_iff.mp hd
    have han := ix.kn a (List.mem_of_getElem? ha)
    have hbl := gt.bln a han
    rw [foldl_snoc (lessF L) [[]] x i ha] at hN2
    obtain ⟨hf1, hf2⟩ := hpart i
    generalize (x.take i).foldl (lessF L) [[]] = f at hf1 hf2 hN2 c2
    have c2 : Cu Hb2 [(p, .d (seen f))] [.hd (eTab L), .hd (eT x), .vl (.ref p), .hd (eC a), s4, s5] σ2 H2 := c2
    refine s_for c2 (ei_lst (ex_f c2 (ef_is (ef_listD (c2.dvar 2 0)) (by unfold seen; rw [List.map_map]; rfl) : EvF _ σ2 H2 (.ls (f.map eT))))) (fun d _ => tg_name) (fun j cs ms => ∃ s4 s5, cs = [.hd (eTab L), .hd (eT x), .vl (.ref p), .hd (eC a), s4, s5] ∧ ms = [(p, .d (seen ((f.take j).foldl (less1 L a) f)))]) ⟨_, _, rfl, rfl⟩ ?_ ?_
    · rintro Hs3 es3 j d Hb3 ms3 cs3 σ3 H3 N3 hd3 e3 c3 em3 ⟨s4', s5', rfl, rfl⟩ hN3
      rw [List.getElem?_map] at hd3
      obtain ⟨t, ht, rfl⟩ := Option.map_eq_some_iff.mp hd3
      have htl := hf2 t (List.mem_of_getElem? ht)
      rw [foldl_snoc (less1 L a) f f j ht] at hN3
      have hgl := lessG_len hbl (l := f.take j) (g := f)
      rw [List.length_take] at hgl
      generalize (f.take j).foldl (less1 L a) f = g at hgl hN3 c3
      have c3 : Cu Hb3 [(p, .d (seen g))] [.hd (eTab L), .hd (eT x), .vl (.ref p), .hd (eC a), .hd (eT t), s5'] σ3 H3 := c3
      refine s_for c3 (ei_lst (ex_f c3 (ef_is (ef_cat (ef_lst (ds := [eC a]) (ea_cons (c3.var 3) ea_nil) (by show 1 ≤ 100000; decide)).s (ef_call0 (ea_cons (c3.var 0) (ea_cons (c3.var 3) ea_nil)) ⟨L, a, rfl, gt, han, rfl⟩).s (by rw [List.length_map]; show 1 + _ ≤ _; omega)) rfl : EvF _ σ3 H3 (.ls ((a :: below L a).map eC))))) (fun d _ => tg_name) (fun n cs ms => ∃ s5, cs = [.hd (eTab L), .hd (eT x), .vl (.ref p), .hd (eC a), .hd (eT t), s5] ∧ ms = [(p, .d (seen (((a :: below L a).take n).foldl (fun g s => addOne g (t ++ [s])) g)))]) ⟨_, rfl, rfl⟩ ?_ ?_
      · rintro Hs4 es4 n d Hb4 ms4 cs4 σ4 H4 N4 hd4 e4 c4 em4 ⟨s5'', rfl, rfl⟩ hN4
        rw [List.getElem?_map] at hd4
        obtain ⟨b, hb, rfl⟩ := Option.map_eq_some_iff.mp hd4
        rw [foldl_snoc (fun g s => addOne g (t ++ [s])) g (a :: below L a) n hb] at hN4
        have hol := addOnes_len (fun s => t ++ [s]) ((a :: below L a).take n) g
        have : ((a :: below L a).take n).length ≤ 4 := by rw [List.length_take, List.length_cons]; omega
        generalize ((a :: below L a).take n).foldl (fun g s => addOne g (t ++ [s])) g = k at hol hN4 c4
        have c4 : Cu Hb4 [(p, .d (seen k))] [.hd (eTab L), .hd (eT x), .vl (.ref p), .hd (eC a), .hd (eT t), .hd (eC b)] σ4 H4 := c4
        refine s_dput (x := tS (t ++ [b])) c4 (i := 2) rfl (k := 0) rfl (ev_catT (b := [b]) (c4.var 4) (c4.var 5) (by simp; omega)) ev_bl (by unfold seen; rw [List.length_map]; omega) fun H5 c5 => ?_
        rw [putS_seen] at c5
        exact hN4 Hb4 _ _ _ _ e4 c5 em4 ⟨_, rfl, rfl⟩
      · rintro Hb4 ms4 cs4 σ4 H4 e4 c4 em4 ⟨s5'', rfl, rfl⟩
        rw [List.length_map, List.take_length] at c4
        exact hN3 Hb4 _ _ _ _ (e3.trans e4) c4 em3 ⟨_, _, rfl, rfl⟩
    · rintro Hb3 ms3 cs3 σ3 H3 e3 c3 em3 ⟨s4', s5', rfl, rfl⟩
      rw [List.length_map, List.take_length] at c3
      exact hN2 Hb3 _ _ _ _ (e2.trans e3) c3 em2 ⟨_, _, _, rfl, rfl⟩
  · rintro Hb2 ms2 cs2 σ2 H2 e2 c2 em2 ⟨s3, s4, s5, rfl, rfl⟩
    rw [signs_tS, List.length_map, List.take_length] at c2
    dsimp only
    refine s_retF (s := .ls ((lesser L x).map eT)) (ef_is (ef_listD (c2.dvar 2 0)) (by unfold seen; rw [List.map_map]; rfl)) ?_
    exact fun l H3 hl e3 rv => q l H3 (Evl.fresh_back (e1.trans (e2.trans c2.ex)) hl) ((e1.trans (e2.trans c2.ex)).trans e3) rv
end
end FF
/-! the law's own walk -/
namespace FF
open PySem PySem.Spec PyProof.Rows L2
open Evl (Ex EvT)
def goL (F : Thing → Bool) (nt : Bool) : List (Thing × Nat) → Nat → List Thing → Nat × Option (Nat × Thing) × List Thing
  | [], t, K => (t, none, K)
  | (s, k) :: r, t, K => if nt = true ∧ s ∈ K then goL F nt r t K else if F s = true then (t + 1, some (k, s), K ++ [s]) else goL F nt r (t + 1) (K ++ [s])
def walkL (B : Book) (F : Thing → Bool) (nt on : Bool) : Nat → Option (Nat × Thing) → List Thing → Option (List (Thing × Nat))
  | _, none, _ => some []
  | 0, some _, _ => none
  | n + 1, some pl, K => (walkL B F nt on n (goL F nt (steps B pl.2 (if on then pl.1 else 0)) 0 K).2.1 (goL F nt (steps B pl.2 (if on then pl.1 else 0)) 0 K).2.2).map fun r => (pl.2, (goL F nt (steps B pl.2 (if on then pl.1 else 0)) 0 K).1) :: r
theorem walkL_none (B : Book) (F : Thing → Bool) (nt on : Bool) (n : Nat) (K : List Thing) : walkL B F nt on n none K = some [] := by
  cases n <;> rfl
theorem goL_len {F : Thing → Bool} {nt : Bool} : ∀ {st : List (Thing × Nat)} {t : Nat} {K : List Thing}, (goL F nt st t K).2.2.length ≤ K.length + st.length
  | [], _, _ => Nat.le_refl _
  | (s, k) :: r, t, K => by
    unfold goL
    split
    · have := goL_len (F := F) (nt := nt) (st := r) (t := t) (K := K)
      rw [List.length_cons]
      omega
    · split
      · show (K ++ [s]).length ≤ _
        simp
      · have := goL_len (F := F) (nt := nt) (st := r) (t := t + 1) (K := K ++ [s])
        simp only [List.length_append, List.length_cons, List.length_nil] at this ⊢
        omega
theorem goL_next {F : Thing → Bool} {nt : Bool} : ∀ {st : List (Thing × Nat)} {t : Nat} {K : List Thing} {k : Nat} {s : Thing}, (goL F nt st t K).2.1 = some (k, s) → (s, k) ∈ st ∧ F s = true
  | [], _, _, _, _, h => by cases h
  | (s, k) :: r, t, K, k', s', h => by
    unfold goL at h
    split at h
    · have := goL_next h
      exact ⟨List.mem_cons_of_mem _ this.1, this.2⟩
    · split at h
      · rename_i hf
        have h : some (k, s) = some (k', s') := h
        cases h
        exact ⟨List.mem_cons_self .., hf⟩
      · have := goL_next h
        exact ⟨List.mem_cons_of_mem _ this.1, this.2⟩
def eLate : Option Thing → PyData
  | none => .none
  | some s => eT s
theorem late_non : ∀ (o : Option Thing) (v : V) (H : Hp), Rp H (eLate o) v → decide (v = .non) = !o.isSome
  | none, v, H, r => decide_eq_true (show v = .non from r)
  | some s, v, H, r => by
    have e : v = .str (tS s) := r
    subst e
    rfl
theorem late_non2 : ∀ (o : Option Thing) (v : V) (H : Hp), Rp H (eLate o) v → decide (v = .non) = o.isNone
  | none, v, H, r => decide_eq_true (show v = .non from r)
  | some s, v, H, r => by
    have e : v = .str (tS s) := r
    subst e
    rfl
theorem s_asgTup {K : PySem.W.Frag} {ta : TA} {n : Nat} {t : TGs} {D : Ends} {σ : L2.St} {H : Hp} (h : ta σ H fun xs H1 => xs.length ≤ sizeLine ∧ ∀ p, H1 p = none → ∃ a ys, V.ref p = .ref a ∧ SqT K (L2.upd H1 p (.tup xs)) a ys ∧ ys.length = n ∧ t ys σ (L2.upd H1 p (.tup xs)) D.nx) : tAsg (tTup ta) (gTup K n t) D σ H := h
theorem cnt_snoc (r : List (Thing × Nat)) (y : Thing) (t : Nat) : cnt (r ++ [(y, t)]) = cnt r + (t : Int) := by
  unfold cnt
  rw [List.map_append, List.sum_append]
  simp
theorem cnt_nn (r : List (Thing × Nat)) : 0 ≤ cnt r := by
  unfold cnt
  induction r with
  | nil => exact Int.le_refl _
  | cons p r ih =>
    rw [List.map_cons, List.sum_cons]
    omega
theorem cnt_app (r q : List (Thing × Nat)) : cnt (r ++ q) = cnt r + cnt q := by
  unfold cnt
  rw [List.map_append, List.sum_append]
section
variable {P : Program} {w : World} {K : PySem.W.Frag} {mg : Str → Option Value} {base : Heap}
def domLWalked (ss : List Sh) (s : Sh) : Prop := ∃ (B : Book) (fi : List Thing) (x : Thing) (on nt : Bool) (n : Nat) (rows : List (Thing × Nat)), ss = [.hd (eBook B), .ls (fi.map eT), .hd (eT x), .hd (eMan on), .hd (.bool nt), .hd (.int 100000)] ∧ GoodBook B ∧ IsThing B.tab x ∧ n ≤ 1000 ∧
  walkL B (fun s => decide (s ∈ fi)) nt on n (some (0, x)) [x] = some rows ∧ cnt rows ≤ 100000 ∧ rows.length ≤ 1000 ∧ s = .ls (rows.map eTry)
theorem sc_law_walked : FnScope ["_law_book_here", "_law_fails_in", "_law_x", "_law_style", "_law_noted", "_law_most", "_law_found", "_law_here", "_law_rule_here", "_law_known", "_law_total", "_law_count_here", "_law_late", "_law_step", "_law_r"] ["_law_book_here", "_law_fails_in", "_law_x", "_law_style", "_law_noted", "_law_most"] (defScope (top 86)) := ⟨rfl, rfl, rfl, by decide +kernel, rfl, by decide +kernel, by decide +kernel⟩
theorem c_law_walked (T : Txt K mg) : Cal P w K mg base 3 "_law_walked" (spF domLWalked) [] := by
  refine cal_of (k := 2) T 59 (d := d_law_walked) rfl sc_law_walked rfl rfl (fun _ _ _ _ _ _ us hl => match us, hl with | [_, _, _, _, _, _], _ => rfl) (len_F fun _ _ ⟨_, _, _, _, _, _, _, e, _⟩ => by rw [e]; rfl) (fun f cdv A outer s H vs Q E hr h => ?_)
  obtain ⟨ss, s, r, ⟨B, fi, x, on, nt, n, rows, rfl, gb, ix, hn, hw, hcn, hrl, rfl⟩, q⟩ := h
  have c := Cu.entry (N := ["_law_book_here", "_law_fails_in", "_law_x", "_law_style", "_law_noted", "_law_most", "_law_found", "_law_here", "_law_rule_here", "_law_known", "_law_total", "_law_count_here", "_law_late", "_law_step", "_law_r"]) r
  refine ⟨_, (pss_cons (ps_asg (pe_tup (pa_cons (pe_lst pa_nil) (pa_cons (pv 2) (pa_cons pe_int (pa_cons (pe_lst (pa_cons (pv 2) pa_nil)) (pa_cons pe_int pa_nil)))))) (pg_tupK (K := K) (n := 5) rfl rfl (pgs_cons (pg_name (i := 6) sc_law_walked.nd rfl (by first | exact Or.inl rfl | exact Or.inr rfl)) (pgs_cons (pg_name (i := 7) sc_law_walked.nd rfl (by first | exact Or.inl rfl | exact Or.inr rfl)) (pgs_cons (pg_name (i := 8) sc_law_walked.nd rfl (by first | exact Or.inl rfl | exact Or.inr rfl)) (pgs_cons (pg_name (i := 9) sc_law_walked.nd rfl (by first | exact Or.inl rfl | exact Or.inr rfl)) (pgs_cons (pg_name (i := 10) sc_law_walked.nd rfl (by first | exact Or.inl rfl | exact Or.inr rfl)) pgs_nil))))) rfl rfl))
  (pss_cons (ps_while PassesOwn.never (pt_cmp (pc_notN (pv 7)) rfl) (pss_cons (ps_asg (pe_tup (pa_cons pe_int (pa_cons pe_non pa_nil))) (pg_two (K := K) (i := 11) (j := 12) rfl rfl sc_law_walked.nd rfl rfl (by first | exact Or.inl rfl | exact Or.inr rfl) (by first | exact Or.inl rfl | exact Or.inr rfl) (by first | exact Or.inl rfl | exact Or.inr rfl) (by first | exact Or.inl rfl | exact Or.inr rfl)))
  (pss_cons (ps_for PassesOwn.never rfl (pi_listK (K := K) rfl (pe_c (c_law_steps T) hr (by decide) rfl (pa_cons (pv 0) (pa_cons (pv 7) (pa_cons (pe_ifExp (pt_cmpR op_eq (pv 3) pe_str (nomark _)) (pv 8) pe_int) pa_nil))))) (pg_two (K := K) (i := 13) (j := 14) rfl rfl sc_law_walked.nd rfl rfl (by first | exact Or.inl rfl | exact Or.inr rfl) (by first | exact Or.inl rfl | exact Or.inr rfl) (by first | exact Or.inl rfl | exact Or.inr rfl) (by first | exact Or.inl rfl | exact Or.inr rfl)) (pss_one (ps_if (PW.pt (pw_and (pt_cmp (pc_isN (pv 12)) rfl) (pw_and1 (pt_not (PW.pt (pw_and (pt_val (pv 4)) (pw_and1 (pt_cmpR (op_in_seqK (K := K) rfl) (pv 13) (pv 9) rfl)))))))) (pss_cons (ps_par (i := 11) (j := 9) rfl sc_law_walked.nd rfl rfl (by decide) rfl rfl (pa_cons (pe_op op_add (pv 11) pe_int) (pa_cons (pe_op op_cat (pv 9) (pe_lst (pa_cons (pv 13) pa_nil))) pa_nil)) rfl)
  (pss_one (ps_if (pt_cmpR (op_in_seqK (K := K) rfl) (pv 13) (pv 1) rfl) (pss_one (ps_par (i := 12) (j := 8) rfl sc_law_walked.nd rfl rfl (by decide) rfl rfl (pa_cons (pv 13) (pa_cons (pv 14) pa_nil)) rfl)) pss_nil))) pss_nil)))
  (pss_cons (ps_expr (pe_bmK (K := K) rfl PySem.F.plainAttrs_list PySem.F.slot_list_append PySem.F.type_list_append mt_append (pv 6) (pa_cons (pe_tup (pa_cons (pv 7) (pa_cons (pv 11) pa_nil))) pa_nil)))
  (pss_cons (ps_set (i := 10) sc_law_walked.nd rfl (by first | exact Or.inl rfl | exact Or.inr rfl) (pe_op op_add (pv 10) (pv 11)))
  (pss_cons (ps_if (pt_cmpR op_gt (pv 10) (pv 5) (nomark _)) (pss_one (ps_ret pe_non)) pss_nil)
  (pss_one (ps_set (i := 7) sc_law_walked.nd rfl (by first | exact Or.inl rfl | exact Or.inr rfl) (pv 12)))))))))
  (pss_one (ps_ret (pv 6))))), ?_⟩
  refine st_seq ?_
  refine s_asgTup (la_new c (ef_lst (ds := []) ea_nil (by decide)) fun p Hb1 H1 e1 hp c1 => la_hd c1 (c1.var 2) fun v2 Hb2 H2 e2 c2 r2 => la_hd c2 (d := eI 0) ev_int fun v3 Hb3 H3 e3 c3 r3 => la_ls c3 (ef_lst (ds := [x].map eT) (ea_cons (c3.var 2) ea_nil) (by show 1 ≤ 100000; decide)) fun pk Hb4 H4 e4 c4 r4 => la_hd c4 (d := eI 0) ev_int fun v5 Hb5 H5 e5 c5 r5 => la_nil ⟨by show 5 ≤ sizeLine; decide, fun Tt hT => ⟨Tt, _, rfl, .inl (.inl upd_same), rfl, _, _, rfl, _, _, rfl, _, _, rfl, _, _, rfl, _, _, rfl, rfl, ?_⟩⟩)
  have ex05 : Ex H Hb5 := e1.trans (e2.trans (e3.trans (e4.trans e5)))
  have c6 : Cu Hb5 [(p, .l (([] : List (Thing × Nat)).map eTry))] [.hd (eBook B), .ls (fi.map eT), .hd (eT x), .hd (eMan on), .hd (.bool nt), .hd (.int 100000), .vl (.ref p), .hd (eLate (some x)), .hd (eI 0), .ls ([x].map eT), .hd (.int (cnt [])), .un, .un, .un, .un] _ _ :=
    (((((c5.ext (Evl.Ex.new (o := .tup [.ref p, v2, v3, .ref pk, v5]) hT)).put (i := 6) (s := .vl (.ref p)) (v := .ref p) rfl).put (i := 7) (s := .hd (eT x)) (v := v2) (Rp.mono (Ex.pr (e3.trans (e4.trans e5))) r2)).put (i := 8) (s := .hd (eI 0)) (v := v3) (Rp.mono (Ex.pr (e4.trans e5)) r3)).put (i := 9) (s := .ls ([x].map eT)) (v := .ref pk) ⟨pk, rfl, r4.mono e5⟩).put (i := 10) (s := .hd (eI 0)) (v := v5) r5
  dsimp only
  refine st_seq ?_
  refine s_while c6 (fun m cs ms => ∃ (o : Option (Nat × Thing)) (r0 : List (Thing × Nat)) (Kn : List Thing) (kk : Nat) (s11 s12 s13 s14 : Sh), cs = [.hd (eBook B), .ls (fi.map eT), .hd (eT x), .hd (eMan on), .hd (.bool nt), .hd (.int 100000), .vl (.ref p), .hd (eLate (o.map (·.2))), .hd (eI kk), .ls (Kn.map eT), .hd (.int (cnt r0)), s11, s12, s13, s14] ∧ ms = [(p, .l (r0.map eTry))] ∧
    (walkL B (fun s => decide (s ∈ fi)) nt on m o Kn).map (fun r => r0 ++ r) = some rows ∧ (∀ k y, o = some (k, y) → IsThing B.tab y ∧ k ≤ B.rules.length ∧ kk = k) ∧ Kn.length + 80 * m ≤ 90000) (m0 := n) ⟨some (0, x), [], [x], 0, _, _, _, _, rfl, rfl, by rw [hw]; rfl, fun k y e => by cases e; exact ⟨ix, Nat.zero_le _, rfl⟩, by simp; omega⟩ ?_
  rintro m Hb' ms' cs' σ' H' e' c' em ⟨o, r0, Kn, kk, s11, s12, s13, s14, rfl, rfl, hgo, hok, hKn⟩
  refine ⟨(o.map (·.2)).isSome, et_B (ev_notN (c'.var 7) (late_non (o.map (·.2)))), fun hb H7 N c7 hN => ?_, fun hb H7 c7 => ?_⟩
  · cases o with
    | none => cases hb
    | some pl =>
      obtain ⟨k0, y⟩ := pl
      obtain ⟨iy, hk0, hkk⟩ := hok k0 y rfl
      subst hkk
      cases m with
      | zero => cases hgo
      | succ m =>
        have hfirst : (if on then kk else 0) ≤ B.rules.length := by
          split
          · exact hk0
          · exact Nat.zero_le _
        have hsl := steps_len gb iy hfirst
        have hok2 := fun p hp => steps_ok (p := p) gb iy hfirst hp
        have hgo : ((walkL B (fun s => decide (s ∈ fi)) nt on m (goL (fun s => decide (s ∈ fi)) nt (steps B y (if on then kk else 0)) 0 Kn).2.1 (goL (fun s => decide (s ∈ fi)) nt (steps B y (if on then kk else 0)) 0 Kn).2.2).map fun r => (y, (goL (fun s => decide (s ∈ fi)) nt (steps B y (if on then kk else 0)) 0 Kn).1) :: r).map (fun r => r0 ++ r) = some rows := hgo
        have hgl := goL_len (F := fun s => decide (s ∈ fi)) (nt := nt) (st := steps B y (if on then kk else 0)) (t := 0) (K := Kn)
        have hnx := fun k s h => goL_next (F := fun s => decide (s ∈ fi)) (nt := nt) (st := steps B y (if on then kk else 0)) (t := 0) (K := Kn) (k := k) (s := s) h
        rw [Option.map_map] at hgo
        have hr0 : r0.length ≤ 1000 ∧ cnt r0 + ((goL (fun s => decide (s ∈ fi)) nt (steps B y (if on then kk else 0)) 0 Kn).1 : Int) ≤ 100000 := by
          obtain ⟨r, hr, e⟩ := Option.map_eq_some_iff.mp hgo
          have h1 := congrArg List.length e
          have h2 := congrArg cnt e
          simp only [Function.comp, List.length_append] at h1
          simp only [Function.comp] at h2
          rw [cnt_app, show ∀ (a : Thing × Nat) l, a :: l = [a] ++ l from fun _ _ => rfl, cnt_app] at h2
          have h3 := cnt_nn r
          have h4 : cnt [(y, (goL (fun s => decide (s ∈ fi)) nt (steps B y (if on then kk else 0)) 0 Kn).1)] = ((goL (fun s => decide (s ∈ fi)) nt (steps B y (if on then kk else 0)) 0 Kn).1 : Int) := by
            unfold cnt
            simp
          omega
        generalize hst : steps B y (if on then kk else 0) = st at hgo hgl hnx hr0 hsl hok2
        generalize hres : goL (fun s => decide (s ∈ fi)) nt st 0 Kn = res at hgo hgl hnx hr0
        refine st_seq ?_
        refine s_asgT c7 (d := .tuple [eI 0, eLate none]) (ev_tup (ds := [_, _]) (ea_cons ev_int (ea_cons ev_non ea_nil)) (by show 2 ≤ 100000; decide)) (tg_2 (i := 11) (j := 12) ⟨_, _, rfl⟩) fun Hb9 σ9 H9 e9 c9 => ?_
        have c10 : Cu Hb9 [(p, .l (r0.map eTry))] [.hd (eBook B), .ls (fi.map eT), .hd (eT x), .hd (eMan on), .hd (.bool nt), .hd (.int 100000), .vl (.ref p), .hd (eT y), .hd (eI kk), .ls (Kn.map eT), .hd (.int (cnt r0)), .hd (eI 0), .hd (eLate none), s13, s14] σ9 H9 := c9
        dsimp only
        refine st_seq ?_
        refine s_for c10 (ei_lst (K := K) (ds := st.map eTry) (ex_f c10 (ef_is (ef_call0 (ea_cons (c10.var 0) (ea_cons (c10.var 7) (ea_cons (s := .hd (eI (if on then kk else 0))) (ev_if (b := on) (et_test (ev_is (ev_eqS (c10.var 3) ev_str) (congrArg PyData.bool (man_on on)))) (fun hb => by rw [hb]; exact c10.var 8) (fun hb => by rw [hb]; exact ev_int)) ea_nil))) ⟨B, y, if on then kk else 0, rfl, gb, iy, hfirst, rfl⟩) (by rw [hst])))) (js := [13, 14]) (u := u2 13 14) (fun d hd => ?_) (fun i cs' ms => ∃ (t : Nat) (K' : List Thing) (late : Option Thing) (k' : Nat) (s13 s14 : Sh), cs' = [.hd (eBook B), .ls (fi.map eT), .hd (eT x), .hd (eMan on), .hd (.bool nt), .hd (.int 100000), .vl (.ref p), .hd (eT y), .hd (eI k'), .ls (K'.map eT), .hd (.int (cnt r0)), .hd (eI t), .hd (eLate late), s13, s14] ∧ ms = [(p, .l (r0.map eTry))] ∧ K'.length ≤ 90000 + i ∧
            (late = none → goL (fun s => decide (s ∈ fi)) nt (st.drop i) t K' = res) ∧ (∀ s, late = some s → res = (t, some (k', s), K'))) ⟨0, Kn, none, kk, _, _, rfl, rfl, by omega, fun _ => by rw [List.drop_zero]; exact hres, (nofun)⟩ ?_ ?_
        · obtain ⟨p', _, rfl⟩ := List.mem_map.mp hd
          exact tg_2 ⟨_, _, rfl⟩
        · rintro Hs es2 i d Hb11 ms11 cs11 σ11 H11 N11 hd e11 c11 em11 ⟨t, K', late, k', s13', s14', rfl, rfl, hKl, hl1, hl2⟩ hN11
          rw [List.getElem?_map] at hd
          obtain ⟨pr, hpr, rfl⟩ := Option.map_eq_some_iff.mp hd
          obtain ⟨s, k⟩ := pr
          have hil : i < st.length := (List.getElem?_eq_some_iff.mp hpr).1
          obtain ⟨is, hk, hsx⟩ := hok2 _ (List.mem_of_getElem? hpr)
          have c11 : Cu Hb11 [(p, .l (r0.map eTry))] [.hd (eBook B), .ls (fi.map eT), .hd (eT x), .hd (eMan on), .hd (.bool nt), .hd (.int 100000), .vl (.ref p), .hd (eT y), .hd (eI k'), .ls (K'.map eT), .hd (.int (cnt r0)), .hd (eI t), .hd (eLate late), .hd (eT s), .hd (eI k)] σ11 H11 := c11
          have hdr : st.drop i = (s, k) :: st.drop (i + 1) := by
            rw [List.drop_eq_getElem_cons hil]
            congr 1
            rw [List.getElem?_eq_getElem hil] at hpr
            exact Option.some.inj hpr
          have hin : ∀ (H2 : Hp), Cu Hb11 [(p, .l (r0.map eTry))] [.hd (eBook B), .ls (fi.map eT), .hd (eT x), .hd (eMan on), .hd (.bool nt), .hd (.int 100000), .vl (.ref p), .hd (eT y), .hd (eI k'), .ls (K'.map eT), .hd (.int (cnt r0)), .hd (eI t), .hd (eLate late), .hd (eT s), .hd (eI k)] σ11 H2 → EvD (tOp (rIn K false) (tVar 13) (tVar 9)) σ11 H2 (.bool (decide (s ∈ K'))) := fun H2 c2 =>
            ev_is (ev_inL (x := tS s) (ys := K'.map tS) (c2.var 13) (es_is (c2.var 9) (by rw [eT_str]))) (congrArg PyData.bool (decide_eq_decide.mpr ⟨fun h => by
              obtain ⟨z, hz, e⟩ := List.mem_map.mp h
              rw [← tS_inj e]
              exact hz, fun h => List.mem_map_of_mem h⟩))
          refine s_if c11 (b := late.isNone && !(nt && decide (s ∈ K'))) (Evl.et_and (et_B (ev_isN (c11.var 12) (late_non2 late))) fun _ => Evl.et_not (Evl.et_and (et_B (c11.var 4)) fun _ => et_test (hin _ c11))) (fun hb H12 e12 c12 => ?_) (fun hb H12 e12 c12 => ?_)
          · rw [Bool.and_eq_true] at hb
            obtain ⟨hbn, hb2⟩ := hb
            have hlate : late = none := by
              cases late with
              | none => rfl
              | some _ => cases hbn
            subst hlate
            have hnk : ¬ (nt = true ∧ s ∈ K') := fun z => by
              rw [z.1, decide_eq_true z.2] at hb2
              cases hb2
            have hg := hl1 rfl
            rw [hdr] at hg
            unfold goL at hg
            rw [if_neg hnk] at hg
            refine st_seq ?_
            refine s_par (la_hd c12 (d := eI (t + 1)) (ev_add (c12.var 11) ev_int) fun v1 Hb13 H13 e13 c13 r13 => la_ls c13 (ds := (K' ++ [s]).map eT) (ef_is (ef_cat (c13.var 9) (ef_lst (ds := [eT s]) (ea_cons (c13.var 13) ea_nil) (by show 1 ≤ 100000; decide)).s (by rw [List.length_map]; show _ + 1 ≤ _; omega)) (by rw [List.map_append]; rfl)) fun pk2 Hb14 H14 e14 c14 r14 => la_nil ⟨_, _, rfl, ?_⟩)
            have c15 : Cu Hb14 [(p, .l (r0.map eTry))] [.hd (eBook B), .ls (fi.map eT), .hd (eT x), .hd (eMan on), .hd (.bool nt), .hd (.int 100000), .vl (.ref p), .hd (eT y), .hd (eI k'), .ls ((K' ++ [s]).map eT), .hd (.int (cnt r0)), .hd (eI (t + 1)), .hd (eLate none), .hd (eT s), .hd (eI k)] _ H14 := (c14.put (i := 11) (s := .hd (eI (t + 1))) (v := v1) (Rp.mono (Ex.pr e14) r13)).put (i := 9) (s := .ls ((K' ++ [s]).map eT)) (v := .ref pk2) ⟨pk2, rfl, r14⟩
            dsimp only
            refine s_if c15 (b := decide (s ∈ fi)) (et_test (ev_is (ev_inL (x := tS s) (ys := fi.map tS) (K := K) (c15.var 13) (es_is (c15.var 1) (by rw [eT_str]))) (congrArg PyData.bool (decide_eq_decide.mpr ⟨fun h => by
              obtain ⟨z, hz, e⟩ := List.mem_map.mp h
              rw [← tS_inj e]
              exact hz, fun h => List.mem_map_of_mem h⟩)))) (fun hf H16 e16 c16 => ?_) (fun hf H16 e16 c16 => ?_)
            · rw [if_pos hf] at hg
              refine s_par (la_hd c16 (d := eT s) (c16.var 13) fun v1 Hb17 H17 e17 c17 r17 => la_hd c17 (d := eI k) (c17.var 14) fun v2 Hb18 H18 e18 c18 r18 => la_nil ⟨_, _, rfl, ?_⟩)
              have c19 : Cu Hb18 [(p, .l (r0.map eTry))] [.hd (eBook B), .ls (fi.map eT), .hd (eT x), .hd (eMan on), .hd (.bool nt), .hd (.int 100000), .vl (.ref p), .hd (eT y), .hd (eI k), .ls ((K' ++ [s]).map eT), .hd (.int (cnt r0)), .hd (eI (t + 1)), .hd (eLate (some s)), .hd (eT s), .hd (eI k)] _ H18 := (c18.put (i := 12) (s := .hd (eT s)) (v := v1) (Rp.mono (Ex.pr e18) r17)).put (i := 8) (s := .hd (eI k)) (v := v2) r18
              exact hN11 Hb18 _ _ _ _ (e11.trans (e13.trans (e14.trans (e17.trans e18)))) c19 em11 ⟨t + 1, K' ++ [s], some s, k, _, _, rfl, rfl, by simp; omega, (nofun), fun s' e => by cases e; exact hg.symm⟩
            · rw [if_neg (by rw [hf]; exact Bool.false_ne_true)] at hg
              exact hN11 Hb14 _ _ _ _ (e11.trans (e13.trans e14)) c16 em11 ⟨t + 1, K' ++ [s], none, k', _, _, rfl, rfl, by simp; omega, fun _ => hg, (nofun)⟩
          · refine hN11 Hb11 _ _ _ _ e11 c12 em11 ⟨t, K', late, k', _, _, rfl, rfl, by omega, fun hl => ?_, hl2⟩
            subst hl
            have hg := hl1 rfl
            rw [hdr] at hg
            unfold goL at hg
            have hk2 : nt = true ∧ s ∈ K' := by
              have hb2 : (nt && decide (s ∈ K')) = true := by
                cases hz : (nt && decide (s ∈ K')) with
                | true => rfl
                | false => rw [hz] at hb; cases hb
              rw [Bool.and_eq_true] at hb2
              exact ⟨hb2.1, of_decide_eq_true hb2.2⟩
            rw [if_pos hk2] at hg
            exact hg
        · rintro Hb11 ms11 cs11 σ11 H11 e11 c11 em11 ⟨t, K', late, k', s13', s14', rfl, rfl, hKl, hl1, hl2⟩
          rw [List.length_map, List.drop_length] at hl1
          have hr : res.1 = t ∧ res.2.2 = K' ∧ res.2.1.map (·.2) = late ∧ ∀ k z, res.2.1 = some (k, z) → k' = k := by
            cases late with
            | none =>
              have h := hl1 rfl
              have h : (t, none, K') = res := h
              subst h
              exact ⟨rfl, rfl, rfl, (nofun)⟩
            | some s =>
              have h := hl2 s rfl
              subst h
              exact ⟨rfl, rfl, rfl, fun k z e => by cases e; rfl⟩
          obtain ⟨h1, h2, h3, h4⟩ := hr
          dsimp only
          refine st_seq ?_
          refine s_app (d := eTry (y, t)) c11 (i := 6) rfl (k := 0) rfl (ev_tup (ds := [_, _]) (ea_cons (c11.var 7) (ea_cons (c11.var 11) ea_nil)) (by show 2 ≤ 100000; decide)) (by rw [List.length_map]; omega) fun H12 c12 => ?_
          dsimp only
          refine st_seq ?_
          refine s_set (d := .int (cnt (r0 ++ [(y, t)]))) c12 (ev_is (ev_add (c12.var 10) (c12.var 11)) (by rw [cnt_snoc])) fun Hb13 σ13 H13 e13 c13 => ?_
          have htot : cnt (r0 ++ [(y, t)]) ≤ 100000 := by rw [cnt_snoc, ← h1]; exact hr0.2
          dsimp only
          refine st_seq ?_
          refine s_if c13 (b := false) (et_test (ev_is (ev_gt (c13.var 10) (c13.var 5)) (congrArg PyData.bool (decide_eq_false (by omega))))) (nofun) fun _ H14 e14 c14 => ?_
          dsimp only [tNext]
          refine s_set (d := eLate late) c14 (c14.var 12) fun Hb15 σ15 H15 e15 c15 => ?_
          have c15 : Cu Hb15 [(p, .l ((r0 ++ [(y, t)]).map eTry))] [.hd (eBook B), .ls (fi.map eT), .hd (eT x), .hd (eMan on), .hd (.bool nt), .hd (.int 100000), .vl (.ref p), .hd (eLate (res.2.1.map (·.2))), .hd (eI k'), .ls (res.2.2.map eT), .hd (.int (cnt (r0 ++ [(y, t)]))), .hd (eI t), .hd (eLate late), s13', s14'] σ15 H15 := by
            rw [h3, h2, List.map_append]
            exact c15
          refine hN m Hb15 _ _ _ _ (Nat.lt_succ_self m) (e'.trans (e9.trans (e11.trans (e13.trans e15)))) c15 em ⟨res.2.1, r0 ++ [(y, t)], res.2.2, k', _, _, _, _, rfl, rfl, ?_, fun k z hz => ?_, by omega⟩
          · rw [← hgo]
            congr 1
            funext r
            show (r0 ++ [(y, t)]) ++ r = r0 ++ ((y, res.1) :: r)
            rw [h1, List.append_assoc]
            rfl
          · obtain ⟨a1, a2, _⟩ := hok2 _ (hnx k z hz).1
            exact ⟨a1, Nat.le_of_lt a2, h4 k z hz⟩
  · cases o with
    | some pl => cases hb
    | none =>
      rw [walkL_none] at hgo
      have hgo : some (r0 ++ []) = some rows := hgo
      rw [List.append_nil] at hgo
      have hgo := Option.some.inj hgo
      subst hgo
      dsimp only
      refine s_retL c7 (i := 6) rfl (k := 0) rfl fun ls => q p H7 hp (ex05.trans (e'.trans c7.ex)) ⟨p, rfl, ls⟩
end
end FF
/-! the law's walk by causes, its count -/
namespace FF
open PySem PySem.Spec PyProof.Rows L2
open Evl (Ex EvT)
section
variable {X : Cx} {tg : Expr}
def iAny (K : PySem.W.Frag) (tl : TE) : TI := fun σ H R => tl σ H fun x H1 => ∃ a, x = .ref a ∧ (((∃ xs, SqL K H1 a xs) ∧ R (Itl K a) H1) ∨ ((∃ xs, SqT K H1 a xs) ∧ R (Itt K a) H1))
theorem pi_any {K : PySem.W.Frag} {l : Expr} {tl : TE} (hK : X.K = K) (hl : PE X l tl) : PI X tg l (iAny K tl) := by
  subst hK
  refine ⟨fun pins s σ H R I h => ?_⟩
  refine thn (hl.run pins s σ H _ I h) fun v s1 ⟨x, H1, I1, r1, q1⟩ => ?_
  obtain ⟨a, e, q1⟩ := q1
  subst e
  cases r1
  have fr : ∀ b ∈ [s1.heap.objs.size], FpOk X pins H1 b := fun b hb => by
    have e : b = s1.heap.objs.size := by simpa using hb
    subst e
    exact I1.fpOk (Nat.le_refl _) (I1.hok.fresh (Nat.le_refl _))
  rcases q1 with ⟨⟨xs, hq⟩, q⟩ | ⟨⟨xs, hq⟩, q⟩
  · obtain ⟨its, rv, p, hz⟩ := I1.list hq
    refine wpAny_pyIter_list p.isList ?_
    exact ⟨s1.heap.objs.size, [s1.heap.objs.size], _, _, H1, rfl, I1.kept (t' := s1.toks) fun b o e => Heap.get?_push_of_some _ e, turn_list a _, ⟨_, Heap.get?_push_size _ rfl, rfl, rfl⟩, fr, q⟩
  · obtain ⟨its, rv, p, hz⟩ := I1.tuple hq
    refine wpAny_pyIter_tuple (show s1.heap.IsTuple a its.toArray from p) ?_
    exact ⟨s1.heap.objs.size, [s1.heap.objs.size], _, _, H1, rfl, I1.kept (t' := s1.toks) fun b o e => Heap.get?_push_of_some _ e, turn_tuple a _, ⟨_, Heap.get?_push_size _ rfl, rfl, rfl⟩, fr, q⟩
end
/-- a list or a tuple of data -/
def SeqSh (ds : List PyData) (s : Sh) : Prop := s = .ls ds ∨ s = .hd (.tuple ds)
theorem ei_any {K : PySem.W.Frag} {σ : L2.St} {H : Hp} {te : TE} {s : Sh} {ds : List PyData} (hs : SeqSh ds s) (h : EvS te σ H s) : EvI (iAny K te) σ H [] ds := by
  rcases hs with rfl | rfl
  · intro H1 e R r
    have h1 := ei_lst (K := K) (ex_0 h) H1 e R r
    refine ?_
    exact h H1 e _ fun v H2 e2 rv => by
      obtain ⟨a, rfl, xs, g1, g2⟩ := rv
      refine ⟨a, rfl, .inl ⟨⟨xs, SqL.of g1⟩, r (Itl K a) H2 (fun H3 => SqL K H3 a xs) (YAt xs) e2 (by rw [g2.length]; exact walk_list) (fun H3 b => SqL.of (b a _ g1 List.not_mem_nil)) fun i H3 x H4 hi b pr y => ?_⟩⟩
      obtain ⟨rfl, y2⟩ := y
      obtain ⟨d, hd, rd⟩ := g2.getV y2
      exact ⟨Ex.refl _, d, hd, rd.mono pr⟩
  · intro H1 e R r
    exact h H1 e _ fun v H2 e2 rv => by
      obtain ⟨a, xs, rfl, g1, g2⟩ := rv
      refine ⟨a, rfl, .inr ⟨⟨xs, .inl g1⟩, r (Itt K a) H2 (fun H3 => SqT K H3 a xs) (YAt xs) e2 (by rw [g2.length]; exact walk_tup) (fun H3 b => .inl ((Ex.pr (fun a o h => b a o h List.not_mem_nil)).rd g1)) fun i H3 x H4 hi b pr y => ?_⟩⟩
      obtain ⟨rfl, y2⟩ := y
      obtain ⟨d, hd, rd⟩ := g2.getV y2
      exact ⟨Ex.refl _, d, hd, rd.mono pr⟩
/-- the law's failing things -/
def failIn (L : Tab) (cs near : List Thing) : List Thing := near.filter fun s => cs.any fun u => atMost (below L) u s
section
variable {P : Program} {w : World} {K : PySem.W.Frag} {mg : Str → Option Value} {base : Heap}
def domBy (ss : List Sh) (s : Sh) : Prop := ∃ (B : Book) (cs near : List Thing) (x : Thing) (on nt : Bool) (n : Nat) (rows : List (Thing × Nat)) (s1 : Sh), SeqSh (cs.map eT) s1 ∧ ss = [.hd (eBook B), s1, .ls (near.map eT), .hd (eT x), .hd (eMan on), .hd (.bool nt)] ∧ GoodBook B ∧ IsThing B.tab x ∧
  (∀ u ∈ cs, IsThing B.tab u) ∧ (∀ u ∈ near, IsThing B.tab u) ∧ cs.length ≤ 1000 ∧ near.length ≤ 1000 ∧ n ≤ 1000 ∧ walkL B (fun s => decide (s ∈ failIn B.tab cs near)) nt on n (some (0, x)) [x] = some rows ∧ cnt rows ≤ 100000 ∧ rows.length ≤ 1000 ∧ s = .ls (rows.map eTry)
theorem seq_known {ds : List PyData} {s : Sh} (h : SeqSh ds s) : s.known = true := by
  rcases h with rfl | rfl <;> rfl
theorem sc_law_walk_by : FnScope ["_law_book_here", "_law_causes", "_law_near", "_law_x", "_law_style", "_law_noted", "_law_fails_in", "_law_one", "_law_u"] ["_law_book_here", "_law_causes", "_law_near", "_law_x", "_law_style", "_law_noted"] (defScope (top 88)) := ⟨rfl, rfl, rfl, by decide +kernel, rfl, by decide +kernel, by decide +kernel⟩
theorem c_law_walk_by (T : Txt K mg) : Cal P w K mg base 4 "_law_walk_by" (spF domBy) [] := by
  refine cal_of (k := 3) T 61 (d := d_law_walk_by) rfl sc_law_walk_by rfl rfl (fun _ _ _ _ _ _ us hl => match us, hl with | [_, _, _, _, _, _], _ => rfl) (len_F fun _ _ ⟨_, _, _, _, _, _, _, _, _, _, e, _⟩ => by rw [e]; rfl) (fun f cdv A outer s H vs Q E hr h => ?_)
  obtain ⟨ss, s, r, ⟨B, cs, near, x, on, nt, n, rows, s1, hs1, rfl, gb, ix, ics, inr, hcl, hnl, hn, hw, hcn, hrl, rfl⟩, q⟩ := h
  have c := Cu.entry (N := ["_law_book_here", "_law_causes", "_law_near", "_law_x", "_law_style", "_law_noted", "_law_fails_in", "_law_one", "_law_u"]) r
  refine ⟨_, (pss_cons (ps_setLc (i := 6) (own := [("_law_one", 7)]) rfl sc_law_walk_by.nd rfl rfl (sw_true rfl rfl rfl (by decide +kernel)) (pi_listK (K := K) rfl (pv 2)) (blkOk_by (N := ["_law_book_here", "_law_causes", "_law_near", "_law_x", "_law_style", "_law_noted", "_law_fails_in", "_law_one", "_law_u"]) (sc := defScope (top 88)) (by decide +kernel)) (by intros; exact (pg_name (i := 7) sc_law_walk_by.nd rfl (by first | exact Or.inl rfl | exact Or.inr rfl))) (by intros; exact (pts_one (pt_cmpR (op_neDK (K := K) rfl hr.units) (pe_lc (own := [("_law_u", 8)]) rfl sc_law_walk_by.nd (pi_any (K := K) rfl (pv 1)) (blkOk_by (N := ["_law_book_here", "_law_causes", "_law_near", "_law_x", "_law_style", "_law_noted", "_law_fails_in", "_law_one", "_law_u"]) (sc := { kind := ScopeKind.function, names := [(".0", .local), ("_law_one", .cell), ("_law_book_here", .cell), ("_law_causes", .cell)], isGenerator := false, isCoroutine := false }) (by decide +kernel)) (by intros; exact (pg_name (i := 8) sc_law_walk_by.nd rfl (by first | exact Or.inl rfl | exact Or.inr rfl))) (by intros; exact (pts_one (pt_val (pe_c (c_law_is_at_most T) hr (by decide) rfl (pa_cons (pe_ix (ix_tupK (K := K) rfl) (pv 0) pe_int (fun _ _ => rfl)) (pa_cons (pv 8) (pa_cons (pv 7) pa_nil))))))) (by intros; exact (pv 8))) (pe_lst pa_nil) (nomark _)))) (by intros; exact (pv 7)))
  (pss_one (ps_ret (pe_c (c_law_walked T) hr (by decide) rfl (pa_cons (pv 0) (pa_cons (pv 6) (pa_cons (pv 3) (pa_cons (pv 4) (pa_cons (pv 5) (pa_cons pe_int pa_nil)))))))))), ?_⟩
  have hlow : ∀ t : Thing, IsThing B.tab t → PyData.strOk (tS t) = true := fun t it => by
    unfold PyData.strOk
    rw [Array.all_eq_true']
    intro a ha
    have hlw := gb.tab.low it a (by simpa [tS] using ha)
    have := hlw.2
    simp
    omega
  refine st_seq ?_
  refine s_setF (ds := (failIn B.tab cs near).map eT) c (ef_is (ef_lc c (ei_lst (ex_0 (c.var 2))) (fun d _ => tg_name) (by decide) (fun d => cs.any fun u => atMost (below B.tab) u (sOf d).cps.toList) (fun d => d) (fun d hd σ' H' c' => ?_) (fun d hd _ σ' H' c' => c'.var 7) ?_) ?_) fun Hb1 σ1 H1 e1 c1 => ?_
  · obtain ⟨t, ht, rfl⟩ := List.mem_map.mp hd
    have it := inr t ht
    refine et_test (ev_is (ev_neL0 (l := (cs.filter fun u => atMost (below B.tab) u t).map tS) (fun a ha => ?_) (es_is (ef_lc c' (ei_any hs1 (c'.var 1 rfl (seq_known hs1))) (fun d _ => tg_name) (by decide) (fun d => atMost (below B.tab) (sOf d).cps.toList t) (fun d => d) (fun d hd σ'' H'' c'' => ?_) (fun d hd _ σ'' H'' c'' => c''.var 8) ?_).s ?_) (ef_lst (ds := []) ea_nil (by decide)).s) (congrArg PyData.bool ?_))
    · obtain ⟨u, hu, rfl⟩ := List.mem_map.mp ha
      exact hlow u (ics u (List.mem_filter.mp hu).1)
    · obtain ⟨u, hu, rfl⟩ := List.mem_map.mp hd
      exact et_B (ev_call0 (ea_cons (ev_ixT (i := 0) (d := eTab B.tab) (c''.var 0) ev_int rfl) (ea_cons (c''.var 8) (ea_cons (c''.var 7) ea_nil))) ⟨B.tab, u, t, rfl, gb.tab, it, Nat.le_trans (ics u hu).len (by decide), by show PyData.bool (atMost (below B.tab) (tS u).cps.toList t) = _; rw [tS_list]⟩)
    · rw [List.length_map]
      omega
    · rw [List.filter_map, List.map_map, List.map_map]
      congr 1
    · show (!((cs.filter fun u => atMost (below B.tab) u t).map tS).isEmpty) = cs.any fun u => atMost (below B.tab) u (tS t).cps.toList
      rw [tS_list]
      clear hcl ics hw hs1
      induction cs with
      | nil => rfl
      | cons u cs ih =>
        rw [List.filter_cons, List.any_cons]
        cases h : atMost (below B.tab) u t with
        | true => rfl
        | false => exact ih
  · rw [List.length_map]
    omega
  · unfold failIn
    rw [List.filter_map, List.map_map]
    congr 1
  dsimp only
  refine s_retF (s := .ls (rows.map eTry)) (ef_call0 (ea_cons (c1.var 0) (ea_cons (c1.var 6) (ea_cons (c1.var 3) (ea_cons (c1.var 4) (ea_cons (c1.var 5) (ea_cons (ev_int (i := 100000)) ea_nil)))))) ⟨B, failIn B.tab cs near, x, on, nt, n, rows, rfl, gb, ix, hn, hw, hcn, hrl, rfl⟩) ?_
  exact fun p H2 hp e2 rv => q p H2 (Evl.fresh_back (e1.trans c1.ex) hp) ((e1.trans c1.ex).trans e2) rv
def domCount (ss : List Sh) (d : PyData) : Prop := ∃ (rows : List (Thing × Nat)), ss = [.ls (rows.map eTry)] ∧ rows.length ≤ 1000 ∧ d = .int (cnt rows)
theorem sc_law_count : FnScope ["_law_walk", "_law_pair"] ["_law_walk"] (defScope (top 89)) := ⟨rfl, rfl, rfl, by decide +kernel, rfl, by decide +kernel, by decide +kernel⟩
theorem c_law_count (T : Txt K mg) : Cal P w K mg base 1 "_law_count" (spD domCount) [] := by
  refine cal_of (k := 0) T 62 (d := d_law_count) rfl sc_law_count rfl rfl (fun _ _ _ _ _ _ us hl => match us, hl with | [_], _ => rfl) (len_D fun _ _ ⟨_, e, _⟩ => by rw [e]; rfl) (fun f cdv A outer s H vs Q E hr h => ?_)
  obtain ⟨ss, d, r, ⟨rows, rfl, hl, rfl⟩, q⟩ := h
  have c := Cu.entry (N := ["_law_walk", "_law_pair"]) r
  refine ⟨_, (pss_one (ps_ret (pe_callB (cr_sumK (K := K) rfl rfl) rfl T.sum_ (by decide +kernel) (pa_cons (pe_lc (own := [("_law_pair", 1)]) rfl sc_law_count.nd (pi_listK (K := K) rfl (pv 0)) (blkOk_by (N := ["_law_walk", "_law_pair"]) (sc := defScope (top 89)) (by decide +kernel)) (by intros; exact (pg_name (i := 1) sc_law_count.nd rfl (by first | exact Or.inl rfl | exact Or.inr rfl))) (by intros; exact pts_nil) (by intros; exact (pe_ix (ix_tupK (K := K) rfl) (pv 1) pe_int (fun _ _ => rfl)))) pa_nil)))), ?_⟩
  refine s_ret (s := .hd (.int (cnt rows))) (ev_sum (ns := rows.map fun p => (p.2 : Int)) (es_is (ef_map c (ei_lst (ex_0 (c.var 0))) (fun d _ => tg_name) (by decide) sndD (fun d hd σ' H' c' => ?_) ?_).s ?_)) q
  · obtain ⟨p, _, rfl⟩ := List.mem_map.mp hd
    exact ev_ixT (i := 1) (d := eI p.2) (c'.var 1) ev_int rfl
  · rw [List.length_map]
    omega
  · rw [List.map_map, List.map_map]
    rfl
end
end FF
/-! repr of data -/
namespace FF
open PySem PySem.Spec PyProof.Rows L2
open Evl (Ex EvT)
/-! ### how long a text repr gives -/
mutual
def rLen : PyData → Nat
  | .none => 4
  | .bool _ => 5
  | .int i => i.natAbs.log2 + 2
  | .str x => 10 * x.length + 2
  | .list ds => rLenAll ds + 2
  | .tuple ds => rLenAll ds + 3
  | .dict _ => 0
def rLenAll : List PyData → Nat
  | [] => 0
  | d :: ds => rLen d + 2 + rLenAll ds
end
mutual
/-- texts of letters alone, no dicts -/
def rOk : PyData → Bool
  | .none | .bool _ | .int _ => true
  | .str x => PyData.strOk x
  | .list ds | .tuple ds => rOkAll ds
  | .dict _ => false
def rOkAll : List PyData → Bool
  | [] => true
  | d :: ds => rOk d && rOkAll ds
end
theorem textFrom_piled : ∀ (ts : List Str) (k : Nat) (acc : Str), (textFrom k acc ts).length ≤ acc.length + piled ts
  | [], k, acc => Nat.le_add_right _ _
  | t :: r, k, acc => by
    have h := textFrom_piled r (k + 1) (acc ++ (if k > 0 then ", " else "" : String) ++ t)
    have e : (acc ++ (if k > 0 then ", " else "" : String) ++ t).length = acc.length + (if k > 0 then 2 else 0) + t.length := by
      rw [strLen_append, strLen_append]
      split <;> rfl
    rw [e] at h
    rw [piled_cons]
    show (textFrom (k + 1) _ r).length ≤ _
    have : (if k > 0 then 2 else 0 : Nat) ≤ 2 := by split <;> decide
    omega
theorem listText_piled (ts : List Str) : (listText ts).length ≤ piled ts + 2 := by
  unfold listText
  rw [strLen_append]
  have h := textFrom_piled ts 0 "["
  have e1 : ((("[" : String) : Str)).length = 1 := rfl
  have e2 : ((("]" : String) : Str)).length = 1 := rfl
  rw [e1] at h
  rw [e2]
  omega
theorem tupleText_piled (ts : List Str) : (tupleText ts).length ≤ piled ts + 3 := by
  unfold tupleText
  rw [strLen_append, strLen_append]
  have e1 : ((("(" : String) : Str)).length = 1 := rfl
  have e3 : (((if ts.length == 1 then ",)" else ")" : String) : Str)).length ≤ 2 := by split <;> decide
  rw [e1]
  by_cases h : ts = []
  · subst h
    have : (Str.join ", " []).length = 0 := rfl
    omega
  · have := join_length_add ts h
    omega
mutual
theorem shown_len : ∀ d : PyData, rOk d = true → d.shown.length ≤ rLen d
  | .none, _ => by simp only [PyData.shown, rLen]; decide
  | .bool b, _ => by
    simp only [PyData.shown, rLen]
    cases b <;> decide
  | .int i, _ => by
    simp only [PyData.shown, rLen]
    rw [PySem.ofString_length]
    exact int_text_length_le (k := i.natAbs.log2 + 1) (Nat.succ_pos _) (Nat.lt_succ_self _)
  | .str x, h => by
    simp only [PyData.shown, rLen]
    refine StrLaws.reprText_len x fun c hc => ?_
    have h : PyData.strOk x = true := h
    unfold PyData.strOk at h
    rw [Array.all_eq_true'] at h
    have := h c (by simpa using hc)
    have : c < 0x110000 := by simpa using this
    omega
  | .list ds, h => by
    simp only [PyData.shown, rLen]
    have h1 := shownAll_len ds h
    have h2 := listText_piled (PyData.shownAll ds)
    omega
  | .tuple ds, h => by
    simp only [PyData.shown, rLen]
    have h1 := shownAll_len ds h
    have h2 := tupleText_piled (PyData.shownAll ds)
    omega
  | .dict _, h => by cases h
theorem shownAll_len : ∀ ds : List PyData, rOkAll ds = true → piled (PyData.shownAll ds) ≤ rLenAll ds
  | [], _ => Nat.le_refl _
  | d :: ds, h => by
    have h' : rOk d = true ∧ rOkAll ds = true := Bool.and_eq_true_iff.mp h
    have h1 := shown_len d h'.1
    have h2 := shownAll_len ds h'.2
    simp only [PyData.shownAll, rLenAll, piled_cons]
    omega
end
mutual
theorem noDict : ∀ d : PyData, rOk d = true → d.hasDict = false
  | .none, _ | .bool _, _ | .int _, _ | .str _, _ => rfl
  | .list ds, h => noDictAll ds h
  | .tuple ds, h => noDictAll ds h
  | .dict _, h => by cases h
theorem noDictAll : ∀ ds : List PyData, rOkAll ds = true → PyData.hasDictAll ds = false
  | [], _ => rfl
  | d :: ds, h => by
    have h' : rOk d = true ∧ rOkAll ds = true := Bool.and_eq_true_iff.mp h
    simp only [PyData.hasDictAll, noDict d h'.1, noDictAll ds h'.2, Bool.or_self]
end
/-! ### the rule -/
def rRepr (K : PySem.W.Frag) : List V → Hp → VK → Prop := fun xs H Q => (∃ i, xs = [.int i] ∧ i.natAbs.log2 < 1920 ∧ Q (.str (toString i)) H) ∨
  ∃ a d, xs = [.ref a] ∧ Dp K H (.ref a) d ∧ d.showable = true ∧ rOk d = true ∧ d.depth ≤ 60 ∧ rLen d ≤ 1000000 ∧ Q (.str d.shown) H
theorem cr_repr {X : Cx} {K : PySem.W.Frag} (hK : X.K = K) (hg : X.A.guards = some []) (hu : X.A.units + 64 < cLine) : CallR X (.builtin "repr") (rRepr K) := by
  subst hK
  intro pins s σ H xs us Q I r h
  rcases h with h | ⟨a, d, rfl, hd, hs, ho, hdp, hl, q⟩
  · exact SkE.call_repr_int pins s σ H xs us Q I r h
  · obtain ⟨u, rfl, ru⟩ := vals1 r
    obtain ⟨as, rd⟩ := Dp.reads I d (.ref a) u hd ru
    obtain rfl : u = Value.ref a := ru
    refine repr_of_reads' rd hs (PyData.noDict_hsm (noDict d ho)) hg (by omega) (fun _ _ e => e) (fun h' u tk hk => ?_) (by have := shown_len d ho; rw [sizeLine_eq]; omega)
    exact ⟨.str d.shown, H, I.kept hk, ⟨u, rfl⟩, q⟩
end FF
/-! promises of defs that call repr: no repr is under way -/
namespace FF
open PySem PySem.Spec PyProof.Rows L2
open Evl (Ex EvT)
structure FnG (P : Program) (w : World) (K : PySem.W.Frag) (mg : Str → Option Value) (base : Heap) (k : Nat) (f : Addr) (fd : FuncData) (ps : List Str) (sp : Sp) : Prop where
  len : ∀ vs H Q E, sp vs H Q E → vs.length = ps.length
  run : ∀ (A : Around) (outer : List Env) (s : Shared) (H : Hp) (args : Args) (us : List Value) (vs : List V) (Q : VK) (E : XK), Room k A → A.guards = some [] → Env0 P w K mg base A outer s H → BindsTo s fd args (ps.zip us) → Vals vs us → sp vs H Q E →
    codeAny (model P w) A (.call (.ref f) args) (CR CX0 outer P w H s Q E) s
theorem fn_ofG {P : Program} {w : World} {K : PySem.W.Frag} {mg : Str → Option Value} {base : Heap} {k : Nat} {f : Addr} {name qual : Str} {params : Arguments} {body : List Stmt} {scope : Scope} {dV kV doc pm cdv ct oc : Value} {an od : Option Addr}
    {osl : Array (Option Value)} {N ps : List Str} {sp : Sp} (lk : K.lookup f = some ⟨oc, od, .func (PySem.W.fnOf name qual params body scope dV kV doc pm an cdv ct), osl⟩) (hcd : PySem.W.codeIn K cdv qual = true) (S : FnScope N ps scope)
    (len : ∀ vs H Q E, sp vs H Q E → vs.length = ps.length)
    (hbody : ∀ (A : Around) (outer : List Env) (s : Shared) (H : Hp) (vs : List V) (Q : VK) (E : XK), Room k (A.deeper (envOfC qual scope s.heap.objs.size f cdv)) → (A.deeper (envOfC qual scope s.heap.objs.size f cdv)).guards = some [] → sp vs H Q E →
      ∃ t, PSs (cxOf CX0 P w K mg base N qual scope f cdv A outer s H E) body t ∧ t { nx := fun _ H' => Q .non H', rt := Q } (start N vs) H) :
    FnG P w K mg base (k + 1) f (PySem.W.fnOf name qual params body scope dV kV doc pm an cdv ct) ps sp := by
  refine ⟨len, fun A outer s H args us vs Q E hr hgd e0 hb r hsp => ?_⟩
  obtain ⟨t, ht, hq⟩ := hbody A outer s H vs Q E (hr.deeper _) hgd hsp
  -- one call alone: a promise for this A, made of the whole rule for the caller's own state
  have hl := len _ _ _ _ hsp
  have KX : K.In s.heap := e0.mod.kin.keeps fun b o e => (e0.bs b o e).1
  have lim : s.heap.NoLimit := e0.mod.nolimit.keeps fun b o e => (e0.bs b o e).1
  have hkind : ∀ y ∈ ps.zip us, scope.names.lookup y.1 = some .local ∨ (scope.names.lookup y.1 = some .cell ∧ ((cellsFrom (s.heap.objs.size + 1) scope.names []).lookup y.1).isSome = true) := fun ⟨n, v⟩ hy => by
    rcases S.par n (List.of_mem_zip hy).1 with q | q
    · exact .inl q
    · exact .inr ⟨q, PySem.W.cellsFrom_some _ _ _ (.inl q)⟩
  refine codeAny_call_function hr.depth (KX _ _ lk) rfl S.co S.gen rfl (PySem.W.codeRec_of KX hcd) (hb _ _ _ _ ?_)
  refine wpAny_newFunctionEnv_cells S.kind hkind fun env he s1 x => ?_
  subst he
  refine ⟨lim.keeps x.toInCall.keep, codeAny_func ?_⟩
  have I : Inv (cxOf CX0 P w K mg base N qual scope f cdv A outer s H E) [] (start N vs) H s1 := inv_start S hr.hd e0 hl r x
  refine wpAny_mono (ht.run [] s1 (start N vs) H _ I hq) (fun fl s' hs => ?_) fun e s' hs => hs
  cases fl with
  | ret u =>
    obtain ⟨v, σ', H', J, rv, q⟩ := hs
    exact ⟨v, H', J.os, J.bare, J.base, J.hok, rv, q⟩
  | next =>
    obtain ⟨σ', H', J, q⟩ := hs
    exact ⟨V.non, H', J.os, J.bare, J.base, J.hok, rfl, q⟩
  | brk =>
    obtain ⟨_, _, _, q⟩ := hs
    exact False.elim q
  | cont =>
    obtain ⟨_, _, _, q⟩ := hs
    exact False.elim q
/-- a def under its name, that calls repr -/
structure CalG (P : Program) (w : World) (K : PySem.W.Frag) (mg : Str → Option Value) (base : Heap) (k : Nat) (x : Str) (sp : Sp) : Prop where
  ex : ∃ (f : Addr) (fd : FuncData) (ps : List Str), FnG P w K mg base k f fd ps sp ∧ mg x = some (.ref f) ∧ PySem.W.keepIn K (.ref f) = true ∧ Binds K fd ps []
section
variable {X : Cx} {k j : Nat} {f : Addr} {fd : FuncData} {ps : List Str} {x : Str} {sp : Sp} {p pos : Pos} {e : Expr} {es : List Expr} {t : TA} {E : XK}
theorem run_fnG {pins : List (Addr × Obj)} {σ : L2.St} {H : Hp} {s : Shared} {Q : VK} {us : List Value} {vs : List V} (F : FnG X.prog X.w X.K X.mg X.base k f fd ps sp) (hr : Room k X.A) (hgd : X.A.guards = some []) (hb : Binds X.K fd ps []) (hx : Passes CX0 X E)
    (I : Inv X pins σ H s) (r : Vals vs us) (h : sp vs H Q E) : wpAny (model X.prog X.w) X.A (call (.ref f) us) (EP X pins σ Q) X.xe s := by
  have hl : us.length = ps.length := by rw [← r.length]; exact F.len _ _ _ _ h
  have hbb := hb s us I.kIn (by rw [List.append_nil]; exact hl)
  rw [List.append_nil] at hbb
  refine wpAny_call (codeAny_mono (F.run X.A X.stack s H ⟨us, []⟩ us vs Q E hr hgd I.env0 hbb r h) fun r s' hq => ?_)
  cases r with
  | error e => exact hx pins σ H s e s' I hq
  | ok fl =>
    cases fl with
    | ret u => exact I.after hq
    | next => exact False.elim hq
    | brk => exact False.elim hq
    | cont => exact False.elim hq
theorem pe_cG (c : CalG X.prog X.w X.K X.mg X.base k x sp) (hr : Room j X.A) (hgd : X.A.guards = some []) (hk : k ≤ j) (hg : Gl X x) (ha : PA X (e :: es) t)
    (hdb : (x == ("__debug__" : Str)) = false := by decide) (he : starEach (e :: es) X.env = (false, eval e X.env) :: starEach es X.env := by rfl)
    (hpl : (backTo pos (starEach es X.env)).any (·.1) = false := by rfl) : PE X (.Call (.Name x p) (e :: es) [] pos) (tCall sp [] E0 t) := by
  obtain ⟨f, fd, ps, F, hm, hkp, hb⟩ := c.ex
  refine ⟨fun pins s σ H Q I h => ?_⟩
  refine wpAny_Call_Name_kw (ld_glob I hg hm ?_ hdb)
  refine PySem.W.callWith_K (h₀ := X.base) I.ok.mod.kin hkp (thn (ha.run pos pins s σ H _ I h) fun us s1 ⟨vs, H1, I1, r, q⟩ => ⟨I1.kIn, ?_⟩) he hpl
  exact run_fnG F (hr.mono hk) hgd hb pass0 I1 r (by have q : sp (vs ++ []) H1 Q E0 := q; rw [List.append_nil] at q; exact q)
end
section
variable {P : Program} {w : World} {K : PySem.W.Frag} {mg : Str → Option Value} {base : Heap}
theorem FunD.okG {x qual : Str} {params : Arguments} {body : List Stmt} {scope : Scope} {dvs : List V} {kws : List (Str × V)} {f : Addr} {fd : FuncData} {N ps : List Str} {k : Nat} {sp : Sp} (F : FunD K x qual params body scope dvs kws f fd) (S : FnScope N ps scope) (len : ∀ vs H Q E, sp vs H Q E → vs.length = ps.length)
    (hbody : ∀ (cdv : Value) (A : Around) (outer : List Env) (s : Shared) (H : Hp) (vs : List V) (Q : VK) (E : XK), Room k (A.deeper (envOfC qual scope s.heap.objs.size f cdv)) → (A.deeper (envOfC qual scope s.heap.objs.size f cdv)).guards = some [] → sp vs H Q E →
      ∃ t, PSs (cxOf CX0 P w K mg base N qual scope f cdv A outer s H E).nox body t ∧ t { nx := fun _ H' => Q .non H', rt := Q } (start N vs) H) : FnG P w K mg base (k + 1) f fd ps sp := by
  obtain ⟨oc, od, dV, kV, doc, pm, an, cdv, ct, osl, rfl, lk, hcd, _, _⟩ := F.ex
  exact fn_ofG lk hcd S len fun A outer s H vs Q E hr hgd hsp => let ⟨t, h1, h2⟩ := hbody cdv A outer s H vs Q E hr hgd hsp; ⟨t, h1.nox, h2⟩
theorem cal_ofG (T : Txt K mg) (i : Nat) {d : He.DefD} (hd : fn[i]? = some d) {N ps : List Str} {k : Nat} {sp : Sp} (S : FnScope N ps d.scope) (hdf : d.dvs K = [])
    (b : ∀ (kV doc pm : Value) (an : Option Addr) (cdv ct : Value) (us : List Value), us.length = ps.length → bindArgs (PySem.W.fnOf d.name d.qual d.params d.body d.scope .none kV doc pm an cdv ct) ⟨us, []⟩ = pure (ps.zip us)) (len : ∀ vs H Q E, sp vs H Q E → vs.length = ps.length)
    (body : ∀ (f : Addr) (cdv : Value) (A : Around) (outer : List Env) (s : Shared) (H : Hp) (vs : List V) (Q : VK) (E : XK), Room k (A.deeper (envOfC d.qual d.scope s.heap.objs.size f cdv)) → (A.deeper (envOfC d.qual d.scope s.heap.objs.size f cdv)).guards = some [] → sp vs H Q E →
      ∃ t, PSs (cxOf CX0 P w K mg base N d.qual d.scope f cdv A outer s H E).nox d.body t ∧ t { nx := fun _ H' => Q .non H', rt := Q } (start N vs) H) : CalG P w K mg base (k + 1) d.at_.1 sp := by
  obtain ⟨f, fd, F, hm⟩ := T.d i d hd
  rw [hdf] at F
  exact ⟨f, fd, ps, FunD.okG F S len fun cdv A outer s H vs Q E hr hgd hsp => body f cdv A outer s H vs Q E hr hgd hsp, hm, F.kp, F.bindsN b⟩
end
/-! ### the law's own call -/
theorem law_callG {P : Program} {w : World} {K : PySem.W.Frag} {mg mb : Str → Option Value} {k : Nat} {fa a : Addr} {fd : FuncData} {x : Str} {sp : Sp} {s₁ : Shared} {vs : List Value} {ns : List Int}
    (KX : K.In s₁.heap) (hns : s₁.heap.Ns mainGlobals mg) (hb : s₁.heap.Ns builtinsNs mb) (hbb : ∀ x : Str, x ≠ "__name__" → mb x = bootBuiltins x) (hlim : s₁.heap.NoLimit) (hg : s₁.gens = #[])
    (ha : s₁.heap.get? a = some { cls := .type "list", data := .seq vs.toArray }) (hi : IntsAre vs ns) (hl : ns.length ≤ sizeLine) (hr : Room k callerA)
    (F : ∀ base : Heap, K.In base → base.Ns mainGlobals mg → FnG P w K mg base k fa fd [x] sp) (hbind : ∀ (s : Shared) (u : Value), BindsTo s fd ⟨[u], []⟩ [(x, u)])
    (hsp : ∀ H : Hp, Only H → SqL K H a (ns.map V.int) → sp [.ref a] H (fun v _ => v = .bl true) fun _ _ _ => False)
    (hCX : ∀ H e s', CX0 [] H s₁ (fun _ _ _ => False) e s' → False) :
    codeAny (model P w) callerA (.call (.ref fa) ⟨[.ref a], []⟩) (fun r s' => r = .ok (.ret (.bool true)) ∧ OldK s₁.heap s'.heap ∧ s'.os = s₁.os ∧ AllBare s'.gens) s₁ := by
  have rv := vals_ints hi
  have lenV := hi.length
  -- over any abstract heap that tracks the script at most
  have core : ∀ H : Hp, Only H → SqL K H a (ns.map V.int) → HOk P w H s₁.heap → (∀ b, H b ≠ none → b = a) → (H a ≠ none → K.lookup a = none) →
      codeAny (model P w) callerA (.call (.ref fa) ⟨[.ref a], []⟩) (fun r s' => r = .ok (.ret (.bool true)) ∧ OldK s₁.heap s'.heap ∧ s'.os = s₁.os ∧ AllBare s'.gens) s₁ := by
    intro H hO hS hok hA hK
    have seen : ∀ b, H b = none ∨ b = a := fun b => by
      by_cases z : H b = none
      · exact .inl z
      · exact .inr (hA b z)
    have nsK : ∀ {b : Addr} {m : Str → Option Value}, s₁.heap.Ns b m → (hidT s₁.heap H).Ns b m := fun {b m} ⟨o, es, ep, e, d, r⟩ => by
      refine ⟨o, es, ep, hidT_get e ?_, d, r⟩
      rcases seen b with z | rfl
      · exact z
      · rw [ha] at e
        cases e
        cases d
    have hKb : K.In (hidT s₁.heap H) := fun b o e => by
      refine hidT_get (KX b o e) ?_
      rcases seen b with z | rfl
      · exact z
      · by_cases z : H b = none
        · exact z
        · rw [hK z] at e
          cases e
    have hM : Mod K mg (hidT s₁.heap H) := ⟨hKb, nsK hns, ⟨mb, nsK hb, hbb⟩, let ⟨mc, h1, h2⟩ := hlim; ⟨mc, nsK h1, h2⟩⟩
    have e0 : Env0 P w K mg (hidT s₁.heap H) callerA [] s₁ H := ⟨rfl, hM, fun b o e => of_hidT e, Nat.le_of_eq (hidT_size _ _), trivial, fun b hb => absurd (show b ∈ ([] : List Addr) from hb) (by simp), hok, .of_eq hg⟩
    refine codeAny_mono ((F _ hKb (nsK hns)).run callerA [] s₁ H ⟨[.ref a], []⟩ [.ref a] [.ref a] _ _ hr rfl e0 (hbind s₁ (.ref a)) (.cons rfl .nil) (hsp H hO hS)) fun r s' h => ?_
    cases r with
    | error e => exact (hCX H e s' h).elim
    | ok fl =>
      cases fl with
      | next => exact False.elim h
      | brk => exact False.elim h
      | cont => exact False.elim h
      | ret u =>
        obtain ⟨v, H', os, bare, un, hok', r', q⟩ := h
        have q' : v = .bl true := q
        subst q'
        obtain rfl : u = Value.bool true := r'
        refine ⟨rfl, OldK.of_keep fun b o e => ?_, os, bare⟩
        rcases hO b with z | ⟨ob, xs, z⟩
        · exact un.keep b o e z (by intro z; exact absurd (show b ∈ ([] : List Addr) from z) (by simp)) (by simp)
        · obtain ⟨e1, _⟩ := hok b _ z
          obtain ⟨e2, _⟩ := hok' b _ (un.frzs b ob _ z)
          rw [e] at e1
          cases e1
          exact e2
  cases hk : K.lookup a with
  | some o =>
    have e := KX a o hk
    rw [ha] at e
    cases e
    exact core (fun _ => none) (fun _ => .inl rfl) (.inr ⟨_, vs.toArray, _, hk, rfl, rfl, rfl, by rw [List.size_toArray, lenV]; exact hl, by simpa using rv⟩) (fun b u z => nomatch z) (fun b z => absurd rfl z) fun z => absurd rfl z
  | none =>
    have hat : ∀ b, (if b = a then some (HO.frz { cls := .type "list", data := .seq vs.toArray } (.lst (ns.map V.int))) else none) = none ∨ b = a := fun b => by
      by_cases h : b = a
      · exact .inr h
      · exact .inl (if_neg h)
    refine core (fun b => if b = a then some (.frz { cls := .type "list", data := .seq vs.toArray } (.lst (ns.map V.int))) else none) (fun b => ?_) (.inl (.inr ⟨{ cls := .type "list", data := .seq vs.toArray }, if_pos rfl⟩)) (fun b u z => ?_) (fun b z => (hat b).resolve_left z) fun _ => hk
    · rcases hat b with h | h
      · exact .inl h
      · exact .inr ⟨_, _, if_pos h⟩
    · rcases hat b with h | h
      · have z' := h.symm.trans z
        cases z'
      · subst h
        have z' := (if_pos rfl).symm.trans z
        cases z'
        exact ⟨ha, by rw [List.length_map]; exact hl, vs, _, rv, ha⟩
theorem walk_ofG {l : PySem.W.OpenLaw} {n k : Nat} {q : Program} {loose : List Str} {XP : (Str → Option Value) → Heap → Prop} {YP : World → Heap → Prop} {d : DefRec} {x : Str}
    (hn : l.most = some n) (hn2 : n ≤ sizeLine) (hdf : d.params.defaults = []) (hr : Room k callerA)
    (F : ∀ (w : World) (mg : Str → Option Value) (fa : Addr) (h : Heap), YP w h → h.Ns mainGlobals mg → mg d.name = some (.ref fa) →
      ∃ (K : PySem.W.Frag) (fd : FuncData) (sp : Sp), K.In h ∧ (∀ (s : Shared) (u : Value), BindsTo s fd ⟨[u], []⟩ [(x, u)]) ∧
        (∀ (H : Hp) (a : Addr) (ns : List Int), ns.length ≤ n → Only H → SqL K H a (ns.map V.int) → sp [.ref a] H (fun v _ => v = .bl true) fun _ _ _ => False) ∧
        ∀ base : Heap, K.In base → base.Ns mainGlobals mg → FnG l.prog w K mg base k fa fd [x] sp)
    (hCX : ∀ (H : Hp) (s : Shared) (e : Value) (s' : Shared), CX0 [] H s (fun _ _ _ => False) e s' → False) :
    PySem.W.WalkO q loose XP YP l.row.toRowW d [] (fun f vs => PySem.call f vs) := by
  refine Att.attach_call hn hdf fun w s₀ s₁ mg mb fa o pm cd doc a vs ns G Y ho hd hcd hmg hobj hints hlen hg => ?_
  obtain ⟨K, fd, sp, KX, hb, hsp, hF⟩ := F w mg fa _ Y G.T.g hmg
  exact law_callG KX G.T.g G.T.b G.T.builtins G.T.nolimit hg hobj hints (Nat.le_trans hlen hn2) hr hF hb (fun H hO hS => hsp H a ns hlen hO hS) fun H e s' => hCX H s₁ e s'
end FF
/-! what is the same -/
namespace FF
open PySem PySem.Spec PyProof.Rows L2
open Evl (Ex EvT)
mutual
/-- data as Python's -/
def norm : PyData → PyData
  | .list ds => .tuple (normAll ds)
  | .tuple ds => .tuple (normAll ds)
  | .none => .none
  | .bool b => .bool b
  | .int i => .int i
  | .str x => .str x
  | .dict d => .dict d
def normAll : List PyData → List PyData
  | [] => []
  | d :: ds => norm d :: normAll ds
end
mutual
theorem Rp.dp {K : PySem.W.Frag} {H : Hp} : ∀ {d : PyData} {v : V}, Rp H d v → Dp K H v (norm d)
  | .none, v, h => by
    have h : v = .non := h
    subst h
    simp only [norm]
    exact .non
  | .bool b, v, h => by
    have h : v = .bl b := h
    subst h
    simp only [norm]
    exact .bl b
  | .int i, v, h => by
    have h : v = .int i := h
    subst h
    simp only [norm]
    exact .int i
  | .str x, v, h => by
    have h : v = .str x := h
    subst h
    simp only [norm]
    exact .str x
  | .tuple ds, v, h => by
    obtain ⟨p, xs, rfl, h1, h2⟩ := h
    simp only [norm]
    exact .tup (.inl h1) (RpAll.dpAll h2)
  | .list ds, v, h => by
    obtain ⟨p, o, xs, rfl, h1, _, h2⟩ := h
    simp only [norm]
    exact .tup (.inl (.inr ⟨o, h1⟩)) (RpAll.dpAll h2)
  | .dict _, v, h => h.elim
theorem RpAll.dpAll {K : PySem.W.Frag} {H : Hp} : ∀ {ds : List PyData} {xs : List V}, RpAll H ds xs → DpAll K H xs (normAll ds)
  | [], [], _ => .nil
  | d :: ds, x :: xs, h => .cons (Rp.dp h.1) (RpAll.dpAll h.2)
  | [], _ :: _, h => h.elim
  | _ :: _, [], h => h.elim
end
structure Nice (d : PyData) : Prop where
  sh : d.showable = true
  ok : rOk d = true
  dp : d.depth ≤ 60
  ln : rLen d ≤ 1000000
theorem log_small {n : Nat} (h : n ≤ 100000) : n.log2 < 20 := by
  rcases Nat.eq_zero_or_pos n with rfl | hn
  · decide
  · exact (Nat.log2_lt (by omega)).mpr (by omega)
section
variable {H : Hp} {σ : L2.St} {te : TE} {K : PySem.W.Frag}
theorem ev_reprI {i : Int} (h : EvD te σ H (.int i)) (hi : i.natAbs ≤ 100000) : EvD (tCB (rRepr K) (tCons te tNil)) σ H (.str (toString i)) :=
  ev_cb (ea_cons h ea_nil) fun vs H1 _ r Q q => by
    obtain ⟨v, rfl, e⟩ := sh1 r
    have e : v = .int i := e
    subst e
    exact .inl ⟨i, rfl, Nat.lt_trans (log_small hi) (by decide), q _ H1 (Ex.refl _) rfl⟩
theorem ev_reprL {ds : List PyData} (h : EvS te σ H (.ls ds)) (n : Nice (.list (normAll ds))) : EvD (tCB (rRepr K) (tCons te tNil)) σ H (.str (PyData.shown (.list (normAll ds)))) :=
  ev_cb (ea_cons h ea_nil) fun vs H1 _ r Q q => by
    obtain ⟨v, rfl, p, rfl, xs, h1, h2⟩ := sh1 r
    exact .inr ⟨p, .list (normAll ds), rfl, .lst (SqL.of h1) (RpAll.dpAll h2), n.sh, n.ok, n.dp, n.ln, q _ H1 (Ex.refl _) rfl⟩
theorem ev_reprT {ds : List PyData} (h : EvD te σ H (.tuple ds)) (n : Nice (norm (.tuple ds))) : EvD (tCB (rRepr K) (tCons te tNil)) σ H (.str (PyData.shown (norm (.tuple ds)))) :=
  ev_cb (ea_cons h ea_nil) fun vs H1 _ r Q q => by
    obtain ⟨v, rfl, rv⟩ := sh1 r
    have rv : Rp H1 (.tuple ds) v := rv
    have rd := Rp.dp (K := K) rv
    obtain ⟨p, xs, rfl, h1, h2⟩ := rv
    exact .inr ⟨p, norm (.tuple ds), rfl, rd, n.sh, n.ok, n.dp, n.ln, q _ H1 (Ex.refl _) rfl⟩
end
section
variable {P : Program} {w : World} {K : PySem.W.Frag} {mg : Str → Option Value} {base : Heap}
def domSame (ss : List Sh) (d : PyData) : Prop := d = .bool true ∧ ((∃ i : Int, ss = [.hd (.int i), .hd (.int i)] ∧ i.natAbs ≤ 100000) ∨ ∃ ds, ss = [.ls ds, .ls ds] ∧ Nice (.list (normAll ds)))
theorem sc_law_same : FnScope ["_law_told", "_law_due"] ["_law_told", "_law_due"] (defScope (top 87)) := ⟨rfl, rfl, rfl, by decide +kernel, rfl, by decide +kernel, by decide +kernel⟩
theorem c_law_same (T : Txt K mg) : CalG P w K mg base 1 "_law_same" (spD domSame) := by
  refine cal_ofG (k := 0) T 60 (d := d_law_same) rfl sc_law_same rfl (fun _ _ _ _ _ _ us hl => match us, hl with | [_, _], _ => rfl) (len_D fun _ _ ⟨_, h⟩ => by rcases h with ⟨_, e, _⟩ | ⟨_, e, _⟩ <;> rw [e] <;> rfl) (fun f cdv A outer s H vs Q E hr hgd h => ?_)
  obtain ⟨ss, d, r, ⟨rfl, h⟩, q⟩ := h
  refine ⟨_, (pss_one (ps_ret (pe_cmpR op_eq (pe_callB (cr_repr (K := K) rfl hgd hr.units) rfl T.repr_ (by decide +kernel) (pa_cons (pv 0) pa_nil)) (pe_callB (cr_repr (K := K) rfl hgd hr.units) rfl T.repr_ (by decide +kernel) (pa_cons (pv 1) pa_nil)) (nomark _)))), ?_⟩
  rcases h with ⟨i, rfl, hi⟩ | ⟨ds, rfl, n⟩
  · have c := Cu.entry (N := ["_law_told", "_law_due"]) r
    exact s_ret (s := .hd (.bool true)) (ev_is (ev_eqS (ev_reprI (c.var 0) hi) (ev_reprI (c.var 1) hi)) (congrArg PyData.bool (decide_eq_true rfl))) q
  · have c := Cu.entry (N := ["_law_told", "_law_due"]) r
    exact s_ret (s := .hd (.bool true)) (ev_is (ev_eqS (ev_reprL (c.var 0) n) (ev_reprL (c.var 1) n)) (congrArg PyData.bool (decide_eq_true rfl))) q
end
end FF
/-! expressions that draw from the feed -/
namespace FF
open PySem PySem.Spec PyProof.Rows L2
open Evl (Ex EvT)
def EvG (te : TE) (Hb : Hp) (ms : Ms) (cs : List Sh) (σ : L2.St) (P : PyData → Prop) : Prop := ∀ Hb1 H1, Ex Hb Hb1 → Cu Hb1 ms cs σ H1 → ∀ Q : VK, (∀ v r Hb2 H2, Ex Hb1 Hb2 → Cu Hb2 ms cs σ H2 → P r → Rp Hb2 r v → Q v H2) → te σ H1 Q
def spG (dom : List Sh → (PyData → Prop) → Prop) : Sp := fun vs H Q _ => ∃ (p q : Addr) (t l d : Int) (ss : List Sh) (P : PyData → Prop), ShAll (hide [p] H) (.vl (.ref p) :: ss) vs ∧ H p = some (.dK (feedKvs q t l d)) ∧ FeedIs (hide [p] H) q (feedKvs q t l d) ∧ dom ss P ∧
  ∀ v H' t' l' d' r, But [p] H H' → H' p = some (.dK (feedKvs q t' l' d')) → 0 ≤ t' → 0 ≤ l' → 0 ≤ d' → P r → Rp H' r v → Q v H'
/-- shapes that a def that draws may take -/
def Sh.noD : Sh → Bool
  | .dc _ | .dl _ => false
  | _ => true
theorem Sh.hide1 {H : Hp} {p : Addr} {es : List (Key × V)} (hp : H p = some (.dK es)) : ∀ {s : Sh} {v : V}, s.noD = true → s.ok H v → s.ok (hide [p] H) v
  | .hd _, _, _, h => Rp.mono (hide_pr hp rfl) h
  | .vl _, _, _, h => h
  | .un, _, _, _ => trivial
  | .ls ds, _, _, h => by
    obtain ⟨a, rfl, xs, h1, h2⟩ := h
    refine ⟨a, rfl, xs, ?_, h2.mono (hide_pr hp rfl)⟩
    refine hideAt h1 fun z => ?_
    rw [List.mem_singleton.mp z, hp] at h1
    cases h1
theorem ShAll.hide1 {H : Hp} {p : Addr} {es : List (Key × V)} (hp : H p = some (.dK es)) : ∀ {ss : List Sh} {vs : List V}, ss.all Sh.noD = true → ShAll H ss vs → ShAll (hide [p] H) ss vs
  | [], [], _, _ => trivial
  | s :: ss, v :: vs, t, h => by
    rw [List.all_cons, Bool.and_eq_true] at t
    exact ⟨Sh.hide1 hp t.1 h.1, ShAll.hide1 hp t.2 h.2⟩
  | [], _ :: _, _, h => h.elim
  | _ :: _, [], _, h => h.elim
theorem set_same {ms : Ms} {k : Nat} {m : Addr × MC} (h : ms[k]? = some m) : ms.set k m = ms := by
  apply List.ext_getElem?
  intro i
  rw [List.getElem?_set]
  by_cases e : k = i
  · subst e
    have hl : k < ms.length := (List.getElem?_eq_some_iff.mp h).1
    rw [if_pos rfl, if_pos hl, h]
  · rw [if_neg e]
theorem hide_up {Hb H : Hp} {p : Addr} (e : Ex Hb H) (hp : Hb p = none) : Ex Hb (hide [p] H) := fun a o h => hideAt (e _ _ h) fun z => by
  rw [List.mem_singleton.mp z, hp] at h
  cases h
section
variable {Hb H : Hp} {ms : Ms} {cs : List Sh} {σ : L2.St} {te ta tb : TE} {K : PySem.W.Frag} {D : Ends} {P P' : PyData → Prop}
theorem EvG.imp (h : EvG te Hb ms cs σ P) (k : ∀ r, P r → P' r) : EvG te Hb ms cs σ P' := fun Hb1 H1 e c Q q => h Hb1 H1 e c Q fun v r Hb2 H2 e2 c2 p rv => q v r Hb2 H2 e2 c2 (k r p) rv
theorem EvG.mono {Hb' : Hp} (h : EvG te Hb ms cs σ P) (e0 : Ex Hb Hb') : EvG te Hb' ms cs σ P := fun Hb1 H1 e c Q q => h Hb1 H1 (e0.trans e) c Q q
theorem g_pure {d : PyData} (h : ∀ Hb1 H1, Ex Hb Hb1 → Cu Hb1 ms cs σ H1 → EvD te σ H1 d) : EvG te Hb ms cs σ (fun r => r = d) := fun Hb1 H1 e c Q q => v_hd c (h Hb1 H1 e c) fun v Hb2 H2 e2 c2 rv => q v d Hb2 H2 e2 c2 rfl rv
theorem g_call {dom : List Sh → (PyData → Prop) → Prop} {ta : TA} {k : Nat} {p q : Addr} {ss : List Sh} (hk : ms[k]? = some (p, .f q)) (args : ∀ Hb1 H1, Ex Hb Hb1 → Cu Hb1 ms cs σ H1 → EvAs ta σ H1 (.vl (.ref p) :: ss)) (hh : ss.all Sh.noD = true) (hd : dom ss P) :
    EvG (tCall (spG dom) [] E0 ta) Hb ms cs σ P := fun Hb1 H1 e1 c1 Q qk => args Hb1 H1 e1 c1 H1 (Ex.refl _) _ fun vs H2 e2 r => by
  have c2 := c1.ext e2
  have hpn : Hb1 p = none := c2.nw _ (List.mem_of_getElem? hk)
  obtain ⟨es, h1, ns, t, l, d, rfl, h3, h4⟩ := c2.feed hk
  refine ⟨p, q, t, l, d, ss, P, by rw [List.append_nil]; exact ShAll.hide1 h1 (by rw [List.all_cons, hh]; rfl) r, h1, ⟨ns, t, l, d, rfl, h3.mono (hide_up c2.ex hpn), h4⟩, hd, fun v H' t' l' d' r b g1 g2 g3 g4 hP rv => ?_⟩
  obtain ⟨eb, c3⟩ := c2.jump (m' := .f q) hk b g1 fun Hx ex => ⟨ns, t', l', d', rfl, h3.mono ex, g2, g3, g4, h4.2.2.2⟩
  have pr := c3.prHide
  rw [set_fst hk] at pr
  rw [set_same hk] at c3
  exact qk v r _ H' eb c3 hP (rv.mono pr)
/-- the end of a def that draws -/
theorem done_G {p q : Addr} {H2 : Hp} {Q : VK} {v : V} {r : PyData} (c : Cu Hb [(p, .f q)] cs σ H2) (e : Ex (hide [p] H) Hb) (hP : P r) (rv : Rp Hb r v)
    (qk : ∀ v H' t' l' d' r, But [p] H H' → H' p = some (.dK (feedKvs q t' l' d')) → 0 ≤ t' → 0 ≤ l' → 0 ≤ d' → P r → Rp H' r v → Q v H') : Q v H2 := by
  obtain ⟨es, h1, ns, t, l, d, rfl, h3, h4⟩ := c.feed (k := 0) rfl
  exact qk v H2 t l d r (exHide_but (e.trans c.ex)) h1 h4.1 h4.2.1 h4.2.2.1 hP (rv.mono (Ex.pr c.ex))
theorem v_G (c : Cu Hb ms cs σ H) {Q : VK} (h : EvG te Hb ms cs σ P) (k : ∀ v r Hb2 H2, Ex Hb Hb2 → Cu Hb2 ms cs σ H2 → P r → Rp Hb2 r v → Q v H2) : te σ H Q := h Hb H (Ex.refl _) c Q k
theorem la_G {tr : TA} (c : Cu Hb ms cs σ H) {Q : List V → Hp → Prop} (h : EvG te Hb ms cs σ P) (k : ∀ v r Hb2 H2, Ex Hb Hb2 → Cu Hb2 ms cs σ H2 → P r → Rp Hb2 r v → tr σ H2 fun vs H3 => Q (v :: vs) H3) : tCons te tr σ H Q := v_G c h k
theorem s_setG (c : Cu Hb ms cs σ H) {i : Nat} (h : EvG te Hb ms cs σ P) (k : ∀ r Hb' σ' H', Ex Hb Hb' → P r → Cu Hb' ms (cs.set i (.hd r)) σ' H' → D.nx σ' H') : tAsg te (gName i) D σ H :=
  v_G (Q := fun v H1 => D.nx (σ.set i (some v)) H1) c h fun v r Hb2 H2 e2 c2 hP rv => k r Hb2 _ H2 e2 hP (c2.put (s := .hd r) rv)
theorem s_asgG (c : Cu Hb ms cs σ H) {g : TG} {js : List Nat} {u : PyData → List Sh → List Sh} (h : EvG te Hb ms cs σ P) (tg : ∀ d, P d → Tg g js d (u d)) (k : ∀ r Hb' σ' H', Ex Hb Hb' → P r → Cu Hb' ms (u r cs) σ' H' → D.nx σ' H') : tAsg te g D σ H :=
  v_G (Q := fun v H1 => g v σ H1 D.nx) c h fun v r Hb2 H2 e2 c2 hP rv => tg r hP v σ H2 _ _ ms cs c2 rv fun σ' c' _ => k r Hb2 σ' H2 e2 hP c'
theorem s_retG (c : Cu Hb ms cs σ H) (h : EvG te Hb ms cs σ P) (k : ∀ v r Hb2 H2, Ex Hb Hb2 → Cu Hb2 ms cs σ H2 → P r → Rp Hb2 r v → D.rt v H2) : tRet te D σ H := v_G (Q := D.rt) c h k
/-- a pure left side, a drawn right one -/
theorem g_op2 {r : R2} {d : PyData} {f : PyData → PyData} (ha : ∀ Hb1 H1, Ex Hb Hb1 → Cu Hb1 ms cs σ H1 → EvD ta σ H1 d) (hb : EvG tb Hb ms cs σ P) (hr : ∀ s, P s → ∀ x y H1, Rp H1 d x → Rp H1 s y → ∀ Q : VK, (∀ v H2, Ex H1 H2 → Rp H2 (f s) v → Q v H2) → r x y H1 Q) :
    EvG (tOp r ta tb) Hb ms cs σ (fun s => ∃ z, P z ∧ s = f z) := fun Hb1 H1 e1 c1 Q q =>
  v_hd (Q := fun x H2 => tb σ H2 fun y H3 => r x y H3 Q) c1 (ha Hb1 H1 e1 c1) fun x Hb2 H2 e2 c2 rx => hb Hb2 H2 (e1.trans e2) c2 _ fun y s Hb3 H3 e3 c3 hP ry =>
    hr s hP x y H3 ((rx.mono (Ex.pr e3)).mono (Ex.pr c3.ex)) (ry.mono (Ex.pr c3.ex)) Q fun v H4 e4 rv => q v (f s) _ H4 (e2.trans (e3.trans (c3.exHide e4))) (c3.rebase e4) ⟨s, hP, rfl⟩ (rv.mono (c3.ext e4).prHide)
theorem g_add {a : Int} (ha : ∀ Hb1 H1, Ex Hb Hb1 → Cu Hb1 ms cs σ H1 → EvD ta σ H1 (.int a)) (hb : EvG tb Hb ms cs σ P) (hi : ∀ r, P r → ∃ i : Int, r = .int i) : EvG (tOp (rI0 fun i j => .int (i + j)) ta tb) Hb ms cs σ (fun s => ∃ i : Int, P (.int i) ∧ s = .int (a + i)) :=
  (g_op2 (f := fun s => .int (a + iOf s)) ha hb fun s hs x y H1 rx ry Q q => by
    obtain ⟨i, rfl⟩ := hi s hs
    exact ⟨a, i, rx, ry, q _ H1 (Ex.refl _) rfl⟩).imp fun r ⟨z, hz, e⟩ => by
      obtain ⟨i, rfl⟩ := hi z hz
      exact ⟨i, hz, e⟩
/-- a drawn left side, a pure right one that holds in every state -/
theorem g_ixT {i : Int} (hb : EvG ta Hb ms cs σ P) (hi : ∀ r, P r → ∃ ds d, r = .tuple ds ∧ atI ds i = some d ∧ P' d) : EvG (tOp (rIxT K) ta (tC (.int i))) Hb ms cs σ P' := fun Hb1 H1 e1 c1 Q q =>
  hb Hb1 H1 e1 c1 (fun x H2 => tC (.int i) σ H2 fun y H3 => rIxT K x y H3 Q) fun x s Hb3 H3 e3 c3 hP rx => by
    obtain ⟨ds, d, rfl, h1, h2⟩ := hi s hP
    obtain ⟨p, xs, rfl, g1, g2⟩ := rx
    obtain ⟨v, g3, g4⟩ := atI_all g2 h1
    exact ⟨p, xs, i, v, rfl, rfl, .inl ((Ex.pr c3.ex).rd g1), g3, q v d Hb3 H3 e3 c3 h2 g4⟩
/-- some[draw(feed, len(some))] -/
theorem g_ixAny {ds : List PyData} {s : Sh} (hs : SeqSh ds s) (hsd : s.noD = true) (ha : ∀ Hb1 H1, Ex Hb Hb1 → Cu Hb1 ms cs σ H1 → ∃ v, (∀ H2 Q, Q v H2 → ta σ H2 Q) ∧ s.ok Hb1 v) (hb : EvG tb Hb ms cs σ P) (hi : ∀ r, P r → ∃ i : Int, r = .int i ∧ 0 ≤ i ∧ i < ds.length) :
    EvG (tOp (fun x y H Q => rIxL K x y H Q ∨ rIxT K x y H Q) ta tb) Hb ms cs σ (fun r => r ∈ ds) := fun Hb1 H1 e1 c1 Q q => by
  obtain ⟨v, hv, rv⟩ := ha Hb1 H1 e1 c1
  refine hv H1 _ ?_
  refine hb Hb1 H1 e1 c1 _ fun y r Hb3 H3 e3 c3 hP ry => ?_
  obtain ⟨i, rfl, h0, h1⟩ := hi r hP
  obtain ⟨n, rfl⟩ : ∃ n : Nat, i = n := ⟨i.toNat, by omega⟩
  have hn : n < ds.length := by omega
  have hd : ds[n]? = some ds[n] := List.getElem?_eq_getElem hn
  have ry : y = .int n := ry
  subst ry
  rcases hs with rfl | rfl
  · obtain ⟨p, rfl, xs, g1, g2⟩ := Sh.mono (s := .ls ds) e3 rv
    obtain ⟨x, g3, g4⟩ := g2.get hd
    exact .inl ⟨p, xs, n, x, rfl, rfl, SqL.of (c3.ex _ _ g1), atI_nat g3, q x _ Hb3 H3 e3 c3 (List.getElem_mem hn) g4⟩
  · obtain ⟨p, xs, rfl, g1, g2⟩ := Sh.mono (s := .hd (.tuple ds)) e3 rv
    obtain ⟨x, g3, g4⟩ := g2.get hd
    exact .inr ⟨p, xs, n, x, rfl, rfl, .inl ((Ex.pr c3.ex).rd g1), atI_nat g3, q x _ Hb3 H3 e3 c3 (List.getElem_mem hn) g4⟩
/-! ### a list of draws -/
def EvGL (te : TE) (Hb : Hp) (ms : Ms) (cs : List Sh) (σ : L2.St) (P : List PyData → Prop) : Prop := ∀ Hb1 H1, Ex Hb Hb1 → Cu Hb1 ms cs σ H1 → ∀ Q : VK, (∀ p ds Hb2 H2, Ex Hb1 Hb2 → Cu Hb2 ms cs σ H2 → P ds → LsAt Hb2 p ds → Q (.ref p) H2) → te σ H1 Q
theorem g_lc {tn : TE} {j : Nat} {vs : List Nat} {Pn : Int → Prop} (hj : j ∈ vs) (hn : EvG tn Hb ms cs σ (fun r => ∃ i : Int, Pn i ∧ r = .int i)) (hb : ∀ i, Pn i → 0 ≤ i ∧ i ≤ 1000)
    (he : ∀ D acc i σ' Hb', EvG te Hb' (ms ++ [(D, .l acc)]) ((wipeC cs vs).set j (.hd (eI i))) σ' P) :
    EvGL (tLc (iRng1 (tCons tn tNil)) (gName j) tYes te vs) Hb ms cs σ (fun ds => ∃ i : Int, Pn i ∧ ds.length = i.toNat ∧ ∀ d ∈ ds, P d) := fun Hb1 H1 e1 c1 Q q => by
  refine hn Hb1 H1 e1 c1 (fun v H2 => tNil σ H2 fun us H3 => ∃ n, v :: us = [.int n] ∧ -(2 ^ 62) ≤ n ∧ n < 2 ^ 62 ∧ _) fun v r Hb2 H2 e2 c2 hP rv => ?_
  obtain ⟨n, hPn, rfl⟩ := hP
  obtain ⟨b0, b1⟩ := hb n hPn
  have rv : v = .int n := rv
  subst rv
  refine ⟨n, rfl, by omega, by omega, fun Dd hD => ?_⟩
  have c3 : Cu (hide ((ms ++ [(Dd, MC.l [])]).map (·.1)) (L2.upd H2 Dd (.lst []))) (ms ++ [(Dd, MC.l [])]) cs σ (L2.upd H2 Dd (.lst [])) := c2.fresh (m := .l []) (o := .lst []) (Evl.Ex.new hD) hD upd_same fun _ _ => trivial
  have e3 := c2.freshEx (m := .l []) (Evl.Ex.new (o := .lst []) hD) hD
  refine ⟨fun i m H => m = n.toNat - i ∧ i ≤ n.toNat ∧ ∃ Hb' acc, Ex Hb2 Hb' ∧ Cu Hb' (ms ++ [(Dd, .l acc)]) cs σ H ∧ acc.length = i ∧ ∀ d ∈ acc, P d, ⟨n.toNat, by simp, Nat.zero_le _, _, [], e3, c3, rfl, (nofun)⟩, ?_⟩
  rintro i m H ⟨rfl, hi, Hb', acc, e4, c4, hacc, hall⟩
  by_cases hlt : i < n.toNat
  · refine .inr ⟨hlt, fun H' => ∃ Hb' acc, Ex Hb2 Hb' ∧ Cu Hb' (ms ++ [(Dd, .l acc)]) cs σ H' ∧ acc.length = i + 1 ∧ ∀ d ∈ acc, P d, fun H' p' => ⟨n.toNat - (i + 1), by omega, rfl, hlt, p'⟩, fun x H' y => ?_⟩
    obtain ⟨eH, rfl⟩ := y
    subst eH
    have c5 : Cu Hb' (ms ++ [(Dd, .l acc)]) ((wipeC cs vs).set j (.hd (eI i))) ((L2.wipe σ vs).set j (some (.int (0 + (i : Nat))))) H' := by
      have cw : Cu Hb' (ms ++ [(Dd, .l acc)]) (wipeC cs vs) (L2.wipe σ vs) H' := ⟨c4.ex, c4.nw, c4.ct, c4.nd, c4.sl.wipe vs⟩
      exact cw.put (s := .hd (eI i)) (v := .int (0 + (i : Nat))) (by show V.int _ = V.int _; rw [Int.zero_add])
    refine ⟨(wipe_set hj).trans wipe_wipe, ?_⟩
    refine yes_of ?_
    try dsimp only
    rw [if_pos rfl]
    refine he Dd acc i _ Hb' Hb' H' (Ex.refl _) c5 _ fun v r Hb6 H6 e6 c6 hP rv => ?_
    have hkD : (ms ++ [(Dd, MC.l acc)])[ms.length]? = some (Dd, .l acc) := by simp
    obtain ⟨xs, g1, g2⟩ := c6.lst hkD
    refine ⟨xs, g1, by rw [← g2.length, hacc]; exact Nat.lt_of_lt_of_le (show i < 100000 by omega) (by decide), ?_⟩
    have c7 := c6.upd hkD (m' := .l (acc ++ [r])) (o := .lst (xs ++ [v])) (RpAll.mono (c6.updPr hkD) (RpAll.append g2 (RpAll.one (rv.mono (Ex.pr c6.ex)))))
    have eset : (ms ++ [(Dd, MC.l acc)]).set ms.length (Dd, .l (acc ++ [r])) = ms ++ [(Dd, .l (acc ++ [r]))] := by
      rw [List.set_append_right _ _ (Nat.le_refl _), Nat.sub_self]
      rfl
    rw [eset] at c7
    exact ⟨Hb6, acc ++ [r], e4.trans e6, ⟨c7.ex, c7.nw, c7.ct, c7.nd, c4.sl.mono e6⟩, by simp [hacc], fun d hd => by
      rcases List.mem_append.mp hd with h | h
      · exact hall d h
      · rw [List.mem_singleton.mp h]
        exact hP⟩
  · have ei : i = n.toNat := by omega
    subst ei
    refine .inl ⟨Nat.le_refl _, ?_⟩
    have hkD : (ms ++ [(Dd, MC.l acc)])[ms.length]? = some (Dd, .l acc) := by simp
    have ls := c4.lst hkD
    have hDn : Dd ∉ ms.map (·.1) := fun z => by
      have := c4.nd
      rw [List.map_append, List.nodup_append] at this
      exact this.2.2 Dd z Dd (by simp) rfl
    have c8 := c4.drop
    refine q Dd acc _ H (e2.trans (e4.trans (c8.exHide (Ex.refl _)))) (c8.rebase (Ex.refl _)) ⟨n, hPn, hacc, hall⟩ (LsAt.hide c8 ls hDn)
end
end FF
/-! the draws -/
namespace FF
open PySem PySem.Spec PyProof.Rows L2
open Evl (Ex EvT)
section
variable {Hb H : Hp} {ms : Ms} {cs : List Sh} {σ : L2.St} {te ta tb : TE} {K : PySem.W.Frag} {D : Ends}
theorem ev_xget (c : Cu Hb ms cs σ H) {i k : Nat} {p : Addr} {es : List (Key × V)} {key : Str} {n : Int} (hi : cs[i]? = some (.vl (.ref p))) (hk : ms[k]? = some (p, .x es)) (hv : valV es (Sum.inr key) = some (.int n)) : EvD (tDGet (tVar i) (tC (.str key))) σ H (.int n) := fun H1 e Q q =>
  ⟨.ref p, c.slot i hi, p, .int n, rfl, .inl ⟨es, Sum.inr key, .inl (e _ _ (c.exact_ hk)), rfl, hv.symm⟩, q _ H1 (Ex.refl _) rfl⟩
theorem es_xget (c : Cu Hb ms cs σ H) {i k : Nat} {p q : Addr} {es : List (Key × V)} {key : Str} {ds : List PyData} (hi : cs[i]? = some (.vl (.ref p))) (hk : ms[k]? = some (p, .x es)) (hv : valV es (Sum.inr key) = some (.ref q)) (hl : LsAt Hb q ds) : EvS (tDGet (tVar i) (tC (.str key))) σ H (.ls ds) := fun H1 e Q q' =>
  ⟨.ref p, c.slot i hi, p, .ref q, rfl, .inl ⟨es, Sum.inr key, .inl (e _ _ (c.exact_ hk)), rfl, hv.symm⟩, q' _ H1 (Ex.refl _) ⟨q, rfl, hl.mono (c.ex.trans e)⟩⟩
theorem s_xput (c : Cu Hb ms cs σ H) {i k : Nat} {p : Addr} {es es' : List (Key × V)} {key : Str} {n : Int} (hi : cs[i]? = some (.vl (.ref p))) (hk : ms[k]? = some (p, .x es)) (h : EvD te σ H (.int n)) (he : putK es (Sum.inr key) (.int n) = es') (hz : es.length ≤ 1000)
    (q : ∀ H', Cu Hb (ms.set k (p, .x es')) cs σ H' → D.nx σ H') : sDPut (tVar i) (tC (.str key)) te D σ H :=
  h H (Ex.refl _) _ fun v H1 e r => ⟨.ref p, c.slot i hi, by
    have c1 := c.ext e
    have h1 := c1.exact_ hk
    have rv : v = .int n := r
    subst rv
    refine ⟨p, _, rfl, .inl ⟨es, Sum.inr key, h1, rfl, Nat.lt_of_le_of_lt hz (by decide), rfl⟩, ?_⟩
    exact q _ (c1.upd hk (m' := .x es') he)⟩
theorem ev_pow {i j : Int} {x : Int} (ha : EvD ta σ H (.int i)) (hb : EvD tb σ H (.int j)) (hc : CPow i j) (hx : i ^ j.toNat = x) : EvD (tOp (rI CPow fun i j => .int (i ^ j.toNat)) ta tb) σ H (.int x) := ev_opI ha hb hc (by rw [hx]; rfl) rfl
theorem dp_ints {H : Hp} : ∀ {l : List Int} {xs : List V}, RpAll H (l.map PyData.int) xs → DpAll K H xs (l.map PyData.int)
  | [], [], _ => .nil
  | a :: l, x :: xs, h => by
    have e : x = .int a := h.1
    subst e
    exact .cons (.int a) (dp_ints h.2)
  | [], _ :: _, h => h.elim
  | _ :: _, [], h => h.elim
theorem lay_ints : ∀ l : List Int, PyData.canLayAll0 (l.map PyData.int) = true
  | [] => rfl
  | a :: l => by
    rw [List.map_cons]
    simp only [PyData.canLayAll0, PyData.canLay0, lay_ints l, Bool.and_self]
theorem depth_ints : ∀ l : List Int, PyData.depthAll (l.map PyData.int) ≤ 1
  | [] => by simp [PyData.depthAll]
  | a :: l => by
    rw [List.map_cons]
    have := depth_ints l
    simp only [PyData.depthAll, PyData.depth]
    omega
theorem shaped_ints (l : List Int) : SeqAt.shaped (.list (l.map PyData.int)) = true := by
  unfold SeqAt.shaped
  have h1 := lay_ints l
  have h2 := depth_ints l
  rw [Bool.and_eq_true]
  refine ⟨by simpa [PyData.canLay0] using h1, decide_eq_true ?_⟩
  simp only [PyData.depth]
  omega
theorem ev_neL0I {l : List Int} (ha : EvS ta σ H (.ls (l.map PyData.int))) (hb : EvS tb σ H (.ls [])) : EvD (tOp (rNeD K) ta tb) σ H (.bool (!l.isEmpty)) :=
  ev_op ha hb fun x y H1 _ rx ry Q q => by
    obtain ⟨p, rfl, xs, h1, h2⟩ := rx
    obtain ⟨p2, rfl, ys, h3, h4⟩ := ry
    have e : PyData.eqv (.list (l.map PyData.int)) (.list []) = l.isEmpty := by
      cases l <;> simp [PyData.eqv, PyData.eqvAll]
    cases ys with
    | cons a b => exact h4.elim
    | nil => exact ⟨.list (l.map PyData.int), .list [], .lst (SqL.of h1) (dp_ints h2), .lst (SqL.of h3) .nil, shaped_ints l, rfl, by rw [e]; exact q _ H1 (Ex.refl _) rfl⟩
end
theorem fd_turn (q : Addr) (t l d : Int) : valV (feedKvs q t l d) (Sum.inr ("turn" : Str)) = some (.int t) := rfl
theorem fd_left (q : Addr) (t l d : Int) : valV (feedKvs q t l d) (Sum.inr ("left" : Str)) = some (.int l) := rfl
theorem fd_drawn (q : Addr) (t l d : Int) : valV (feedKvs q t l d) (Sum.inr ("drawn" : Str)) = some (.int d) := rfl
theorem fd_cells (q : Addr) (t l d : Int) : valV (feedKvs q t l d) (Sum.inr ("cells" : Str)) = some (.ref q) := rfl
theorem fp_turn (q : Addr) (t l d x : Int) : putK (feedKvs q t l d) (Sum.inr ("turn" : Str)) (.int x) = feedKvs q x l d := rfl
theorem fp_left (q : Addr) (t l d x : Int) : putK (feedKvs q t l d) (Sum.inr ("left" : Str)) (.int x) = feedKvs q t x d := rfl
theorem fp_drawn (q : Addr) (t l d x : Int) : putK (feedKvs q t l d) (Sum.inr ("drawn" : Str)) (.int x) = feedKvs q t l x := rfl
section
variable {P : Program} {w : World} {K : PySem.W.Frag} {mg : Str → Option Value} {base : Heap}
def domDraw (ss : List Sh) (P : PyData → Prop) : Prop := ∃ w : Int, ss = [.hd (.int w)] ∧ 0 < w ∧ w ≤ 1000 ∧ P = fun r => ∃ i : Int, r = .int i ∧ 0 ≤ i ∧ i < w
theorem len_G {dom : List Sh → (PyData → Prop) → Prop} {n : Nat} (h : ∀ ss d, dom ss d → ss.length = n) : ∀ vs H Q E, spG dom vs H Q E → vs.length = n + 1 := fun vs H Q E ⟨p, q, t, l, d, ss, P, r, _, _, hd, _⟩ => by
  rw [← r.length, List.length_cons, h ss P hd]
theorem sc_law_draw : FnScope ["_law_feed_here", "_law_wide", "_law_figure", "_law_turn", "_law_cell_in", "_law_mixed"] ["_law_feed_here", "_law_wide"] (defScope (top 75)) := ⟨rfl, rfl, rfl, by decide +kernel, rfl, by decide +kernel, by decide +kernel⟩
theorem c_law_draw (T : Txt K mg) : Cal P w K mg base 1 "_law_draw" (spG domDraw) [] := by
  refine cal_of (k := 0) T 48 (d := d_law_draw) rfl sc_law_draw rfl rfl (fun _ _ _ _ _ _ us hl => match us, hl with | [_, _], _ => rfl) (len_G fun _ _ ⟨_, e, _⟩ => by rw [e]; rfl) (fun f cdv A outer s H vs Q E hr h => ?_)
  obtain ⟨p, q, t, l, d, ss, PP, r, hp, ⟨ns, t0, l0, d0, ef, hls, ht, hl, hd, hn⟩, ⟨w, rfl, hw0, hw1, rfl⟩, qk⟩ := h
  have et : t0 = t ∧ l0 = l ∧ d0 = d := by
    unfold feedKvs at ef
    injection ef with e1 ef
    injection ef with e2 ef
    injection ef with e3 ef
    injection ef with e4 ef
    refine ⟨?_, ?_, ?_⟩
    · injection e2 with _ e2
      injection e2 with e2
      exact e2.symm
    · injection e3 with _ e3
      injection e3 with e3
      exact e3.symm
    · injection e4 with _ e4
      injection e4 with e4
      exact e4.symm
  obtain ⟨rfl, rfl, rfl⟩ := et
  have c := Cu.entryM (N := ["_law_feed_here", "_law_wide", "_law_figure", "_law_turn", "_law_cell_in", "_law_mixed"]) (m := .x (feedKvs q t0 l0 d0)) r hp rfl
  refine ⟨_, (pss_cons (ps_dput (hu_of hr) (pv 0) pe_str (pe_op op_add (pe_dget (hu_of hr) (pv 0) pe_str (fun _ _ => rfl)) pe_int) rfl)
  (pss_cons (ps_if (pt_cmpR op_gt (pe_dget (hu_of hr) (pv 0) pe_str (fun _ _ => rfl)) pe_int (nomark _)) (pss_cons (ps_set (i := 2) sc_law_draw.nd rfl (by first | exact Or.inl rfl | exact Or.inr rfl) (pe_op op_mod (pe_callTy call_int1 rfl T.int_ (by decide +kernel) (pa_cons (pe_dget (hu_of hr) (pv 0) pe_str (fun _ _ => rfl)) pa_nil)) (pv 1)))
  (pss_cons (ps_dput (hu_of hr) (pv 0) pe_str (pe_op op_fdiv (pe_dget (hu_of hr) (pv 0) pe_str (fun _ _ => rfl)) (pv 1)) rfl)
  (pss_one (ps_ret (pv 2))))) pss_nil)
  (pss_cons (ps_set (i := 3) sc_law_draw.nd rfl (by first | exact Or.inl rfl | exact Or.inr rfl) (pe_dget (hu_of hr) (pv 0) pe_str (fun _ _ => rfl)))
  (pss_cons (ps_dput (hu_of hr) (pv 0) pe_str (pe_op op_add (pv 3) pe_int) rfl)
  (pss_cons (ps_set (i := 4) sc_law_draw.nd rfl (by first | exact Or.inl rfl | exact Or.inr rfl) (pe_ifExp (pt_cmpR (op_neDK (K := K) rfl hr.units) (pe_dget (hu_of hr) (pv 0) pe_str (fun _ _ => rfl)) (pe_lst pa_nil) (nomark _)) (pe_ix (ix_listK (K := K) rfl) (pe_dget (hu_of hr) (pv 0) pe_str (fun _ _ => rfl)) (pe_op op_mod (pe_callTy call_int1 rfl T.int_ (by decide +kernel) (pa_cons (pv 3) pa_nil)) (pe_callB (call_len_seqK (K := K) rfl) rfl T.len_ (by decide +kernel) (pa_cons (pe_dget (hu_of hr) (pv 0) pe_str (fun _ _ => rfl)) pa_nil))) (fun _ _ => rfl)) pe_int))
  (pss_cons (ps_if (PW.pt (pw_and (pt_cmpR op_ge (pv 4) (pe_op op_pow pe_int pe_int) (nomark _)) (pw_and1 (pt_cmpR op_lt (pv 3) (pe_callB (call_len_seqK (K := K) rfl) rfl T.len_ (by decide +kernel) (pa_cons (pe_dget (hu_of hr) (pv 0) pe_str (fun _ _ => rfl)) pa_nil)) (nomark _))))) (pss_cons (ps_dput (hu_of hr) (pv 0) pe_str (pe_op op_fdiv (pv 4) (pv 1)) rfl)
  (pss_one (ps_ret (pe_op op_mod (pe_callTy call_int1 rfl T.int_ (by decide +kernel) (pa_cons (pv 4) pa_nil)) (pv 1))))) pss_nil)
  (pss_cons (ps_set (i := 5) sc_law_draw.nd rfl (by first | exact Or.inl rfl | exact Or.inr rfl) (pe_op op_mod (pe_callTy call_int1 rfl T.int_ (by decide +kernel) (pa_cons (pe_op op_add (pe_op op_add (pe_op op_mod (pe_callTy call_int1 rfl T.int_ (by decide +kernel) (pa_cons (pv 4) pa_nil)) pe_int) (pe_op op_mul pe_int (pe_dget (hu_of hr) (pv 0) pe_str (fun _ _ => rfl)))) pe_int) pa_nil)) pe_int))
  (pss_cons (ps_set (i := 5) sc_law_draw.nd rfl (by first | exact Or.inl rfl | exact Or.inr rfl) (pe_op op_mod (pe_callTy call_int1 rfl T.int_ (by decide +kernel) (pa_cons (pe_op op_add (pe_op op_add (pe_op op_mul (pv 5) (pv 5)) (pe_op op_mul pe_int (pe_dget (hu_of hr) (pv 0) pe_str (fun _ _ => rfl)))) pe_int) pa_nil)) pe_int))
  (pss_one (ps_ret (pe_op op_mod (pe_callTy call_int1 rfl T.int_ (by decide +kernel) (pa_cons (pe_op op_fdiv (pe_op op_mod (pe_callTy call_int1 rfl T.int_ (by decide +kernel) (pa_cons (pe_op op_add (pe_op op_mul (pv 5) (pv 5)) (pe_op op_mul pe_int (pv 5))) pa_nil)) pe_int) pe_int) pa_nil)) (pv 1)))))))))))), ?_⟩
  refine st_seq ?_
  refine s_xput c (i := 0) rfl (k := 0) rfl (ev_add (ev_xget c (i := 0) rfl (k := 0) rfl (fd_drawn ..)) ev_int) (fp_drawn ..) (by show 4 ≤ 1000; decide) fun H1 c1 => ?_
  dsimp only
  refine st_seq ?_
  have c1 : Cu (hide [p] H) [(p, .x (feedKvs q t0 l0 (d0 + 1)))] [.vl (.ref p), .hd (.int w), .un, .un, .un, .un] (start ["_law_feed_here", "_law_wide", "_law_figure", "_law_turn", "_law_cell_in", "_law_mixed"] vs) H1 := c1
  have fin : ∀ {Hb2 : Hp} {cs2 : List Sh} {σ2 : L2.St} {H2 : Hp} {t' l' d' i : Int} {v : V}, Cu Hb2 [(p, .x (feedKvs q t' l' d'))] cs2 σ2 H2 → Ex (hide [p] H) Hb2 → 0 ≤ t' → 0 ≤ l' → 0 ≤ d' → 0 ≤ i → i < w → Rp H2 (.int i) v → Q v H2 := fun {Hb2 cs2 σ2 H2 t' l' d' i v} c2 e2 h1 h2 h3 h4 h5 rv =>
    qk v H2 t' l' d' (.int i) (exHide_but (e2.trans c2.ex)) (c2.exact_ (k := 0) rfl) h1 h2 h3 ⟨i, rfl, h4, h5⟩ rv
  refine s_if c1 (b := decide (0 < l0)) (et_test (ev_gt (ev_xget c1 (i := 0) rfl (k := 0) rfl (fd_left ..)) ev_int)) (fun hb H2 e2 c2 => ?_) (fun hb H2 e2 c2 => ?_)
  · refine st_seq ?_
    refine s_set (d := .int (l0 % w)) c2 (ev_mod (ev_intI (ev_xget c2 (i := 0) rfl (k := 0) rfl (fd_left ..))) (c2.var 1) hw0) fun Hb3 σ3 H3 e3 c3 => ?_
    dsimp only
    refine st_seq ?_
    refine s_xput c3 (i := 0) rfl (k := 0) rfl (ev_div (ev_xget c3 (i := 0) rfl (k := 0) rfl (fd_left ..)) (c3.var 1) ⟨hw0, by omega⟩) (fp_left ..) (by show 4 ≤ 1000; decide) fun H4 c4 => ?_
    dsimp only
    refine s_ret (s := .hd (.int (l0 % w))) (c4.var 2) fun v H5 e5 rv => ?_
    exact fin (c4.ext e5) e3 ht (Int.ediv_nonneg hl (Int.le_of_lt hw0)) (by omega) (Int.emod_nonneg _ (by omega)) (Int.emod_lt_of_pos _ hw0) rv
  dsimp only [tNext]
  refine st_seq ?_
  refine s_set (d := .int t0) c2 (ev_xget c2 (i := 0) rfl (k := 0) rfl (fd_turn ..)) fun Hb3 σ3 H3 e3 c3 => ?_
  dsimp only
  refine st_seq ?_
  refine s_xput c3 (i := 0) rfl (k := 0) rfl (ev_add (c3.var 3) ev_int) (fp_turn ..) (by show 4 ≤ 1000; decide) fun H4 c4 => ?_
  dsimp only
  refine st_seq ?_
  have c4 : Cu Hb3 [(p, .x (feedKvs q (t0 + 1) l0 (d0 + 1)))] [.vl (.ref p), .hd (.int w), .un, .hd (.int t0), .un, .un] σ3 H4 := c4
  have hl3 := hls.mono e3
  have hcell : ∃ cc : Int, EvD (tIf (tTest (tOp (rNeD K) (tDGet (tVar 0) (tC (.str "cells"))) (tLst tNil))) (tOp (rIxL K) (tDGet (tVar 0) (tC (.str "cells"))) (tOp (rI (fun _ j => 0 < j) fun i j => .int (i % j)) (tCB (fun xs H Q => (∃ i, xs = [.int i] ∧ Q (.int i) H) ∨ ∃ k, xs = [.bl k] ∧ Q (.int (if k then 1 else 0)) H) (tCons (tVar 3) tNil)) (tCB (fun xs H Q => ∃ p ys, xs = [.ref p] ∧ (SqL K H p ys ∨ SqT K H p ys) ∧ Q (.int ys.length) H) (tCons (tDGet (tVar 0) (tC (.str "cells"))) tNil)))) (tC (.int 97022))) σ3 H4 (.int cc) := by
    have hcs : EvS (tDGet (tVar 0) (tC (.str "cells"))) σ3 H4 (.ls (ns.map PyData.int)) := es_xget c4 (i := 0) rfl (k := 0) rfl (fd_cells ..) hl3
    by_cases hz : ns = []
    · refine ⟨97022, ev_if (b := false) (et_test (ev_is (ev_neL0I (l := ns) hcs (ef_lst (ds := []) ea_nil (by decide)).s) (by rw [hz]; rfl))) (nofun) fun _ => ev_int⟩
    · have hpos : 0 < ns.length := List.length_pos_iff.mpr hz
      obtain ⟨m, hm⟩ : ∃ m : Nat, t0 % (ns.length : Int) = m := ⟨(t0 % (ns.length : Int)).toNat, by have := Int.emod_nonneg t0 (b := (ns.length : Int)) (by omega); omega⟩
      have hml : m < ns.length := by
        have := Int.emod_lt_of_pos t0 (b := (ns.length : Int)) (by omega)
        omega
      refine ⟨ns[m], ev_if (b := true) (et_test (ev_is (ev_neL0I (l := ns) hcs (ef_lst (ds := []) ea_nil (by decide)).s) (by cases ns with | nil => exact absurd rfl hz | cons a b => rfl))) (fun _ => ?_) (nofun)⟩
      refine ev_ixL (i := t0 % (ns.length : Int)) hcs (ev_is (ev_mod (ev_intI (c4.var 3)) (ev_lenL hcs) (by rw [List.length_map]; omega)) (by rw [List.length_map])) ?_
      rw [hm]
      exact atI_nat (by rw [List.getElem?_map, List.getElem?_eq_getElem hml]; rfl)
  obtain ⟨cc, hcc⟩ := hcell
  refine s_set (d := .int cc) c4 hcc fun Hb5 σ5 H5 e5 c5 => ?_
  have c5 : Cu Hb5 [(p, .x (feedKvs q (t0 + 1) l0 (d0 + 1)))] [.vl (.ref p), .hd (.int w), .un, .hd (.int t0), .hd (.int cc), .un] σ5 H5 := c5
  have hl5 := hl3.mono e5
  dsimp only
  refine st_seq ?_
  have hcs5 : ∀ {H6 : Hp}, Cu Hb5 [(p, .x (feedKvs q (t0 + 1) l0 (d0 + 1)))] [.vl (.ref p), .hd (.int w), .un, .hd (.int t0), .hd (.int cc), .un] σ5 H6 → EvS (tDGet (tVar 0) (tC (.str "cells"))) σ5 H6 (.ls (ns.map PyData.int)) := fun c6 => es_xget c6 (i := 0) rfl (k := 0) rfl (fd_cells ..) hl5
  refine s_if c5 (b := decide ((10 : Int) ^ 18 ≤ cc) && decide (t0 < (ns.length : Int))) (Evl.et_and (et_test (ev_ge (c5.var 4) (ev_pow (x := 10 ^ 18) ev_int ev_int ⟨by decide, by decide, by decide⟩ (by decide)))) fun _ => et_test (ev_is (ev_lt (c5.var 3) (ev_lenL (hcs5 c5))) (by rw [List.length_map]))) (fun hb H6 e6 c6 => ?_) (fun hb H6 e6 c6 => ?_)
  · have hc0 : 0 ≤ cc := by
      have := of_decide_eq_true (Bool.and_eq_true_iff.mp hb).1
      have h10 : (0 : Int) ≤ 10 ^ 18 := by decide
      omega
    refine st_seq ?_
    refine s_xput c6 (i := 0) rfl (k := 0) rfl (ev_div (c6.var 4) (c6.var 1) ⟨hw0, by omega⟩) (fp_left ..) (by show 4 ≤ 1000; decide) fun H7 c7 => ?_
    dsimp only
    refine s_ret (s := .hd (.int (cc % w))) (ev_mod (ev_intI (c7.var 4)) (c7.var 1) hw0) fun v H8 e8 rv => ?_
    exact fin (c7.ext e8) (e3.trans e5) (by omega) (Int.ediv_nonneg hc0 (Int.le_of_lt hw0)) (by omega) (Int.emod_nonneg _ (by omega)) (Int.emod_lt_of_pos _ hw0) rv
  dsimp only [tNext]
  refine st_seq ?_
  refine s_set c6 (ev_mod (ev_intI (ev_add (ev_add (ev_mod (ev_intI (c6.var 4)) ev_int (by decide)) (ev_mul ev_int (ev_xget c6 (i := 0) rfl (k := 0) rfl (fd_drawn ..)) (.inl (by decide)))) ev_int)) ev_int (by decide)) fun Hb7 σ7 H7 e7 c7 => ?_
  generalize hm1 : ((cc % 1000000223 + 213443 * (d0 + 1) + 302) % 2147483477 : Int) = m1 at c7
  have hm1b : 0 ≤ m1 ∧ m1 < 2147483477 := by rw [← hm1]; exact ⟨Int.emod_nonneg _ (by decide), Int.emod_lt_of_pos _ (by decide)⟩
  dsimp only
  refine st_seq ?_
  refine s_set c7 (ev_mod (ev_intI (ev_add (ev_add (ev_mul (c7.var 5) (c7.var 5) (.inl (by omega))) (ev_mul ev_int (ev_xget c7 (i := 0) rfl (k := 0) rfl (fd_drawn ..)) (.inl (by decide)))) ev_int)) ev_int (by decide)) fun Hb8 σ8 H8 e8 c8 => ?_
  generalize hm2 : ((m1 * m1 + 8700563 * (d0 + 1) + 52) % 2147483423 : Int) = m2 at c8
  have hm2b : 0 ≤ m2 ∧ m2 < 2147483423 := by rw [← hm2]; exact ⟨Int.emod_nonneg _ (by decide), Int.emod_lt_of_pos _ (by decide)⟩
  dsimp only
  refine s_ret (s := .hd (.int (((m2 * m2 + 229 * m2) % 2147483399 / 16) % w))) (ev_mod (ev_intI (ev_div (ev_mod (ev_intI (ev_add (ev_mul (c8.var 5) (c8.var 5) (.inl (by omega))) (ev_mul ev_int (c8.var 5) (.inl (by decide))))) ev_int (by decide)) ev_int ⟨by decide, by decide⟩)) (c8.var 1) hw0) fun v H9 e9 rv => ?_
  exact fin (c8.ext e9) (e3.trans (e5.trans (e7.trans e8))) (by omega) hl (by omega) (Int.emod_nonneg _ (by omega)) (Int.emod_lt_of_pos _ hw0) rv
end
end FF
/-! what is drawn: one of some, rules -/
namespace FF
open PySem PySem.Spec PyProof.Rows L2
open Evl (Ex EvT)
section
variable {Hb H H0 : Hp} {ta' : TA} {ms : Ms} {cs : List Sh} {σ : L2.St} {te ta tb : TE} {K : PySem.W.Frag} {D : Ends} {P P' : PyData → Prop}
/-- a tuple with drawn parts is given back -/
theorem done_T {p q T : Addr} {ds : List PyData} {xs : List V} {Q : VK} (c : Cu Hb [(p, .f q)] cs σ H) (e : Ex (hide [p] H0) Hb) (hT : H T = none) (ra : RpAll Hb ds xs) (hP : P (.tuple ds))
    (qk : ∀ v H' t' l' d' r, But [p] H0 H' → H' p = some (.dK (feedKvs q t' l' d')) → 0 ≤ t' → 0 ≤ l' → 0 ≤ d' → P r → Rp H' r v → Q v H') : Q (.ref T) (L2.upd H T (.tup xs)) := by
  have c2 := c.rebase (Evl.Ex.new (o := .tup xs) hT)
  have e2 := c.exHide (Evl.Ex.new (o := .tup xs) hT)
  refine done_G c2 (e.trans e2) hP ⟨T, xs, rfl, .inl ?_, ra.mono (Ex.pr e2)⟩ qk
  exact hideAt upd_same (c.out hT)
theorem s_retTup (h : ta' σ H fun xs H1 => xs.length ≤ sizeLine ∧ ∀ T, H1 T = none → D.rt (.ref T) (L2.upd H1 T (.tup xs))) : tRet (tTup ta') D σ H := h
theorem ea_vl {tr : TA} {i : Nat} {v : V} {ss : List Sh} (c : Cu Hb ms cs σ H) (h : cs[i]? = some (.vl v)) (r : EvAs tr σ H ss) : EvAs (tCons (tVar i) tr) σ H (.vl v :: ss) :=
  ea_cons (fun H1 e Q q => ⟨v, c.slot i h, q _ H1 (Ex.refl _) rfl⟩) r
end
section
variable {P : Program} {w : World} {K : PySem.W.Frag} {mg : Str → Option Value} {base : Heap}
def domAny (ss : List Sh) (P : PyData → Prop) : Prop := ∃ (ds : List PyData) (s : Sh), SeqSh ds s ∧ ss = [s] ∧ ds ≠ [] ∧ ds.length ≤ 1000 ∧ P = fun r => r ∈ ds
theorem sc_law_any : FnScope ["_law_feed_here", "_law_some"] ["_law_feed_here", "_law_some"] (defScope (top 76)) := ⟨rfl, rfl, rfl, by decide +kernel, rfl, by decide +kernel, by decide +kernel⟩
theorem c_law_any (T : Txt K mg) : Cal P w K mg base 2 "_law_any" (spG domAny) [] := by
  refine cal_of (k := 1) T 49 (d := d_law_any) rfl sc_law_any rfl rfl (fun _ _ _ _ _ _ us hl => match us, hl with | [_, _], _ => rfl) (len_G fun _ _ ⟨_, _, _, e, _⟩ => by rw [e]; rfl) (fun f cdv A outer s H vs Q E hr h => ?_)
  obtain ⟨p, q, t, l, d, ss, PP, r, hp, hfd, ⟨ds, s, hs, rfl, hne, hl, rfl⟩, qk⟩ := h
  have c := Cu.entryM (N := ["_law_feed_here", "_law_some"]) (m := .f q) r hp hfd
  refine ⟨_, (pss_one (ps_ret (pe_ix (ix_anyK (K := K) rfl) (pv 1) (pe_c (c_law_draw T) hr (by decide) rfl (pa_cons (pv 0) (pa_cons (pe_callB (call_len_seqK (K := K) rfl) rfl T.len_ (by decide +kernel) (pa_cons (pv 1) pa_nil)) pa_nil))) (fun _ _ => rfl)))), ?_⟩
  have hsd : s.noD = true := by rcases hs with rfl | rfl <;> rfl
  have hpos : 0 < ds.length := List.length_pos_iff.mpr hne
  refine s_retG (P := fun r => r ∈ ds) c (g_ixAny hs hsd (fun Hb1 H1 e1 c1 => ?_) (g_call (k := 0) (ss := [.hd (.int (ds.length : Nat))]) rfl (fun Hb1 H1 e1 c1 => ea_vl c1 (i := 0) rfl (ea_cons ?_ ea_nil)) rfl ⟨ds.length, rfl, by omega, by omega, rfl⟩) fun r ⟨i, e, h0, h1⟩ => ⟨i, e, h0, h1⟩) fun v r Hb2 H2 e2 c2 hP rv => done_G c2 e2 hP rv qk
  · obtain ⟨o, h1, h2⟩ := c1.sl.get (i := 1) (s := s) rfl
    obtain ⟨v, rfl, h3⟩ := slOk.known (seq_known hs) h2
    exact ⟨v, fun H2 Q q => ⟨v, h1, q⟩, h3⟩
  · rcases hs with rfl | rfl
    · exact ev_lenL (c1.var 1)
    · exact ev_lenT (c1.var 1)
def domRule (ss : List Sh) (P : PyData → Prop) : Prop := ∃ (L : Tab), ss = [.hd (eTab L), .hd (.bool true)] ∧ GoodTab L ∧ L ≠ [] ∧ P = fun r => ∃ ru, r = eRule ru ∧ RuleOk L ru
theorem side_in {r : PyData} (h : r ∈ [PyData.str "left", PyData.str "right"]) : ∃ l : Bool, r = eSide l := by
  rcases List.mem_cons.mp h with e | h
  · exact ⟨true, e⟩
  · exact ⟨false, List.mem_singleton.mp h⟩
theorem sc_law_rule : FnScope ["_law_feed_here", "_law_letters_here", "_law_falls_only", "_law_side", "_law_kind", "_law_letter", "_law_lessers", "_law_names", "_law_word", "_law_row"] ["_law_feed_here", "_law_letters_here", "_law_falls_only"] (defScope (top 78)) := ⟨rfl, rfl, rfl, by decide +kernel, rfl, by decide +kernel, by decide +kernel⟩
theorem c_law_rule (T : Txt K mg) : Cal P w K mg base 3 "_law_rule" (spG domRule) [] := by
  refine cal_of (k := 2) T 51 (d := d_law_rule) rfl sc_law_rule rfl rfl (fun _ _ _ _ _ _ us hl => match us, hl with | [_, _, _], _ => rfl) (len_G fun _ _ ⟨_, e, _⟩ => by rw [e]; rfl) (fun f cdv A outer s H vs Q E hr h => ?_)
  obtain ⟨p, q, t, l, d, ss, PP, r, hp, hfd, ⟨L, rfl, gt, hne, rfl⟩, qk⟩ := h
  have c := Cu.entryM (N := ["_law_feed_here", "_law_letters_here", "_law_falls_only", "_law_side", "_law_kind", "_law_letter", "_law_lessers", "_law_names", "_law_word", "_law_row"]) (m := .f q) r hp hfd
  refine ⟨_, (pss_cons (ps_par (i := 3) (j := 4) rfl sc_law_rule.nd rfl rfl (by decide) rfl rfl (pa_cons (pe_c (c_law_any T) hr (by decide) rfl (pa_cons (pv 0) (pa_cons (pe_lst (pa_cons pe_str (pa_cons pe_str pa_nil))) pa_nil))) (pa_cons (pe_c (c_law_draw T) hr (by decide) rfl (pa_cons (pv 0) (pa_cons pe_int pa_nil))) pa_nil)) rfl)
  (pss_cons (ps_if (pt_cmpR op_lt (pv 4) pe_int (nomark _)) (pss_one (ps_ret (pe_tup (pa_cons pe_str (pa_cons (pe_c (c_law_any T) hr (by decide) rfl (pa_cons (pv 0) (pa_cons (pe_lst (pa_cons pe_int (pa_cons pe_int (pa_cons pe_int (pa_cons pe_int pa_nil))))) pa_nil))) (pa_cons (pv 3) pa_nil)))))) pss_nil)
  (pss_cons (ps_if (pt_cmpR op_lt (pv 4) pe_int (nomark _)) (pss_one (ps_ret (pe_tup (pa_cons pe_str (pa_cons (pv 3) pa_nil))))) pss_nil)
  (pss_cons (ps_if (pt_cmpR op_eq (pv 4) pe_int (nomark _)) (pss_one (ps_ret (pe_tup (pa_cons pe_str pa_nil)))) pss_nil)
  (pss_cons (ps_if (pt_cmpR op_lt (pv 4) pe_int (nomark _)) (pss_one (ps_ret (pe_tup (pa_cons pe_str (pa_cons (pv 3) pa_nil))))) pss_nil)
  (pss_cons (ps_asg (pe_c (c_law_any T) hr (by decide) rfl (pa_cons (pv 0) (pa_cons (pv 1) pa_nil))) (pg_two (K := K) (i := 5) (j := 6) rfl rfl sc_law_rule.nd rfl rfl (by first | exact Or.inl rfl | exact Or.inr rfl) (by first | exact Or.inl rfl | exact Or.inr rfl) (by first | exact Or.inl rfl | exact Or.inr rfl) (by first | exact Or.inl rfl | exact Or.inr rfl)))
  (pss_cons (ps_setLc (i := 7) (own := [("_law_row", 9)]) rfl sc_law_rule.nd rfl rfl (sw_true rfl rfl rfl (by decide +kernel)) (pi_tupK (K := K) rfl (pv 1)) (blkOk_by (N := ["_law_feed_here", "_law_letters_here", "_law_falls_only", "_law_side", "_law_kind", "_law_letter", "_law_lessers", "_law_names", "_law_word", "_law_row"]) (sc := defScope (top 78)) (by decide +kernel)) (by intros; exact (pg_name (i := 9) sc_law_rule.nd rfl (by first | exact Or.inl rfl | exact Or.inr rfl))) (by intros; exact pts_nil) (by intros; exact (pe_ix (ix_tupK (K := K) rfl) (pv 9) pe_int (fun _ _ => rfl))))
  (pss_cons (ps_if (PW.pt (pw_or (pt_val (pv 2)) (pw_or1 (pt_cmpR op_eq (pe_c (c_law_draw T) hr (by decide) rfl (pa_cons (pv 0) (pa_cons pe_int pa_nil))) pe_int (nomark _))))) (pss_one (ps_ret (pe_tup (pa_cons pe_str (pa_cons (pv 5) (pa_cons (pe_c (c_law_any T) hr (by decide) rfl (pa_cons (pv 0) (pa_cons (pe_op op_cat (pe_lst (pa_cons pe_str (pa_cons pe_str pa_nil))) (pe_callTy (call_list_ofK (K := K) rfl) rfl T.list_ (by decide +kernel) (pa_cons (pv 6) pa_nil))) pa_nil))) (pa_cons (pv 3) pa_nil))))))) pss_nil)
  (pss_cons (ps_set (i := 8) sc_law_rule.nd rfl (by first | exact Or.inl rfl | exact Or.inr rfl) (pe_op op_add_str (pe_c (c_law_any T) hr (by decide) rfl (pa_cons (pv 0) (pa_cons (pv 7) pa_nil))) (pe_c (c_law_any T) hr (by decide) rfl (pa_cons (pv 0) (pa_cons (pe_op op_cat (pe_lst (pa_cons pe_str pa_nil)) (pv 7)) pa_nil)))))
  (pss_one (ps_ret (pe_tup (pa_cons pe_str (pa_cons (pv 5) (pa_cons (pe_ifExp (pt_cmpR op_ne (pv 8) (pv 5) (nomark _)) (pv 8) pe_str) (pa_cons (pv 3) pa_nil)))))))))))))))), ?_⟩
  have hlen := gt.len
  refine st_seq ?_
  refine s_par (la_G c (P := fun r => r ∈ [PyData.str "left", PyData.str "right"]) (g_call (k := 0) (ss := [.ls [.str "left", .str "right"]]) rfl (fun Hb1 H1 e1 c1 => ea_vl c1 (i := 0) rfl (ea_cons (ef_lst (ds := [.str "left", .str "right"]) (ea_cons ev_str (ea_cons ev_str ea_nil)) (by show 2 ≤ 100000; decide)).s ea_nil)) rfl ⟨_, _, .inl rfl, rfl, List.cons_ne_nil _ _, by show 2 ≤ 1000; decide, rfl⟩) fun v1 r1 Hb1 H1 e1 c1 hP1 rv1 => la_G c1 (P := fun r => ∃ i : Int, r = .int i ∧ 0 ≤ i ∧ i < 10) (g_call (k := 0) (ss := [.hd (.int 10)]) rfl (fun Hb2 H2 e2 c2 => ea_vl c2 (i := 0) rfl (ea_cons ev_int ea_nil)) rfl ⟨10, rfl, by decide, by decide, rfl⟩) fun v2 r2 Hb2 H2 e2 c2 hP2 rv2 => la_nil ⟨_, _, rfl, ?_⟩)
  obtain ⟨sl, rfl⟩ := side_in hP1
  obtain ⟨kd, rfl, hk0, hk1⟩ := hP2
  have c3 : Cu Hb2 [(p, .f q)] [.vl (.ref p), .hd (eTab L), .hd (.bool true), .hd (eSide sl), .hd (.int kd), .un, .un, .un, .un, .un] _ H2 := (c2.put (i := 3) (s := .hd (eSide sl)) (v := v1) (rv1.mono (Ex.pr e2))).put (i := 4) (s := .hd (.int kd)) (v := v2) rv2
  have ex2 : Ex (hide [p] H) Hb2 := e1.trans e2
  dsimp only
  refine st_seq ?_
  refine s_if c3 (et_test (ev_lt (c3.var 4) ev_int)) (fun hb H3 e3 c4 => ?_) (fun hb H3 e3 c4 => ?_)
  · refine s_retTup (la_hd c4 (d := .str "drop") ev_str fun v3 Hb4 H4 e4 c5 rv3 => la_G c5 (P := fun r => r ∈ [PyData.int 1, PyData.int 1, PyData.int 1, PyData.int 2]) (g_call (k := 0) (ss := [.ls [.int 1, .int 1, .int 1, .int 2]]) rfl (fun Hb1 H1 e1 c1 => ea_vl c1 (i := 0) rfl (ea_cons (ef_lst (ds := [.int 1, .int 1, .int 1, .int 2]) (ea_cons ev_int (ea_cons ev_int (ea_cons ev_int (ea_cons ev_int ea_nil)))) (by show 4 ≤ 100000; decide)).s ea_nil)) rfl ⟨_, _, .inl rfl, rfl, List.cons_ne_nil _ _, by show 4 ≤ 1000; decide, rfl⟩) fun v4 r4 Hb5 H5 e5 c6 hP4 rv4 => la_hd c6 (c6.var 3) fun v5 Hb6 H6 e6 c7 rv5 => la_nil ⟨by show 3 ≤ sizeLine; decide, fun T hT => done_T (ds := [.str "drop", r4, eSide sl]) c7 (ex2.trans (e4.trans (e5.trans e6))) hT ⟨rv3.mono (Ex.pr (e5.trans e6)), rv4.mono (Ex.pr e6), rv5, trivial⟩ ?_ qk⟩)
    have hn : ∃ n : Nat, r4 = .int n ∧ 1 ≤ n ∧ n ≤ 2 := by
      rcases List.mem_cons.mp hP4 with e | h
      · exact ⟨1, e, by decide, by decide⟩
      rcases List.mem_cons.mp h with e | h
      · exact ⟨1, e, by decide, by decide⟩
      rcases List.mem_cons.mp h with e | h
      · exact ⟨1, e, by decide, by decide⟩
      · exact ⟨2, List.mem_singleton.mp h, by decide, by decide⟩
    obtain ⟨n, rfl, h1, h2⟩ := hn
    exact ⟨.drop n sl, rfl, h1, h2⟩
  dsimp only [tNext]
  refine st_seq ?_
  refine s_if c4 (et_test (ev_lt (c4.var 4) ev_int)) (fun hb H4 e4 c5 => ?_) (fun hb H4 e4 c5 => ?_)
  · refine s_retTup (la_hd c5 (d := .str "half") ev_str fun v3 Hb4 H4 e4 c5 rv3 => la_hd c5 (c5.var 3) fun v5 Hb6 H6 e6 c7 rv5 => la_nil ⟨by show 2 ≤ sizeLine; decide, fun T hT => done_T (ds := [.str "half", eSide sl]) c7 (ex2.trans (e4.trans e6)) hT ⟨rv3.mono (Ex.pr e6), rv5, trivial⟩ ⟨.half sl, rfl, trivial⟩ qk⟩)
  dsimp only [tNext]
  refine st_seq ?_
  refine s_if c5 (et_test (ev_eqI (c5.var 4) ev_int)) (fun hb H5 e5 c6 => ?_) (fun hb H5 e5 c6 => ?_)
  · refine s_retTup (la_hd c6 (d := .str "empty") ev_str fun v3 Hb4 H4 e4 c5 rv3 => la_nil ⟨by show 1 ≤ sizeLine; decide, fun T hT => done_T (ds := [.str "empty"]) c5 (ex2.trans e4) hT ⟨rv3, trivial⟩ ⟨.empty, rfl, trivial⟩ qk⟩)
  dsimp only [tNext]
  refine st_seq ?_
  refine s_if c6 (et_test (ev_lt (c6.var 4) ev_int)) (fun hb H6 e6 c7 => ?_) (fun hb H6 e6 c7 => ?_)
  · refine s_retTup (la_hd c7 (d := .str "lower") ev_str fun v3 Hb4 H4 e4 c5 rv3 => la_hd c5 (c5.var 3) fun v5 Hb6 H6 e6 c7 rv5 => la_nil ⟨by show 2 ≤ sizeLine; decide, fun T hT => done_T (ds := [.str "lower", eSide sl]) c7 (ex2.trans (e4.trans e6)) hT ⟨rv3.mono (Ex.pr e6), rv5, trivial⟩ ⟨.lower sl, rfl, trivial⟩ qk⟩)
  dsimp only [tNext]
  refine st_seq ?_
  refine s_asgG (P := fun r => r ∈ L.map fun p => PyData.tuple [eC p.1, .tuple (p.2.map eC)]) (u := u2 5 6) c7 (g_call (k := 0) (ss := [.hd (.tuple (L.map fun p => .tuple [eC p.1, .tuple (p.2.map eC)]))]) rfl (fun Hb1 H1 e1 c1 => ea_vl c1 (i := 0) rfl (ea_cons (ev_pt (c1.var 1)) ea_nil)) rfl ⟨_, _, .inr rfl, rfl, by simpa using hne, by rw [List.length_map]; omega, rfl⟩) (fun d hd => by
    obtain ⟨row, _, rfl⟩ := List.mem_map.mp hd
    exact tg_2 ⟨_, _, rfl⟩) fun r8 Hb8 σ8 H8 e8 hP8 c8 => ?_
  obtain ⟨row, hrow, rfl⟩ := List.mem_map.mp hP8
  have c8 : Cu Hb8 [(p, .f q)] [.vl (.ref p), .hd (eTab L), .hd (.bool true), .hd (eSide sl), .hd (.int kd), .hd (eC row.1), .hd (.tuple (row.2.map eC)), .un, .un, .un] σ8 H8 := c8
  have hles := gt.les row hrow
  dsimp only
  refine st_seq ?_
  refine s_setF c8 (ef_map c8 (ei_tup (ds := L.map fun p => .tuple [eC p.1, .tuple (p.2.map eC)]) (ev_pt (c8.var 1)) (nofun)) (fun d _ => tg_name) (by decide) fstD (fun d hd σ' H' c' => ?_) ?_) fun Hb9 σ9 H9 e9 c9 => ?_
  · obtain ⟨row2, _, rfl⟩ := List.mem_map.mp hd
    exact ev_ixT (i := 0) (d := eC row2.1) (c'.var 9) ev_int rfl
  · rw [List.length_map]
    omega
  dsimp only
  refine st_seq ?_
  refine s_if c9 (b := true) (Evl.et_is (Evl.et_or (a := true) (b := true) (et_B (c9.var 2)) (nofun)) rfl) (fun _ H10 e10 c10 => ?_) (nofun)
  refine s_retTup (la_hd c10 (d := .str "put") ev_str fun v3 Hb4 H4 e4 c5 rv3 => la_hd c5 (c5.var 5) fun v6 Hb7 H7 e7 c7 rv6 => la_G c7 (P := fun r => r ∈ [eT [], eT []] ++ row.2.map eC) (g_call (k := 0) (ss := [.ls ([eT [], eT []] ++ row.2.map eC)]) rfl (fun Hb1 H1 e1 c1 => ea_vl c1 (i := 0) rfl (ea_cons (ef_cat (ef_lst (ds := [eT [], eT []]) (ea_cons ev_str (ea_cons ev_str ea_nil)) (by show 2 ≤ 100000; decide)).s (ef_listT (ds := row.2.map eC) (c1.var 6)).s (by rw [List.length_map]; show 2 + _ ≤ _; omega)).s ea_nil)) rfl ⟨_, _, .inl rfl, rfl, List.cons_ne_nil _ _, by rw [List.length_append, List.length_map]; show 2 + _ ≤ _; omega, rfl⟩) fun v4 r4 Hb5 H5 e5 c6 hP4 rv4 => la_hd c6 (c6.var 3) fun v5 Hb6 H6 e6 c11 rv5 => la_nil ⟨by show 4 ≤ sizeLine; decide, fun T hT => done_T (ds := [.str "put", eC row.1, r4, eSide sl]) c11 (ex2.trans (e8.trans (e9.trans (e4.trans (e7.trans (e5.trans e6)))))) hT ⟨rv3.mono (Ex.pr (e7.trans (e5.trans e6))), rv6.mono (Ex.pr (e5.trans e6)), rv4.mono (Ex.pr e6), rv5, trivial⟩ ?_ qk⟩)
  have hw : ∃ w : Thing, r4 = eT w ∧ (w = [] ∨ ∃ d ∈ look L row.1, w = [d]) := by
    rw [look_of gt.nd hrow]
    rcases List.mem_append.mp hP4 with h | h
    · rcases List.mem_cons.mp h with e | h
      · exact ⟨[], e, .inl rfl⟩
      · exact ⟨[], List.mem_singleton.mp h, .inl rfl⟩
    · obtain ⟨b, hb, rfl⟩ := List.mem_map.mp h
      exact ⟨[b], rfl, .inr ⟨b, hb, rfl⟩⟩
  obtain ⟨w, rfl, hw⟩ := hw
  exact ⟨.put row.1 w sl, rfl, List.mem_map_of_mem hrow, hw⟩
end
end FF
/-! things drawn -/
namespace FF
open PySem PySem.Spec PyProof.Rows L2
open Evl (Ex EvT)
theorem join_signs0 : ∀ l : List Nat, Str.join (tS []) (l.map sC) = tS l
  | [] => rfl
  | [a] => rfl
  | a :: b :: l => by
    have ih := join_signs0 (b :: l)
    show sC a ++ tS [] ++ Str.join (tS []) ((b :: l).map sC) = _
    rw [ih, show sC a = tS [a] from rfl, tS_cat, tS_cat]
    rfl
theorem join_signs (l : List Nat) : Txt.join (tS []) (l.map sC) = tS l := by
  unfold Txt.join
  rw [StrLaws.glued_eq_join, join_signs0]
theorem ev_tabT {te : TE} {σ : L2.St} {H : Hp} {L : Tab} (h : EvD te σ H (eTab L)) : EvD te σ H (.tuple (L.map fun p => PyData.tuple [eC p.1, .tuple (p.2.map eC)])) := ev_pt h
section
variable {P : Program} {w : World} {K : PySem.W.Frag} {mg : Str → Option Value} {base : Heap}
def domThingG (ss : List Sh) (P : PyData → Prop) : Prop := ∃ (L : Tab), ss = [.hd (eTab L), .hd (.int 4)] ∧ GoodTab L ∧ L ≠ [] ∧ P = fun r => ∃ t, r = eT t ∧ IsThing L t
theorem data_letters {L : Tab} : ∀ {ds : List PyData}, (∀ d ∈ ds, ∃ c ∈ names L, d = eC c) → ∃ t : Thing, ds = t.map eC ∧ ∀ c ∈ t, c ∈ names L
  | [], _ => ⟨[], rfl, nofun⟩
  | d :: ds, h => by
    obtain ⟨c, hc, rfl⟩ := h d (List.mem_cons_self ..)
    obtain ⟨t, rfl, ht⟩ := data_letters (ds := ds) fun e he => h e (List.mem_cons_of_mem _ he)
    exact ⟨c :: t, rfl, fun e he => by
      rcases List.mem_cons.mp he with z | he
      · rw [z]
        exact hc
      · exact ht e he⟩
theorem sc_law_thing : FnScope ["_law_feed_here", "_law_letters_here", "_law_most", "_law_lap"] ["_law_feed_here", "_law_letters_here", "_law_most"] (defScope (top 79)) := ⟨rfl, rfl, rfl, by decide +kernel, rfl, by decide +kernel, by decide +kernel⟩
theorem c_law_thing (T : Txt K mg) : Cal P w K mg base 3 "_law_thing" (spG domThingG) [] := by
  refine cal_of (k := 2) T 52 (d := d_law_thing) rfl sc_law_thing rfl rfl (fun _ _ _ _ _ _ us hl => match us, hl with | [_, _, _], _ => rfl) (len_G fun _ _ ⟨_, e, _⟩ => by rw [e]; rfl) (fun f cdv A outer s H vs Q E hr h => ?_)
  obtain ⟨p, q, t, l, d, ss, PP, r, hp, hfd, ⟨L, rfl, gt, hne, rfl⟩, qk⟩ := h
  have c := Cu.entryM (N := ["_law_feed_here", "_law_letters_here", "_law_most", "_law_lap"]) (m := .f q) r hp hfd
  refine ⟨_, (pss_one (ps_ret (pe_join pe_str (pe_lc (own := [("_law_lap", 3)]) rfl sc_law_thing.nd (pi_range1 rfl T.range_ (pa_cons (pe_c (c_law_draw T) hr (by decide) rfl (pa_cons (pv 0) (pa_cons (pe_op op_add (pv 2) pe_int) pa_nil))) pa_nil)) (blkOk_by (N := ["_law_feed_here", "_law_letters_here", "_law_most", "_law_lap"]) (sc := defScope (top 79)) (by decide +kernel)) (by intros; exact (pg_name (i := 3) sc_law_thing.nd rfl (by first | exact Or.inl rfl | exact Or.inr rfl))) (by intros; exact pts_nil) (by intros; exact (pe_ix (ix_tupK (K := K) rfl) (pe_c (c_law_any T) hr (by decide) rfl (pa_cons (pv 0) (pa_cons (pv 1) pa_nil))) pe_int (fun _ _ => rfl))))))), ?_⟩
  have hlen := gt.len
  have hrow : ∀ {Hb1 : Hp} {ms : Ms} {cs : List Sh} {σ : L2.St}, ms[0]? = some (p, .f q) → cs[0]? = some (.vl (.ref p)) → cs[1]? = some (.hd (eTab L)) → EvG (tOp (rIxT K) (tCall (spG domAny) [] E0 (tCons (tVar 0) (tCons (tVar 1) tNil))) (tC (.int 0))) Hb1 ms cs σ (fun r => ∃ c ∈ names L, r = eC c) := fun hm h0 h1 =>
    g_ixT (P := fun r => r ∈ L.map fun p => PyData.tuple [eC p.1, .tuple (p.2.map eC)]) (g_call (k := 0) (ss := [.hd (.tuple (L.map fun p => .tuple [eC p.1, .tuple (p.2.map eC)]))]) hm (fun Hb2 H2 e2 c2 => ea_vl c2 (i := 0) h0 (ea_cons (ev_tabT (c2.var 1 h1)) ea_nil)) rfl ⟨_, _, .inr rfl, rfl, by simpa using hne, by rw [List.length_map]; omega, rfl⟩) fun r hr => by
      obtain ⟨row, hrow, rfl⟩ := List.mem_map.mp hr
      exact ⟨_, _, rfl, rfl, row.1, List.mem_map_of_mem hrow, rfl⟩
  refine ⟨⟨_, rfl⟩, g_lc (te := tOp (rIxT K) (tCall (spG domAny) [] E0 (tCons (tVar 0) (tCons (tVar 1) tNil))) (tC (.int 0))) (tn := tCall (spG domDraw) [] E0 (tCons (tVar 0) (tCons (tOp (rI0 fun i j => .int (i + j)) (tVar 2) (tC (.int 1))) tNil))) (P := fun r => ∃ c ∈ names L, r = eC c) (j := 3) (vs := [3]) (Pn := fun i => 0 ≤ i ∧ i < 5) (List.mem_singleton.mpr rfl) ((g_call (P := fun r => ∃ i : Int, r = .int i ∧ 0 ≤ i ∧ i < 5) (k := 0) (ss := [.hd (.int 5)]) rfl (fun Hb2 H2 e2 c2 => ea_vl c2 (i := 0) rfl (ea_cons (ev_add (c2.var 2) ev_int) ea_nil)) rfl ⟨5, rfl, by decide, by decide, rfl⟩).imp fun r ⟨i, e, h0, h1⟩ => ⟨i, ⟨h0, h1⟩, e⟩) (fun i h => ⟨h.1, by omega⟩) (fun D acc i σ' Hb' => hrow rfl rfl rfl) (hide [p] H) H (Ex.refl _) c _ fun pl ds Hb2 H2 e2 c2 hP ls => ?_⟩
  obtain ⟨n, ⟨h0, h1⟩, hdl, hall⟩ := hP
  obtain ⟨tt, rfl, htt⟩ := data_letters hall
  rw [List.length_map] at hdl
  obtain ⟨xs, g1, g2⟩ := ls
  have ex := RpAll.flat (fun d hd => by
    obtain ⟨c, _, rfl⟩ := List.mem_map.mp hd
    rfl) g2
  have e3 : xs = (tt.map sC).map V.str := by
    rw [ex, List.map_map, List.map_map]
    rfl
  rw [e3] at g1
  refine ⟨tS [], pl, tt.map sC, rfl, rfl, .inl (SqL.of (c2.ex _ _ g1)), ?_, ?_⟩
  · have hs : ∀ l : List Nat, ((l.map sC).map (·.length)).sum = l.length := fun l => by
      induction l with
      | nil => rfl
      | cons a l ih =>
        rw [List.map_cons, List.map_cons, List.sum_cons, ih, List.length_cons]
        show 1 + l.length = l.length + 1
        omega
    rw [hs]
    have : (tS []).length = 0 := rfl
    rw [this]
    omega
  · rw [join_signs]
    exact done_G (P := fun r => ∃ t, r = eT t ∧ IsThing L t) (r := eT tt) c2 e2 ⟨tt, rfl, htt, by omega⟩ rfl qk
end
end FF
/-! the feed -/
namespace FF
open PySem PySem.Spec PyProof.Rows L2
open Evl (Ex EvT)
def spFeed (K : PySem.W.Frag) : Sp := fun vs H Q _ => ∃ (a : Addr) (ns : List Int), vs = [.ref a] ∧ SqL K H a (ns.map V.int) ∧ ns.length ≤ 63 ∧
  ∀ p q H', H p = none → H q = none → q ≠ p → Ex H H' → H' p = some (.dK (feedKvs q 0 0 0)) → LsAt H' q (ns.map PyData.int) → Q (.ref p) H'
section
variable {P : Program} {w : World} {K : PySem.W.Frag} {mg : Str → Option Value} {base : Heap}
theorem sc_law_feed : FnScope ["_law_script"] ["_law_script"] (defScope (top 74)) := ⟨rfl, rfl, rfl, by decide +kernel, rfl, by decide +kernel, by decide +kernel⟩
theorem c_law_feed (T : Txt K mg) : Cal P w K mg base 1 "_law_feed" (spFeed K) [] := by
  refine cal_of (k := 0) T 47 (d := d_law_feed) rfl sc_law_feed rfl rfl (fun _ _ _ _ _ _ us hl => match us, hl with | [_], _ => rfl) (fun vs H Q E ⟨_, _, e, _⟩ => by rw [e]; rfl) (fun f cdv A outer s H vs Q E hr h => ?_)
  obtain ⟨a, ns, rfl, hs, hn, q⟩ := h
  refine ⟨_, (pss_one (ps_ret (pe_disp (pps_cons pe_str (pe_callTy (call_list_ofK (K := K) rfl) rfl T.list_ (by decide +kernel) (pa_cons (pe_slice (sl_listK (K := K) rfl) (pv 0) po_none (po_some pe_int)) pa_nil)) (pps_cons pe_str pe_int (pps_cons pe_str pe_int (pps_cons pe_str pe_int pps_nil)))) rfl rfl (fun z => by cases z) (by decide)))), ?_⟩
  show ∀ p, H p = none → _
  intro p hp
  have e1 : Ex H (L2.upd H p (.dK [])) := Evl.Ex.new hp
  have hs1 : SqL K (L2.upd H p (.dK [])) a (ns.map V.int) := by
    rcases hs with (h | ⟨o, h⟩) | h
    · exact .inl (.inl (e1 _ _ h))
    · exact .inl (.inr ⟨o, e1 _ _ h⟩)
    · exact .inr h
  refine ⟨.ref a, rfl, 63, rfl, a, ns.map V.int, rfl, hs1, fun p1 hp1 => ?_⟩
  have hcut : cutV (ns.map V.int) none (some 63) = ns.map V.int := by
    unfold cutV
    rw [HT.sIx_none, show ((some 63 : Option Int)) = some ((63 : Nat) : Int) from rfl, HT.sIx_nat, List.drop_zero, Nat.sub_zero, List.length_map, Nat.min_eq_right hn]
    exact List.take_of_length_le (by rw [List.length_map]; exact Nat.le_refl _)
  rw [hcut]
  have e2 : Ex (L2.upd H p (.dK [])) (L2.upd (L2.upd H p (.dK [])) p1 (.lst (ns.map V.int))) := Evl.Ex.new hp1
  refine ⟨p1, ns.map V.int, rfl, .inl (SqL.of upd_same), fun q1 hq1 => ?_⟩
  have e3 : Ex (L2.upd (L2.upd H p (.dK [])) p1 (.lst (ns.map V.int))) (L2.upd (L2.upd (L2.upd H p (.dK [])) p1 (.lst (ns.map V.int))) q1 (.lst (ns.map V.int))) := Evl.Ex.new hq1
  have hq0 : H q1 = none := Evl.fresh_back (e1.trans e2) hq1
  have hqp : q1 ≠ p := fun z => by
    rw [z] at hq1
    rw [e2 _ _ upd_same] at hq1
    cases hq1
  refine ⟨e3 _ _ (e2 _ _ upd_same), [((Sum.inr ("cells" : Str) : Key), V.ref q1), ((Sum.inr ("turn" : Str) : Key), V.int 0), ((Sum.inr ("left" : Str) : Key), V.int 0), ((Sum.inr ("drawn" : Str) : Key), V.int 0)], rfl, (by show 4 ≤ 15; decide), ?_⟩
  refine q p q1 _ hp hq0 hqp (fun b o h => ?_) upd_same ?_
  · have : b ≠ p := fun z => by rw [z, hp] at h; cases h
    rw [upd_ne this]
    exact e3 _ _ (e2 _ _ (e1 _ _ h))
  · refine ⟨ns.map V.int, by rw [upd_ne hqp]; exact upd_same, ?_⟩
    rw [← vOf_ints]
    exact RpAll.ofFlat (flat_ints ns)
end
end FF
/-! sets of texts that can be walked: set(list of texts), sorted of it -/
namespace FF
open PySem PySem.Spec PyProof.Rows L2
def keyT (e : Int × Value) : Str := match e.2 with | .str k _ => k | _ => Str.empty
def GoodT (w : World) (e : Int × Value) : Prop := ∃ k tk, e.2 = Value.str k tk ∧ e.1 = hashStr w k
/-- the set of texts at a: S its members, n their number -/
def SetT (w : World) (h : Heap) (a : Addr) (S : Str → Bool) (n : Nat) : Prop :=
  ∃ o es ep t, h.get? a = some o ∧ o.ExactSet ∧ o.data = .set es ep t ∧ (∀ e ∈ es.toList, GoodT w e) ∧ (es.toList.map keyT).Nodup ∧ (∀ k, S k = true ↔ k ∈ es.toList.map keyT) ∧
    es.size < scanBound ∧ t.fits es.size = true ∧ es.size = n ∧ Ris t.place.toList ∧ (w.params.followText "set-order" = true ∨ t.led = true)
section
variable {P : Program} {w : World} {h h' : Heap} {a : Addr} {S : Str → Bool} {n : Nat}
theorem SetT.at (R : SetT w h a S n) (k : ∀ o, h.get? a = some o → h'.get? a = some o) : SetT w h' a S n := by
  obtain ⟨o, es, ep, t, ho, r⟩ := R
  exact ⟨o, es, ep, t, k o ho, r⟩
theorem SetT.congr {S' : Str → Bool} (R : SetT w h a S n) (e : ∀ k, S' k = S k) : SetT w h a S' n := by
  rw [show S' = S from funext e]
  exact R
theorem goodT_elems {l : List (Int × Value)} (g : ∀ e ∈ l, GoodT w e) : ElemsOf (PySem.strKind P w) l := fun e he => by
  obtain ⟨k, tk, h1, h2⟩ := g e he
  exact ⟨⟨k, by rw [h1]; exact strKind_is P w k tk, h2⟩, by rw [h1] <;> rfl⟩
theorem goodT_is {e : Int × Value} (g : GoodT w e) (k : Str) : (PySem.strKind P w).is k e.2 = true ↔ keyT e = k := by
  obtain ⟨k0, tk, h1, _⟩ := g
  unfold keyT
  rw [h1]
  constructor
  · intro h
    obtain ⟨t, e⟩ := Value.isStrOf_shape (show Value.isStrOf k (Value.str k0 tk) = true from h)
    cases e
    rfl
  · intro e
    have e : k0 = k := e
    subst e
    exact strKind_is P w k0 tk
theorem goodT_mem {l : List (Int × Value)} (g : ∀ e ∈ l, GoodT w e) (k : Str) : k ∈ l.map keyT ↔ ∃ e ∈ l, (PySem.strKind P w).is k e.2 = true := by
  rw [List.mem_map]
  exact ⟨fun ⟨e, he, q⟩ => ⟨e, he, (goodT_is (g e he) k).2 q⟩, fun ⟨e, he, q⟩ => ⟨e, he, (goodT_is (g e he) k).1 q⟩⟩
end
section
variable {P : Program} {w : World} {A : Around} {E : Value → Shared → Prop} {s : Shared} {a : Addr} {S : Str → Bool} {n : Nat}
theorem setT_tail {g : Bool → Sem Unit} (hg : ∀ (b : Bool) (s₁ : Shared) (Q' : Unit → Shared → Prop), Q' () s₁ → wpAny (model P w) A (g b) Q' E s₁)
    {o : Obj} {es : Array (Int × Value)} {ep : Nat} {t : SetTable} (ho : s.heap.get? a = some o) (hex : o.ExactSet) (hd : o.data = .set es ep t)
    {es1 : Array (Int × Value)} {t2 : SetTable} {S' : Str → Bool} (g1 : ∀ e ∈ es1.toList, GoodT w e) (nd1 : (es1.toList.map keyT).Nodup) (m1 : ∀ k, S' k = true ↔ k ∈ es1.toList.map keyT)
    (hb1 : es1.size < scanBound) (hf2 : t2.fits es1.size = true) (hr : Ris t2.place.toList) (hl : w.params.followText "set-order" = true ∨ t2.led = true) {wasDummy : Bool} {R : Option Bool → Shared → Prop}
    (hR : ∀ h', Heap.SameBut a s.heap h' → SetT w h' a S' es1.size → R (some true) { s with heap := h' }) :
    wpAny (model P w) A (do
        storeSet a es1 t2
        if (!wasDummy && t2.tooFull) = true then do
            g (relayAll t2 es1 (SetTable.grown es1.size)).2.2
            storeSet a (relayAll t2 es1 (SetTable.grown es1.size)).1 (relayAll t2 es1 (SetTable.grown es1.size)).2.1
            pure (some true)
          else pure (some true)) R E s := by
  refine wpAny_bind (wpAny_storeSet_of ho hd ?_ (fits_of_scanBound hb1))
  have ho1 := store_at (es' := es1) (t' := t2) ho hd
  have sb1 := Heap.SameBut.update s.heap a (Obj.putSet es1 t2)
  split
  · have pm := relayAll_perm t2 es1 (SetTable.grown es1.size)
    have hf3 := relayAll_fits t2 es1 (SetTable.grown es1.size)
    have hr3 := relayAll_ris t2 es1 (SetTable.grown es1.size)
    have hl3 := relayAll_led t2 es1 (SetTable.grown es1.size)
    generalize relayAll t2 es1 (SetTable.grown es1.size) = Z at pm hf3 hr3 hl3 ⊢
    obtain ⟨es2, t3, gave⟩ := Z
    dsimp only at pm hf3 hr3 hl3 ⊢
    have hsz : es2.size = es1.size := by rw [← Array.length_toList, pm.length_eq, Array.length_toList]
    have hb2 : es2.size < scanBound := by rw [hsz]; exact hb1
    refine wpAny_bind (hg _ _ _ ?_)
    refine wpAny_bind (wpAny_storeSet_of ho1 rfl ?_ (fits_of_scanBound hb2))
    have ho2 := store_at (es' := es2) (t' := t3) ho1 rfl
    refine wpAny_pure (hR _ (sb1.trans (Heap.SameBut.update _ a _)) ?_)
    exact ⟨_, es2, _, t3, ho2, hex, rfl, fun e he => g1 e (pm.mem_iff.mp he), (pm.map keyT).nodup_iff.mpr nd1, fun k => (m1 k).trans (pm.map keyT).mem_iff.symm, hb2, hf3, hsz, hr3,
      hl.imp id fun z => by rw [hl3]; exact z⟩
  · exact wpAny_pure (hR _ sb1 ⟨_, es1, _, t2, ho1, hex, rfl, g1, nd1, m1, hb1, hf2, rfl, hr, hl⟩)
theorem setT_add {k : Str} {tk : Tok} {Q : Bool → Shared → Prop} (R : SetT w s.heap a S n) (room : n + 1 < scanBound)
    (hQ : ∀ h', Heap.SameBut a s.heap h' → SetT w h' a (fun j => S j || decide (j = k)) (if S k = true then n else n + 1) → Q (!S k) { s with heap := h' }) :
    wpAny (model P w) A (setAddHashed a (.str k tk) ((PySem.strKind P w).hash k)) Q E s := by
  obtain ⟨o, es, ep, t, ho, hex, hd, g, nd, hm, hb, hf, hn, hr, hl⟩ := R
  have hkey : (PySem.strKind P w).is k (.str k tk) = true := strKind_is P w k tk
  have hsc : (Value.str k tk).scannable = true := rfl
  have hel : ElemsOf (PySem.strKind P w) es.toList := goodT_elems g
  unfold setAddHashed setAddHashedIn
  refine wpAny_holding (wpAny_bind (wpAny_setState_of ho hd hf ?_))
  dsimp only
  rw [byScan_of hsc hb hel]
  simp only [↓reduceIte]
  unfold setAddByScan
  refine wpAny_bind ?_
  refine wpAny_bind (wpAny_rule ?_)
  refine wpAny_bind (wpAny_setScan_of hkey ho hd hf hel ?_)
  cases hfi : List.findIdx? (fun e => (PySem.strKind P w).is k e.2) es.toList with
  | some j =>
    dsimp only
    obtain ⟨hj, pj, _⟩ := List.findIdx?_eq_some_iff_getElem.mp hfi
    have hSk : S k = true := (hm k).2 ((goodT_mem (P := P) (w := w) g k).2 ⟨es.toList[j], List.getElem_mem hj, pj⟩)
    refine wpAny_pure (wpAny_pure ?_)
    have q := hQ s.heap (Heap.SameBut.refl a s.heap) ⟨o, es, ep, t, ho, hex, hd, g, nd, fun i => by
      rw [Bool.or_eq_true, decide_eq_true_eq, ← hm i]
      exact ⟨fun z => z.elim id (fun e => e ▸ hSk), .inl⟩, hb, hf, by rw [if_pos hSk]; exact hn, hr, hl⟩
    rw [hSk] at q
    exact q
  | none =>
    dsimp only
    have hnk : k ∉ es.toList.map keyT := fun z => by
      obtain ⟨e, he, q⟩ := (goodT_mem (P := P) (w := w) g k).1 z
      have c := List.findIdx?_eq_none_iff.mp hfi e he
      rw [q] at c
      cases c
    have hSk : S k = false := by
      cases q : S k with
      | false => rfl
      | true => exact absurd ((hm k).1 q) hnk
    have hgw : ∀ (b : Bool) {s₁ : Shared} {Q' : Unit → Shared → Prop}, Q' () s₁ → wpAny (model P w) A (match b with | true => rule "set.scan.the-table-gave-way" | false => pure ()) Q' E s₁ :=
      fun b s₁ Q' q => by cases b <;> first | exact wpAny_pure q | exact wpAny_rule q
    have pm := layNew_perm t es ((PySem.strKind P w).hash k) (.str k tk)
    have hf1 := layNew_fits t es ((PySem.strKind P w).hash k) (.str k tk)
    have hr1 := layNew_ris t es ((PySem.strKind P w).hash k) (.str k tk) hr
    have hl1 := layNew_led t es ((PySem.strKind P w).hash k) (.str k tk)
    generalize layNew t es ((PySem.strKind P w).hash k) (.str k tk) = Z at pm hf1 hr1 hl1 ⊢
    obtain ⟨es1, t1, wasDummy, gave⟩ := Z
    dsimp only at pm hf1 hr1 hl1 ⊢
    rw [Array.toList_push] at pm
    have pc : es1.toList.Perm (((PySem.strKind P w).hash k, Value.str k tk) :: es.toList) := pm.trans (List.perm_append_singleton _ _)
    have pk : (es1.toList.map keyT).Perm (k :: es.toList.map keyT) := pc.map keyT
    have g1 : ∀ e ∈ es1.toList, GoodT w e := fun e he => by
      rcases List.mem_cons.mp (pc.mem_iff.mp he) with z | z
      · rw [z]; exact ⟨k, tk, rfl, rfl⟩
      · exact g e z
    have nd1 : (es1.toList.map keyT).Nodup := pk.nodup_iff.mpr (List.nodup_cons.mpr ⟨hnk, nd⟩)
    have m1 : ∀ i, (S i || decide (i = k)) = true ↔ i ∈ es1.toList.map keyT := fun i => by
      rw [Bool.or_eq_true, decide_eq_true_eq, hm i, pk.mem_iff, List.mem_cons]
      exact Or.comm
    have hsz : es1.size = n + 1 := by rw [← Array.length_toList, pc.length_eq, List.length_cons, Array.length_toList, hn]
    have hb1 : es1.size < scanBound := by rw [hsz]; exact room
    have hled : w.params.followText "set-order" = true ∨ t1.led = true := hl.imp id fun z => by rw [hl1]; exact z
    have fin : ∀ h', Heap.SameBut a s.heap h' → SetT w h' a (fun j => S j || decide (j = k)) es1.size → Q true { s with heap := h' } := fun h' sb r => by
      have q := hQ h' sb
      rw [hSk] at q
      rw [hsz] at r
      exact q r
    refine wpAny_bind (hgw _ ?_)
    split
    · refine wpAny_bind ?_
      rw [hashByValue_scannable 8 hsc]
      refine wpAny_pure ?_
      refine setT_tail ?_ ho hex hd g1 nd1 m1 hb1 ?_ ?_ ?_ ?_
      · intro b s₁ Q' q; cases b <;> first | exact wpAny_pure q | exact wpAny_rule q
      · first | (split <;> first | exact hf1 | exact SetTable.fits_plain_off hf1) | exact hf1
      · first | (split <;> exact hr1) | exact hr1
      · first | (split <;> exact hled) | exact hled
      · intro h' sb r; dsimp only; exact wpAny_pure (fin h' sb r)
    · refine wpAny_bind (wpAny_pure ?_)
      simp only [↓reduceIte]
      refine setT_tail ?_ ho hex hd g1 nd1 m1 hb1 hf1 hr1 hled ?_
      · intro b s₁ Q' q; cases b <;> first | exact wpAny_pure q | exact wpAny_rule q
      · intro h' sb r; dsimp only; exact wpAny_pure (fin h' sb r)
theorem setT_new {h : Heap} {ns : List Str} (ho : h.get? a = some { cls := .type "set", dict := none, data := .set #[] 0 (.fresh 0 0 (!w.params.followText "set-order")) }) : SetT w h a (fun j => decide (j ∈ ns.take 0)) 0 :=
  ⟨_, #[], 0, _, ho, ⟨rfl, rfl, rfl⟩, rfl, (fun e he => by simp at he), (by simp), (fun k => by simp), (by decide), (by rfl), rfl, List.Pairwise.nil, by
    show _ ∨ (!w.params.followText "set-order") = true
    cases w.params.followText "set-order"
    · exact .inr rfl
    · exact .inl rfl⟩
theorem setT_update {I : Addr} {fp wr : List Addr} {G : Array GenState → Array GenState → Prop} {n : Nat} {Pv : Nat → Value → Prop} {St : Nat → Shared → Prop} {R : Result → Shared → Prop}
    (W : WalksS P w A.in1 I fp wr G n Pv St) (S : Addr) (hSf : S ∉ fp) (ns : List Str) (hn : n = ns.length) (hb : ns.length + 1 < scanBound) (hval : ∀ i v, Pv i v → ∃ k t, ns[i]? = some k ∧ v = .str k t) :
    ∀ (k i : Nat) (s : Shared), n - i = k → i ≤ n → St i s → (∃ c, c ≤ i ∧ SetT w s.heap S (fun j => decide (j ∈ ns.take i)) c) →
      (∀ s' c, Moved (S :: wr) G s s' → c ≤ n → SetT w s'.heap S (fun j => decide (j ∈ ns)) c → R (.ok (.ret .none)) s') →
      codeAny (model P w) A (.builtin "set.update.loop" ⟨[.ref S, .ref I], []⟩) R s := by
  have hSw : S ∉ wr := fun h => hSf (W.sub _ h)
  have hsub : ∀ b ∈ wr, b ∈ S :: wr := fun b hb => List.mem_cons_of_mem _ hb
  intro k
  induction k with
  | zero =>
    intro i s hk' hi hst ⟨c, hc, hS⟩ hR
    have hin : i = n := by omega
    subst hin
    refine codeAny_builtin F.entry_set_update_loop ?_
    rw [Around.under_plainId F.plain_set_update_loop _]
    show wpAny _ A.in1 (pyNext (.ref I) >>= _) _ _ s
    refine wpAny_bind (W.done s _ _ hst fun s' hm => ?_)
    show wpAny _ A.in1 (ret Value.none) _ _ s'
    have e : ns.take i = ns := List.take_of_length_le (by omega)
    rw [e] at hS
    exact wpAny_pure (hR s' c (hm.mono hsub) hc (hS.at fun o e => hm.heap S o hSw e))
  | succ k ih =>
    intro i s hk' hi hst ⟨c, hc, hS⟩ hR
    have hlt : i < n := by omega
    refine codeAny_builtin F.entry_set_update_loop ?_
    rw [Around.under_plainId F.plain_set_update_loop _]
    show wpAny _ A.in1 (pyNext (.ref I) >>= _) _ _ s
    refine wpAny_bind (W.item i s _ _ hlt hst fun v s' hP hst' hm => ?_)
    obtain ⟨z, t, hz, rfl⟩ := hval i v hP
    have hS' : SetT w s'.heap S (fun j => decide (j ∈ ns.take i)) c := hS.at fun o e => hm.heap S o hSw e
    show wpAny _ A.in1 (holding [Value.str z t] (setAdd S (.str z t)) >>= _) _ _ s'
    refine wpAny_bind (wpAny_holding ?_)
    unfold setAdd
    refine wpAny_holding ?_
    refine wpAny_bind ((PySem.strKind P w).pyHash (k := z) (strKind_is _ _ _ _) ?_)
    refine setT_add (s := { s' with toks := s'.toks + 1 }) hS' (by omega) fun h' hsb hS2 => ?_
    have hS3 : SetT w h' S (fun j => decide (j ∈ ns.take (i + 1))) (if decide (z ∈ ns.take i) = true then c else c + 1) := hS2.congr fun j => by
      rw [List.take_add_one, hz]
      simp [List.mem_append]
    have hc3 : (if decide (z ∈ ns.take i) = true then c else c + 1) ≤ i + 1 := by
      split <;> omega
    refine wpAny_pure ⟨plainId_quiet F.plain_set_update_loop _, ih (i + 1) _ (by omega) hlt (W.frame _ s' _ _ hst' (Nat.le_succ _) fun b hb o e => ?_) ⟨_, hc3, hS3⟩ fun s'' c2 hm'' hc'' hS'' => ?_⟩
    · rw [hsb.2 b (fun h : b = S => hSf (by rw [← h]; exact hb))]; exact e
    · refine hR s'' c2 (Moved.trans W.gtrans ((hm.mono hsub).then_heap (Nat.le_succ _) fun b o hb e => ?_) hm'') hc'' hS''
      rw [hsb.2 b (fun h : b = S => hb (by rw [h]; exact List.mem_cons_self))]; exact e
theorem call_setT {l : Addr} {items : Array Value} {xs : List Str} {Q : Value → Shared → Prop}
    (hh : A.handled = none) (hl : s.heap.IsList l items) (hi : StrsAre items.toList xs) (hb : xs.length + 1 < scanBound)
    (h : ∀ (h' : Heap) (tk c : Nat), SetT w h' s.heap.objs.size (fun j => decide (j ∈ xs)) c → c ≤ xs.length → (∀ b o, s.heap.get? b = some o → h'.get? b = some o) → Q (.ref s.heap.objs.size) { s with heap := h', toks := tk }) :
    wpAny (model P w) A (call (.type "set") [.ref l]) Q E s := by
  have hsz : items.size = xs.length := by rw [← StrsAre.len_eq hi, Array.length_toList]
  obtain ⟨c, tl, hmro⟩ := PySem.F.called_set.mro
  have hmade := PySem.F.called_set.made
  have hsub := PySem.F.called_set.sub
  refine wpAny_call (codeAny_of_tree ?_)
  show wpAny _ _ (callAny (.type "set") _) _ _ _
  refine wpAny_pure ⟨Code.quiet_builtin _ (by decide +kernel), codeAny_builtin PySem.F.entry_type_call ?_⟩
  rw [Around.under_plain (weight_type_call_type "set" [.ref l] []) rfl]
  have h1 := PySem.F.called_set.notType
  have h2 := PySem.F.called_set.canCreate
  have hct := PySem.F.typeCall_set_1 (.ref l)
  repeat (any_goals (first | assumption | wp_step))

  refine codeAny_mono (code_set_led1 (.ref l) (E := E) (Q₁ := fun obj s₁ => obj = .ref s.heap.objs.size ∧ s₁ = { s with heap := s.heap.push { cls := .type "set", dict := none, data := .set #[] 0 (.fresh 0 0 (!w.params.followText "set-order")) } }) ⟨rfl, rfl⟩) fun r s₁ hr => ?_
  cases r with
  | error e => exact hr
  | ok fl =>
    cases fl with
    | ret obj =>
      obtain ⟨rfl, e0⟩ := hr
      obtain ⟨led, hled⟩ : ∃ b, b = (!w.params.followText "set-order") := ⟨_, rfl⟩
      rw [← hled] at e0
      subst e0
      have hS : (s.heap.push { cls := .type "set", dict := none, data := .set #[] 0 (.fresh 0 0 led) }).get? s.heap.objs.size = some { cls := .type "set", dict := none, data := .set #[] 0 (.fresh 0 0 led) } := Heap.get?_push_size _ rfl
      have hT : Shared.TypeIs { s with heap := s.heap.push { cls := .type "set", dict := none, data := .set #[] 0 (.fresh 0 0 led) } } (.ref s.heap.objs.size) "set" := ⟨_, hS, rfl⟩
      have hli := PySem.F.called_set.init.lookup
      have hbi := PySem.F.called_set.init.bind (.ref s.heap.objs.size)
      repeat (any_goals (first | assumption | wp_step))

      refine codeAny_mono (codeAny_call_builtin (R := wants (fun r s₂ => r = .none ∧ ∃ h' tk c, s₂ = { s with heap := h', toks := tk } ∧ SetT w h' s.heap.objs.size (fun j => decide (j ∈ xs)) c ∧ c ≤ xs.length ∧
          (∀ b o, s.heap.get? b = some o → h'.get? b = some o)) E) PySem.F.called_set.init.plain PySem.F.entry_set_init (check_set_init_1 hT ?_)) fun r₂ s₂ hr₂ => ?_
      · obtain ⟨ol, hol, hcl, nl, hdl⟩ := hl
        obtain ⟨ocls, odict, odata, oslots⟩ := ol
        simp only at hcl hdl
        subst hcl; subst hdl
        have hol' : (s.heap.push { cls := .type "set", dict := none, data := .set #[] 0 (.fresh 0 0 led) }).get? l = some { cls := .type "list", dict := odict, data := .seq items nl, slots := oslots } := Heap.get?_push_of_some _ hol
        have hsls := PySem.F.sub_list_set
        have hslf := PySem.F.sub_list_frozenset
        have hne : (Value.type "list" == Value.type "dict") = false := by decide
        have hl1 : (s.heap.push { cls := .type "set", dict := none, data := .set #[] 0 (.fresh 0 0 led) }).IsList l items := ⟨_, hol', rfl, nl, rfl⟩
        unfold Builtin.«set.__init__» noKeywords Builtin.Frozenset.updateFrom
        generalize hPI : pyIter = PI
        wp_walk
        subst hPI

        refine wpAny_pyIter_list hl1 ?_
        refine wpAny_bind (wpAny_runValue ?_)
        have hlS : l < s.heap.objs.size := Heap.lt_size hol
        have hh3 : A.in1.in1.in1.handled = none := by simp [hh]
        have hneI : l ≠ (s.heap.push { cls := .type "set", dict := none, data := .set #[] 0 (.fresh 0 0 led) }).objs.size := by
          rw [Heap.size_push]; exact Nat.ne_of_lt (Nat.lt_succ_of_lt hlS)
        have hSf : s.heap.objs.size ∉ [(s.heap.push { cls := .type "set", dict := none, data := .set #[] 0 (.fresh 0 0 led) }).objs.size, l] := by
          rw [Heap.size_push]; simp only [List.mem_cons, List.mem_singleton, List.not_mem_nil, or_false, not_or]
          exact ⟨Nat.ne_of_lt (Nat.lt_succ_self _), Nat.ne_of_gt hlS⟩
        have hval : ∀ (i : Nat) (v : Value), items[i]? = some v → ∃ k t, xs[i]? = some k ∧ v = .str k t := fun i v hv => by
          have hx : i < xs.length := by rw [← hsz]; exact (Array.getElem?_eq_some_iff.mp hv).1
          obtain ⟨t, e⟩ := SS.strs_at hi i v (by rw [Array.getElem?_toList]; exact hv)
          refine ⟨xs[i], t, List.getElem?_eq_getElem hx, ?_⟩
          rw [e, List.getD_eq_getElem?_getD, List.getElem?_eq_getElem hx] <;> rfl
        refine setT_update ((Walks.list hh3 _ l hneI items).toS) s.heap.objs.size
          hSf xs hsz hb hval (items.size - 0) 0 _ (by omega) (Nat.zero_le _)
          ⟨⟨_, Heap.get?_push_size _ rfl, rfl, rfl⟩, (hl1.push _)⟩ ?hS0 ?hR
        case hS0 =>
          have hget : ((s.heap.push { cls := .type "set", dict := none, data := .set #[] 0 (.fresh 0 0 led) }).push { cls := .type "list_iterator", data := .fields #[.ref l, .int 0 0] }).get? s.heap.objs.size
              = some { cls := .type "set", dict := none, data := .set #[] 0 (.fresh 0 0 led) } := Heap.get?_push_of_some _ hS
          rw [hled] at hget
          exact ⟨0, Nat.le_refl 0, by rw [hled]; exact setT_new hget⟩
        case hR =>
          intro s' c' hm hc' hS'
          obtain ⟨h', g', d', tk', os'⟩ := s'
          have eg : g' = s.gens := hm.gens
          have ed : d' = s.drawn := hm.drawn
          have eo : os' = s.os := hm.os
          subst eg; subst ed; subst eo
          show wpAny _ _ _ _ _ _
          refine wpAny_pure ?_
          show wpAny _ _ (ret Value.none) _ _ _
          refine wpAny_pure ⟨rfl, h', tk', c', rfl, hS', by rw [← hsz]; exact hc', fun b o e => ?_⟩
          have hb0 : b < s.heap.objs.size := Heap.lt_size e
          have hb1 : b ≠ s.heap.objs.size := Nat.ne_of_lt hb0
          have hb2 : b ≠ (s.heap.push { cls := .type "set", dict := none, data := .set #[] 0 (.fresh 0 0 led) }).objs.size := by
            rw [Heap.size_push]; exact Nat.ne_of_lt (Nat.lt_succ_of_lt hb0)
          exact hm.heap b o (by simp only [List.mem_cons, List.mem_singleton, List.not_mem_nil, or_false, not_or]; exact ⟨hb1, hb2⟩) (Heap.get?_push_of_some _ (Heap.get?_push_of_some _ e))

      · cases r₂ with
        | error e => exact hr₂
        | ok fl₂ =>
          cases fl₂ with
          | ret r =>
            obtain ⟨rfl, h', tk, c', rfl, hS', hc', hk'⟩ := hr₂
            repeat (any_goals (first | assumption | wp_step))
            exact h _ _ _ hS' hc' hk'
          | _ => exact hr₂.elim
    | _ => exact hr.elim
/-! ### sorted -/
theorem texts_of : ∀ (l : List Value), (∀ v ∈ l, ∃ k tk, v = Value.str k tk) → ∃ ss, StrsAre l ss ∧ ss = l.map fun v => keyT (0, v)
  | [], _ => ⟨[], .nil, rfl⟩
  | v :: l, h => by
    obtain ⟨k, tk, rfl⟩ := h v List.mem_cons_self
    obtain ⟨ss, h1, h2⟩ := texts_of l fun u hu => h u (List.mem_cons_of_mem _ hu)
    exact ⟨k :: ss, .cons k tk h1, by rw [h2] <;> rfl⟩
theorem sorted_setT {S : Str → Bool} {n : Nat} {Q : Value → Shared → Prop} (R : SetT w s.heap a S n) (hh : A.handled = none) (h64 : n < 64)
    (hQ : ∀ s' p (out : Array Value) (c : Nat) (ns : List Str), (∀ b o, s.heap.get? b = some o → s'.heap.get? b = some o) → s'.gens = s.gens → s'.os = s.os → s.heap.objs.size ≤ p →
      s'.heap.get? p = some (seqObj "list" out c) → StrsAre out.toList ns → sortedS ns = true → ns.Nodup → (∀ k, k ∈ ns ↔ S k = true) → ns.length = n → Q (.ref p) s') :
    wpAny (model P w) A (call (.builtin "sorted") [.ref a]) Q E s := by
  obtain ⟨o, es, ep, t, ho, hex, hd, g, nd, hm, hb, hf, hn, hr, hl⟩ := R
  refine Calls.call_function_entry kind_sorted plain_sorted entry_sorted (args_sorted1 _) ?_
  unfold Builtin.«sorted»
  refine wpAny_bind (m := checkCount "sorted" 1 1 _) (wpAny_pure ?_)
  refine wpAny_bind (collect_set (A := A.in1) hh ⟨o, ho, hex.1, hd⟩ hf hb hr hl fun s1 vs k1 hz g1 o1 pm => ?_)
  have hvl : vs.length = n := by rw [pm.length_eq, List.length_map, Array.length_toList]; exact hn
  obtain ⟨ss, hI, hss⟩ := texts_of vs fun v hv => by
    obtain ⟨e, he, q⟩ := List.mem_map.mp (pm.mem_iff.mp hv)
    obtain ⟨k, tk, h1, _⟩ := g e he
    exact ⟨k, tk, by rw [← q]; exact h1⟩
  have pk : ss.Perm (es.toList.map keyT) := by
    have q := pm.map fun v => keyT (0, v)
    rw [List.map_map, ← hss] at q
    exact q
  refine wpAny_bind (wpAny_newList ?_ (by rw [hvl, sizeLine_eq]; omega))
  have hoL : (s1.heap.push (seqObj "list" vs.toArray 0)).get? s1.heap.objs.size = some (seqObj "list" vs.toArray 0) := Heap.get?_push_size _ rfl
  refine wpAny_bind (wpAny_holding (wpAny_call_entry slot_list_sort ⟨_, hoL, rfl⟩ entry_list_sort (list_sort_treeK strKind_oneLt hoL hI.keysOf (fun v₁ v₂ rest e => keyKind_strs (by rw [← e]; exact hI)) (by rw [hvl]; exact h64) fun st' hp hs => ⟨_, rfl, ?_⟩) (args_list_sort _)))
  obtain ⟨ns', a1, a2, a3⟩ := sorted_out_str hI hp hs
  obtain ⟨c, hc⟩ := sortedHeap_at (vs := vs) (out := (arrOf st').map (·.2)) hoL
  have pn : ns'.Perm (es.toList.map keyT) := a2.trans pk
  refine wpAny_pure ⟨_, rfl, hQ _ s1.heap.objs.size _ c ns' (fun b u e => ?_) g1 o1 hz hc a1 a3 (pn.nodup_iff.mpr nd) (fun k => by rw [pn.mem_iff, ← hm k]) ?_⟩
  · have q := k1 b u e
    have hlt := Heap.lt_size q
    rw [sortedHeap_old (Nat.ne_of_lt hlt) (by rw [size_push']; exact Nat.lt_succ_of_lt hlt)]
    exact Heap.get?_push_of_some _ q
  · rw [pn.length_eq, List.length_map, Array.length_toList]; exact hn
end
/-! ### as rules of the layer -/
def SetTO (w : World) (a : Addr) (xs : List Str) : HO := .ext fun h => ∃ c, c ≤ xs.length ∧ SetT w h a (fun j => decide (j ∈ xs)) c
def rSetT (w : World) (K : PySem.W.Frag) : List V → Hp → VK → Prop := fun vs H Q => ∃ (a : Addr) (xs : List Str), vs = [V.ref a] ∧ SqL K H a (xs.map V.str) ∧ xs.length < 64 ∧
  ∀ p, H p = none → Q (.ref p) (upd H p (SetTO w p xs))
def rSortedT (w : World) : List V → Hp → VK → Prop := fun vs H Q => ∃ (a : Addr) (xs : List Str), vs = [V.ref a] ∧ H a = some (SetTO w a xs) ∧ xs.length < 64 ∧
  ∀ (ys : List Str) (p : Addr), sortedS ys = true → ys.Nodup → (∀ k, k ∈ ys ↔ k ∈ xs) → H p = none → Q (.ref p) (upd H p (.lst (ys.map V.str)))
section
variable {X : Cx}
theorem cr_setT (hc : X.calm = true) : CallR X (.type "set") (rSetT X.w X.K) := by
  intro pins s σ H vs us Q I r h
  obtain ⟨a, xs, rfl, hs, h64, q⟩ := h
  obtain ⟨its, rv, hl, _⟩ := I.list hs
  rw [Vals.ref1 r]
  have hlen := rv.length
  rw [List.length_map] at hlen
  refine call_setT (I.ok.hd hc) hl.isList rv.strs (by unfold scanBound; omega) fun h' tk c hS hc' hk => ?_
  refine ⟨.ref _, upd H s.heap.objs.size (SetTO X.w s.heap.objs.size xs), I.laid (t' := tk) hk (Nat.le_refl _) ⟨⟨c, hc', hS⟩, ?_, fun h1 h2 p k => ?_⟩, rfl, q _ (I.hok.fresh (Nat.le_refl _))⟩
  · obtain ⟨o, _, _, _, ho, _⟩ := hS
    exact ⟨o, ho⟩
  · obtain ⟨c, hc, R⟩ := p
    exact ⟨c, hc, R.at k⟩
theorem cr_sortedT (hc : X.calm = true) : CallR X (.builtin "sorted") (rSortedT X.w) := by
  intro pins s σ H vs us Q I r h
  obtain ⟨a, xs, rfl, hs, h64, q⟩ := h
  obtain ⟨c, hcl, hS⟩ := (I.hok a _ hs).1
  rw [Vals.ref1 r]
  refine sorted_setT hS (I.ok.hd hc) (by omega) fun s' p out c' ns k g o hp hg hi hs1 hnd hm hl => ?_
  have hlen : (ns.map V.str).length ≤ sizeLine := by rw [List.length_map, hl, sizeLine_eq]; omega
  have hn : H p = none := I.hok.fresh hp
  have J : Inv X pins σ (upd H p (.lst (ns.map V.str))) { s with heap := s'.heap, gens := s'.gens, drawn := s'.drawn, toks := s'.toks } :=
    I.call (ch := []) (Un.laid k hp hn) (I.hok.laid k hp ⟨hlen, out.toList, c', vals_of_strs hi, hg⟩) (by rw [g]; exact I.bare) (fun _ z => nomatch z)
  have e : s' = { s with heap := s'.heap, gens := s'.gens, drawn := s'.drawn, toks := s'.toks } := by
    cases s'
    cases s
    cases o
    rfl
  rw [e]
  exact ⟨.ref p, _, J, rfl, q ns p hs1 hnd (fun k => (hm k).trans decide_eq_true_iff) hn⟩
end
end FF
/-! sorted of pairs of a text and anything, their texts distinct; tuple(list) that is known to have no dict -/
namespace FF
open PySem PySem.Spec PyProof.Rows L2
/-- a tuple of two, the first a text -/
def IsTP (h : Heap) (v : Value) (x : Str) : Prop := ∃ (a : Addr) (o : Obj) (t : Tok) (c : Value) (n : Nat), v = .ref a ∧ h.get? a = some o ∧ o.cls = .type "tuple" ∧ o.data = .seq #[.str x t, c] n
theorem IsTP.keeps {h h' : Heap} {v : Value} {x : Str} (p : IsTP h v x) (k : ∀ b o, h.get? b = some o → o.cls = .type "tuple" → h'.get? b = some o) : IsTP h' v x := by
  obtain ⟨a, o, t, c, n, e, ho, hc, hd⟩ := p
  exact ⟨a, o, t, c, n, e, k a o ho hc, hc, hd⟩
abbrev ltT (k : Value → Str) (v u : Value) : Bool := decide ((k v).cps.toList < (k u).cps.toList)
theorem ltT_swo (k : Value → Str) : SrtO.Swo (ltT k) := by
  refine ⟨fun x y h => ?_, fun x y z h1 h2 => ?_⟩
  · exact decide_eq_false fun h' => List.lt_irrefl _ (List.lt_trans (of_decide_eq_true h) h')
  · refine decide_eq_false fun h' => ?_
    have a := of_decide_eq_false h1
    have b := of_decide_eq_false h2
    exact a (List.lt_of_le_of_lt (List.not_lt.mp b) h')
section
variable {prog : Program} {w : World} {A : Around} {E : Value → Shared → Prop} {s : Shared}
theorem tp_cmp {vs : List Value} {k : Value → Str} (hp : ∀ v ∈ vs, IsTP s.heap v (k v)) (hd : ∀ v ∈ vs, ∀ u ∈ vs, k v = k u → v = u) : SrtO.Cmp prog w A s (tuples' true) (fun p => p.1 ∈ vs) (SrtO.lt2 (ltT k)) := by
  intro p q hm hm'
  have h1 := hp _ hm
  have h2 := hp _ hm'
  have hdd := hd _ hm _ hm'
  show wpAny (model prog w) A (keyLt' (tuples' true) p.1 q.1) (fun r s' => s' = s ∧ r = decide ((k p.1).cps.toList < (k q.1).cps.toList)) (fun _ _ => False) s
  generalize k p.1 = x at h1 hdd ⊢
  generalize k q.1 = x' at h2 hdd ⊢
  obtain ⟨a, o, t, c, n, e, ho, hc, hd⟩ := h1
  obtain ⟨a', o', t', c', n', e', ho', hc', hd'⟩ := h2
  rw [e, e']
  refine PySem.W.kat_lt ho hd ho' hd' ?_
  show PySem.W.KatLex prog w A true (decide (2 < 2)) _ [(.str x t, .str x' t'), (c, c')] 0 s
  refine PySem.W.kat_cons (SeqAt.EqAt.str_str x t x' t' prog w _ _ ?_)
  refine PySem.W.kat_go (fun e1 => ?_) (fun e1 => ?_)
  · have ex : x = x' := by simpa using e1
    have ea : (Value.ref a) = .ref a' := by rw [← e, ← e']; exact hdd ex
    cases ea
    rw [ho] at ho'
    cases ho'
    rw [hd] at hd'
    have ec : c = c' := by
      have := (Data.seq.inj hd').1
      simp at this
      exact this.2
    subst ec
    refine PySem.W.kat_yes (PySem.W.kat_cons (SeqAt.EqAt.same c prog w _ _ ?_))
    refine PySem.W.kat_yes (PySem.W.kat_nil ⟨rfl, ?_⟩)
    rw [ex]
    exact (decide_eq_false (List.lt_irrefl _)).symm
  · exact PySem.W.kat_no (oneLt_any_str ⟨rfl, rfl⟩)
theorem tp_firsts {h : Heap} {k : Value → Str} : ∀ {vs : List Value}, (∀ v ∈ vs, IsTP h v (k v)) → ∃ fs : List Value, PySem.W.KatTups h vs fs ∧ fs.length = vs.length ∧ ∀ f ∈ fs, ∃ x t, f = Value.str x t
  | [], _ => ⟨[], PySem.W.KatTups.nil, rfl, nofun⟩
  | v :: vs, hp => by
    obtain ⟨fs, h1, h2, h3⟩ := tp_firsts (vs := vs) fun u hu => hp u (List.mem_cons_of_mem _ hu)
    obtain ⟨a, o, t, c, n, e, ho, hc, hd⟩ := hp v (List.mem_cons_self ..)
    subst e
    refine ⟨.str (k (.ref a)) t :: fs, ?_, by rw [List.length_cons, List.length_cons, h2], fun f hf => ?_⟩
    · exact PySem.W.KatTups.cons ho hc hd rfl h1
    · rcases List.mem_cons.mp hf with rfl | hf
      · exact ⟨_, _, rfl⟩
      · exact h3 f hf
theorem tp_sortable {a : Addr} {vs : List Value} {k : Value → Str} (h0 : 0 < vs.length) (hp : ∀ v ∈ vs, IsTP s.heap v (k v)) (hd : ∀ v ∈ vs, ∀ u ∈ vs, k v = k u → v = u) (ha : ∀ o, s.heap.get? a = some o → o.cls ≠ .type "tuple") : SrtO.SortableO prog w A s a vs (ltT k) := by
  intro h' keep
  have hp' : ∀ v ∈ vs, IsTP h' v (k v) := fun v hm => (hp v hm).keeps fun b o e c => keep b o (fun z => by subst z; exact ha o e c) e
  obtain ⟨fs, h1, h2, h3⟩ := tp_firsts hp'
  refine ⟨tuples' true, fun Q E hq => ?_, tp_cmp hp' hd⟩
  refine PySem.W.kat_kind (T := .type "str") h1 (by omega) (fun f hm => ?_) (by rfl) ?_
  · obtain ⟨x, t, rfl⟩ := h3 f hm
    exact PySem.W.Looks.now
  · have e : (Value.type "str" != Value.type "tuple") = true := by first | decide +kernel | rfl | decide
    rw [e]
    exact hq
theorem sorted_tp {l : Addr} {vs : List Value} {k : Value → Str} {Q : Value → Shared → Prop} (hl : s.heap.IsList l vs.toArray) (hz : vs.length ≤ sizeLine) (hp : ∀ v ∈ vs, IsTP s.heap v (k v)) (hd : ∀ v ∈ vs, ∀ u ∈ vs, k v = k u → v = u)
    (h : ∀ (h' : Heap) (d : Addr) (out : List Value), SrtO.Srtd (ltT k) out → SrtO.Stb (ltT k) out vs → (∀ b o, s.heap.get? b = some o → h'.get? b = some o) → s.heap.objs.size ≤ d → (∃ n, h'.get? d = some (seqObj "list" out.toArray n)) → Q (.ref d) { s with heap := h' }) :
    wpAny (model prog w) A (call (.builtin "sorted") [.ref l]) Q E s := by
  refine SrtO.sorted_ord (ltT_swo k) hl hz (fun h2 h₁ a ha kk => ?_) fun out hs hb => ?_
  · refine tp_sortable (s := { s with heap := h₁ }) (by omega) (fun v hm => (hp v hm).keeps fun b o e _ => (kk b o e).2) hd fun o e => ?_
    have e' : some o = some (seqObj "list" vs.toArray 0) := e.symm.trans ha
    cases e'
    intro c
    exact absurd (Value.type.inj c) (by decide)
  · exact h _ _ out hs hb (fun b o e => sortedAll_old e) (Nat.le_succ _) (sortedAll_at s.heap vs out.toArray)
end
/-- sorted(xs), xs a list of pairs, the first a text (k says which) -/
abbrev ltTV (k : V → Str) (x y : V) : Bool := decide ((k x).cps.toList < (k y).cps.toList)
theorem ltTV_swo (k : V → Str) : SrtO.Swo (ltTV k) := by
  refine ⟨fun x y h => ?_, fun x y z h1 h2 => ?_⟩
  · exact decide_eq_false fun h' => List.lt_irrefl _ (List.lt_trans (of_decide_eq_true h) h')
  · refine decide_eq_false fun h' => ?_
    have a := of_decide_eq_false h1
    have b := of_decide_eq_false h2
    exact a (List.lt_of_le_of_lt (List.not_lt.mp b) h')
def rSortedTP (K : PySem.W.Frag) : List V → Hp → VK → Prop := fun vs H Q => ∃ (a : Addr) (xs : List V) (k : V → Str), vs = [V.ref a] ∧ SqL K H a xs ∧ (∀ x ∈ xs, ∃ t c, x = V.ref t ∧ SqT K H t [.str (k x), c]) ∧ (∀ x ∈ xs, ∀ y ∈ xs, k x = k y → x = y) ∧
  ∀ ys p, ys.Pairwise (fun x y => ¬ (k y).cps.toList < (k x).cps.toList) → ys.Perm xs → H p = none → Q (.ref p) (upd H p (.lst ys))
section
variable {X : Cx}
theorem cr_sortedTP : CallR X (.builtin "sorted") (rSortedTP X.K) := by
  intro pins s σ H vs us Q I r h
  obtain ⟨a, xs, k, rfl, hs, hx, hdis, q⟩ := h
  obtain ⟨its, rv, hl, hz⟩ := I.list hs
  obtain ⟨u, rfl, ru⟩ := vals1 r
  obtain rfl : u = Value.ref a := ru
  obtain ⟨e1, e2⟩ := refs_back rv fun x m => by
    obtain ⟨t, c, e, _⟩ := hx x m
    exact ⟨t, e⟩
  have hback : ∀ v ∈ its, backV v ∈ xs := fun v hv => by rw [e1]; exact List.mem_map.mpr ⟨_, hv, rfl⟩
  refine sorted_tp (k := fun u => k (backV u)) hl.isList (by rw [← rv.length]; exact hz) (fun v hv => ?_) (fun v hv u hu e => ?_) fun h' d out h1 h2 kp hd hn => ?_
  · obtain ⟨t, rfl⟩ := e2 v hv
    have hm : V.ref t ∈ xs := hback _ hv
    obtain ⟨t', c, e, ht⟩ := hx _ hm
    cases e
    obtain ⟨its2, r2, ⟨o, ho, hc, n, hd⟩, _⟩ := I.tuple ht
    obtain ⟨u1, u2, rfl, ri, rj⟩ := vals2 r2
    obtain ⟨t1, rfl⟩ := ri
    exact ⟨t, o, t1, u2, n, rfl, ho, hc, hd⟩
  · obtain ⟨t, rfl⟩ := e2 v hv
    obtain ⟨t', rfl⟩ := e2 u hu
    have e := hdis _ (hback _ hv) _ (hback _ hu) e
    cases e
    rfl
  · have h3 : ∀ u ∈ out, ∃ a, u = Value.ref a := fun u hu => e2 u (h2.perm.mem_iff.mp hu)
    obtain ⟨n, hn⟩ := hn
    have hb : SrtO.Stb (ltTV k) (out.map backV) xs := by
      rw [e1]
      exact SrtO.Stb.map (ltTV_swo k) backV h2
    refine ⟨.ref d, upd H d (.lst (out.map backV)), I.laid (t' := s.toks) kp hd ⟨?_, out, n, vals_back h3, hn⟩, rfl, q _ d (List.pairwise_map.mpr (h1.imp fun h => of_decide_eq_false h)) hb.perm (I.hok.fresh hd)⟩
    rw [hb.len]
    exact hz
/-- tuple(list): the new tuple has no dict of its own -/
def rTupF (K : PySem.W.Frag) : List V → Hp → VK → Prop := fun xs H Q => ∃ p ys, xs = [.ref p] ∧ SqL K H p ys ∧ ∀ l o, H l = none → o.dict = none → Q (.ref l) (upd H l (.frz o (.tup ys)))
theorem cr_tupF : CallR X (.type "tuple") (rTupF X.K) := by
  intro pins s σ H xs us Q I r h
  obtain ⟨p, ys, rfl, hq, q⟩ := h
  obtain ⟨u, rfl, rx⟩ := vals1 r
  cases rx
  obtain ⟨its, r', pl, hz⟩ := I.list hq
  have hlen := r'.length
  refine call_tuple_list pl.isList (fun h' kp => ?_) (by simp only [List.size_toArray] <;> omega)
  have I1 : Inv X pins σ H { s with heap := h' } := I.kept (t' := s.toks) kp
  have I2 : Inv X pins σ (upd H h'.objs.size (.frz { cls := .type "tuple", data := .seq its.toArray } (.tup ys))) { s with heap := h'.push { cls := .type "tuple", data := .seq its.toArray } } :=
    I1.laid (t' := s.toks) (fun b o e => Heap.get?_push_of_some _ e) (Nat.le_refl _) ⟨Heap.get?_push_size _ rfl, hz, its, r', IsTup.new _ _⟩
  exact ⟨.ref h'.objs.size, _, I2, rfl, q _ _ (I1.hok.fresh (Nat.le_refl _)) rfl⟩
end
end FF
/-! the plain law: what lies at most a thing -/
namespace FF
/-- what the plain law asks of letters -/
structure FineTab (L : Tab) : Prop where
  rb : ∀ c ∈ names L, ∀ d ∈ names L, d ∈ reach L c ↔ d ∈ below L c
  bkn : ∀ c ∈ names L, ∀ d ∈ below L c, d ∈ names L
  tr : ∀ c ∈ names L, ∀ d ∈ below L c, ∀ e ∈ below L d, e ∈ below L c
  rk : ∀ c ∈ names L, ∀ d ∈ below L c, (below L d).length < (below L c).length
  lk : ∀ c ∈ names L, ∀ d ∈ look L c, d ∈ below L c
  nx : ∀ c ∈ names L, ∀ d ∈ below L c, ∃ e ∈ nextOnes L c, d = e ∨ d ∈ below L e
def Kn (L : Tab) (t : Thing) : Prop := ∀ c ∈ t, c ∈ names L
def le1 (L : Tab) (a c : Nat) : Prop := a = c ∨ a ∈ below L c
inductive Emb (R : Nat → List Nat) : Thing → Thing → Prop
  | nil (v) : Emb R [] v
  | skip {u v} (c) : Emb R u v → Emb R u (c :: v)
  | take {u v a c} : (a = c ∨ a ∈ R c) → Emb R u v → Emb R (a :: u) (c :: v)
namespace Emb
variable {R : Nat → List Nat}
theorem refl : ∀ v, Emb R v v
  | [] => .nil _
  | _ :: v => .take (.inl rfl) (refl v)
theorem tail {a : Nat} : ∀ {v u : Thing}, Emb R (a :: u) v → Emb R u v
  | _, _, .skip c h => .skip c (tail h)
  | _, _, .take _ h => .skip _ h
theorem of_nil {u : Thing} (h : Emb R u []) : u = [] := by cases h; rfl
theorem len {u v : Thing} (h : Emb R u v) : u.length ≤ v.length := by
  induction h with
  | nil => exact Nat.zero_le _
  | skip c _ ih => exact Nat.le_succ_of_le ih
  | take _ _ ih => exact Nat.succ_le_succ ih
theorem append {a b c d : Thing} (h : Emb R a b) (k : Emb R c d) : Emb R (a ++ c) (b ++ d) := by
  induction h with
  | nil v => induction v with
    | nil => exact k
    | cons e v ih => exact .skip e ih
  | skip e _ ih => exact .skip e ih
  | take h _ ih => exact .take h ih
theorem mem {u v : Thing} (h : Emb R u v) {a : Nat} (ha : a ∈ u) : ∃ c ∈ v, a = c ∨ a ∈ R c := by
  induction h with
  | nil => cases ha
  | skip c _ ih => obtain ⟨d, hd, h⟩ := ih ha; exact ⟨d, List.mem_cons_of_mem _ hd, h⟩
  | take h _ ih =>
    rcases List.mem_cons.mp ha with rfl | ha
    · exact ⟨_, List.mem_cons_self .., h⟩
    · obtain ⟨d, hd, h⟩ := ih ha; exact ⟨d, List.mem_cons_of_mem _ hd, h⟩
end Emb
theorem amRest_nil {R : Nat → List Nat} : ∀ v, amRest R [] v = []
  | [] => rfl
  | _ :: v => amRest_nil v
theorem amRest_emb {R : Nat → List Nat} : ∀ {v u : Thing}, amRest R u v = [] → Emb R u v
  | [], u, h => by
    have h : u = [] := h
    subst h
    exact .nil _
  | c :: v, [], h => .nil _
  | c :: v, a :: u, h => by
    have h : amRest R (amStep R (a :: u) c) v = [] := h
    unfold amStep at h
    dsimp only at h
    split at h
    · rename_i hc
      exact .take hc (amRest_emb h)
    · exact .skip c (amRest_emb h)
theorem emb_amRest {R : Nat → List Nat} : ∀ {v u : Thing}, Emb R u v → amRest R u v = []
  | [], u, h => by rw [h.of_nil]; rfl
  | c :: v, [], h => amRest_nil _
  | c :: v, a :: u, h => by
    show amRest R (amStep R (a :: u) c) v = []
    unfold amStep
    dsimp only
    split
    · rename_i hc
      apply emb_amRest
      cases h with
      | skip _ h => exact h.tail
      | take _ h => exact h
    · rename_i hc
      apply emb_amRest
      cases h with
      | skip _ h => exact h
      | take h _ => exact absurd h hc
theorem atMost_iff {R : Nat → List Nat} {u v : Thing} : atMost R u v = true ↔ Emb R u v := by
  unfold atMost
  rw [List.isEmpty_iff]
  exact ⟨amRest_emb, emb_amRest⟩
section
variable {L : Tab}
abbrev Em (L : Tab) : Thing → Thing → Prop := Emb (below L)
theorem Em.kn (f : FineTab L) {u v : Thing} (h : Em L u v) (hv : Kn L v) : Kn L u := fun a ha => by
  obtain ⟨c, hc, h⟩ := h.mem ha
  rcases h with rfl | h
  · exact hv _ hc
  · exact f.bkn c (hv c hc) a h
theorem Em.thing (f : FineTab L) {u v : Thing} (h : Em L u v) (hv : IsThing L v) : IsThing L u := ⟨Em.kn f h hv.kn, Nat.le_trans h.len hv.len⟩
theorem le1_trans (f : FineTab L) {a b c : Nat} (hc : c ∈ names L) (h : a = b ∨ a ∈ below L b) (k : b = c ∨ b ∈ below L c) : a = c ∨ a ∈ below L c := by
  rcases k with rfl | k
  · exact h
  · rcases h with rfl | h
    · exact .inr k
    · exact .inr (f.tr c hc b k a h)
theorem Em.trans (f : FineTab L) {u v w : Thing} (h : Em L u v) (k : Em L v w) (hw : Kn L w) : Em L u w := by
  induction k generalizing u with
  | nil => rw [h.of_nil]; exact .nil _
  | skip c _ ih => exact .skip c (ih h fun a ha => hw a (List.mem_cons_of_mem _ ha))
  | take hc _ ih =>
    have kw := fun a ha => hw a (List.mem_cons_of_mem _ ha)
    cases h with
    | nil => exact .nil _
    | skip _ h => exact .skip _ (ih h kw)
    | take ha h => exact .take (le1_trans f (hw _ (List.mem_cons_self ..)) ha hc) (ih h kw)
theorem emb_rb (g : GoodTab L) (f : FineTab L) {u v : Thing} (hv : Kn L v) : Emb (reach L) u v ↔ Em L u v := by
  have rb : ∀ c ∈ names L, ∀ a, a ∈ reach L c ↔ a ∈ below L c := fun c hc a =>
    ⟨fun h => (f.rb c hc a (g.rkn c hc a h)).mp h, fun h => (f.rb c hc a (f.bkn c hc a h)).mpr h⟩
  constructor
  · intro h
    induction h with
    | nil => exact .nil _
    | skip c _ ih => exact .skip c (ih fun a ha => hv a (List.mem_cons_of_mem _ ha))
    | take hc _ ih => exact .take (hc.imp_right (rb _ (hv _ (List.mem_cons_self ..)) _).mp) (ih fun a ha => hv a (List.mem_cons_of_mem _ ha))
  · intro h
    induction h with
    | nil => exact .nil _
    | skip c _ ih => exact .skip c (ih fun a ha => hv a (List.mem_cons_of_mem _ ha))
    | take hc _ ih => exact .take (hc.imp_right (rb _ (hv _ (List.mem_cons_self ..)) _).mpr) (ih fun a ha => hv a (List.mem_cons_of_mem _ ha))
theorem at_rb (g : GoodTab L) (f : FineTab L) {u v : Thing} (hv : Kn L v) : atMost (reach L) u v = atMost (below L) u v := by
  apply Bool.eq_iff_iff.mpr
  rw [atMost_iff, atMost_iff]
  exact emb_rb g f hv
/-! ### weight -/
def wt (L : Tab) : Thing → Nat
  | [] => 0
  | c :: v => 1 + (below L c).length + wt L v
theorem le1_wt (f : FineTab L) {a c : Nat} (hc : c ∈ names L) (h : a = c ∨ a ∈ below L c) : a = c ∨ (below L a).length < (below L c).length := h.imp_right (f.rk c hc a)
theorem Em.wt (f : FineTab L) {u v : Thing} (h : Em L u v) (hv : Kn L v) : u = v ∨ wt L u < wt L v := by
  induction h with
  | nil v => cases v with
    | nil => exact .inl rfl
    | cons c v => right; simp only [FF.wt]; omega
  | skip c _ ih =>
    right
    have := ih fun a ha => hv a (List.mem_cons_of_mem _ ha)
    simp only [FF.wt]
    rcases this with rfl | h
    · omega
    · omega
  | take hc _ ih =>
    have h1 := ih fun a ha => hv a (List.mem_cons_of_mem _ ha)
    have h2 := le1_wt f (hv _ (List.mem_cons_self ..)) hc
    rcases h2 with rfl | h2
    · rcases h1 with rfl | h1
      · exact .inl rfl
      · right; simp only [FF.wt]; omega
    · right
      simp only [FF.wt]
      rcases h1 with rfl | h1
      · omega
      · omega
theorem Em.lt (f : FineTab L) {u v : Thing} (h : Em L u v) (hv : Kn L v) (ne : u ≠ v) : FF.wt L u < FF.wt L v := (h.wt f hv).resolve_left ne
theorem Em.le (f : FineTab L) {u v : Thing} (h : Em L u v) (hv : Kn L v) : FF.wt L u ≤ FF.wt L v := by
  rcases h.wt f hv with rfl | h
  · exact Nat.le_refl _
  · exact Nat.le_of_lt h
theorem wt_le (g : GoodTab L) : ∀ {v : Thing}, Kn L v → wt L v ≤ 4 * v.length
  | [], _ => Nat.le_refl _
  | c :: v, h => by
    have h1 := wt_le g (v := v) fun a ha => h a (List.mem_cons_of_mem _ ha)
    have h2 := g.bln c (h c (List.mem_cons_self ..))
    simp only [wt, List.length_cons]
    omega
/-! ### results and steps lie at most the thing -/
theorem emb_take : ∀ (x : Thing) (k : Nat), Em L (x.take k) x
  | [], k => by rw [List.take_nil]; exact .nil _
  | c :: x, 0 => .nil _
  | c :: x, k + 1 => .take (.inl rfl) (emb_take x k)
theorem emb_drop : ∀ (x : Thing) (k : Nat), Em L (x.drop k) x
  | [], k => by rw [List.drop_nil]; exact .nil _
  | c :: x, 0 => .refl _
  | c :: x, k + 1 => .skip c (emb_drop x k)
theorem emb_cut (x : Thing) (k j : Nat) (h : k ≤ j) : Em L (x.take k ++ x.drop j) x := by
  have h1 := Emb.append (R := below L) (Emb.refl (x.take k)) (emb_drop (L := L) (x.drop k) (j - k))
  rw [List.take_append_drop, List.drop_drop, show k + (j - k) = j by omega] at h1
  exact h1
theorem emb_swap (x : Thing) (k : Nat) (w : Thing) (hk : k < x.length) (h : Em L w [sgn x k]) : Em L (x.take k ++ w ++ x.drop (k + 1)) x := by
  have h1 := Emb.append (R := below L) (Emb.append (Emb.refl (x.take k)) h) (Emb.refl (x.drop (k + 1)))
  have e : x.take k ++ [sgn x k] ++ x.drop (k + 1) = x := by
    have : sgn x k = x[k] := Option.some.inj ((sgn_get hk).symm.trans (List.getElem?_eq_getElem hk))
    rw [this, List.append_assoc, List.singleton_append, ← List.drop_eq_getElem_cons hk, List.take_append_drop]
  rw [e] at h1
  exact h1
theorem results_emb (f : FineTab L) {x : Thing} (ix : Kn L x) {r : Rule} (ok : RuleOk L r) : ∀ y ∈ results L x r, Em L y x := fun y hy => by
  cases r with
  | drop n l =>
    obtain ⟨k, hk, rfl⟩ := List.mem_map.mp hy
    exact emb_cut x k (k + n) (Nat.le_add_right _ _)
  | half l =>
    rw [List.mem_singleton.mp hy]
    split
    · exact emb_take _ _
    · exact emb_drop _ _
  | empty => rw [List.mem_singleton.mp hy]; exact .nil _
  | lower l =>
    obtain ⟨k, hk, hy⟩ := List.mem_flatMap.mp hy
    obtain ⟨d, hd, rfl⟩ := List.mem_map.mp hy
    have hk := places_lt hk
    exact emb_swap x k [d] hk (.take (.inr (f.lk _ (ix _ (sgn_mem hk)) d hd)) (.nil _))
  | put c w l =>
    obtain ⟨k, hk, rfl⟩ := List.mem_map.mp hy
    obtain ⟨hk, e⟩ := List.mem_filter.mp hk
    have hk := places_lt hk
    have e := of_decide_eq_true e
    obtain ⟨hc, hw⟩ : c ∈ names L ∧ (w = [] ∨ ∃ d ∈ look L c, w = [d]) := ok
    refine emb_swap x k w hk ?_
    rcases hw with rfl | ⟨d, hd, rfl⟩
    · exact .nil _
    · rw [e]
      exact .take (.inr (f.lk _ hc d hd)) (.nil _)
end
section
variable {B : Book}
theorem pl_addRules_mem {x : Thing} : ∀ (ks : List Nat) (f : List (Thing × Nat)) (p : Thing × Nat), p ∈ addRules B x f ks → p ∈ f ∨ (p.2 ∈ ks ∧ p.1 ∈ results B.tab x (rOf B p.2) ∧ p.1 ≠ x)
  | [], f, p, h => .inl h
  | k :: ks, f, p, h => by
    rcases pl_addRules_mem ks (addSteps x k f (results B.tab x (rOf B k))) p h with h | h
    · rcases addSteps_mem h with h | ⟨h1, h2, h3⟩
      · exact .inl h
      · exact .inr ⟨by rw [h2]; exact List.mem_cons_self .., by rw [h2]; exact h1, h3⟩
    · exact .inr ⟨List.mem_cons_of_mem _ h.1, h.2⟩
theorem pl_addRules_len (g : GoodBook B) {x : Thing} (ix : IsThing B.tab x) : ∀ (ks : List Nat) (f : List (Thing × Nat)), (∀ k ∈ ks, k < B.rules.length) → (addRules B x f ks).length ≤ f.length + 20 * ks.length
  | [], f, _ => Nat.le_refl _
  | k :: ks, f, h => by
    have h1 := pl_addRules_len g ix ks (addSteps x k f (results B.tab x (rOf B k))) fun j hj => h j (List.mem_cons_of_mem _ hj)
    have h2 := addSteps_len (x := x) (k := k) (f := f) (l := results B.tab x (rOf B k))
    have h3 := results_len g.tab ix (g.rul _ (rOf_mem (h k (List.mem_cons_self ..))))
    show (addRules B x (addSteps x k f (results B.tab x (rOf B k))) ks).length ≤ _
    rw [List.length_cons]
    omega
theorem pl_order_lt {n first k : Nat} (hf : first ≤ n) (h : k ∈ order n first) : k < n := by
  unfold order at h
  rcases List.mem_append.mp h with h | h
  · have := List.mem_range'_1.mp h
    omega
  · have := List.mem_range.mp h
    omega
theorem pl_order_len {n first : Nat} (hf : first ≤ n) : (order n first).length = n := by
  unfold order
  rw [List.length_append, List.length_range', List.length_range]
  omega
structure StepOk (B : Book) (x : Thing) (p : Thing × Nat) : Prop where
  em : Em B.tab p.1 x
  lt : wt B.tab p.1 < wt B.tab x
  th : IsThing B.tab p.1
  k : p.2 ≤ B.rules.length
theorem pl_steps_ok (g : GoodBook B) (f : FineTab B.tab) {x : Thing} (ix : IsThing B.tab x) {first : Nat} (hf : first ≤ B.rules.length) : ∀ p ∈ steps B x first, StepOk B x p := fun p hp => by
  rcases pl_addRules_mem _ _ p hp with h | ⟨h1, h2, h3⟩
  · cases h
  · have hk := pl_order_lt hf h1
    have e := results_emb f ix.kn (g.rul _ (rOf_mem hk)) p.1 h2
    exact ⟨e, e.lt f ix.kn h3, results_thing g.tab ix (g.rul _ (rOf_mem hk)) p.1 h2, Nat.le_of_lt hk⟩
theorem pl_steps_len (g : GoodBook B) {x : Thing} (ix : IsThing B.tab x) {first : Nat} (hf : first ≤ B.rules.length) : (steps B x first).length ≤ 80 := by
  have h := pl_addRules_len g ix (order B.rules.length first) [] fun k hk => pl_order_lt hf hk
  rw [pl_order_len hf] at h
  have := g.len
  unfold steps
  simp only [List.length_nil] at h
  omega
end
end FF
/-! the plain law: all things at most a thing, two ways -/
namespace FF
section
variable {α : Type} [DecidableEq α]
theorem pl_addNew_mem : ∀ (r f : List α) (a : α), a ∈ addNew f r ↔ a ∈ f ∨ a ∈ r
  | [], f, a => by simp [addNew]
  | b :: r, f, a => by
    unfold addNew
    split
    · rename_i hb
      rw [pl_addNew_mem r f a, List.mem_cons]
      constructor
      · rintro (h | h)
        · exact .inl h
        · exact .inr (.inr h)
      · rintro (h | rfl | h)
        · exact .inl h
        · exact .inl hb
        · exact .inr h
    · rw [pl_addNew_mem r (f ++ [b]) a, List.mem_append, List.mem_singleton, List.mem_cons, or_assoc]
theorem addNew_nodup : ∀ (r f : List α), f.Nodup → (addNew f r).Nodup
  | [], f, h => h
  | b :: r, f, h => by
    unfold addNew
    split
    · exact addNew_nodup r f h
    · rename_i hb
      refine addNew_nodup r _ ?_
      rw [List.nodup_append]
      exact ⟨h, by simp, fun a ha c hc e => hb (by rw [List.mem_singleton.mp hc] at e; rw [← e]; exact ha)⟩
theorem pl_pushNew_snd : ∀ (r f w : List α), ∀ a ∈ (pushNew f w r).2, a ∈ w ∨ a ∈ r
  | [], f, w, a, h => .inl h
  | b :: r, f, w, a, h => by
    unfold pushNew at h
    split at h
    · exact (pl_pushNew_snd r f w a h).imp_right (List.mem_cons_of_mem _)
    · rcases pl_pushNew_snd r _ _ a h with h | h
      · rcases List.mem_cons.mp h with rfl | h
        · exact .inr (List.mem_cons_self ..)
        · exact .inl h
      · exact .inr (List.mem_cons_of_mem _ h)
/-- what was waiting, and what came anew -/
theorem pushNew_keep : ∀ (r f w : List α), (∀ a ∈ w, a ∈ (pushNew f w r).2) ∧ (∀ a ∈ r, a ∈ f ∨ a ∈ (pushNew f w r).2)
  | [], f, w => ⟨fun a h => h, nofun⟩
  | b :: r, f, w => by
    unfold pushNew
    split
    · rename_i hb
      have h := pushNew_keep r f w
      refine ⟨h.1, fun a ha => ?_⟩
      rcases List.mem_cons.mp ha with rfl | ha
      · exact .inl hb
      · exact h.2 a ha
    · have h := pushNew_keep r (f ++ [b]) (b :: w)
      refine ⟨fun a ha => h.1 a (List.mem_cons_of_mem _ ha), fun a ha => ?_⟩
      rcases List.mem_cons.mp ha with rfl | ha
      · exact .inr (h.1 _ (List.mem_cons_self ..))
      · rcases h.2 a ha with h2 | h2
        · rcases List.mem_append.mp h2 with h3 | h3
          · exact .inl h3
          · rw [List.mem_singleton.mp h3]
            exact .inr (h.1 _ (List.mem_cons_self ..))
        · exact .inr h2
theorem pushNew_lens : ∀ (r f w : List α), (pushNew f w r).2.length + f.length = w.length + (pushNew f w r).1.length
  | [], f, w => rfl
  | b :: r, f, w => by
    unfold pushNew
    split
    · exact pushNew_lens r f w
    · have := pushNew_lens r (f ++ [b]) (b :: w)
      simp only [List.length_append, List.length_cons, List.length_nil] at this
      omega
theorem nodup_len {S : List α} : ∀ {f : List α}, f.Nodup → (∀ a ∈ f, a ∈ S) → f.length ≤ S.length := fun {f} h k => by
  have := List.Nodup.length_le_of_subset h k
  exact this
/-- the loop ends, within the set, and closed -/
theorem growLoop_ends {g : α → List α} {S : List α} (hS : ∀ a ∈ S, ∀ b ∈ g a, b ∈ S) : ∀ (n : Nat) (f w : List α), f.Nodup → (∀ a ∈ f, a ∈ S) → (∀ a ∈ w, a ∈ f) → (∀ a ∈ f, a ∈ w ∨ ∀ b ∈ g a, b ∈ f) → w.length + S.length < n + f.length →
    ∃ r, growLoop g n f w = some r ∧ r.Nodup ∧ (∀ a ∈ r, a ∈ S) ∧ (∀ a ∈ f, a ∈ r) ∧ ∀ a ∈ r, ∀ b ∈ g a, b ∈ r
  | 0, f, w, nd, hf, hw, hc, hl => by
    have := nodup_len nd hf
    omega
  | n + 1, f, [], nd, hf, hw, hc, hl => ⟨f, rfl, nd, hf, fun a h => h, fun a ha => (hc a ha).resolve_left nofun⟩
  | n + 1, f, a :: w, nd, hf, hw, hc, hl => by
    have e1 := pushNew_fst f w (g a)
    have e2 := pl_pushNew_snd (g a) f w
    have e3 := pushNew_keep (g a) f w
    have e4 := pushNew_lens (g a) f w
    have ha := hw a (List.mem_cons_self ..)
    have sub : ∀ b ∈ f, b ∈ (pushNew f w (g a)).1 := fun b hb => by rw [e1, pl_addNew_mem]; exact .inl hb
    have sub2 : ∀ b ∈ g a, b ∈ (pushNew f w (g a)).1 := fun b hb => by rw [e1, pl_addNew_mem]; exact .inr hb
    obtain ⟨r, h1, h2, h3, h4, h5⟩ := growLoop_ends hS n (pushNew f w (g a)).1 (pushNew f w (g a)).2 (by rw [e1]; exact addNew_nodup _ _ nd)
      (fun b hb => by
        rw [e1, pl_addNew_mem] at hb
        exact hb.elim (hf b) (hS a (hf a ha) b))
      (fun b hb => (e2 b hb).elim (fun h => sub b (hw b (List.mem_cons_of_mem _ h))) (sub2 b))
      (fun b hb => by
        by_cases hbf : b ∈ f
        · rcases hc b hbf with h | h
          · rcases List.mem_cons.mp h with rfl | h
            · exact .inr sub2
            · exact .inl (e3.1 b h)
          · exact .inr fun c hc' => sub c (h c hc')
        · rw [e1, pl_addNew_mem] at hb
          exact .inl ((e3.2 b (hb.resolve_left hbf)).resolve_left hbf))
      (by
        simp only [List.length_cons] at hl
        omega)
    exact ⟨r, h1, h2, h3, fun b hb => h4 b (sub b hb), h5⟩
theorem addOne_memA (K : List Thing) (s a : Thing) : a ∈ addOne K s ↔ a ∈ K ∨ a = s := by
  unfold addOne
  split
  · rename_i h
    exact ⟨.inl, fun k => k.elim id fun e => by rw [e]; exact h⟩
  · rw [List.mem_append, List.mem_singleton]
theorem addOne_nodup {K : List Thing} (s : Thing) (h : K.Nodup) : (addOne K s).Nodup := by
  unfold addOne
  split
  · exact h
  · rename_i hb
    rw [List.nodup_append]
    exact ⟨h, by simp, fun a ha c hc e => hb (by rw [List.mem_singleton.mp hc] at e; rw [← e]; exact ha)⟩
end
/-! ### the law's lesser things -/
section
variable {L : Tab}
theorem foldl_addOne_mem (w : Thing) : ∀ (ss : List Nat) (g : List Thing) (t : Thing), t ∈ ss.foldl (fun g s => addOne g (w ++ [s])) g ↔ t ∈ g ∨ ∃ s ∈ ss, t = w ++ [s]
  | [], g, t => by simp
  | s :: ss, g, t => by
    rw [List.foldl_cons, foldl_addOne_mem w ss, addOne_memA, or_assoc]
    simp
theorem foldl_addOne_nodup (w : Thing) : ∀ (ss : List Nat) (g : List Thing), g.Nodup → (ss.foldl (fun g s => addOne g (w ++ [s])) g).Nodup
  | [], g, h => h
  | s :: ss, g, h => foldl_addOne_nodup w ss _ (addOne_nodup _ h)
theorem pl_less1_mem {c : Nat} {g : List Thing} {w t : Thing} : t ∈ less1 L c g w ↔ t ∈ g ∨ ∃ s, (s = c ∨ s ∈ below L c) ∧ t = w ++ [s] := by
  unfold less1
  rw [foldl_addOne_mem]
  simp
theorem foldl_less1_mem {c : Nat} : ∀ (ws g : List Thing) (t : Thing), t ∈ ws.foldl (less1 L c) g ↔ t ∈ g ∨ ∃ w ∈ ws, ∃ s, (s = c ∨ s ∈ below L c) ∧ t = w ++ [s]
  | [], g, t => by simp
  | w :: ws, g, t => by
    rw [List.foldl_cons, foldl_less1_mem ws, pl_less1_mem, or_assoc]
    simp
theorem foldl_less1_nodup {c : Nat} : ∀ (ws g : List Thing), g.Nodup → (ws.foldl (less1 L c) g).Nodup
  | [], g, h => h
  | w :: ws, g, h => foldl_less1_nodup ws _ (foldl_addOne_nodup _ _ _ h)
theorem lessF_mem {f : List Thing} {c : Nat} {t : Thing} : t ∈ lessF L f c ↔ t ∈ f ∨ ∃ w ∈ f, ∃ s, (s = c ∨ s ∈ below L c) ∧ t = w ++ [s] := foldl_less1_mem _ _ _
theorem emb_snoc {c : Nat} : ∀ {v t : Thing}, Em L t (v ++ [c]) ↔ Em L t v ∨ ∃ w, Em L w v ∧ ∃ s, (s = c ∨ s ∈ below L c) ∧ t = w ++ [s] := fun {v t} => by
  constructor
  · intro h
    induction v generalizing t with
    | nil =>
      cases h with
      | nil => exact .inl (.nil _)
      | skip _ h => exact .inl h
      | take hs h => rw [h.of_nil]; exact .inr ⟨[], .nil _, _, hs, rfl⟩
    | cons d v ih =>
      cases h with
      | nil => exact .inl (.nil _)
      | skip _ h =>
        rcases ih h with h | ⟨w, h, s, hs, e⟩
        · exact .inl (.skip _ h)
        · exact .inr ⟨w, .skip _ h, s, hs, e⟩
      | take hd h =>
        rcases ih h with h | ⟨w, h, s, hs, e⟩
        · exact .inl (.take hd h)
        · exact .inr ⟨_ :: w, .take hd h, s, hs, by rw [e]; rfl⟩
  · rintro (h | ⟨w, h, s, hs, rfl⟩)
    · have := Emb.append h (Emb.nil (R := below L) [c])
      rw [List.append_nil] at this
      exact this
    · exact Emb.append h (.take hs (.nil _))
theorem lesser_go : ∀ (r p : Thing) (f : List Thing), (∀ t, t ∈ f ↔ Em L t p) → ∀ t, t ∈ r.foldl (lessF L) f ↔ Em L t (p ++ r)
  | [], p, f, h, t => by rw [List.append_nil]; exact h t
  | c :: r, p, f, h, t => by
    have := lesser_go r (p ++ [c]) (lessF L f c) (fun t => by
      rw [lessF_mem, emb_snoc, h t]
      constructor
      · rintro (k | ⟨w, hw, k⟩)
        · exact .inl k
        · exact .inr ⟨w, (h w).mp hw, k⟩
      · rintro (k | ⟨w, hw, k⟩)
        · exact .inl k
        · exact .inr ⟨w, (h w).mpr hw, k⟩) t
    rw [List.append_assoc] at this
    exact this
theorem lesser_mem {x t : Thing} : t ∈ lesser L x ↔ Em L t x := lesser_go x [] [[]] (fun t => by
  rw [List.mem_singleton]
  exact ⟨fun h => by rw [h]; exact .nil _, fun h => h.of_nil⟩) t
theorem lesser_nodup (x : Thing) : (lesser L x).Nodup := by
  unfold lesser
  have : ∀ (r : Thing) (f : List Thing), f.Nodup → (r.foldl (lessF L) f).Nodup := by
    intro r
    induction r with
    | nil => exact fun f h => h
    | cons c r ih => exact fun f h => ih _ (foldl_less1_nodup _ _ h)
  exact this x _ (by simp)
/-! ### the program's things at most -/
theorem nbAt_cons (c : Nat) (x : Thing) (k d : Nat) : nbAt L (c :: x) (k + 1) d = (nbAt L x k d).map (c :: ·) := by
  unfold nbAt
  split
  · rfl
  · rw [List.map_map]; rfl
theorem nbFrom_cons (c : Nat) (x : Thing) : ∀ (r : Thing) (k : Nat), nbFrom L (c :: x) (k + 1) r = (nbFrom L x k r).map (c :: ·)
  | [], k => rfl
  | d :: r, k => by
    show nbAt L (c :: x) (k + 1) d ++ nbFrom L (c :: x) (k + 1 + 1) r = _
    rw [nbAt_cons, nbFrom_cons c x r (k + 1), ← List.map_append]
    rfl
theorem nb_cons (c : Nat) (x : Thing) : nb L (c :: x) = nbAt L (c :: x) 0 c ++ (nb L x).map (c :: ·) := by
  show nbAt L (c :: x) 0 c ++ nbFrom L (c :: x) (0 + 1) x = _
  rw [nbFrom_cons]
  rfl
theorem nbAt0 {c : Nat} {x y : Thing} : y ∈ nbAt L (c :: x) 0 c ↔ (look L c = [] ∧ y = x) ∨ (look L c ≠ [] ∧ ∃ d ∈ nextOnes L c, y = d :: x) := by
  unfold nbAt
  by_cases h : look L c = []
  · rw [if_pos (by rw [h]; rfl)]
    simp [h]
  · rw [if_neg (fun e => h (List.length_eq_zero_iff.mp e))]
    simp only [List.mem_map]
    constructor
    · rintro ⟨d, hd, rfl⟩
      exact .inr ⟨h, d, hd, rfl⟩
    · rintro (⟨h1, _⟩ | ⟨_, d, hd, rfl⟩)
      · exact absurd h1 h
      · exact ⟨d, hd, rfl⟩
theorem next_below (f : FineTab L) {c d : Nat} (hc : c ∈ names L) (h : d ∈ nextOnes L c) : d ∈ below L c := f.lk c hc d (List.mem_filter.mp h).1
theorem nb_emb (f : FineTab L) : ∀ {x : Thing}, Kn L x → ∀ y ∈ nb L x, Em L y x ∧ y ≠ x
  | [], _, y, h => by cases h
  | c :: x, hx, y, h => by
    have hc := hx c (List.mem_cons_self ..)
    rw [nb_cons] at h
    rcases List.mem_append.mp h with h | h
    · rcases nbAt0.mp h with ⟨_, rfl⟩ | ⟨_, d, hd, rfl⟩
      · exact ⟨.skip _ (.refl _), fun e => by have := congrArg List.length e; simp at this⟩
      · have hb := next_below f hc hd
        refine ⟨.take (.inr hb) (.refl _), fun e => ?_⟩
        have e : d = c := (List.cons.inj e).1
        have := f.rk c hc d hb
        rw [e] at this
        exact Nat.lt_irrefl _ this
    · obtain ⟨z, hz, rfl⟩ := List.mem_map.mp h
      have := nb_emb f (fun a ha => hx a (List.mem_cons_of_mem _ ha)) z hz
      exact ⟨.take (.inl rfl) this.1, fun e => this.2 (List.cons.inj e).2⟩
/-- a letter more or a greater letter: by way of a neighbour -/
theorem nb_skip (f : FineTab L) {c : Nat} {u v : Thing} (hc : c ∈ names L) (h : Em L u v) : ∃ y ∈ nb L (c :: v), Em L u y := by
  by_cases hl : look L c = []
  · exact ⟨v, by rw [nb_cons]; exact List.mem_append_left _ (nbAt0.mpr (.inl ⟨hl, rfl⟩)), h⟩
  · obtain ⟨d, hd⟩ := List.exists_mem_of_ne_nil _ hl
    obtain ⟨e, he, _⟩ := f.nx c hc d (f.lk c hc d hd)
    exact ⟨e :: v, by rw [nb_cons]; exact List.mem_append_left _ (nbAt0.mpr (.inr ⟨hl, e, he, rfl⟩)), .skip _ h⟩
theorem nb_all (f : FineTab L) {u v : Thing} (h : Em L u v) (hv : Kn L v) : u = v ∨ ∃ y ∈ nb L v, Em L u y := by
  induction h with
  | nil v => cases v with
    | nil => exact .inl rfl
    | cons c v => exact .inr (nb_skip f (hv c (List.mem_cons_self ..)) (.nil _))
  | skip c h _ => exact .inr (nb_skip f (hv c (List.mem_cons_self ..)) h)
  | @take u v a c hc h ih =>
    have hn := hv c (List.mem_cons_self ..)
    rcases hc with rfl | hb
    · rcases ih (fun a ha => hv a (List.mem_cons_of_mem _ ha)) with rfl | ⟨y, hy, e⟩
      · exact .inl rfl
      · exact .inr ⟨a :: y, by rw [nb_cons]; exact List.mem_append_right _ (List.mem_map_of_mem hy), .take (.inl rfl) e⟩
    · obtain ⟨e, he, k⟩ := f.nx c hn a hb
      have hl : look L c ≠ [] := fun h0 => by
        have := (List.mem_filter.mp he).1
        rw [h0] at this
        cases this
      exact .inr ⟨e :: v, by rw [nb_cons]; exact List.mem_append_left _ (nbAt0.mpr (.inr ⟨hl, e, he, rfl⟩)), .take k h⟩
theorem closed_all (f : FineTab L) {r : List Thing} (hr : ∀ a ∈ r, ∀ b ∈ nb L a, b ∈ r) {t : Thing} : ∀ (n : Nat) (v : Thing), wt L v ≤ n → Kn L v → v ∈ r → Em L t v → t ∈ r
  | n, v, hn, kv, hv, h => by
    rcases nb_all f h kv with rfl | ⟨y, hy, k⟩
    · exact hv
    · obtain ⟨e1, e2⟩ := nb_emb f kv y hy
      have := e1.lt f kv e2
      match n with
      | 0 => omega
      | n + 1 => exact closed_all f hr n y (by omega) (e1.kn f kv) (hr v hv y hy) k
/-- things_at_most finds the law's lesser things -/
theorem grow_lesser (f : FineTab L) {x : Thing} (ix : IsThing L x) (hl : (lesser L x).length ≤ 40) : ∃ r, growLoop (nb L) 1000 [x] [x] = some r ∧ r.length ≤ 40 ∧ r.Nodup ∧ ∀ t, t ∈ r ↔ Em L t x := by
  obtain ⟨r, h1, h2, h3, h4, h5⟩ := growLoop_ends (g := nb L) (S := lesser L x) (fun a ha b hb => by
    rw [lesser_mem] at ha ⊢
    exact Em.trans f (nb_emb f (ha.kn f ix.kn) b hb).1 ha ix.kn) 1000 [x] [x] (by simp) (fun a ha => by
    rw [List.mem_singleton.mp ha, lesser_mem]; exact .refl _) (fun a h => h) (fun a h => .inl h) (by
    simp only [List.length_cons, List.length_nil]; omega)
  refine ⟨r, h1, Nat.le_trans (nodup_len h2 h3) hl, h2, fun t => ⟨fun h => lesser_mem.mp (h3 t h), fun h => ?_⟩⟩
  exact closed_all f h5 _ x (Nat.le_refl _) ix.kn (h4 x (List.mem_singleton.mpr rfl)) h
end
end FF
/-! the plain law: the walks -/
namespace FF
section
variable {B : Book}
theorem asks_f {nt : Bool} {K : List Thing} {s : Thing} : asks nt K s = true ↔ ¬ (nt = true ∧ s ∈ K) := by
  unfold asks
  cases nt <;> simp
structure GoSame (L : Tab) (F : Thing → Bool) (W : Nat) (st : List (Thing × Nat)) (p q : Nat × Option (Nat × Thing) × List Thing) : Prop where
  one : p.1 = q.1
  two : p.2.1 = q.2.1
  same : ∀ s, wt L s < W → (s ∈ p.2.2 ↔ s ∈ q.2.2)
  old : ∀ s ∈ p.2.2, F s = true → W ≤ wt L s ∨ ∃ k, p.2.1 = some (k, s)
  hit : ∀ k s, p.2.1 = some (k, s) → (s, k) ∈ st ∧ F s = true
theorem go_same {L : Tab} {F G : Thing → Bool} {W : Nat} (nt : Bool) : ∀ (st : List (Thing × Nat)) (t : Nat) (K K' : List Thing), (∀ p ∈ st, wt L p.1 < W) → (∀ p ∈ st, F p.1 = G p.1) →
    (∀ s, wt L s < W → (s ∈ K ↔ s ∈ K')) → (∀ s ∈ K, F s = true → W ≤ wt L s) → GoSame L F W st (goOn F nt st t K) (goL G nt st t K')
  | [], t, K, K', hw, hg, hs, ho => ⟨rfl, rfl, hs, fun s h1 h2 => .inl (ho s h1 h2), nofun⟩
  | (s, k) :: st, t, K, K', hw, hg, hs, ho => by
    have w1 : wt L s < W := hw _ (List.mem_cons_self ..)
    have g1 : F s = G s := hg _ (List.mem_cons_self ..)
    have w2 := fun p hp => hw p (List.mem_cons_of_mem _ hp)
    have g2 := fun p hp => hg p (List.mem_cons_of_mem _ hp)
    unfold goOn goL
    by_cases hF : F s = true
    · rw [if_pos hF]
      have hk : s ∉ K := fun h => absurd (ho s h hF) (by omega)
      have hk' : s ∉ K' := fun h => hk ((hs s w1).mpr h)
      rw [if_pos (asks_f.mpr fun h => hk h.2), if_neg (fun h : nt = true ∧ s ∈ K' => hk' h.2), if_pos (show G s = true by rw [← g1]; exact hF)]
      refine ⟨rfl, rfl, fun u hu => ?_, fun u hu hf => ?_, fun k' u e => ?_⟩
      · show u ∈ addOne K s ↔ u ∈ K' ++ [s]
        rw [addOne_memA, List.mem_append, List.mem_singleton, hs u hu]
      · rcases (addOne_memA K s u).mp hu with h | rfl
        · exact .inl (ho u h hf)
        · exact .inr ⟨k, rfl⟩
      · obtain ⟨rfl, rfl⟩ := Prod.mk.inj (Option.some.inj e)
        exact ⟨List.mem_cons_self .., hF⟩
    · rw [if_neg hF]
      have hh : ∀ u ∈ addOne K s, F u = true → W ≤ wt L u := fun u hu hf => by
        rcases (addOne_memA K s u).mp hu with h | rfl
        · exact ho u h hf
        · exact absurd hf hF
      have wrap : ∀ {p q}, GoSame L F W st p q → GoSame L F W ((s, k) :: st) p q := fun h => ⟨h.one, h.two, h.same, h.old, fun k' u e => ⟨List.mem_cons_of_mem _ (h.hit k' u e).1, (h.hit k' u e).2⟩⟩
      by_cases hn : nt = true ∧ s ∈ K'
      · have hk : s ∈ K := (hs s w1).mpr hn.2
        rw [if_pos hn, if_neg (fun h => asks_f.mp h ⟨hn.1, hk⟩)]
        refine wrap (go_same nt st t _ K' w2 g2 (fun u hu => ?_) hh)
        rw [addOne_memA, ← hs u hu]
        exact ⟨fun h => h.elim id fun e => by rw [e]; exact hk, .inl⟩
      · rw [if_neg hn, if_neg (show ¬ G s = true by rw [← g1]; exact hF), if_pos (asks_f.mpr fun h => hn ⟨h.1, (hs s w1).mp h.2⟩)]
        refine wrap (go_same nt st (t + 1) _ _ w2 g2 (fun u hu => ?_) hh)
        rw [addOne_memA, List.mem_append, List.mem_singleton, hs u hu]
theorem pl_walkL_none {F : Thing → Bool} {nt on : Bool} {n : Nat} {K : List Thing} : walkL B F nt on n none K = some [] := by
  cases n <;> rfl
theorem on_le {on : Bool} {k n : Nat} (h : k ≤ n) : (if on = true then k else 0) ≤ n := by
  split
  · exact h
  · exact Nat.zero_le _
theorem walk_same (g : GoodBook B) (f : FineTab B.tab) {F G : Thing → Bool} (nt on : Bool) {x0 : Thing} (ix0 : IsThing B.tab x0) (hFG : ∀ s, Em B.tab s x0 → F s = G s) : ∀ (n : Nat) (k : Nat) (x : Thing) (K K' : List Thing), Em B.tab x x0 → k ≤ B.rules.length →
    (∀ s, wt B.tab s < wt B.tab x → (s ∈ K ↔ s ∈ K')) → (∀ s ∈ K, F s = true → wt B.tab x ≤ wt B.tab s) → walkP B F nt on n (k, x) K = walkL B G nt on n (some (k, x)) K'
  | 0, k, x, K, K', ex, hk, hs, ho => rfl
  | n + 1, k, x, K, K', ex, hk, hs, ho => by
    have ix := ex.thing f ix0
    have so := pl_steps_ok g f ix (on_le (on := on) hk)
    have h := go_same (L := B.tab) (F := F) (G := G) (W := wt B.tab x) nt (steps B x (if on = true then k else 0)) 0 K K' (fun p hp => (so p hp).lt) (fun p hp => hFG _ (Em.trans f (so p hp).em ex ix0.kn)) hs ho
    unfold walkP walkL
    dsimp only
    rw [← h.two, ← h.one]
    cases e : (goOn F nt (steps B x (if on = true then k else 0)) 0 K).2.1 with
    | none =>
      dsimp only
      rw [pl_walkL_none]
      rfl
    | some q =>
      obtain ⟨k', s⟩ := q
      dsimp only
      have hm := h.hit k' s e
      have ok := so _ hm.1
      rw [walk_same g f nt on ix0 hFG n k' s _ (goL G nt (steps B x (if on = true then k else 0)) 0 K').2.2 (Em.trans f ok.em ex ix0.kn) ok.k (fun u hu => h.same u (Nat.lt_trans hu ok.lt)) (fun u hu hf => ?_)]
      rcases h.old u hu hf with h1 | ⟨k2, h1⟩
      · exact Nat.le_of_lt (Nat.lt_of_lt_of_le ok.lt h1)
      · rw [e] at h1
        rw [(Prod.mk.inj (Option.some.inj h1)).2]
        exact Nat.le_refl _
/-! ### the walk ends -/
theorem goOn_hit {F : Thing → Bool} {nt : Bool} : ∀ {st : List (Thing × Nat)} {t : Nat} {K : List Thing} {k : Nat} {s : Thing}, (goOn F nt st t K).2.1 = some (k, s) → (s, k) ∈ st ∧ F s = true
  | [], _, _, _, _, h => nomatch h
  | (a, b) :: st, t, K, k, s, h => by
    unfold goOn at h
    split at h
    · rename_i hF
      obtain ⟨rfl, rfl⟩ := Prod.mk.inj (Option.some.inj h)
      exact ⟨List.mem_cons_self .., hF⟩
    · have := goOn_hit h
      exact ⟨List.mem_cons_of_mem _ this.1, this.2⟩
theorem goOn_miss {F : Thing → Bool} {nt : Bool} : ∀ {st : List (Thing × Nat)} {t : Nat} {K : List Thing}, (goOn F nt st t K).2.1 = none → ∀ p ∈ st, F p.1 = false
  | [], _, _, h => nofun
  | (a, b) :: st, t, K, h => by
    unfold goOn at h
    split at h
    · cases h
    · rename_i hF
      intro p hp
      rcases List.mem_cons.mp hp with rfl | hp
      · exact Bool.eq_false_iff.mpr hF
      · exact goOn_miss h p hp
theorem goOn_cnt {F : Thing → Bool} {nt : Bool} : ∀ {st : List (Thing × Nat)} {t : Nat} {K : List Thing}, (goOn F nt st t K).1 ≤ t + st.length
  | [], t, K => Nat.le_refl _
  | (a, b) :: st, t, K => by
    unfold goOn
    have h : (if asks nt K a = true then t + 1 else t) ≤ t + 1 := by split <;> omega
    split
    · show (if asks nt K a = true then t + 1 else t) ≤ _
      simp only [List.length_cons]
      omega
    · have := goOn_cnt (F := F) (nt := nt) (st := st) (t := if asks nt K a = true then t + 1 else t) (K := addOne K a)
      simp only [List.length_cons]
      omega
theorem cnt_cons (p : Thing × Nat) (r : List (Thing × Nat)) : cnt (p :: r) = (p.2 : Int) + cnt r := by
  unfold cnt
  rw [List.map_cons, List.sum_cons]
theorem walk_ends (g : GoodBook B) (f : FineTab B.tab) {F : Thing → Bool} (nt on : Bool) : ∀ (n : Nat) (k : Nat) (x : Thing) (K : List Thing), IsThing B.tab x → k ≤ B.rules.length → wt B.tab x < n →
    ∃ rs z t, walkP B F nt on n (k, x) K = some (rs ++ [(z, t)]) ∧ rs.length + 1 ≤ n ∧ cnt (rs ++ [(z, t)]) ≤ 80 * (n : Int) ∧ Em B.tab z x ∧ (F x = true → F z = true)
  | 0, k, x, K, ix, hk, hn => by omega
  | n + 1, k, x, K, ix, hk, hn => by
    have so := pl_steps_ok g f ix (on_le (on := on) hk)
    have sl := pl_steps_len g ix (on_le (on := on) hk)
    have hc := goOn_cnt (F := F) (nt := nt) (st := steps B x (if on = true then k else 0)) (t := 0) (K := K)
    unfold walkP
    dsimp only
    cases e : (goOn F nt (steps B x (if on = true then k else 0)) 0 K).2.1 with
    | none =>
      refine ⟨[], x, (goOn F nt (steps B x (if on = true then k else 0)) 0 K).1, rfl, by simp, ?_, .refl _, id⟩
      rw [List.nil_append, cnt_cons]
      show ((goOn F nt (steps B x (if on = true then k else 0)) 0 K).1 : Int) + 0 ≤ _
      omega
    | some q =>
      obtain ⟨k', s⟩ := q
      obtain ⟨hm, hF⟩ := goOn_hit e
      have ok := so _ hm
      obtain ⟨rs, z, t, h1, h2, h3, h4, h5⟩ := walk_ends g f (F := F) nt on n k' s (goOn F nt (steps B x (if on = true then k else 0)) 0 K).2.2 ok.th ok.k (by have := ok.lt; dsimp only at this; omega)
      refine ⟨(x, (goOn F nt (steps B x (if on = true then k else 0)) 0 K).1) :: rs, z, t, ?_, ?_, ?_, Em.trans f h4 ok.em ix.kn, fun _ => h5 hF⟩
      · dsimp only
        rw [h1]
        rfl
      · rw [List.length_cons]
        omega
      · rw [List.cons_append, cnt_cons]
        dsimp only
        omega
/-! ### a walk is that of its last thing -/
theorem goOn_congr {F F' : Thing → Bool} {nt : Bool} : ∀ {st : List (Thing × Nat)} {t : Nat} {K : List Thing}, (∀ p ∈ st, F p.1 = false → F' p.1 = false) → (∀ k s, (goOn F nt st t K).2.1 = some (k, s) → F' s = true) → goOn F' nt st t K = goOn F nt st t K
  | [], _, _, _, _ => rfl
  | (a, b) :: st, t, K, h, k => by
    unfold goOn at k ⊢
    by_cases hF : F a = true
    · rw [if_pos hF] at k
      have := k b a rfl
      rw [if_pos hF, if_pos this]
    · rw [if_neg hF] at k
      have := h (a, b) (List.mem_cons_self ..) (Bool.eq_false_iff.mpr hF)
      dsimp only at this
      rw [if_neg hF, if_neg (by rw [this]; exact Bool.false_ne_true)]
      exact goOn_congr (fun p hp => h p (List.mem_cons_of_mem _ hp)) k
theorem walk_last (g : GoodBook B) (f : FineTab B.tab) {F F' : Thing → Bool} {nt on : Bool} {x0 z : Thing} {t : Nat} (ix0 : IsThing B.tab x0) (up : ∀ s, Em B.tab s x0 → Em B.tab z s → F z = true → F s = true) (hz : ∀ s, Em B.tab s x0 → (F' s = true ↔ Em B.tab z s)) :
    ∀ (n : Nat) (k : Nat) (x : Thing) (K : List Thing) (rs : List (Thing × Nat)), Em B.tab x x0 → k ≤ B.rules.length → F x = true → walkP B F nt on n (k, x) K = some (rs ++ [(z, t)]) → Em B.tab z x ∧ F z = true ∧ walkP B F' nt on n (k, x) K = some (rs ++ [(z, t)])
  | 0, k, x, K, rs, ex, hk, fx, h => nomatch h
  | n + 1, k, x, K, rs, ex, hk, fx, h => by
    have ix := ex.thing f ix0
    have so := pl_steps_ok g f ix (on_le (on := on) hk)
    unfold walkP at h ⊢
    dsimp only at h ⊢
    cases e : (goOn F nt (steps B x (if on = true then k else 0)) 0 K).2.1 with
    | none =>
      rw [e] at h
      have h := Option.some.inj h
      cases rs with
      | cons a rs =>
        have := congrArg List.length h
        simp at this
      | nil =>
        have e2 : x = z := (Prod.mk.inj (List.cons.inj h).1).1
        subst e2
        have miss := goOn_miss e
        have gc : goOn F' nt (steps B x (if on = true then k else 0)) 0 K = goOn F nt (steps B x (if on = true then k else 0)) 0 K := goOn_congr (fun p hp _ => by
          have ok := so p hp
          refine Bool.eq_false_iff.mpr fun hf => ?_
          have := Em.le f ((hz _ (Em.trans f ok.em ex ix0.kn)).mp hf) ok.th.kn
          have := ok.lt
          omega) (fun k s h2 => by rw [e] at h2; cases h2)
        refine ⟨.refl _, fx, ?_⟩
        rw [gc, e]
        exact congrArg some h
    | some q =>
      obtain ⟨k', s⟩ := q
      rw [e] at h
      dsimp only at h
      obtain ⟨hm, hF⟩ := goOn_hit e
      have ok := so _ hm
      have es := Em.trans f ok.em ex ix0.kn
      obtain ⟨r, hr, e2⟩ := Option.map_eq_some_iff.mp h
      have ne : r ≠ [] := by
        intro h0
        subst h0
        cases n with
        | zero => cases hr
        | succ n =>
          unfold walkP at hr
          split at hr
          · cases hr
          · obtain ⟨_, _, h2⟩ := Option.map_eq_some_iff.mp hr
            cases h2
      cases rs with
      | nil =>
        exact absurd (List.cons.inj e2).2 ne
      | cons a rs =>
        obtain ⟨e3, e4⟩ := List.cons.inj e2
        rw [e4] at hr
        obtain ⟨i1, i2, i3⟩ := walk_last g f ix0 up hz n k' s _ rs es ok.k hF hr
        have gc : goOn F' nt (steps B x (if on = true then k else 0)) 0 K = goOn F nt (steps B x (if on = true then k else 0)) 0 K := goOn_congr (fun p hp hf => by
          have ok := so p hp
          have ep := Em.trans f ok.em ex ix0.kn
          refine Bool.eq_false_iff.mpr fun h2 => ?_
          rw [up _ ep ((hz _ ep).mp h2) i2] at hf
          cases hf) (fun k2 s2 h2 => by
            rw [e] at h2
            obtain ⟨rfl, rfl⟩ := Prod.mk.inj (Option.some.inj h2)
            exact (hz _ es).mpr i1)
        refine ⟨Em.trans f i1 ok.em ix.kn, i2, ?_⟩
        rw [gc, e]
        dsimp only
        rw [i3, Option.map_some, e3]
        rfl
/-! ### together -/
theorem fails_iff (g : GoodTab B.tab) (f : FineTab B.tab) {cs : List Thing} {x : Thing} (hx : Kn B.tab x) : failsBy B.tab cs x = true ↔ ∃ u ∈ cs, Em B.tab u x := by
  unfold failsBy
  rw [List.any_eq_true]
  constructor
  · rintro ⟨u, hu, h⟩
    rw [at_rb g f hx, atMost_iff] at h
    exact ⟨u, hu, h⟩
  · rintro ⟨u, hu, h⟩
    exact ⟨u, hu, by rw [at_rb g f hx, atMost_iff]; exact h⟩
theorem failIn_eq (g : GoodTab B.tab) (f : FineTab B.tab) {cs : List Thing} {x s : Thing} (ix : IsThing B.tab x) (hs : Em B.tab s x) : failsBy B.tab cs s = decide (s ∈ failIn B.tab cs (lesser B.tab x)) := by
  apply Bool.eq_iff_iff.mpr
  rw [fails_iff g f (hs.kn f ix.kn), decide_eq_true_iff]
  unfold failIn
  rw [List.mem_filter, lesser_mem, List.any_eq_true]
  constructor
  · rintro ⟨u, hu, h⟩
    exact ⟨hs, u, hu, atMost_iff.mpr h⟩
  · rintro ⟨_, u, hu, h⟩
    exact ⟨u, hu, atMost_iff.mp h⟩
/-- the rows of the walk by causes -/
def rowsOf (B : Book) (x : Thing) (on nt : Bool) (cs : List Thing) : List (Thing × Nat) := (walkP B (failsBy B.tab cs) nt on 1000 (0, x) []).getD []
structure WalkOk (B : Book) (x : Thing) (on nt : Bool) (cs : List Thing) : Prop where
  fx : failsBy B.tab cs x = true
  prog : walkP B (failsBy B.tab cs) nt on 1000 (0, x) [] = some (rowsOf B x on nt cs)
  law : walkL B (fun s => decide (s ∈ failIn B.tab cs (lesser B.tab x))) nt on 1000 (some (0, x)) [x] = some (rowsOf B x on nt cs)
  len : (rowsOf B x on nt cs).length ≤ 1000
  le : cnt (rowsOf B x on nt cs) ≤ 100000
  last : ∃ rs z t, rowsOf B x on nt cs = rs ++ [(z, t)] ∧ Em B.tab z x ∧ rowsOf B x on nt [z] = rowsOf B x on nt cs
theorem walk_ok (g : GoodBook B) (f : FineTab B.tab) {x : Thing} (ix : IsThing B.tab x) (on nt : Bool) {cs : List Thing} (ne : cs ≠ []) (hc : ∀ u ∈ cs, Em B.tab u x) : WalkOk B x on nt cs := by
  have fx : failsBy B.tab cs x = true := by
    obtain ⟨u, hu⟩ := List.exists_mem_of_ne_nil _ ne
    exact (fails_iff g.tab f ix.kn).mpr ⟨u, hu, hc u hu⟩
  have hw : wt B.tab x < 1000 := by
    have := wt_le g.tab ix.kn
    have := ix.len
    omega
  obtain ⟨rs, z, t, h1, h2, h3, h4, h5⟩ := walk_ends g f (F := failsBy B.tab cs) nt on 1000 0 x [] ix (Nat.zero_le _) hw
  have e : rowsOf B x on nt cs = rs ++ [(z, t)] := by
    unfold rowsOf
    rw [h1]
    rfl
  have hl := walk_last g f (F := failsBy B.tab cs) (F' := failsBy B.tab [z]) (nt := nt) (on := on) (z := z) (t := t) ix (fun s hs hz hf => by
    obtain ⟨u, hu, k⟩ := (fails_iff g.tab f (h4.kn f ix.kn)).mp hf
    exact (fails_iff g.tab f (hs.kn f ix.kn)).mpr ⟨u, hu, Em.trans f k hz (hs.kn f ix.kn)⟩) (fun s hs => by
    rw [fails_iff g.tab f (hs.kn f ix.kn)]
    exact ⟨fun ⟨u, hu, k⟩ => by rw [List.mem_singleton.mp hu] at k; exact k, fun k => ⟨z, List.mem_singleton.mpr rfl, k⟩⟩) 1000 0 x [] rs (.refl _) (Nat.zero_le _) fx h1
  refine ⟨fx, by rw [h1, e], ?_, ?_, ?_, rs, z, t, e, h4, ?_⟩
  · rw [e, ← h1]
    exact (walk_same g f nt on ix (fun s hs => failIn_eq g.tab f ix hs) 1000 0 x [] [x] (.refl _) (Nat.zero_le _) (fun s hs => ⟨nofun, fun h => by
      rw [List.mem_singleton.mp h] at hs
      exact absurd hs (Nat.lt_irrefl _)⟩) (nofun)).symm
  · rw [e, List.length_append]
    simp only [List.length_cons, List.length_nil]
    omega
  · rw [e]
    have : (80 : Int) * ((1000 : Nat) : Int) ≤ 100000 := by decide
    exact Int.le_trans h3 this
  · rw [e]
    unfold rowsOf
    rw [hl.2.2]
    rfl
theorem WalkOk.walks {x : Thing} {on nt : Bool} {cs : List Thing} (h : WalkOk B x on nt cs) : Walks B cs x on nt (rowsOf B x on nt cs) := ⟨h.fx, ⟨1000, Nat.le_refl _, h.prog⟩, h.len⟩
theorem max_same {f : Thing → Int} {a b : List Thing} (ha : a ≠ []) (h : ∀ t, t ∈ a ↔ t ∈ b) : maxOf (a.map f) = maxOf (b.map f) := by
  have hb : b ≠ [] := by
    obtain ⟨t, ht⟩ := List.exists_mem_of_ne_nil _ ha
    exact List.ne_nil_of_mem ((h t).mp ht)
  apply Int.le_antisymm
  · obtain ⟨t, ht, e⟩ := List.mem_map.mp (maxOf_mem (ns := a.map f) (by rw [List.length_map]; exact List.length_pos_iff.mpr ha))
    rw [← e]
    exact maxOf_ge (List.mem_map_of_mem ((h t).mp ht))
  · obtain ⟨t, ht, e⟩ := List.mem_map.mp (maxOf_mem (ns := b.map f) (by rw [List.length_map]; exact List.length_pos_iff.mpr hb))
    rw [← e]
    exact maxOf_ge (List.mem_map_of_mem ((h t).mpr ht))
/-- the walk by x itself takes no step -/
theorem goOn_all {F : Thing → Bool} : ∀ {st : List (Thing × Nat)} {t : Nat} {K : List Thing}, (∀ p ∈ st, F p.1 = false) → (goOn F false st t K).1 = t + st.length ∧ (goOn F false st t K).2.1 = none
  | [], t, K, h => ⟨rfl, rfl⟩
  | (a, b) :: st, t, K, h => by
    have ha := h (a, b) (List.mem_cons_self ..)
    dsimp only at ha
    unfold goOn
    rw [if_neg (by rw [ha]; exact Bool.false_ne_true), if_pos (asks_f.mpr (by simp))]
    have := goOn_all (F := F) (st := st) (t := t + 1) (K := addOne K a) fun p hp => h p (List.mem_cons_of_mem _ hp)
    rw [List.length_cons]
    exact ⟨by rw [this.1]; omega, this.2⟩
theorem self_rows (g : GoodBook B) (f : FineTab B.tab) {x : Thing} (ix : IsThing B.tab x) : cnt (rowsOf B x false false [x]) = (steps B x 0).length := by
  have so := pl_steps_ok g f ix (first := 0) (Nat.zero_le _)
  have h := goOn_all (F := failsBy B.tab [x]) (st := steps B x 0) (t := 0) (K := []) fun p hp => by
    refine Bool.eq_false_iff.mpr fun hf => ?_
    have ok := so p hp
    obtain ⟨u, hu, k⟩ := (fails_iff g.tab f ok.th.kn).mp hf
    rw [List.mem_singleton.mp hu] at k
    have := Em.le f k ok.th.kn
    have := ok.lt
    omega
  unfold rowsOf
  have e : walkP B (failsBy B.tab [x]) false false 1000 (0, x) [] = some [(x, (steps B x 0).length)] := by
    show walkP B (failsBy B.tab [x]) false false (999 + 1) (0, x) [] = _
    unfold walkP
    dsimp only
    rw [if_neg Bool.false_ne_true, h.2, h.1, Nat.zero_add]
  rw [e]
  show cnt [(x, (steps B x 0).length)] = _
  rw [cnt_cons]
  show ((steps B x 0).length : Int) + 0 = _
  rw [Int.add_zero]
end
end FF
/-! the plain law: the letters that can be drawn -/
namespace FF
def insB {α : Type} (le : α → α → Bool) (a : α) : List α → List α
  | [] => [a]
  | b :: r => if le a b = true then a :: b :: r else b :: insB le a r
def isort {α : Type} (le : α → α → Bool) (l : List α) : List α := l.foldr (insB le) []
def nmN (nm : List Nat) (k : Nat) : Nat := nm[k]?.getD 0
/-- the lesser letters of the letter at k -/
def lessersAt (nm : List Nat) (sh : List (Nat × Nat)) (k : Nat) : List Nat := (sh.filter fun p => decide (p.1 = k)).map fun p => nmN nm p.2
def rowAt (nm : List Nat) (sh : List (Nat × Nat)) (k : Nat) : Nat × List Nat := (nmN nm k, isort (fun a b => decide (a ≤ b)) (lessersAt nm sh k))
def tabOf (nm : List Nat) (sh : List (Nat × Nat)) (k : Nat) : Tab := isort (fun p q => decide (p.1 ≤ q.1)) ((List.range k).map (rowAt nm sh))
def nmsAll : List (List Nat) := [[97, 98, 99], [98, 99, 97], [107, 109, 122], [122, 121, 120], [97, 99, 98]]
def shpAll : List (List (Nat × Nat)) := [[], [(1, 0)], [(1, 0), (2, 1)], [(1, 0), (2, 0)], [(2, 0), (2, 1)], [(1, 0), (2, 1), (2, 0)], [(1, 0)]]
def IsTab (L : Tab) : Prop := ∃ nm ∈ nmsAll, ∃ sh ∈ shpAll, ∃ k ∈ [2, 3], L = tabOf nm sh k
def chkG (L : Tab) : Bool := decide ((L.map (·.1)).Nodup) && decide (∀ p ∈ L, 97 ≤ p.1 ∧ p.1 ≤ 122) && decide (∀ p ∈ L, ∀ c ∈ p.2, c ∈ L.map (·.1)) && decide (L.length ≤ 3) && decide (∀ p ∈ L, p.2.length ≤ 3) &&
  decide (∀ c ∈ names L, reachLoop (look L) 40 [] (look L c).reverse = some (reach L c)) && decide (∀ c ∈ names L, (reach L c).length ≤ 3) && decide (∀ c ∈ names L, ∀ d ∈ reach L c, d ∈ names L) &&
  decide (∀ c ∈ names L, underLoop (look L) 40 0 (look L c) = some (under L c)) && decide (∀ c ∈ names L, (under L c).length ≤ 3) && decide (∀ c ∈ names L, growLoop (look L) 40 [] [c] = some (below L c)) && decide (∀ c ∈ names L, (below L c).length ≤ 3) &&
  decide (∀ c ∈ names L, ∀ d ∈ look L c, (below L d).length < (below L c).length)
def chkF (L : Tab) : Bool := decide (∀ c ∈ names L, ∀ d ∈ names L, d ∈ reach L c ↔ d ∈ below L c) && decide (∀ c ∈ names L, ∀ d ∈ below L c, d ∈ names L) && decide (∀ c ∈ names L, ∀ d ∈ below L c, ∀ e ∈ below L d, e ∈ below L c) &&
  decide (∀ c ∈ names L, ∀ d ∈ below L c, (below L d).length < (below L c).length) && decide (∀ c ∈ names L, ∀ d ∈ look L c, d ∈ below L c) && decide (∀ c ∈ names L, ∀ d ∈ below L c, ∃ e ∈ nextOnes L c, d = e ∨ d ∈ below L e)
theorem good_chk {L : Tab} (h : chkG L = true) : GoodTab L := by
  unfold chkG at h
  simp only [Bool.and_eq_true, decide_eq_true_eq] at h
  obtain ⟨⟨⟨⟨⟨⟨⟨⟨⟨⟨⟨⟨h1, h2⟩, h3⟩, h4⟩, h5⟩, h6⟩, h7⟩, h8⟩, h9⟩, h10⟩, h11⟩, h12⟩, h13⟩ := h
  exact ⟨h1, h2, h3, h4, h5, h6, h7, h8, h9, h10, h11, h12, h13⟩
theorem fine_chk {L : Tab} (h : chkF L = true) : FineTab L := by
  unfold chkF at h
  simp only [Bool.and_eq_true, decide_eq_true_eq] at h
  obtain ⟨⟨⟨⟨⟨h1, h2⟩, h3⟩, h4⟩, h5⟩, h6⟩ := h
  exact ⟨h1, h2, h3, h4, h5, h6⟩
theorem tabs_chk : ∀ nm ∈ nmsAll, ∀ sh ∈ shpAll, ∀ k ∈ [2, 3], chkG (tabOf nm sh k) = true ∧ chkF (tabOf nm sh k) = true ∧ tabOf nm sh k ≠ [] := by decide +kernel
theorem IsTab.good {L : Tab} (h : IsTab L) : GoodTab L := by
  obtain ⟨nm, h1, sh, h2, k, h3, rfl⟩ := h
  exact good_chk (tabs_chk nm h1 sh h2 k h3).1
theorem IsTab.fine {L : Tab} (h : IsTab L) : FineTab L := by
  obtain ⟨nm, h1, sh, h2, k, h3, rfl⟩ := h
  exact fine_chk (tabs_chk nm h1 sh h2 k h3).2.1
theorem IsTab.ne {L : Tab} (h : IsTab L) : L ≠ [] := by
  obtain ⟨nm, h1, sh, h2, k, h3, rfl⟩ := h
  exact (tabs_chk nm h1 sh h2 k h3).2.2
end FF
/-! letters drawn -/
namespace FF
open PySem PySem.Spec PyProof.Rows L2
open Evl (Ex EvT)
section
variable {X : Cx}
theorem cr_sortedTPK {K : PySem.W.Frag} (e : X.K = K) : CallR X (.builtin "sorted") (rSortedTP K) := e ▸ cr_sortedTP
theorem cr_tupFK {K : PySem.W.Frag} (e : X.K = K) : CallR X (.type "tuple") (rTupF K) := e ▸ cr_tupF
end
/-! ### sorting -/
section
variable {α : Type} {le : α → α → Bool}
theorem insB_perm (a : α) : ∀ l : List α, (insB le a l).Perm (a :: l)
  | [] => List.Perm.refl _
  | b :: r => by
    unfold insB
    split
    · exact List.Perm.refl _
    · exact ((insB_perm a r).cons b).trans (List.Perm.swap a b r)
theorem isort_perm : ∀ l : List α, (isort le l).Perm l
  | [] => List.Perm.refl _
  | a :: l => (insB_perm a (isort le l)).trans ((isort_perm l).cons a)
theorem insB_pw (tot : ∀ a b, le a b = false → le b a = true) (tr : ∀ a b c, le a b = true → le b c = true → le a c = true) (a : α) : ∀ {l : List α}, l.Pairwise (fun x y => le x y = true) → (insB le a l).Pairwise (fun x y => le x y = true)
  | [], _ => List.pairwise_singleton _ _
  | b :: r, h => by
    obtain ⟨h1, h2⟩ := List.pairwise_cons.mp h
    unfold insB
    split
    · rename_i hab
      refine List.pairwise_cons.mpr ⟨fun y hy => ?_, h⟩
      rcases List.mem_cons.mp hy with rfl | hy
      · exact hab
      · exact tr _ _ _ hab (h1 y hy)
    · rename_i hab
      refine List.pairwise_cons.mpr ⟨fun y hy => ?_, insB_pw tot tr a h2⟩
      rcases List.mem_cons.mp ((insB_perm a r).mem_iff.mp hy) with rfl | hy
      · exact tot _ _ (Bool.eq_false_iff.mpr hab)
      · exact h1 y hy
theorem isort_pw (tot : ∀ a b, le a b = false → le b a = true) (tr : ∀ a b c, le a b = true → le b c = true → le a c = true) : ∀ l : List α, (isort le l).Pairwise (fun x y => le x y = true)
  | [] => List.Pairwise.nil
  | a :: l => insB_pw tot tr a (isort_pw tot tr l)
end
theorem one_le {a b : Nat} (h : ¬ ([b] : List Nat) < [a]) : a ≤ b := by
  rcases Nat.lt_or_ge b a with q | q
  · exact absurd (List.cons_lt_cons_iff.mpr (.inl q)) h
  · exact q
theorem srt_ones (l : List Nat) : srt (l.map fun c => [c]) = (isort (fun a b => decide (a ≤ b)) l).map fun c => [c] := by
  refine List.Perm.eq_of_pairwise (le := (· ≤ ·)) (fun a b _ _ h1 h2 => List.le_antisymm h1 h2) (srt_pw _) ?_ ((srt_perm _).trans ((isort_perm l).map _).symm)
  refine List.pairwise_map.mpr ((isort_pw (le := fun a b : Nat => decide (a ≤ b)) (fun a b h => decide_eq_true (by have := of_decide_eq_false h; omega)) (fun a b c h1 h2 => decide_eq_true (Nat.le_trans (of_decide_eq_true h1) (of_decide_eq_true h2))) l).imp fun {a b} h => ?_)
  refine List.not_lt.mp fun q => ?_
  have h := of_decide_eq_true h
  rcases List.cons_lt_cons_iff.mp q with q | ⟨_, q⟩
  · omega
  · exact absurd q (List.lt_irrefl _)
/-! ### rows -/
def eRowT (p : Nat × List Nat) : PyData := .tuple [eC p.1, .tuple (p.2.map eC)]
theorem rd_inj {H : Hp} {t : Addr} {xs ys : List V} (h : Rd H t (.tup xs)) (k : Rd H t (.tup ys)) : xs = ys := by
  rcases h with h | ⟨o, h⟩ <;> rcases k with k | ⟨o', k⟩ <;> rw [h] at k <;> cases k <;> rfl
theorem key_fun (H : Hp) : ∃ k : V → Str, ∀ t a c, Rd H t (.tup [.str a, c]) → k (.ref t) = a := by
  classical
  refine ⟨fun x => if h : ∃ (a : Str) (t : Addr) (c : V), x = .ref t ∧ Rd H t (.tup [.str a, c]) then h.choose else Str.empty, fun t a c h => ?_⟩
  have hx : ∃ (a : Str) (t' : Addr) (c : V), V.ref t = .ref t' ∧ Rd H t' (.tup [.str a, c]) := ⟨a, t, c, rfl, h⟩
  show (if h : ∃ (a : Str) (t' : Addr) (c : V), V.ref t = .ref t' ∧ Rd H t' (.tup [.str a, c]) then h.choose else Str.empty) = a
  rw [dif_pos hx]
  obtain ⟨t', c', e, h2⟩ := hx.choose_spec
  rw [← V.ref.inj e] at h2
  have := rd_inj h2 h
  exact V.str.inj (List.cons.inj this).1
theorem row_at {H : Hp} {row : Nat × List Nat} {x : V} (h : Rp H (eRowT row) x) : ∃ t c, x = .ref t ∧ Rd H t (.tup [.str (sC row.1), c]) := by
  obtain ⟨t, ys, rfl, h1, h2⟩ := h
  match ys, h2 with
  | [a, c], h2 =>
    have ha : a = .str (sC row.1) := h2.1
    subst ha
    exact ⟨t, c, rfl, h1⟩
  | [], h2 => exact h2.elim
  | [_], h2 => exact h2.2.elim
  | _ :: _ :: _ :: _, h2 => exact h2.2.2.elim
theorem rp_perm {H : Hp} : ∀ {xs ys : List V}, xs.Perm ys → ∀ {rows : Tab}, RpAll H (rows.map eRowT) xs → ∃ rows' : Tab, rows.Perm rows' ∧ RpAll H (rows'.map eRowT) ys := by
  intro xs ys p
  induction p with
  | nil => exact fun {rows} h => ⟨rows, List.Perm.refl _, h⟩
  | cons x p ih =>
    intro rows h
    match rows, h with
    | [], h => exact h.elim
    | r :: rows, h =>
      obtain ⟨rows', h1, h2⟩ := ih (rows := rows) h.2
      exact ⟨r :: rows', h1.cons r, h.1, h2⟩
  | swap x y l =>
    intro rows h
    match rows, h with
    | [], h => exact h.elim
    | [_], h => exact h.2.elim
    | r :: r2 :: rows, h => exact ⟨r2 :: r :: rows, List.Perm.swap _ _ _, h.2.1, h.1, h.2.2⟩
  | trans _ _ ih1 ih2 =>
    intro rows h
    obtain ⟨r1, h1, h2⟩ := ih1 h
    obtain ⟨r2, h3, h4⟩ := ih2 h2
    exact ⟨r2, h1.trans h3, h4⟩
theorem pw_rows {H : Hp} {k : V → Str} (hk : ∀ t a c, Rd H t (.tup [.str a, c]) → k (.ref t) = a) : ∀ {rows : Tab} {ys : List V}, RpAll H (rows.map eRowT) ys → ys.Pairwise (fun x y => ¬ (k y).cps.toList < (k x).cps.toList) → rows.Pairwise (fun a b => a.1 ≤ b.1)
  | [], _, _, _ => List.Pairwise.nil
  | a :: rows, [], h, _ => h.elim
  | a :: rows, x :: ys, h, p => by
    obtain ⟨p1, p2⟩ := List.pairwise_cons.mp p
    refine List.pairwise_cons.mpr ⟨fun b hb => ?_, pw_rows hk h.2 p2⟩
    obtain ⟨i, hi⟩ := List.getElem?_of_mem hb
    obtain ⟨y, hy, ry⟩ := RpAll.get (i := i) (d := eRowT b) h.2 (by rw [List.getElem?_map, hi]; rfl)
    obtain ⟨t, c, rfl, g1⟩ := row_at (row := a) h.1
    obtain ⟨t', c', rfl, g2⟩ := row_at ry
    have := p1 _ (List.mem_of_getElem? hy)
    rw [hk _ _ _ g1, hk _ _ _ g2] at this
    exact one_le this
theorem rows_is {rows rows' : Tab} (nd : (rows.map (·.1)).Nodup) (p : rows.Perm rows') (h : rows'.Pairwise (fun a b => a.1 ≤ b.1)) : rows' = isort (fun p q => decide (p.1 ≤ q.1)) rows := by
  have h2 := isort_pw (le := fun p q : Nat × List Nat => decide (p.1 ≤ q.1)) (fun a b h => decide_eq_true (by have := of_decide_eq_false h; omega)) (fun a b c h1 h2 => decide_eq_true (Nat.le_trans (of_decide_eq_true h1) (of_decide_eq_true h2))) rows
  refine List.Perm.eq_of_pairwise (le := fun a b => a.1 ≤ b.1) (fun a b ha hb h1 h2 => ?_) h (h2.imp fun h => of_decide_eq_true h) (p.symm.trans (isort_perm rows).symm)
  have ha : a ∈ rows := p.mem_iff.mpr ha
  have hb : b ∈ rows := (isort_perm rows).mem_iff.mp hb
  obtain ⟨i, hi⟩ := List.getElem?_of_mem ha
  obtain ⟨j, hj⟩ := List.getElem?_of_mem hb
  have e : i = j := nd_ix nd (x := a.1) (by rw [List.getElem?_map, hi]; rfl) (by rw [List.getElem?_map, hj, Nat.le_antisymm h1 h2]; rfl)
  subst e
  rw [hi] at hj
  exact Option.some.inj hj
section
variable {Hb H : Hp} {ms : Ms} {cs : List Sh} {σ : L2.St} {te ta tb : TE} {K : PySem.W.Frag} {D : Ends}
/-- a loop over a drawn number of laps -/
theorem s_forG {tn : TE} {Pn : Int → Prop} {g : TG} {tu : TS} (c : Cu Hb ms cs σ H) (hn : EvG tn Hb ms cs σ (fun r => ∃ i : Int, Pn i ∧ r = .int i)) (k : ∀ i Hb' H', Pn i → Ex Hb Hb' → Cu Hb' ms cs σ H' → tFor (iRng1 (tCons (tC (.int i)) tNil)) g tu D σ H') : tFor (iRng1 (tCons tn tNil)) g tu D σ H := by
  refine hn Hb H (Ex.refl _) c _ fun v r Hb2 H2 e2 c2 ⟨i, hi, e⟩ rv => ?_
  subst e
  have rv : v = .int i := rv
  subst rv
  exact k i Hb2 H2 hi e2 c2
/-- tuple(sorted(rows)) -/
theorem ret_rows {p : Addr} {rows : Tab} {te : TE} (h : EvS te σ H (.ls (rows.map eRowT))) (nd : (rows.map (·.1)).Nodup) (k : ∀ v H', Ex H H' → Rp H' (eTab (isort (fun p q => decide (p.1 ≤ q.1)) rows)) v → D.rt v H') :
    tRet (tCB (rTupF K) (tCons (tCB (rSortedTP K) (tCons te tNil)) tNil)) D σ H := by
  refine h H (Ex.refl _) _ fun v H1 e1 rv => ?_
  obtain ⟨a, rfl, xs, h1, h2⟩ := rv
  obtain ⟨kf, hk⟩ := key_fun H1
  have hx : ∀ x ∈ xs, ∃ (i : Nat) (row : Nat × List Nat) (t : Addr) (c : V), xs[i]? = some x ∧ rows[i]? = some row ∧ x = .ref t ∧ Rd H1 t (.tup [.str (sC row.1), c]) := fun x hx => by
    obtain ⟨i, hi⟩ := List.getElem?_of_mem hx
    obtain ⟨d, hd, rd⟩ := h2.getV hi
    rw [List.getElem?_map] at hd
    obtain ⟨row, hr, rfl⟩ := Option.map_eq_some_iff.mp hd
    obtain ⟨t, c, e, g⟩ := row_at rd
    exact ⟨i, row, t, c, hi, hr, e, g⟩
  refine ⟨a, xs, kf, rfl, SqL.of h1, fun x hxm => ?_, fun x hxm y hym e => ?_, fun ys p hpw hpm hp => ⟨p, ys, rfl, SqL.of upd_same, fun T o hT hod => ?_⟩⟩
  · obtain ⟨i, row, t, c, _, _, rfl, g⟩ := hx x hxm
    exact ⟨t, c, rfl, .inl (by rw [hk _ _ _ g]; exact g)⟩
  · obtain ⟨i, row, t, c, hi, hr, rfl, g⟩ := hx x hxm
    obtain ⟨j, row', t', c', hj, hr', rfl, g'⟩ := hx y hym
    rw [hk _ _ _ g, hk _ _ _ g'] at e
    have e0 : row.1 = row'.1 := sC_inj e
    have e : i = j := nd_ix nd (x := row.1) (by rw [List.getElem?_map, hr]; rfl) (by rw [List.getElem?_map, hr', e0]; rfl)
    subst e
    rw [hi] at hj
    exact Option.some.inj hj
  · obtain ⟨rows', q1, q2⟩ := rp_perm hpm.symm h2
    have e := rows_is nd q1 (pw_rows hk q2 hpw)
    rw [← e] at k
    have e2 : Ex H1 (L2.upd H1 p (.lst ys)) := Evl.Ex.new hp
    have e3 : Ex (L2.upd H1 p (.lst ys)) (L2.upd (L2.upd H1 p (.lst ys)) T (.frz o (.tup ys))) := Evl.Ex.new hT
    exact k _ _ (e1.trans (e2.trans e3)) ⟨T, o, ys, rfl, upd_same, hod, q2.mono (Ex.pr (e2.trans e3))⟩
end
/-! ### the texts -/
def pairS (p : Nat × Nat) : Str := tS [97 + p.1, 97 + p.2]
def nmTxt : List (Str × List Nat) := [("abc", [97, 98, 99]), ("bca", [98, 99, 97]), ("kmz", [107, 109, 122]), ("zyx", [122, 121, 120]), ("acb", [97, 99, 98])]
def shpTxt : List (Str × List (Nat × Nat)) := [("", []), ("ba", [(1, 0)]), ("ba cb", [(1, 0), (2, 1)]), ("ba ca", [(1, 0), (2, 0)]), ("ca cb", [(2, 0), (2, 1)]), ("ba cb ca", [(1, 0), (2, 1), (2, 0)]), ("ba", [(1, 0)])]
theorem nm_ok : ∀ e ∈ nmTxt, e.1 = tS e.2 ∧ e.2 ∈ nmsAll ∧ e.2.length = 3 := by decide +kernel
theorem shp_ok : ∀ e ∈ shpTxt, Txt.split e.1 " " = (if e.2 = [] then [("" : Str)] else e.2.map pairS) ∧ e.2 ∈ shpAll ∧ e.1.length ≤ 100 ∧ e.2.length ≤ 3 ∧ ∀ p ∈ e.2, p.1 < 3 ∧ p.2 < 2 := by decide +kernel
theorem abc_is : ("abc" : Str) = tS [97, 98, 99] := by decide +kernel
theorem occ_ok : ∀ b, b < 2 → Builtin.Str.occurrences "abc" (tS [97 + b]) 0 ("abc" : Str).length 1 = [b] := by decide +kernel
section
variable {Hb H : Hp} {ms : Ms} {cs : List Sh} {σ : L2.St} {te ta tb : TE} {K : PySem.W.Frag} {D : Ends}
/-- z.split(" ") -/
theorem ef_split {z y : Str} (ha : EvD ta σ H (.str z)) (hb : EvD tb σ H (.str y)) (hy : (y.length == 0) = false) (hz : z.length ≤ 1000) : EvF (tM1 (fun x xs H Q => ∃ a b, x = .str a ∧ xs = [.str b] ∧ (b.length == 0) = false ∧ a.length + 2 ≤ sizeLine ∧ rNewStrs (Txt.split a b) H Q) ta tb) σ H (.ls ((Txt.split z y).map PyData.str)) := fun H1 e Q q =>
  ha H1 e _ fun x H2 e2 rx => ⟨⟨z, rx⟩, hb H2 (e.trans e2) _ fun v H3 e3 rv => by
    have rx : x = .str z := rx
    have rv : v = .str y := rv
    subst rx rv
    refine ⟨z, y, rfl, rfl, hy, Nat.le_trans (show z.length + 2 ≤ 1002 by omega) (by decide), fun p hp => ?_⟩
    refine q p _ (Evl.fresh_back (e2.trans e3) hp) ((e2.trans e3).trans (Evl.Ex.new hp)) ⟨p, rfl, _, upd_same, ?_⟩
    rw [← vOf_strs]
    exact RpAll.ofFlat (flat_strs _)⟩
theorem ev_sindex {z y : Str} {i : Nat} {rest : List Nat} (ha : EvD ta σ H (.str z)) (hb : EvD tb σ H (.str y)) (ho : Builtin.Str.occurrences z y 0 z.length 1 = i :: rest) :
    EvD (tBM K "str" (fun x xs H Q => ∃ a b i rest, x = .str a ∧ xs = [.str b] ∧ Builtin.Str.occurrences a b 0 a.length 1 = i :: rest ∧ Q (.int (i : Nat)) H) ta (tCons tb tNil)) σ H (eI i) := fun H1 e Q q =>
  ha H1 e _ fun x H2 e2 rx => by
    have rx : x = .str z := rx
    subst rx
    refine ⟨rfl, hb H2 (e.trans e2) _ fun v H3 e3 rv => ?_⟩
    have rv : v = .str y := rv
    subst rv
    exact ⟨z, y, i, rest, rfl, rfl, ho, q _ H3 (e2.trans e3) rfl⟩
end
def headIs (k : Nat) (d : PyData) : Bool := match (sOf d).cps.toList with
  | a :: _ => decide (a = 97 + k)
  | [] => false
def lessD (nm : List Nat) (d : PyData) : PyData := match (sOf d).cps.toList with
  | [_, b] => eC (nmN nm (b - 97))
  | _ => .none
theorem less_list (nm : List Nat) (sh : List (Nat × Nat)) (k : Nat) : (((if sh = [] then [("" : Str)] else sh.map pairS).map PyData.str).filter (headIs k)).map (lessD nm) = (lessersAt nm sh k).map eC := by
  by_cases h : sh = []
  · rw [if_pos h, h]
    have : headIs k (.str "") = false := by
      unfold headIs
      rw [show (sOf (.str "")).cps.toList = ([] : List Nat) by decide +kernel]
    show (List.filter (headIs k) [PyData.str ""]).map _ = _
    rw [List.filter_cons, this]
    rfl
  · rw [if_neg h]
    unfold lessersAt
    clear h
    induction sh with
    | nil => rfl
    | cons p sh ih =>
      rw [List.map_cons, List.map_cons, List.filter_cons, List.filter_cons]
      have e1 : headIs k (.str (pairS p)) = decide (p.1 = k) := by
        unfold headIs
        rw [show (sOf (.str (pairS p))).cps.toList = [97 + p.1, 97 + p.2] from tS_list _]
        exact decide_eq_decide.mpr (by omega)
      have e2 : lessD nm (.str (pairS p)) = eC (nmN nm p.2) := by
        unfold lessD
        rw [show (sOf (.str (pairS p))).cps.toList = [97 + p.1, 97 + p.2] from tS_list _]
        show eC (nmN nm (97 + p.2 - 97)) = _
        rw [Nat.add_sub_cancel_left]
      rw [e1]
      split
      · rw [List.map_cons, List.map_cons, List.map_cons, e2, ih]
      · exact ih
section
variable {P : Program} {w : World} {K : PySem.W.Frag} {mg : Str → Option Value} {base : Heap}
def domLetters (ss : List Sh) (P : PyData → Prop) : Prop := ss = [] ∧ P = fun r => ∃ L, IsTab L ∧ r = eTab L
theorem sc_law_letters : FnScope ["_law_feed_here", "_law_names", "_law_shape", "_law_rows", "_law_k", "_law_lessers", "_law_pair"] ["_law_feed_here"] (defScope (top 77)) := ⟨rfl, rfl, rfl, by decide +kernel, rfl, by decide +kernel, by decide +kernel⟩
theorem c_law_letters (T : Txt K mg) : Cal P w K mg base 3 "_law_letters" (spG domLetters) [] := by
  refine cal_of (k := 2) T 50 (d := d_law_letters) rfl sc_law_letters rfl rfl (fun _ _ _ _ _ _ us hl => match us, hl with | [_], _ => rfl) (len_G fun _ _ ⟨e, _⟩ => by rw [e]; rfl) (fun f cdv A outer s H vs Q E hr h => ?_)
  obtain ⟨p, q, t, l, d, ss, PP, r, hp, hfd, ⟨rfl, rfl⟩, qk⟩ := h
  have c := Cu.entryM (N := ["_law_feed_here", "_law_names", "_law_shape", "_law_rows", "_law_k", "_law_lessers", "_law_pair"]) (m := .f q) r hp hfd
  refine ⟨_, (pss_cons (ps_set (i := 1) sc_law_letters.nd rfl (by first | exact Or.inl rfl | exact Or.inr rfl) (pe_c (c_law_any T) hr (by decide) rfl (pa_cons (pv 0) (pa_cons (pe_lst (pa_cons pe_str (pa_cons pe_str (pa_cons pe_str (pa_cons pe_str (pa_cons pe_str pa_nil)))))) pa_nil))))
  (pss_cons (ps_set (i := 2) sc_law_letters.nd rfl (by first | exact Or.inl rfl | exact Or.inr rfl) (pe_c (c_law_any T) hr (by decide) rfl (pa_cons (pv 0) (pa_cons (pe_lst (pa_cons pe_str (pa_cons pe_str (pa_cons pe_str (pa_cons pe_str (pa_cons pe_str (pa_cons pe_str (pa_cons pe_str pa_nil)))))))) pa_nil))))
  (pss_cons (ps_set (i := 3) sc_law_letters.nd rfl (by first | exact Or.inl rfl | exact Or.inr rfl) (pe_lst pa_nil))
  (pss_cons (ps_for PassesOwn.never rfl (pi_range1 rfl T.range_ (pa_cons (pe_op op_add pe_int (pe_c (c_law_draw T) hr (by decide) rfl (pa_cons (pv 0) (pa_cons pe_int pa_nil)))) pa_nil)) (pg_name (i := 4) sc_law_letters.nd rfl (by first | exact Or.inl rfl | exact Or.inr rfl)) (pss_cons (ps_setLc (i := 5) (own := [("_law_pair", 6)]) rfl sc_law_letters.nd rfl rfl (sw_true rfl rfl rfl (by decide +kernel)) (pi_listK (K := K) rfl (pe_split (pv 2) pe_str)) (blkOk_by (N := ["_law_feed_here", "_law_names", "_law_shape", "_law_rows", "_law_k", "_law_lessers", "_law_pair"]) (sc := defScope (top 77)) (by decide +kernel)) (by intros; exact (pg_name (i := 6) sc_law_letters.nd rfl (by first | exact Or.inl rfl | exact Or.inr rfl))) (by intros; exact (pts_one (PW.pt (pw_and (pt_cmpR op_ne (pv 6) pe_str (nomark _)) (pw_and1 (pt_cmpR op_eq (pe_ix ix_str (pv 6) pe_int (fun _ _ => rfl)) (pe_ix ix_str pe_str (pv 4) (fun _ _ => rfl)) (nomark _))))))) (by intros; exact (pe_ix ix_str (pv 1) (pe_bmK (K := K) rfl PySem.F.plainAttrs_str PySem.F.slot_str_index PySem.F.type_str_index mt_sindex pe_str (pa_cons (pe_ix ix_str (pv 6) pe_int (fun _ _ => rfl)) pa_nil)) (fun _ _ => rfl))))
  (pss_one (ps_expr (pe_bmK (K := K) rfl PySem.F.plainAttrs_list PySem.F.slot_list_append PySem.F.type_list_append mt_append (pv 3) (pa_cons (pe_tup (pa_cons (pe_ix ix_str (pv 1) (pv 4) (fun _ _ => rfl)) (pa_cons (pe_callTy (call_tuple_ofK (K := K) rfl) rfl T.tuple_ (by decide +kernel) (pa_cons (pe_callB (cr_sortedSK (K := K) rfl) rfl T.sorted_ (by decide +kernel) (pa_cons (pv 5) pa_nil)) pa_nil)) pa_nil))) pa_nil))))))
  (pss_one (ps_ret (pe_callTy (cr_tupFK (K := K) rfl) rfl T.tuple_ (by decide +kernel) (pa_cons (pe_callB (cr_sortedTPK (K := K) rfl) rfl T.sorted_ (by decide +kernel) (pa_cons (pv 3) pa_nil)) pa_nil)))))))), ?_⟩
  refine st_seq ?_
  refine s_setG (P := fun r => r ∈ nmTxt.map fun e => PyData.str e.1) c (g_call (k := 0) (ss := [.ls (nmTxt.map fun e => PyData.str e.1)]) rfl (fun Hb1 H1 e1 c1 => ea_vl c1 (i := 0) rfl (ea_cons (ef_lst (ds := nmTxt.map fun e => PyData.str e.1) (ea_cons ev_str (ea_cons ev_str (ea_cons ev_str (ea_cons ev_str (ea_cons ev_str ea_nil))))) (by show 5 ≤ 100000; decide)).s ea_nil)) rfl ⟨_, _, .inl rfl, rfl, List.cons_ne_nil _ _, by show 5 ≤ 1000; decide, rfl⟩) fun r1 Hb1 σ1 H1 e1 hP1 c1 => ?_
  obtain ⟨nme, hnme, rfl⟩ := List.mem_map.mp hP1
  obtain ⟨hn1, hn2, hn3⟩ := nm_ok nme hnme
  obtain ⟨_, nm⟩ := nme
  dsimp only at hn1 hn2 hn3
  subst hn1
  dsimp only
  refine st_seq ?_
  refine s_setG (P := fun r => r ∈ shpTxt.map fun e => PyData.str e.1) c1 (g_call (k := 0) (ss := [.ls (shpTxt.map fun e => PyData.str e.1)]) rfl (fun Hb1 H1 e1 c1 => ea_vl c1 (i := 0) rfl (ea_cons (ef_lst (ds := shpTxt.map fun e => PyData.str e.1) (ea_cons ev_str (ea_cons ev_str (ea_cons ev_str (ea_cons ev_str (ea_cons ev_str (ea_cons ev_str (ea_cons ev_str ea_nil))))))) (by show 7 ≤ 100000; decide)).s ea_nil)) rfl ⟨_, _, .inl rfl, rfl, List.cons_ne_nil _ _, by show 7 ≤ 1000; decide, rfl⟩) fun r2 Hb2 σ2 H2 e2 hP2 c2 => ?_
  obtain ⟨⟨z, sh⟩, hshe, rfl⟩ := List.mem_map.mp hP2
  obtain ⟨hs1, hs2, hs3, hs4, hs5⟩ := shp_ok _ hshe
  dsimp only at hs1 hs2 hs3 hs4 hs5
  dsimp only
  refine st_seq ?_
  refine s_setM (ds := []) c2 (ef_lst (ds := []) ea_nil (by decide)) fun p3 Hb3 σ3 H3 e3 hp3 c3 => ?_
  have c3 : Cu Hb3 [(p, .f q), (p3, .l [])] [.vl (.ref p), .hd (eT nm), .hd (.str z), .vl (.ref p3), .un, .un, .un] σ3 H3 := c3
  dsimp only
  refine st_seq ?_
  refine s_forG (Pn := fun i => i = 2 ∨ i = 3) c3 ((g_add (P := fun r => ∃ i : Int, r = .int i ∧ 0 ≤ i ∧ i < 2) (fun _ _ _ _ => ev_int (i := 2)) (g_call (k := 0) (ss := [.hd (.int 2)]) rfl (fun Hb1 H1 e1 c1 => ea_vl c1 (i := 0) rfl (ea_cons ev_int ea_nil)) rfl ⟨2, rfl, by decide, by decide, rfl⟩) (fun r ⟨i, e, _⟩ => ⟨i, e⟩)).imp fun r ⟨i, ⟨j, e, h0, h1⟩, e2⟩ => ⟨2 + i, by cases e; omega, e2⟩) fun n Hb4 H4 hn e4 c4 => ?_
  obtain ⟨m, rfl, hm, hm3⟩ : ∃ m : Nat, n = (m : Int) ∧ m ∈ [2, 3] ∧ m ≤ 3 := by
    rcases hn with rfl | rfl
    · exact ⟨2, rfl, by decide, by decide⟩
    · exact ⟨3, rfl, by decide, by decide⟩
  refine s_for c4 (ei_rng1 (n := (m : Int)) (ea_cons ev_int ea_nil) (by omega) (by omega)) (fun d _ => tg_name) (fun i cs ms => ∃ s4 s5 s6, cs = [.vl (.ref p), .hd (eT nm), .hd (.str z), .vl (.ref p3), s4, s5, s6] ∧ ms = [(p, .f q), (p3, .l (((List.range i).map (rowAt nm sh)).map eRowT))]) ⟨_, _, _, rfl, rfl⟩ ?_ ?_
  · rintro Hs es i d Hb5 ms5 cs5 σ5 H5 N5 hd e5 c5 em5 ⟨s4, s5, s6, rfl, rfl⟩ hN5
    have hi : i < m := by
      have := (List.getElem?_eq_some_iff.mp hd).1
      rw [intsD_length] at this
      omega
    rw [intsD_get (by omega)] at hd
    cases hd
    have c5 : Cu Hb5 [(p, .f q), (p3, .l (((List.range i).map (rowAt nm sh)).map eRowT))] [.vl (.ref p), .hd (eT nm), .hd (.str z), .vl (.ref p3), .hd (.int (0 + (i : Nat))), s5, s6] σ5 H5 := c5
    have hik : ∀ k, k < 3 → nm[k]? = some (nmN nm k) := fun k hk => by
      unfold nmN
      rw [List.getElem?_eq_getElem (by omega)]
      rfl
    have habc : ∀ k, k < 3 → ([97, 98, 99] : List Nat)[k]? = some (97 + k) := by decide
    refine st_seq ?_
    refine s_setF (ds := (lessersAt nm sh i).map eC) c5 (ef_is (ef_lc c5 (ei_lst (ex_0 (ef_split (y := " ") (c5.var 2) ev_str (by decide +kernel) (by omega)).s)) (fun d _ => tg_name) (by decide) (headIs i) (lessD nm) (fun d hd σ' H' c' => ?_) (fun d hd hh σ' H' c' => ?_) ?_) ?_) fun Hb6 σ6 H6 e6 c6 => ?_
    · rw [hs1] at hd
      by_cases hsh : sh = []
      · rw [if_pos hsh] at hd
        have hd := List.mem_singleton.mp hd
        subst hd
        exact Evl.et_is (Evl.et_and (a := false) (b := false) (et_test (ev_is (ev_neS (b := "") (c'.var 6) ev_str) rfl)) (nofun)) (by
          unfold headIs
          rw [show (sOf (.str "")).cps.toList = ([] : List Nat) by decide +kernel]
          rfl)
      · rw [if_neg hsh] at hd
        obtain ⟨_, hy, rfl⟩ := List.mem_map.mp hd
        obtain ⟨pr, hpr, rfl⟩ := List.mem_map.mp hy
        obtain ⟨b1, b2⟩ := hs5 pr hpr
        have ne : pairS pr ≠ "" := fun e => by
          have this : (pairS pr).cps.toList = ("" : Str).cps.toList := congrArg (fun x : Str => x.cps.toList) e
          rw [show (pairS pr).cps.toList = [97 + pr.1, 97 + pr.2] from tS_list _, show ("" : Str).cps.toList = ([] : List Nat) by decide +kernel] at this
          cases this
        refine Evl.et_is (Evl.et_and (a := true) (b := decide (97 + pr.1 = 97 + i)) (et_test (ev_is (ev_neS (b := "") (c'.var 6) ev_str) (by rw [decide_eq_false ne]; rfl))) fun _ => et_test (ev_is (ev_eqS (ev_signT (t := [97 + pr.1, 97 + pr.2]) (k := 0) (i := 0) (c'.var 6) ev_int rfl rfl (by show 2 ≤ 1000; decide)) (ev_signT (t := [97, 98, 99]) (k := i) (ev_is ev_str (by rw [abc_is])) (c'.var 4) (Int.zero_add _) (habc i (by omega)) (by show 3 ≤ 1000; decide))) ?_)) ?_
        · exact congrArg PyData.bool (decide_eq_decide.mpr ⟨fun h => sC_inj h, fun h => by rw [h]⟩)
        · unfold headIs
          rw [show (sOf (.str (pairS pr))).cps.toList = [97 + pr.1, 97 + pr.2] from tS_list _]
          rfl
    · rw [hs1] at hd
      by_cases hsh : sh = []
      · rw [if_pos hsh] at hd
        have hd := List.mem_singleton.mp hd
        subst hd
        unfold headIs at hh
        rw [show (sOf (.str "")).cps.toList = ([] : List Nat) by decide +kernel] at hh
        cases hh
      · rw [if_neg hsh] at hd
        obtain ⟨_, hy, rfl⟩ := List.mem_map.mp hd
        obtain ⟨pr, hpr, rfl⟩ := List.mem_map.mp hy
        obtain ⟨b1, b2⟩ := hs5 pr hpr
        refine ev_is (ev_signT (t := nm) (k := pr.2) (c'.var 1) (ev_sindex (i := pr.2) (rest := []) ev_str (ev_signT (t := [97 + pr.1, 97 + pr.2]) (k := 1) (i := 1) (c'.var 6) ev_int rfl rfl (by show 2 ≤ 1000; decide)) (occ_ok pr.2 b2)) rfl (hik pr.2 (by omega)) (by omega)) ?_
        unfold lessD
        rw [show (sOf (.str (pairS pr))).cps.toList = [97 + pr.1, 97 + pr.2] from tS_list _]
        show _ = eC (nmN nm (97 + pr.2 - 97))
        rw [Nat.add_sub_cancel_left]
    · rw [hs1, List.length_map]
      split
      · decide
      · rw [List.length_map]
        omega
    · rw [hs1, less_list]
    dsimp only
    have hll : (lessersAt nm sh i).length ≤ 3 := by
      unfold lessersAt
      rw [List.length_map]
      exact Nat.le_trans (List.length_filter_le _ _) hs4
    refine s_app (d := eRowT (rowAt nm sh i)) c6 (i := 3) rfl (k := 1) rfl (ev_tup (ds := [_, _]) (ea_cons (ev_signT (t := nm) (k := i) (c6.var 1) (c6.var 4) (Int.zero_add _) (hik i (by omega)) (by omega)) (ea_cons (ev_is (ev_tupL (ef_sortedS (l := (lessersAt nm sh i).map fun c => [c]) (es_is (c6.var 5) (by rw [List.map_map]; rfl)) (by rw [List.length_map]; omega)).s) (by rw [srt_ones, List.map_map]; rfl)) ea_nil)) (by show 2 ≤ 100000; decide)) (by rw [List.length_map, List.length_map, List.length_range]; omega) fun H7 c7 => ?_
    refine hN5 Hb6 _ _ _ _ (e5.trans e6) c7 em5 ⟨_, _, _, rfl, ?_⟩
    rw [List.range_succ, List.map_append, List.map_append]
    rfl
  · rintro Hb5 ms5 cs5 σ5 H5 e5 c5 em5 ⟨s4, s5, s6, rfl, rfl⟩
    rw [intsD_length] at c5
    have c5 : Cu Hb5 [(p, .f q), (p3, .l (((List.range m).map (rowAt nm sh)).map eRowT))] [.vl (.ref p), .hd (eT nm), .hd (.str z), .vl (.ref p3), s4, s5, s6] σ5 H5 := c5
    have it : IsTab (tabOf nm sh m) := ⟨nm, hn2, sh, hs2, m, hm, rfl⟩
    have nd : (((List.range m).map (rowAt nm sh)).map (·.1)).Nodup := ((isort_perm (le := fun p q : Nat × List Nat => decide (p.1 ≤ q.1)) ((List.range m).map (rowAt nm sh))).map (·.1)).nodup_iff.mp it.good.nd
    dsimp only
    refine ret_rows (p := p) (c5.lvar 3 1) nd fun v H6 e6 rv => ?_
    have c6 : Cu Hb5 ([(p, .f q)] ++ [(p3, MC.l (((List.range m).map (rowAt nm sh)).map eRowT))]) [.vl (.ref p), .hd (eT nm), .hd (.str z), .vl (.ref p3), s4, s5, s6] σ5 H5 := c5
    have c7 := c6.drop.rebase e6
    have ex := c6.drop.exHide e6
    exact done_G c7 ((e1.trans (e2.trans (e3.trans (e4.trans e5)))).trans ex) ⟨tabOf nm sh m, it, rfl⟩ (rv.mono (c6.drop.ext e6).prHide) qk
end
end FF
/-! the book drawn -/
namespace FF
open PySem PySem.Spec PyProof.Rows L2
open Evl (Ex EvT)
theorem data_rules {L : Tab} : ∀ {ds : List PyData}, (∀ d ∈ ds, ∃ ru, d = eRule ru ∧ RuleOk L ru) → ∃ rs : List Rule, ds = rs.map eRule ∧ ∀ r ∈ rs, RuleOk L r
  | [], _ => ⟨[], rfl, nofun⟩
  | d :: ds, h => by
    obtain ⟨ru, rfl, hr⟩ := h d (List.mem_cons_self ..)
    obtain ⟨rs, rfl, ht⟩ := data_rules (ds := ds) fun e he => h e (List.mem_cons_of_mem _ he)
    exact ⟨ru :: rs, rfl, fun e he => by
      rcases List.mem_cons.mp he with z | he
      · rw [z]
        exact hr
      · exact ht e he⟩
section
variable {Hb H : Hp} {ms : Ms} {cs : List Sh} {σ : L2.St} {K : PySem.W.Frag}
/-- tuple(a list of draws) among other things -/
theorem la_tupG {tl : TE} {tr : TA} {Pl : List PyData → Prop} {Q : List V → Hp → Prop} (c : Cu Hb ms cs σ H) (h : EvGL tl Hb ms cs σ Pl) (k : ∀ v ds Hb2 H2, Ex Hb Hb2 → Cu Hb2 ms cs σ H2 → Pl ds → Rp Hb2 (.tuple ds) v → tr σ H2 fun vs H3 => Q (v :: vs) H3) :
    tCons (tCB (fun xs H Q => ∃ p ys, xs = [.ref p] ∧ ((SqL K H p ys ∧ ∀ l, H l = none → Q (.ref l) (upd H l (.tup ys))) ∨ (SqT K H p ys ∧ Q (.ref p) H))) (tCons tl tNil)) tr σ H Q := by
  refine h Hb H (Ex.refl _) c (fun v H1 => ∃ p ys, [v] = [V.ref p] ∧ ((SqL K H1 p ys ∧ ∀ l, H1 l = none → (tr σ (upd H1 l (.tup ys)) fun vs H2 => Q (.ref l :: vs) H2)) ∨ (SqT K H1 p ys ∧ tr σ H1 fun vs H2 => Q (.ref p :: vs) H2))) fun pl ds Hb4 H4 e4 c4 hP ls => ?_
  obtain ⟨xs, g1, g2⟩ := ls
  refine ⟨pl, xs, rfl, .inl ⟨SqL.of (c4.ex _ _ g1), fun l hl => ?_⟩⟩
  have e5 : Ex H4 (L2.upd H4 l (.tup xs)) := Evl.Ex.new hl
  exact k _ ds _ _ (e4.trans (c4.exHide e5)) (c4.rebase e5) hP ⟨l, xs, rfl, .inl (hideAt upd_same (c4.out hl)), g2.mono (Ex.pr (c4.exHide e5))⟩
end
section
variable {P : Program} {w : World} {K : PySem.W.Frag} {mg : Str → Option Value} {base : Heap}
def domBook (ss : List Sh) (P : PyData → Prop) : Prop := ss = [.hd (.bool true)] ∧ P = fun r => ∃ B, r = eBook B ∧ GoodBook B ∧ IsTab B.tab
theorem sc_law_book : FnScope ["_law_feed_here", "_law_falls_only", "_law_letters_here", "_law_lap"] ["_law_feed_here", "_law_falls_only"] (defScope (top 80)) := ⟨rfl, rfl, rfl, by decide +kernel, rfl, by decide +kernel, by decide +kernel⟩
theorem c_law_book (T : Txt K mg) : Cal P w K mg base 4 "_law_book" (spG domBook) [] := by
  refine cal_of (k := 3) T 53 (d := d_law_book) rfl sc_law_book rfl rfl (fun _ _ _ _ _ _ us hl => match us, hl with | [_, _], _ => rfl) (len_G fun _ _ ⟨e, _⟩ => by rw [e]; rfl) (fun f cdv A outer s H vs Q E hr h => ?_)
  obtain ⟨p, q, t, l, d, ss, PP, r, hp, hfd, ⟨rfl, rfl⟩, qk⟩ := h
  have c := Cu.entryM (N := ["_law_feed_here", "_law_falls_only", "_law_letters_here", "_law_lap"]) (m := .f q) r hp hfd
  refine ⟨_, (pss_cons (ps_set (i := 2) sc_law_book.nd rfl (by first | exact Or.inl rfl | exact Or.inr rfl) (pe_c (c_law_letters T) hr (by decide) rfl (pa_cons (pv 0) pa_nil)))
  (pss_one (ps_ret (pe_tup (pa_cons (pv 2) (pa_cons (pe_callTy (call_tuple_ofK (K := K) rfl) rfl T.tuple_ (by decide +kernel) (pa_cons (pe_lc (own := [("_law_lap", 3)]) rfl sc_law_book.nd (pi_range1 rfl T.range_ (pa_cons (pe_op op_add pe_int (pe_c (c_law_draw T) hr (by decide) rfl (pa_cons (pv 0) (pa_cons pe_int pa_nil)))) pa_nil)) (blkOk_by (N := ["_law_feed_here", "_law_falls_only", "_law_letters_here", "_law_lap"]) (sc := defScope (top 80)) (by decide +kernel)) (by intros; exact (pg_name (i := 3) sc_law_book.nd rfl (by first | exact Or.inl rfl | exact Or.inr rfl))) (by intros; exact pts_nil) (by intros; exact (pe_c (c_law_rule T) hr (by decide) rfl (pa_cons (pv 0) (pa_cons (pv 2) (pa_cons (pv 1) pa_nil)))))) pa_nil)) pa_nil)))))), ?_⟩
  refine st_seq ?_
  refine s_setG (P := fun r => ∃ L, IsTab L ∧ r = eTab L) c (g_call (k := 0) (ss := []) rfl (fun Hb1 H1 e1 c1 => ea_vl c1 (i := 0) rfl ea_nil) rfl ⟨rfl, rfl⟩) fun r1 Hb1 σ1 H1 e1 hP1 c1 => ?_
  obtain ⟨L, it, rfl⟩ := hP1
  have c1 : Cu Hb1 [(p, .f q)] [.vl (.ref p), .hd (.bool true), .hd (eTab L), .un] σ1 H1 := c1
  dsimp only
  refine s_retTup (la_hd c1 (c1.var 2) fun v1 Hb3 H3 e3 c3 rv1 => la_tupG (Pl := fun ds => ∃ i : Int, (1 ≤ i ∧ i ≤ 4) ∧ ds.length = i.toNat ∧ ∀ d ∈ ds, ∃ ru, d = eRule ru ∧ RuleOk L ru) c3 (g_lc (P := fun r => ∃ ru, r = eRule ru ∧ RuleOk L ru) (j := 3) (vs := [3]) (Pn := fun i => 1 ≤ i ∧ i ≤ 4) (List.mem_singleton.mpr rfl)
    ((g_add (P := fun r => ∃ i : Int, r = .int i ∧ 0 ≤ i ∧ i < 4) (fun _ _ _ _ => ev_int (i := 1)) (g_call (k := 0) (ss := [.hd (.int 4)]) rfl (fun Hb1 H1 e1 c1 => ea_vl c1 (i := 0) rfl (ea_cons ev_int ea_nil)) rfl ⟨4, rfl, by decide, by decide, rfl⟩) (fun r ⟨i, e, _⟩ => ⟨i, e⟩)).imp fun r ⟨i, ⟨j, e, h0, h1⟩, e2⟩ => ⟨1 + i, by cases e; omega, e2⟩)
    (fun i h => by omega) (fun D acc i σ' Hb' => g_call (k := 0) (ss := [.hd (eTab L), .hd (.bool true)]) rfl (fun Hb1 H1 e1 c1 => ea_vl c1 (i := 0) rfl (ea_cons (c1.var 2) (ea_cons (c1.var 1) ea_nil))) rfl ⟨L, rfl, it.good, it.ne, rfl⟩)) fun v2 ds Hb4 H4 e4 c4 hP rv2 => la_nil ⟨by show 2 ≤ sizeLine; decide, fun T hT => ?_⟩)
  obtain ⟨n, ⟨h0, h1⟩, hdl, hall⟩ := hP
  obtain ⟨rs, rfl, hrs⟩ := data_rules hall
  rw [List.length_map] at hdl
  exact done_T (ds := [eTab L, .tuple (rs.map eRule)]) c4 (e1.trans (e3.trans e4)) hT ⟨rv1.mono (Ex.pr e4), rv2, trivial⟩ ⟨⟨L, rs⟩, rfl, ⟨it.good, hrs, by show rs.length ≤ 4; omega, by show 0 < rs.length; omega⟩, it⟩ qk
end
end FF
/-! helpers of the law -/
namespace FF
open PySem PySem.Spec PyProof.Rows L2
open Evl (Ex EvT)
section
variable {X : Cx} {K : PySem.W.Frag} {w : World}
theorem mt_indexK (hK : X.K = K) : MtR X "list.index" (rIndex K) := by subst hK; exact mt_index
theorem cr_setTK (hw : X.w = w) (hK : X.K = K) (hc : X.calm = true) : CallR X (.type "set") (rSetT w K) := by subst hw; subst hK; exact cr_setT hc
theorem cr_sortedTK (hw : X.w = w) (hc : X.calm = true) : CallR X (.builtin "sorted") (rSortedT w) := by subst hw; exact cr_sortedT hc
end
/-! ### what is shown is small -/
structure NiceB (n k : Nat) (d : PyData) : Prop where
  sh : d.showable = true
  ok : rOk d = true
  dp : d.depth ≤ k
  ln : rLen d ≤ n
theorem NiceB.nice {n k : Nat} {d : PyData} (h : NiceB n k d) (hn : n ≤ 1000000) (hk : k ≤ 60) : Nice d := ⟨h.sh, h.ok, Nat.le_trans h.dp hk, Nat.le_trans h.ln hn⟩
theorem NiceB.mono {n k n' k' : Nat} {d : PyData} (h : NiceB n k d) (hn : n ≤ n') (hk : k ≤ k') : NiceB n' k' d := ⟨h.sh, h.ok, Nat.le_trans h.dp hk, Nat.le_trans h.ln hn⟩
theorem ni_str {x : Str} {m : Nat} (h : PyData.strOk x = true) (hl : x.length ≤ m) : NiceB (10 * m + 2) 0 (.str x) := ⟨by simp only [PyData.showable], by simp only [rOk]; exact h, by simp only [PyData.depth]; exact Nat.le_refl 0, by simp only [rLen]; omega⟩
theorem ni_int {i : Int} (h : i.natAbs ≤ 100000) : NiceB 22 0 (.int i) := by
  have := log_small h
  exact ⟨by simp only [PyData.showable]; exact decide_eq_true (by omega), by simp only [rOk], by simp only [PyData.depth]; exact Nat.le_refl 0, by simp only [rLen]; omega⟩
theorem ni_all {n k : Nat} : ∀ {ds : List PyData}, (∀ d ∈ ds, NiceB n k d) → PyData.showableAll ds = true ∧ rOkAll ds = true ∧ PyData.depthAll ds ≤ k ∧ rLenAll ds ≤ ds.length * (n + 2)
  | [], _ => ⟨by simp only [PyData.showableAll], by simp only [rOkAll], by simp only [PyData.depthAll]; exact Nat.zero_le _, by simp only [rLenAll]; exact Nat.zero_le _⟩
  | d :: ds, h => by
    obtain ⟨h1, h2, h3, h4⟩ := ni_all (ds := ds) fun e he => h e (List.mem_cons_of_mem _ he)
    have hd := h d (List.mem_cons_self ..)
    refine ⟨by simp only [PyData.showableAll]; rw [hd.sh, h1]; rfl, by simp only [rOkAll]; rw [hd.ok, h2]; rfl, by simp only [PyData.depthAll]; exact Nat.max_le.mpr ⟨hd.dp, h3⟩, ?_⟩
    simp only [rLenAll, List.length_cons]
    have := hd.ln
    rw [Nat.succ_mul]
    omega
theorem ni_tup {n k m : Nat} {ds : List PyData} (h : ∀ d ∈ ds, NiceB n k d) (hl : ds.length ≤ m) : NiceB (m * (n + 2) + 3) (k + 1) (.tuple ds) := by
  obtain ⟨h1, h2, h3, h4⟩ := ni_all h
  have := Nat.mul_le_mul_right (n + 2) hl
  exact ⟨by simp only [PyData.showable]; exact h1, by simp only [rOk]; exact h2, by simp only [PyData.depth]; omega, by simp only [rLen]; omega⟩
theorem ni_lst {n k m : Nat} {ds : List PyData} (h : ∀ d ∈ ds, NiceB n k d) (hl : ds.length ≤ m) : NiceB (m * (n + 2) + 3) (k + 1) (.list ds) := by
  obtain ⟨h1, h2, h3, h4⟩ := ni_all h
  have := Nat.mul_le_mul_right (n + 2) hl
  exact ⟨by simp only [PyData.showable]; exact h1, by simp only [rOk]; exact h2, by simp only [PyData.depth]; omega, by simp only [rLen]; omega⟩
theorem normAll_map : ∀ ds : List PyData, normAll ds = ds.map norm
  | [] => by simp only [normAll]; rfl
  | d :: ds => by simp only [normAll, List.map_cons]; rw [normAll_map ds]
theorem strOk_low {t : Thing} (h : ∀ c ∈ t, low c) : PyData.strOk (tS t) = true := by
  unfold PyData.strOk
  rw [Array.all_eq_true']
  intro a ha
  have hlw := h a (by simpa [tS] using ha)
  have := hlw.2
  simp
  omega
theorem ni_thing {t : Thing} (h : ∀ c ∈ t, low c) (hl : t.length ≤ 4) : NiceB 42 0 (norm (eT t)) := by
  simp only [norm]
  exact ni_str (strOk_low h) (by rw [tS_len]; exact hl)
theorem low_name {L : Tab} (g : GoodTab L) {c : Nat} (h : c ∈ names L) : low c := by
  obtain ⟨p, hp, rfl⟩ := List.mem_map.mp h
  exact g.lo p hp
theorem ni_letter {L : Tab} (g : GoodTab L) {c : Nat} (h : c ∈ names L) : NiceB 42 0 (norm (eC c)) := ni_thing (t := [c]) (fun a ha => by rw [List.mem_singleton.mp ha]; exact low_name g h) (by show 1 ≤ 4; decide)
theorem ni_tab {L : Tab} (g : GoodTab L) : NiceB 1000 3 (norm (eTab L)) := by
  show NiceB 1000 3 (norm (.list (L.map fun p => .tuple [eC p.1, .tuple (p.2.map eC)])))
  simp only [norm]
  rw [normAll_map, List.map_map]
  refine (ni_tup (n := 300) (k := 2) (m := 3) (fun d hd => ?_) (by rw [List.length_map]; exact g.len)).mono (by decide) (by decide)
  obtain ⟨p, hp, rfl⟩ := List.mem_map.mp hd
  show NiceB 300 2 (norm (.tuple [eC p.1, .tuple (p.2.map eC)]))
  simp only [norm]
  rw [normAll_map]
  refine (ni_tup (n := 141) (k := 1) (m := 2) (fun d hd => ?_) (by simp)).mono (by decide) (by decide)
  rcases List.mem_cons.mp hd with rfl | hd
  · exact (ni_letter g (List.mem_map_of_mem hp)).mono (by decide) (by decide)
  · rw [List.mem_singleton.mp hd]
    simp only [norm]
    rw [normAll_map, List.map_map]
    refine (ni_tup (n := 42) (k := 0) (m := 3) (fun d hd => ?_) (by rw [List.length_map]; exact g.les p hp)).mono (by decide) (by decide)
    obtain ⟨c, hc, rfl⟩ := List.mem_map.mp hd
    exact ni_letter g (g.kn p hp c hc)
theorem ni_word {x : Str} (h : PyData.strOk x = true ∧ x.length ≤ 6) : NiceB 62 0 (norm (.str x)) := by
  simp only [norm]
  exact ni_str h.1 h.2
theorem ni_rule {L : Tab} (g : GoodTab L) {r : Rule} (ok : RuleOk L r) : NiceB 300 1 (norm (eRule r)) := by
  have side : ∀ l : Bool, NiceB 62 0 (norm (eSide l)) := fun l => ni_word (by cases l <;> decide +kernel)
  have four : ∀ ds : List PyData, ds.length ≤ 4 → (∀ d ∈ ds, NiceB 62 0 (norm d)) → NiceB 300 1 (norm (.tuple ds)) := fun ds hl h => by
    simp only [norm]
    rw [normAll_map]
    refine (ni_tup (n := 62) (k := 0) (m := 4) (fun d hd => ?_) (by rw [List.length_map]; exact hl)).mono (by decide) (by decide)
    obtain ⟨e, he, rfl⟩ := List.mem_map.mp hd
    exact h e he
  cases r with
  | drop n l =>
    obtain ⟨h1, h2⟩ : 1 ≤ n ∧ n ≤ 2 := ok
    refine four [.str "drop", .int n, eSide l] (by simp) fun d hd => ?_
    rcases List.mem_cons.mp hd with rfl | hd
    · exact ni_word (by decide +kernel)
    · rcases List.mem_cons.mp hd with rfl | hd
      · simp only [norm]
        exact (ni_int (by omega)).mono (by decide) (by decide)
      · rw [List.mem_singleton.mp hd]
        exact side l
  | half l =>
    refine four [.str "half", eSide l] (by simp) fun d hd => ?_
    rcases List.mem_cons.mp hd with rfl | hd
    · exact ni_word (by decide +kernel)
    · rw [List.mem_singleton.mp hd]
      exact side l
  | empty =>
    refine four [.str "empty"] (by simp) fun d hd => ?_
    rw [List.mem_singleton.mp hd]
    exact ni_word (by decide +kernel)
  | lower l =>
    refine four [.str "lower", eSide l] (by simp) fun d hd => ?_
    rcases List.mem_cons.mp hd with rfl | hd
    · exact ni_word (by decide +kernel)
    · rw [List.mem_singleton.mp hd]
      exact side l
  | put c x l =>
    obtain ⟨h1, h2⟩ : c ∈ names L ∧ (x = [] ∨ ∃ d ∈ look L c, x = [d]) := ok
    refine four [.str "put", eC c, eT x, eSide l] (by simp) fun d hd => ?_
    rcases List.mem_cons.mp hd with rfl | hd
    · exact ni_word (by decide +kernel)
    · rcases List.mem_cons.mp hd with rfl | hd
      · exact (ni_letter g h1).mono (by decide) (by decide)
      · rcases List.mem_cons.mp hd with rfl | hd
        · rcases h2 with rfl | ⟨e, he, rfl⟩
          · exact (ni_thing (t := []) (nofun) (by decide)).mono (by decide) (by decide)
          · exact (ni_letter g (g.look_kn h1 e he)).mono (by decide) (by decide)
        · rw [List.mem_singleton.mp hd]
          exact side l
theorem nice_book {B : Book} (g : GoodBook B) : Nice (norm (eBook B)) := by
  show Nice (norm (.tuple [eTab B.tab, .tuple (B.rules.map eRule)]))
  simp only [norm]
  rw [normAll_map]
  refine (ni_tup (n := 2000) (k := 3) (m := 2) (fun d hd => ?_) (by simp)).nice (by decide) (by decide)
  rcases List.mem_cons.mp hd with rfl | hd
  · exact (ni_tab g.tab).mono (by decide) (by decide)
  · rw [List.mem_singleton.mp hd]
    simp only [norm]
    rw [normAll_map, List.map_map]
    refine (ni_tup (n := 300) (k := 1) (m := 4) (fun d hd => ?_) (by rw [List.length_map]; exact g.len)).mono (by decide) (by decide)
    obtain ⟨r, hr, rfl⟩ := List.mem_map.mp hd
    exact ni_rule g.tab (g.rul r hr)
theorem nice_told {t : Thing} {i : Int} (h : ∀ c ∈ t, low c) (hl : t.length ≤ 4) (hi : i.natAbs ≤ 100000) : Nice (.list (normAll [eT t, .int i])) := by
  rw [normAll_map]
  refine (ni_lst (n := 42) (k := 0) (m := 2) (fun d hd => ?_) (by simp)).nice (by decide) (by decide)
  rcases List.mem_cons.mp hd with rfl | hd
  · exact ni_thing h hl
  · rw [List.mem_singleton.mp hd]
    simp only [norm]
    exact (ni_int hi).mono (by decide) (by decide)
/-! ### x[:-1] -/
theorem cut_last (x : Thing) : cutS (tS x) none (some (-1)) = tS x.dropLast := by
  unfold cutS
  rw [HT.sIx_none, List.drop_zero, Nat.sub_zero, tS_len, tS_list]
  have e : HT.sIx x.length x.length (some (-1)) = x.length - 1 := by
    show (if (-1 : Int) < 0 then (-1 + (x.length : Int)).toNat else min (-1 : Int).toNat x.length) = _
    rw [if_pos (by decide)]
    omega
  rw [e, ← List.dropLast_eq_take]
  rfl
section
variable {Hb H : Hp} {ms : Ms} {cs : List Sh} {σ : L2.St} {te ta tb : TE} {K : PySem.W.Frag} {D : Ends} {w : World}
/-- near.index(x) -/
theorem ev_lindex {l : List Thing} {t : Thing} {j : Nat} (ha : EvS ta σ H (.ls (l.map eT))) (hb : EvD tb σ H (eT t)) (hj : l[j]? = some t) (nd : l.Nodup) : EvD (tBM K "list" (rIndex K) ta (tCons tb tNil)) σ H (eI j) := fun H1 e Q q =>
  ha H1 e _ fun x H2 e2 rx => by
    obtain ⟨p, rfl, xs, h1, h2⟩ := rx
    refine ⟨.inl ⟨rfl, xs, SqL.of h1⟩, hb H2 (e.trans e2) _ fun v H3 e3 rv => ?_⟩
    have rv : v = .str (tS t) := rv
    subst rv
    have ex := RpAll.flat (fun d hd => by obtain ⟨y, _, rfl⟩ := List.mem_map.mp hd; rfl) h2
    rw [List.map_map] at ex
    have ex : xs = l.map fun y => V.str (tS y) := ex
    have hat : ∀ (m : Nat) (z : V), xs[m]? = some z → ∃ y, l[m]? = some y ∧ z = .str (tS y) := fun m z hz => by
      rw [ex, List.getElem?_map] at hz
      obtain ⟨y, hy, e⟩ := Option.map_eq_some_iff.mp hz
      exact ⟨y, hy, e.symm⟩
    refine ⟨p, xs, V.str (tS t), j, V.str (tS t), rfl, rfl, SqL.of (e3 _ _ h1), rfl, ?_, by rw [ex, List.getElem?_map, hj]; rfl, ?_, fun m z hm hz => ?_, q _ H3 (e2.trans e3) rfl⟩
    · rw [List.all_eq_true]
      intro z hz
      rw [ex] at hz
      obtain ⟨y, _, rfl⟩ := List.mem_map.mp hz
      rfl
    · show (tS t == tS t) = true
      exact beq_self_eq_true _
    · obtain ⟨y, hy, rfl⟩ := hat m z hz
      show (tS y == tS t) = false
      refine beq_eq_false_iff_ne.mpr fun e => ?_
      have e := tS_inj e
      subst e
      obtain ⟨h1, e1⟩ := List.getElem?_eq_some_iff.mp hy
      obtain ⟨h2, e2⟩ := List.getElem?_eq_some_iff.mp hj
      exact (List.pairwise_iff_getElem.mp nd) m j h1 h2 hm (e1.trans e2.symm)
/-- the feed is made -/
theorem s_setFeed {i : Nat} {a : Addr} {ns : List Int} {ta : TA} (c : Cu H [] cs σ H) (hS : SqL K H a (ns.map V.int)) (hn : ns.length ≤ 63) (ha : ∀ Q : List V → Hp → Prop, Q [.ref a] H → ta σ H Q)
    (k : ∀ p q Hb' σ' H', Ex H Hb' → Cu Hb' [(p, .f q)] (cs.set i (.vl (.ref p))) σ' H' → D.nx σ' H') : tAsg (tCall (spFeed K) [] E0 ta) (gName i) D σ H := by
  refine ha _ ⟨a, ns, by rfl, hS, hn, fun p q H' hp hq hqp e hfd hls => ?_⟩
  have ex : Ex H (hide [p] H') := fun b o h => hideAt (e _ _ h) fun z => by
    rw [List.mem_singleton.mp z, hp] at h
    cases h
  have c1 : Cu (hide [p] H') [(p, .f q)] cs σ H' := by
    refine ⟨hide_ex, fun m hm => ?_, fun m hm => ?_, by simp, c.sl.mono ex⟩
    · rw [List.mem_singleton.mp hm]
      exact hide_in (List.mem_singleton.mpr rfl)
    · rw [List.mem_singleton.mp hm]
      refine ⟨_, hfd, ns, 0, 0, 0, rfl, ?_, by decide, by decide, by decide, hn⟩
      obtain ⟨xs, h1, h2⟩ := hls
      refine ⟨xs, hideAt h1 (fun z => hqp (List.mem_singleton.mp z)), ?_⟩
      rw [RpAll.flat (flat_ints ns) h2]
      exact RpAll.ofFlat (flat_ints ns)
  exact k p q _ _ H' ex (c1.put (s := .vl (.ref p)) rfl)
/-- tuple(sorted(set(a list of draws))) -/
theorem s_setSorted {i : Nat} {tl : TE} {near : List Thing} (c : Cu Hb ms cs σ H) (h : EvGL tl Hb ms cs σ (fun ds => ∃ n : Int, (2 ≤ n ∧ n ≤ 3) ∧ ds.length = n.toNat ∧ ∀ d ∈ ds, d ∈ near.map eT))
    (k : ∀ us Hb' σ' H', Ex Hb Hb' → us ≠ [] → us.Pairwise (· < ·) → us.length ≤ 3 → (∀ u ∈ us, u ∈ near) → Cu Hb' ms (cs.set i (.hd (.tuple (us.map eT)))) σ' H' → D.nx σ' H') :
    tAsg (tCB (fun xs H Q => ∃ p ys, xs = [.ref p] ∧ ((SqL K H p ys ∧ ∀ l, H l = none → Q (.ref l) (upd H l (.tup ys))) ∨ (SqT K H p ys ∧ Q (.ref p) H))) (tCons (tCB (rSortedT w) (tCons (tCB (rSetT w K) (tCons tl tNil)) tNil)) tNil)) (gName i) D σ H := by
  refine h Hb H (Ex.refl _) c (fun v H1 => rSetT w K [v] H1 fun v2 H2 => rSortedT w [v2] H2 fun v3 H3 => ∃ p ys, [v3] = [V.ref p] ∧ ((SqL K H3 p ys ∧ ∀ l, H3 l = none → D.nx (σ.set i (some (.ref l))) (upd H3 l (.tup ys))) ∨ (SqT K H3 p ys ∧ D.nx (σ.set i (some (.ref p))) H3))) fun pl ds Hb4 H4 e4 c4 hP ls => ?_
  obtain ⟨n, ⟨h0, h1⟩, hl, hall⟩ := hP
  obtain ⟨ts, rfl, hts⟩ : ∃ ts : List Thing, ds = ts.map eT ∧ ∀ t ∈ ts, t ∈ near := by
    clear hl ls
    induction ds with
    | nil => exact ⟨[], rfl, nofun⟩
    | cons d ds ih =>
      obtain ⟨ts, rfl, h2⟩ := ih fun e he => hall e (List.mem_cons_of_mem _ he)
      obtain ⟨t, ht, rfl⟩ := List.mem_map.mp (hall d (List.mem_cons_self ..))
      exact ⟨t :: ts, rfl, fun u hu => by
        rcases List.mem_cons.mp hu with rfl | hu
        · exact ht
        · exact h2 u hu⟩
  rw [List.length_map] at hl
  rw [eT_str] at ls
  have hg := ls.strs
  refine ⟨pl, ts.map tS, rfl, SqL.of (c4.ex _ _ hg), by rw [List.length_map]; omega, fun p2 hp2 => ⟨p2, ts.map tS, rfl, upd_same, by rw [List.length_map]; omega, fun ys p3 hs hnd hm hp3 => ⟨p3, ys.map V.str, rfl, .inl ⟨SqL.of upd_same, fun l hl2 => ?_⟩⟩⟩⟩
  obtain ⟨us, rfl⟩ : ∃ us : List Thing, ys = us.map tS := by
    refine ⟨ys.map fun y => y.cps.toList, ?_⟩
    rw [List.map_map]
    conv => lhs; rw [← List.map_id ys]
    apply List.map_congr_left
    intro y hy
    obtain ⟨t, _, rfl⟩ := List.mem_map.mp ((hm y).mp hy)
    show tS t = tS (tS t).cps.toList
    rw [tS_list]
  have hnd2 : us.Nodup := (List.pairwise_map.mp hnd).imp fun {a b} h e => h (by rw [e])
  have hmem : ∀ u, u ∈ us ↔ u ∈ ts := fun u => by
    have := hm (tS u)
    rw [List.mem_map, List.mem_map] at this
    constructor
    · intro hu
      obtain ⟨t, ht, e⟩ := this.mp ⟨u, hu, rfl⟩
      rw [← tS_inj e]
      exact ht
    · intro hu
      obtain ⟨t, ht, e⟩ := this.mpr ⟨u, hu, rfl⟩
      rw [← tS_inj e]
      exact ht
  have hne : us ≠ [] := by
    have : ts ≠ [] := fun z => by
      rw [z] at hl
      simp at hl
      omega
    obtain ⟨t, ht⟩ := List.exists_mem_of_ne_nil _ this
    exact List.ne_nil_of_mem ((hmem t).mpr ht)
  have hlt : us.Pairwise (· < ·) := by
    have := sorted_pw hs
    refine List.Pairwise.imp₂ (fun a b h1 h2 => ?_) this hnd2
    exact (List.le_iff_lt_or_eq.mp h1).resolve_right h2
  have hlen : us.length ≤ 3 := by
    have := List.Nodup.length_le_of_subset hnd2 fun u hu => (hmem u).mp hu
    omega
  have x1 : Ex H4 (L2.upd H4 p2 (SetTO w p2 (ts.map tS))) := Evl.Ex.new hp2
  have x2 := Evl.Ex.new (o := .lst ((us.map tS).map V.str)) hp3
  have x3 := Evl.Ex.new (o := .tup ((us.map tS).map V.str)) hl2
  have xx := x1.trans (x2.trans x3)
  have c5 := c4.rebase xx
  refine k us _ _ _ (e4.trans (c4.exHide xx)) hne hlt hlen (fun u hu => hts u ((hmem u).mp hu)) (c5.put (s := .hd (.tuple (us.map eT))) ⟨l, (us.map tS).map V.str, rfl, .inl (hideAt upd_same (c4.out ?_)), ?_⟩)
  · exact Evl.fresh_back (x1.trans x2) hl2
  · rw [eT_str, ← vOf_strs]
    exact RpAll.ofFlat (flat_strs _)
end
end FF
/-! the law -/
namespace FF
open PySem PySem.Spec PyProof.Rows L2
open Evl (Ex EvT)
def spLaw2 (K : PySem.W.Frag) : Sp := fun vs H Q _ => ∃ (a : Addr) (ns : List Int), vs = [.ref a] ∧ SqL K H a (ns.map V.int) ∧ ns.length ≤ 63 ∧ ∀ H', Q (.bl true) H'
theorem lesser_nil (L : Tab) : (lesser L []).length = 1 := rfl
theorem drop_last_thing {L : Tab} {x : Thing} (h : IsThing L x) : IsThing L x.dropLast := ⟨fun c hc => h.kn c ((List.dropLast_sublist x).subset hc), by
  have := h.len
  rw [List.length_dropLast]
  omega⟩
section
variable {P : Program} {w : World} {K : PySem.W.Frag} {mg : Str → Option Value} {base : Heap}
theorem sc_law : FnScope ["_law_script", "_law_feed_here", "_law_book_here", "_law_x", "_law_lap", "_law_kept", "_law_near", "_law_style", "_law_noted", "_law_counts", "_law_causes", "_law_walk", "_law_test", "_law_told", "_law_z", "_law_turn"] ["_law_script"] (defScope (top 90)) := ⟨rfl, rfl, rfl, by decide +kernel, rfl, by decide +kernel, by decide +kernel⟩
theorem fn_law (T : Txt K mg) {f : Addr} {fd : FuncData} (FD : FunD K d_law.name d_law.qual d_law.params d_law.body d_law.scope (d_law.dvs K) (d_law.kws K) f fd) : FnG P w K mg base 11 f fd ["_law_script"] (spLaw2 K) := by
  refine FunD.okG (k := 10) FD sc_law (fun vs H Q E ⟨_, _, e, _⟩ => by rw [e]; rfl) (fun cdv A outer s H vs Q E hr hgd h => ?_)
  obtain ⟨a, ns, rfl, hS, hn, qk⟩ := h
  have c : Cu H [] [.vl (.ref a), .un, .un, .un, .un, .un, .un, .un, .un, .un, .un, .un, .un, .un, .un, .un] _ H := Cu.entry (N := ["_law_script", "_law_feed_here", "_law_book_here", "_law_x", "_law_lap", "_law_kept", "_law_near", "_law_style", "_law_noted", "_law_counts", "_law_causes", "_law_walk", "_law_test", "_law_told", "_law_z", "_law_turn"]) (ss := [.vl (.ref a)]) (vs := [.ref a]) ⟨rfl, trivial⟩
  refine ⟨_, (pss_cons (ps_set (i := 1) sc_law.nd rfl (by first | exact Or.inl rfl | exact Or.inr rfl) (pe_c (c_law_feed T) hr (by decide) rfl (pa_cons (pv 0) pa_nil)))
  (pss_cons (ps_set (i := 2) sc_law.nd rfl (by first | exact Or.inl rfl | exact Or.inr rfl) (pe_c (c_law_book T) hr (by decide) rfl (pa_cons (pv 1) (pa_cons pe_bl pa_nil))))
  (pss_cons (ps_set (i := 3) sc_law.nd rfl (by first | exact Or.inl rfl | exact Or.inr rfl) (pe_c (c_law_thing T) hr (by decide) rfl (pa_cons (pv 1) (pa_cons (pe_ix (ix_tupK (K := K) rfl) (pv 2) pe_int (fun _ _ => rfl)) (pa_cons pe_int pa_nil)))))
  (pss_cons (ps_for PassesOwn.never rfl (pi_range1 rfl T.range_ (pa_cons pe_int pa_nil)) (pg_name (i := 4) sc_law.nd rfl (by first | exact Or.inl rfl | exact Or.inr rfl)) (pss_one (ps_if (pt_cmpR op_gt (pe_callB (call_len_seqK (K := K) rfl) rfl T.len_ (by decide +kernel) (pa_cons (pe_c (c_law_lesser_things T) hr (by decide) rfl (pa_cons (pe_ix (ix_tupK (K := K) rfl) (pv 2) pe_int (fun _ _ => rfl)) (pa_cons (pv 3) pa_nil))) pa_nil)) pe_int (nomark _)) (pss_one (ps_set (i := 3) sc_law.nd rfl (by first | exact Or.inl rfl | exact Or.inr rfl) (pe_slice sl_str (pv 3) po_none (po_some (pe_un un_neg pe_int))))) pss_nil)))
  (pss_cons (ps_asg (pe_tup (pa_cons (pe_callB (cr_repr (K := K) rfl hgd hr.units) rfl T.repr_ (by decide +kernel) (pa_cons (pv 2) pa_nil)) (pa_cons (pe_c (c_law_lesser_things T) hr (by decide) rfl (pa_cons (pe_ix (ix_tupK (K := K) rfl) (pv 2) pe_int (fun _ _ => rfl)) (pa_cons (pv 3) pa_nil))) (pa_cons (pe_c (c_law_any T) hr (by decide) rfl (pa_cons (pv 1) (pa_cons (pe_lst (pa_cons pe_str (pa_cons pe_str pa_nil))) pa_nil))) (pa_cons pe_bl pa_nil))))) (pg_tupK (K := K) (n := 4) rfl rfl (pgs_cons (pg_name (i := 5) sc_law.nd rfl (by first | exact Or.inl rfl | exact Or.inr rfl)) (pgs_cons (pg_name (i := 6) sc_law.nd rfl (by first | exact Or.inl rfl | exact Or.inr rfl)) (pgs_cons (pg_name (i := 7) sc_law.nd rfl (by first | exact Or.inl rfl | exact Or.inr rfl)) (pgs_cons (pg_name (i := 8) sc_law.nd rfl (by first | exact Or.inl rfl | exact Or.inr rfl)) pgs_nil)))) rfl rfl))
  (pss_cons (ps_for PassesOwn.never rfl (pi_tupK (K := K) rfl (pe_tup (pa_cons pe_bl (pa_cons pe_bl pa_nil)))) (pg_name (i := 8) sc_law.nd rfl (by first | exact Or.inl rfl | exact Or.inr rfl)) (pss_cons (ps_setLc (i := 9) (own := [("_law_z", 14)]) rfl sc_law.nd rfl rfl (sw_true rfl rfl rfl (by decide +kernel)) (pi_listK (K := K) rfl (pv 6)) (blkOk_by (N := ["_law_script", "_law_feed_here", "_law_book_here", "_law_x", "_law_lap", "_law_kept", "_law_near", "_law_style", "_law_noted", "_law_counts", "_law_causes", "_law_walk", "_law_test", "_law_told", "_law_z", "_law_turn"]) (sc := defScope (top 90)) (by decide +kernel)) (by intros; exact (pg_name (i := 14) sc_law.nd rfl (by first | exact Or.inl rfl | exact Or.inr rfl))) (by intros; exact pts_nil) (by intros; exact (pe_c (c_law_count T) hr (by decide) rfl (pa_cons (pe_c (c_law_walk_by T) hr (by decide) rfl (pa_cons (pv 2) (pa_cons (pe_lst (pa_cons (pv 14) pa_nil)) (pa_cons (pv 6) (pa_cons (pv 3) (pa_cons (pv 7) (pa_cons (pv 8) pa_nil))))))) pa_nil))))
  (pss_cons (ps_if (pt_not (pt_val (pe_cG (c_law_same T) hr hgd (by decide) rfl (pa_cons (pe_ck (c_most_tries_rising T) hr (by decide) rfl (pa_cons (pv 2) (pa_cons (pv 3) pa_nil)) (pk_cons (pv 7) (pk_cons (pv 8) pk_nil))) (pa_cons (pe_callB (cr_maxK (K := K) rfl rfl) rfl T.max_ (by decide +kernel) (pa_cons (pv 9) pa_nil)) pa_nil))))) (pss_one (ps_ret pe_bl)) pss_nil)
  (pss_one (ps_for PassesOwn.never rfl (pi_range1 rfl T.range_ (pa_cons pe_int pa_nil)) (pg_name (i := 4) sc_law.nd rfl (by first | exact Or.inl rfl | exact Or.inr rfl)) (pss_cons (ps_set (i := 10) sc_law.nd rfl (by first | exact Or.inl rfl | exact Or.inr rfl) (pe_callTy (call_tuple_ofK (K := K) rfl) rfl T.tuple_ (by decide +kernel) (pa_cons (pe_callB (cr_sortedTK (w := w) rfl rfl) rfl T.sorted_ (by decide +kernel) (pa_cons (pe_callTy (cr_setTK (w := w) (K := K) rfl rfl rfl) rfl T.set_ (by decide +kernel) (pa_cons (pe_lc (own := [("_law_turn", 15)]) rfl sc_law.nd (pi_range1 rfl T.range_ (pa_cons (pe_op op_add pe_int (pe_c (c_law_draw T) hr (by decide) rfl (pa_cons (pv 1) (pa_cons pe_int pa_nil)))) pa_nil)) (blkOk_by (N := ["_law_script", "_law_feed_here", "_law_book_here", "_law_x", "_law_lap", "_law_kept", "_law_near", "_law_style", "_law_noted", "_law_counts", "_law_causes", "_law_walk", "_law_test", "_law_told", "_law_z", "_law_turn"]) (sc := defScope (top 90)) (by decide +kernel)) (by intros; exact (pg_name (i := 15) sc_law.nd rfl (by first | exact Or.inl rfl | exact Or.inr rfl))) (by intros; exact pts_nil) (by intros; exact (pe_c (c_law_any T) hr (by decide) rfl (pa_cons (pv 1) (pa_cons (pv 6) pa_nil))))) pa_nil)) pa_nil)) pa_nil)))
  (pss_cons (ps_set (i := 11) sc_law.nd rfl (by first | exact Or.inl rfl | exact Or.inr rfl) (pe_c (c_law_walk_by T) hr (by decide) rfl (pa_cons (pv 2) (pa_cons (pv 10) (pa_cons (pv 6) (pa_cons (pv 3) (pa_cons (pv 7) (pa_cons (pv 8) pa_nil))))))))
  (pss_cons (ps_if (pt_cmpR op_ne (pe_c (c_law_count T) hr (by decide) rfl (pa_cons (pv 11) pa_nil)) (pe_ix (ix_listK (K := K) rfl) (pv 9) (pe_bmK (K := K) rfl PySem.F.plainAttrs_list PySem.F.slot_list_index PySem.F.type_list_index (mt_indexK (K := K) rfl) (pv 6) (pa_cons (pe_ix (ix_tupK (K := K) rfl) (pe_ix (ix_listK (K := K) rfl) (pv 11) (pe_un un_neg pe_int) (fun _ _ => rfl)) pe_int (fun _ _ => rfl)) pa_nil)) (fun _ _ => rfl)) (nomark _)) (pss_one (ps_ret pe_bl)) pss_nil)
  (pss_cons (ps_set (i := 12) sc_law.nd rfl (by first | exact Or.inl rfl | exact Or.inr rfl) (pe_tup (pa_cons pe_str (pa_cons (pv 10) pa_nil))))
  (pss_cons (ps_set (i := 13) sc_law.nd rfl (by first | exact Or.inl rfl | exact Or.inr rfl) (pe_lst (pa_cons (pe_ck (c_last_of T) hr (by decide) rfl (pa_cons (pv 2) (pa_cons (pv 12) (pa_cons (pv 3) pa_nil))) (pk_cons (pv 7) (pk_cons (pv 8) pk_nil))) pa_nil)))
  (pss_cons (ps_expr (pe_bmK (K := K) rfl PySem.F.plainAttrs_list PySem.F.slot_list_append PySem.F.type_list_append mt_append (pv 13) (pa_cons (pe_ck (c_tries_of T) hr (by decide) rfl (pa_cons (pv 2) (pa_cons (pv 12) (pa_cons (pv 3) pa_nil))) (pk_cons (pv 7) (pk_cons (pv 8) pk_nil))) pa_nil)))
  (pss_one (ps_if (PW.pt (pw_or (pt_not (pt_val (pe_cG (c_law_same T) hr hgd (by decide) rfl (pa_cons (pv 13) (pa_cons (pe_lst (pa_cons (pe_ix (ix_tupK (K := K) rfl) (pe_ix (ix_listK (K := K) rfl) (pv 11) (pe_un un_neg pe_int) (fun _ _ => rfl)) pe_int (fun _ _ => rfl)) (pa_cons (pe_c (c_law_count T) hr (by decide) rfl (pa_cons (pv 11) pa_nil)) pa_nil))) pa_nil))))) (pw_or1 (pt_cmpR op_gt (pe_ix (ix_listK (K := K) rfl) (pv 13) pe_int (fun _ _ => rfl)) (pe_callB (cr_maxK (K := K) rfl rfl) rfl T.max_ (by decide +kernel) (pa_cons (pv 9) pa_nil)) (nomark _))))) (pss_one (ps_ret pe_bl)) pss_nil)))))))))))))
  (pss_one (ps_ret (pe_and (pe_cmpR op_ge (pe_c (c0_most_tries_rising T) hr (by decide) rfl (pa_cons (pv 2) (pa_cons (pv 3) pa_nil))) (pe_callB (call_len_seqK (K := K) rfl) rfl T.len_ (by decide +kernel) (pa_cons (pe_c (c_law_steps T) hr (by decide) rfl (pa_cons (pv 2) (pa_cons (pv 3) (pa_cons pe_int pa_nil)))) pa_nil)) (nomark _)) (pe_one (pe_cmpR op_eq (pe_callB (cr_repr (K := K) rfl hgd hr.units) rfl T.repr_ (by decide +kernel) (pa_cons (pv 2) pa_nil)) (pv 5) (nomark _)))))))))))), ?_⟩
  refine st_seq ?_
  refine s_setFeed (i := 1) c hS hn (fun Q q => ⟨.ref a, c.slot 0 rfl, q⟩) fun p q Hb1 σ1 H1 e1 c1 => ?_
  dsimp only
  refine st_seq ?_
  refine s_setG (P := fun r => ∃ B, r = eBook B ∧ GoodBook B ∧ IsTab B.tab) c1 (g_call (k := 0) (ss := [.hd (.bool true)]) rfl (fun Hb1 H1 e1 c1 => ea_vl c1 (i := 1) rfl (ea_cons ev_bl ea_nil)) rfl ⟨rfl, rfl⟩) fun r2 Hb2 σ2 H2 e2 hP2 c2 => ?_
  obtain ⟨B, rfl, gb, it⟩ := hP2
  have c2 : Cu Hb2 [(p, .f q)] [.vl (.ref a), .vl (.ref p), .hd (eBook B), .un, .un, .un, .un, .un, .un, .un, .un, .un, .un, .un, .un, .un] σ2 H2 := c2
  dsimp only
  refine st_seq ?_
  refine s_setG (P := fun r => ∃ t, r = eT t ∧ IsThing B.tab t) c2 (g_call (k := 0) (ss := [.hd (eTab B.tab), .hd (.int 4)]) rfl (fun Hb1 H1 e1 c1 => ea_vl c1 (i := 1) rfl (ea_cons (ev_ixT (i := 0) (d := eTab B.tab) (c1.var 2) ev_int rfl) (ea_cons ev_int ea_nil))) rfl ⟨B.tab, rfl, gb.tab, it.ne, rfl⟩) fun r3 Hb3 σ3 H3 e3 hP3 c3 => ?_
  obtain ⟨x0, rfl, ix0⟩ := hP3
  have c3 : Cu Hb3 [(p, .f q)] [.vl (.ref a), .vl (.ref p), .hd (eBook B), .hd (eT x0), .un, .un, .un, .un, .un, .un, .un, .un, .un, .un, .un, .un] σ3 H3 := c3
  dsimp only
  refine st_seq ?_
  refine s_for c3 (ei_rng1 (n := 4) (ea_cons ev_int ea_nil) (by decide) (by decide)) (fun d _ => tg_name) (fun i cs ms => ∃ (x : Thing) (s4 : Sh), cs = [.vl (.ref a), .vl (.ref p), .hd (eBook B), .hd (eT x), s4, .un, .un, .un, .un, .un, .un, .un, .un, .un, .un, .un] ∧ ms = [(p, .f q)] ∧ IsThing B.tab x ∧ ((lesser B.tab x).length ≤ 40 ∨ x.length + i ≤ 4)) ⟨x0, _, rfl, rfl, ix0, .inr ix0.len⟩ ?_ ?_
  · rintro Hs es i d Hb4 ms4 cs4 σ4 H4 N4 hd e4 c4 em4 ⟨x, s4, rfl, rfl, ix, hx⟩ hN4
    have c4 : Cu Hb4 [(p, .f q)] [.vl (.ref a), .vl (.ref p), .hd (eBook B), .hd (eT x), .hd d, .un, .un, .un, .un, .un, .un, .un, .un, .un, .un, .un] σ4 H4 := c4
    refine s_if c4 (et_test (ev_gt (ev_lenL (ds := (lesser B.tab x).map eT) (ef_call0 (ea_cons (ev_ixT (i := 0) (d := eTab B.tab) (c4.var 2) ev_int rfl) (ea_cons (c4.var 3) ea_nil)) ⟨B.tab, x, rfl, gb.tab, ix, rfl⟩).s) ev_int)) (fun hb H5 e5 c5 => ?_) (fun hb H5 e5 c5 => ?_)
    · have hb := of_decide_eq_true hb
      rw [List.length_map] at hb
      have hx2 : x.length + i ≤ 4 := hx.resolve_left (by omega)
      have hne : x.length ≠ 0 := fun z => by
        have : x = [] := List.length_eq_zero_iff.mp z
        rw [this, lesser_nil] at hb
        omega
      refine s_set (d := eT x.dropLast) c5 (ev_is (ev_cutS (z := tS x) (lo := none) (hi := some (-1)) (c5.var 3) eo_none (eo_some (ev_neg ev_int)) (by rw [tS_len]; omega)) (congrArg PyData.str (cut_last x))) fun Hb6 σ6 H6 e6 c6 => ?_
      exact hN4 Hb6 _ _ _ _ (e4.trans e6) c6 em4 ⟨x.dropLast, _, rfl, rfl, drop_last_thing ix, .inr (by rw [List.length_dropLast]; omega)⟩
    · have hb := of_decide_eq_false hb
      rw [List.length_map] at hb
      exact hN4 Hb4 _ _ _ _ e4 c5 em4 ⟨x, _, rfl, rfl, ix, .inl (by omega)⟩
  rintro Hb4 ms4 cs4 σ4 H4 e4 c4 em4 ⟨x, s4, rfl, rfl, ix, hx⟩
  have hx40 : (lesser B.tab x).length ≤ 40 := by
    rcases hx with h | h
    · exact h
    · have h : x.length + 4 ≤ 4 := h
      have : x = [] := List.length_eq_zero_iff.mp (by omega)
      rw [this, lesser_nil]
      decide
  obtain ⟨near, hnear⟩ : ∃ near, near = lesser B.tab x := ⟨_, rfl⟩
  obtain ⟨r, hg, hrl, hrnd, hrm⟩ := grow_lesser it.fine ix hx40
  have wok : ∀ (on nt : Bool) (us : List Thing), us ≠ [] → (∀ u ∈ us, u ∈ near) → WalkOk B x on nt us := fun on nt us h1 h2 => walk_ok gb it.fine ix on nt h1 fun u hu => lesser_mem.mp (by rw [← hnear]; exact h2 u hu)
  have nth : ∀ u ∈ near, IsThing B.tab u := fun u hu => Em.thing it.fine (lesser_mem.mp (by rw [← hnear]; exact hu)) ix
  have nnd : near.Nodup := by rw [hnear]; exact lesser_nodup x
  have nl : near.length ≤ 40 := by rw [hnear]; exact hx40
  have nem : ∀ u, Em B.tab u x → u ∈ near := fun u hu => by rw [hnear]; exact lesser_mem.mpr hu
  have nne : near ≠ [] := List.ne_nil_of_mem (nem x (.refl _))
  have hrne : srt r ≠ [] := List.ne_nil_of_mem ((srt_perm r).mem_iff.mpr ((hrm x).mpr (.refl _)))
  have hmax : ∀ f : Thing → Int, maxOf ((srt r).map f) = maxOf (near.map f) := fun f => max_same hrne fun t => by
    rw [(srt_perm r).mem_iff, hrm t, hnear, lesser_mem]
  have most : ∀ (on nt : Bool), domMost [.hd (eBook B), .hd (eT x), .hd (eMan on), .hd (.bool nt)] (.int (maxOf (near.map fun z => cnt (rowsOf B x on nt [z])))) := fun on nt => by
    refine ⟨B, x, on, nt, 1000, r, fun z => rowsOf B x on nt [z], rfl, gb, ix, hg, by omega, Nat.le_refl _, fun z hz => ?_, ?_⟩
    · have hz2 := nem z ((hrm z).mp hz)
      exact ⟨nth z hz2, (wok on nt [z] (List.cons_ne_nil _ _) fun u hu => by rw [List.mem_singleton.mp hu]; exact hz2).walks⟩
    · rw [hmax]
  have one : ∀ (on nt : Bool) (z : Thing), z ∈ near → WalkOk B x on nt [z] := fun on nt z hz => wok on nt [z] (List.cons_ne_nil _ _) fun u hu => by rw [List.mem_singleton.mp hu]; exact hz
  have small : ∀ (on nt : Bool), (maxOf (near.map fun z => cnt (rowsOf B x on nt [z]))).natAbs ≤ 100000 := fun on nt => by
    obtain ⟨z, hz, e⟩ := List.mem_map.mp (maxOf_mem (ns := near.map fun z => cnt (rowsOf B x on nt [z])) (by rw [List.length_map]; exact List.length_pos_iff.mpr nne))
    rw [← e]
    have h1 := (one on nt z hz).le
    have h2 := cnt_nn (rowsOf B x on nt [z])
    omega
  have nice := nice_book gb
  dsimp only
  refine st_seq ?_
  refine s_asgTup (la_hd c4 (ev_reprT (ds := [eTab B.tab, .tuple (B.rules.map eRule)]) (c4.var 2) nice) fun v5 Hb5 H5 e5 c5 rv5 => la_ls (ds := near.map eT) c5 (ef_call0 (ea_cons (ev_ixT (i := 0) (d := eTab B.tab) (c5.var 2) ev_int rfl) (ea_cons (c5.var 3) ea_nil)) ⟨B.tab, x, rfl, gb.tab, ix, by rw [hnear]⟩) fun p6 Hb6 H6 e6 c6 r6 => la_G c6 (P := fun r => r ∈ [PyData.str "again", PyData.str "on"]) (g_call (k := 0) (ss := [.ls [.str "again", .str "on"]]) rfl (fun Hb1 H1 e1 c1 => ea_vl c1 (i := 1) rfl (ea_cons (ef_lst (ds := [.str "again", .str "on"]) (ea_cons ev_str (ea_cons ev_str ea_nil)) (by show 2 ≤ 100000; decide)).s ea_nil)) rfl ⟨_, _, .inl rfl, rfl, List.cons_ne_nil _ _, by show 2 ≤ 1000; decide, rfl⟩) fun v7 r7 Hb7 H7 e7 c7 hP7 rv7 => la_hd c7 (d := .bool false) ev_bl fun v8 Hb8 H8 e8 c8 rv8 => la_nil ⟨by show 4 ≤ sizeLine; decide, fun Tt hT => ⟨Tt, _, rfl, .inl (.inl upd_same), rfl, _, _, rfl, _, _, rfl, _, _, rfl, _, _, rfl, rfl, ?_⟩⟩)
  obtain ⟨on, rfl⟩ : ∃ on, r7 = eMan on := by
    rcases List.mem_cons.mp hP7 with e | h
    · exact ⟨false, e⟩
    · exact ⟨true, List.mem_singleton.mp h⟩
  obtain ⟨kp, hkp⟩ : ∃ kp, kp = PyData.shown (norm (.tuple [eTab B.tab, .tuple (B.rules.map eRule)])) := ⟨_, rfl⟩
  rw [← hkp] at rv5
  have c9 : Cu Hb8 [(p, .f q)] [.vl (.ref a), .vl (.ref p), .hd (eBook B), .hd (eT x), s4, .hd (.str kp), .ls (near.map eT), .hd (eMan on), .hd (.bool false), .un, .un, .un, .un, .un, .un, .un] _ _ :=
    ((((c8.ext (Evl.Ex.new (o := .tup [v5, .ref p6, v7, v8]) hT)).put (i := 5) (s := .hd (.str kp)) (v := v5) (Rp.mono (Ex.pr (e6.trans (e7.trans e8))) rv5)).put (i := 6) (s := .ls (near.map eT)) (v := .ref p6) ⟨p6, rfl, r6.mono (e7.trans e8)⟩).put (i := 7) (s := .hd (eMan on)) (v := v7) (Rp.mono (Ex.pr e8) rv7)).put (i := 8) (s := .hd (.bool false)) (v := v8) rv8
  dsimp only
  refine st_seq ?_
  refine s_for c9 (ei_tup (ds := [.bool false, .bool true]) (ev_tup (ds := [.bool false, .bool true]) (ea_cons ev_bl (ea_cons ev_bl ea_nil)) (by show 2 ≤ 100000; decide)) fun H9 e9 b hb o ho => ?_) (fun d _ => tg_name) (fun i cs ms => ∃ (s4 s8 s9 s10 s11 s12 s13 : Sh), cs = [.vl (.ref a), .vl (.ref p), .hd (eBook B), .hd (eT x), s4, .hd (.str kp), .ls (near.map eT), .hd (eMan on), s8, s9, s10, s11, s12, s13, .un, .un] ∧ ms = [(p, .f q)]) ⟨_, _, _, _, _, _, _, rfl, rfl⟩ ?_ ?_
  · have hb := List.mem_singleton.mp hb
    subst hb
    obtain ⟨fes, h1, _⟩ := c9.feed (k := 0) rfl
    rw [e9 _ _ h1] at ho
    cases ho
    rfl
  · rintro Hs es i d Hb10 ms10 cs10 σ10 H10 N10 hd e10 c10 em10 ⟨s4, s8, s9, s10, s11, s12, s13, rfl, rfl⟩ hN10
    obtain ⟨nt, rfl⟩ : ∃ nt, d = .bool nt := by
      rcases List.mem_cons.mp (List.mem_of_getElem? hd) with e | h
      · exact ⟨false, e⟩
      · exact ⟨true, List.mem_singleton.mp h⟩
    have c10 : Cu Hb10 [(p, .f q)] [.vl (.ref a), .vl (.ref p), .hd (eBook B), .hd (eT x), s4, .hd (.str kp), .ls (near.map eT), .hd (eMan on), .hd (.bool nt), s9, s10, s11, s12, s13, .un, .un] σ10 H10 := c10
    refine st_seq ?_
    refine s_setF (ds := (near.map fun z => cnt (rowsOf B x on nt [z])).map PyData.int) c10 (ef_is (ef_map c10 (ei_lst (ex_0 (c10.var 6))) (fun d _ => tg_name) (by decide) (fun d => .int (cnt (rowsOf B x on nt [(sOf d).cps.toList]))) (fun d hd σ' H' c' => ?_) ?_) ?_) fun Hb11 σ11 H11 e11 c11 => ?_
    · obtain ⟨z, hz, rfl⟩ := List.mem_map.mp hd
      have wk := one on nt z hz
      have e0 : (sOf (eT z)).cps.toList = z := tS_list z
      rw [e0]
      exact ev_call0 (ea_cons (ef_call0 (ea_cons (c'.var 2) (ea_cons (ef_lst (ds := [eT z]) (ea_cons (c'.var 14) ea_nil) (by show 1 ≤ 100000; decide)).s (ea_cons (c'.var 6) (ea_cons (c'.var 3) (ea_cons (c'.var 7) (ea_cons (c'.var 8) ea_nil)))))) ⟨B, [z], near, x, on, nt, 1000, rowsOf B x on nt [z], .ls [eT z], .inl rfl, rfl, gb, ix, fun u hu => by rw [List.mem_singleton.mp hu]; exact nth z hz, nth, by show 1 ≤ 1000; decide, by omega, Nat.le_refl _, by rw [hnear]; exact wk.law, wk.le, wk.len, rfl⟩).s ea_nil) ⟨rowsOf B x on nt [z], rfl, wk.len, rfl⟩
    · rw [List.length_map]
      omega
    · rw [List.map_map, List.map_map]
      congr 1
    have c11 : Cu Hb11 [(p, .f q)] [.vl (.ref a), .vl (.ref p), .hd (eBook B), .hd (eT x), s4, .hd (.str kp), .ls (near.map eT), .hd (eMan on), .hd (.bool nt), .ls ((near.map fun z => cnt (rowsOf B x on nt [z])).map PyData.int), s10, s11, s12, s13, .un, .un] σ11 H11 := c11
    have cl : 0 < (near.map fun z => cnt (rowsOf B x on nt [z])).length := by rw [List.length_map]; exact List.length_pos_iff.mpr nne
    dsimp only
    refine st_seq ?_
    refine s_if c11 (b := false) (Evl.et_is (Evl.et_not (et_B (ev_call0 (ea_cons (ev_callN (d := .int (maxOf (near.map fun z => cnt (rowsOf B x on nt [z])))) (ea_cons (c11.var 2) (ea_cons (c11.var 3) ea_nil)) (ea_cons (c11.var 7) (ea_cons (c11.var 8) ea_nil)) (most on nt) rfl rfl) (ea_cons (ev_max (c11.var 9) cl) ea_nil)) ⟨rfl, .inl ⟨_, rfl, small on nt⟩⟩))) rfl) (nofun) (fun _ H12 e12 c12 => ?_)
    dsimp only [tNext]
    refine s_for c12 (ei_rng1 (n := 3) (ea_cons ev_int ea_nil) (by decide) (by decide)) (fun d _ => tg_name) (fun i cs ms => ∃ (s4 s10 s11 s12 s13 : Sh), cs = [.vl (.ref a), .vl (.ref p), .hd (eBook B), .hd (eT x), s4, .hd (.str kp), .ls (near.map eT), .hd (eMan on), .hd (.bool nt), .ls ((near.map fun z => cnt (rowsOf B x on nt [z])).map PyData.int), s10, s11, s12, s13, .un, .un] ∧ ms = [(p, .f q)]) ⟨_, _, _, _, _, rfl, rfl⟩ ?_ ?_
    · rintro Hs3 es3 j d Hb13 ms13 cs13 σ13 H13 N13 hd3 e13 c13 em13 ⟨s4, s10, s11, s12, s13, rfl, rfl⟩ hN13
      have c13 : Cu Hb13 [(p, .f q)] [.vl (.ref a), .vl (.ref p), .hd (eBook B), .hd (eT x), .hd d, .hd (.str kp), .ls (near.map eT), .hd (eMan on), .hd (.bool nt), .ls ((near.map fun z => cnt (rowsOf B x on nt [z])).map PyData.int), s10, s11, s12, s13, .un, .un] σ13 H13 := c13
      refine st_seq ?_
      refine s_setSorted (near := near) c13 (g_lc (P := fun d => d ∈ near.map eT) (j := 15) (vs := [15]) (Pn := fun i => 2 ≤ i ∧ i ≤ 3) (List.mem_singleton.mpr rfl)
        ((g_add (P := fun r => ∃ i : Int, r = .int i ∧ 0 ≤ i ∧ i < 2) (fun _ _ _ _ => ev_int (i := 2)) (g_call (k := 0) (ss := [.hd (.int 2)]) rfl (fun Hb1 H1 e1 c1 => ea_vl c1 (i := 1) rfl (ea_cons ev_int ea_nil)) rfl ⟨2, rfl, by decide, by decide, rfl⟩) (fun r ⟨i, e, _⟩ => ⟨i, e⟩)).imp fun r ⟨i, ⟨j, e, h0, h1⟩, e2⟩ => ⟨2 + i, by cases e; omega, e2⟩)
        (fun i h => by omega) (fun D acc i σ' Hb' => g_call (k := 0) (ss := [.ls (near.map eT)]) rfl (fun Hb1 H1 e1 c1 => ea_vl c1 (i := 1) rfl (ea_cons (c1.var 6) ea_nil)) rfl ⟨_, _, .inl rfl, rfl, by simpa using nne, by rw [List.length_map]; omega, rfl⟩)) fun us Hb14 σ14 H14 e14 hne hup hul hun c14 => ?_
      have c14 : Cu Hb14 [(p, .f q)] [.vl (.ref a), .vl (.ref p), .hd (eBook B), .hd (eT x), .hd d, .hd (.str kp), .ls (near.map eT), .hd (eMan on), .hd (.bool nt), .ls ((near.map fun z => cnt (rowsOf B x on nt [z])).map PyData.int), .hd (.tuple (us.map eT)), s11, s12, s13, .un, .un] σ14 H14 := c14
      have wk := wok on nt us hne hun
      obtain ⟨rs, z, t, hrs, hzx, hzr⟩ := wk.last
      have hz := nem z hzx
      have gc : GoodCauses B.tab us := ⟨hne, fun u hu => nth u (hun u hu), hup, by omega⟩
      have iz := nth z hz
      obtain ⟨jz, hjz⟩ := List.getElem?_of_mem hz
      have hwl : atI ((rowsOf B x on nt us).map eTry) (-1) = some (eTry (z, t)) := by
        rw [hrs, List.map_append]
        exact atI_last _ _
      dsimp only
      refine st_seq ?_
      refine s_setF (ds := (rowsOf B x on nt us).map eTry) c14 (ef_call0 (ea_cons (c14.var 2) (ea_cons (c14.var 10) (ea_cons (c14.var 6) (ea_cons (c14.var 3) (ea_cons (c14.var 7) (ea_cons (c14.var 8) ea_nil)))))) ⟨B, us, near, x, on, nt, 1000, rowsOf B x on nt us, .hd (.tuple (us.map eT)), .inr rfl, rfl, gb, ix, gc.th, nth, by omega, by omega, Nat.le_refl _, by rw [hnear]; exact wk.law, wk.le, wk.len, rfl⟩) fun Hb15 σ15 H15 e15 c15 => ?_
      have c15 : Cu Hb15 [(p, .f q)] [.vl (.ref a), .vl (.ref p), .hd (eBook B), .hd (eT x), .hd d, .hd (.str kp), .ls (near.map eT), .hd (eMan on), .hd (.bool nt), .ls ((near.map fun z => cnt (rowsOf B x on nt [z])).map PyData.int), .hd (.tuple (us.map eT)), .ls ((rowsOf B x on nt us).map eTry), s12, s13, .un, .un] σ15 H15 := c15
      dsimp only
      refine st_seq ?_
      refine s_if c15 (b := false) (et_test (ev_is (ev_neI (a := cnt (rowsOf B x on nt us)) (b := cnt (rowsOf B x on nt us)) (ev_call0 (ea_cons (c15.var 11) ea_nil) ⟨rowsOf B x on nt us, rfl, wk.len, rfl⟩) (ev_ixL (i := (jz : Int)) (c15.var 9) (ev_lindex (l := near) (t := z) (c15.var 6) (ev_ixT (ds := [eT z, eI t]) (i := 0) (ev_ixL (d := eTry (z, t)) (c15.var 11) (ev_neg ev_int) hwl) ev_int rfl) hjz nnd) (atI_nat (by rw [List.getElem?_map, List.getElem?_map, hjz, ← hzr]; rfl)))) (by rw [decide_eq_true rfl]; rfl))) (nofun) (fun _ H16 e16 c16 => ?_)
      dsimp only [tNext]
      refine st_seq ?_
      refine s_set (d := eTest us) c16 (ev_tup (ds := [.str "causes", .tuple (us.map eT)]) (ea_cons ev_str (ea_cons (c16.var 10) ea_nil)) (by show 2 ≤ 100000; decide)) fun Hb17 σ17 H17 e17 c17 => ?_
      dsimp only
      refine st_seq ?_
      refine s_setM (ds := [eT z]) c17 (ef_lst (ds := [eT z]) (ea_cons (ev_callN (d := eT z) (ea_cons (c17.var 2) (ea_cons (c17.var 12) (ea_cons (c17.var 3) ea_nil))) (ea_cons (c17.var 7) (ea_cons (c17.var 8) ea_nil)) ⟨B, us, x, on, nt, rs, z, t, rfl, gb, gc, ix, by rw [← hrs]; exact wk.walks, rfl⟩ rfl rfl) ea_nil) (by show 1 ≤ 100000; decide)) fun pt Hb18 σ18 H18 e18 hpt c18 => ?_
      have c18 : Cu Hb18 [(p, .f q), (pt, .l [eT z])] [.vl (.ref a), .vl (.ref p), .hd (eBook B), .hd (eT x), .hd d, .hd (.str kp), .ls (near.map eT), .hd (eMan on), .hd (.bool nt), .ls ((near.map fun z => cnt (rowsOf B x on nt [z])).map PyData.int), .hd (.tuple (us.map eT)), .ls ((rowsOf B x on nt us).map eTry), .hd (eTest us), .vl (.ref pt), .un, .un] σ18 H18 := c18
      dsimp only
      refine st_seq ?_
      refine s_app (d := .int (cnt (rowsOf B x on nt us))) c18 (i := 13) rfl (k := 1) rfl (ev_callN (ea_cons (c18.var 2) (ea_cons (c18.var 12) (ea_cons (c18.var 3) ea_nil))) (ea_cons (c18.var 7) (ea_cons (c18.var 8) ea_nil)) ⟨B, us, x, on, nt, rowsOf B x on nt us, rfl, gb, gc, ix, wk.walks, rfl⟩ rfl rfl) (by show 1 ≤ 100000; decide) fun H19 c19 => ?_
      have c19 : Cu Hb18 ([(p, .f q)] ++ [(pt, MC.l [eT z, .int (cnt (rowsOf B x on nt us))])]) [.vl (.ref a), .vl (.ref p), .hd (eBook B), .hd (eT x), .hd d, .hd (.str kp), .ls (near.map eT), .hd (eMan on), .hd (.bool nt), .ls ((near.map fun z => cnt (rowsOf B x on nt [z])).map PyData.int), .hd (.tuple (us.map eT)), .ls ((rowsOf B x on nt us).map eTry), .hd (eTest us), .vl (.ref pt), .un, .un] σ18 H19 := c19
      have hle : cnt (rowsOf B x on nt us) ≤ maxOf (near.map fun z => cnt (rowsOf B x on nt [z])) := by
        rw [← hzr]
        exact maxOf_ge (List.mem_map.mpr ⟨z, hz, rfl⟩)
      have hnn := cnt_nn (rowsOf B x on nt us)
      have hup2 := wk.le
      dsimp only
      refine s_if c19 (b := false) (Evl.et_is (Evl.et_or (a := false) (b := false) (Evl.et_is (Evl.et_not (et_B (ev_call0 (ea_cons (c19.lvar 13 1) (ea_cons (ef_lst (ds := [eT z, .int (cnt (rowsOf B x on nt us))]) (ea_cons (ev_ixT (ds := [eT z, eI t]) (i := 0) (ev_ixL (d := eTry (z, t)) (c19.var 11) (ev_neg ev_int) hwl) ev_int rfl) (ea_cons (ev_call0 (ea_cons (c19.var 11) ea_nil) ⟨rowsOf B x on nt us, rfl, wk.len, rfl⟩) ea_nil)) (by show 2 ≤ 100000; decide)).s ea_nil)) ⟨rfl, .inr ⟨_, rfl, nice_told (gb.tab.low iz) iz.len (by omega)⟩⟩))) rfl) fun _ => et_test (ev_is (ev_gt (ev_ixL (i := 1) (d := .int (cnt (rowsOf B x on nt us))) (c19.lvar 13 1) ev_int rfl) (ev_max (c19.var 9) cl)) (congrArg PyData.bool (decide_eq_false (by omega))))) rfl) (nofun) (fun _ H20 e20 c20 => ?_)
      exact hN13 Hb18 _ _ _ _ (e13.trans (e14.trans (e15.trans (e17.trans e18)))) c20.drop em13 ⟨_, _, _, _, _, rfl, rfl⟩
    · rintro Hb13 ms13 cs13 σ13 H13 e13 c13 em13 ⟨s4, s10, s11, s12, s13, rfl, rfl⟩
      exact hN10 Hb13 _ _ _ _ (e10.trans (e11.trans e13)) c13 em10 ⟨_, _, _, _, _, _, _, rfl, rfl⟩
  · rintro Hb10 ms10 cs10 σ10 H10 e10 c10 em10 ⟨s4, s8, s9, s10, s11, s12, s13, rfl, rfl⟩
    have ih := self_rows gb it.fine ix
    have hge : ((steps B x 0).length : Int) ≤ maxOf (near.map fun z => cnt (rowsOf B x false false [z])) := by
      rw [← ih]
      exact maxOf_ge (List.mem_map.mpr ⟨x, nem x (.refl _), rfl⟩)
    dsimp only
    refine s_ret (s := .hd (.bool true)) (ev_is (ev_and (a := true) (b := true) (ev_is (ev_ge (ev_call (es := [.hd (.str "again"), .hd (.bool false)]) (d := .int (maxOf (near.map fun z => cnt (rowsOf B x false false [z])))) (ea_cons (c10.var 2) (ea_cons (c10.var 3) ea_nil)) (most false false) (fun _ => ⟨rfl, rfl, trivial⟩)) (ev_lenL (ds := (steps B x 0).map eTry) (ef_call0 (ea_cons (c10.var 2) (ea_cons (c10.var 3) (ea_cons (ev_int (i := 0)) ea_nil))) ⟨B, x, 0, rfl, gb, ix, Nat.zero_le _, rfl⟩).s)) (congrArg PyData.bool (decide_eq_true (by rw [List.length_map]; exact hge)))) fun _ => ev_is (ev_eqS (ev_reprT (ds := [eTab B.tab, .tuple (B.rules.map eRule)]) (c10.var 2) nice) (c10.var 5)) (congrArg PyData.bool (decide_eq_true hkp.symm))) rfl) fun v H' e rv => ?_
    have rv : v = .bl true := rv
    subst rv
    exact qk H'
end
end FF
/-! the head: the top's run, its facts -/
namespace FF
open PySem PySem.Spec PyProof.Rows L2
abbrev R : PySem.W.OpenRow := PySem.W.OpenLaw.row PySem.Challenge.rw_firstfailing_k52_whole_most_tries_rising
def ex (K : PySem.W.Frag) : Bool := He.tupB K "THING_TESTS" [.str "causes", .str "only", .str "but"] && He.tupB K "MANNERS" [.str "again", .str "on"]
abbrev hk : PySem.W.Hook := He.hookX 3 fa fn [] [] ex
def ob (s : PySem.W.SharedT) : He.AlX := He.obsX 3 fa fn [] [] ex (HandSHeadRun.getT s)
theorem ob_eq (s : PySem.W.SharedT) : ob s = hk.obs s.abs := He.obsX_eq (HandSHeadRun.getT_eq s)
def loose0 : List PySem.Str := ["FailError", "BookError", "NotUsable", "NotFalling", "NotEnding", "LOWERCASE", "THING_TESTS", "is_letter", "is_thing", "is_rising_row", "is_things", "is_letter_set", "is_pair", "is_test", "reached_letters", "MANNERS", "want", "want_stepusable", "known_letters", "known_letters_stepusable", "is_thing_of", "is_thing_of_stepusable", "is_test_of", "want_thing", "want_thing_stepusable", "want_test", "want_manner", "want_notes", "places_of", "dropped"]
def loose1 : List PySem.Str := ["halved", "lowered", "put_results", "results_of", "steps_from", "letters_under", "falling_fault", "want_falling", "want_usable", "known_letters_usable", "is_thing_of_usable", "want_thing_usable", "next_ones", "lies_at_most", "is_at_most", "next_ones_below", "things_at_most", "has_lower", "words_given", "ring_of", "want_ending", "does_fail", "want_walk", "gone_on", "walked", "walk_of", "last_of", "tries_of", "most_tries_rising", "_law_feed"]
def loose2 : List PySem.Str := ["_law_draw", "_law_any", "_law_letters", "_law_rule", "_law_thing", "_law_book", "_law_results", "_law_steps", "_law_below", "_law_is_at_most", "_law_lesser_things", "_law_walked", "_law_same", "_law_walk_by", "_law_count"]
def loose : List PySem.Str := loose0 ++ loose1 ++ loose2
theorem run (w : World) : HandSHeadRun.RunEq R (PySem.W.view R.prog [90]) hk ob 30000 loose w := by
  intro os
  kernel_rfl
theorem fn_none : (fn.all fun d => d.at_.2.isNone) = true := by decide +kernel
theorem fa_at (i : Nat) {d : He.DefD} (h : fn[i]? = some d) : fa[i]? = some (He.Fa.glo d.at_.1) := by
  have hi : i < fn.length := (List.getElem?_eq_some_iff.mp h).1
  have h1 : (fn.map fun d => He.Fa.glo d.at_.1)[i]? = some (He.Fa.glo d.at_.1) := by rw [List.getElem?_map, h]; rfl
  unfold fa
  rw [List.append_assoc, List.getElem?_append_left (by rw [List.length_map]; exact hi)]
  exact h1
theorem txt_of {K : PySem.W.Frag} {h : Heap} {mg : Str → Option Value} {w : World} (X : K.In h) (G : h.Ns mainGlobals mg) (c : He.SaysX fa fn [] [] ex w h K) : Txt K mg where
  d := fun i d hd => by
    obtain ⟨fd, F⟩ := c.t.d.def_ i hd
    have hn : d.at_.2 = none := Option.isNone_iff_eq_none.mp (List.all_eq_true.mp fn_none d (List.mem_of_getElem? hd))
    have e : He.fAd K d.at_ = He.ga K d.at_.1 := by
      unfold He.fAd
      rw [hn]
    rw [e] at F
    exact ⟨_, fd, F, He.glo_ok X G (c.t.d.fact i (fa_at i hd))⟩
  b := fun i x hx => by
    have hi : i < blts.length := (List.getElem?_eq_some_iff.mp hx).1
    have hm : He.Fa.free x ∈ fa := by
      unfold fa
      exact List.mem_append_left _ (List.mem_append_right _ (List.mem_map.mpr ⟨x, List.mem_of_getElem? hx, rfl⟩))
    exact He.free_ok X G (c.t.d.facts hm)
  low := He.str_ok X G (c.t.d.facts (f := .str "LOWERCASE" "abcdefghijklmnopqrstuvwxyz") (by unfold fa; exact List.mem_append_right _ (List.mem_cons_self ..)))
  tests := ⟨_, He.glo_ok X G (c.t.d.facts (f := .glo "THING_TESTS") (by unfold fa; exact List.mem_append_right _ (List.mem_cons_of_mem _ (List.mem_cons_self ..)))), fun H => He.tupB_ok (Bool.and_eq_true_iff.mp c.more).1 H⟩
  manners := ⟨_, He.glo_ok X G (c.t.d.facts (f := .glo "MANNERS") (by unfold fa; exact List.mem_append_right _ (List.mem_cons_of_mem _ (List.mem_cons_of_mem _ (List.mem_cons_self ..))))), fun H => He.tupB_ok (Bool.and_eq_true_iff.mp c.more).2 H⟩
/-- the whole law from the law's own promise -/
theorem holds_by (k : Nat) (hk1 : Room k callerA) (sp : PySem.W.Frag → Sp) (hsp : ∀ (K : PySem.W.Frag) (H : Hp) (a : Addr) (ns : List Int), ns.length ≤ 63 → SqL K H a (ns.map V.int) → sp K [.ref a] H (fun v _ => v = .bl true) fun _ _ _ => False)
    (F : ∀ (w : World) (K : PySem.W.Frag) (mg : Str → Option Value) (base : Heap), Txt K mg → K.In base → base.Ns mainGlobals mg → ∀ (f : Addr) (fd : FuncData), FunD K d_law.name d_law.qual d_law.params d_law.body d_law.scope (d_law.dvs K) (d_law.kws K) f fd → FnG PR w K mg base k f fd ["_law_script"] (sp K)) :
    PySem.Challenge.rw_firstfailing_k52_whole_most_tries_rising.Holds := by
  open PySem.W PySem.Calls in
  w_on; o_law
  refine HandSHeadRun.head_any (r := R) (q := view R.prog [90]) (H := hk) (ob := ob) (M := 30000) (loose := loose) (d := HandSHeadRun.topDef R.prog 90) (kwd := []) ob_eq
    (by kernel_rfl) (fun s => by kernel_rfl) run (by kernel_rfl) (by kernel_rfl) (by kernel_rfl) (by rfl) (by first | assumption | decide +kernel) (by decide +kernel) ⟨rfl, rfl, rfl, rfl, rfl, by decide +kernel⟩ ?hw ?hc
  case hw => w_witness2
  case hc =>
    refine FF.walk_ofG (l := PySem.Challenge.rw_firstfailing_k52_whole_most_tries_rising) (n := 63) (k := k) (x := "_law_script") rfl (by decide) (by kernel_rfl) hk1 ?F (fun _ _ _ _ z => z)
    intro w mg fa1 h Y G hmg0
    obtain ⟨K, KX, c⟩ := Y
    have hmg : mg ("law" : PySem.Str) = some (.ref fa1) := by
      have e : (HandSHeadRun.topDef R.prog 90).name = ("law" : PySem.Str) := by kernel_rfl
      rw [← e]
      exact hmg0
    have T := txt_of KX G c
    obtain ⟨f, fd, FD, hm⟩ := T.d 63 d_law rfl
    have e := hmg.symm.trans hm
    cases e
    have b := FunD.bindsA (ps := ["_law_script"]) FD fun _ _ _ _ _ _ us hl => match us, hl with | [_], _ => rfl
    exact ⟨K, fd, sp K, KX, fun s u => b s [u] rfl, fun H a ns hl _ hS => hsp K H a ns hl hS, fun base hK hb => F w K mg base T hK hb fa1 fd FD⟩

theorem room11 : Room 11 callerA := ⟨rfl, by decide +kernel, by decide +kernel⟩
theorem law_holds : PySem.Challenge.rw_firstfailing_k52_whole_most_tries_rising.Holds := by
  refine holds_by 11 room11 spLaw2 (fun K H a ns hl hS => ⟨a, ns, rfl, hS, hl, fun H' => rfl⟩) fun w K mg base T hK hb f fd FD => ?_
  exact fn_law T FD
end FF
theorem PySem.Challenge.cw_firstfailing_k52_whole_most_tries_rising_holds : PySem.Challenge.rw_firstfailing_k52_whole_most_tries_rising.Holds := by
  exact FF.law_holds
