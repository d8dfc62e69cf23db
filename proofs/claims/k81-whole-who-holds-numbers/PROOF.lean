import PyProof.Rows.All
import Wide.All
import OpenK.AllK
import Wide.FinOn
import HandS.ForMost
import HandS.Words
import PySem.Challenge.RW_cornerbids_k81_whole_who_holds_numbers
import KE.KStateDown
import HandS.Exc
import HandS.Defaults
import HandS.Head0
import HandS.Head1
import HandS.Head2
import HandS.HeadEnd
import HandS.HeadHook1
import HandS.HeadHook2
import HandS.HeadHook3
import HandS.HeadHook4
import HandS.Wide
import HandS.Deep
import HandS.Walk
import HandS.WordsExc
import HandS.More
import HandS.IsInst
import HandS.TupAny
import HandS.Zip
import HandS.TupMul
import HandS.TupSets
import HandS.SortInts
import KE.GoesMore
import PyProof.TupleOfSeq
import PyProof.FactsAll.tuple_2
import HandS.Dict
import HandS.Iter
import HandS.Conv
import HandS.DictComp
import KE.KDictWalk
import PyProof.DictFindH
import HandS.ExcOwn
import HandS.TryOnly
section
set_option Elab.async false
set_option linter.all false
set_option maxRecDepth 100000
namespace K81
open PySem L2
def top (i : Nat) : Stmt := PySem.Challenge.pw_cornerbids_k81_whole_who_holds_numbers.main.body.getD i (.Pass ⟨0, 0, 0, 0⟩)
abbrev s_is_integer : Stmt := top 7
abbrev s_divisor : Stmt := top 8
abbrev s_made : Stmt := top 9
abbrev s_plus : Stmt := top 10
abbrev s_times : Stmt := top 11
abbrev s_is_less : Stmt := top 12
abbrev s_least_of : Stmt := top 13
abbrev s_greatest_of : Stmt := top 14
abbrev s_ascending : Stmt := top 15
abbrev s_middle : Stmt := top 16
abbrev s_is_fraction : Stmt := top 17
abbrev s_is_within : Stmt := top 20
abbrev s_is_number : Stmt := top 21
abbrev s_check_number : Stmt := top 22
abbrev s_mean_of : Stmt := top 24
abbrev s_ranked_of : Stmt := top 25
abbrev s_value_of : Stmt := top 26
abbrev s_all_lots : Stmt := top 28
abbrev s_ends_for : Stmt := top 29
abbrev s_corner_of : Stmt := top 30
abbrev s_corners_of : Stmt := top 31
abbrev s_holding_lots : Stmt := top 33
abbrev s_without : Stmt := top 34
abbrev s_with_person : Stmt := top 35
abbrev s_others_of : Stmt := top 36
abbrev s_least_among : Stmt := top 37
abbrev s_blocking_lots : Stmt := top 38
abbrev s_least_lots : Stmt := top 39
abbrev s_least_blocks : Stmt := top 40
abbrev s_vetoes : Stmt := top 41
abbrev s_swings : Stmt := top 42
abbrev s_alone : Stmt := top 43
abbrev s_levels : Stmt := top 44
abbrev s_are_parts : Stmt := top 50
abbrev s_is_weighted : Stmt := top 51
abbrev s_is_bound : Stmt := top 52
abbrev s_parts_told : Stmt := top 53
abbrev s_is_leaf : Stmt := top 54
abbrev s_terms_told : Stmt := top 55
abbrev s_Ldice : Stmt := top 58
abbrev s_Ldraw : Stmt := top 59
abbrev s_Llowest : Stmt := top 60
abbrev s_Lsum : Stmt := top 61
abbrev s_Lproduct : Stmt := top 62
abbrev s_Lless : Stmt := top 63
abbrev s_Lsorted : Stmt := top 64
abbrev s_Lnumber : Stmt := top 65
abbrev s_Lterm : Stmt := top 66
abbrev s_Lrule_parts : Stmt := top 67
abbrev s_Lvalue : Stmt := top 68
abbrev s_Llots : Stmt := top 69
abbrev s_Lby_size : Stmt := top 70
abbrev s_Lat_ends : Stmt := top 71
abbrev s_Lcorner : Stmt := top 72
abbrev s_Lholds : Stmt := top 73
abbrev s_Lothers : Stmt := top 74
abbrev s_Lleast : Stmt := top 75
abbrev s_Lcall : Stmt := top 76
abbrev s_Lrefused : Stmt := top 77
abbrev s_Ldrawn_rule : Stmt := top 78
abbrev s_Llots_right : Stmt := top 79
abbrev s_Lpeople_right : Stmt := top 80
abbrev s_law : Stmt := top 81
abbrev s_Rinit : Stmt := inClass (top 56) 0
end K81
end

section
set_option Elab.async false
set_option linter.all false
set_option maxRecDepth 100000
set_option maxHeartbeats 0
namespace K81
open PySem PySem.Spec PyProof.Rows L2
def fa0 : List He.Fa := [.glo "is_integer", .glo "divisor", .glo "made", .glo "plus", .glo "times", .glo "is_less", .glo "least_of", .glo "greatest_of", .glo "ascending", .glo "middle", .glo "is_fraction", .glo "is_within", .glo "is_number", .glo "check_number", .glo "mean_of", .glo "ranked_of", .glo "value_of", .glo "all_lots", .glo "ends_for", .glo "corner_of"]
def fa1 : List He.Fa := [.glo "corners_of", .glo "holding_lots", .glo "without", .glo "with_person", .glo "others_of", .glo "least_among", .glo "blocking_lots", .glo "least_lots", .glo "least_blocks", .glo "vetoes", .glo "swings", .glo "alone", .glo "levels", .glo "are_parts", .glo "is_weighted", .glo "is_bound", .glo "parts_told", .glo "is_leaf", .glo "terms_told", .glo "_law_dice"]
def fa2 : List He.Fa := [.glo "_law_draw", .glo "_law_lowest", .glo "_law_sum", .glo "_law_product", .glo "_law_less", .glo "_law_sorted", .glo "_law_number", .glo "_law_term", .glo "_law_rule_parts", .glo "_law_value", .glo "_law_lots", .glo "_law_by_size", .glo "_law_at_ends", .glo "_law_corner", .glo "_law_holds", .glo "_law_others", .glo "_law_least", .glo "_law_call", .glo "_law_refused", .glo "_law_drawn_rule"]
def fa3 : List He.Fa := [.glo "_law_lots_right", .glo "_law_people_right", .glo "law", .glo "Rule", .glo "NoNumber", .cls "Rule", .mkr "Rule", .noat "Rule" "people", .noat "Rule" "term", .exc "NoNumber", .exm "NoNumber" "NoNumber" true, .int "MOST_PEOPLE" 6, .int "MOST_DEEP" 8, .int "MOST_TERMS" 60, .int "MOST_PARTS" 8, .int "MOST_WEIGHT" 99, .glo "ZERO", .glo "ONE", .free "isinstance", .free "abs"]
def fa4 : List He.Fa := [.free "all", .free "any", .free "tuple", .free "int", .free "bool", .free "str", .free "list", .free "len", .free "range", .free "enumerate", .free "zip", .free "sorted", .free "sum"]
def fa : List He.Fa := fa0 ++ (fa1 ++ (fa2 ++ (fa3 ++ (fa4))))
def fn0 : List He.DefD := [⟨("is_integer", none), "is_integer", "is_integer", defArgs s_is_integer, defBody s_is_integer, defScope s_is_integer, [], []⟩, ⟨("divisor", none), "divisor", "divisor", defArgs s_divisor, defBody s_divisor, defScope s_divisor, [], []⟩, ⟨("made", none), "made", "made", defArgs s_made, defBody s_made, defScope s_made, [], []⟩, ⟨("plus", none), "plus", "plus", defArgs s_plus, defBody s_plus, defScope s_plus, [], []⟩, ⟨("times", none), "times", "times", defArgs s_times, defBody s_times, defScope s_times, [], []⟩, ⟨("is_less", none), "is_less", "is_less", defArgs s_is_less, defBody s_is_less, defScope s_is_less, [], []⟩, ⟨("least_of", none), "least_of", "least_of", defArgs s_least_of, defBody s_least_of, defScope s_least_of, [], []⟩, ⟨("greatest_of", none), "greatest_of", "greatest_of", defArgs s_greatest_of, defBody s_greatest_of, defScope s_greatest_of, [], []⟩, ⟨("ascending", none), "ascending", "ascending", defArgs s_ascending, defBody s_ascending, defScope s_ascending, [], []⟩, ⟨("middle", none), "middle", "middle", defArgs s_middle, defBody s_middle, defScope s_middle, [], []⟩]
def fn1 : List He.DefD := [⟨("is_fraction", none), "is_fraction", "is_fraction", defArgs s_is_fraction, defBody s_is_fraction, defScope s_is_fraction, [], []⟩, ⟨("is_within", none), "is_within", "is_within", defArgs s_is_within, defBody s_is_within, defScope s_is_within, [], []⟩, ⟨("is_number", none), "is_number", "is_number", defArgs s_is_number, defBody s_is_number, defScope s_is_number, [], []⟩, ⟨("check_number", none), "check_number", "check_number", defArgs s_check_number, defBody s_check_number, defScope s_check_number, [], []⟩, ⟨("mean_of", none), "mean_of", "mean_of", defArgs s_mean_of, defBody s_mean_of, defScope s_mean_of, [], []⟩, ⟨("ranked_of", none), "ranked_of", "ranked_of", defArgs s_ranked_of, defBody s_ranked_of, defScope s_ranked_of, [], []⟩, ⟨("value_of", none), "value_of", "value_of", defArgs s_value_of, defBody s_value_of, defScope s_value_of, [], []⟩, ⟨("all_lots", none), "all_lots", "all_lots", defArgs s_all_lots, defBody s_all_lots, defScope s_all_lots, [], []⟩, ⟨("ends_for", none), "ends_for", "ends_for", defArgs s_ends_for, defBody s_ends_for, defScope s_ends_for, [], []⟩, ⟨("corner_of", none), "corner_of", "corner_of", defArgs s_corner_of, defBody s_corner_of, defScope s_corner_of, [], []⟩]
def fn2 : List He.DefD := [⟨("corners_of", none), "corners_of", "corners_of", defArgs s_corners_of, defBody s_corners_of, defScope s_corners_of, [], []⟩, ⟨("holding_lots", none), "holding_lots", "holding_lots", defArgs s_holding_lots, defBody s_holding_lots, defScope s_holding_lots, [], []⟩, ⟨("without", none), "without", "without", defArgs s_without, defBody s_without, defScope s_without, [], []⟩, ⟨("with_person", none), "with_person", "with_person", defArgs s_with_person, defBody s_with_person, defScope s_with_person, [], []⟩, ⟨("others_of", none), "others_of", "others_of", defArgs s_others_of, defBody s_others_of, defScope s_others_of, [], []⟩, ⟨("least_among", none), "least_among", "least_among", defArgs s_least_among, defBody s_least_among, defScope s_least_among, [], []⟩, ⟨("blocking_lots", none), "blocking_lots", "blocking_lots", defArgs s_blocking_lots, defBody s_blocking_lots, defScope s_blocking_lots, [], []⟩, ⟨("least_lots", none), "least_lots", "least_lots", defArgs s_least_lots, defBody s_least_lots, defScope s_least_lots, [], []⟩, ⟨("least_blocks", none), "least_blocks", "least_blocks", defArgs s_least_blocks, defBody s_least_blocks, defScope s_least_blocks, [], []⟩, ⟨("vetoes", none), "vetoes", "vetoes", defArgs s_vetoes, defBody s_vetoes, defScope s_vetoes, [], []⟩]
def fn3 : List He.DefD := [⟨("swings", none), "swings", "swings", defArgs s_swings, defBody s_swings, defScope s_swings, [], []⟩, ⟨("alone", none), "alone", "alone", defArgs s_alone, defBody s_alone, defScope s_alone, [], []⟩, ⟨("levels", none), "levels", "levels", defArgs s_levels, defBody s_levels, defScope s_levels, [], []⟩, ⟨("are_parts", none), "are_parts", "are_parts", defArgs s_are_parts, defBody s_are_parts, defScope s_are_parts, [], []⟩, ⟨("is_weighted", none), "is_weighted", "is_weighted", defArgs s_is_weighted, defBody s_is_weighted, defScope s_is_weighted, [], []⟩, ⟨("is_bound", none), "is_bound", "is_bound", defArgs s_is_bound, defBody s_is_bound, defScope s_is_bound, [], []⟩, ⟨("parts_told", none), "parts_told", "parts_told", defArgs s_parts_told, defBody s_parts_told, defScope s_parts_told, [], []⟩, ⟨("is_leaf", none), "is_leaf", "is_leaf", defArgs s_is_leaf, defBody s_is_leaf, defScope s_is_leaf, [], []⟩, ⟨("terms_told", none), "terms_told", "terms_told", defArgs s_terms_told, defBody s_terms_told, defScope s_terms_told, [], []⟩, ⟨("_law_dice", none), "_law_dice", "_law_dice", defArgs s_Ldice, defBody s_Ldice, defScope s_Ldice, [], []⟩]
def fn4 : List He.DefD := [⟨("_law_draw", none), "_law_draw", "_law_draw", defArgs s_Ldraw, defBody s_Ldraw, defScope s_Ldraw, [], []⟩, ⟨("_law_lowest", none), "_law_lowest", "_law_lowest", defArgs s_Llowest, defBody s_Llowest, defScope s_Llowest, [], []⟩, ⟨("_law_sum", none), "_law_sum", "_law_sum", defArgs s_Lsum, defBody s_Lsum, defScope s_Lsum, [], []⟩, ⟨("_law_product", none), "_law_product", "_law_product", defArgs s_Lproduct, defBody s_Lproduct, defScope s_Lproduct, [], []⟩, ⟨("_law_less", none), "_law_less", "_law_less", defArgs s_Lless, defBody s_Lless, defScope s_Lless, [], []⟩, ⟨("_law_sorted", none), "_law_sorted", "_law_sorted", defArgs s_Lsorted, defBody s_Lsorted, defScope s_Lsorted, [], []⟩, ⟨("_law_number", none), "_law_number", "_law_number", defArgs s_Lnumber, defBody s_Lnumber, defScope s_Lnumber, [], []⟩, ⟨("_law_term", none), "_law_term", "_law_term", defArgs s_Lterm, defBody s_Lterm, defScope s_Lterm, [], []⟩, ⟨("_law_rule_parts", none), "_law_rule_parts", "_law_rule_parts", defArgs s_Lrule_parts, defBody s_Lrule_parts, defScope s_Lrule_parts, [], []⟩, ⟨("_law_value", none), "_law_value", "_law_value", defArgs s_Lvalue, defBody s_Lvalue, defScope s_Lvalue, [], []⟩]
def fn5 : List He.DefD := [⟨("_law_lots", none), "_law_lots", "_law_lots", defArgs s_Llots, defBody s_Llots, defScope s_Llots, [], []⟩, ⟨("_law_by_size", none), "_law_by_size", "_law_by_size", defArgs s_Lby_size, defBody s_Lby_size, defScope s_Lby_size, [], []⟩, ⟨("_law_at_ends", none), "_law_at_ends", "_law_at_ends", defArgs s_Lat_ends, defBody s_Lat_ends, defScope s_Lat_ends, [], []⟩, ⟨("_law_corner", none), "_law_corner", "_law_corner", defArgs s_Lcorner, defBody s_Lcorner, defScope s_Lcorner, [], []⟩, ⟨("_law_holds", none), "_law_holds", "_law_holds", defArgs s_Lholds, defBody s_Lholds, defScope s_Lholds, [], []⟩, ⟨("_law_others", none), "_law_others", "_law_others", defArgs s_Lothers, defBody s_Lothers, defScope s_Lothers, [], []⟩, ⟨("_law_least", none), "_law_least", "_law_least", defArgs s_Lleast, defBody s_Lleast, defScope s_Lleast, [], []⟩, ⟨("_law_call", none), "_law_call", "_law_call", defArgs s_Lcall, defBody s_Lcall, defScope s_Lcall, [], []⟩, ⟨("_law_refused", none), "_law_refused", "_law_refused", defArgs s_Lrefused, defBody s_Lrefused, defScope s_Lrefused, [], []⟩, ⟨("_law_drawn_rule", none), "_law_drawn_rule", "_law_drawn_rule", defArgs s_Ldrawn_rule, defBody s_Ldrawn_rule, defScope s_Ldrawn_rule, [], []⟩]
def fn6 : List He.DefD := [⟨("_law_lots_right", none), "_law_lots_right", "_law_lots_right", defArgs s_Llots_right, defBody s_Llots_right, defScope s_Llots_right, [], []⟩, ⟨("_law_people_right", none), "_law_people_right", "_law_people_right", defArgs s_Lpeople_right, defBody s_Lpeople_right, defScope s_Lpeople_right, [], []⟩, ⟨("law", none), "law", "law", defArgs s_law, defBody s_law, defScope s_law, [], []⟩, ⟨("Rule", some "__init__"), "__init__", "Rule.__init__", defArgs s_Rinit, defBody s_Rinit, defScope s_Rinit, [], []⟩]
def fn : List He.DefD := fn0 ++ (fn1 ++ (fn2 ++ (fn3 ++ (fn4 ++ (fn5 ++ (fn6))))))
def lo0 : List PySem.Str := ["BidError", "BadRule", "NoNumber", "ZERO", "ONE", "is_integer", "divisor", "made", "plus", "times", "is_less", "least_of", "greatest_of", "ascending", "middle", "is_fraction", "MOST_PEOPLE", "is_within", "is_number", "check_number"]
def lo1 : List PySem.Str := ["mean_of", "ranked_of", "value_of", "all_lots", "ends_for", "corner_of", "corners_of", "holding_lots", "without", "with_person", "others_of", "least_among", "blocking_lots", "least_lots", "least_blocks", "vetoes", "swings", "alone", "levels", "MOST_DEEP"]
def lo2 : List PySem.Str := ["MOST_TERMS", "MOST_PARTS", "MOST_WEIGHT", "are_parts", "is_weighted", "is_bound", "parts_told", "is_leaf", "terms_told", "Rule", "_law_dice", "_law_draw", "_law_lowest", "_law_sum", "_law_product", "_law_less", "_law_sorted", "_law_number", "_law_term", "_law_rule_parts"]
def lo3 : List PySem.Str := ["_law_value", "_law_lots", "_law_by_size", "_law_at_ends", "_law_corner", "_law_holds", "_law_others", "_law_least", "_law_call", "_law_refused", "_law_drawn_rule", "_law_lots_right", "_law_people_right"]
def lo : List PySem.Str := lo0 ++ (lo1 ++ (lo2 ++ (lo3)))
def ex (K : PySem.W.Frag) : Bool := He.tupB K "ZERO" [.int 0, .int 1] && He.tupB K "ONE" [.int 1, .int 1]
abbrev R : PySem.W.OpenRow := PySem.W.OpenLaw.row PySem.Challenge.rw_cornerbids_k81_whole_who_holds_numbers
abbrev hk : PySem.W.Hook := He.hookX 4 fa fn [] [] ex
def ob (s : PySem.W.SharedT) : He.AlX := He.obsX 4 fa fn [] [] ex (HandSHeadRun.getT s)
theorem ob_eq (s : PySem.W.SharedT) : ob s = hk.obs s.abs := He.obsX_eq (HandSHeadRun.getT_eq s)
theorem run (w : World) : HandSHeadRun.RunEq R (PySem.W.view R.prog [81]) hk ob 4000 lo w := by
  intro os
  kernel_rfl
end K81
end

section
set_option Elab.async false
set_option linter.all false
set_option maxRecDepth 100000
/-! A layer of data over HandS: an expression evaluates to data, the heap growing only; a world that may be changed beside it. -/
namespace K81
open PySem PySem.Spec PyProof.Rows L2

/-! ### heaps that grow -/
def Ex (H H' : Hp) : Prop := ∀ a o, H a = some o → H' a = some o
theorem Ex.refl (H : Hp) : Ex H H := fun _ _ h => h
theorem Ex.trans {H H1 H2 : Hp} (a : Ex H H1) (b : Ex H1 H2) : Ex H H2 := fun x o h => b x o (a x o h)
theorem Ex.new {H : Hp} {p : Addr} {o : HO} (h : H p = none) : Ex H (upd H p o) := fun a u e => by
  rw [upd_ne (ne_of_none e h)]; exact e
theorem Ex.free {H H' : Hp} {p : Addr} (e : Ex H H') (h : H' p = none) : H p = none := by
  cases q : H p with
  | none => rfl
  | some o => rw [e p o q] at h; cases h
theorem ex_rd {H H' : Hp} {a : Addr} {u : HO} (e : Ex H H') (h : Rd H a u) : Rd H' a u := by
  rcases h with h | ⟨o, h⟩
  · exact .inl (e a _ h)
  · exact .inr ⟨o, e a _ h⟩
theorem ex_l {K : PySem.W.Frag} {H H' : Hp} {a : Addr} {xs : List V} (e : Ex H H') (h : SqL K H a xs) : SqL K H' a xs := h.imp (ex_rd e) id
theorem ex_t {K : PySem.W.Frag} {H H' : Hp} {a : Addr} {xs : List V} (e : Ex H H') (h : SqT K H a xs) : SqT K H' a xs := h.imp (ex_rd e) id

/-- what may be changed beside: where, and how it stands -/
structure Wd where
  at_ : Addr → Prop
  dep : Addr → Prop
  ok : Hp → Prop
  low : ∀ {b : Addr}, at_ b → dep b
  hasD : ∀ {H : Hp} {b : Addr}, ok H → dep b → H b ≠ none
  stay : ∀ {H H' : Hp}, ok H → (∀ b o, dep b → H b = some o → H' b = some o) → ok H'
theorem Wd.has (w : Wd) {H : Hp} {b : Addr} (h : w.ok H) (hb : w.at_ b) : H b ≠ none := w.hasD h (w.low hb)
theorem Wd.stays (w : Wd) {H H' : Hp} (h : w.ok H) (e : Ex H H') : w.ok H' := w.stay h fun b o _ q => e b o q
theorem Wd.other (w : Wd) {H : Hp} {a : Addr} {o : HO} (h : w.ok H) (ha : ¬ w.dep a) : w.ok (upd H a o) := w.stay h fun b u hb q => by
  have ne : b ≠ a := fun z => by subst z; exact ha hb
  rw [upd_ne ne]; exact q
def w0 : Wd := ⟨fun _ => False, fun _ => False, fun _ => True, fun h => h, fun _ h => h.elim, fun _ _ => True.intro⟩
structure Bef (w : Wd) (G H : Hp) : Prop where
  sub : Ex G H
  ok : w.ok H
  out : ∀ b, w.at_ b → G b = none
structure Aft (w : Wd) (G H G' H' : Hp) : Prop where
  up : ∀ b o, ¬ w.at_ b → H b = some o → H' b = some o
  ok : w.ok H'
  g : Ex G G'
  sub : Ex G' H'
  new : ∀ b, G b = none → G' b ≠ none → H b = none
section
variable {w : Wd} {G H G' H' G2 H2 : Hp} {p : Addr} {o : HO}
theorem Aft.refl (B : Bef w G H) : Aft w G H G H := ⟨fun _ _ _ h => h, B.ok, .refl _, B.sub, fun _ h n => absurd h n⟩
theorem Bef.aft (B : Bef w G H) (a : Aft w G H G' H') : Bef w G' H' := ⟨a.sub, a.ok, fun b hb => by
  cases q : G' b with
  | none => rfl
  | some o => exact absurd (a.new b (B.out b hb) (by rw [q]; exact fun z => nomatch z)) (w.has B.ok hb)⟩
theorem Aft.trans (B : Bef w G H) (a : Aft w G H G' H') (b : Aft w G' H' G2 H2) : Aft w G H G2 H2 := by
  refine ⟨fun c o n h => b.up c o n (a.up c o n h), b.ok, a.g.trans b.g, b.sub, fun c h n => ?_⟩
  cases q : G' c with
  | some o => exact a.new c h (by rw [q]; exact fun z => nomatch z)
  | none =>
    have h1 := b.new c q n
    cases r : H c with
    | none => rfl
    | some o =>
      by_cases hc : w.at_ c
      · exact absurd h1 (w.has a.ok hc)
      · rw [a.up c o hc r] at h1; cases h1
theorem Aft.new1 (B : Bef w G H) (hp : H p = none) : Aft w G H (upd G p o) (upd H p o) := by
  have gp : G p = none := B.sub.free hp
  refine ⟨fun b u _ h => Ex.new hp b u h, w.stays B.ok (.new hp), .new gp, fun b u h => ?_, fun b h n => ?_⟩
  · by_cases e : b = p
    · subst e; rw [upd_same] at h ⊢; exact h
    · rw [upd_ne e] at h ⊢; exact B.sub b u h
  · by_cases e : b = p
    · subst e; exact hp
    · rw [upd_ne e] at n; exact absurd h n
theorem Aft.newH (B : Bef w G H) (hp : H p = none) : Aft w G H G (upd H p o) :=
  ⟨fun b u _ h => Ex.new hp b u h, w.stays B.ok (.new hp), .refl _, B.sub.trans (.new hp), fun _ h n => absurd h n⟩
theorem Bef.pure (B : Bef w G H) : Bef w0 G H := ⟨B.sub, True.intro, fun _ h => h.elim⟩
theorem Aft.ofPure (B : Bef w G H) (a : Aft w0 G H G' H') : Aft w G H G' H' := ⟨fun b o _ h => a.up b o (fun z => z) h, w.stays B.ok fun b o h => a.up b o (fun z => z) h, a.g, a.sub, a.new⟩
theorem Aft.pureEx (a : Aft w0 G H G' H') : Ex H H' := fun b o h => a.up b o (fun z => z) h
end

/-! ### what a value is -/
structure Sc where
  p : Hp → V → Prop
  mono : ∀ {G G' : Hp} {v : V}, Ex G G' → p G v → p G' v
section
variable {K : PySem.W.Frag} {G G' : Hp}
mutual
theorem dp_mono (e : Ex G G') : ∀ (d : PyData) (v : V), Dp K G v d → Dp K G' v d
  | .none, _, h => by cases h; exact .non
  | .bool b, _, h => by cases h; exact .bl b
  | .int i, _, h => by cases h; exact .int i
  | .str x, _, h => by cases h; exact .str x
  | .list ds, _, h => by
    cases h with
    | lst hs ha => exact .lst (ex_l e hs) (dpAll_mono e ds _ ha)
  | .tuple ds, _, h => by
    cases h with
    | tup hs ha => exact .tup (ex_t e hs) (dpAll_mono e ds _ ha)
  | .dict _, _, h => by cases h
theorem dpAll_mono (e : Ex G G') : ∀ (ds : List PyData) (vs : List V), DpAll K G vs ds → DpAll K G' vs ds
  | [], _, h => by cases h; exact .nil
  | d :: ds, _, h => by
    cases h with
    | cons h1 h2 => exact .cons (dp_mono e d _ h1) (dpAll_mono e ds _ h2)
end
theorem dpa_len : ∀ {vs : List V} {ds : List PyData}, DpAll K G vs ds → vs.length = ds.length
  | _, _, .nil => rfl
  | _, _, .cons _ h => by simp only [List.length_cons, dpa_len h]
theorem dpa_get : ∀ {vs : List V} {ds : List PyData} {i : Nat} {d : PyData}, DpAll K G vs ds → ds[i]? = some d → ∃ v, vs[i]? = some v ∧ Dp K G v d
  | _, _, _, _, .nil, h => by simp at h
  | _, _, 0, _, .cons h _, e => by
    have e' := Option.some.inj (by simpa using e)
    exact ⟨_, rfl, e' ▸ h⟩
  | _, _, i + 1, _, .cons _ t, e => by
    obtain ⟨v, h1, h2⟩ := dpa_get (i := i) t (by simpa using e)
    exact ⟨v, by simpa using h1, h2⟩
theorem _root_.L2.DpAll.len {vs : List V} {ds : List PyData} (h : DpAll K G vs ds) : vs.length = ds.length := dpa_len h
theorem _root_.L2.DpAll.get {vs : List V} {ds : List PyData} {i : Nat} {d : PyData} (h : DpAll K G vs ds) (e : ds[i]? = some d) : ∃ v, vs[i]? = some v ∧ Dp K G v d := dpa_get h e
theorem _root_.L2.DpAll.getV {vs : List V} {ds : List PyData} {i : Nat} {v : V} (h : DpAll K G vs ds) (e : vs[i]? = some v) : ∃ d, ds[i]? = some d ∧ Dp K G v d := by
  obtain ⟨hi, _⟩ := List.getElem?_eq_some_iff.mp e
  have hl := h.len
  have e2 : ds[i]? = some (ds[i]'(by omega)) := List.getElem?_eq_getElem (by omega)
  obtain ⟨v', e3, hd⟩ := h.get e2
  rw [e] at e3
  exact ⟨_, e2, Option.some.inj e3 ▸ hd⟩
theorem dpa_append : ∀ {vs us : List V} {ds es : List PyData}, DpAll K G vs ds → DpAll K G us es → DpAll K G (vs ++ us) (ds ++ es)
  | _, _, _, _, .nil, h => h
  | _, _, _, _, .cons a b, h => .cons a (dpa_append b h)
theorem dpa_of_get : ∀ {vs : List V} {ds : List PyData}, vs.length = ds.length → (∀ (i : Nat) v d, vs[i]? = some v → ds[i]? = some d → Dp K G v d) → DpAll K G vs ds
  | [], [], _, _ => .nil
  | [], _ :: _, h, _ => by simp at h
  | _ :: _, [], h, _ => by simp at h
  | v :: vs, d :: ds, h, k => .cons (k 0 v d rfl rfl) (dpa_of_get (by simpa using h) fun i v' d' e1 e2 => k (i + 1) v' d' (by simpa using e1) (by simpa using e2))
theorem dpInt {v : V} {i : Int} (h : Dp K G v (.int i)) : v = .int i := by cases h; rfl
theorem dpBool {v : V} {b : Bool} (h : Dp K G v (.bool b)) : v = .bl b := by cases h; rfl
theorem dpNone {v : V} (h : Dp K G v .none) : v = .non := by cases h; rfl
theorem dpStr {v : V} {x : Str} (h : Dp K G v (.str x)) : v = .str x := by cases h; rfl
theorem dpTup {v : V} {ds : List PyData} (h : Dp K G v (.tuple ds)) : ∃ a xs, v = .ref a ∧ SqT K G a xs ∧ DpAll K G xs ds := by
  cases h with
  | tup hs ha => exact ⟨_, _, rfl, hs, ha⟩
theorem dpLst {v : V} {ds : List PyData} (h : Dp K G v (.list ds)) : ∃ a xs, v = .ref a ∧ SqL K G a xs ∧ DpAll K G xs ds := by
  cases h with
  | lst hs ha => exact ⟨_, _, rfl, hs, ha⟩
theorem dpInts : ∀ {ns : List Int} {vs : List V}, DpAll K G vs (ns.map PyData.int) → vs = ns.map V.int
  | [], _, h => by cases h; rfl
  | n :: ns, _, h => by
    cases h with
    | cons h1 h2 =>
      rw [dpInts h2, dpInt h1]
      rfl
theorem intsDp : ∀ (ns : List Int), DpAll K G (ns.map V.int) (ns.map PyData.int)
  | [] => .nil
  | n :: ns => .cons (.int n) (intsDp ns)
theorem dpBools : ∀ {bs : List Bool} {vs : List V}, DpAll K G vs (bs.map PyData.bool) → vs = bs.map V.bl
  | [], _, h => by cases h; rfl
  | n :: ns, _, h => by
    cases h with
    | cons h1 h2 =>
      rw [dpBools h2, dpBool h1]
      rfl
end
/-- data -/
def dS (K : PySem.W.Frag) (d : PyData) : Sc := ⟨fun G v => Dp K G v d, fun e h => dp_mono e _ _ h⟩
/-- one of many -/
def exS {α : Type} (P : α → Prop) (f : α → Sc) : Sc := ⟨fun G v => ∃ x, P x ∧ (f x).p G v, fun e ⟨x, h, q⟩ => ⟨x, h, (f x).mono e q⟩⟩
/-- a list that is tracked -/
def tlS (K : PySem.W.Frag) (ds : List PyData) : Sc := ⟨fun G v => ∃ a vs, v = .ref a ∧ G a = some (.lst vs) ∧ DpAll K G vs ds, fun e ⟨a, vs, h1, h2, h3⟩ => ⟨a, vs, h1, e _ _ h2, dpAll_mono e _ _ h3⟩⟩
/-- this very object -/
def refS (a : Addr) : Sc := ⟨fun _ v => v = .ref a, fun _ h => h⟩
/-- the heap has grown from there -/
def exG (G0 : Hp) : Sc := ⟨fun G _ => Ex G0 G, fun e h => h.trans e⟩
theorem tl_d {K : PySem.W.Frag} {ds : List PyData} {G : Hp} {v : V} (h : (tlS K ds).p G v) : (dS K (.list ds)).p G v := by
  obtain ⟨a, vs, rfl, h2, h3⟩ := h
  exact .lst (SqL.of h2) h3

/-! ### slots -/
inductive Sl where
  | no
  | dat (s : Sc)
  | own (k : Nat)
abbrev Rho := List Sl
structure EnvD (G : Hp) (σ : L2.St) (ρ : Rho) : Prop where
  len : ρ.length = σ.length
  get : ∀ (i : Nat) (s : Sc), ρ[i]? = some (.dat s) → ∃ v, σ[i]? = some (some v) ∧ s.p G v
def EnvO (as : List Addr) (σ : L2.St) (ρ : Rho) : Prop := ∀ (i k : Nat), ρ[i]? = some (.own k) → ∃ a, as[k]? = some a ∧ σ[i]? = some (some (.ref a))
theorem EnvD.mono {G G' : Hp} {σ : L2.St} {ρ : Rho} (e : Ex G G') (h : EnvD G σ ρ) : EnvD G' σ ρ := ⟨h.len, fun i s q => let ⟨v, a, b⟩ := h.get i s q; ⟨v, a, s.mono e b⟩⟩
theorem EnvD.set {G : Hp} {σ : L2.St} {ρ : Rho} {i : Nat} {s : Sc} {v : V} (h : EnvD G σ ρ) (hi : i < ρ.length) (hv : s.p G v) : EnvD G (σ.set i (some v)) (ρ.set i (.dat s)) := ⟨by simpa using h.len, fun j t q => by
  rw [h.len] at hi
  by_cases e : i = j
  · subst e
    rw [List.getElem?_set] at q
    split at q
    · split at q
      · cases q; exact ⟨v, by simp [hi], hv⟩
      · cases q
    · exact absurd rfl ‹_›
  · rw [List.getElem?_set_ne e] at q
    obtain ⟨u, a, b⟩ := h.get j t q
    exact ⟨u, by rw [List.getElem?_set_ne e]; exact a, b⟩⟩
theorem EnvD.setOwn {G : Hp} {σ : L2.St} {ρ : Rho} {i k : Nat} {v : V} (h : EnvD G σ ρ) : EnvD G (σ.set i (some v)) (ρ.set i (.own k)) := ⟨by simpa using h.len, fun j t q => by
  by_cases e : i = j
  · subst e
    rw [List.getElem?_set] at q
    split at q
    · split at q <;> cases q
    · exact absurd rfl ‹_›
  · rw [List.getElem?_set_ne e] at q
    obtain ⟨u, a, b⟩ := h.get j t q
    exact ⟨u, by rw [List.getElem?_set_ne e]; exact a, b⟩⟩
theorem EnvO.set {as : List Addr} {σ : L2.St} {ρ : Rho} {i : Nat} {s : Sc} {v : Option V} (h : EnvO as σ ρ) : EnvO as (σ.set i v) (ρ.set i (.dat s)) := fun j k q => by
  by_cases e : i = j
  · subst e
    rw [List.getElem?_set] at q
    split at q
    · split at q <;> cases q
    · exact absurd rfl ‹_›
  · rw [List.getElem?_set_ne e] at q
    obtain ⟨a, h1, h2⟩ := h j k q
    exact ⟨a, h1, by rw [List.getElem?_set_ne e]; exact h2⟩
theorem EnvO.setOwn {as as' : List Addr} {σ : L2.St} {ρ : Rho} {i k : Nat} {a : Addr} (h : EnvO as σ ρ) (hi : i < σ.length) (hp : ∀ (k : Nat) a, as[k]? = some a → as'[k]? = some a) (hk : as'[k]? = some a) : EnvO as' (σ.set i (some (.ref a))) (ρ.set i (.own k)) := fun j k' q => by
  by_cases e : i = j
  · subst e
    rw [List.getElem?_set] at q
    split at q
    · split at q
      · cases q; exact ⟨a, hk, by simp [hi]⟩
      · cases q
    · exact absurd rfl ‹_›
  · rw [List.getElem?_set_ne e] at q
    obtain ⟨b, h1, h2⟩ := h j k' q
    exact ⟨b, hp _ _ h1, by rw [List.getElem?_set_ne e]; exact h2⟩
/-- all values are so -/
inductive Alls (G : Hp) : List V → List Sc → Prop where
  | nil : Alls G [] []
  | cons {v : V} {vs : List V} {s : Sc} {ss : List Sc} : s.p G v → Alls G vs ss → Alls G (v :: vs) (s :: ss)
theorem Alls.mono {G G' : Hp} (e : Ex G G') : ∀ {vs : List V} {ss : List Sc}, Alls G vs ss → Alls G' vs ss
  | _, _, .nil => .nil
  | _, _, .cons h t => .cons (Sc.mono _ e h) (Alls.mono e t)
theorem Alls.len {G : Hp} : ∀ {vs : List V} {ss : List Sc}, Alls G vs ss → vs.length = ss.length
  | _, _, .nil => rfl
  | _, _, .cons _ t => by simp only [List.length_cons, Alls.len t]
theorem Alls.get {G : Hp} : ∀ {vs : List V} {ss : List Sc} {i : Nat} {s : Sc}, Alls G vs ss → ss[i]? = some s → ∃ v, vs[i]? = some v ∧ s.p G v
  | _, _, _, _, .nil, h => by simp at h
  | _, _, 0, _, .cons h _, e => by
    have e' := Option.some.inj (by simpa using e)
    exact ⟨_, rfl, e' ▸ h⟩
  | _, _, i + 1, _, .cons _ t, e => by
    obtain ⟨v, h1, h2⟩ := Alls.get (i := i) t (by simpa using e)
    exact ⟨v, by simpa using h1, h2⟩

/-! ### expressions -/
/-- what is behind -/
def Qs (w : Wd) (G H : Hp) (s : Sc) : VK := fun v H' => ∃ G', Aft w G H G' H' ∧ s.p G' v
def Nx (w : Wd) (G H : Hp) (s : Sc) (Q : VK) : Prop := ∀ v G' H', Aft w G H G' H' → s.p G' v → Q v H'
theorem Nx.qs {w : Wd} {G H : Hp} {s : Sc} : Nx w G H s (Qs w G H s) := fun _ _ _ a h => ⟨_, a, h⟩
structure XE (X : Cx) (w : Wd) (e : Expr) (ρ : Rho) (s : Sc) : Prop where
  run : ∀ (pins : List (Addr × Obj)) (sh : Shared) (σ : L2.St) (G H : Hp), Inv X pins σ H sh → EnvD G σ ρ → Bef w G H →
  wpAny (model X.prog X.w) X.A (eval e X.env) (EP X pins σ (Qs w G H s)) X.xe sh
def tX (w : Wd) (ρ : Rho) (s : Sc) : TE := fun σ H Q => ∃ G, EnvD G σ ρ ∧ Bef w G H ∧ Nx w G H s Q
section
variable {X : Cx} {w : Wd} {ρ : Rho} {e a b : Expr} {s sa sb sc : Sc} {pos : Pos}
theorem pe_x (h : XE X w e ρ s) : PE X e (tX w ρ s) := ⟨fun pins sh σ H Q I ⟨G, hE, hB, k⟩ => thn (h.run pins sh σ G H I hE hB) fun u s1 ⟨v, H1, I1, r, G', a, q⟩ => ⟨v, H1, I1, r, k v G' H1 a q⟩⟩
theorem xe_of {t : TE} (h : PE X e t) (hr : ∀ σ G H, EnvD G σ ρ → Bef w G H → t σ H (Qs w G H s)) : XE X w e ρ s := ⟨fun pins sh σ G H I hE hB => h.run pins sh σ H _ I (hr σ G H hE hB)⟩
theorem tX_then {σ : L2.St} {G H : Hp} {Q : VK} (hE : EnvD G σ ρ) (hB : Bef w G H) (k : Nx w G H s Q) : tX w ρ s σ H Q := ⟨G, hE, hB, k⟩
theorem xe_weak {s' : Sc} (h : XE X w e ρ s) (k : ∀ G v, s.p G v → s'.p G v) : XE X w e ρ s' := ⟨fun pins sh σ G H I hE hB =>
  thn (h.run pins sh σ G H I hE hB) fun u s1 ⟨v, H1, I1, r, G', a, q⟩ => ⟨v, H1, I1, r, G', a, k _ _ q⟩⟩
theorem xe_is {s' : Sc} (h : XE X w e ρ s) (k : s = s') : XE X w e ρ s' := k ▸ h
theorem xe_d {d d' : PyData} (h : XE X w e ρ (dS X.K d)) (k : d = d') : XE X w e ρ (dS X.K d') := k ▸ h
theorem xe_pure (h : XE X w0 e ρ s) : XE X w e ρ s := ⟨fun pins sh σ G H I hE hB =>
  thn (h.run pins sh σ G H I hE hB.pure) fun u s1 ⟨v, H1, I1, r, G', a, q⟩ => ⟨v, H1, I1, r, G', a.ofPure hB, q⟩⟩
theorem xe_var {i : Nat} {x : Str} {s : Sc} (hN : X.N[i]? = some x) (hv : Vis X.env.scope x) (hρ : ρ[i]? = some (.dat s)) (hd : (x == ("__debug__" : Str)) = false := by decide) (hcd : (x == ("__classdict__" : Str)) = false := by decide) : XE X w (.Name x pos) ρ s :=
  xe_of (pe_var hN hv hd hcd) fun σ G H hE hB => by
    obtain ⟨v, h1, h2⟩ := hE.get i s hρ
    exact ⟨v, h1, G, .refl hB, h2⟩
theorem xe_int {k : Int} {j : Nat} : XE X w (.Constant (.int k) j pos) ρ (dS X.K (.int k)) := xe_of pe_int fun σ G H hE hB => ⟨G, .refl hB, .int k⟩
theorem xe_bl {k : Bool} {j : Nat} : XE X w (.Constant (.bool k) j pos) ρ (dS X.K (.bool k)) := xe_of pe_bl fun σ G H hE hB => ⟨G, .refl hB, .bl k⟩
theorem xe_str {k : Str} {j : Nat} : XE X w (.Constant (.str k) j pos) ρ (dS X.K (.str k)) := xe_of pe_str fun σ G H hE hB => ⟨G, .refl hB, .str k⟩
theorem xe_non {j : Nat} : XE X w (.Constant .none j pos) ρ (dS X.K .none) := xe_of pe_non fun σ G H hE hB => ⟨G, .refl hB, .non⟩
/-- two operands -/
theorem xe_op {op : Operator} {r : R2} (ho : OpR X (binaryOp op) r) (ha : XE X w a ρ sa) (hb : XE X w b ρ sb)
    (hr : ∀ G H x y Q, Bef w G H → sa.p G x → sb.p G y → Nx w G H s Q → r x y H Q) : XE X w (.BinOp a op b pos) ρ s :=
  xe_of (pe_op ho (pe_x ha) (pe_x hb)) fun σ G H hE hB => tX_then hE hB fun x G1 H1 A1 hx => tX_then (hE.mono A1.g) (hB.aft A1) fun y G2 H2 A2 hy =>
    hr G2 H2 x y _ ((hB.aft A1).aft A2) (sa.mono A2.g hx) hy fun v G3 H3 A3 hv => ⟨G3, (A1.trans hB A2).trans hB A3, hv⟩
theorem xe_cmp {op : CmpOp} {r : R2} (ho : OpR X (compareOp op) r) (ha : XE X w a ρ sa) (hb : XE X w b ρ sb) (hm : behindInMarks op b = false)
    (hr : ∀ G H x y Q, Bef w G H → sa.p G x → sb.p G y → Nx w G H s Q → r x y H Q) : XE X w (.Compare a [op] [b] pos) ρ s :=
  xe_of (pe_cmpR ho (pe_x ha) (pe_x hb) hm) fun σ G H hE hB => tX_then hE hB fun x G1 H1 A1 hx => tX_then (hE.mono A1.g) (hB.aft A1) fun y G2 H2 A2 hy =>
    hr G2 H2 x y _ ((hB.aft A1).aft A2) (sa.mono A2.g hx) hy fun v G3 H3 A3 hv => ⟨G3, (A1.trans hB A2).trans hB A3, hv⟩
theorem xe_un {op : UnaryOp} {r : V → Hp → VK → Prop} (ho : UnR X (unaryOp op) r) (ha : XE X w a ρ sa)
    (hr : ∀ G H x Q, Bef w G H → sa.p G x → Nx w G H s Q → r x H Q) : XE X w (.UnaryOp op a pos) ρ s :=
  xe_of (pe_un ho (pe_x ha)) fun σ G H hE hB => tX_then hE hB fun x G1 H1 A1 hx => hr G1 H1 x _ (hB.aft A1) hx fun v G3 H3 A3 hv => ⟨G3, A1.trans hB A3, hv⟩
theorem xe_ix {r : R2} (ho : IxR X r) (ha : XE X w a ρ sa) (hb : XE X w b ρ sb) (hs : PlainIx b)
    (hr : ∀ G H x y Q, Bef w G H → sa.p G x → sb.p G y → Nx w G H s Q → r x y H Q) : XE X w (.Subscript a b pos) ρ s :=
  xe_of (pe_ix ho (pe_x ha) (pe_x hb) hs) fun σ G H hE hB => tX_then hE hB fun x G1 H1 A1 hx => tX_then (hE.mono A1.g) (hB.aft A1) fun y G2 H2 A2 hy =>
    hr G2 H2 x y _ ((hB.aft A1).aft A2) (sa.mono A2.g hx) hy fun v G3 H3 A3 hv => ⟨G3, (A1.trans hB A2).trans hB A3, hv⟩
end
/-! ### ints -/
section
variable {X : Cx} {w : Wd} {ρ : Rho} {a b : Expr} {i j : Int} {pos : Pos}
theorem nx0 {w : Wd} {G H : Hp} {s : Sc} {Q : VK} {v : V} (k : Nx w G H s Q) (hB : Bef w G H) (h : s.p G v) : Q v H := k v G H (.refl hB) h
theorem rI0_x {g : Int → Int → V} {x y : V} {G H : Hp} {Q : VK} {s : Sc} (hx : Dp X.K G x (.int i)) (hy : Dp X.K G y (.int j)) (hB : Bef w G H) (k : Nx w G H s Q) (h : s.p G (g i j)) : rI0 g x y H Q := ⟨i, j, dpInt hx, dpInt hy, nx0 k hB h⟩
theorem rI_x {C : Int → Int → Prop} {g : Int → Int → V} {x y : V} {G H : Hp} {Q : VK} {s : Sc} (hx : Dp X.K G x (.int i)) (hy : Dp X.K G y (.int j)) (hC : C i j) (hB : Bef w G H) (k : Nx w G H s Q) (h : s.p G (g i j)) : rI C g x y H Q := ⟨i, j, dpInt hx, dpInt hy, hC, nx0 k hB h⟩
theorem xe_add (ha : XE X w a ρ (dS X.K (.int i))) (hb : XE X w b ρ (dS X.K (.int j))) : XE X w (.BinOp a .Add b pos) ρ (dS X.K (.int (i + j))) := xe_op op_add ha hb fun G H x y Q hB hx hy k => rI0_x hx hy hB k (.int _)
theorem xe_sub (ha : XE X w a ρ (dS X.K (.int i))) (hb : XE X w b ρ (dS X.K (.int j))) : XE X w (.BinOp a .Sub b pos) ρ (dS X.K (.int (i - j))) := xe_op op_sub ha hb fun G H x y Q hB hx hy k => rI0_x hx hy hB k (.int _)
theorem xe_mul (ha : XE X w a ρ (dS X.K (.int i))) (hb : XE X w b ρ (dS X.K (.int j))) (hc : CMul i j) : XE X w (.BinOp a .Mult b pos) ρ (dS X.K (.int (i * j))) := xe_op op_mul ha hb fun G H x y Q hB hx hy k => rI_x hx hy hc hB k (.int _)
theorem xe_mulW (ha : XE X w a ρ (dS X.K (.int i))) (hb : XE X w b ρ (dS X.K (.int j))) (hc : CMulW i j) : XE X w (.BinOp a .Mult b pos) ρ (dS X.K (.int (i * j))) := xe_op op_mulW ha hb fun G H x y Q hB hx hy k => rI_x hx hy hc hB k (.int _)
theorem xe_div (ha : XE X w a ρ (dS X.K (.int i))) (hb : XE X w b ρ (dS X.K (.int j))) (hc : CDiv i j) : XE X w (.BinOp a .FloorDiv b pos) ρ (dS X.K (.int (i / j))) := xe_op op_fdiv ha hb fun G H x y Q hB hx hy k => rI_x hx hy hc hB k (.int _)
theorem xe_divW (ha : XE X w a ρ (dS X.K (.int i))) (hb : XE X w b ρ (dS X.K (.int j))) (hc : CDivW i j) : XE X w (.BinOp a .FloorDiv b pos) ρ (dS X.K (.int (i / j))) := xe_op op_fdivW ha hb fun G H x y Q hB hx hy k => rI_x hx hy hc hB k (.int _)
theorem xe_mod (ha : XE X w a ρ (dS X.K (.int i))) (hb : XE X w b ρ (dS X.K (.int j))) (hc : 0 < j) : XE X w (.BinOp a .Mod b pos) ρ (dS X.K (.int (i % j))) := xe_op op_mod ha hb fun G H x y Q hB hx hy k => rI_x (C := fun _ j => 0 < j) hx hy hc hB k (.int _)
theorem xe_pow (ha : XE X w a ρ (dS X.K (.int i))) (hb : XE X w b ρ (dS X.K (.int j))) (hc : CPow i j) : XE X w (.BinOp a .Pow b pos) ρ (dS X.K (.int (i ^ j.toNat))) := xe_op op_pow ha hb fun G H x y Q hB hx hy k => rI_x hx hy hc hB k (.int _)
theorem xe_neg (ha : XE X w a ρ (dS X.K (.int i))) : XE X w (.UnaryOp .USub a pos) ρ (dS X.K (.int (-i))) := xe_un un_neg ha fun G H x Q hB hx k => ⟨i, dpInt hx, nx0 k hB (.int _)⟩
theorem xe_lt (ha : XE X w a ρ (dS X.K (.int i))) (hb : XE X w b ρ (dS X.K (.int j))) : XE X w (.Compare a [.Lt] [b] pos) ρ (dS X.K (.bool (decide (i < j)))) := xe_cmp op_lt ha hb (nomark _) fun G H x y Q hB hx hy k => rI0_x hx hy hB k (.bl _)
theorem xe_le (ha : XE X w a ρ (dS X.K (.int i))) (hb : XE X w b ρ (dS X.K (.int j))) : XE X w (.Compare a [.LtE] [b] pos) ρ (dS X.K (.bool (decide (i ≤ j)))) := xe_cmp op_le ha hb (nomark _) fun G H x y Q hB hx hy k => rI0_x hx hy hB k (.bl _)
theorem xe_gt (ha : XE X w a ρ (dS X.K (.int i))) (hb : XE X w b ρ (dS X.K (.int j))) : XE X w (.Compare a [.Gt] [b] pos) ρ (dS X.K (.bool (decide (j < i)))) := xe_cmp op_gt ha hb (nomark _) fun G H x y Q hB hx hy k => rI0_x hx hy hB k (.bl _)
theorem xe_ge (ha : XE X w a ρ (dS X.K (.int i))) (hb : XE X w b ρ (dS X.K (.int j))) : XE X w (.Compare a [.GtE] [b] pos) ρ (dS X.K (.bool (decide (j ≤ i)))) := xe_cmp op_ge ha hb (nomark _) fun G H x y Q hB hx hy k => rI0_x hx hy hB k (.bl _)
/-- == and != of data -/
theorem xe_eq {d d' : PyData} (hu : X.A.units + 64 < cLine) (ha : XE X w a ρ (dS X.K d)) (hb : XE X w b ρ (dS X.K d')) (h1 : SeqAt.shaped d = true) (h2 : SeqAt.shaped d' = true) : XE X w (.Compare a [.Eq] [b] pos) ρ (dS X.K (.bool (PyData.eqv d d'))) :=
  xe_cmp (op_eqD hu) ha hb (nomark _) fun G H x y Q hB hx hy k => ⟨d, d', dp_mono hB.sub _ _ hx, dp_mono hB.sub _ _ hy, h1, h2, nx0 k hB (.bl _)⟩
theorem xe_ne {d d' : PyData} (hu : X.A.units + 64 < cLine) (ha : XE X w a ρ (dS X.K d)) (hb : XE X w b ρ (dS X.K d')) (h1 : SeqAt.shaped d = true) (h2 : SeqAt.shaped d' = true) : XE X w (.Compare a [.NotEq] [b] pos) ρ (dS X.K (.bool (!PyData.eqv d d'))) :=
  xe_cmp (op_neD hu) ha hb (nomark _) fun G H x y Q hB hx hy k => ⟨d, d', dp_mono hB.sub _ _ hx, dp_mono hB.sub _ _ hy, h1, h2, nx0 k hB (.bl _)⟩
theorem xe_isN (ha : XE X w a ρ s) {k : Bool} {j : Nat} {p' : Pos} (h : ∀ G v, s.p G v → decide (v = .non) = k) : XE X w (.Compare a [.Is] [.Constant .none j p'] pos) ρ (dS X.K (.bool k)) :=
  xe_cmp op_isN ha (xe_non) (nomark _) fun G H x y Q hB hx hy q => ⟨dpNone hy, by rw [h G x hx]; exact nx0 q hB (.bl _)⟩
/-- items -/
theorem xe_ixT {ds : List PyData} {d : PyData} (ha : XE X w a ρ (dS X.K (.tuple ds))) (hb : XE X w b ρ (dS X.K (.int i))) (hs : PlainIx b) (h : atI ds i = some d) : XE X w (.Subscript a b pos) ρ (dS X.K d) :=
  xe_ix ix_tup ha hb hs fun G H x y Q hB hx hy k => by
    obtain ⟨p, xs, rfl, h1, h2⟩ := dpTup hx
    have hl := h2.len
    unfold atI at h
    obtain ⟨j, hj, hd⟩ := Option.bind_eq_some_iff.mp h
    obtain ⟨v, hv, hdv⟩ := h2.get hd
    exact ⟨p, xs, i, v, rfl, dpInt hy, ex_t hB.sub h1, by unfold atI; rw [hl, hj]; exact hv, nx0 k hB hdv⟩
theorem xe_ixL {ds : List PyData} {d : PyData} (ha : XE X w a ρ (dS X.K (.list ds))) (hb : XE X w b ρ (dS X.K (.int i))) (hs : PlainIx b) (h : atI ds i = some d) : XE X w (.Subscript a b pos) ρ (dS X.K d) :=
  xe_ix ix_list ha hb hs fun G H x y Q hB hx hy k => by
    obtain ⟨p, xs, rfl, h1, h2⟩ := dpLst hx
    have hl := h2.len
    unfold atI at h
    obtain ⟨j, hj, hd⟩ := Option.bind_eq_some_iff.mp h
    obtain ⟨v, hv, hdv⟩ := h2.get hd
    exact ⟨p, xs, i, v, rfl, dpInt hy, ex_l hB.sub h1, by unfold atI; rw [hl, hj]; exact hv, nx0 k hB hdv⟩
end
end K81
end

section
set_option Elab.async false
set_option linter.all false
set_option maxRecDepth 100000
/-! The layer of data, second part: tests, argument lists, calls, displays, comprehensions. -/
namespace K81
open PySem PySem.Spec PyProof.Rows L2

/-! ### tests -/
def tT (w : Wd) (ρ : Rho) (P : Bool → Prop) : TT := fun σ H Q => ∃ G, EnvD G σ ρ ∧ Bef w G H ∧ ∀ b G' H', Aft w G H G' H' → P b → Q b H'
abbrev XT (X : Cx) (w : Wd) (e : Expr) (ρ : Rho) (P : Bool → Prop) : Prop := PT X e (tT w ρ P)
abbrev XW (X : Cx) (w : Wd) (e : Expr) (ρ : Rho) (P : Bool → Prop) : Prop := PW X e (tT w ρ P)
section
variable {X : Cx} {w : Wd} {ρ : Rho} {e a b c : Expr} {rest : List Expr} {s sa sb : Sc} {pos : Pos} {P P1 P2 : Bool → Prop} {x y : Bool}
theorem pt_to {t : TT} (h : PT X e t) (k : ∀ σ H Q, tT w ρ P σ H Q → t σ H Q) : XT X w e ρ P := ⟨fun pins sh σ H Q I q => h.run pins sh σ H Q I (k σ H Q q)⟩
theorem pw_to {t : TT} (h : PW X e t) (k : ∀ σ H Q, tT w ρ P σ H Q → t σ H Q) : XW X w e ρ P := ⟨fun wh pins sh σ H Q I q => h.run wh pins sh σ H Q I (k σ H Q q)⟩
theorem xt_weak (h : XT X w e ρ P1) (k : ∀ b, P1 b → P2 b) : XT X w e ρ P2 := pt_to h fun σ H Q ⟨G, hE, hB, q⟩ => ⟨G, hE, hB, fun b G' H' A hb => q b G' H' A (k b hb)⟩
theorem xt_is {y : Bool} (h : XT X w e ρ (· = x)) (k : x = y) : XT X w e ρ (· = y) := k ▸ h
theorem xt_valP (h : XE X w e ρ (exS P fun b => dS X.K (.bool b))) (he : ∀ whole, isTrue e X.env whole = (do let v ← whole; standAt e.pos; holding [v] (truthy v)) := by intro _; rfl) : XT X w e ρ P :=
  pt_to (pt_val (pe_x h) he) fun σ H Q ⟨G, hE, hB, q⟩ => tX_then hE hB fun v G' H' A ⟨b, hP, hv⟩ => ⟨b, dpBool hv, q b G' H' A hP⟩
theorem xt_val (h : XE X w e ρ (dS X.K (.bool x))) (he : ∀ whole, isTrue e X.env whole = (do let v ← whole; standAt e.pos; holding [v] (truthy v)) := by intro _; rfl) : XT X w e ρ (· = x) :=
  pt_to (pt_val (pe_x h) he) fun σ H Q ⟨G, hE, hB, q⟩ => tX_then hE hB fun v G' H' A hv => ⟨x, dpBool hv, q x G' H' A rfl⟩
/-- one comparison, as a value and as a test -/
structure XC (X : Cx) (w : Wd) (op : CmpOp) (a b : Expr) (ρ : Rho) (s : Sc) : Prop where
  ex : ∃ (r : R2) (sa sb : Sc), OpR X (compareOp op) r ∧ XE X w a ρ sa ∧ XE X w b ρ sb ∧ behindInMarks op b = false ∧ ∀ G H x y Q, Bef w G H → sa.p G x → sb.p G y → Nx w G H s Q → r x y H Q
theorem xe_c {op : CmpOp} (h : XC X w op a b ρ s) : XE X w (.Compare a [op] [b] pos) ρ s := let ⟨_, _, _, h1, h2, h3, h4, h5⟩ := h.ex; xe_cmp h1 h2 h3 h4 h5
theorem xt_cP {op : CmpOp} (h : XC X w op a b ρ (exS P fun b => dS X.K (.bool b))) : XT X w (.Compare a [op] [b] pos) ρ P := by
  obtain ⟨r, sa, sb, h1, h2, h3, h4, h5⟩ := h.ex
  refine pt_to (pt_cmpR h1 (pe_x h2) (pe_x h3) h4) fun σ H Q ⟨G, hE, hB, q⟩ => ?_
  exact tX_then hE hB fun x G1 H1 A1 hx => tX_then (hE.mono A1.g) (hB.aft A1) fun y G2 H2 A2 hy =>
    h5 G2 H2 x y _ ((hB.aft A1).aft A2) (sa.mono A2.g hx) hy fun v G3 H3 A3 ⟨b, hP, hv⟩ => ⟨b, dpBool hv, q b G3 H3 ((A1.trans hB A2).trans hB A3) hP⟩
theorem xc_weak {op : CmpOp} {s' : Sc} (h : XC X w op a b ρ s) (k : ∀ G v, s.p G v → s'.p G v) : XC X w op a b ρ s' :=
  let ⟨r, sa, sb, h1, h2, h3, h4, h5⟩ := h.ex
  ⟨r, sa, sb, h1, h2, h3, h4, fun G H x y Q hB hx hy q => h5 G H x y Q hB hx hy fun v G' H' A hv => q v G' H' A (k _ _ hv)⟩
theorem xt_c {op : CmpOp} (h : XC X w op a b ρ (dS X.K (.bool x))) : XT X w (.Compare a [op] [b] pos) ρ (· = x) := xt_cP (xc_weak h fun _ _ hv => ⟨x, rfl, hv⟩)
section
variable {i j : Int}
theorem xc_lt (ha : XE X w a ρ (dS X.K (.int i))) (hb : XE X w b ρ (dS X.K (.int j))) : XC X w .Lt a b ρ (dS X.K (.bool (decide (i < j)))) := ⟨_, _, _, op_lt, ha, hb, nomark _, fun G H x y Q hB hx hy k => rI0_x hx hy hB k (.bl _)⟩
theorem xc_le (ha : XE X w a ρ (dS X.K (.int i))) (hb : XE X w b ρ (dS X.K (.int j))) : XC X w .LtE a b ρ (dS X.K (.bool (decide (i ≤ j)))) := ⟨_, _, _, op_le, ha, hb, nomark _, fun G H x y Q hB hx hy k => rI0_x hx hy hB k (.bl _)⟩
theorem xc_gt (ha : XE X w a ρ (dS X.K (.int i))) (hb : XE X w b ρ (dS X.K (.int j))) : XC X w .Gt a b ρ (dS X.K (.bool (decide (j < i)))) := ⟨_, _, _, op_gt, ha, hb, nomark _, fun G H x y Q hB hx hy k => rI0_x hx hy hB k (.bl _)⟩
theorem xc_ge (ha : XE X w a ρ (dS X.K (.int i))) (hb : XE X w b ρ (dS X.K (.int j))) : XC X w .GtE a b ρ (dS X.K (.bool (decide (j ≤ i)))) := ⟨_, _, _, op_ge, ha, hb, nomark _, fun G H x y Q hB hx hy k => rI0_x hx hy hB k (.bl _)⟩
theorem xc_eq {d d' : PyData} (hu : X.A.units + 64 < cLine) (ha : XE X w a ρ (dS X.K d)) (hb : XE X w b ρ (dS X.K d')) (h1 : SeqAt.shaped d = true) (h2 : SeqAt.shaped d' = true) : XC X w .Eq a b ρ (dS X.K (.bool (PyData.eqv d d'))) :=
  ⟨_, _, _, op_eqD hu, ha, hb, nomark _, fun G H x y Q hB hx hy k => ⟨d, d', dp_mono hB.sub _ _ hx, dp_mono hB.sub _ _ hy, h1, h2, nx0 k hB (.bl _)⟩⟩
theorem xc_ne {d d' : PyData} (hu : X.A.units + 64 < cLine) (ha : XE X w a ρ (dS X.K d)) (hb : XE X w b ρ (dS X.K d')) (h1 : SeqAt.shaped d = true) (h2 : SeqAt.shaped d' = true) : XC X w .NotEq a b ρ (dS X.K (.bool (!PyData.eqv d d'))) :=
  ⟨_, _, _, op_neD hu, ha, hb, nomark _, fun G H x y Q hB hx hy k => ⟨d, d', dp_mono hB.sub _ _ hx, dp_mono hB.sub _ _ hy, h1, h2, nx0 k hB (.bl _)⟩⟩
/-- of ints -/
theorem xc_eqI (ha : XE X w a ρ (dS X.K (.int i))) (hb : XE X w b ρ (dS X.K (.int j))) : XC X w .Eq a b ρ (dS X.K (.bool (decide (i = j)))) :=
  ⟨_, _, _, op_eq, ha, hb, nomark _, fun G H x y Q hB hx hy k => by
    rw [dpInt hx, dpInt hy]
    refine ⟨rfl, nx0 k hB ?_⟩
    rw [dec_int, show (i == j) = decide (i = j) from by rw [Bool.beq_eq_decide_eq]]
    exact .bl _⟩
theorem xc_neI (ha : XE X w a ρ (dS X.K (.int i))) (hb : XE X w b ρ (dS X.K (.int j))) : XC X w .NotEq a b ρ (dS X.K (.bool (!decide (i = j)))) :=
  ⟨_, _, _, op_ne, ha, hb, nomark _, fun G H x y Q hB hx hy k => by
    rw [dpInt hx, dpInt hy]
    refine ⟨rfl, nx0 k hB ?_⟩
    rw [dec_int, show (i == j) = decide (i = j) from by rw [Bool.beq_eq_decide_eq]]
    exact .bl _⟩
theorem xc_eqS {z z' : Str} (ha : XE X w a ρ (dS X.K (.str z))) (hb : XE X w b ρ (dS X.K (.str z'))) : XC X w .Eq a b ρ (dS X.K (.bool (decide (z = z')))) :=
  ⟨_, _, _, op_eq, ha, hb, nomark _, fun G H x y Q hB hx hy k => by
    rw [dpStr hx, dpStr hy]
    refine ⟨rfl, nx0 k hB ?_⟩
    have e : decide (V.str z = V.str z') = decide (z = z') := decide_eq_decide.mpr ⟨fun q => by injection q, fun q => by rw [q]⟩
    rw [e]
    exact .bl _⟩
theorem xc_isN {s : Sc} {k : Bool} {j : Nat} {p' : Pos} (ha : XE X w a ρ s) (h : ∀ G v, s.p G v → decide (v = .non) = k) : XC X w .Is a (.Constant .none j p') ρ (dS X.K (.bool k)) :=
  ⟨_, _, _, op_isN, ha, xe_non, nomark _, fun G H x y Q hB hx hy q => ⟨dpNone hy, by rw [h G x hx]; exact nx0 q hB (.bl _)⟩⟩
end
/-! and, or, not -/
theorem xt_not (h : XT X w a ρ (· = x)) : XT X w (.UnaryOp .Not a pos) ρ (· = !x) := pt_to (pt_not h) fun σ H Q ⟨G, hE, hB, q⟩ => ⟨G, hE, hB, fun b G' H' A hb => q _ G' H' A (by rw [hb])⟩
theorem xw_and1 (h : XT X w a ρ (· = x)) : XW X w (.BoolOp .And [a] pos) ρ (· = x) := pw_and1 h
theorem xw_or1 (h : XT X w a ρ (· = x)) : XW X w (.BoolOp .Or [a] pos) ρ (· = x) := pw_or1 h
theorem tT_then {σ : L2.St} {G H : Hp} {Q : Bool → Hp → Prop} (hE : EnvD G σ ρ) (hB : Bef w G H) (k : ∀ b G' H', Aft w G H G' H' → P b → Q b H') : tT w ρ P σ H Q := ⟨G, hE, hB, k⟩
theorem pw_later {t : TT} {Φ : Prop} (h : Φ → PW X e t) : PW X e (fun σ H Q => Φ ∧ t σ H Q) := ⟨fun wh pins s σ H Q I ⟨p, q⟩ => (h p).run wh pins s σ H Q I q⟩
theorem xw_and (ha : XT X w a ρ (· = x)) (hb : x = true → XW X w (.BoolOp .And (b :: rest) pos) ρ (· = y)) : XW X w (.BoolOp .And (a :: b :: rest) pos) ρ (· = (x && y)) :=
  pw_to (pw_and ha (pw_later hb)) fun σ H Q ⟨G, hE, hB, q⟩ => ⟨G, hE, hB, fun c G1 H1 A1 hc => by
    subst hc
    cases c with
    | false => exact q false G1 H1 A1 rfl
    | true => exact ⟨rfl, G1, hE.mono A1.g, hB.aft A1, fun b G2 H2 A2 hb => q b G2 H2 (A1.trans hB A2) hb⟩⟩
theorem xw_or (ha : XT X w a ρ (· = x)) (hb : x = false → XW X w (.BoolOp .Or (b :: rest) pos) ρ (· = y)) : XW X w (.BoolOp .Or (a :: b :: rest) pos) ρ (· = (x || y)) :=
  pw_to (pw_or ha (pw_later hb)) fun σ H Q ⟨G, hE, hB, q⟩ => ⟨G, hE, hB, fun c G1 H1 A1 hc => by
    subst hc
    cases c with
    | true => exact q true G1 H1 A1 rfl
    | false => exact ⟨rfl, G1, hE.mono A1.g, hB.aft A1, fun b G2 H2 A2 hb => q b G2 H2 (A1.trans hB A2) hb⟩⟩
theorem xt_w (h : XW X w a ρ P) : XT X w a ρ P := PW.pt h
/-- as values -/
theorem pe_later {t : TE} {Φ : Prop} (h : Φ → PE X e t) : PE X e (fun σ H Q => Φ ∧ t σ H Q) := ⟨fun pins s σ H Q I ⟨p, q⟩ => (h p).run pins s σ H Q I q⟩
theorem xe_one {op} (h : XE X w a ρ s) : XE X w (.BoolOp op [a] pos) ρ s := xe_of (pe_one (pe_x h)) fun σ G H hE hB => tX_then hE hB fun v G' H' A q => ⟨G', A, q⟩
theorem xe_and (ha : XE X w a ρ (dS X.K (.bool x))) (hb : x = true → XE X w (.BoolOp .And (b :: rest) pos) ρ (dS X.K (.bool y))) : XE X w (.BoolOp .And (a :: b :: rest) pos) ρ (dS X.K (.bool (x && y))) :=
  xe_of (pe_and (pe_x ha) (pe_later (Φ := x = true) fun h => pe_x (hb h))) fun σ G H hE hB => tX_then hE hB fun v G1 H1 A1 hv => ⟨x, dpBool hv, by
    cases x with
    | false => exact ⟨G1, A1, .bl false⟩
    | true => exact ⟨rfl, tX_then (hE.mono A1.g) (hB.aft A1) fun v2 G2 H2 A2 h2 => ⟨G2, A1.trans hB A2, h2⟩⟩⟩
theorem xe_or (ha : XE X w a ρ (dS X.K (.bool x))) (hb : x = false → XE X w (.BoolOp .Or (b :: rest) pos) ρ (dS X.K (.bool y))) : XE X w (.BoolOp .Or (a :: b :: rest) pos) ρ (dS X.K (.bool (x || y))) :=
  xe_of (pe_or (pe_x ha) (pe_later (Φ := x = false) fun h => pe_x (hb h))) fun σ G H hE hB => tX_then hE hB fun v G1 H1 A1 hv => ⟨x, dpBool hv, by
    cases x with
    | true => exact ⟨G1, A1, .bl true⟩
    | false => exact ⟨rfl, tX_then (hE.mono A1.g) (hB.aft A1) fun v2 G2 H2 A2 h2 => ⟨G2, A1.trans hB A2, h2⟩⟩⟩
theorem xe_not (ha : XE X w a ρ (dS X.K (.bool x))) : XE X w (.UnaryOp .Not a pos) ρ (dS X.K (.bool (!x))) :=
  xe_of (pe_not (pe_x ha)) fun σ G H hE hB => tX_then hE hB fun v G1 H1 A1 hv => ⟨x, dpBool hv, G1, A1, .bl _⟩
theorem xe_if (hc : XT X w c ρ P) (h1 : P true → XE X w a ρ s) (h2 : P false → XE X w b ρ s) : XE X w (.IfExp c a b pos) ρ s :=
  xe_of (pe_ifExp hc (pe_later fun h => pe_x (h1 h)) (pe_later fun h => pe_x (h2 h))) fun σ G H hE hB => tT_then hE hB fun k G1 H1 A1 hk => by
    cases k with
    | true => exact ⟨hk, tX_then (hE.mono A1.g) (hB.aft A1) fun v2 G2 H2 A2 q => ⟨G2, A1.trans hB A2, q⟩⟩
    | false => exact ⟨hk, tX_then (hE.mono A1.g) (hB.aft A1) fun v2 G2 H2 A2 q => ⟨G2, A1.trans hB A2, q⟩⟩
/-- i <= j <= k -/
theorem xe_le2 {i j k : Int} (ha : XE X w a ρ (dS X.K (.int i))) (hb : XE X w b ρ (dS X.K (.int j))) (hc : XE X w c ρ (dS X.K (.int k))) (hm : lastMarks [.LtE, .LtE] [b, c] = false := by with_unfolding_all rfl) : XE X w (.Compare a [.LtE, .LtE] [b, c] pos) ρ (dS X.K (.bool (decide (i ≤ j) && decide (j ≤ k)))) :=
  xe_of (pe_chain op_le op_le (pe_x ha) (pe_x hb) (pe_x hc) hm) fun σ G H hE hB => tX_then hE hB fun x G1 H1 A1 hx => tX_then (hE.mono A1.g) (hB.aft A1) fun y G2 H2 A2 hy => by
    refine ⟨i, j, dpInt hx, dpInt hy, decide (i ≤ j), rfl, ?_⟩
    cases decide (i ≤ j) with
    | false => exact ⟨G2, A1.trans hB A2, .bl false⟩
    | true =>
      refine tX_then ((hE.mono A1.g).mono A2.g) ((hB.aft A1).aft A2) fun z G3 H3 A3 hz => ?_
      exact ⟨j, k, dpInt hy, dpInt hz, G3, (A1.trans hB A2).trans hB A3, .bl _⟩
end

/-! ### argument lists, displays -/
def tA (w : Wd) (ρ : Rho) (ss : List Sc) : TA := fun σ H Q => ∃ G, EnvD G σ ρ ∧ Bef w G H ∧ ∀ vs G' H', Aft w G H G' H' → Alls G' vs ss → Q vs H'
abbrev XA (X : Cx) (w : Wd) (es : List Expr) (ρ : Rho) (ss : List Sc) : Prop := PA X es (tA w ρ ss)
/-- a tuple of such -/
def tupS (K : PySem.W.Frag) (ss : List Sc) : Sc := ⟨fun G v => ∃ a vs, v = .ref a ∧ SqT K G a vs ∧ Alls G vs ss, fun e ⟨a, vs, h1, h2, h3⟩ => ⟨a, vs, h1, ex_t e h2, h3.mono e⟩⟩
def lsS (K : PySem.W.Frag) (ss : List Sc) : Sc := ⟨fun G v => ∃ a vs, v = .ref a ∧ SqL K G a vs ∧ Alls G vs ss, fun e ⟨a, vs, h1, h2, h3⟩ => ⟨a, vs, h1, ex_l e h2, h3.mono e⟩⟩
theorem alls_dp {K : PySem.W.Frag} {G : Hp} : ∀ {ds : List PyData} {vs : List V}, Alls G vs (ds.map (dS K)) → DpAll K G vs ds
  | [], _, h => by cases h; exact .nil
  | d :: ds, _, h => by
    cases h with
    | cons h1 h2 => exact .cons h1 (alls_dp h2)
theorem dp_alls {K : PySem.W.Frag} {G : Hp} : ∀ {ds : List PyData} {vs : List V}, DpAll K G vs ds → Alls G vs (ds.map (dS K))
  | [], _, h => by cases h; exact .nil
  | d :: ds, _, h => by
    cases h with
    | cons h1 h2 => exact .cons h1 (dp_alls h2)
def tL (K : PySem.W.Frag) (w : Wd) (ρ : Rho) (P : List PyData → Prop) : TE := fun σ H Q => ∃ G, EnvD G σ ρ ∧ Bef w G H ∧ ∀ a vs ds G' H', Aft w G H G' H' → H a = none → G' a = none → H' a = some (.lst vs) → DpAll K G' vs ds → P ds → Q (.ref a) H'
/-- a new list of data -/
abbrev XL (X : Cx) (w : Wd) (e : Expr) (ρ : Rho) (P : List PyData → Prop) : Prop := PE X e (tL X.K w ρ P)
section
variable {X : Cx} {w : Wd} {ρ : Rho} {e : Expr} {es : List Expr} {s : Sc} {ss : List Sc} {pos : Pos} {P : List PyData → Prop} {ds : List PyData} {d : PyData}
theorem pa_to {t : TA} (h : PA X es t) (k : ∀ σ H Q, tA w ρ ss σ H Q → t σ H Q) : XA X w es ρ ss := ⟨fun pos pins sh σ H Q I q => h.run pos pins sh σ H Q I (k σ H Q q)⟩
theorem pe_to {t u : TE} (h : PE X e t) (k : ∀ σ H Q, u σ H Q → t σ H Q) : PE X e u := ⟨fun pins sh σ H Q I q => h.run pins sh σ H Q I (k σ H Q q)⟩
theorem xa_nil : XA X w [] ρ [] := pa_to pa_nil fun σ H Q ⟨G, hE, hB, q⟩ => q [] G H (.refl hB) .nil
theorem xa_cons (he : XE X w e ρ s) (hr : XA X w es ρ ss) (hs : starEach (e :: es) X.env = (false, eval e X.env) :: starEach es X.env := by rfl) : XA X w (e :: es) ρ (s :: ss) :=
  pa_to (pa_cons (pe_x he) hr hs) fun σ H Q ⟨G, hE, hB, q⟩ => tX_then hE hB fun v G1 H1 A1 hv => ⟨G1, hE.mono A1.g, hB.aft A1, fun vs G2 H2 A2 hvs => q (v :: vs) G2 H2 (A1.trans hB A2) (.cons (s.mono A2.g hv) hvs)⟩
theorem tA_then {σ : L2.St} {G H : Hp} {Q : List V → Hp → Prop} (hE : EnvD G σ ρ) (hB : Bef w G H) (k : ∀ vs G' H', Aft w G H G' H' → Alls G' vs ss → Q vs H') : tA w ρ ss σ H Q := ⟨G, hE, hB, k⟩
theorem xe_tupS {x1} (h : XA X w es ρ ss) (hz : ss.length ≤ 1000) : XE X w (.Tuple es x1 pos) ρ (tupS X.K ss) :=
  xe_of (pe_tup h) fun σ G H hE hB => tA_then hE hB fun vs G1 H1 A1 hv => ⟨by have := hv.len; rw [sizeLine_eq]; omega, fun p hp =>
    ⟨_, A1.trans hB (.new1 (hB.aft A1) hp), p, vs, rfl, SqT.of upd_same, hv.mono (.new ((hB.aft A1).sub.free hp))⟩⟩
theorem tupS_d {K : PySem.W.Frag} {ds : List PyData} {G : Hp} {v : V} (h : (tupS K (ds.map (dS K))).p G v) : (dS K (.tuple ds)).p G v := by
  obtain ⟨a, vs, rfl, h2, h3⟩ := h
  exact .tup h2 (alls_dp h3)
theorem xe_tup {x1} (ds : List PyData) (h : XA X w es ρ (ds.map (dS X.K))) (hz : ds.length ≤ 1000 := by exact Nat.le_of_ble_eq_true rfl) : XE X w (.Tuple es x1 pos) ρ (dS X.K (.tuple ds)) := xe_weak (xe_tupS h (by simpa using hz)) fun _ _ h => tupS_d h
theorem xe_lsS (h : XA X w es ρ ss) (hz : ss.length ≤ 1000) : XE X w (.List es pos) ρ (lsS X.K ss) :=
  xe_of (pe_lst h) fun σ G H hE hB => tA_then hE hB fun vs G1 H1 A1 hv => ⟨by have := hv.len; rw [sizeLine_eq]; omega, fun p hp =>
    ⟨_, A1.trans hB (.new1 (hB.aft A1) hp), p, vs, rfl, SqL.of upd_same, hv.mono (.new ((hB.aft A1).sub.free hp))⟩⟩
theorem xl_lst (ds : List PyData) (h : XA X w es ρ (ds.map (dS X.K))) (hz : ds.length ≤ 1000 := by exact Nat.le_of_ble_eq_true rfl) : XL X w (.List es pos) ρ (· = ds) :=
  pe_to (pe_lst h) fun σ H Q ⟨G, hE, hB, q⟩ => tA_then hE hB fun vs G1 H1 A1 hv => ⟨by have := hv.len; simp only [List.length_map] at this; rw [sizeLine_eq]; omega, fun p hp =>
    q p vs ds G1 _ (A1.trans hB (.newH (hB.aft A1) hp)) (by
      cases r : H p with
      | none => rfl
      | some o =>
        by_cases hc : w.at_ p
        · exact absurd hp (w.has A1.ok hc)
        · rw [A1.up p o hc r] at hp; cases hp) ((hB.aft A1).sub.free hp) upd_same (alls_dp hv) rfl⟩
theorem Aft.back {G H G' H' : Hp} {p : Addr} (A : Aft w G H G' H') (hp : H' p = none) : H p = none := by
  cases r : H p with
  | none => rfl
  | some o =>
    by_cases hc : w.at_ p
    · exact absurd hp (w.has A.ok hc)
    · rw [A.up p o hc r] at hp; cases hp
theorem xl_weak {P' : List PyData → Prop} (h : XL X w e ρ P) (k : ∀ ds, P ds → P' ds) : XL X w e ρ P' := pe_to h fun σ H Q ⟨G, hE, hB, q⟩ => ⟨G, hE, hB, fun a vs ds G' H' A h1 h2 h3 h4 h5 => q a vs ds G' H' A h1 h2 h3 h4 (k ds h5)⟩
/-- the new list, as one more thing that stands -/
theorem xl_frz {G H G' H' : Hp} {a : Addr} {vs : List V} (A : Aft w G H G' H') (h1 : H a = none) (h2 : G' a = none) (h3 : H' a = some (.lst vs)) : Aft w G H (upd G' a (.lst vs)) H' := by
  refine ⟨A.up, A.ok, A.g.trans (.new h2), fun b o e => ?_, fun b hb n => ?_⟩
  · by_cases eb : b = a
    · subst eb; rw [upd_same] at e; rw [h3]; exact e
    · rw [upd_ne eb] at e; exact A.sub b o e
  · by_cases eb : b = a
    · subst eb; exact h1
    · rw [upd_ne eb] at n; exact A.new b hb n
theorem xe_xl (h : XL X w e ρ P) : XE X w e ρ (exS P (tlS X.K)) := xe_of h fun σ G H hE hB => ⟨G, hE, hB, fun a vs ds G' H' A h1 h2 h3 h4 h5 =>
  ⟨_, xl_frz A h1 h2 h3, ds, h5, a, vs, rfl, upd_same, dpAll_mono (.new h2) _ _ h4⟩⟩
theorem xe_xl1 (h : XL X w e ρ (· = ds)) : XE X w e ρ (tlS X.K ds) := xe_weak (xe_xl h) fun _ _ ⟨_, e, q⟩ => e ▸ q
theorem xe_tl (h : XE X w e ρ (tlS X.K ds)) : XE X w e ρ (dS X.K (.list ds)) := xe_weak h fun _ _ => tl_d
theorem xe_ls (h : XE X w e ρ (dS X.K (.list ds))) : XE X w e ρ (lsS X.K (ds.map (dS X.K))) := xe_weak h fun _ _ h => by
  obtain ⟨a, xs, rfl, h1, h2⟩ := dpLst h
  exact ⟨a, xs, rfl, h1, dp_alls h2⟩
end

/-! ### calls -/
section
variable {X : Cx} {w : Wd} {ρ : Rho} {e : Expr} {es : List Expr} {s : Sc} {ss : List Sc} {p pos : Pos} {n : Str} {CX : CXT} {k : Nat} {ps : List Str} {sp : Sp}
/-- the module's name n is a def that keeps its promise -/
def Fnc (P : Program) (w : World) (K : PySem.W.Frag) (mg : Str → Option Value) (base : Heap) (CX : CXT) (k : Nat) (n : Str) (ps : List Str) (sp : Sp) : Prop :=
  ∃ f fd, mg n = some (.ref f) ∧ PySem.W.keepIn K (.ref f) = true ∧ Binds K fd ps [] ∧ FnOk P w K mg base CX k f fd ps sp
/-- x a ghost -/
def Pr {α : Type} (w' : α → Wd) (ok : α → Prop) (pre : α → List Sc) (post : α → Sc) : Sp := fun vs H Q _ => ∃ x G, ok x ∧ Bef (w' x) G H ∧ Alls G vs (pre x) ∧ Nx (w' x) G H (post x) Q
/-- .. a new list is handed back -/
def PrL {α : Type} (K : PySem.W.Frag) (w' : α → Wd) (ok : α → Prop) (pre : α → List Sc) (P : α → List PyData → Prop) : Sp := fun vs H Q _ => ∃ x G, ok x ∧ Bef (w' x) G H ∧ Alls G vs (pre x) ∧
  ∀ a us ds G' H', Aft (w' x) G H G' H' → H a = none → G' a = none → H' a = some (.lst us) → DpAll K G' us ds → P x ds → Q (.ref a) H'
theorem pe_fn {ta : TA} {E : XK} (F : Fnc X.prog X.w X.K X.mg X.base CX k n ps sp) (hr : Room k X.A) (hg : Gl X n) (hx : Passes CX X E) (ha : PA X (e :: es) ta) (hdb : (n == ("__debug__" : Str)) = false := by decide)
    (he : starEach (e :: es) X.env = (false, eval e X.env) :: starEach es X.env := by rfl) (hpl : (backTo pos (starEach es X.env)).any (·.1) = false := by rfl) : PE X (.Call (.Name n p) (e :: es) [] pos) (tCall sp [] E ta) := by
  obtain ⟨f, fd, hm, hk, hb, hF⟩ := F
  exact pe_call hF hr hg hm hk hb .nil hx ha hdb he hpl
variable {α : Type} {w' : α → Wd} {ok : α → Prop} {pre : α → List Sc} {post : α → Sc} {P : α → List PyData → Prop}
theorem xe_callG {E : XK} (F : Fnc X.prog X.w X.K X.mg X.base CX k n ps (Pr w' ok pre post)) (hr : Room k X.A) (hg : Gl X n) (hx : Passes CX X E) (ha : XA X w (e :: es) ρ ss)
    (sel : ∀ G H vs, Bef w G H → Alls G vs ss → ∃ x, ok x ∧ Bef (w' x) G H ∧ Alls G vs (pre x) ∧ ∀ Q, Nx w G H s Q → Nx (w' x) G H (post x) Q) (hdb : (n == ("__debug__" : Str)) = false := by decide)
    (he : starEach (e :: es) X.env = (false, eval e X.env) :: starEach es X.env := by rfl) (hpl : (backTo pos (starEach es X.env)).any (·.1) = false := by rfl) : XE X w (.Call (.Name n p) (e :: es) [] pos) ρ s :=
  xe_of (pe_fn F hr hg hx ha hdb he hpl) fun σ G H hE hB => tA_then hE hB fun vs G1 H1 A1 hv => by
    obtain ⟨x, h1, h2, h3, h4⟩ := sel G1 H1 vs (hB.aft A1) hv
    rw [List.append_nil]
    exact ⟨x, G1, h1, h2, h3, h4 _ fun v G2 H2 A2 q => ⟨G2, A1.trans hB A2, q⟩⟩
theorem nx_pure {G H : Hp} {Q : VK} (hB : Bef w G H) (k : Nx w G H s Q) : Nx w0 G H s Q := fun v G' H' A h => k v G' H' (A.ofPure hB) h
/-- a def that changes nothing, at the ghost x -/
theorem xe_call {E : XK} (x : α) (F : Fnc X.prog X.w X.K X.mg X.base CX k n ps (Pr (fun _ => w0) ok pre post)) (hr : Room k X.A) (hg : Gl X n) (hx : Passes CX X E) (hok : ok x) (ha : XA X w (e :: es) ρ (pre x)) (hdb : (n == ("__debug__" : Str)) = false := by decide)
    (he : starEach (e :: es) X.env = (false, eval e X.env) :: starEach es X.env := by rfl) (hpl : (backTo pos (starEach es X.env)).any (·.1) = false := by rfl) (hs : post x = s := by exact rfl) : XE X w (.Call (.Name n p) (e :: es) [] pos) ρ s :=
  hs ▸ xe_callG (s := post x) F hr hg hx ha (fun G H vs hB hv => ⟨x, hok, hB.pure, hv, fun Q q => nx_pure hB q⟩) hdb he hpl
/-- a def in the same world -/
theorem xe_callW {E : XK} (x : α) (F : Fnc X.prog X.w X.K X.mg X.base CX k n ps (Pr w' ok pre post)) (hr : Room k X.A) (hg : Gl X n) (hx : Passes CX X E) (hok : ok x) (hw : w' x = w) (ha : XA X w (e :: es) ρ (pre x)) (hdb : (n == ("__debug__" : Str)) = false := by decide)
    (he : starEach (e :: es) X.env = (false, eval e X.env) :: starEach es X.env := by rfl) (hpl : (backTo pos (starEach es X.env)).any (·.1) = false := by rfl) (hs : post x = s := by exact rfl) : XE X w (.Call (.Name n p) (e :: es) [] pos) ρ s :=
  hs ▸ xe_callG (s := post x) F hr hg hx ha (fun G H vs hB hv => ⟨x, hok, hw ▸ hB, hv, fun Q q => hw ▸ q⟩) hdb he hpl
theorem xl_call {E : XK} (x : α) (F : Fnc X.prog X.w X.K X.mg X.base CX k n ps (PrL X.K (fun _ => w0) ok pre P)) (hr : Room k X.A) (hg : Gl X n) (hx : Passes CX X E) (hok : ok x) (ha : XA X w (e :: es) ρ (pre x)) (hdb : (n == ("__debug__" : Str)) = false := by decide)
    (he : starEach (e :: es) X.env = (false, eval e X.env) :: starEach es X.env := by rfl) (hpl : (backTo pos (starEach es X.env)).any (·.1) = false := by rfl) : XL X w (.Call (.Name n p) (e :: es) [] pos) ρ (P x) :=
  pe_to (pe_fn F hr hg hx ha hdb he hpl) fun σ H Q ⟨G, hE, hB, q⟩ => tA_then hE hB fun vs G1 H1 A1 hv => by
    rw [List.append_nil]
    exact ⟨x, G1, hok, (hB.aft A1).pure, hv, fun a us ds G' H' A h1 h2 h3 h4 h5 => q a us ds G' H' (A1.trans hB (A.ofPure (hB.aft A1))) (A1.back h1) h2 h3 h4 h5⟩
/-- a built-in function, a built-in class -/
theorem xe_callB {id : String} {r : List V → Hp → VK → Prop} (hc : CallR X (.builtin id) r) (hg : Gl X n) (hm : X.mg n = none) (hv : bootBuiltins n = some (.builtin id)) (ha : XA X w (e :: es) ρ ss)
    (hr : ∀ G H vs Q, Bef w G H → Alls G vs ss → Nx w G H s Q → r vs H Q) (hn : n ≠ "__name__" := by decide) (hdb : (n == ("__debug__" : Str)) = false := by decide)
    (he : starEach (e :: es) X.env = (false, eval e X.env) :: starEach es X.env := by rfl) (hpl : (backTo pos (starEach es X.env)).any (·.1) = false := by rfl) : XE X w (.Call (.Name n p) (e :: es) [] pos) ρ s :=
  xe_of (pe_callB hc hg hm hv ha hn hdb he hpl) fun σ G H hE hB => tA_then hE hB fun vs G1 H1 A1 hv => hr G1 H1 vs _ (hB.aft A1) hv fun v G2 H2 A2 q => ⟨G2, A1.trans hB A2, q⟩
theorem xe_callT {T : String} {r : List V → Hp → VK → Prop} (hc : CallR X (.type T) r) (hg : Gl X n) (hm : X.mg n = none) (hv : bootBuiltins n = some (.type T)) (ha : XA X w (e :: es) ρ ss)
    (hr : ∀ G H vs Q, Bef w G H → Alls G vs ss → Nx w G H s Q → r vs H Q) (hn : n ≠ "__name__" := by decide) (hdb : (n == ("__debug__" : Str)) = false := by decide)
    (he : starEach (e :: es) X.env = (false, eval e X.env) :: starEach es X.env := by rfl) (hpl : (backTo pos (starEach es X.env)).any (·.1) = false := by rfl) : XE X w (.Call (.Name n p) (e :: es) [] pos) ρ s :=
  xe_of (pe_callTy hc hg hm hv ha hn hdb he hpl) fun σ G H hE hB => tA_then hE hB fun vs G1 H1 A1 hv => hr G1 H1 vs _ (hB.aft A1) hv fun v G2 H2 A2 q => ⟨G2, A1.trans hB A2, q⟩
theorem xl_callB {id : String} {r : List V → Hp → VK → Prop} {P : List PyData → Prop} (hc : CallR X (.builtin id) r) (hg : Gl X n) (hm : X.mg n = none) (hv : bootBuiltins n = some (.builtin id)) (ha : XA X w (e :: es) ρ ss)
    (hr : ∀ G H vs Q, Bef w G H → Alls G vs ss → (∀ a us ds, H a = none → DpAll X.K G us ds → P ds → Q (.ref a) (upd H a (.lst us))) → r vs H Q) (hn : n ≠ "__name__" := by decide) (hdb : (n == ("__debug__" : Str)) = false := by decide)
    (he : starEach (e :: es) X.env = (false, eval e X.env) :: starEach es X.env := by rfl) (hpl : (backTo pos (starEach es X.env)).any (·.1) = false := by rfl) : XL X w (.Call (.Name n p) (e :: es) [] pos) ρ P :=
  pe_to (pe_callB hc hg hm hv ha hn hdb he hpl) fun σ H Q ⟨G, hE, hB, q⟩ => tA_then hE hB fun vs G1 H1 A1 hv => hr G1 H1 vs _ (hB.aft A1) hv fun a us ds h1 h2 h3 =>
    q a us ds G1 _ (A1.trans hB (.newH (hB.aft A1) h1)) (A1.back h1) ((hB.aft A1).sub.free h1) upd_same h2 h3
theorem xl_callT {T : String} {r : List V → Hp → VK → Prop} {P : List PyData → Prop} (hc : CallR X (.type T) r) (hg : Gl X n) (hm : X.mg n = none) (hv : bootBuiltins n = some (.type T)) (ha : XA X w (e :: es) ρ ss)
    (hr : ∀ G H vs Q, Bef w G H → Alls G vs ss → (∀ a us ds, H a = none → DpAll X.K G us ds → P ds → Q (.ref a) (upd H a (.lst us))) → r vs H Q) (hn : n ≠ "__name__" := by decide) (hdb : (n == ("__debug__" : Str)) = false := by decide)
    (he : starEach (e :: es) X.env = (false, eval e X.env) :: starEach es X.env := by rfl) (hpl : (backTo pos (starEach es X.env)).any (·.1) = false := by rfl) : XL X w (.Call (.Name n p) (e :: es) [] pos) ρ P :=
  pe_to (pe_callTy hc hg hm hv ha hn hdb he hpl) fun σ H Q ⟨G, hE, hB, q⟩ => tA_then hE hB fun vs G1 H1 A1 hv => hr G1 H1 vs _ (hB.aft A1) hv fun a us ds h1 h2 h3 =>
    q a us ds G1 _ (A1.trans hB (.newH (hB.aft A1) h1)) (A1.back h1) ((hB.aft A1).sub.free h1) upd_same h2 h3
end
end K81
end

section
set_option Elab.async false
set_option linter.all false
set_option maxRecDepth 100000
/-! The layer of data, third part: what is walked, comprehensions. -/
namespace K81
open PySem PySem.Spec PyProof.Rows L2

def YS (G0 : Hp) (Y : Nat → Sc) : Nat → Hp → V → Hp → Prop := fun i H1 x H2 => ∀ (w : Wd) (G1 : Hp), Ex G0 G1 → Bef w G1 H1 → ∃ G2, Aft w G1 H1 G2 H2 ∧ (Y i).p G2 x
def tI (w : Wd) (ρ : Rho) (PN : Nat → Prop) (Y : Nat → Sc) : TI := fun σ H R => ∃ G, EnvD G σ ρ ∧ Bef w G H ∧ ∀ J n G' H', Aft w G H G' H' → PN n → Walk J n (fun H2 => Ex G' H2) (YS G' Y) → R J H'
abbrev XI (X : Cx) (w : Wd) (tg iter : Expr) (ρ : Rho) (PN : Nat → Prop) (Y : Nat → Sc) : Prop := PI X tg iter (tI w ρ PN Y)
def anyS : Sc := ⟨fun _ _ => True, fun _ h => h⟩
section
variable {X : Cx} {w : Wd} {ρ : Rho} {e a tg : Expr} {s : Sc} {ss : List Sc} {p pos : Pos} {ds : List PyData} {PN : Nat → Prop} {Y : Nat → Sc}
theorem pi_to {wi : TI} (h : PI X tg e wi) (k : ∀ σ H R, tI w ρ PN Y σ H R → wi σ H R) : XI X w tg e ρ PN Y := ⟨fun pins s σ H R I q => h.run pins s σ H R I (k σ H R q)⟩
theorem xi_list (h : XE X w e ρ (lsS X.K ss)) : XI X w tg e ρ (· = ss.length) (fun i => ss.getD i anyS) :=
  pi_to (pi_list (pe_x h)) fun σ H R ⟨G, hE, hB, q⟩ => tX_then hE hB fun v G1 H1 A1 ⟨a, vs, ev, hl, ha⟩ => by
    refine ⟨a, ev, ⟨vs, ex_l A1.sub hl⟩, q _ ss.length G1 H1 A1 rfl ?_⟩
    rw [← ha.len]
    refine walk_list.mono (fun H2 e => ex_l e hl) fun i H2 x H3 hi e y => ?_
    obtain ⟨rfl, hx⟩ := y
    intro w2 G2 e2 B2
    refine ⟨G2, .refl B2, ?_⟩
    obtain ⟨s, hs⟩ : ∃ s, ss[i]? = some s := ⟨_, List.getElem?_eq_getElem (by rw [← ha.len]; exact hi)⟩
    obtain ⟨v', h1, h2⟩ := ha.get hs
    rw [hx] at h1
    cases h1
    have e3 : ss.getD i anyS = s := by rw [List.getD_eq_getElem?_getD, hs]; rfl
    show (ss.getD i anyS).p G2 x
    rw [e3]
    exact s.mono e2 h2
theorem getD_map (ds : List PyData) (i : Nat) (K : PySem.W.Frag) (hi : i < ds.length) : (ds.map (dS K)).getD i anyS = dS K (ds.getD i .none) := by
  rw [List.getD_eq_getElem?_getD, List.getD_eq_getElem?_getD, List.getElem?_map, List.getElem?_eq_getElem hi]
  rfl
theorem xi_weak {Y' : Nat → Sc} (h : XI X w tg e ρ PN Y) (k : ∀ n i G v, PN n → i < n → (Y i).p G v → (Y' i).p G v) : XI X w tg e ρ PN Y' := pi_to h fun σ H R ⟨G, hE, hB, q⟩ => ⟨G, hE, hB, fun J n G' H' A hn W =>
  q J n G' H' A hn (W.mono (fun _ z => z) fun i H1 x H2 hi _ y w2 G2 e2 B2 => let ⟨G3, A3, h3⟩ := y w2 G2 e2 B2; ⟨G3, A3, k n i _ _ hn hi h3⟩)⟩
theorem xi_listD (h : XE X w e ρ (dS X.K (.list ds))) : XI X w tg e ρ (· = ds.length) (fun i => dS X.K (ds.getD i .none)) := by
  have h1 := xi_list (tg := tg) (xe_ls h)
  rw [List.length_map] at h1
  exact xi_weak h1 fun n i G v hn hi q => by
    rw [getD_map ds i X.K (hn ▸ hi)] at q
    exact q
theorem xi_tupD (h : XE X w e ρ (dS X.K (.tuple ds))) : XI X w tg e ρ (· = ds.length) (fun i => dS X.K (ds.getD i .none)) :=
  pi_to (pi_tup (pe_x h)) fun σ H R ⟨G, hE, hB, q⟩ => tX_then hE hB fun v G1 H1 A1 hv => by
    obtain ⟨a, vs, ev, hl, ha⟩ := dpTup hv
    refine ⟨a, ev, ⟨vs, ex_t A1.sub hl⟩, q _ ds.length G1 H1 A1 rfl ?_⟩
    rw [← ha.len]
    refine walk_tup.mono (fun H2 e => ex_t e hl) fun i H2 x H3 hi e y => ?_
    obtain ⟨rfl, hx⟩ := y
    intro w2 G2 e2 B2
    refine ⟨G2, .refl B2, ?_⟩
    obtain ⟨d, hd, hp⟩ := ha.getV hx
    have e3 : ds.getD i .none = d := by rw [List.getD_eq_getElem?_getD, hd]; rfl
    show Dp X.K G2 x (ds.getD i .none)
    rw [e3]
    exact dp_mono e2 _ _ hp
theorem xi_range (hg : Gl X "range") (hm : X.mg "range" = none) (h : XE X w a ρ (exS PN fun n : Nat => dS X.K (.int n))) (hz : ∀ n, PN n → (n : Int) < 2 ^ 62) (hs : starEach [a] X.env = [(false, eval a X.env)] := by rfl) (hs0 : starEach [a] X.env = (false, eval a X.env) :: starEach [] X.env := by rfl) :
    XI X w tg (.Call (.Name "range" p) [a] [] pos) ρ PN (fun i => dS X.K (.int i)) :=
  pi_to (pi_range1 hg hm (xa_cons h xa_nil hs0) hs) fun σ H R ⟨G, hE, hB, q⟩ => tA_then hE hB fun vs G1 H1 A1 hv => by
    cases hv with
    | cons h1 h2 =>
      cases h2
      obtain ⟨n, hn, h3⟩ := h1
      rw [dpInt h3]
      refine ⟨n, rfl, by have := Int.natCast_nonneg n; omega, hz n hn, q _ n G1 H1 A1 hn ?_⟩
      have e0 : (n : Int).toNat = n := rfl
      rw [e0]
      refine walk_range.mono (fun _ _ => True.intro) fun i H2 x H3 hi e y => ?_
      obtain ⟨rfl, rfl⟩ := y
      intro w2 G2 e2 B2
      refine ⟨G2, .refl B2, ?_⟩
      show Dp X.K G2 (.int (0 + (i : Int))) (.int i)
      rw [Int.zero_add]
      exact .int _
theorem xi_range1 {n : Nat} (hg : Gl X "range") (hm : X.mg "range" = none) (h : XE X w a ρ (dS X.K (.int n))) (hz : (n : Int) < 2 ^ 62) (hs : starEach [a] X.env = [(false, eval a X.env)] := by rfl) (hs0 : starEach [a] X.env = (false, eval a X.env) :: starEach [] X.env := by rfl) :
    XI X w tg (.Call (.Name "range" p) [a] [] pos) ρ (· = n) (fun i => dS X.K (.int i)) :=
  xi_range hg hm (xe_weak h fun G v hv => ⟨n, rfl, hv⟩) (fun m hm => by rw [hm]; exact hz) hs hs0
end

/-! ### wiped slots -/
def wipeR (ρ : Rho) : List Nat → Rho
  | [] => ρ
  | v :: vs => (wipeR ρ vs).set v .no
theorem wipe_get {σ : L2.St} {i : Nat} : ∀ {vs : List Nat}, i < σ.length → (wipe σ vs)[i]? = if i ∈ vs then some none else σ[i]?
  | [], hi => by simp [wipe]
  | v :: vs, hi => by
    unfold wipe
    by_cases e : v = i
    · subst e
      rw [List.getElem?_set_self (by rw [wipe_length]; exact hi)]
      simp
    · rw [List.getElem?_set_ne e, wipe_get hi]
      have : i ∈ v :: vs ↔ i ∈ vs := by simp [Ne.symm e]
      simp only [this]
theorem wipe_set {σ : L2.St} {j : Nat} {x : Option V} : ∀ {vs : List Nat}, j ∈ vs → wipe (σ.set j x) vs = wipe σ vs := fun {vs} hj => by
  refine List.ext_getElem? fun i => ?_
  by_cases hi : i < σ.length
  · rw [wipe_get (by simpa using hi), wipe_get hi]
    by_cases e : j = i
    · subst e; simp [hj]
    · rw [List.getElem?_set_ne e]
  · rw [List.getElem?_eq_none (by rw [wipe_length]; simp; omega), List.getElem?_eq_none (by rw [wipe_length]; omega)]
theorem wipe_wipe {σ : L2.St} {vs : List Nat} : wipe (wipe σ vs) vs = wipe σ vs := by
  refine List.ext_getElem? fun i => ?_
  by_cases hi : i < σ.length
  · rw [wipe_get (by rw [wipe_length]; exact hi), wipe_get hi]
    split <;> rfl
  · rw [List.getElem?_eq_none (by rw [wipe_length, wipe_length]; omega), List.getElem?_eq_none (by rw [wipe_length]; omega)]
theorem wipeR_length (ρ : Rho) : ∀ vs : List Nat, (wipeR ρ vs).length = ρ.length
  | [] => rfl
  | v :: vs => by unfold wipeR; rw [List.length_set, wipeR_length ρ vs]
theorem EnvD.wipe {G : Hp} {σ : L2.St} {ρ : Rho} (h : EnvD G σ ρ) : ∀ vs : List Nat, EnvD G (L2.wipe σ vs) (wipeR ρ vs)
  | [] => h
  | v :: vs => ⟨by rw [wipe_length, wipeR_length]; exact h.len, fun i s q => by
    unfold wipeR at q
    unfold L2.wipe
    by_cases e : v = i
    · subst e
      rw [List.getElem?_set] at q
      split at q
      · split at q <;> cases q
      · exact absurd rfl ‹_›
    · rw [List.getElem?_set_ne e] at q
      obtain ⟨u, a, b⟩ := (EnvD.wipe h vs).get i s q
      exact ⟨u, by rw [List.getElem?_set_ne e]; exact a, b⟩⟩

/-! ### targets -/
/-- the target g puts a value that is s where ρ' wants it -/
structure GS (vs : List Nat) (g : TG) (s : Sc) (ρ ρ' : Rho) : Prop where
  go : ∀ (w : Wd) (G H : Hp) (σ : L2.St) (x : V) (Q : L2.St → Hp → Prop), (∀ j ∈ vs, j < ρ.length) → Bef w G H → EnvD G σ ρ → s.p G x → (∀ σ', σ'.length = σ.length → EnvD G σ' ρ' → (∀ ws : List Nat, (∀ j ∈ vs, j ∈ ws) → L2.wipe σ' ws = L2.wipe σ ws) → (∀ (as : List Addr), EnvO as σ ρ → EnvO as σ' ρ') → Q σ' H) → g x σ H Q
theorem gs_name {j : Nat} {s : Sc} {ρ : Rho} : GS [j] (gName j) s ρ (ρ.set j (.dat s)) := ⟨fun w G H σ x Q hj hB hE hx k =>
  k _ (by simp) (hE.set (hj j (by simp)) hx) (fun ws h => wipe_set (h j (by simp))) fun as hO => hO.set⟩
theorem gs_pair {X : Cx} {i j : Nat} {ρ : Rho} {d d' : PyData} : GS [i, j] (gTup X.K 2 (gCons (gName i) (gCons (gName j) gNil))) (dS X.K (.tuple [d, d'])) ρ ((ρ.set i (.dat (dS X.K d))).set j (.dat (dS X.K d'))) := ⟨fun w G H σ x Q hj hB hE hx k => by
  obtain ⟨a, xs, rfl, h1, h2⟩ := dpTup hx
  cases h2 with
  | cons q1 h2 =>
    cases h2 with
    | cons q2 h2 =>
      cases h2
      refine ⟨a, _, rfl, ex_t hB.sub h1, rfl, _, _, rfl, _, _, rfl, rfl, ?_⟩
      refine k _ (by simp) ((hE.set (hj i (by simp)) q1).set (by simpa using hj j (by simp)) q2) (fun ws h => ?_) fun as hO => hO.set.set
      rw [wipe_set (h j (by simp)), wipe_set (h i (by simp))]⟩

/-! ### list comprehensions -/
/-- which turns give, and what -/
def Lc (n : Nat) (f : Nat → Bool) (P : Nat → PyData → Prop) (ds : List PyData) : Prop := ∃ g : Nat → PyData, (∀ i, i < n → f i = true → P i (g i)) ∧ ds = ((List.range n).filter f).map g
theorem Lc.zero {f : Nat → Bool} {P : Nat → PyData → Prop} : Lc 0 f P [] := ⟨fun _ => .none, fun i h => absurd h (Nat.not_lt_zero i), rfl⟩
theorem Lc.yes {n : Nat} {f : Nat → Bool} {P : Nat → PyData → Prop} {ds : List PyData} {d : PyData} (h : Lc n f P ds) (hf : f n = true) (hd : P n d) : Lc (n + 1) f P (ds ++ [d]) := by
  obtain ⟨g, h1, rfl⟩ := h
  refine ⟨fun i => if i = n then d else g i, fun i hi hfi => ?_, ?_⟩
  · by_cases e : i = n
    · subst e; simpa using hd
    · simp only [if_neg e]; exact h1 i (by omega) hfi
  · rw [List.range_succ, List.filter_append, List.map_append]
    congr 1
    · refine List.map_congr_left fun i hi => ?_
      have := List.mem_range.mp (List.mem_filter.mp hi).1
      rw [if_neg (by omega)]
    · simp [hf]
theorem Lc.nope {n : Nat} {f : Nat → Bool} {P : Nat → PyData → Prop} {ds : List PyData} (h : Lc n f P ds) (hf : f n = false) : Lc (n + 1) f P ds := by
  obtain ⟨g, h1, rfl⟩ := h
  refine ⟨g, fun i hi hfi => h1 i ?_ hfi, ?_⟩
  · by_cases e : i = n
    · subst e; rw [hf] at hfi; cases hfi
    · omega
  · rw [List.range_succ, List.filter_append, List.map_append]
    simp [hf]
theorem Lc.len {n : Nat} {f : Nat → Bool} {P : Nat → PyData → Prop} {ds : List PyData} (h : Lc n f P ds) : ds.length ≤ n := by
  obtain ⟨g, h1, rfl⟩ := h
  have := List.length_filter_le f (List.range n)
  rw [List.length_range] at this
  rw [List.length_map]
  exact this
def tEx {ι : Type} (t : ι → TE) : TE := fun σ H Q => ∃ i, t i σ H Q
def tExT {ι : Type} (t : ι → TT) : TT := fun σ H Q => ∃ i, t i σ H Q
theorem pe_ex {ι : Type} {X : Cx} {e : Expr} {t : ι → TE} (h : ∀ i, PE X e (t i)) : PE X e (tEx t) := ⟨fun pins s σ H Q I ⟨i, q⟩ => (h i).run pins s σ H Q I q⟩
theorem pts_ex {ι : Type} {X : Cx} {es : List Expr} {t : ι → TT} (h : ∀ i, PTs X es (t i)) : PTs X es (tExT t) := ⟨fun pins s σ H Q I ⟨i, q⟩ => (h i).run pins s σ H Q I q⟩
/-- the tests of a comprehension -/
abbrev XTs (X : Cx) (w : Wd) (es : List Expr) (ρ : Rho) (P : Bool → Prop) : Prop := PTs X es (tT w ρ P)
theorem xts_nil {X : Cx} {w : Wd} {ρ : Rho} : XTs X w [] ρ (· = true) := ⟨fun pins s σ H Q I ⟨G, hE, hB, q⟩ => pts_nil.run pins s σ H Q I (q true G H (.refl hB) rfl)⟩
theorem xts_one {X : Cx} {w : Wd} {ρ : Rho} {c : Expr} {P : Bool → Prop} (h : XT X w c ρ P) : XTs X w [c] ρ P := pts_one h
section
variable {X : Cx} {w : Wd} {ρ : Rho} {elt tg iter : Expr} {ifs : List Expr} {scope : Scope} {own : List (Str × Nat)} {p pos : Pos} {PN : Nat → Prop} {Y : Nat → Sc}
/-- the turn that stands at n, i below it -/
def Turns (PN : Nat → Prop) : Type := { i : Nat // ∃ n, PN n ∧ i < n }
theorem lc_turns {g : TG} {f : Nat → Bool} {ρ' : Nat → Rho} {P : Nat → PyData → Prop} {vs gv : List Nat} {σ : L2.St} {G H : Hp} {J : It} {n : Nat} {Q : VK} (hB : Bef w G H) (hE : EnvD G σ ρ) (hn : PN n) (hz : n ≤ 100000) (hl : ∀ j ∈ gv, j < ρ.length) (hgv : ∀ j ∈ gv, j ∈ vs)
    (W : Walk J n (fun H2 => Ex G H2) (YS G Y)) (hg : ∀ i, i < n → GS gv g (Y i) (wipeR ρ vs) (ρ' i)) (Dl : Addr) (hD : H Dl = none)
    (k : ∀ us ds G' H', Aft w G H G' H' → G' Dl = none → H' Dl = some (.lst us) → DpAll X.K G' us ds → Lc n f P ds → Q (.ref Dl) H') :
    ∃ W : Nat → Nat → Hp → Prop, (∃ m, W 0 m (upd H Dl (.lst []))) ∧ ∀ i m H2, W i m H2 →
      (J.stop i H2 ∧ Q (.ref Dl) H2) ∨ (J.go i H2 ∧ ∃ Nn : Hp → Prop, (∀ H', Nn H' → ∃ m', m' < m ∧ W (i + 1) m' H') ∧ ∀ x H', J.yld i H2 x H' → g x (wipe σ vs) H' fun σ2 H3 => wipe σ2 vs = wipe σ vs ∧ tExT (fun i : Turns PN => tT w (ρ' i.1) (· = f i.1)) σ2 H3 fun b H4 =>
        if b = true then tEx (fun i : { i : Turns PN // f i.1 = true } => tX w (ρ' i.1.1) (exS (P i.1.1) (dS X.K))) σ2 H4 fun y H5 => ∃ acc, H5 Dl = some (.lst acc) ∧ acc.length < sizeLine ∧ Nn (upd H5 Dl (.lst (acc ++ [y]))) else Nn H4) := by
  have gD : G Dl = none := hB.sub.free hD
  have nD : ¬ w.at_ Dl := fun z => w.has hB.ok z hD
  refine lc_it W (fun i H2 => ∃ G2 us ds, Aft w G H G2 H2 ∧ G2 Dl = none ∧ H2 Dl = some (.lst us) ∧ DpAll X.K G2 us ds ∧ Lc i f P ds) ⟨G, [], [], .newH hB hD, gD, upd_same, .nil, .zero⟩ (fun i H2 _ ⟨G2, us, ds, A, _⟩ => A.g.trans A.sub) ?_ fun H2 ⟨G2, us, ds, A, h1, h2, h3, h4⟩ => k us ds G2 H2 A h1 h2 h3 h4
  rintro i x H2 H3 hi ⟨G2, us, ds, A, h1, h2, h3, h4⟩ y
  have B2 := hB.aft A
  obtain ⟨G3, A3, hx⟩ := y w G2 A.g B2
  have B3 := B2.aft A3
  have d3 : H3 Dl = some (.lst us) := A3.up Dl _ nD h2
  have g3 : G3 Dl = none := by
    cases q : G3 Dl with
    | none => rfl
    | some o => rw [A3.new Dl h1 (by rw [q]; exact fun z => nomatch z)] at h2; cases h2
  refine (hg i hi).go w G3 H3 (wipe σ vs) x _ (fun j hj => by rw [wipeR_length]; exact hl j hj) B3 ((hE.wipe vs).mono (A.g.trans A3.g)) hx fun σ2 hl2 hE2 hw _ => ⟨by rw [hw vs hgv, wipe_wipe], ⟨i, n, hn, hi⟩, G3, hE2, B3, fun b G4 H4 A4 hb => ?_⟩
  subst hb
  have B4 := B3.aft A4
  have d4 : H4 Dl = some (.lst us) := A4.up Dl _ nD d3
  have g4 : G4 Dl = none := by
    cases q : G4 Dl with
    | none => rfl
    | some o => rw [A4.new Dl g3 (by rw [q]; exact fun z => nomatch z)] at d3; cases d3
  have A24 := (A.trans hB A3).trans hB A4
  cases hf : f i with
  | false =>
    simp only [hf, Bool.false_eq_true, if_false]
    exact ⟨G4, us, ds, A24, g4, d4, dpAll_mono (A3.g.trans A4.g) _ _ h3, h4.nope hf⟩
  | true =>
    simp only [hf, if_true]
    refine ⟨⟨⟨i, n, hn, hi⟩, hf⟩, G4, hE2.mono A4.g, B4, fun v G5 H5 A5 ⟨d, hd, hv⟩ => ?_⟩
    have d5 : H5 Dl = some (.lst us) := A5.up Dl _ nD d4
    have g5 : G5 Dl = none := by
      cases q : G5 Dl with
      | none => rfl
      | some o => rw [A5.new Dl g4 (by rw [q]; exact fun z => nomatch z)] at d4; cases d4
    have A25 := A24.trans hB A5
    have hlen : us.length ≤ i := by
      rw [h3.len]
      exact h4.len
    refine ⟨us, d5, by rw [sizeLine_eq]; omega, G5, us ++ [v], ds ++ [d], ?_, g5, upd_same, dpa_append (dpAll_mono ((A3.g.trans A4.g).trans A5.g) _ _ h3) (.cons hv .nil), h4.yes hf hd⟩
    refine ⟨fun b o nb e => ?_, ?_, A25.g, fun b o e => ?_, A25.new⟩
    · rw [upd_ne (ne_of_none e hD)]; exact A25.up b o nb e
    · exact w.other A25.ok fun z => w.hasD hB.ok z hD
    · rw [upd_ne (ne_of_none e g5)]; exact A25.sub b o e
theorem xl_lc {g : TG} {f : Nat → Bool} {ρ' : Nat → Rho} {P : Nat → PyData → Prop} {gv : List Nat} (hc : X.calm = true) (hN : X.N.Nodup) (hi : XI X w tg iter ρ PN Y) (hz : ∀ n, PN n → n ≤ 100000) (ok : BlkOk X.N X.env.scope scope own)
    (hgv : ∀ j ∈ gv, j ∈ own.map (·.2)) (hl : ∀ j ∈ gv, j < ρ.length) (hpg : ∀ (s : Shared) (H : Hp) (C : Addr) (cl : List (Str × Addr)) (fp : List Addr), PG (X.blk s H scope (compEnvC scope cl C X.env) fp) tg g)
    (hg : ∀ n i, PN n → i < n → GS gv g (Y i) (wipeR ρ (own.map (·.2))) (ρ' i))
    (ht : ∀ n i, PN n → i < n → ∀ (s : Shared) (H : Hp) (C : Addr) (cl : List (Str × Addr)) (fp : List Addr), XTs (X.blk s H scope (compEnvC scope cl C X.env) fp) w ifs (ρ' i) (· = f i))
    (he : ∀ n i, PN n → i < n → f i = true → ∀ (s : Shared) (H : Hp) (C : Addr) (cl : List (Str × Addr)) (fp : List Addr), XE (X.blk s H scope (compEnvC scope cl C X.env) fp) w elt (ρ' i) (exS (P i) (dS X.K)))
    (hs : ∀ x, foldedSetIterable iter X.env x = pure x := by intro _; rfl) : XL X w (.ListComp elt [⟨tg, iter, ifs, 0⟩] scope pos) ρ (fun ds => ∃ n, PN n ∧ Lc n f P ds) :=
  pe_to (pe_lc hc hN hi ok hpg (fun s H C cl fp => pts_ex fun i : Turns PN => ht _ i.1 i.2.choose_spec.1 i.2.choose_spec.2 s H C cl fp) (fun s H C cl fp => pe_ex fun i : { i : Turns PN // f i.1 = true } => pe_x (he _ i.1.1 i.1.2.choose_spec.1 i.1.2.choose_spec.2 i.2 s H C cl fp)) hs)
    fun σ H Q ⟨G, hE, hB, q⟩ => ⟨G, hE, hB, fun J n G' H' A hn W Dl hD => lc_turns (hB.aft A) (hE.mono A.g) hn (hz n hn) hl hgv W (fun i hi => hg n i hn hi) Dl hD fun us ds G2 H2 A2 h1 h2 h3 h4 => q Dl us ds G2 H2 (A.trans hB A2) (A.back hD) h1 h2 h3 ⟨n, hn, h4⟩⟩
end
end K81
end

section
set_option Elab.async false
set_option linter.all false
set_option maxRecDepth 100000
/-! The layer of data, fourth part: statements, loops, defs. -/
namespace K81
open PySem PySem.Spec PyProof.Rows L2

/-- the entry -/
structure En where
  w : Wd
  G : Hp
  H : Hp
  B : Bef w G H
/-- a list of one's own, not seen by others -/
structure Own (K : PySem.W.Frag) (E : En) (G H : Hp) (a : Addr) (ds : List PyData) : Prop where
  old : E.H a = none
  out : ¬ E.w.dep a
  no : G a = none
  at_ : ∃ vs, H a = some (.lst vs) ∧ DpAll K G vs ds
structure StaAt (K : PySem.W.Frag) (E : En) (ρ : Rho) (os : List (List PyData)) (gs : List Hp) (σ : L2.St) (H G : Hp) (as : List Addr) : Prop where
  aft : Aft E.w E.G E.H G H
  env : EnvD G σ ρ
  envo : EnvO as σ ρ
  gh : ∀ g ∈ gs, Ex g G
  nd : as.Nodup
  len : as.length = os.length
  own : ∀ (k : Nat) a ds, as[k]? = some a → os[k]? = some ds → Own K E G H a ds
def Sta (K : PySem.W.Frag) (E : En) (ρ : Rho) (os : List (List PyData)) (gs : List Hp) : L2.St → Hp → Prop := fun σ H => ∃ G as, StaAt K E ρ os gs σ H G as
theorem Own.next {K : PySem.W.Frag} {E : En} {G H G' H' : Hp} {a : Addr} {ds : List PyData} (o : Own K E G H a ds) (A : Aft E.w G H G' H') : Own K E G' H' a ds := by
  obtain ⟨vs, h1, h2⟩ := o.at_
  refine ⟨o.old, o.out, ?_, vs, A.up a _ (fun z => o.out (E.w.low z)) h1, dpAll_mono A.g _ _ h2⟩
  cases q : G' a with
  | none => rfl
  | some u => rw [A.new a o.no (by rw [q]; exact fun z => nomatch z)] at h1; cases h1
section
variable {K : PySem.W.Frag} {E : En} {ρ : Rho} {os : List (List PyData)} {gs : List Hp} {σ : L2.St} {H G H' G' : Hp} {as : List Addr}
theorem StaAt.bef (s : StaAt K E ρ os gs σ H G as) : Bef E.w G H := E.B.aft s.aft
theorem StaAt.next (s : StaAt K E ρ os gs σ H G as) (A : Aft E.w G H G' H') : StaAt K E ρ os gs σ H' G' as :=
  ⟨s.aft.trans E.B A, s.env.mono A.g, s.envo, fun g hg => (s.gh g hg).trans A.g, s.nd, s.len, fun k a ds h1 h2 => (s.own k a ds h1 h2).next A⟩
theorem StaAt.set {i : Nat} {t : Sc} {v : V} (s : StaAt K E ρ os gs σ H G as) (hi : i < ρ.length) (hv : t.p G v) : StaAt K E (ρ.set i (.dat t)) os gs (σ.set i (some v)) H G as :=
  ⟨s.aft, s.env.set hi hv, s.envo.set, s.gh, s.nd, s.len, s.own⟩
/-- a new list becomes one's own -/
theorem StaAt.alloc {i : Nat} {a : Addr} {vs : List V} {ds : List PyData} (s : StaAt K E ρ os gs σ H G as) (hi : i < ρ.length) (A : Aft E.w G H G' H') (h1 : H a = none) (h2 : G' a = none) (h3 : H' a = some (.lst vs)) (h4 : DpAll K G' vs ds) :
    StaAt K E (ρ.set i (.own os.length)) (os ++ [ds]) gs (σ.set i (some (.ref a))) H' G' (as ++ [a]) := by
  have s' := s.next A
  have hn : a ∉ as := fun hm => by
    obtain ⟨k, hk⟩ := List.getElem?_of_mem hm
    obtain ⟨hlt, _⟩ := List.getElem?_eq_some_iff.mp hk
    obtain ⟨us, hu, _⟩ := (s.own k a _ hk (List.getElem?_eq_getElem (by rw [← s.len]; exact hlt))).at_
    rw [h1] at hu; cases hu
  refine ⟨s'.aft, s'.env.setOwn, s'.envo.setOwn (by rw [← s.env.len]; exact hi) (fun k b hk => ?_) ?_, s'.gh, ?_, by simp [s.len], fun k b es hk hes => ?_⟩
  · rw [List.getElem?_append_left (List.getElem?_eq_some_iff.mp hk).1]; exact hk
  · rw [← s.len]; simp
  · rw [List.nodup_append]
    exact ⟨s.nd, by simp, fun b hb c hc z => hn (by simp at hc; subst hc; rw [z] at hb; exact hb)⟩
  · by_cases hkl : k < as.length
    · rw [List.getElem?_append_left hkl] at hk
      rw [List.getElem?_append_left (by rw [← s.len]; exact hkl)] at hes
      exact s'.own k b es hk hes
    · have e1 : k = as.length := by
        have := (List.getElem?_eq_some_iff.mp hk).1
        simp at this; omega
      subst e1
      have eb : a = b := by simpa using hk
      rw [s.len] at hes
      have ed : ds = es := by simpa using hes
      subst eb ed
      exact ⟨(s.aft.back h1), fun z => E.w.hasD s.bef.ok z h1, h2, vs, h3, h4⟩
/-- one's own list is changed -/
theorem StaAt.mutate {k : Nat} {a : Addr} {us : List V} {es ds : List PyData} (s : StaAt K E ρ os gs σ H G as) (hk : as[k]? = some a) (hd : os[k]? = some es) (h : DpAll K G us ds) :
    StaAt K E ρ (os.set k ds) gs σ (upd H a (.lst us)) G as := by
  have o := s.own k a es hk hd
  refine ⟨⟨fun b u nb e => ?_, E.w.other s.aft.ok o.out, s.aft.g, fun b u e => ?_, s.aft.new⟩, s.env, s.envo, s.gh, s.nd, by simp [s.len], fun j b fs hj hf => ?_⟩
  · rw [upd_ne (ne_of_none e o.old)]; exact s.aft.up b u nb e
  · rw [upd_ne (ne_of_none e o.no)]; exact s.aft.sub b u e
  · by_cases e : k = j
    · subst e
      rw [hk] at hj
      cases hj
      have : k < os.length := (List.getElem?_eq_some_iff.mp hd).1
      rw [List.getElem?_set_self this] at hf
      cases hf
      exact ⟨o.old, o.out, o.no, us, upd_same, h⟩
    · rw [List.getElem?_set_ne e] at hf
      have o2 := s.own j b fs hj hf
      have hne : b ≠ a := fun z => by
        subst z
        obtain ⟨h1, e1⟩ := List.getElem?_eq_some_iff.mp hk
        obtain ⟨h2, e2⟩ := List.getElem?_eq_some_iff.mp hj
        exact e ((List.getElem_inj s.nd).mp (e1.trans e2.symm))
      obtain ⟨vs, v1, v2⟩ := o2.at_
      exact ⟨o2.old, o2.out, o2.no, vs, by rw [upd_ne hne]; exact v1, v2⟩
/-- all of one's own lists read as data -/
def frzR (K : PySem.W.Frag) (os : List (List PyData)) : Rho → Rho
  | [] => []
  | .own k :: r => (match os[k]? with | some ds => .dat (tlS K ds) | none => .no) :: frzR K os r
  | s :: r => s :: frzR K os r
theorem frzR_length (ρ : Rho) : (frzR K os ρ).length = ρ.length := by
  induction ρ with
  | nil => rfl
  | cons s r ih => cases s <;> simp [frzR, ih]
theorem frzR_get (ρ : Rho) (i : Nat) : (frzR K os ρ)[i]? = (ρ[i]?).map fun s => match s with
    | .own k => (match os[k]? with | some ds => .dat (tlS K ds) | none => .no)
    | s => s := by
  induction ρ generalizing i with
  | nil => rfl
  | cons s r ih => cases i with
    | zero => cases s <;> rfl
    | succ i => cases s <;> simpa [frzR] using ih i
/-- the heap with one's own lists -/
def frzG (G H : Hp) (as : List Addr) : Hp := fun b => if b ∈ as then H b else G b
theorem frz_get (as : List Addr) : ∀ {b : Addr}, b ∈ as → frzG G H as b = H b := fun h => by unfold frzG; rw [if_pos h]
theorem frz_not (as : List Addr) : ∀ {b : Addr}, b ∉ as → frzG G H as b = G b := fun h => by unfold frzG; rw [if_neg h]
theorem StaAt.ownAt (s : StaAt K E ρ os gs σ H G as) {b : Addr} (hb : b ∈ as) : ∃ (k : Nat) (ds : List PyData), as[k]? = some b ∧ os[k]? = some ds ∧ Own K E G H b ds := by
  obtain ⟨k, hk⟩ := List.getElem?_of_mem hb
  have hlt := (List.getElem?_eq_some_iff.mp hk).1
  have e := List.getElem?_eq_getElem (l := os) (i := k) (by rw [← s.len]; exact hlt)
  exact ⟨k, _, hk, e, s.own k b _ hk e⟩
theorem StaAt.frzEx (s : StaAt K E ρ os gs σ H G as) : Ex G (frzG G H as) := fun b o e => by
  by_cases hb : b ∈ as
  · obtain ⟨k, ds, _, _, ow⟩ := s.ownAt hb
    rw [ow.no] at e; cases e
  · rw [frz_not as hb]; exact e
theorem StaAt.frzB (s : StaAt K E ρ os gs σ H G as) : Bef E.w (frzG G H as) H := by
  refine ⟨fun b o e => ?_, s.bef.ok, fun b hb => ?_⟩
  · by_cases h : b ∈ as
    · rw [frz_get as h] at e; exact e
    · rw [frz_not as h] at e; exact s.bef.sub b o e
  · by_cases h : b ∈ as
    · obtain ⟨k, ds, _, _, ow⟩ := s.ownAt h
      exact absurd (E.w.low hb) ow.out
    · rw [frz_not as h]; exact s.bef.out b hb
theorem StaAt.frzE (s : StaAt K E ρ os gs σ H G as) : EnvD (frzG G H as) σ (frzR K os ρ) := by
  refine ⟨by rw [frzR_length]; exact s.env.len, fun i t q => ?_⟩
  rw [frzR_get] at q
  obtain ⟨sl, h1, h2⟩ := Option.map_eq_some_iff.mp q
  cases sl with
  | no => cases h2
  | dat u =>
    cases h2
    obtain ⟨v, e1, e2⟩ := s.env.get i _ h1
    exact ⟨v, e1, t.mono s.frzEx e2⟩
  | own k =>
    obtain ⟨a, e1, e2⟩ := s.envo i k h1
    have hlt := (List.getElem?_eq_some_iff.mp e1).1
    have e3 := List.getElem?_eq_getElem (l := os) (i := k) (by rw [← s.len]; exact hlt)
    simp only [e3] at h2
    cases h2
    obtain ⟨vs, h3, h4⟩ := (s.own k a _ e1 e3).at_
    exact ⟨_, e2, a, vs, rfl, by rw [frz_get as (List.mem_of_getElem? e1)]; exact h3, dpAll_mono s.frzEx _ _ h4⟩
/-- behind a reading of one's own lists nothing of it is kept -/
theorem StaAt.thaw (s : StaAt K E ρ os gs σ H G as) (A : Aft E.w (frzG G H as) H G' H') : Aft E.w G H G H' :=
  ⟨A.up, A.ok, .refl _, fun b o e => A.sub b o (A.g b o (s.frzEx b o e)), fun _ h n => absurd h n⟩
end

theorem dpa_take {K : PySem.W.Frag} {G : Hp} : ∀ (n : Nat) {vs : List V} {ds : List PyData}, DpAll K G vs ds → DpAll K G (vs.take n) (ds.take n)
  | 0, _, _, _ => .nil
  | _ + 1, _, _, .nil => .nil
  | n + 1, _, _, .cons a b => .cons a (dpa_take n b)
theorem dpa_drop {K : PySem.W.Frag} {G : Hp} : ∀ (n : Nat) {vs : List V} {ds : List PyData}, DpAll K G vs ds → DpAll K G (vs.drop n) (ds.drop n)
  | 0, _, _, h => h
  | _ + 1, _, _, .nil => .nil
  | n + 1, _, _, .cons a b => dpa_drop n b

/-! ### blocks -/
structure XSs (X : Cx) (sts : List Stmt) (Pre : L2.St → Hp → Prop) (D : Ends) : Prop where
  run : ∀ (pins : List (Addr × Obj)) (sh : Shared) (σ : L2.St) (H : Hp), Inv X pins σ H sh → Pre σ H → wpAny (model X.prog X.w) X.A (execs sts X.env) (SP X pins D) X.xe sh
def tS (X : Cx) (sts : List Stmt) : TS := fun D σ H => ∃ Pre : L2.St → Hp → Prop, Pre σ H ∧ XSs X sts Pre D
section
variable {X : Cx} {st : Stmt} {rest body orelse sts : List Stmt} {D D' : Ends} {Pre Mid : L2.St → Hp → Prop} {E : En} {ρ : Rho} {os : List (List PyData)} {gs : List Hp} {e c : Expr} {s : Sc} {pos p : Pos} {x : Str} {i j k : Nat} {P : List PyData → Prop}
theorem pss_x : PSs X sts (tS X sts) := ⟨fun pins sh σ H D I ⟨Pre, h, k⟩ => k.run pins sh σ H I h⟩
theorem xss_nil (h : ∀ σ H, Pre σ H → D.nx σ H) : XSs X [] Pre D := ⟨fun pins sh σ H I q => pss_nil.run pins sh σ H D I (h σ H q)⟩
theorem xss_pre {Pre' : L2.St → Hp → Prop} (k : XSs X sts Pre D) (h : ∀ σ H, Pre' σ H → Pre σ H) : XSs X sts Pre' D := ⟨fun pins sh σ H I q => k.run pins sh σ H I (h σ H q)⟩
theorem xss_ex {α : Sort _} {Pr : α → L2.St → Hp → Prop} (k : ∀ x, XSs X sts (Pr x) D) : XSs X sts (fun σ H => ∃ x, Pr x σ H) D := ⟨fun pins sh σ H I ⟨x, q⟩ => (k x).run pins sh σ H I q⟩
theorem xss_and {Φ : Prop} (k : Φ → XSs X sts Pre D) : XSs X sts (fun σ H => Φ ∧ Pre σ H) D := ⟨fun pins sh σ H I ⟨x, q⟩ => (k x).run pins sh σ H I q⟩
theorem xss_false (h : ∀ σ H, ¬ Pre σ H) : XSs X sts Pre D := ⟨fun pins sh σ H I q => (h σ H q).elim⟩
theorem xss_st {t : TS} (h : PS X st t) (hr : ∀ σ H, Pre σ H → t { D with nx := Mid } σ H) (k : XSs X rest Mid D) : XSs X (st :: rest) Pre D := ⟨fun pins sh σ H I q =>
  wpAny_execs_cons (thn (h.run pins sh σ H { D with nx := Mid } I (hr σ H q)) fun f s1 q => by
    cases f with
    | next => exact let ⟨σ', H', I', q⟩ := q; k.run pins s1 σ' H' I' q
    | ret v => exact q
    | brk => exact q
    | cont => exact q)⟩
/-- the end of a block -/
theorem xss_end {ρ' : Rho} {os' : List (List PyData)} (h : ∀ σ H, Sta X.K E ρ os gs σ H → D.nx σ H) : XSs X [] (Sta X.K E ρ os gs) D := xss_nil h

/-! assignments -/
theorem xss_asgE (i : Nat) {α : Type} {P : α → Prop} {f : α → Sc} {p' : Pos} (hN : X.N.Nodup) (he : XE X E.w e ρ (exS P f)) (k : ∀ y, P y → XSs X rest (Sta X.K E (ρ.set i (.dat (f y))) os gs) D)
    (hi : X.N[i]? = some x := by rfl) (hx : Loc X.env.scope x := by first | exact .inl rfl | exact .inr rfl) (hl : i < ρ.length := by exact Nat.le_of_ble_eq_true rfl) (hs : swapsWith e (some (.Name x p')) pos.line X.env = pure false := by rfl) (hf : X.fn x = true ∨ X.env.scope.names.lookup x = some .local := by first | exact .inl rfl | exact .inr rfl | assumption) : XSs X (.Assign [.Name x p'] e pos :: rest) (Sta X.K E ρ os gs) D :=
  xss_st (ps_set hN hi hx (pe_x he) hs hf) (Mid := fun σ H => ∃ y, P y ∧ Sta X.K E (ρ.set i (.dat (f y))) os gs σ H) (fun σ H ⟨G, as, S⟩ => tX_then (s := exS P f) S.env S.bef fun v G' H' A h => by
      obtain ⟨y, hy, hv⟩ := h
      exact ⟨y, hy, G', as, (S.next A).set hl hv⟩)
    (xss_ex fun y => xss_and fun hy => k y hy)
theorem xss_asg (i : Nat) {p' : Pos} (hN : X.N.Nodup) (he : XE X E.w e ρ s) (k : XSs X rest (Sta X.K E (ρ.set i (.dat s)) os gs) D)
    (hi : X.N[i]? = some x := by rfl) (hx : Loc X.env.scope x := by first | exact .inl rfl | exact .inr rfl) (hl : i < ρ.length := by exact Nat.le_of_ble_eq_true rfl) (hs : swapsWith e (some (.Name x p')) pos.line X.env = pure false := by rfl) (hf : X.fn x = true ∨ X.env.scope.names.lookup x = some .local := by first | exact .inl rfl | exact .inr rfl | assumption) : XSs X (.Assign [.Name x p'] e pos :: rest) (Sta X.K E ρ os gs) D :=
  xss_st (ps_set hN hi hx (pe_x he) hs hf) (Mid := Sta X.K E (ρ.set i (.dat s)) os gs) (fun σ H ⟨G, as, S⟩ => tX_then S.env S.bef fun v G' H' A hv => ⟨G', as, (S.next A).set hl hv⟩) k
/-- a new list, from now on one's own -/
theorem xss_asgL (i : Nat) {p' : Pos} (hN : X.N.Nodup) (he : XL X E.w e ρ P) (k : ∀ ds, P ds → XSs X rest (Sta X.K E (ρ.set i (.own os.length)) (os ++ [ds]) gs) D)
    (hi : X.N[i]? = some x := by rfl) (hx : Loc X.env.scope x := by first | exact .inl rfl | exact .inr rfl) (hl : i < ρ.length := by exact Nat.le_of_ble_eq_true rfl) (hs : swapsWith e (some (.Name x p')) pos.line X.env = pure false := by rfl) (hf : X.fn x = true ∨ X.env.scope.names.lookup x = some .local := by first | exact .inl rfl | exact .inr rfl | assumption) : XSs X (.Assign [.Name x p'] e pos :: rest) (Sta X.K E ρ os gs) D :=
  xss_st (ps_set hN hi hx he hs hf) (Mid := fun σ H => ∃ ds, P ds ∧ Sta X.K E (ρ.set i (.own os.length)) (os ++ [ds]) gs σ H) (fun σ H ⟨G, as, S⟩ => ⟨G, S.env, S.bef, fun a vs ds G' H' A h1 h2 h3 h4 h5 => ⟨ds, h5, G', as ++ [a], S.alloc hl A h1 h2 h3 h4⟩⟩)
    (xss_ex fun y => xss_and fun hy => k y hy)
/-- [..] on one line, the name a local -/
structure XLc (X : Cx) (w : Wd) (elt tg iter : Expr) (ifs : List Expr) (scope : Scope) (own : List (Str × Nat)) (ρ : Rho) (P : List PyData → Prop) : Prop where
  ex : ∃ (wi : TI) (g : TG) (tt : TT) (te : TE), X.N.Nodup ∧ PI X tg iter wi ∧ BlkOk X.N X.env.scope scope own ∧ (∀ (s : Shared) (H : Hp) (C : Addr) (cl : List (Str × Addr)) (fp : List Addr), PG (X.blk s H scope (compEnvC scope cl C X.env) fp) tg g) ∧
    (∀ (s : Shared) (H : Hp) (C : Addr) (cl : List (Str × Addr)) (fp : List Addr), PTs (X.blk s H scope (compEnvC scope cl C X.env) fp) ifs tt) ∧ (∀ (s : Shared) (H : Hp) (C : Addr) (cl : List (Str × Addr)) (fp : List Addr), PE (X.blk s H scope (compEnvC scope cl C X.env) fp) elt te) ∧
    (∀ x, foldedSetIterable iter X.env x = pure x) ∧ ∀ σ H Q, tL X.K w ρ P σ H Q → tLc wi g tt te (own.map (·.2)) σ H Q
section
variable {w : Wd} {elt tg iter : Expr} {ifs : List Expr} {scope : Scope} {own : List (Str × Nat)} {PN : Nat → Prop} {Y : Nat → Sc}
theorem xlc {g : TG} {f : Nat → Bool} {ρ' : Nat → Rho} {P : Nat → PyData → Prop} {gv : List Nat} (hN : X.N.Nodup) (hi : XI X w tg iter ρ PN Y) (hz : ∀ n, PN n → n ≤ 100000) (ok : BlkOk X.N X.env.scope scope own)
    (hgv : ∀ j ∈ gv, j ∈ own.map (·.2)) (hl : ∀ j ∈ gv, j < ρ.length) (hpg : ∀ (s : Shared) (H : Hp) (C : Addr) (cl : List (Str × Addr)) (fp : List Addr), PG (X.blk s H scope (compEnvC scope cl C X.env) fp) tg g)
    (hg : ∀ n i, PN n → i < n → GS gv g (Y i) (wipeR ρ (own.map (·.2))) (ρ' i))
    (ht : ∀ n i, PN n → i < n → ∀ (s : Shared) (H : Hp) (C : Addr) (cl : List (Str × Addr)) (fp : List Addr), XTs (X.blk s H scope (compEnvC scope cl C X.env) fp) w ifs (ρ' i) (· = f i))
    (he : ∀ n i, PN n → i < n → f i = true → ∀ (s : Shared) (H : Hp) (C : Addr) (cl : List (Str × Addr)) (fp : List Addr), XE (X.blk s H scope (compEnvC scope cl C X.env) fp) w elt (ρ' i) (exS (P i) (dS X.K)))
    (hs : ∀ x, foldedSetIterable iter X.env x = pure x := by intro _; rfl) : XLc X w elt tg iter ifs scope own ρ (fun ds => ∃ n, PN n ∧ Lc n f P ds) :=
  ⟨_, g, _, _, hN, hi, ok, hpg, fun s H C cl fp => pts_ex fun i : Turns PN => ht _ i.1 i.2.choose_spec.1 i.2.choose_spec.2 s H C cl fp, fun s H C cl fp => pe_ex fun i : { i : Turns PN // f i.1 = true } => pe_x (he _ i.1.1 i.1.2.choose_spec.1 i.1.2.choose_spec.2 i.2 s H C cl fp), hs,
    fun σ H Q ⟨G, hE, hB, q⟩ => ⟨G, hE, hB, fun J n G' H' A hn W Dl hD => lc_turns (hB.aft A) (hE.mono A.g) hn (hz n hn) hl hgv W (fun i hi => hg n i hn hi) Dl hD fun us ds G2 H2 A2 h1 h2 h3 h4 => q Dl us ds G2 H2 (A.trans hB A2) (A.back hD) h1 h2 h3 ⟨n, hn, h4⟩⟩⟩
theorem xlc_weak {P P' : List PyData → Prop} (h : XLc X w elt tg iter ifs scope own ρ P) (k : ∀ ds, P ds → P' ds) : XLc X w elt tg iter ifs scope own ρ P' := by
  obtain ⟨wi, g, tt, te, h0, h1, h2, h3, h4, h5, h6, h7⟩ := h.ex
  exact ⟨wi, g, tt, te, h0, h1, h2, h3, h4, h5, h6, fun σ H Q ⟨G, hE, hB, q⟩ => h7 σ H Q ⟨G, hE, hB, fun a vs ds G' H' A q1 q2 q3 q4 q5 => q a vs ds G' H' A q1 q2 q3 q4 (k ds q5)⟩⟩
theorem xl_lcx (hc : X.calm = true) (h : XLc X w elt tg iter ifs scope own ρ P) : XL X w (.ListComp elt [⟨tg, iter, ifs, 0⟩] scope pos) ρ P := by
  obtain ⟨wi, g, tt, te, h0, h1, h2, h3, h4, h5, h6, h7⟩ := h.ex
  exact pe_to (pe_lc hc h0 h1 h2 h3 h4 h5 h6) h7
theorem ps_lcx {y : Str} {py spos : Pos} (hc : X.calm = true) (h : XLc X w elt tg iter ifs scope own ρ P) (hy : X.N[i]? = some y) (hyl : X.env.scope.names.lookup y = some .local)
    (hsw : swapsWith (.ListComp elt [⟨tg, iter, ifs, 0⟩] scope pos) (some (.Name y py)) spos.line X.env = pure true) : PS X (.Assign [.Name y py] (.ListComp elt [⟨tg, iter, ifs, 0⟩] scope pos) spos) (tAsg (tL X.K w ρ P) (gName i)) := by
  obtain ⟨wi, g, tt, te, h0, h1, h2, h3, h4, h5, h6, h7⟩ := h.ex
  have q := ps_setLc (py := py) (spos := spos) hc h0 hy hyl hsw h1 h2 h3 h4 h5 h6
  exact ⟨fun pins sh σ H D I r => q.run pins sh σ H D I (h7 σ H _ r)⟩
end
theorem xss_setL (i : Nat) {elt tg iter : Expr} {ifs : List Expr} {scope : Scope} {own : List (Str × Nat)} {y : Str} {py spos : Pos} (hc : X.calm = true) (h : XLc X E.w elt tg iter ifs scope own ρ P) (hsw : swapsWith (.ListComp elt [⟨tg, iter, ifs, 0⟩] scope pos) (some (.Name y py)) spos.line X.env = pure true) (k : ∀ ds, P ds → XSs X rest (Sta X.K E (ρ.set i (.dat (tlS X.K ds))) os gs) D)
    (hy : X.N[i]? = some y := by rfl) (hyl : X.env.scope.names.lookup y = some .local := by rfl) (hl : i < ρ.length := by exact Nat.le_of_ble_eq_true rfl) :
    XSs X (.Assign [.Name y py] (.ListComp elt [⟨tg, iter, ifs, 0⟩] scope pos) spos :: rest) (Sta X.K E ρ os gs) D :=
  xss_st (ps_lcx hc h hy hyl hsw) (Mid := fun σ H => ∃ ds, P ds ∧ Sta X.K E (ρ.set i (.dat (tlS X.K ds))) os gs σ H) (fun σ H ⟨G, as, S⟩ => ⟨G, S.env, S.bef, fun a vs ds G' H' A h1 h2 h3 h4 h5 => by
    exact ⟨ds, h5, _, as, (S.next (xl_frz A h1 h2 h3)).set hl ⟨a, vs, rfl, upd_same, dpAll_mono (.new h2) _ _ h4⟩⟩⟩)
    (xss_ex fun y => xss_and fun hy => k y hy)
/-- a, b = e, f: two locals -/
theorem xss_par (i j : Nat) {a b : Expr} {y : Str} {px py pt : Pos} {kt k2 pt2} {s1 s2 : Sc} (hc : X.calm = true) (hN : X.N.Nodup) (ha : XA X E.w [a, b] ρ [s1, s2]) (k : XSs X rest (Sta X.K E ((ρ.set i (.dat s1)).set j (.dat s2)) os gs) D)
    (hi : X.N[i]? = some x := by rfl) (hj : X.N[j]? = some y := by rfl) (hij : i ≠ j := by decide) (hx : X.env.scope.names.lookup x = some .local := by rfl) (hy : X.env.scope.names.lookup y = some .local := by rfl) (hl : i < ρ.length := by exact Nat.le_of_ble_eq_true rfl) (hl2 : j < ρ.length := by exact Nat.le_of_ble_eq_true rfl)
    (hw : swappedStores [.Tuple [.Name x px, .Name y py] kt pt] (.Tuple [a, b] k2 pt2) X.env = pure (some [x, y]) := by rfl)
    (hs : swapsWithSole [.Tuple [.Name x px, .Name y py] kt pt] (.Tuple [a, b] k2 pt2) pos.line X.env = pure false := by rfl) : XSs X (.Assign [.Tuple [.Name x px, .Name y py] kt pt] (.Tuple [a, b] k2 pt2) pos :: rest) (Sta X.K E ρ os gs) D :=
  xss_st (ps_par hc hN hi hj hij hx hy ha hw hs) (Mid := Sta X.K E ((ρ.set i (.dat s1)).set j (.dat s2)) os gs) (fun σ H ⟨G, as, S⟩ => tA_then S.env S.bef fun vs G' H' A hv => by
    cases hv with
    | cons h1 h2 =>
      cases h2 with
      | cons h2 h3 =>
        cases h3
        exact ⟨_, _, rfl, G', as, ((S.next A).set hl h1).set (by simpa using hl2) h2⟩) k
/-- a target of any form -/
theorem xss_tgE {α : Type} {P : α → Prop} {f : α → Sc} {tg : Expr} {g : TG} {gv : List Nat} {ρ' : α → Rho} (hg : PG X tg g) (he : XE X E.w e ρ (exS P f)) (hl : ∀ j ∈ gv, j < ρ.length) (hgs : ∀ y, P y → GS gv g (f y) ρ (ρ' y)) (k : ∀ y, P y → XSs X rest (Sta X.K E (ρ' y) os gs) D)
    (hs : swapsWithSole [tg] e pos.line X.env = pure false := by rfl) (hw : swappedStores [tg] e X.env = pure none := by rfl) (h1 : (assignEach [tg] X.env).map (·.2) = [assign tg X.env] := by rfl) : XSs X (.Assign [tg] e pos :: rest) (Sta X.K E ρ os gs) D :=
  xss_st (ps_asg (pe_x he) hg hs hw h1) (Mid := fun σ H => ∃ y, P y ∧ Sta X.K E (ρ' y) os gs σ H) (fun σ H ⟨G, as, S⟩ => tX_then (s := exS P f) S.env S.bef fun v G' H' A h => by
    obtain ⟨y, hy, hv⟩ := h
    have S' := S.next A
    exact (hgs y hy).go E.w G' H' σ v _ hl S'.bef S'.env hv fun σ' hlen hE' _ hO => ⟨y, hy, G', as, S'.aft, hE', hO as S'.envo, S'.gh, S'.nd, S'.len, S'.own⟩)
    (xss_ex fun y => xss_and fun hy => k y hy)
/-- name op= e, of ints -/
theorem xss_aug (i : Nat) {op : Operator} {f : Int → Int → Int} {p' : Pos} {m n : Int} (ho : PIp X op (ipI f)) (hN : X.N.Nodup) (hρ : ρ[i]? = some (.dat (dS X.K (.int m)))) (he : XE X E.w e ρ (dS X.K (.int n)))
    (k : XSs X rest (Sta X.K E (ρ.set i (.dat (dS X.K (.int (f m n))))) os gs) D) (hi : X.N[i]? = some x := by rfl) (hx : Loc X.env.scope x := by first | exact .inl rfl | exact .inr rfl) (hf : X.fn x = true ∨ X.env.scope.names.lookup x = some .local := by first | exact .inl rfl | exact .inr rfl | assumption) : XSs X (.AugAssign (.Name x p') op e pos :: rest) (Sta X.K E ρ os gs) D :=
  xss_st (ps_aug hN hi hx (pe_x he) ho hf) (Mid := Sta X.K E (ρ.set i (.dat (dS X.K (.int (f m n))))) os gs) (fun σ H ⟨G, as, S⟩ => by
    obtain ⟨v, h1, h2⟩ := S.env.get i _ hρ
    refine ⟨v, h1, tX_then S.env S.bef fun u G' H' A hu => ⟨m, n, dpInt h2, dpInt hu, G', as, (S.next A).set ?_ (.int _)⟩⟩
    exact (List.getElem?_eq_some_iff.mp hρ).1) k

/-! one's own lists -/
theorem pe_own {w : Wd} {ρ : Rho} (hi : X.N[i]? = some x) (hv : Vis X.env.scope x) (hd : (x == ("__debug__" : Str)) = false := by decide) (hcd : (x == ("__classdict__" : Str)) = false := by decide) : PE X (.Name x p) (tVar i) := pe_var hi hv hd hcd
/-- o.append(e), o one's own -/
theorem xss_append {α : Type} {P : α → Prop} {f : α → PyData} {ds : List PyData} {call : Expr} (hM : PE X call (tBM X.K "list" rAppend (tVar i) (tA E.w ρ [exS P fun y => dS X.K (f y)]))) (hρ : ρ[i]? = some (.own k)) (ho : os[k]? = some ds) (hz : ds.length < 100000)
    (kk : ∀ y, P y → XSs X rest (Sta X.K E ρ (os.set k (ds ++ [f y])) gs) D) (hs : swapsWith call none pos.line X.env = pure false := by rfl) : XSs X (.Expr call pos :: rest) (Sta X.K E ρ os gs) D :=
  xss_st (ps_expr hM hs) (Mid := fun σ H => ∃ y, P y ∧ Sta X.K E ρ (os.set k (ds ++ [f y])) gs σ H) (fun σ H ⟨G, as, S⟩ => by
    obtain ⟨a, ha, hσ⟩ := S.envo i k hρ
    obtain ⟨us, hus, hdp⟩ := (S.own k a ds ha ho).at_
    refine ⟨_, hσ, .inl ⟨rfl, us, SqL.of hus⟩, tA_then S.env S.bef fun vs G' H' A hvs => ?_⟩
    have S' := S.next A
    obtain ⟨us', hus', hdp'⟩ := (S'.own k a ds ha ho).at_
    cases hvs with
    | cons h1 h2 =>
      cases h2
      obtain ⟨y, hy, hv'⟩ := h1
      refine ⟨a, us', _, rfl, rfl, hus', by rw [hdp'.len, sizeLine_eq]; omega, y, hy, G', as, S'.mutate ha ho (dpa_append hdp' (.cons hv' .nil))⟩)
    (xss_ex fun y => xss_and fun hy => kk y hy)
theorem xss_append1 {d : PyData} {ds : List PyData} {call : Expr} (hM : PE X call (tBM X.K "list" rAppend (tVar i) (tA E.w ρ [dS X.K d]))) (hρ : ρ[i]? = some (.own k)) (ho : os[k]? = some ds) (hz : ds.length < 100000)
    (kk : XSs X rest (Sta X.K E ρ (os.set k (ds ++ [d])) gs) D) (hs : swapsWith call none pos.line X.env = pure false := by rfl) : XSs X (.Expr call pos :: rest) (Sta X.K E ρ os gs) D :=
  xss_append (P := fun _ : Unit => True) (f := fun _ => d) (pe_to hM fun σ H Q h => by
    obtain ⟨v, hσ, ty, G, hE, hB, q⟩ := h
    exact ⟨v, hσ, ty, G, hE, hB, fun vs G' H' A hvs => q vs G' H' A (by
      cases hvs with
      | cons h1 h2 =>
        cases h2
        exact .cons ⟨(), True.intro, h1⟩ .nil)⟩) hρ ho hz (fun _ _ => kk) hs
/-- o.insert(at, e) -/
theorem xss_insert {m : Nat} {d : PyData} {ds : List PyData} {call : Expr} (hM : PE X call (tBM X.K "list" (fun x vs H Q => ∃ (l : Addr) (xs : List V) (i : Int) (y : V), x = .ref l ∧ vs = [.int i, y] ∧ H l = some (.lst xs) ∧ xs.length < sizeLine ∧ 0 ≤ i ∧ i < 2 ^ 63 ∧ Q .non (upd H l (.lst (xs.take i.toNat ++ [y] ++ xs.drop i.toNat)))) (tVar i) (tA E.w ρ [dS X.K (.int m), dS X.K d])))
    (hρ : ρ[i]? = some (.own k)) (ho : os[k]? = some ds) (hz : ds.length < 100000) (hm : m < 100000) (kk : XSs X rest (Sta X.K E ρ (os.set k (ds.take m ++ [d] ++ ds.drop m)) gs) D) (hs : swapsWith call none pos.line X.env = pure false := by rfl) : XSs X (.Expr call pos :: rest) (Sta X.K E ρ os gs) D :=
  xss_st (ps_expr hM hs) (Mid := Sta X.K E ρ (os.set k (ds.take m ++ [d] ++ ds.drop m)) gs) (fun σ H ⟨G, as, S⟩ => by
    obtain ⟨a, ha, hσ⟩ := S.envo i k hρ
    obtain ⟨us, hus, hdp⟩ := (S.own k a ds ha ho).at_
    refine ⟨_, hσ, .inl ⟨rfl, us, SqL.of hus⟩, tA_then S.env S.bef fun vs G' H' A hvs => ?_⟩
    have S' := S.next A
    obtain ⟨us', hus', hdp'⟩ := (S'.own k a ds ha ho).at_
    cases hvs with
    | cons h1 h2 =>
      cases h2 with
      | cons h2 h3 =>
        cases h3
        rw [dpInt h1]
        refine ⟨a, us', m, _, rfl, rfl, hus', by rw [hdp'.len, sizeLine_eq]; omega, by omega, by omega, G', as, S'.mutate ha ho ?_⟩
        exact dpa_append (dpa_append (dpa_take m hdp') (.cons h2 .nil)) (dpa_drop m hdp')) kk
/-- o.extend(list) -/
theorem xss_extend {es ds : List PyData} {call : Expr} (hM : PE X call (tBM X.K "list" rExtend (tVar i) (tA E.w ρ [tlS X.K es]))) (hρ : ρ[i]? = some (.own k)) (ho : os[k]? = some ds) (hz : ds.length + es.length < 100000)
    (kk : XSs X rest (Sta X.K E ρ (os.set k (ds ++ es)) gs) D) (hs : swapsWith call none pos.line X.env = pure false := by rfl) : XSs X (.Expr call pos :: rest) (Sta X.K E ρ os gs) D :=
  xss_st (ps_expr hM hs) (Mid := Sta X.K E ρ (os.set k (ds ++ es)) gs) (fun σ H ⟨G, as, S⟩ => by
    obtain ⟨a, ha, hσ⟩ := S.envo i k hρ
    obtain ⟨us, hus, hdp⟩ := (S.own k a ds ha ho).at_
    refine ⟨_, hσ, .inl ⟨rfl, us, SqL.of hus⟩, tA_then S.env S.bef fun vs G' H' A hvs => ?_⟩
    have S' := S.next A
    obtain ⟨us', hus', hdp'⟩ := (S'.own k a ds ha ho).at_
    cases hvs with
    | cons h1 h2 =>
      cases h2
      obtain ⟨b, ws, rfl, hb, hd⟩ := h1
      exact ⟨a, b, us', ws, rfl, rfl, hus', S'.bef.sub b _ hb, by rw [hdp'.len, hd.len, sizeLine_eq]; omega, G', as, S'.mutate ha ho (dpa_append hdp' hd)⟩) kk
/-- the last of one's own lists is data from now on -/
def frz1 (K : PySem.W.Frag) (k : Nat) (ds : List PyData) : Rho → Rho
  | [] => []
  | .own j :: r => (if j = k then .dat (tlS K ds) else .own j) :: frz1 K k ds r
  | s :: r => s :: frz1 K k ds r
theorem frz1_get (K : PySem.W.Frag) (k : Nat) (ds : List PyData) (ρ : Rho) (i : Nat) : (frz1 K k ds ρ)[i]? = (ρ[i]?).map fun s => match s with
    | .own j => if j = k then .dat (tlS K ds) else .own j
    | s => s := by
  induction ρ generalizing i with
  | nil => rfl
  | cons s r ih => cases i with
    | zero => cases s <;> rfl
    | succ i => cases s <;> simpa [frz1] using ih i
theorem frz1_length (K : PySem.W.Frag) (k : Nat) (ds : List PyData) (ρ : Rho) : (frz1 K k ds ρ).length = ρ.length := by
  induction ρ with
  | nil => rfl
  | cons s r ih => cases s <;> simp [frz1, ih]
theorem sta_frz {K : PySem.W.Frag} {ds : List PyData} {σ : L2.St} {H : Hp} (h : Sta K E ρ (os ++ [ds]) gs σ H) : Sta K E (frz1 K os.length ds ρ) os gs σ H := by
  obtain ⟨G, as, S⟩ := h
  have hl := S.len
  simp only [List.length_append, List.length_cons, List.length_nil] at hl
  obtain ⟨as', a, rfl⟩ : ∃ as' a, as = as' ++ [a] := by
    have : as ≠ [] := fun z => by subst z; simp at hl
    exact ⟨as.dropLast, as.getLast this, (List.dropLast_concat_getLast this).symm⟩
  have hl' : as'.length = os.length := by simpa using hl
  have oa : Own K E G H a ds := S.own os.length a ds (by rw [← hl']; simp) (by simp)
  obtain ⟨vs, h1, h2⟩ := oa.at_
  have up : Ex G (upd G a (.lst vs)) := .new oa.no
  refine ⟨upd G a (.lst vs), as', ⟨S.aft.up, S.aft.ok, S.aft.g.trans up, fun b o e => ?_, fun b hb n => ?_⟩, ⟨by rw [frz1_length]; exact S.env.len, fun i t q => ?_⟩, fun i j q => ?_, fun g hg => (S.gh g hg).trans up, ?_, hl', fun j b es hj he => ?_⟩
  · by_cases eb : b = a
    · subst eb; rw [upd_same] at e; rw [h1]; exact e
    · rw [upd_ne eb] at e; exact S.aft.sub b o e
  · by_cases eb : b = a
    · subst eb; exact oa.old
    · rw [upd_ne eb] at n; exact S.aft.new b hb n
  · rw [frz1_get] at q
    obtain ⟨sl, e1, e2⟩ := Option.map_eq_some_iff.mp q
    cases sl with
    | no => cases e2
    | dat u =>
      cases e2
      obtain ⟨v, q1, q2⟩ := S.env.get i _ e1
      exact ⟨v, q1, t.mono up q2⟩
    | own j =>
      by_cases ej : j = os.length
      · simp only [ej, if_true] at e2
        cases e2
        obtain ⟨b, q1, q2⟩ := S.envo i j e1
        rw [ej, ← hl'] at q1
        have eb : a = b := by simpa using q1
        subst eb
        exact ⟨_, q2, a, vs, rfl, upd_same, dpAll_mono up _ _ h2⟩
      · simp only [ej, if_false] at e2
        cases e2
  · rw [frz1_get] at q
    obtain ⟨sl, e1, e2⟩ := Option.map_eq_some_iff.mp q
    cases sl with
    | no => cases e2
    | dat u => cases e2
    | own l =>
      by_cases ej : l = os.length
      · simp only [ej, if_true] at e2
        cases e2
      · simp only [ej, if_false] at e2
        cases e2
        obtain ⟨b, q1, q2⟩ := S.envo i j e1
        refine ⟨b, ?_, q2⟩
        rwa [List.getElem?_append_left] at q1
        have := (List.getElem?_eq_some_iff.mp q1).1
        simp at this
        omega
  · exact (List.nodup_append.mp S.nd).1
  · have hja : (as' ++ [a])[j]? = some b := by rw [List.getElem?_append_left (List.getElem?_eq_some_iff.mp hj).1]; exact hj
    have o := S.own j b es hja (by rw [List.getElem?_append_left (List.getElem?_eq_some_iff.mp he).1]; exact he)
    have hne : b ≠ a := fun z => by
      subst z
      exact (List.nodup_append.mp S.nd).2.2 b (List.mem_of_getElem? hj) b (by simp) rfl
    obtain ⟨us, u1, u2⟩ := o.at_
    exact ⟨o.old, o.out, by rw [upd_ne hne]; exact o.no, us, u1, dpAll_mono up _ _ u2⟩
theorem xss_frz {ds : List PyData} (k : XSs X sts (Sta X.K E (frz1 X.K os.length ds ρ) os gs) D) : XSs X sts (Sta X.K E ρ (os ++ [ds]) gs) D := xss_pre k fun _ _ h => sta_frz h

/-! return, if -/
theorem xss_ret (he : XE X E.w e ρ s) (hD : ∀ v H', Qs E.w E.G E.H s v H' → D.rt v H' := by exact fun _ _ h => h) : XSs X (.Return (some e) pos :: rest) (Sta X.K E ρ os gs) D :=
  xss_st (ps_ret (pe_x he)) (Mid := fun _ _ => False) (fun σ H ⟨G, as, S⟩ => tX_then S.env S.bef fun v G' H' A hv => hD v H' ⟨G', S.aft.trans E.B A, hv⟩) (xss_false fun _ _ z => z)
/-- what a def hands back that gives a new list -/
def RL (K : PySem.W.Frag) (E : En) (P : List PyData → Prop) : VK := fun v H' => ∃ a us ds G', v = .ref a ∧ Aft E.w E.G E.H G' H' ∧ E.H a = none ∧ G' a = none ∧ H' a = some (.lst us) ∧ DpAll K G' us ds ∧ P ds
theorem xss_retL (he : XL X E.w e ρ P) (hD : ∀ v H', RL X.K E P v H' → D.rt v H' := by exact fun _ _ h => h) : XSs X (.Return (some e) pos :: rest) (Sta X.K E ρ os gs) D :=
  xss_st (ps_ret he) (Mid := fun _ _ => False) (fun σ H ⟨G, as, S⟩ => ⟨G, S.env, S.bef, fun a vs ds G' H' A h1 h2 h3 h4 h5 => hD _ H' ⟨a, vs, ds, G', rfl, S.aft.trans E.B A, S.aft.back h1, h2, h3, h4, h5⟩⟩) (xss_false fun _ _ z => z)
theorem xss_retOwn (i : Nat) {ds : List PyData} {px : Pos} (hρ : ρ[i]? = some (.own k)) (ho : os[k]? = some ds) (hP : P ds) (hi : X.N[i]? = some x := by rfl) (hv : Vis X.env.scope x := by first | exact .inl rfl | exact .inr (.inl rfl) | exact .inr (.inr rfl)) (hD : ∀ v H', RL X.K E P v H' → D.rt v H' := by exact fun _ _ h => h)
    (hd : (x == ("__debug__" : Str)) = false := by decide) (hcd : (x == ("__classdict__" : Str)) = false := by decide) : XSs X (.Return (some (.Name x px)) pos :: rest) (Sta X.K E ρ os gs) D :=
  xss_st (ps_ret (pe_var hi hv hd hcd)) (Mid := fun _ _ => False) (fun σ H ⟨G, as, S⟩ => by
    obtain ⟨a, ha, hσ⟩ := S.envo i k hρ
    have o := S.own k a ds ha ho
    obtain ⟨us, hus, hdp⟩ := o.at_
    exact ⟨_, hσ, hD _ H ⟨a, us, ds, G, rfl, S.aft, o.old, o.no, hus, hdp, hP⟩⟩) (xss_false fun _ _ z => z)
theorem rl_qs {K : PySem.W.Frag} {v : V} {H : Hp} (h : RL K E P v H) : Qs E.w E.G E.H (exS P (tlS K)) v H := by
  obtain ⟨a, us, ds, G', rfl, A, h1, h2, h3, h4, h5⟩ := h
  exact ⟨_, xl_frz A h1 h2 h3, ds, h5, a, us, rfl, upd_same, dpAll_mono (.new h2) _ _ h4⟩
theorem xss_ifM {P : Bool → Prop} (ht : XT X E.w c ρ P) (h1 : P true → XSs X body (Sta X.K E ρ os gs) { D with nx := Mid }) (h2 : P false → XSs X orelse (Sta X.K E ρ os gs) { D with nx := Mid }) (k : XSs X rest Mid D) : XSs X (.If c body orelse pos :: rest) (Sta X.K E ρ os gs) D :=
  xss_st (ps_if ht pss_x pss_x) (Mid := Mid) (fun σ H ⟨G, as, S⟩ => tT_then S.env S.bef fun b G' H' A hb => by
    cases b with
    | true => exact ⟨_, ⟨G', as, S.next A⟩, h1 hb⟩
    | false => exact ⟨_, ⟨G', as, S.next A⟩, h2 hb⟩) k
/-- .. of which the body leaves -/
theorem xss_ifR {P : Bool → Prop} (ht : XT X E.w c ρ P) (h1 : P true → XSs X body (Sta X.K E ρ os gs) { D with nx := fun _ _ => False }) (k : P false → XSs X rest (Sta X.K E ρ os gs) D) : XSs X (.If c body [] pos :: rest) (Sta X.K E ρ os gs) D :=
  xss_ifM (Mid := fun σ H => P false ∧ Sta X.K E ρ os gs σ H) ht (fun hb => by
    refine ⟨fun pins sh σ H I q => ?_⟩
    refine thn ((h1 hb).run pins sh σ H I q) fun f s1 r => ?_
    cases f with
    | next => obtain ⟨σ', H', _, z⟩ := r; exact z.elim
    | ret v => exact r
    | brk => exact r
    | cont => exact r) (fun hb => xss_nil fun σ H q => ⟨hb, q⟩) (xss_and k)
/-- a test that reads one's own lists -/
theorem xss_ifMF {P : Bool → Prop} (ht : XT X E.w c (frzR X.K os ρ) P) (h1 : P true → XSs X body (Sta X.K E ρ os gs) { D with nx := Mid }) (h2 : P false → XSs X orelse (Sta X.K E ρ os gs) { D with nx := Mid }) (k : XSs X rest Mid D) : XSs X (.If c body orelse pos :: rest) (Sta X.K E ρ os gs) D :=
  xss_st (ps_if ht pss_x pss_x) (Mid := Mid) (fun σ H ⟨G, as, S⟩ => tT_then S.frzE S.frzB fun b G' H' A hb => by
    cases b with
    | true => exact ⟨_, ⟨G, as, S.next (S.thaw A)⟩, h1 hb⟩
    | false => exact ⟨_, ⟨G, as, S.next (S.thaw A)⟩, h2 hb⟩) k
/-- an int read off one's own lists -/
theorem xss_asgF (i : Nat) {n : Int} {p' : Pos} (hN : X.N.Nodup) (he : XE X E.w e (frzR X.K os ρ) (dS X.K (.int n))) (k : XSs X rest (Sta X.K E (ρ.set i (.dat (dS X.K (.int n)))) os gs) D)
    (hi : X.N[i]? = some x := by rfl) (hx : Loc X.env.scope x := by first | exact .inl rfl | exact .inr rfl) (hl : i < ρ.length := by exact Nat.le_of_ble_eq_true rfl) (hs : swapsWith e (some (.Name x p')) pos.line X.env = pure false := by rfl) (hf : X.fn x = true ∨ X.env.scope.names.lookup x = some .local := by first | exact .inl rfl | exact .inr rfl | assumption) : XSs X (.Assign [.Name x p'] e pos :: rest) (Sta X.K E ρ os gs) D :=
  xss_st (ps_set hN hi hx (pe_x he) hs hf) (Mid := Sta X.K E (ρ.set i (.dat (dS X.K (.int n)))) os gs) (fun σ H ⟨G, as, S⟩ => tX_then S.frzE S.frzB fun v G' H' A hv => ⟨G, as, (S.next (S.thaw A)).set hl (by rw [dpInt hv]; exact .int n)⟩) k
end
end K81
end

section
set_option Elab.async false
set_option linter.all false
set_option maxRecDepth 100000
/-! The layer of data, fifth part: loops, defs. -/
namespace K81
open PySem PySem.Spec PyProof.Rows L2
section
variable {X : Cx} {st : Stmt} {rest body orelse sts : List Stmt} {D D' : Ends} {Pre Mid : L2.St → Hp → Prop} {E : En} {ρ : Rho} {os : List (List PyData)} {gs : List Hp} {e c tg iter : Expr} {s : Sc} {pos p : Pos} {PN : Nat → Prop} {Y : Nat → Sc}
theorem StaAt.ghost {K : PySem.W.Frag} {σ : L2.St} {H G : Hp} {as : List Addr} (S : StaAt K E ρ os gs σ H G as) : StaAt K E ρ os (G :: gs) σ H G as :=
  ⟨S.aft, S.env, S.envo, fun g hg => by
    rcases List.mem_cons.mp hg with rfl | hg
    · exact .refl _
    · exact S.gh g hg, S.nd, S.len, S.own⟩
theorem StaAt.lay {K : PySem.W.Frag} {σ : L2.St} {H G g : Hp} {as : List Addr} (S : StaAt K E ρ os (g :: gs) σ H G as) : StaAt K E ρ os gs σ H G as :=
  ⟨S.aft, S.env, S.envo, fun b hb => S.gh b (List.mem_cons_of_mem _ hb), S.nd, S.len, S.own⟩
/-- a for: Inv by the turn and a letter; R, O: the slots and one's own lists then; ρ1: the slots with the target -/
theorem xss_for {ι : Type} {g : TG} {gv : List Nat} (Inv : Nat → ι → Prop) (R : Nat → ι → Rho) (O : Nat → ι → List (List PyData)) (ρ1 : Nat → ι → Rho) (hp : PassesOwn (model X.prog X.w) X.A X.env X.xe) (hc : X.calm = true) (hi : XI X E.w tg iter ρ PN Y) (hpg : PG X tg g)
    (hl : ∀ i y, Inv i y → ∀ j ∈ gv, j < (R i y).length) (hgs : ∀ n i y, PN n → i < n → Inv i y → GS gv g (Y i) (R i y) (ρ1 i y)) (h0 : ∃ y, Inv 0 y ∧ R 0 y = ρ ∧ O 0 y = os)
    (hb : ∀ n i y g0, PN n → i < n → Inv i y → XSs X body (Sta X.K E (ρ1 i y) (O i y) (g0 :: gs))
      { D with nx := fun σ H => ∃ y', Inv (i + 1) y' ∧ Sta X.K E (R (i + 1) y') (O (i + 1) y') (g0 :: gs) σ H, ct := fun σ H => ∃ y', Inv (i + 1) y' ∧ Sta X.K E (R (i + 1) y') (O (i + 1) y') (g0 :: gs) σ H, bk := Mid })
    (hd : ∀ n y, PN n → Inv n y → ∀ σ H, Sta X.K E (R n y) (O n y) gs σ H → Mid σ H) (k : XSs X rest Mid D) (hs : ∀ x, foldedSetIterable iter X.env x = pure x := by intro _; rfl) : XSs X (.For tg iter body [] pos :: rest) (Sta X.K E ρ os gs) D :=
  xss_st (ps_for hp hc hi hpg pss_x hs) (Mid := Mid) (fun σ H h => by
    obtain ⟨G, as, S⟩ := h
    refine ⟨G, S.env, S.bef, fun J n G' H' A hn W => ?_⟩
    refine for_it W (fun i σ H => ∃ y, Inv i y ∧ Sta X.K E (R i y) (O i y) (G' :: gs) σ H) ?_ (fun i σ H _ ⟨y, _, G2, as2, S2⟩ => (S2.gh G' (by simp)).trans S2.aft.sub) ?_ (fun σ2 H2 ⟨y, hy, G2, as2, S2⟩ => hd n y hn hy σ2 H2 ⟨G2, as2, S2.lay⟩)
    · obtain ⟨y, hy, e1, e2⟩ := h0
      refine ⟨y, hy, G', as, ?_⟩
      rw [e1, e2]
      exact (S.next A).ghost
    · rintro i x σ2 H2 H3 hi2 ⟨y, hy, G2, as2, S2⟩ hY
      obtain ⟨G3, A3, hx⟩ := hY E.w G2 (S2.gh G' (by simp)) S2.bef
      have S3 := S2.next A3
      refine (hgs n i y hn hi2 hy).go E.w G3 H3 σ2 x _ (hl i y hy) S3.bef S3.env hx fun σ' hlen hE' _ hO => ⟨Sta X.K E (ρ1 i y) (O i y) (G' :: gs), ⟨G3, as2, S3.aft, hE', hO as2 S3.envo, S3.gh, S3.nd, S3.len, S3.own⟩, ?_⟩
      exact hb n i y G' hn hi2 hy) k
/-- a while -/
theorem xss_while {ι : Type} (Inv : ι → Prop) (m : ι → Nat) (R : ι → Rho) (O : ι → List (List PyData)) (b : ι → Bool) (hp : PassesOwn (model X.prog X.w) X.A X.env X.xe) (h0 : ∃ y, Inv y ∧ R y = ρ ∧ O y = os)
    (ht : ∀ y, Inv y → XT X E.w c (frzR X.K (O y) (R y)) (· = b y))
    (hb : ∀ y, Inv y → b y = true → XSs X body (Sta X.K E (R y) (O y) gs) { D with nx := fun σ H => ∃ y', Inv y' ∧ m y' < m y ∧ Sta X.K E (R y') (O y') gs σ H, ct := fun σ H => ∃ y', Inv y' ∧ m y' < m y ∧ Sta X.K E (R y') (O y') gs σ H, bk := Mid })
    (hd : ∀ y, Inv y → b y = false → ∀ σ H, Sta X.K E (R y) (O y) gs σ H → Mid σ H) (k : XSs X rest Mid D) : XSs X (.While c body [] pos :: rest) (Sta X.K E ρ os gs) D :=
  xss_st (ps_while hp (tc := tExT fun y : { y // Inv y } => tT E.w (frzR X.K (O y.1) (R y.1)) (· = b y.1)) ⟨fun pins s σ H Q I ⟨y, q⟩ => (ht y.1 y.2).run pins s σ H Q I q⟩ pss_x) (Mid := Mid) (fun σ H h => by
    obtain ⟨G, as, S⟩ := h
    refine ⟨fun k σ H => ∃ y, Inv y ∧ m y = k ∧ Sta X.K E (R y) (O y) gs σ H, ?_, ?_⟩
    · obtain ⟨y, hy, e1, e2⟩ := h0
      exact ⟨m y, y, hy, rfl, G, as, by rw [e1, e2]; exact S⟩
    · rintro k σ2 H2 ⟨y, hy, rfl, G2, as2, S2⟩
      refine ⟨⟨y, hy⟩, tT_then S2.frzE S2.frzB fun d G' H' A hd' => ?_⟩
      have S3 := S2.next (S2.thaw A)
      subst hd'
      cases hby : b y with
      | true =>
        show ∃ N : L2.St → Hp → Prop, _ ∧ _
        refine ⟨fun σ H => ∃ y', Inv y' ∧ m y' < m y ∧ Sta X.K E (R y') (O y') gs σ H, fun σ' H' ⟨y', h1, h2, h3⟩ => ⟨m y', h2, y', h1, rfl, h3⟩, Sta X.K E (R y) (O y) gs, ⟨G2, as2, S3⟩, ?_⟩
        exact hb y hy hby
      | false =>
        exact hd y hy hby σ2 H' ⟨G2, as2, S3⟩) k
end

/-! ### defs -/
def DefAt (K : PySem.W.Frag) (mg : Str → Option Value) (n : Str) (st : Stmt) : Prop := ∃ f fd, FunD K n n (defArgs st) (defBody st) (defScope st) [] [] f fd ∧ mg n = some (.ref f)
def startR (N : List Str) (ss : List Sc) : Rho := ss.map .dat ++ List.replicate (N.length - ss.length) .no
abbrev cx0 (P : Program) (w : World) (K : PySem.W.Frag) (mg : Str → Option Value) (base : Heap) (N : List Str) (n : Str) (sc : Scope) (f : Addr) (cdv : Value) (A : Around) (outer : List Env) (s : Shared) (H : Hp) (Ex : XK) : Cx := (cxOf CX0 P w K mg base N n sc f cdv A outer s H Ex).nox
section
variable {P : Program} {w : World} {K : PySem.W.Frag} {mg : Str → Option Value} {base : Heap} {n : Str} {st : Stmt} {N ps : List Str} {k : Nat} {α : Type} {w' : α → Wd} {ok : α → Prop} {pre : α → List Sc} {post : α → Sc} {PL : α → List PyData → Prop}
theorem start_env {G : Hp} {vs : List V} {ss : List Sc} (h : Alls G vs ss) : EnvD G (L2.start N vs) (startR N ss) := by
  have hl := h.len
  refine ⟨by simp [L2.start, startR, hl], fun i s q => ?_⟩
  unfold startR at q
  by_cases hi : i < ss.length
  · rw [List.getElem?_append_left (by simpa using hi), List.getElem?_map] at q
    obtain ⟨t, h1, h2⟩ := Option.map_eq_some_iff.mp q
    cases h2
    obtain ⟨v, h3, h4⟩ := h.get h1
    refine ⟨v, ?_, h4⟩
    unfold L2.start
    rw [List.getElem?_append_left (by rw [List.length_map, hl]; exact hi), List.getElem?_map, h3]
    rfl
  · rw [List.getElem?_append_right (by simpa using Nat.le_of_not_lt hi)] at q
    have := List.mem_of_getElem? q
    rw [List.mem_replicate] at this
    cases this.2
theorem start_own {as : List Addr} {vs : List V} {ss : List Sc} : EnvO as (L2.start N vs) (startR N ss) := fun i k q => by
  unfold startR at q
  have := List.mem_of_getElem? q
  rcases List.mem_append.mp this with h | h
  · obtain ⟨s, _, e⟩ := List.mem_map.mp h; cases e
  · rw [List.mem_replicate] at h; cases h.2
theorem start_sta {E : En} {vs : List V} {ss : List Sc} (h : Alls E.G vs ss) : Sta K E (startR N ss) [] [] (L2.start N vs) E.H :=
  ⟨E.G, [], .refl E.B, start_env h, start_own, fun _ h => by simp at h, .nil, rfl, fun k a ds h => by simp at h⟩
theorem fnc_mk (D : DefAt K mg n st) (S : FnScope N ps (defScope st)) (hb : ∀ (kV doc pm : Value) (an : Option Addr) (cdv ct : Value) (us : List Value), us.length = ps.length → bindArgs (PySem.W.fnOf n n (defArgs st) (defBody st) (defScope st) .none kV doc pm an cdv ct) ⟨us, []⟩ = pure (ps.zip us))
    (hl : ∀ x, ok x → (pre x).length = ps.length)
    (body : ∀ (f : Addr) (cdv : Value) (A : Around) (outer : List Env) (s : Shared) (H : Hp) (Ex : XK) (x : α) (E : En), ok x → E.w = w' x → Room k (A.deeper (envOfC n (defScope st) s.heap.objs.size f cdv)) →
      XSs (cx0 P w K mg base N n (defScope st) f cdv A outer s H Ex) (defBody st) (Sta K E (startR N (pre x)) [] []) { nx := fun _ H' => Qs E.w E.G E.H (post x) .non H', rt := Qs E.w E.G E.H (post x) }) : Fnc P w K mg base CX0 (k + 1) n ps (Pr w' ok pre post) := by
  obtain ⟨f, fd, F, hm⟩ := D
  refine ⟨f, fd, hm, F.kp, F.bindsN hb, F.ok S (fun vs H Q E ⟨x, G, h1, h2, h3, h4⟩ => by rw [h3.len, hl x h1]) fun cdv A outer s H vs Q Ex hr ⟨x, G, h1, h2, h3, h4⟩ => ?_⟩
  refine ⟨_, PSs.nox pss_x, _, start_sta (K := K) (E := ⟨w' x, G, H, h2⟩) h3, ?_⟩
  refine ⟨fun pins sh σ H2 I q => ?_⟩
  refine thn ((body f cdv A outer s H Ex x ⟨w' x, G, H, h2⟩ h1 rfl hr).run pins sh σ H2 I q) fun fl s1 r => ?_
  cases fl with
  | next => exact let ⟨σ', H', I', G', a, z⟩ := r; ⟨σ', H', I', h4 _ G' H' a z⟩
  | ret v => exact let ⟨x', σ', H', I', rv, G', a, z⟩ := r; ⟨x', σ', H', I', rv, h4 _ G' H' a z⟩
  | brk => exact let ⟨σ', H', I', z⟩ := r; z.elim
  | cont => exact let ⟨σ', H', I', z⟩ := r; z.elim
theorem fnc_mkL (D : DefAt K mg n st) (S : FnScope N ps (defScope st)) (hb : ∀ (kV doc pm : Value) (an : Option Addr) (cdv ct : Value) (us : List Value), us.length = ps.length → bindArgs (PySem.W.fnOf n n (defArgs st) (defBody st) (defScope st) .none kV doc pm an cdv ct) ⟨us, []⟩ = pure (ps.zip us))
    (hl : ∀ x, ok x → (pre x).length = ps.length)
    (body : ∀ (f : Addr) (cdv : Value) (A : Around) (outer : List Env) (s : Shared) (H : Hp) (Ex : XK) (x : α) (E : En), ok x → E.w = w' x → Room k (A.deeper (envOfC n (defScope st) s.heap.objs.size f cdv)) →
      XSs (cx0 P w K mg base N n (defScope st) f cdv A outer s H Ex) (defBody st) (Sta K E (startR N (pre x)) [] []) { nx := fun _ _ => False, rt := RL K E (PL x) }) : Fnc P w K mg base CX0 (k + 1) n ps (PrL K w' ok pre PL) := by
  obtain ⟨f, fd, F, hm⟩ := D
  refine ⟨f, fd, hm, F.kp, F.bindsN hb, F.ok S (fun vs H Q E ⟨x, G, h1, h2, h3, h4⟩ => by rw [h3.len, hl x h1]) fun cdv A outer s H vs Q Ex hr ⟨x, G, h1, h2, h3, h4⟩ => ?_⟩
  refine ⟨_, PSs.nox pss_x, _, start_sta (K := K) (E := ⟨w' x, G, H, h2⟩) h3, ?_⟩
  refine ⟨fun pins sh σ H2 I q => ?_⟩
  refine thn ((body f cdv A outer s H Ex x ⟨w' x, G, H, h2⟩ h1 rfl hr).run pins sh σ H2 I q) fun fl s1 r => ?_
  cases fl with
  | next => exact let ⟨σ', H', I', z⟩ := r; z.elim
  | ret v => exact let ⟨x', σ', H', I', rv, a, us, ds, G', e, q1, q2, q3, q4, q5, q6⟩ := r; ⟨x', σ', H', I', rv, by subst e; exact h4 a us ds G' H' q1 q2 q3 q4 q5 q6⟩
  | brk => exact let ⟨σ', H', I', z⟩ := r; z.elim
  | cont => exact let ⟨σ', H', I', z⟩ := r; z.elim
/-- a new list is data, too -/
theorem fnc_d {CX : CXT} (F : Fnc P w K mg base CX k n ps (PrL K w' ok pre PL)) : Fnc P w K mg base CX k n ps (Pr w' ok pre fun x => exS (PL x) (tlS K)) := by
  obtain ⟨f, fd, h1, h2, h3, h4⟩ := F
  exact ⟨f, fd, h1, h2, h3, h4.imp fun vs H Q E ⟨x, G, q1, q2, q3, q4⟩ => ⟨x, G, q1, q2, q3, fun a us ds G' H' A e1 e2 e3 e4 e5 => q4 _ _ H' (xl_frz A e1 e2 e3) ⟨ds, e5, a, us, rfl, upd_same, dpAll_mono (.new e2) _ _ e4⟩⟩⟩
end
end K81
end

section
set_option Elab.async false
set_option linter.all false
set_option maxRecDepth 100000
namespace K81
open PySem PySem.Spec PyProof.Rows L2
/-- what the top has made: the defs and the built-ins that stay -/
structure Txt (K : PySem.W.Frag) (mg : Str → Option Value) : Prop where
  f_is_integer : DefAt K mg "is_integer" s_is_integer
  f_divisor : DefAt K mg "divisor" s_divisor
  f_made : DefAt K mg "made" s_made
  f_plus : DefAt K mg "plus" s_plus
  f_times : DefAt K mg "times" s_times
  f_is_less : DefAt K mg "is_less" s_is_less
  f_least_of : DefAt K mg "least_of" s_least_of
  f_greatest_of : DefAt K mg "greatest_of" s_greatest_of
  f_ascending : DefAt K mg "ascending" s_ascending
  f_middle : DefAt K mg "middle" s_middle
  f_is_fraction : DefAt K mg "is_fraction" s_is_fraction
  f_is_within : DefAt K mg "is_within" s_is_within
  f_is_number : DefAt K mg "is_number" s_is_number
  f_check_number : DefAt K mg "check_number" s_check_number
  f_mean_of : DefAt K mg "mean_of" s_mean_of
  f_ranked_of : DefAt K mg "ranked_of" s_ranked_of
  f_value_of : DefAt K mg "value_of" s_value_of
  f_all_lots : DefAt K mg "all_lots" s_all_lots
  f_ends_for : DefAt K mg "ends_for" s_ends_for
  f_corner_of : DefAt K mg "corner_of" s_corner_of
  f_corners_of : DefAt K mg "corners_of" s_corners_of
  f_holding_lots : DefAt K mg "holding_lots" s_holding_lots
  f_without : DefAt K mg "without" s_without
  f_with_person : DefAt K mg "with_person" s_with_person
  f_others_of : DefAt K mg "others_of" s_others_of
  f_least_among : DefAt K mg "least_among" s_least_among
  f_blocking_lots : DefAt K mg "blocking_lots" s_blocking_lots
  f_least_lots : DefAt K mg "least_lots" s_least_lots
  f_least_blocks : DefAt K mg "least_blocks" s_least_blocks
  f_vetoes : DefAt K mg "vetoes" s_vetoes
  f_swings : DefAt K mg "swings" s_swings
  f_alone : DefAt K mg "alone" s_alone
  f_levels : DefAt K mg "levels" s_levels
  f_are_parts : DefAt K mg "are_parts" s_are_parts
  f_is_weighted : DefAt K mg "is_weighted" s_is_weighted
  f_is_bound : DefAt K mg "is_bound" s_is_bound
  f_parts_told : DefAt K mg "parts_told" s_parts_told
  f_is_leaf : DefAt K mg "is_leaf" s_is_leaf
  f_terms_told : DefAt K mg "terms_told" s_terms_told
  f_Ldice : DefAt K mg "_law_dice" s_Ldice
  f_Ldraw : DefAt K mg "_law_draw" s_Ldraw
  f_Llowest : DefAt K mg "_law_lowest" s_Llowest
  f_Lsum : DefAt K mg "_law_sum" s_Lsum
  f_Lproduct : DefAt K mg "_law_product" s_Lproduct
  f_Lless : DefAt K mg "_law_less" s_Lless
  f_Lsorted : DefAt K mg "_law_sorted" s_Lsorted
  f_Lnumber : DefAt K mg "_law_number" s_Lnumber
  f_Lterm : DefAt K mg "_law_term" s_Lterm
  f_Lrule_parts : DefAt K mg "_law_rule_parts" s_Lrule_parts
  f_Lvalue : DefAt K mg "_law_value" s_Lvalue
  f_Llots : DefAt K mg "_law_lots" s_Llots
  f_Lby_size : DefAt K mg "_law_by_size" s_Lby_size
  f_Lat_ends : DefAt K mg "_law_at_ends" s_Lat_ends
  f_Lcorner : DefAt K mg "_law_corner" s_Lcorner
  f_Lholds : DefAt K mg "_law_holds" s_Lholds
  f_Lothers : DefAt K mg "_law_others" s_Lothers
  f_Lleast : DefAt K mg "_law_least" s_Lleast
  f_Lcall : DefAt K mg "_law_call" s_Lcall
  f_Lrefused : DefAt K mg "_law_refused" s_Lrefused
  f_Ldrawn_rule : DefAt K mg "_law_drawn_rule" s_Ldrawn_rule
  f_Llots_right : DefAt K mg "_law_lots_right" s_Llots_right
  f_Lpeople_right : DefAt K mg "_law_people_right" s_Lpeople_right
  f_law : DefAt K mg "law" s_law
  b_isinstance : mg "isinstance" = none
  b_abs : mg "abs" = none
  b_all : mg "all" = none
  b_any : mg "any" = none
  b_tuple : mg "tuple" = none
  b_int : mg "int" = none
  b_bool : mg "bool" = none
  b_str : mg "str" = none
  b_list : mg "list" = none
  b_len : mg "len" = none
  b_range : mg "range" = none
  b_enumerate : mg "enumerate" = none
  b_zip : mg "zip" = none
  b_sorted : mg "sorted" = none
  b_sum : mg "sum" = none
  i_MOST_PEOPLE : ∃ t, mg "MOST_PEOPLE" = some (.int 6 t)
  i_MOST_DEEP : ∃ t, mg "MOST_DEEP" = some (.int 8 t)
  i_MOST_TERMS : ∃ t, mg "MOST_TERMS" = some (.int 60 t)
  i_MOST_PARTS : ∃ t, mg "MOST_PARTS" = some (.int 8 t)
  i_MOST_WEIGHT : ∃ t, mg "MOST_WEIGHT" = some (.int 99 t)
  k_ZERO : ∃ a, mg "ZERO" = some (.ref a) ∧ ∀ H : Hp, SqT K H a [.int 0, .int 1]
  k_ONE : ∃ a, mg "ONE" = some (.ref a) ∧ ∀ H : Hp, SqT K H a [.int 1, .int 1]
  rule : ∃ C f fd, mg "Rule" = some (.ref C) ∧ Mk K C f ∧ Cls K C ∧ NoAttr K C "people" ∧ NoAttr K C "term" ∧ FunD K "__init__" "Rule.__init__" (defArgs s_Rinit) (defBody s_Rinit) (defScope s_Rinit) [] [] f fd
  exc : ∃ C, mg "NoNumber" = some (.ref C) ∧ (PySem.W.excIn K C He.veBase "ValueError.__new__" = true ∧ PySem.W.keepIn K (.ref C) = true ∧ PySem.W.subIn K (.ref C) (.type "BaseException") = some true ∧ PySem.W.typeIn K (.ref C) = some (.type "type")) ∧ PySem.W.exmOne K (.ref C) (.ref C) = some true
abbrev N_is_integer : List Str := ["thing"]
theorem sc_is_integer : FnScope N_is_integer ["thing"] (defScope s_is_integer) := ⟨rfl, rfl, rfl, by decide +kernel, rfl, by decide +kernel, by decide +kernel⟩
abbrev N_divisor : List Str := ["one", "other"]
theorem sc_divisor : FnScope N_divisor ["one", "other"] (defScope s_divisor) := ⟨rfl, rfl, rfl, by decide +kernel, rfl, by decide +kernel, by decide +kernel⟩
abbrev N_made : List Str := ["top", "bottom", "common"]
theorem sc_made : FnScope N_made ["top", "bottom"] (defScope s_made) := ⟨rfl, rfl, rfl, by decide +kernel, rfl, by decide +kernel, by decide +kernel⟩
abbrev N_plus : List Str := ["one", "other"]
theorem sc_plus : FnScope N_plus ["one", "other"] (defScope s_plus) := ⟨rfl, rfl, rfl, by decide +kernel, rfl, by decide +kernel, by decide +kernel⟩
abbrev N_times : List Str := ["one", "other"]
theorem sc_times : FnScope N_times ["one", "other"] (defScope s_times) := ⟨rfl, rfl, rfl, by decide +kernel, rfl, by decide +kernel, by decide +kernel⟩
abbrev N_is_less : List Str := ["one", "other"]
theorem sc_is_less : FnScope N_is_less ["one", "other"] (defScope s_is_less) := ⟨rfl, rfl, rfl, by decide +kernel, rfl, by decide +kernel, by decide +kernel⟩
abbrev N_least_of : List Str := ["fractions", "found", "fraction"]
theorem sc_least_of : FnScope N_least_of ["fractions"] (defScope s_least_of) := ⟨rfl, rfl, rfl, by decide +kernel, rfl, by decide +kernel, by decide +kernel⟩
abbrev N_greatest_of : List Str := ["fractions", "found", "fraction"]
theorem sc_greatest_of : FnScope N_greatest_of ["fractions"] (defScope s_greatest_of) := ⟨rfl, rfl, rfl, by decide +kernel, rfl, by decide +kernel, by decide +kernel⟩
abbrev N_ascending : List Str := ["fractions", "found", "fraction", "at"]
theorem sc_ascending : FnScope N_ascending ["fractions"] (defScope s_ascending) := ⟨rfl, rfl, rfl, by decide +kernel, rfl, by decide +kernel, by decide +kernel⟩
abbrev N_middle : List Str := ["one", "two", "three"]
theorem sc_middle : FnScope N_middle ["one", "two", "three"] (defScope s_middle) := ⟨rfl, rfl, rfl, by decide +kernel, rfl, by decide +kernel, by decide +kernel⟩
abbrev N_is_fraction : List Str := ["thing", "part"]
theorem sc_is_fraction : FnScope N_is_fraction ["thing"] (defScope s_is_fraction) := ⟨rfl, rfl, rfl, by decide +kernel, rfl, by decide +kernel, by decide +kernel⟩
abbrev N_is_within : List Str := ["thing", "least", "most"]
theorem sc_is_within : FnScope N_is_within ["thing", "least", "most"] (defScope s_is_within) := ⟨rfl, rfl, rfl, by decide +kernel, rfl, by decide +kernel, by decide +kernel⟩
abbrev N_is_number : List Str := ["thing"]
theorem sc_is_number : FnScope N_is_number ["thing"] (defScope s_is_number) := ⟨rfl, rfl, rfl, by decide +kernel, rfl, by decide +kernel, by decide +kernel⟩
abbrev N_check_number : List Str := ["thing"]
theorem sc_check_number : FnScope N_check_number ["thing"] (defScope s_check_number) := ⟨rfl, rfl, rfl, by decide +kernel, rfl, by decide +kernel, by decide +kernel⟩
abbrev N_mean_of : List Str := ["weights", "numbers", "total", "weight", "number"]
theorem sc_mean_of : FnScope N_mean_of ["weights", "numbers"] (defScope s_mean_of) := ⟨rfl, rfl, rfl, by decide +kernel, rfl, by decide +kernel, by decide +kernel⟩
abbrev N_ranked_of : List Str := ["k", "numbers"]
theorem sc_ranked_of : FnScope N_ranked_of ["k", "numbers"] (defScope s_ranked_of) := ⟨rfl, rfl, rfl, by decide +kernel, rfl, by decide +kernel, by decide +kernel⟩
abbrev N_value_of : List Str := ["term", "bids", "word", "weight", "part", "numbers"]
theorem sc_value_of : FnScope N_value_of ["term", "bids"] (defScope s_value_of) := ⟨rfl, rfl, rfl, by decide +kernel, rfl, by decide +kernel, by decide +kernel⟩
abbrev N_all_lots : List Str := ["many", "found", "level", "size", "longer", "lot", "person"]
theorem sc_all_lots : FnScope N_all_lots ["many"] (defScope s_all_lots) := ⟨rfl, rfl, rfl, by decide +kernel, rfl, by decide +kernel, by decide +kernel⟩
abbrev N_ends_for : List Str := ["lows", "highs", "lot", "person", "low"]
theorem sc_ends_for : FnScope N_ends_for ["lows", "highs", "lot"] (defScope s_ends_for) := ⟨rfl, rfl, rfl, by decide +kernel, rfl, by decide +kernel, by decide +kernel⟩
abbrev N_corner_of : List Str := ["rule", "lot"]
theorem sc_corner_of : FnScope N_corner_of ["rule", "lot"] (defScope s_corner_of) := ⟨rfl, rfl, rfl, by decide +kernel, rfl, by decide +kernel, by decide +kernel⟩
abbrev N_corners_of : List Str := ["rule", "lot"]
theorem sc_corners_of : FnScope N_corners_of ["rule"] (defScope s_corners_of) := ⟨rfl, rfl, rfl, by decide +kernel, rfl, by decide +kernel, by decide +kernel⟩
abbrev N_holding_lots : List Str := ["rule", "number", "table", "lot"]
theorem sc_holding_lots : FnScope N_holding_lots ["rule", "number"] (defScope s_holding_lots) := ⟨rfl, rfl, rfl, by decide +kernel, rfl, by decide +kernel, by decide +kernel⟩
abbrev N_without : List Str := ["lot", "person", "other"]
theorem sc_without : FnScope N_without ["lot", "person"] (defScope s_without) := ⟨rfl, rfl, rfl, by decide +kernel, rfl, by decide +kernel, by decide +kernel⟩
abbrev N_with_person : List Str := ["lot", "person"]
theorem sc_with_person : FnScope N_with_person ["lot", "person"] (defScope s_with_person) := ⟨rfl, rfl, rfl, by decide +kernel, rfl, by decide +kernel, by decide +kernel⟩
abbrev N_others_of : List Str := ["people", "lot", "person"]
theorem sc_others_of : FnScope N_others_of ["people", "lot"] (defScope s_others_of) := ⟨rfl, rfl, rfl, by decide +kernel, rfl, by decide +kernel, by decide +kernel⟩
abbrev N_least_among : List Str := ["lots", "lot", "person"]
theorem sc_least_among : FnScope N_least_among ["lots"] (defScope s_least_among) := ⟨rfl, rfl, rfl, by decide +kernel, rfl, by decide +kernel, by decide +kernel⟩
abbrev N_blocking_lots : List Str := ["rule", "number", "held", "lot"]
theorem sc_blocking_lots : FnScope N_blocking_lots ["rule", "number"] (defScope s_blocking_lots) := ⟨rfl, rfl, rfl, by decide +kernel, rfl, by decide +kernel, by decide +kernel⟩
abbrev N_least_lots : List Str := ["rule", "number"]
theorem sc_least_lots : FnScope N_least_lots ["rule", "number"] (defScope s_least_lots) := ⟨rfl, rfl, rfl, by decide +kernel, rfl, by decide +kernel, by decide +kernel⟩
abbrev N_least_blocks : List Str := ["rule", "number"]
theorem sc_least_blocks : FnScope N_least_blocks ["rule", "number"] (defScope s_least_blocks) := ⟨rfl, rfl, rfl, by decide +kernel, rfl, by decide +kernel, by decide +kernel⟩
abbrev N_vetoes : List Str := ["rule", "number", "held", "person", "lot"]
theorem sc_vetoes : FnScope N_vetoes ["rule", "number"] (defScope s_vetoes) := ⟨rfl, rfl, rfl, by decide +kernel, rfl, by decide +kernel, by decide +kernel⟩
abbrev N_swings : List Str := ["rule", "number", "held", "found", "person", "lots", "lot"]
theorem sc_swings : FnScope N_swings ["rule", "number"] (defScope s_swings) := ⟨rfl, rfl, rfl, by decide +kernel, rfl, by decide +kernel, by decide +kernel⟩
abbrev N_alone : List Str := ["rule", "number", "held", "person", "lot"]
theorem sc_alone : FnScope N_alone ["rule", "number"] (defScope s_alone) := ⟨rfl, rfl, rfl, by decide +kernel, rfl, by decide +kernel, by decide +kernel⟩
abbrev N_levels : List Str := ["rule", "found", "number"]
theorem sc_levels : FnScope N_levels ["rule"] (defScope s_levels) := ⟨rfl, rfl, rfl, by decide +kernel, rfl, by decide +kernel, by decide +kernel⟩
abbrev N_are_parts : List Str := ["thing"]
theorem sc_are_parts : FnScope N_are_parts ["thing"] (defScope s_are_parts) := ⟨rfl, rfl, rfl, by decide +kernel, rfl, by decide +kernel, by decide +kernel⟩
abbrev N_is_weighted : List Str := ["thing"]
theorem sc_is_weighted : FnScope N_is_weighted ["thing"] (defScope s_is_weighted) := ⟨rfl, rfl, rfl, by decide +kernel, rfl, by decide +kernel, by decide +kernel⟩
abbrev N_is_bound : List Str := ["thing"]
theorem sc_is_bound : FnScope N_is_bound ["thing"] (defScope s_is_bound) := ⟨rfl, rfl, rfl, by decide +kernel, rfl, by decide +kernel, by decide +kernel⟩
abbrev N_parts_told : List Str := ["thing", "word", "part"]
theorem sc_parts_told : FnScope N_parts_told ["thing"] (defScope s_parts_told) := ⟨rfl, rfl, rfl, by decide +kernel, rfl, by decide +kernel, by decide +kernel⟩
abbrev N_is_leaf : List Str := ["people", "thing"]
theorem sc_is_leaf : FnScope N_is_leaf ["people", "thing"] (defScope s_is_leaf) := ⟨rfl, rfl, rfl, by decide +kernel, rfl, by decide +kernel, by decide +kernel⟩
abbrev N_terms_told : List Str := ["people", "thing", "deep", "parts", "many", "part", "inner"]
theorem sc_terms_told : FnScope N_terms_told ["people", "thing", "deep"] (defScope s_terms_told) := ⟨rfl, rfl, rfl, by decide +kernel, rfl, by decide +kernel, by decide +kernel⟩
abbrev N_Ldice : List Str := ["_law_script", "_law_cell"]
theorem sc_Ldice : FnScope N_Ldice ["_law_script"] (defScope s_Ldice) := ⟨rfl, rfl, rfl, by decide +kernel, rfl, by decide +kernel, by decide +kernel⟩
abbrev N_Ldraw : List Str := ["_law_dice_here", "_law_sides", "_law_cell", "_law_digit", "_law_mixed"]
theorem sc_Ldraw : FnScope N_Ldraw ["_law_dice_here", "_law_sides"] (defScope s_Ldraw) := ⟨rfl, rfl, rfl, by decide +kernel, rfl, by decide +kernel, by decide +kernel⟩
abbrev N_Llowest : List Str := ["_law_top", "_law_bottom", "_law_one", "_law_other"]
theorem sc_Llowest : FnScope N_Llowest ["_law_top", "_law_bottom"] (defScope s_Llowest) := ⟨rfl, rfl, rfl, by decide +kernel, rfl, by decide +kernel, by decide +kernel⟩
abbrev N_Lsum : List Str := ["_law_one", "_law_other", "_law_sign"]
theorem sc_Lsum : FnScope N_Lsum ["_law_one", "_law_other", "_law_sign"] (defScope s_Lsum) := ⟨rfl, rfl, rfl, by decide +kernel, rfl, by decide +kernel, by decide +kernel⟩
abbrev N_Lproduct : List Str := ["_law_one", "_law_other"]
theorem sc_Lproduct : FnScope N_Lproduct ["_law_one", "_law_other"] (defScope s_Lproduct) := ⟨rfl, rfl, rfl, by decide +kernel, rfl, by decide +kernel, by decide +kernel⟩
abbrev N_Lless : List Str := ["_law_one", "_law_other"]
theorem sc_Lless : FnScope N_Lless ["_law_one", "_law_other"] (defScope s_Lless) := ⟨rfl, rfl, rfl, by decide +kernel, rfl, by decide +kernel, by decide +kernel⟩
abbrev N_Lsorted : List Str := ["_law_numbers", "_law_found", "_law_number_here", "_law_at", "_law_other"]
theorem sc_Lsorted : FnScope N_Lsorted ["_law_numbers"] (defScope s_Lsorted) := ⟨rfl, rfl, rfl, by decide +kernel, rfl, by decide +kernel, by decide +kernel⟩
abbrev N_Lnumber : List Str := ["_law_dice_here", "_law_bottom"]
theorem sc_Lnumber : FnScope N_Lnumber ["_law_dice_here"] (defScope s_Lnumber) := ⟨rfl, rfl, rfl, by decide +kernel, rfl, by decide +kernel, by decide +kernel⟩
abbrev N_Lterm : List Str := ["_law_dice_here", "_law_people", "_law_deep", "_law_means", "_law_kind", "_law_parts", "_law_k", "_law_ends", "_law_part"]
theorem sc_Lterm : FnScope N_Lterm ["_law_dice_here", "_law_people", "_law_deep", "_law_means"] (defScope s_Lterm) := ⟨rfl, rfl, rfl, by decide +kernel, rfl, by decide +kernel, by decide +kernel⟩
abbrev N_Lrule_parts : List Str := ["_law_dice_here", "_law_most", "_law_people", "_law_term_here", "_law_bids", "_law_person"]
theorem sc_Lrule_parts : FnScope N_Lrule_parts ["_law_dice_here", "_law_most"] (defScope s_Lrule_parts) := ⟨rfl, rfl, rfl, by decide +kernel, rfl, by decide +kernel, by decide +kernel⟩
abbrev N_Lvalue : List Str := ["_law_term_here", "_law_bids", "_law_word", "_law_whole", "_law_weight", "_law_part", "_law_told"]
theorem sc_Lvalue : FnScope N_Lvalue ["_law_term_here", "_law_bids"] (defScope s_Lvalue) := ⟨rfl, rfl, rfl, by decide +kernel, rfl, by decide +kernel, by decide +kernel⟩
abbrev N_Llots : List Str := ["_law_people", "_law_found", "_law_person", "_law_lot"]
theorem sc_Llots : FnScope N_Llots ["_law_people"] (defScope s_Llots) := ⟨rfl, rfl, rfl, by decide +kernel, rfl, by decide +kernel, by decide +kernel⟩
abbrev N_Lby_size : List Str := ["_law_lots_here", "_law_found", "_law_size", "_law_lot"]
theorem sc_Lby_size : FnScope N_Lby_size ["_law_lots_here"] (defScope s_Lby_size) := ⟨rfl, rfl, rfl, by decide +kernel, rfl, by decide +kernel, by decide +kernel⟩
abbrev N_Lat_ends : List Str := ["_law_people", "_law_lot", "_law_person"]
theorem sc_Lat_ends : FnScope N_Lat_ends ["_law_people", "_law_lot"] (defScope s_Lat_ends) := ⟨rfl, rfl, rfl, by decide +kernel, rfl, by decide +kernel, by decide +kernel⟩
abbrev N_Lcorner : List Str := ["_law_people", "_law_term_here", "_law_lot"]
theorem sc_Lcorner : FnScope N_Lcorner ["_law_people", "_law_term_here", "_law_lot"] (defScope s_Lcorner) := ⟨rfl, rfl, rfl, by decide +kernel, rfl, by decide +kernel, by decide +kernel⟩
abbrev N_Lholds : List Str := ["_law_people", "_law_term_here", "_law_lot", "_law_number_here"]
theorem sc_Lholds : FnScope N_Lholds ["_law_people", "_law_term_here", "_law_lot", "_law_number_here"] (defScope s_Lholds) := ⟨rfl, rfl, rfl, by decide +kernel, rfl, by decide +kernel, by decide +kernel⟩
abbrev N_Lothers : List Str := ["_law_people", "_law_lot", "_law_person"]
theorem sc_Lothers : FnScope N_Lothers ["_law_people", "_law_lot"] (defScope s_Lothers) := ⟨rfl, rfl, rfl, by decide +kernel, rfl, by decide +kernel, by decide +kernel⟩
abbrev N_Lleast : List Str := ["_law_lots_here", "_law_found", "_law_lot", "_law_lesser", "_law_other", "_law_one"]
theorem sc_Lleast : FnScope N_Lleast ["_law_lots_here"] (defScope s_Lleast) := ⟨rfl, rfl, rfl, by decide +kernel, rfl, by decide +kernel, by decide +kernel⟩
abbrev N_Lcall : List Str := ["_law_which", "_law_rule", "_law_number_here"]
theorem sc_Lcall : FnScope N_Lcall ["_law_which", "_law_rule", "_law_number_here"] (defScope s_Lcall) := ⟨rfl, rfl, rfl, by decide +kernel, rfl, by decide +kernel, by decide +kernel⟩
abbrev N_Lrefused : List Str := ["_law_which", "_law_rule", "_law_number_here", "_law_refused_here"]
theorem sc_Lrefused : FnScope N_Lrefused ["_law_which", "_law_rule", "_law_number_here"] (defScope s_Lrefused) := ⟨rfl, rfl, rfl, by decide +kernel, rfl, by decide +kernel, by decide +kernel⟩
abbrev N_Ldrawn_rule : List Str := ["_law_dice_here", "_law_people", "_law_term_here", "_law_bid"]
theorem sc_Ldrawn_rule : FnScope N_Ldrawn_rule ["_law_dice_here"] (defScope s_Ldrawn_rule) := ⟨rfl, rfl, rfl, by decide +kernel, rfl, by decide +kernel, by decide +kernel⟩
abbrev N_Llots_right : List Str := ["_law_dice_here", "_law_people", "_law_term_here", "_law_rule", "_law_corners", "_law_lot", "_law_due", "_law_number_here", "_law_told", "_law_numbers", "_law_held", "_law_blocks", "_law_one", "_law_other", "_law_meets", "_law_least_here", "_law_person"]
theorem sc_Llots_right : FnScope N_Llots_right ["_law_dice_here"] (defScope s_Llots_right) := ⟨rfl, rfl, rfl, by decide +kernel, rfl, by decide +kernel, by decide +kernel⟩
abbrev N_Lpeople_right : List Str := ["_law_dice_here", "_law_turn", "_law_people", "_law_term_here", "_law_rule", "_law_lots_here", "_law_corners", "_law_lot", "_law_number_here", "_law_held", "_law_k", "_law_due", "_law_counts", "_law_only", "_law_person", "_law_with_one", "_law_swung", "_law_one", "_law_odd"]
theorem sc_Lpeople_right : FnScope N_Lpeople_right ["_law_dice_here"] (defScope s_Lpeople_right) := ⟨rfl, rfl, rfl, by decide +kernel, rfl, by decide +kernel, by decide +kernel⟩
abbrev N_law : List Str := ["_law_script", "_law_dice_here"]
theorem sc_law : FnScope N_law ["_law_script"] (defScope s_law) := ⟨rfl, rfl, rfl, by decide +kernel, rfl, by decide +kernel, by decide +kernel⟩
abbrev N_Rinit : List Str := ["self", "people", "term", "many"]
theorem sc_Rinit : FnScope N_Rinit ["self", "people", "term"] (defScope s_Rinit) := ⟨rfl, rfl, rfl, by decide +kernel, rfl, by decide +kernel, by decide +kernel⟩
end K81
end

section
set_option Elab.async false
set_option linter.all false
/-! Plain mathematics: sorted lists of fractions. -/
namespace K81
theorem gd {α : Type} {xs : List α} {i : Nat} (d : α) (h : i < xs.length) : xs.getD i d = xs[i] := by
  rw [List.getD_eq_getElem?_getD, List.getElem?_eq_getElem h]; rfl
theorem gd_none {α : Type} {xs : List α} {i : Nat} (d : α) (h : xs.length ≤ i) : xs.getD i d = d := by
  rw [List.getD_eq_getElem?_getD, List.getElem?_eq_none h]; rfl
/-! ### sorting -/
def posA (f : Rat) (xs : List Rat) : Nat → Nat
  | 0 => 0
  | n + 1 => if f < xs.getD n 0 then posA f xs n else n + 1
def insA (f : Rat) (xs : List Rat) : List Rat := xs.take (posA f xs xs.length) ++ [f] ++ xs.drop (posA f xs xs.length)
def asc (fs : List Rat) : List Rat := fs.foldl (fun acc f => insA f acc) []
def cntA (f : Rat) (xs : List Rat) : Nat := (xs.filter fun o => !decide (f < o)).length
def lasc (fs : List Rat) : List Rat := fs.foldl (fun acc f => acc.take (cntA f acc) ++ [f] ++ acc.drop (cntA f acc)) []
def leastOf : List Rat → Rat
  | [] => 0
  | x :: xs => xs.foldl (fun f y => if y < f then y else f) x
def greatestOf : List Rat → Rat
  | [] => 0
  | x :: xs => xs.foldl (fun f y => if f < y then y else f) x
theorem posA_le (f : Rat) (xs : List Rat) : ∀ n, posA f xs n ≤ n
  | 0 => Nat.le_refl _
  | n + 1 => by
    unfold posA
    split
    · exact Nat.le_succ_of_le (posA_le f xs n)
    · exact Nat.le_refl _
theorem posA_up (f : Rat) (xs : List Rat) : ∀ n j, posA f xs n ≤ j → j < n → f < xs.getD j 0
  | 0, j, _, h => by omega
  | n + 1, j, h1, h2 => by
    unfold posA at h1
    split at h1
    · rename_i hlt
      by_cases e : j = n
      · subst e; exact hlt
      · exact posA_up f xs n j h1 (by omega)
    · omega
theorem posA_low (f : Rat) (xs : List Rat) : ∀ n, posA f xs n = 0 ∨ ¬ f < xs.getD (posA f xs n - 1) 0
  | 0 => .inl rfl
  | n + 1 => by
    unfold posA
    split
    · exact posA_low f xs n
    · rename_i h
      exact .inr h
abbrev Asc (xs : List Rat) : Prop := xs.Pairwise (· ≤ ·)
theorem asc_get {xs : List Rat} (h : Asc xs) {i j : Nat} (hij : i ≤ j) (hj : j < xs.length) : xs.getD i 0 ≤ xs.getD j 0 := by
  rw [gd _ (by omega), gd _ hj]
  by_cases e : i = j
  · subst e; exact Rat.le_refl
  · exact List.pairwise_iff_getElem.mp h i j (by omega) hj (by omega)
theorem posA_below {f : Rat} {xs : List Rat} (h : Asc xs) {j : Nat} (hj : j < posA f xs xs.length) : xs.getD j 0 ≤ f := by
  rcases posA_low f xs xs.length with e | e
  · omega
  · have hl := posA_le f xs xs.length
    exact Rat.le_trans (asc_get h (i := j) (j := posA f xs xs.length - 1) (by omega) (by omega)) (Rat.not_lt.mp e)
theorem insA_perm (f : Rat) (xs : List Rat) : (insA f xs).Perm (f :: xs) := by
  unfold insA
  rw [List.append_assoc]
  refine (List.perm_middle (a := f)).trans ?_
  show (f :: (xs.take (posA f xs xs.length) ++ xs.drop (posA f xs xs.length))).Perm (f :: xs)
  rw [List.take_append_drop]
theorem insA_asc {f : Rat} {xs : List Rat} (h : Asc xs) : Asc (insA f xs) := by
  unfold insA
  have hl := posA_le f xs xs.length
  rw [List.append_assoc, Asc, List.pairwise_append]
  refine ⟨h.sublist (List.take_sublist _ _), ?_, fun a ha b hb => ?_⟩
  · rw [List.singleton_append, List.pairwise_cons]
    refine ⟨fun b hb => ?_, h.sublist (List.drop_sublist _ _)⟩
    obtain ⟨i, hi, e⟩ := List.getElem_of_mem hb
    rw [List.getElem_drop] at e
    have h1 : posA f xs xs.length + i < xs.length := by simp at hi; omega
    have h2 := posA_up f xs xs.length (posA f xs xs.length + i) (by omega) h1
    rw [gd _ h1, e] at h2
    exact Rat.le_of_lt h2
  · obtain ⟨i, hi, e⟩ := List.getElem_of_mem ha
    have hi' : i < posA f xs xs.length := by simp at hi; omega
    rw [List.getElem_take] at e
    have h1 := posA_below h hi'
    rw [gd _ (by omega), e] at h1
    rcases List.mem_append.mp hb with hb | hb
    · simp at hb
      rw [hb]; exact h1
    · obtain ⟨j, hj, e2⟩ := List.getElem_of_mem hb
      rw [List.getElem_drop] at e2
      have h3 : posA f xs xs.length + j < xs.length := by simp at hj; omega
      have h2 := posA_up f xs xs.length (posA f xs xs.length + j) (by omega) h3
      rw [gd _ h3, e2] at h2
      exact Rat.le_trans h1 (Rat.le_of_lt h2)
theorem asc_fold : ∀ (fs acc : List Rat), Asc acc → Asc (fs.foldl (fun acc f => insA f acc) acc) ∧ (fs.foldl (fun acc f => insA f acc) acc).Perm (fs ++ acc)
  | [], acc, h => ⟨h, .refl _⟩
  | f :: fs, acc, h => by
    obtain ⟨h1, h2⟩ := asc_fold fs (insA f acc) (insA_asc h)
    refine ⟨h1, h2.trans ?_⟩
    refine (List.Perm.append_left fs (insA_perm f acc)).trans ?_
    exact List.perm_middle
theorem asc_asc (fs : List Rat) : Asc (asc fs) := (asc_fold fs [] .nil).1
theorem asc_perm (fs : List Rat) : (asc fs).Perm fs := by have := (asc_fold fs [] .nil).2; rwa [List.append_nil] at this
theorem asc_length (fs : List Rat) : (asc fs).length = fs.length := (asc_perm fs).length_eq
theorem asc_same {xs ys : List Rat} (h1 : Asc xs) (h2 : Asc ys) (p : xs.Perm ys) : xs = ys := p.eq_of_pairwise (fun _ _ _ _ h h' => Rat.le_antisymm h h') h1 h2
/-- the law's place is the program's -/
theorem cntA_eq {f : Rat} {xs : List Rat} (h : Asc xs) : cntA f xs = posA f xs xs.length := by
  have hl := posA_le f xs xs.length
  unfold cntA
  have e : xs = xs.take (posA f xs xs.length) ++ xs.drop (posA f xs xs.length) := (List.take_append_drop _ _).symm
  have e1 : (xs.take (posA f xs xs.length)).filter (fun o => !decide (f < o)) = xs.take (posA f xs xs.length) := by
    rw [List.filter_eq_self]
    intro a ha
    obtain ⟨i, hi, q⟩ := List.getElem_of_mem ha
    have hi' : i < posA f xs xs.length := by simp at hi; omega
    rw [List.getElem_take] at q
    have h1 := posA_below h hi'
    rw [gd _ (by omega), q] at h1
    have : ¬ f < a := Rat.not_lt.mpr h1
    simp [this]
  have e2 : (xs.drop (posA f xs xs.length)).filter (fun o => !decide (f < o)) = [] := by
    rw [List.filter_eq_nil_iff]
    intro a ha
    obtain ⟨j, hj, q⟩ := List.getElem_of_mem ha
    rw [List.getElem_drop] at q
    have h3 : posA f xs xs.length + j < xs.length := by simp at hj; omega
    have h2 := posA_up f xs xs.length (posA f xs xs.length + j) (by omega) h3
    rw [gd _ h3, q] at h2
    simp [h2]
  have e3 : xs.filter (fun o => !decide (f < o)) = (xs.take (posA f xs xs.length)).filter (fun o => !decide (f < o)) ++ (xs.drop (posA f xs xs.length)).filter (fun o => !decide (f < o)) := by
    rw [← List.filter_append, List.take_append_drop]
  rw [e3, e1, e2, List.append_nil, List.length_take]
  omega
theorem lasc_fold : ∀ (fs acc : List Rat), Asc acc → fs.foldl (fun acc f => acc.take (cntA f acc) ++ [f] ++ acc.drop (cntA f acc)) acc = fs.foldl (fun acc f => insA f acc) acc
  | [], _, _ => rfl
  | f :: fs, acc, h => by
    rw [List.foldl_cons, List.foldl_cons, cntA_eq h]
    exact lasc_fold fs _ (insA_asc h)
theorem lasc_eq (fs : List Rat) : lasc fs = asc fs := lasc_fold fs [] .nil
/-! ### least, greatest -/
theorem least_fold : ∀ (xs : List Rat) (x : Rat), (xs.foldl (fun f y => if y < f then y else f) x) ∈ x :: xs ∧ ∀ y ∈ x :: xs, (xs.foldl (fun f y => if y < f then y else f) x) ≤ y
  | [], x => ⟨by simp, fun y hy => by simp at hy; rw [hy]; exact Rat.le_refl⟩
  | z :: xs, x => by
    rw [List.foldl_cons]
    obtain ⟨h1, h2⟩ := least_fold xs (if z < x then z else x)
    refine ⟨?_, fun y hy => ?_⟩
    · rcases List.mem_cons.mp h1 with e | e
      · rw [e]; split <;> simp
      · exact List.mem_cons_of_mem _ (List.mem_cons_of_mem _ e)
    · have hb := h2 (if z < x then z else x) (by simp)
      rcases List.mem_cons.mp hy with rfl | hy
      · refine Rat.le_trans hb ?_
        split
        · exact Rat.le_of_lt ‹_›
        · exact Rat.le_refl
      · rcases List.mem_cons.mp hy with rfl | hy
        · refine Rat.le_trans hb ?_
          split
          · exact Rat.le_refl
          · exact Rat.not_lt.mp ‹_›
        · exact h2 y (List.mem_cons_of_mem _ hy)
theorem greatest_fold : ∀ (xs : List Rat) (x : Rat), (xs.foldl (fun f y => if f < y then y else f) x) ∈ x :: xs ∧ ∀ y ∈ x :: xs, y ≤ (xs.foldl (fun f y => if f < y then y else f) x)
  | [], x => ⟨by simp, fun y hy => by simp at hy; rw [hy]; exact Rat.le_refl⟩
  | z :: xs, x => by
    rw [List.foldl_cons]
    obtain ⟨h1, h2⟩ := greatest_fold xs (if x < z then z else x)
    refine ⟨?_, fun y hy => ?_⟩
    · rcases List.mem_cons.mp h1 with e | e
      · rw [e]; split <;> simp
      · exact List.mem_cons_of_mem _ (List.mem_cons_of_mem _ e)
    · have hb := h2 (if x < z then z else x) (by simp)
      rcases List.mem_cons.mp hy with rfl | hy
      · refine Rat.le_trans ?_ hb
        split
        · exact Rat.le_of_lt ‹_›
        · exact Rat.le_refl
      · rcases List.mem_cons.mp hy with rfl | hy
        · refine Rat.le_trans ?_ hb
          split
          · exact Rat.le_refl
          · exact Rat.not_lt.mp ‹_›
        · exact h2 y (List.mem_cons_of_mem _ hy)
theorem leastOf_asc {xs : List Rat} (h : xs ≠ []) : leastOf xs = (asc xs).getD 0 0 := by
  cases xs with
  | nil => exact absurd rfl h
  | cons x xs =>
    obtain ⟨h1, h2⟩ := least_fold xs x
    have hl : 0 < (asc (x :: xs)).length := by rw [asc_length]; simp
    refine Rat.le_antisymm ?_ ?_
    · refine h2 _ ((asc_perm (x :: xs)).mem_iff.mp ?_)
      rw [gd _ hl]
      exact List.getElem_mem hl
    · obtain ⟨i, hi, e⟩ := List.getElem_of_mem ((asc_perm (x :: xs)).mem_iff.mpr h1)
      show _ ≤ xs.foldl _ x
      rw [← e, ← gd 0 hi]
      exact asc_get (asc_asc _) (Nat.zero_le _) hi
theorem greatestOf_asc {xs : List Rat} (h : xs ≠ []) : greatestOf xs = (asc xs).getD (xs.length - 1) 0 := by
  cases xs with
  | nil => exact absurd rfl h
  | cons x xs =>
    obtain ⟨h1, h2⟩ := greatest_fold xs x
    have hl : (x :: xs).length - 1 < (asc (x :: xs)).length := by rw [asc_length]; simp
    refine Rat.le_antisymm ?_ ?_
    · obtain ⟨i, hi, e⟩ := List.getElem_of_mem ((asc_perm (x :: xs)).mem_iff.mpr h1)
      show xs.foldl _ x ≤ _
      rw [← e, ← gd 0 hi]
      refine asc_get (asc_asc _) ?_ hl
      rw [asc_length] at hi
      omega
    · refine h2 _ ((asc_perm (x :: xs)).mem_iff.mp ?_)
      rw [gd _ hl]
      exact List.getElem_mem hl
/-! ### the k-th grows with the items -/
theorem asc_count {xs : List Rat} (h : Asc xs) (v : Rat) : ∀ k, k < xs.length → (xs.getD k 0 ≤ v ↔ k < xs.countP fun x => decide (x ≤ v)) := by
  intro k hk
  have e : xs.countP (fun x => decide (x ≤ v)) = (xs.take (k + 1)).countP (fun x => decide (x ≤ v)) + (xs.drop (k + 1)).countP (fun x => decide (x ≤ v)) := by
    rw [← List.countP_append, List.take_append_drop]
  constructor
  · intro hv
    have : (xs.take (k + 1)).countP (fun x => decide (x ≤ v)) = (xs.take (k + 1)).length := by
      rw [List.countP_eq_length]
      intro a ha
      obtain ⟨i, hi, q⟩ := List.getElem_of_mem ha
      rw [List.getElem_take] at q
      have hi' : i ≤ k := by simp at hi; omega
      have := asc_get h hi' hk
      rw [gd _ (by omega), q] at this
      simpa using Rat.le_trans this hv
    rw [this, List.length_take] at e
    omega
  · intro hc
    refine Classical.byContradiction fun hv => ?_
    have h2 : (xs.drop k).countP (fun x => decide (x ≤ v)) = 0 := by
      rw [List.countP_eq_zero]
      intro a ha
      obtain ⟨i, hi, q⟩ := List.getElem_of_mem ha
      rw [List.getElem_drop] at q
      have h3 : k + i < xs.length := by simp at hi; omega
      have := asc_get h (Nat.le_add_right k i) h3
      rw [gd (xs := xs) (i := k + i) _ h3, q] at this
      simp only [decide_eq_true_eq]
      exact fun z => hv (Rat.le_trans this z)
    have e2 : xs.countP (fun x => decide (x ≤ v)) = (xs.take k).countP (fun x => decide (x ≤ v)) + (xs.drop k).countP (fun x => decide (x ≤ v)) := by
      rw [← List.countP_append, List.take_append_drop]
    have e3 := List.countP_le_length (p := fun x => decide (x ≤ v)) (l := xs.take k)
    rw [List.length_take] at e3
    omega
theorem countP_mono : ∀ {xs ys : List Rat} (v : Rat), xs.length = ys.length → (∀ i, i < xs.length → xs.getD i 0 ≤ ys.getD i 0) → ys.countP (fun x => decide (x ≤ v)) ≤ xs.countP fun x => decide (x ≤ v)
  | [], [], _, _, _ => Nat.le_refl _
  | [], _ :: _, _, h, _ => by simp at h
  | _ :: _, [], _, h, _ => by simp at h
  | x :: xs, y :: ys, v, h, k => by
    have ih := countP_mono (xs := xs) (ys := ys) v (by simpa using h) fun i hi => by
      have := k (i + 1) (by simpa using hi)
      simpa using this
    have h0 := k 0 (by simp)
    simp only [List.getD_cons_zero] at h0
    rw [List.countP_cons, List.countP_cons]
    by_cases hy : y ≤ v
    · have hx : x ≤ v := Rat.le_trans h0 hy
      simp only [hy, hx, decide_true, if_true]
      omega
    · simp only [hy, decide_false, Bool.false_eq_true, if_false]
      omega
theorem asc_mono {xs ys : List Rat} (h : xs.length = ys.length) (k : ∀ i, i < xs.length → xs.getD i 0 ≤ ys.getD i 0) (j : Nat) : (asc xs).getD j 0 ≤ (asc ys).getD j 0 := by
  by_cases hj : j < xs.length
  · rw [asc_count (asc_asc xs) _ j (by rw [asc_length]; exact hj), (asc_perm xs).countP_eq]
    refine Nat.lt_of_lt_of_le ?_ (countP_mono _ h k)
    rw [← (asc_perm ys).countP_eq]
    exact (asc_count (asc_asc ys) _ j (by rw [asc_length, ← h]; exact hj)).mp Rat.le_refl
  · rw [gd_none _ (by rw [asc_length]; omega), gd_none _ (by rw [asc_length, ← h]; omega)]
    exact Rat.le_refl
theorem asc_mem {xs : List Rat} {j : Nat} (h : j < xs.length) : (asc xs).getD j 0 ∈ xs := by
  have hl : j < (asc xs).length := by rw [asc_length]; exact h
  rw [gd _ hl]
  exact (asc_perm xs).mem_iff.mp (List.getElem_mem hl)
end K81
end

section
set_option Elab.async false
set_option linter.all false
/-! Plain mathematics: terms, their numbers. -/
namespace K81
open PySem
def rD (a : Rat) : PyData := .tuple [.int a.num, .int a.den]
/-! ### denominators -/
theorem rat_made {t b : Int} (hb : 0 < b) : ((t : Rat) / (b : Rat)).num = t / (Int.gcd t b : Int) ∧ (((t : Rat) / (b : Rat)).den : Int) = b / (Int.gcd t b : Int) := by
  rw [← Rat.divInt_eq_div, Rat.num_divInt, Rat.den_divInt, if_neg (by omega), Int.sign_eq_one_of_pos hb, Int.gcd_comm b t, Int.one_mul]
  refine ⟨rfl, ?_⟩
  rw [Int.natCast_ediv, Int.natAbs_of_nonneg (Int.le_of_lt hb)]
theorem den_pos (a : Rat) : (0 : Int) < a.den := by have := a.den_pos; omega
theorem rat_add (a b : Rat) : ((a.num * b.den + b.num * a.den : Int) : Rat) / ((a.den * b.den : Int) : Rat) = a + b := by
  rw [Rat.add_def', ← Rat.divInt_eq_div, ← Rat.divInt_ofNat]
  rfl
theorem rat_mul (a b : Rat) : ((a.num * b.num : Int) : Rat) / ((a.den * b.den : Int) : Rat) = a * b := by
  rw [Rat.mul_def', ← Rat.divInt_eq_div, ← Rat.divInt_ofNat]
  rfl
theorem den_le {t b : Int} (hb : 0 < b) : (((t : Rat) / (b : Rat)).den : Int) ≤ b := by
  rw [(rat_made hb).2]
  exact Int.ediv_le_self _ (Int.le_of_lt hb)
theorem den_add_le (a b : Rat) : (a + b).den ≤ a.den * b.den := by
  have h := den_le (t := a.num * b.den + b.num * a.den) (b := a.den * b.den) (Int.mul_pos (den_pos a) (den_pos b))
  rw [rat_add] at h
  exact_mod_cast h
theorem den_mul_le (a b : Rat) : (a * b).den ≤ a.den * b.den := by
  have h := den_le (t := a.num * b.num) (b := a.den * b.den) (Int.mul_pos (den_pos a) (den_pos b))
  rw [rat_mul] at h
  exact_mod_cast h
theorem one_div {s : Nat} (h : 0 < s) : ((1 : Rat) / (s : Rat)).num = 1 ∧ ((1 : Rat) / (s : Rat)).den = s := by
  have h1 := rat_made (t := 1) (b := (s : Int)) (by omega)
  have hg : Int.gcd 1 (s : Int) = 1 := by simp
  rw [hg] at h1
  obtain ⟨h2, h3⟩ := h1
  have e : (((1 : Int) : Rat) / ((s : Int) : Rat)) = (1 : Rat) / (s : Rat) := rfl
  rw [e] at h2 h3
  refine ⟨by simpa using h2, ?_⟩
  have : ((((1 : Rat) / (s : Rat)).den : Nat) : Int) = (s : Int) := by simpa using h3
  exact_mod_cast this
theorem num_le_mul {a : Rat} {m : Nat} (h0 : 0 ≤ a) (h : a ≤ (m : Rat)) : a.num.natAbs ≤ m * a.den := by
  have h1 : 0 ≤ a.num := Rat.num_nonneg.mpr h0
  have h2 := (Rat.le_iff a (m : Rat)).mp h
  rw [Rat.num_natCast, Rat.den_natCast] at h2
  have h3 : a.num ≤ ((m * a.den : Nat) : Int) := by
    rw [Int.natCast_mul]
    simpa using h2
  omega
/-! ### terms -/
inductive Tm where
  | bid (p : Nat)
  | fix (a : Rat)
  | mean (ws : List Nat) (ts : List Tm)
  | least (ts : List Tm)
  | greatest (ts : List Tm)
  | ranked (k : Nat) (ts : List Tm)
  | between (lo hi : Rat) (t : Tm)
def wD (w : Nat) (d : PyData) : PyData := .tuple [.int w, d]
mutual
def Tm.toD : Tm → PyData
  | .bid p => .tuple [.str "bid", .int p]
  | .fix a => .tuple [.str "fixed", rD a]
  | .mean ws ts => .tuple [.str "mean", .tuple (List.zipWith wD ws (Tm.toDs ts))]
  | .least ts => .tuple [.str "least", .tuple (Tm.toDs ts)]
  | .greatest ts => .tuple [.str "greatest", .tuple (Tm.toDs ts)]
  | .ranked k ts => .tuple [.str "ranked", .int k, .tuple (Tm.toDs ts)]
  | .between lo hi t => .tuple [.str "between", rD lo, rD hi, Tm.toD t]
def Tm.toDs : List Tm → List PyData
  | [] => []
  | t :: ts => Tm.toD t :: Tm.toDs ts
end
def meanOf (ws : List Nat) (vs : List Rat) : Rat := ((ws.zip vs).foldl (fun tot p => tot + (p.1 : Rat) * p.2) 0) * (1 / (ws.sum : Rat))
mutual
def Tm.val (bs : List Rat) : Tm → Rat
  | .bid p => bs.getD p 0
  | .fix a => a
  | .mean ws ts => meanOf ws (Tm.vals bs ts)
  | .least ts => (asc (Tm.vals bs ts)).getD 0 0
  | .greatest ts => (asc (Tm.vals bs ts)).getD (ts.length - 1) 0
  | .ranked k ts => (asc (Tm.vals bs ts)).getD (ts.length - k) 0
  | .between lo hi t => (asc [lo, hi, Tm.val bs t]).getD 1 0
def Tm.vals (bs : List Rat) : List Tm → List Rat
  | [] => []
  | t :: ts => Tm.val bs t :: Tm.vals bs ts
end
mutual
def Tm.dep : Tm → Nat
  | .bid _ => 1
  | .fix _ => 1
  | .mean _ ts => Tm.deps ts + 1
  | .least ts => Tm.deps ts + 1
  | .greatest ts => Tm.deps ts + 1
  | .ranked _ ts => Tm.deps ts + 1
  | .between _ _ t => Tm.dep t + 1
def Tm.deps : List Tm → Nat
  | [] => 0
  | t :: ts => max (Tm.dep t) (Tm.deps ts)
end
mutual
def Tm.size : Tm → Nat
  | .bid _ => 1
  | .fix _ => 1
  | .mean _ ts => Tm.sizes ts + 1
  | .least ts => Tm.sizes ts + 1
  | .greatest ts => Tm.sizes ts + 1
  | .ranked _ ts => Tm.sizes ts + 1
  | .between _ _ t => Tm.size t + 1
def Tm.sizes : List Tm → Nat
  | [] => 0
  | t :: ts => Tm.size t + Tm.sizes ts
end
/-- a number of so many bits -/
structure Nq (b : Nat) (a : Rat) : Prop where
  lo : 0 ≤ a
  hi : a ≤ 1
  den : a.den < 2 ^ b
theorem Nq.mono {b c : Nat} {a : Rat} (h : Nq b a) (k : b ≤ c) : Nq c a := ⟨h.lo, h.hi, Nat.lt_of_lt_of_le h.den (Nat.pow_le_pow_right (by decide) k)⟩
def WsOk (ws : List Nat) : Prop := ∀ w ∈ ws, 1 ≤ w ∧ w ≤ 99
mutual
def Tm.ok (n : Nat) : Tm → Prop
  | .bid p => p < n
  | .fix a => Nq 20 a
  | .mean ws ts => ws.length = ts.length ∧ 1 ≤ ts.length ∧ ts.length ≤ 8 ∧ WsOk ws ∧ Tm.oks n ts
  | .least ts => 1 ≤ ts.length ∧ ts.length ≤ 8 ∧ Tm.oks n ts
  | .greatest ts => 1 ≤ ts.length ∧ ts.length ≤ 8 ∧ Tm.oks n ts
  | .ranked k ts => 1 ≤ k ∧ k ≤ ts.length ∧ ts.length ≤ 8 ∧ Tm.oks n ts
  | .between lo hi t => Nq 20 lo ∧ Nq 20 hi ∧ lo ≤ hi ∧ Tm.ok n t
def Tm.oks (n : Nat) : List Tm → Prop
  | [] => True
  | t :: ts => Tm.ok n t ∧ Tm.oks n ts
end
/-- bids -/
def BsOk (n : Nat) (bs : List Rat) : Prop := bs.length = n ∧ ∀ a ∈ bs, Nq 20 a
theorem Tm.toDs_map : ∀ ts : List Tm, Tm.toDs ts = ts.map Tm.toD
  | [] => rfl
  | t :: ts => by rw [Tm.toDs, Tm.toDs_map ts]; rfl
theorem Tm.vals_map (bs : List Rat) : ∀ ts : List Tm, Tm.vals bs ts = ts.map (Tm.val bs)
  | [] => rfl
  | t :: ts => by rw [Tm.vals, Tm.vals_map bs ts]; rfl
theorem Tm.oks_iff (n : Nat) : ∀ {ts : List Tm}, Tm.oks n ts ↔ ∀ t ∈ ts, Tm.ok n t
  | [] => by simp [Tm.oks]
  | t :: ts => by rw [Tm.oks, Tm.oks_iff n]; simp
theorem Tm.deps_le : ∀ {ts : List Tm} {t : Tm}, t ∈ ts → Tm.dep t ≤ Tm.deps ts
  | a :: ts, t, h => by
    rw [Tm.deps]
    rcases List.mem_cons.mp h with rfl | h
    · omega
    · have := Tm.deps_le h; omega
theorem Tm.sizes_le : ∀ {ts : List Tm} {t : Tm}, t ∈ ts → Tm.size t ≤ Tm.sizes ts
  | a :: ts, t, h => by
    rw [Tm.sizes]
    rcases List.mem_cons.mp h with rfl | h
    · omega
    · have := Tm.sizes_le h; omega
theorem Tm.size_pos (t : Tm) : 1 ≤ Tm.size t := by cases t <;> simp [Tm.size]
/-! ### the mean -/
/-- the running sum -/
def runM (ws : List Nat) (vs : List Rat) (i : Nat) : Rat := (((ws.zip vs).take i).foldl (fun tot p => tot + (p.1 : Rat) * p.2) 0)
theorem runM_succ {ws : List Nat} {vs : List Rat} {i : Nat} (h1 : i < ws.length) (h2 : i < vs.length) : runM ws vs (i + 1) = runM ws vs i + ((ws.getD i 0 : Nat) : Rat) * vs.getD i 0 := by
  unfold runM
  have hz : i < (ws.zip vs).length := by rw [List.length_zip]; omega
  rw [List.take_succ_eq_append_getElem hz, List.foldl_append, gd _ h1, gd _ h2, List.getElem_zip]
  rfl
theorem runM_all {ws : List Nat} {vs : List Rat} (h : ws.length = vs.length) : (ws.zip vs).foldl (fun tot p => tot + (p.1 : Rat) * p.2) 0 = runM ws vs ws.length := by
  unfold runM
  rw [List.take_of_length_le]
  rw [List.length_zip]
  omega
theorem runM_lo {ws : List Nat} {vs : List Rat} (h : ws.length = vs.length) (hv : ∀ a ∈ vs, 0 ≤ a) : ∀ i, i ≤ ws.length → 0 ≤ runM ws vs i
  | 0, _ => Rat.le_refl
  | i + 1, hi => by
    rw [runM_succ (by omega) (by omega)]
    refine Rat.add_nonneg (runM_lo h hv i (by omega)) (Rat.mul_nonneg Rat.natCast_nonneg ?_)
    rw [gd _ (by omega)]
    exact hv _ (List.getElem_mem _)
theorem runM_hi {ws : List Nat} {vs : List Rat} (h : ws.length = vs.length) (hv : ∀ a ∈ vs, a ≤ 1) : ∀ i, i ≤ ws.length → runM ws vs i ≤ (((ws.take i).sum : Nat) : Rat)
  | 0, _ => Rat.le_refl
  | i + 1, hi => by
    rw [runM_succ (by omega) (by omega)]
    have h1 := runM_hi h hv i (by omega)
    have h2 : ((ws.getD i 0 : Nat) : Rat) * vs.getD i 0 ≤ ((ws.getD i 0 : Nat) : Rat) := by
      have h3 : vs.getD i 0 ≤ 1 := by rw [gd _ (by omega)]; exact hv _ (List.getElem_mem _)
      have h4 := Rat.mul_le_mul_of_nonneg_left h3 (Rat.natCast_nonneg (a := ws.getD i 0))
      rwa [Rat.mul_one] at h4
    have e : (ws.take (i + 1)).sum = (ws.take i).sum + ws.getD i 0 := by
      rw [gd _ (show i < ws.length by omega), List.take_succ_eq_append_getElem (by omega), List.sum_append]
      simp
    rw [e, Rat.natCast_add]
    exact Rat.le_trans (Rat.add_le_add_right.mpr h1) (Rat.add_le_add_left.mpr h2)
theorem sum_le {ws : List Nat} (h : WsOk ws) : ws.sum ≤ 99 * ws.length := by
  induction ws with
  | nil => simp
  | cons w ws ih =>
    have := ih fun x hx => h x (by simp [hx])
    have h1 := (h w (by simp)).2
    simp only [List.sum_cons, List.length_cons]
    omega
theorem sum_pos {ws : List Nat} (h : WsOk ws) (h0 : 1 ≤ ws.length) : 0 < ws.sum := by
  cases ws with
  | nil => simp at h0
  | cons w ws =>
    have h1 := (h w (by simp)).1
    simp only [List.sum_cons]
    omega
theorem runM_den {ws : List Nat} {vs : List Rat} (h : ws.length = vs.length) {ms : List Nat} (hm : ms.length = vs.length) (hv : ∀ i, i < vs.length → (vs.getD i 0).den < 2 ^ (ms.getD i 0)) : ∀ i, i ≤ ws.length → (runM ws vs i).den ≤ 2 ^ (ms.take i).sum
  | 0, _ => Nat.le_refl _
  | i + 1, hi => by
    rw [runM_succ (by omega) (by omega)]
    have h1 := runM_den h hm hv i (by omega)
    have h2 := den_add_le (runM ws vs i) (((ws.getD i 0 : Nat) : Rat) * vs.getD i 0)
    have h3 := den_mul_le ((ws.getD i 0 : Nat) : Rat) (vs.getD i 0)
    rw [Rat.den_natCast, Nat.one_mul] at h3
    have h4 := hv i (by omega)
    have e : (ms.take (i + 1)).sum = (ms.take i).sum + ms.getD i 0 := by
      rw [gd _ (show i < ms.length by omega), List.take_succ_eq_append_getElem (by omega), List.sum_append]
      simp
    rw [e, Nat.pow_add]
    refine Nat.le_trans h2 (Nat.mul_le_mul h1 ?_)
    omega
end K81
end

section
set_option Elab.async false
set_option linter.all false
/-! Plain mathematics: the number of a term lies between 0 and 1, is of bounded size, grows with the bids. -/
namespace K81
open PySem
theorem inv_nonneg (s : Nat) : (0 : Rat) ≤ 1 / (s : Rat) := by
  rcases Nat.eq_zero_or_pos s with rfl | h
  · rw [Rat.div_def]; show (0 : Rat) ≤ 1 * (0 : Rat)⁻¹; rw [Rat.inv_zero, Rat.mul_zero]; exact Rat.le_refl
  · have := (one_div h).1
    exact Rat.num_nonneg.mp (by rw [this]; decide)
theorem inv_mul_nat {s : Nat} (h : 0 < s) : (s : Rat) * (1 / (s : Rat)) = 1 := by
  have hs : (s : Rat) ≠ 0 := fun z => by
    have h2 : (0 : Rat) < (s : Rat) := Rat.natCast_pos.mpr h
    rw [z] at h2
    exact Rat.lt_irrefl h2
  rw [Rat.div_def, Rat.one_mul, Rat.mul_inv_cancel _ hs]
theorem vals_length (bs : List Rat) (ts : List Tm) : (Tm.vals bs ts).length = ts.length := by rw [Tm.vals_map, List.length_map]
theorem vals_getD (bs : List Rat) {ts : List Tm} {i : Nat} (h : i < ts.length) : (Tm.vals bs ts).getD i 0 = Tm.val bs ts[i] := by
  rw [gd _ (by rw [vals_length]; exact h)]
  simp [Tm.vals_map]
theorem sizes_sum : ∀ ts : List Tm, Tm.sizes ts = (ts.map Tm.size).sum
  | [] => rfl
  | t :: ts => by rw [Tm.sizes, sizes_sum ts]; rfl
theorem sum_map_mul (k : Nat) : ∀ l : List Nat, (l.map fun x => k * x).sum = k * l.sum
  | [] => by simp
  | a :: l => by simp only [List.map_cons, List.sum_cons, sum_map_mul k l]; rw [Nat.mul_add]
theorem meanOf_run {ws : List Nat} {vs : List Rat} (h : ws.length = vs.length) : meanOf ws vs = runM ws vs ws.length * (1 / (ws.sum : Rat)) := by
  unfold meanOf
  rw [runM_all h]
theorem meanOf_ok {ws : List Nat} {vs : List Rat} {ms : List Nat} (h : ws.length = vs.length) (hw : WsOk ws) (h1 : 1 ≤ ws.length) (h8 : ws.length ≤ 8) (hm : ms.length = vs.length) (hv : ∀ i, i < vs.length → Nq (ms.getD i 0) (vs.getD i 0)) : Nq (ms.sum + 10) (meanOf ws vs) := by
  have hs := sum_pos hw h1
  have hle : ∀ a ∈ vs, 0 ≤ a ∧ a ≤ 1 := fun a ha => by
    obtain ⟨i, hi, e⟩ := List.getElem_of_mem ha
    have := hv i hi
    rw [gd _ hi, e] at this
    exact ⟨this.lo, this.hi⟩
  have hlo := runM_lo h (fun a ha => (hle a ha).1) ws.length (Nat.le_refl _)
  have hhi := runM_hi h (fun a ha => (hle a ha).2) ws.length (Nat.le_refl _)
  rw [List.take_length] at hhi
  rw [meanOf_run h]
  refine ⟨Rat.mul_nonneg hlo (inv_nonneg _), ?_, ?_⟩
  · have h2 := Rat.mul_le_mul_of_nonneg_right hhi (inv_nonneg ws.sum)
    rwa [inv_mul_nat hs] at h2
  · have d1 := runM_den h hm (fun i hi => (hv i hi).den) ws.length (Nat.le_refl _)
    rw [List.take_of_length_le (by omega)] at d1
    have d2 := den_mul_le (runM ws vs ws.length) (1 / (ws.sum : Rat))
    rw [(one_div hs).2] at d2
    have d3 : ws.sum < 2 ^ 10 := by have := sum_le hw; omega
    rw [Nat.pow_add]
    have d4 : 0 < 2 ^ ms.sum := Nat.pow_pos (by decide)
    exact Nat.lt_of_le_of_lt d2 (Nat.lt_of_le_of_lt (Nat.mul_le_mul_right _ d1) (Nat.mul_lt_mul_of_pos_left d3 d4))
mutual
theorem val_ok {n : Nat} {bs : List Rat} (hb : BsOk n bs) : ∀ t : Tm, Tm.ok n t → Nq (40 * Tm.size t) (Tm.val bs t)
  | .bid p, h => by
    rw [Tm.val, Tm.size, gd _ (by rw [hb.1]; exact h)]
    exact (hb.2 _ (List.getElem_mem _)).mono (by decide)
  | .fix a, h => by
    rw [Tm.val, Tm.size]
    exact Nq.mono h (by decide)
  | .mean ws ts, h => by
    obtain ⟨h1, h2, h3, h4, h5⟩ := h
    have hv := vals_ok hb ts h5
    rw [Tm.val, Tm.size]
    have q := meanOf_ok (ws := ws) (vs := Tm.vals bs ts) (ms := ts.map fun t => 40 * Tm.size t) (by rw [vals_length]; exact h1) h4 (by omega) (by omega) (by rw [vals_length, List.length_map]) fun i hi => by
      rw [vals_length] at hi
      have e : (ts.map fun t => 40 * Tm.size t).getD i 0 = 40 * Tm.size ts[i] := by rw [gd _ (by simpa using hi), List.getElem_map]
      rw [e, vals_getD bs hi]
      have := hv _ (List.getElem_mem (l := ts) (n := i) hi)
      exact this
    refine q.mono ?_
    rw [sizes_sum, show (ts.map fun t => 40 * Tm.size t) = (ts.map Tm.size).map (fun x => 40 * x) by simp, sum_map_mul]
    omega
  | .least ts, h => by
    rw [Tm.val, Tm.size]
    obtain ⟨h1, h2, h3⟩ := h
    have hm := asc_mem (xs := Tm.vals bs ts) (j := 0) (by rw [vals_length]; omega)
    rw [Tm.vals_map] at hm
    obtain ⟨t, ht, e⟩ := List.mem_map.mp hm
    rw [Tm.vals_map, ← e]
    exact (vals_ok hb ts h3 t ht).mono (by have := Tm.sizes_le ht; omega)
  | .greatest ts, h => by
    rw [Tm.val, Tm.size]
    obtain ⟨h1, h2, h3⟩ := h
    have hm := asc_mem (xs := Tm.vals bs ts) (j := ts.length - 1) (by rw [vals_length]; omega)
    rw [Tm.vals_map] at hm
    obtain ⟨t, ht, e⟩ := List.mem_map.mp hm
    rw [Tm.vals_map, ← e]
    exact (vals_ok hb ts h3 t ht).mono (by have := Tm.sizes_le ht; omega)
  | .ranked k ts, h => by
    rw [Tm.val, Tm.size]
    obtain ⟨h1, h2, h3, h4⟩ := h
    have hm := asc_mem (xs := Tm.vals bs ts) (j := ts.length - k) (by rw [vals_length]; omega)
    rw [Tm.vals_map] at hm
    obtain ⟨t, ht, e⟩ := List.mem_map.mp hm
    rw [Tm.vals_map, ← e]
    exact (vals_ok hb ts h4 t ht).mono (by have := Tm.sizes_le ht; omega)
  | .between lo hi t, h => by
    rw [Tm.val, Tm.size]
    obtain ⟨h1, h2, h3, h4⟩ := h
    have hm := asc_mem (xs := [lo, hi, Tm.val bs t]) (j := 1) (by simp)
    have hp := Tm.size_pos t
    simp only [List.mem_cons, List.not_mem_nil, or_false] at hm
    rcases hm with e | e | e
    · rw [e]; exact h1.mono (by omega)
    · rw [e]; exact h2.mono (by omega)
    · rw [e]; exact (val_ok hb t h4).mono (by omega)
theorem vals_ok {n : Nat} {bs : List Rat} (hb : BsOk n bs) : ∀ ts : List Tm, Tm.oks n ts → ∀ t ∈ ts, Nq (40 * Tm.size t) (Tm.val bs t)
  | [], _ => by simp
  | t :: ts, h => fun u hu => by
    rcases List.mem_cons.mp hu with e | hu
    · rw [e]; exact val_ok hb t h.1
    · exact vals_ok hb ts h.2 u hu
end
/-! ### it grows with the bids -/
def Le (bs cs : List Rat) : Prop := bs.length = cs.length ∧ ∀ i, i < bs.length → bs.getD i 0 ≤ cs.getD i 0
theorem runM_mono {ws : List Nat} {vs us : List Rat} (h : ws.length = vs.length) (k : Le vs us) : ∀ i, i ≤ ws.length → runM ws vs i ≤ runM ws us i
  | 0, _ => Rat.le_refl
  | i + 1, hi => by
    have hl := k.1
    rw [runM_succ (by omega) (by omega), runM_succ (by omega) (by omega)]
    have h1 := runM_mono h k i (by omega)
    have h2 := Rat.mul_le_mul_of_nonneg_left (k.2 i (by omega)) (Rat.natCast_nonneg (a := ws.getD i 0))
    exact Rat.le_trans (Rat.add_le_add_right.mpr h1) (Rat.add_le_add_left.mpr h2)
theorem le_getD {bs cs : List Rat} (h : Le bs cs) (i : Nat) : bs.getD i 0 ≤ cs.getD i 0 := by
  by_cases hi : i < bs.length
  · exact h.2 i hi
  · rw [gd_none _ (by omega), gd_none _ (by rw [← h.1]; omega)]
    exact Rat.le_refl
theorem le_cons {a b : Rat} {as bs : List Rat} (h : a ≤ b) (k : Le as bs) : Le (a :: as) (b :: bs) :=
  ⟨by rw [List.length_cons, List.length_cons, k.1], fun i hi => by
    cases i with
    | zero => exact h
    | succ i =>
      rw [List.length_cons] at hi
      rw [List.getD_cons_succ, List.getD_cons_succ]
      exact k.2 i (by omega)⟩
theorem le_self (as : List Rat) : Le as as := ⟨rfl, fun _ _ => Rat.le_refl⟩
theorem asc3_mono (lo hi : Rat) {a b : Rat} (k : a ≤ b) : (asc [lo, hi, a]).getD 1 0 ≤ (asc [lo, hi, b]).getD 1 0 :=
  have h : Le [lo, hi, a] [lo, hi, b] := le_cons Rat.le_refl (le_cons Rat.le_refl (le_cons k (le_self [])))
  asc_mono h.1 h.2 _
mutual
theorem val_mono {n : Nat} {bs cs : List Rat} (hl : Le bs cs) : ∀ t : Tm, Tm.ok n t → Tm.val bs t ≤ Tm.val cs t
  | .bid p, h => by rw [Tm.val, Tm.val]; exact le_getD hl p
  | .fix a, h => by rw [Tm.val, Tm.val]; exact Rat.le_refl
  | .mean ws ts, h => by
    obtain ⟨h1, h2, h3, h4, h5⟩ := h
    rw [Tm.val, Tm.val, meanOf_run (by rw [vals_length]; exact h1), meanOf_run (by rw [vals_length]; exact h1)]
    exact Rat.mul_le_mul_of_nonneg_right (runM_mono (by rw [vals_length]; exact h1) (vals_mono hl ts h5) _ (Nat.le_refl _)) (inv_nonneg _)
  | .least ts, h => by
    rw [Tm.val, Tm.val]
    exact asc_mono (vals_mono hl ts h.2.2).1 (vals_mono hl ts h.2.2).2 _
  | .greatest ts, h => by
    rw [Tm.val, Tm.val]
    exact asc_mono (vals_mono hl ts h.2.2).1 (vals_mono hl ts h.2.2).2 _
  | .ranked k ts, h => by
    rw [Tm.val, Tm.val]
    exact asc_mono (vals_mono hl ts h.2.2.2).1 (vals_mono hl ts h.2.2.2).2 _
  | .between lo hi t, h => by
    have k := val_mono hl t h.2.2.2
    rw [Tm.val, Tm.val]
    exact asc3_mono lo hi k
theorem vals_mono {n : Nat} {bs cs : List Rat} (hl : Le bs cs) : ∀ ts : List Tm, Tm.oks n ts → Le (Tm.vals bs ts) (Tm.vals cs ts)
  | [], _ => ⟨rfl, fun i hi => by simp [Tm.vals] at hi⟩
  | t :: ts, h => by
    have k := val_mono hl t h.1
    have k2 := vals_mono hl ts h.2
    rw [Tm.vals, Tm.vals]
    exact le_cons k k2
end
end K81
end

section
set_option Elab.async false
set_option linter.all false
set_option maxRecDepth 100000
namespace K81
open PySem PySem.Spec PyProof.Rows L2
/-! ### built-ins -/
section
variable {X : Cx} {w : Wd} {ρ : Rho} {a b e : Expr} {p pos : Pos} {i : Int} {ds : List PyData} {s : Sc}
theorem xv (i : Nat) {x : Str} (hρ : ρ[i]? = some (.dat s)) (hN : X.N[i]? = some x := by rfl) (hv : Vis X.env.scope x := by first | exact .inl rfl | exact .inr (.inl rfl) | exact .inr (.inr rfl)) (hd : (x == ("__debug__" : Str)) = false := by decide) (hcd : (x == ("__classdict__" : Str)) = false := by decide) : XE X w (.Name x pos) ρ s := xe_var hN hv hρ hd hcd
theorem vl {sc : Scope} {x : Str} (h : sc.names.lookup x = some .local) : Vis sc x := .inl h
theorem vc {sc : Scope} {x : Str} (h : sc.names.lookup x = some .cell) : Vis sc x := .inr (.inl h)
theorem vf {sc : Scope} {x : Str} (h : sc.names.lookup x = some .free) : Vis sc x := .inr (.inr h)
theorem alls1 {G : Hp} {vs : List V} {s : Sc} (h : Alls G vs [s]) : ∃ v, vs = [v] ∧ s.p G v := by
  cases h with
  | cons h1 h2 => cases h2; exact ⟨_, rfl, h1⟩
theorem alls2 {G : Hp} {vs : List V} {s t : Sc} (h : Alls G vs [s, t]) : ∃ v u, vs = [v, u] ∧ s.p G v ∧ t.p G u := by
  cases h with
  | cons h1 h2 =>
    cases h2 with
    | cons h2 h3 => cases h3; exact ⟨_, _, rfl, h1, h2⟩
theorem xe_abs (hg : Gl X "abs") (hm : X.mg "abs" = none) (ha : XE X w a ρ (dS X.K (.int i))) (hs : starEach [a] X.env = (false, eval a X.env) :: starEach [] X.env := by rfl) : XE X w (.Call (.Name "abs" p) [a] [] pos) ρ (dS X.K (.int i.natAbs)) :=
  xe_callB call_abs hg hm (by decide +kernel) (xa_cons ha xa_nil hs) (fun G H vs Q hB hvs k => by
    obtain ⟨v, rfl, hv⟩ := alls1 hvs
    rw [dpInt hv]
    refine ⟨i, rfl, nx0 k hB ?_⟩
    have e : (if i < 0 then -i else i) = (i.natAbs : Int) := by split <;> omega
    rw [e]
    exact .int _) (he := hs)
theorem xe_intc (hg : Gl X "int") (hm : X.mg "int" = none) (ha : XE X w a ρ (dS X.K (.int i))) (hs : starEach [a] X.env = (false, eval a X.env) :: starEach [] X.env := by rfl) : XE X w (.Call (.Name "int" p) [a] [] pos) ρ (dS X.K (.int i)) :=
  xe_callT call_int1 hg hm (by decide +kernel) (xa_cons ha xa_nil hs) (fun G H vs Q hB hvs k => by
    obtain ⟨v, rfl, hv⟩ := alls1 hvs
    rw [dpInt hv]
    exact .inl ⟨i, rfl, nx0 k hB (.int _)⟩) (he := hs)
theorem xe_lenT (hg : Gl X "len") (hm : X.mg "len" = none) (ha : XE X w a ρ (dS X.K (.tuple ds))) (hs : starEach [a] X.env = (false, eval a X.env) :: starEach [] X.env := by rfl) : XE X w (.Call (.Name "len" p) [a] [] pos) ρ (dS X.K (.int ds.length)) :=
  xe_callB call_len_seq hg hm (by decide +kernel) (xa_cons ha xa_nil hs) (fun G H vs Q hB hvs k => by
    obtain ⟨v, rfl, hv⟩ := alls1 hvs
    obtain ⟨q, xs, rfl, h1, h2⟩ := dpTup hv
    refine ⟨q, xs, rfl, .inr (ex_t hB.sub h1), nx0 k hB ?_⟩
    rw [h2.len]
    exact .int _) (he := hs)
theorem xe_lenL (hg : Gl X "len") (hm : X.mg "len" = none) (ha : XE X w a ρ (dS X.K (.list ds))) (hs : starEach [a] X.env = (false, eval a X.env) :: starEach [] X.env := by rfl) : XE X w (.Call (.Name "len" p) [a] [] pos) ρ (dS X.K (.int ds.length)) :=
  xe_callB call_len_seq hg hm (by decide +kernel) (xa_cons ha xa_nil hs) (fun G H vs Q hB hvs k => by
    obtain ⟨v, rfl, hv⟩ := alls1 hvs
    obtain ⟨q, xs, rfl, h1, h2⟩ := dpLst hv
    refine ⟨q, xs, rfl, .inl (ex_l hB.sub h1), nx0 k hB ?_⟩
    rw [h2.len]
    exact .int _) (he := hs)
theorem xe_tupleOf (hg : Gl X "tuple") (hm : X.mg "tuple" = none) (ha : XE X w a ρ (dS X.K (.list ds))) (hs : starEach [a] X.env = (false, eval a X.env) :: starEach [] X.env := by rfl) : XE X w (.Call (.Name "tuple" p) [a] [] pos) ρ (dS X.K (.tuple ds)) :=
  xe_callT call_tuple_of hg hm (by decide +kernel) (xa_cons ha xa_nil hs) (fun G H vs Q hB hvs k => by
    obtain ⟨v, rfl, hv⟩ := alls1 hvs
    obtain ⟨q, xs, rfl, h1, h2⟩ := dpLst hv
    exact ⟨q, xs, rfl, .inl ⟨ex_l hB.sub h1, fun l hl => k _ _ _ (.new1 hB hl) (.tup (SqT.of upd_same) (dpAll_mono (.new (hB.sub.free hl)) _ _ h2))⟩⟩) (he := hs)
theorem xl_listOf (hg : Gl X "list") (hm : X.mg "list" = none) (ha : XE X w a ρ (dS X.K (.tuple ds))) (hs : starEach [a] X.env = (false, eval a X.env) :: starEach [] X.env := by rfl) : XL X w (.Call (.Name "list" p) [a] [] pos) ρ (· = ds) :=
  xl_callT call_list_of hg hm (by decide +kernel) (xa_cons ha xa_nil hs) (fun G H vs Q hB hvs k => by
    obtain ⟨v, rfl, hv⟩ := alls1 hvs
    obtain ⟨q, xs, rfl, h1, h2⟩ := dpTup hv
    exact ⟨q, xs, rfl, .inr (ex_t hB.sub h1), fun l hl => k l xs ds hl h2 rfl⟩) (he := hs)
theorem xe_all {bs : List Bool} (hc : X.calm = true) (hg : Gl X "all") (hm : X.mg "all" = none) (ha : XE X w a ρ (dS X.K (.list (bs.map .bool)))) (hs : starEach [a] X.env = (false, eval a X.env) :: starEach [] X.env := by rfl) : XE X w (.Call (.Name "all" p) [a] [] pos) ρ (dS X.K (.bool (bs.all id))) :=
  xe_callB (cr_all hc) hg hm (by decide +kernel) (xa_cons ha xa_nil hs) (fun G H vs Q hB hvs k => by
    obtain ⟨v, rfl, hv⟩ := alls1 hvs
    obtain ⟨q, xs, rfl, h1, h2⟩ := dpLst hv
    rw [dpBools h2] at h1
    exact ⟨q, bs, rfl, ex_l hB.sub h1, nx0 k hB (.bl _)⟩) (he := hs)
theorem xe_any {bs : List Bool} (hc : X.calm = true) (hg : Gl X "any") (hm : X.mg "any" = none) (ha : XE X w a ρ (dS X.K (.list (bs.map .bool)))) (hs : starEach [a] X.env = (false, eval a X.env) :: starEach [] X.env := by rfl) : XE X w (.Call (.Name "any" p) [a] [] pos) ρ (dS X.K (.bool (bs.any id))) :=
  xe_callB (cr_any hc) hg hm (by decide +kernel) (xa_cons ha xa_nil hs) (fun G H vs Q hB hvs k => by
    obtain ⟨v, rfl, hv⟩ := alls1 hvs
    obtain ⟨q, xs, rfl, h1, h2⟩ := dpLst hv
    rw [dpBools h2] at h1
    exact ⟨q, bs, rfl, ex_l hB.sub h1, nx0 k hB (.bl _)⟩) (he := hs)
theorem xe_sum {ns : List Int} (hc : X.calm = true) (hg : Gl X "sum") (hm : X.mg "sum" = none) (ha : XE X w a ρ (dS X.K (.list (ns.map .int)))) (hs : starEach [a] X.env = (false, eval a X.env) :: starEach [] X.env := by rfl) : XE X w (.Call (.Name "sum" p) [a] [] pos) ρ (dS X.K (.int ns.sum)) :=
  xe_callB (cr_sum hc) hg hm (by decide +kernel) (xa_cons ha xa_nil hs) (fun G H vs Q hB hvs k => by
    obtain ⟨v, rfl, hv⟩ := alls1 hvs
    obtain ⟨q, xs, rfl, h1, h2⟩ := dpLst hv
    rw [dpInts h2] at h1
    exact ⟨q, ns, rfl, ex_l hB.sub h1, nx0 k hB (.int _)⟩) (he := hs)
end
/-! ### fractions: what they are -/
theorem gcd_pos' {t b : Int} (hb : 0 < b) : 0 < (Int.gcd t b : Int) := by
  have : Int.gcd t b ≠ 0 := fun z => by
    have := (Int.gcd_eq_zero_iff.mp z).2
    omega
  omega
section
variable {P : Program} {w : World} {K : PySem.W.Frag} {mg : Str → Option Value} {base : Heap}
theorem ok_divisor (T : Txt K mg) : Fnc P w K mg base CX0 1 "divisor" ["one", "other"] (Pr (fun _ => w0) (fun _ => True) (fun x : Int × Int => [dS K (.int x.1), dS K (.int x.2)]) (fun x => dS K (.int (Int.gcd x.1 x.2)))) := by
  refine fnc_mk T.f_divisor sc_divisor (fun _ _ _ _ _ _ us hl => match us, hl with | [_, _], _ => rfl) (fun _ _ => rfl) fun f cdv A outer s H Ex x E _ hw hr => ?_
  -- one, other = abs(one), abs(other)
  refine xss_par 0 1 rfl sc_divisor.nd (xa_cons (xe_abs rfl T.b_abs (xv 0 rfl)) (xa_cons (xe_abs rfl T.b_abs (xv 1 rfl)) xa_nil)) ?_
  -- while other > 0
  refine xss_while (ι := Nat × Nat) (fun y => Nat.gcd y.1 y.2 = Int.gcd x.1 x.2) (fun y => y.2) (fun y => [.dat (dS K (.int y.1)), .dat (dS K (.int y.2))]) (fun _ => []) (fun y => decide ((0 : Int) < y.2)) .never ⟨(x.1.natAbs, x.2.natAbs), rfl, rfl, rfl⟩ (fun y _ => xt_c (xc_gt (xv 1 rfl) xe_int)) (fun y hy hb => ?_) (Mid := fun σ H => ∃ y : Nat × Nat, (Nat.gcd y.1 y.2 = Int.gcd x.1 x.2 ∧ y.2 = 0) ∧ Sta K E [.dat (dS K (.int y.1)), .dat (dS K (.int y.2))] [] [] σ H) (fun y hy hb σ H q => ⟨y, ⟨hy, by have := of_decide_eq_false hb; omega⟩, q⟩) (xss_ex fun y => xss_and fun hy => ?_)
  · have hpos : 0 < y.2 := by have := of_decide_eq_true hb; omega
    refine xss_par 0 1 rfl sc_divisor.nd (xa_cons (xv 1 rfl) (xa_cons (xe_mod (xv 0 rfl) (xv 1 rfl) (by omega)) xa_nil)) ?_
    refine xss_nil fun σ H q => ⟨(y.2, y.1 % y.2), ?_, Nat.mod_lt _ hpos, q⟩
    rw [← hy]
    show Nat.gcd y.2 (y.1 % y.2) = Nat.gcd y.1 y.2
    rw [Nat.gcd_comm y.1 y.2, Nat.gcd_rec y.2 y.1, Nat.gcd_comm]
  · obtain ⟨h1, h2⟩ := hy
    refine xss_ret (xe_is (xv 0 rfl) ?_)
    rw [h2, Nat.gcd_zero_right] at h1
    rw [← h1]
end
end K81
end

section
set_option Elab.async false
set_option linter.all false
set_option maxRecDepth 100000
namespace K81
open PySem PySem.Spec PyProof.Rows L2
/-! ### fractions -/
structure Sz (n : Nat) (a : Rat) : Prop where
  num : a.num.natAbs < 2 ^ n
  den : a.den < 2 ^ n
theorem sz_num {n : Nat} {a : Rat} (h : Sz n a) : a.num.natAbs < 2 ^ n := h.num
theorem sz_den {n : Nat} {a : Rat} (h : Sz n a) : ((a.den : Int)).natAbs < 2 ^ n := h.den
theorem mul_ok {i j : Int} (h1 : i.natAbs < 2 ^ 4000) (h2 : j.natAbs < 2 ^ 4000) : CMulW i j := wide_mul h1 h2 (by decide) (by decide) (by decide)
theorem mul_lt {i j : Int} (h1 : i.natAbs < 2 ^ 4000) (h2 : j.natAbs < 2 ^ 4000) : (i * j).natAbs < 2 ^ 8000 := wide_lt h1 h2
theorem gcd_lt {t b : Int} {n : Nat} (hb : 0 < b) (h : b.natAbs < 2 ^ n) : (Int.gcd t b : Int).natAbs < 2 ^ n := by
  have h1 : Int.gcd t b ≤ b.natAbs := Nat.le_of_dvd (by omega) (Int.gcd_dvd_natAbs_right t b)
  have : (Int.gcd t b : Int).natAbs = Int.gcd t b := rfl
  omega
section
variable {P : Program} {w : World} {K : PySem.W.Frag} {mg : Str → Option Value} {base : Heap}
abbrev spLow (K : PySem.W.Frag) : Sp := Pr (fun _ => w0) (fun x : Int × Int => 0 < x.2 ∧ x.2.natAbs < 2 ^ 8000) (fun x => [dS K (.int x.1), dS K (.int x.2)]) (fun x => dS K (rD (x.1 / x.2)))
abbrev spFF (K : PySem.W.Frag) (g : Rat → Rat → PyData) : Sp := Pr (fun _ => w0) (fun x : Rat × Rat => Sz 4000 x.1 ∧ Sz 4000 x.2) (fun x => [dS K (rD x.1), dS K (rD x.2)]) (fun x => dS K (g x.1 x.2))
theorem ok_made (T : Txt K mg) : Fnc P w K mg base CX0 2 "made" ["top", "bottom"] (spLow K) := by
  have F := ok_divisor (P := P) (w := w) (base := base) T
  refine fnc_mk T.f_made sc_made (fun _ _ _ _ _ _ us hl => match us, hl with | [_, _], _ => rfl) (fun _ _ => rfl) fun f cdv A outer s H Ex x E hok hw hr => ?_
  -- common = divisor(top, bottom)
  refine xss_asg 2 sc_made.nd (xe_call (x.1, x.2) F hr rfl pass0 True.intro (xa_cons (xv 0 rfl) (xa_cons (xv 1 rfl) xa_nil))) ?_
  -- if bottom < 0
  refine xss_ifR (xt_c (xc_lt (xv 1 rfl) xe_int)) (fun h => by have := of_decide_eq_true h.symm; omega) fun _ => ?_
  have hg := gcd_pos' (t := x.1) hok.1
  have hz := gcd_lt (t := x.1) hok.1 hok.2
  refine xss_ret (xe_d (xe_tup [.int _, .int _] (xa_cons (xe_divW (xv 0 rfl) (xv 2 rfl) (wide_div hg hz (by decide) (by decide))) (xa_cons (xe_divW (xv 1 rfl) (xv 2 rfl) (wide_div hg hz (by decide) (by decide))) xa_nil))) ?_)
  obtain ⟨e1, e2⟩ := rat_made (t := x.1) hok.1
  unfold rD
  rw [e1, e2]
theorem ok_plus (T : Txt K mg) : Fnc P w K mg base CX0 3 "plus" ["one", "other"] (spFF K fun a b => rD (a + b)) := by
  have F := ok_made (P := P) (w := w) (base := base) T
  refine fnc_mk T.f_plus sc_plus (fun _ _ _ _ _ _ us hl => match us, hl with | [_, _], _ => rfl) (fun _ _ => rfl) fun f cdv A outer s H Ex x E hok hw hr => ?_
  obtain ⟨h1, h2⟩ := hok
  refine xss_ret (xe_is (xe_call (x.1.num * x.2.den + x.2.num * x.1.den, (x.1.den : Int) * x.2.den) F hr rfl pass0 ⟨Int.mul_pos (den_pos _) (den_pos _), mul_lt (sz_den h1) (sz_den h2)⟩
    (xa_cons (xe_add (xe_mulW (xe_ixT (xv 0 rfl) xe_int (fun _ _ => rfl) rfl) (xe_ixT (xv 1 rfl) xe_int (fun _ _ => rfl) rfl) (mul_ok (sz_num h1) (sz_den h2))) (xe_mulW (xe_ixT (xv 1 rfl) xe_int (fun _ _ => rfl) rfl) (xe_ixT (xv 0 rfl) xe_int (fun _ _ => rfl) rfl) (mul_ok (sz_num h2) (sz_den h1))))
      (xa_cons (xe_mulW (xe_ixT (xv 0 rfl) xe_int (fun _ _ => rfl) rfl) (xe_ixT (xv 1 rfl) xe_int (fun _ _ => rfl) rfl) (mul_ok (sz_den h1) (sz_den h2))) xa_nil))) (congrArg (fun z => dS K (rD z)) (rat_add x.1 x.2)))
theorem ok_times (T : Txt K mg) : Fnc P w K mg base CX0 3 "times" ["one", "other"] (spFF K fun a b => rD (a * b)) := by
  have F := ok_made (P := P) (w := w) (base := base) T
  refine fnc_mk T.f_times sc_times (fun _ _ _ _ _ _ us hl => match us, hl with | [_, _], _ => rfl) (fun _ _ => rfl) fun f cdv A outer s H Ex x E hok hw hr => ?_
  obtain ⟨h1, h2⟩ := hok
  refine xss_ret (xe_is (xe_call (x.1.num * x.2.num, (x.1.den : Int) * x.2.den) F hr rfl pass0 ⟨Int.mul_pos (den_pos _) (den_pos _), mul_lt (sz_den h1) (sz_den h2)⟩
    (xa_cons (xe_mulW (xe_ixT (xv 0 rfl) xe_int (fun _ _ => rfl) rfl) (xe_ixT (xv 1 rfl) xe_int (fun _ _ => rfl) rfl) (mul_ok (sz_num h1) (sz_num h2)))
      (xa_cons (xe_mulW (xe_ixT (xv 0 rfl) xe_int (fun _ _ => rfl) rfl) (xe_ixT (xv 1 rfl) xe_int (fun _ _ => rfl) rfl) (mul_ok (sz_den h1) (sz_den h2))) xa_nil))) (congrArg (fun z => dS K (rD z)) (rat_mul x.1 x.2)))
theorem ok_is_less (T : Txt K mg) : Fnc P w K mg base CX0 1 "is_less" ["one", "other"] (spFF K fun a b => .bool (decide (a < b))) := by
  refine fnc_mk T.f_is_less sc_is_less (fun _ _ _ _ _ _ us hl => match us, hl with | [_, _], _ => rfl) (fun _ _ => rfl) fun f cdv A outer s H Ex x E hok hw hr => ?_
  obtain ⟨h1, h2⟩ := hok
  refine xss_ret (xe_d (xe_c (xc_lt (xe_mulW (xe_ixT (xv 0 rfl) xe_int (fun _ _ => rfl) rfl) (xe_ixT (xv 1 rfl) xe_int (fun _ _ => rfl) rfl) (mul_ok (sz_num h1) (sz_den h2)))
    (xe_mulW (xe_ixT (xv 1 rfl) xe_int (fun _ _ => rfl) rfl) (xe_ixT (xv 0 rfl) xe_int (fun _ _ => rfl) rfl) (mul_ok (sz_num h2) (sz_den h1))))) (congrArg PyData.bool (decide_eq_decide.mpr (Rat.lt_iff _ _).symm)))
/-! the law's own -/
theorem ok_Llowest (T : Txt K mg) : Fnc P w K mg base CX0 1 "_law_lowest" ["_law_top", "_law_bottom"] (spLow K) := by
  refine fnc_mk T.f_Llowest sc_Llowest (fun _ _ _ _ _ _ us hl => match us, hl with | [_, _], _ => rfl) (fun _ _ => rfl) fun f cdv A outer s H Ex x E hok hw hr => ?_
  refine xss_par 2 3 rfl sc_Llowest.nd (xa_cons (xe_abs rfl T.b_abs (xv 0 rfl)) (xa_cons (xv 1 rfl) xa_nil)) ?_
  refine xss_while (ι := Nat × Nat) (fun y => Nat.gcd y.1 y.2 = Int.gcd x.1 x.2) (fun y => y.2) (fun y => [.dat (dS K (.int x.1)), .dat (dS K (.int x.2)), .dat (dS K (.int y.1)), .dat (dS K (.int y.2))]) (fun _ => []) (fun y => decide ((0 : Int) < y.2)) .never ⟨(x.1.natAbs, x.2.natAbs), rfl, ?_, rfl⟩ (fun y _ => xt_c (xc_gt (xv 3 rfl) xe_int)) (fun y hy hb => ?_)
    (Mid := fun σ H => ∃ y : Nat × Nat, (Nat.gcd y.1 y.2 = Int.gcd x.1 x.2 ∧ y.2 = 0) ∧ Sta K E [.dat (dS K (.int x.1)), .dat (dS K (.int x.2)), .dat (dS K (.int y.1)), .dat (dS K (.int y.2))] [] [] σ H) (fun y hy hb σ H q => ⟨y, ⟨hy, by have := of_decide_eq_false hb; omega⟩, q⟩) (xss_ex fun y => xss_and fun hy => ?_)
  · have e : ((x.2.natAbs : Nat) : Int) = x.2 := Int.natAbs_of_nonneg (Int.le_of_lt hok.1)
    show [Sl.dat (dS K (.int x.1)), .dat (dS K (.int x.2)), .dat (dS K (.int x.1.natAbs)), .dat (dS K (.int (x.2.natAbs : Nat)))] = _
    rw [e]
    rfl
  · have hpos : 0 < y.2 := by have := of_decide_eq_true hb; omega
    refine xss_par 2 3 rfl sc_Llowest.nd (xa_cons (xv 3 rfl) (xa_cons (xe_mod (xe_intc rfl T.b_int (xv 2 rfl)) (xv 3 rfl) (by omega)) xa_nil)) ?_
    refine xss_nil fun σ H q => ⟨(y.2, y.1 % y.2), ?_, Nat.mod_lt _ hpos, q⟩
    rw [← hy]
    show Nat.gcd y.2 (y.1 % y.2) = Nat.gcd y.1 y.2
    rw [Nat.gcd_comm y.1 y.2, Nat.gcd_rec y.2 y.1, Nat.gcd_comm]
  · obtain ⟨g1, g2⟩ := hy
    rw [g2, Nat.gcd_zero_right] at g1
    have hg := gcd_pos' (t := x.1) hok.1
    have hz := gcd_lt (t := x.1) hok.1 hok.2
    rw [← g1] at hg hz
    refine xss_ret (xe_d (xe_tup [.int _, .int _] (xa_cons (xe_divW (xv 0 rfl) (xv 2 rfl) (wide_div hg hz (by decide) (by decide))) (xa_cons (xe_divW (xv 1 rfl) (xv 2 rfl) (wide_div hg hz (by decide) (by decide))) xa_nil))) ?_)
    obtain ⟨e1, e2⟩ := rat_made (t := x.1) hok.1
    unfold rD
    rw [e1, e2, ← g1]
theorem ok_Lsum (T : Txt K mg) : Fnc P w K mg base CX0 2 "_law_sum" ["_law_one", "_law_other", "_law_sign"] (Pr (fun _ => w0) (fun x : Rat × Rat => Sz 4000 x.1 ∧ Sz 4000 x.2) (fun x => [dS K (rD x.1), dS K (rD x.2), dS K (.int 1)]) (fun x => dS K (rD (x.1 + x.2)))) := by
  have F := ok_Llowest (P := P) (w := w) (base := base) T
  refine fnc_mk T.f_Lsum sc_Lsum (fun _ _ _ _ _ _ us hl => match us, hl with | [_, _, _], _ => rfl) (fun _ _ => rfl) fun f cdv A outer s H Ex x E hok hw hr => ?_
  obtain ⟨h1, h2⟩ := hok
  have e1 : (1 : Int) * x.2.num = x.2.num := Int.one_mul _
  have e2 : ((x.1.num * x.2.den + 1 * x.2.num * x.1.den : Int) : Rat) / ((x.1.den * x.2.den : Int) : Rat) = x.1 + x.2 := by rw [e1]; exact rat_add _ _
  refine xss_ret (xe_is (xe_call (x.1.num * x.2.den + 1 * x.2.num * x.1.den, (x.1.den : Int) * x.2.den) F hr rfl pass0 ⟨Int.mul_pos (den_pos _) (den_pos _), mul_lt (sz_den h1) (sz_den h2)⟩
    (xa_cons (xe_add (xe_mulW (xe_ixT (xv 0 rfl) xe_int (fun _ _ => rfl) rfl) (xe_ixT (xv 1 rfl) xe_int (fun _ _ => rfl) rfl) (mul_ok (sz_num h1) (sz_den h2)))
        (xe_mulW (xe_mul (xv 2 rfl) (xe_ixT (xv 1 rfl) xe_int (fun _ _ => rfl) rfl) (.inl (by decide))) (xe_ixT (xv 0 rfl) xe_int (fun _ _ => rfl) rfl) (by rw [e1]; exact mul_ok (sz_num h2) (sz_den h1))))
      (xa_cons (xe_mulW (xe_ixT (xv 0 rfl) xe_int (fun _ _ => rfl) rfl) (xe_ixT (xv 1 rfl) xe_int (fun _ _ => rfl) rfl) (mul_ok (sz_den h1) (sz_den h2))) xa_nil))) (congrArg (fun z => dS K (rD z)) e2))
theorem ok_Lproduct (T : Txt K mg) : Fnc P w K mg base CX0 2 "_law_product" ["_law_one", "_law_other"] (spFF K fun a b => rD (a * b)) := by
  have F := ok_Llowest (P := P) (w := w) (base := base) T
  refine fnc_mk T.f_Lproduct sc_Lproduct (fun _ _ _ _ _ _ us hl => match us, hl with | [_, _], _ => rfl) (fun _ _ => rfl) fun f cdv A outer s H Ex x E hok hw hr => ?_
  obtain ⟨h1, h2⟩ := hok
  refine xss_ret (xe_is (xe_call (x.1.num * x.2.num, (x.1.den : Int) * x.2.den) F hr rfl pass0 ⟨Int.mul_pos (den_pos _) (den_pos _), mul_lt (sz_den h1) (sz_den h2)⟩
    (xa_cons (xe_mulW (xe_ixT (xv 0 rfl) xe_int (fun _ _ => rfl) rfl) (xe_ixT (xv 1 rfl) xe_int (fun _ _ => rfl) rfl) (mul_ok (sz_num h1) (sz_num h2)))
      (xa_cons (xe_mulW (xe_ixT (xv 0 rfl) xe_int (fun _ _ => rfl) rfl) (xe_ixT (xv 1 rfl) xe_int (fun _ _ => rfl) rfl) (mul_ok (sz_den h1) (sz_den h2))) xa_nil))) (congrArg (fun z => dS K (rD z)) (rat_mul x.1 x.2)))
theorem ok_Lless (T : Txt K mg) : Fnc P w K mg base CX0 1 "_law_less" ["_law_one", "_law_other"] (spFF K fun a b => .bool (decide (a < b))) := by
  refine fnc_mk T.f_Lless sc_Lless (fun _ _ _ _ _ _ us hl => match us, hl with | [_, _], _ => rfl) (fun _ _ => rfl) fun f cdv A outer s H Ex x E hok hw hr => ?_
  obtain ⟨h1, h2⟩ := hok
  refine xss_ret (xe_d (xe_c (xc_lt (xe_mulW (xe_ixT (xv 0 rfl) xe_int (fun _ _ => rfl) rfl) (xe_ixT (xv 1 rfl) xe_int (fun _ _ => rfl) rfl) (mul_ok (sz_num h1) (sz_den h2)))
    (xe_mulW (xe_ixT (xv 1 rfl) xe_int (fun _ _ => rfl) rfl) (xe_ixT (xv 0 rfl) xe_int (fun _ _ => rfl) rfl) (mul_ok (sz_num h2) (sz_den h1))))) (congrArg PyData.bool (decide_eq_decide.mpr (Rat.lt_iff _ _).symm)))
end
end K81
end

section
set_option Elab.async false
set_option linter.all false
set_option maxRecDepth 100000
namespace K81
open PySem PySem.Spec PyProof.Rows L2
/-! ### comprehensions over data -/
theorem range_getD {α : Type} (ds : List α) (d : α) : (List.range ds.length).map (fun i => ds.getD i d) = ds := by
  refine List.ext_getElem (by simp) fun i h1 h2 => ?_
  simp only [List.getElem_map, List.getElem_range]
  exact gd d h2
theorem lcD {ds es : List PyData} {f : PyData → Bool} {g : PyData → PyData} (h : Lc ds.length (fun i => f (ds.getD i .none)) (fun i d => d = g (ds.getD i .none)) es) : es = (ds.filter f).map g := by
  obtain ⟨k, h1, rfl⟩ := h
  have e : ((List.range ds.length).filter fun i => f (ds.getD i .none)).map k = ((List.range ds.length).filter fun i => f (ds.getD i .none)).map fun i => g (ds.getD i .none) := by
    refine List.map_congr_left fun i hi => ?_
    obtain ⟨h2, h3⟩ := List.mem_filter.mp hi
    exact h1 i (List.mem_range.mp h2) h3
  rw [e]
  have e2 : ∀ l : List Nat, (l.filter fun i => f (ds.getD i .none)).map (fun i => g (ds.getD i .none)) = ((l.map fun i => ds.getD i .none).filter f).map g := fun l => by
    induction l with
    | nil => rfl
    | cons a l ih =>
      by_cases hf : f (ds.getD a .none) = true
      · simp only [List.filter_cons, List.map_cons, hf, if_true, ih]
      · simp only [List.filter_cons, List.map_cons, hf, if_false, ih, Bool.false_eq_true]
  rw [e2, range_getD]
section
variable {X : Cx} {w : Wd} {ρ : Rho} {elt iter a c : Expr} {ifs : List Expr} {scope : Scope} {x : Str} {p pos : Pos} {ds : List PyData} {f : PyData → Bool} {g : PyData → PyData} {sa : Sc}
theorem mem_getD {ds : List PyData} {i : Nat} (h : i < ds.length) : ds.getD i .none ∈ ds := by rw [gd _ h]; exact List.getElem_mem h
/-- [elt for x in iter if ..], iter a list or a tuple of data: x in slot j -/
theorem xlcI (j : Nat) (hN : X.N.Nodup) (hi : XI X w (.Name x p) iter ρ (· = ds.length) (fun i => dS X.K (ds.getD i .none))) (hz : ds.length ≤ 100000)
    (ht : ∀ d ∈ ds, ∀ (s : Shared) (H : Hp) (C : Addr) (cl : List (Str × Addr)) (fp : List Addr), XTs (X.blk s H scope (compEnvC scope cl C X.env) fp) w ifs ((wipeR ρ [j]).set j (.dat (dS X.K d))) (· = f d))
    (he : ∀ d ∈ ds, f d = true → ∀ (s : Shared) (H : Hp) (C : Addr) (cl : List (Str × Addr)) (fp : List Addr), XE (X.blk s H scope (compEnvC scope cl C X.env) fp) w elt ((wipeR ρ [j]).set j (.dat (dS X.K d))) (dS X.K (g d)))
    (ok : BlkOk X.N X.env.scope scope [(x, j)]) (hpg : ∀ (s : Shared) (H : Hp) (C : Addr) (cl : List (Str × Addr)) (fp : List Addr), PG (X.blk s H scope (compEnvC scope cl C X.env) fp) (.Name x p) (gName j)) (hl : j < ρ.length := by exact Nat.le_of_ble_eq_true rfl)
    (hs : ∀ x, foldedSetIterable iter X.env x = pure x := by intro _; rfl) : XLc X w elt (.Name x p) iter ifs scope [(x, j)] ρ (· = (ds.filter f).map g) :=
  xlc_weak (xlc (f := fun i => f (ds.getD i .none)) (P := fun i d => d = g (ds.getD i .none)) (gv := [j]) (ρ' := fun i => (wipeR ρ [j]).set j (.dat (dS X.K (ds.getD i .none)))) hN hi (fun n hn => by rw [hn]; exact hz) ok (fun k hk => hk) (fun k hk => by simp at hk; rw [hk]; exact hl) hpg
    (fun n i _ _ => gs_name) (fun n i hn hi' s H C cl fp => ht _ (mem_getD (hn ▸ hi')) s H C cl fp) (fun n i hn hi' hf s H C cl fp => xe_weak (he _ (mem_getD (hn ▸ hi')) hf s H C cl fp) fun G v hv => ⟨_, rfl, hv⟩) hs) fun es ⟨n, hn, h⟩ => by
      subst hn
      exact lcD h
/-! ### isinstance -/
theorem bt_int : bootBuiltins "int" = some (.type "int") := by decide +kernel
theorem bt_bool : bootBuiltins "bool" = some (.type "bool") := by decide +kernel
theorem bt_str : bootBuiltins "str" = some (.type "str") := by decide +kernel
theorem bt_tuple : bootBuiltins "tuple" = some (.type "tuple") := by decide +kernel
theorem bt_list : bootBuiltins "list" = some (.type "list") := by decide +kernel

def tyVS (T : String) : Sc := ⟨fun _ v => v = .ty T, fun _ h => h⟩
theorem xe_ty (T : String) {n : Str} (hg : Gl X n) (hm : X.mg n = none) (hv : bootBuiltins n = some (.type T)) (hn : n ≠ "__name__" := by decide) (hd : (n == ("__debug__" : Str)) = false := by decide) : XE X w (.Name n pos) ρ (tyVS T) :=
  xe_of (pe_bltn (v := .ty T) hg hm hv rfl hn hd) fun σ G H hE hB => ⟨G, .refl hB, rfl⟩
theorem tyx_mono {K : PySem.W.Frag} {G G' : Hp} {v : V} {t : Value} (e : Ex G G') (h : TyX K G v t) : TyX K G' v t := by
  cases h with
  | base b =>
    cases b with
    | non => exact .base .non
    | bl y => exact .base (.bl y)
    | int y => exact .base (.int y)
    | str y => exact .base (.str y)
    | flt y => exact .base (.flt y)
    | lst ea => exact .base (.lst (e _ _ ea))
    | frz ea => exact .base (.frz (e _ _ ea))
    | tup ea => exact .base (.tup (e _ _ ea))
    | dK ea => exact .base (.dK (e _ _ ea))
    | dT ea => exact .base (.dT (e _ _ ea))
    | ins ea cl ha hn htk hm => exact .base (.ins (e _ _ ea) cl ha hn htk hm)
  | byt b => exact .byt b
  | set ea => exact .set (e _ _ ea)
  | kList h1 h2 => exact .kList h1 h2
  | kTuple h1 h2 => exact .kTuple h1 h2
  | kDict h1 h2 => exact .kDict h1 h2
  | fTuple ea => exact .fTuple (e _ _ ea)
  | fDict ea => exact .fDict (e _ _ ea)
def tyN : PyData → String
  | .none => "NoneType"
  | .bool _ => "bool"
  | .int _ => "int"
  | .str _ => "str"
  | .list _ => "list"
  | .tuple _ => "tuple"
  | .dict _ => "dict"
theorem tyx_d {K : PySem.W.Frag} {G : Hp} {v : V} {d : PyData} (h : Dp K G v d) : TyX K G v (.type (tyN d)) := by
  cases h with
  | non => exact .base .non
  | bl y => exact .base (.bl y)
  | int y => exact .base (.int y)
  | str y => exact .base (.str y)
  | lst hs ha =>
    rcases hs with (h | ⟨o, h⟩) | ⟨o, its, n, h, hc, _⟩
    · exact .base (.lst h)
    · exact .base (.frz h)
    · exact .kList h hc
  | tup hs ha =>
    rcases hs with (h | ⟨o, h⟩) | ⟨o, its, n, h, hc, _⟩
    · exact .base (.tup h)
    · exact .fTuple h
    · exact .kTuple h hc
theorem kb_int_int : kitB "int" "int" = some true := by decide +kernel
theorem kb_int_bool : kitB "int" "bool" = some false := by decide +kernel
theorem kb_bool_int : kitB "bool" "int" = some true := by decide +kernel
theorem kb_bool_bool : kitB "bool" "bool" = some true := by decide +kernel
theorem kb_tuple_tuple : kitB "tuple" "tuple" = some true := by decide +kernel
theorem kb_list_list : kitB "list" "list" = some true := by decide +kernel
theorem kb_str_str : kitB "str" "str" = some true := by decide +kernel
/-- a thing of that type -/
def tyS (K : PySem.W.Frag) (T : String) : Sc := ⟨fun G v => TyX K G v (.type T), fun e h => tyx_mono e h⟩
theorem xe_isi {U T : String} {r : Bool} (hg : Gl X "isinstance") (hm : X.mg "isinstance" = none) (ha : XE X w a ρ (tyS X.K U)) (hc : XE X w c ρ (tyVS T)) (hk : kitB U T = some r) (hs : starEach [a, c] X.env = (false, eval a X.env) :: starEach [c] X.env := by rfl) (hs2 : starEach [c] X.env = (false, eval c X.env) :: starEach [] X.env := by rfl)
    (hpl : (backTo pos (starEach [c] X.env)).any (·.1) = false := by rfl) : XE X w (.Call (.Name "isinstance" p) [a, c] [] pos) ρ (dS X.K (.bool r)) :=
  xe_callB call_isi hg hm (by decide +kernel) (xa_cons ha (xa_cons hc xa_nil hs2) hs) (fun G H vs Q hB hvs k => by
    obtain ⟨v, u, rfl, hv, hu⟩ := alls2 hvs
    have e : u = .ty T := hu
    subst e
    exact ⟨v, .ty T, .type U, .type T, r, rfl, .ty T, tyx_mono hB.sub hv, kit_ty hk, nx0 k hB (.bl r)⟩) (he := hs) (hpl := hpl)
theorem xe_tyd {d : PyData} (h : XE X w a ρ (dS X.K d)) : XE X w a ρ (tyS X.K (tyN d)) := xe_weak h fun _ _ hv => tyx_d hv
end
def isI : PyData → Bool
  | .int _ => true
  | _ => false
/-- ints and bools -/
def IB (d : PyData) : Prop := (∃ i, d = .int i) ∨ ∃ b, d = .bool b
/-- what is_number is asked of: a tuple of ints and bools, or no tuple -/
inductive Th where
  | tup (ds : List PyData)
  | oth (T : String)
def Th.ok : Th → Prop
  | .tup ds => (∀ d ∈ ds, IB d) ∧ ds.length ≤ 1000
  | .oth T => kitB T "tuple" = some false
def Th.sc (K : PySem.W.Frag) : Th → Sc
  | .tup ds => dS K (.tuple ds)
  | .oth T => tyS K T
def frB : List PyData → Bool
  | [.int n, .int d] => decide (1 ≤ d) && decide (Int.gcd n d = 1)
  | _ => false
def Th.fr : Th → Bool
  | .tup ds => frB ds
  | .oth _ => false
def nuB : List PyData → Bool
  | [.int n, .int d] => frB [.int n, .int d] && (decide (0 ≤ n) && decide (n ≤ d))
  | _ => false
def Th.nu : Th → Bool
  | .tup ds => nuB ds
  | .oth _ => false
section
variable {P : Program} {w : World} {K : PySem.W.Frag} {mg : Str → Option Value} {base : Heap}
theorem ok_is_integer (T : Txt K mg) : Fnc P w K mg base CX0 1 "is_integer" ["thing"] (Pr (fun _ => w0) IB (fun d => [dS K d]) (fun d => dS K (.bool (isI d)))) := by
  refine fnc_mk T.f_is_integer sc_is_integer (fun _ _ _ _ _ _ us hl => match us, hl with | [_], _ => rfl) (fun _ _ => rfl) fun f cdv A outer s H Ex x E hok hw hr => ?_
  rcases hok with ⟨i, rfl⟩ | ⟨b, rfl⟩
  · refine xss_ret (xe_d (xe_and (xe_isi (r := true) rfl T.b_isinstance (xe_tyd (xv 0 rfl)) (xe_ty "int" rfl T.b_int bt_int) kb_int_int) fun _ => xe_one (xe_not (xe_isi (r := false) rfl T.b_isinstance (xe_tyd (xv 0 rfl)) (xe_ty "bool" rfl T.b_bool bt_bool) kb_int_bool))) rfl)
  · refine xss_ret (xe_d (xe_and (xe_isi (r := true) rfl T.b_isinstance (xe_tyd (xv 0 rfl)) (xe_ty "int" rfl T.b_int bt_int) kb_bool_int) fun _ => xe_one (xe_not (xe_isi (r := true) rfl T.b_isinstance (xe_tyd (xv 0 rfl)) (xe_ty "bool" rfl T.b_bool bt_bool) kb_bool_bool))) rfl)
theorem ok_is_within (T : Txt K mg) : Fnc P w K mg base CX0 2 "is_within" ["thing", "least", "most"] (Pr (fun _ => w0) (fun _ => True) (fun x : Int × Int × Int => [dS K (.int x.1), dS K (.int x.2.1), dS K (.int x.2.2)]) (fun x => dS K (.bool (decide (x.2.1 ≤ x.1) && decide (x.1 ≤ x.2.2))))) := by
  have F := ok_is_integer (P := P) (w := w) (base := base) T
  refine fnc_mk T.f_is_within sc_is_within (fun _ _ _ _ _ _ us hl => match us, hl with | [_, _, _], _ => rfl) (fun _ _ => rfl) fun f cdv A outer s H Ex x E hok hw hr => ?_
  refine xss_ret (xe_d (xe_and (xe_call (s := dS K (.bool true)) (.int x.1) F hr rfl pass0 (.inl ⟨_, rfl⟩) (xa_cons (xv 0 rfl) xa_nil)) fun _ => xe_one (xe_le2 (xv 1 rfl) (xv 0 rfl) (xv 2 rfl))) rfl)
theorem isI_all : ∀ {ds : List PyData}, (∀ d ∈ ds, IB d) → (ds.map fun d => isI d).all id = true → ∃ ns : List Int, ds = ns.map .int
  | [], _, _ => ⟨[], rfl⟩
  | d :: ds, h, q => by
    simp only [List.map_cons, List.all_cons, id, Bool.and_eq_true] at q
    obtain ⟨ns, e⟩ := isI_all (fun x hx => h x (List.mem_cons_of_mem _ hx)) q.2
    rcases h d (by simp) with ⟨i, rfl⟩ | ⟨b, rfl⟩
    · exact ⟨i :: ns, by rw [e]; rfl⟩
    · simp [isI] at q
theorem frB_not2 {ds : List PyData} (h : ds.length ≠ 2) : frB ds = false := by
  match ds, h with
  | [], _ => rfl
  | [_], _ => cases ‹PyData› <;> rfl
  | [_, _], h => exact absurd rfl h
  | a :: b :: c :: r, _ => cases a <;> cases b <;> rfl
theorem ok_is_fraction (T : Txt K mg) : Fnc P w K mg base CX0 2 "is_fraction" ["thing"] (Pr (fun _ => w0) Th.ok (fun x => [x.sc K]) (fun x => dS K (.bool x.fr))) := by
  have F := ok_is_integer (P := P) (w := w) (base := base) T
  have FD := ok_divisor (P := P) (w := w) (base := base) T
  refine fnc_mk T.f_is_fraction sc_is_fraction (fun _ _ _ _ _ _ us hl => match us, hl with | [_], _ => rfl) (fun _ _ => rfl) fun f cdv A outer s H Ex x E hok hw hr => ?_
  have hr0 : Room 0 (A.deeper (envOfC "is_fraction" (defScope s_is_fraction) s.heap.objs.size f cdv)) := hr.mono (by decide)
  cases x with
  | oth U =>
    -- not isinstance(thing, tuple)
    refine xss_ifR (xt_w (xw_or (xt_not (xt_val (xe_isi (U := U) (r := false) rfl T.b_isinstance (xv 0 rfl) (xe_ty "tuple" rfl T.b_tuple bt_tuple) hok))) (y := true) fun h => nomatch h)) (fun _ => ?_) fun h => ?_
    · exact xss_ret xe_bl
    · cases h
  | tup ds =>
    obtain ⟨hib, hz⟩ := hok
    refine xss_ifR (xt_w (xw_or (xt_not (xt_val (xe_isi (r := true) rfl T.b_isinstance (xe_tyd (xv 0 rfl)) (xe_ty "tuple" rfl T.b_tuple bt_tuple) kb_tuple_tuple))) fun _ =>
      xw_or (xt_c (xc_neI (xe_lenT rfl T.b_len (xv 0 rfl)) xe_int)) fun _ => xw_or1 (xt_not (xt_val (x := (ds.map isI).all id) (xe_all (bs := ds.map isI) rfl rfl T.b_all ?hl))))) (fun h => ?_) fun h => ?_
    case hl =>
      refine xe_is (xe_tl (xe_xl1 (xl_lcx rfl (xlcI (f := fun _ => true) (g := fun d => .bool (isI d)) 1 sc_is_fraction.nd (xi_tupD (xv 0 rfl)) (by omega) (fun d hd _ _ _ _ _ => xts_nil)
        (fun d hd _ _ _ _ _ _ => xe_call d F hr rfl pass0 (hib d hd) (xa_cons (xv 1 rfl) xa_nil)) (blkOk_by (N := N_is_fraction) (sc := defScope s_is_fraction) (by decide +kernel)) (fun _ _ _ _ _ => pg_name sc_is_fraction.nd rfl (.inl rfl)))))) (congrArg (fun l => dS K (.list l)) (by simp [List.filter_eq_self.mpr, Function.comp_def]))
    · refine xss_ret (xe_d xe_bl ?_)
      show PyData.bool false = .bool (frB ds)
      rw [Bool.not_true, Bool.false_or] at h
      cases hf : frB ds with
      | false => rfl
      | true =>
        by_cases hl : ds.length = 2
        · match ds, hl with
          | [a, b], _ =>
            cases a <;> cases b <;> first | (cases hf; done) | (simp [isI] at h; done)
        · rw [frB_not2 hl] at hf; cases hf
    · have h2 : ds.length = 2 := by
        refine Classical.byContradiction fun hl => ?_
        have : decide ((ds.length : Int) = 2) = false := decide_eq_false (by omega)
        simp [this] at h
      have h3 : (ds.map isI).all id = true := by
        cases q : (ds.map isI).all id with
        | true => rfl
        | false => simp [q] at h
      obtain ⟨ns, e⟩ := isI_all hib h3
      match ns, e, h2 with
      | [n, d], e, _ =>
        subst e
        refine xss_ret (xe_d (xe_and (xe_c (xc_ge (xe_ixT (xv 0 rfl) xe_int (fun _ _ => rfl) rfl) xe_int)) fun _ => xe_one (xe_c (xc_eqI (xe_call (n, d) FD hr rfl pass0 True.intro (xa_cons (xe_ixT (xv 0 rfl) xe_int (fun _ _ => rfl) rfl) (xa_cons (xe_ixT (xv 0 rfl) xe_int (fun _ _ => rfl) rfl) xa_nil))) xe_int))) ?_)
        show PyData.bool _ = .bool (decide (1 ≤ d) && decide (Int.gcd n d = 1))
        rw [show decide (((Int.gcd n d : Nat) : Int) = 1) = decide (Int.gcd n d = 1) from decide_eq_decide.mpr (by omega)]
      | [], e, q => subst e; simp at q
      | [_], e, q => subst e; simp at q
      | _ :: _ :: _ :: _, e, q => subst e; simp at q
end
end K81
end

section
set_option Elab.async false
set_option linter.all false
set_option maxRecDepth 100000
namespace K81
open PySem PySem.Spec PyProof.Rows L2
/-! ### less known of the slots -/
inductive RSub : Rho → Rho → Prop where
  | nil : RSub [] []
  | no {s : Sl} {ρ ρ' : Rho} : RSub ρ ρ' → RSub (s :: ρ) (.no :: ρ')
  | same {s : Sl} {ρ ρ' : Rho} : RSub ρ ρ' → RSub (s :: ρ) (s :: ρ')
  | weak {s s' : Sc} {ρ ρ' : Rho} (h : ∀ G v, s.p G v → s'.p G v) : RSub ρ ρ' → RSub (.dat s :: ρ) (.dat s' :: ρ')
theorem RSub.refl : ∀ ρ : Rho, RSub ρ ρ
  | [] => .nil
  | _ :: r => .same (RSub.refl r)
theorem RSub.len {ρ ρ' : Rho} (h : RSub ρ ρ') : ρ.length = ρ'.length := by induction h <;> simp_all
theorem RSub.dat {ρ ρ' : Rho} (h : RSub ρ ρ') : ∀ (i : Nat) (t : Sc), ρ'[i]? = some (.dat t) → ∃ s, ρ[i]? = some (.dat s) ∧ ∀ G v, s.p G v → t.p G v := by
  induction h with
  | nil => intro i t e; simp at e
  | no _ ih => intro i t e; cases i with
    | zero => simp at e
    | succ i => simpa using ih i t (by simpa using e)
  | same _ ih => intro i t e; cases i with
    | zero => exact ⟨t, by simpa using e, fun _ _ h => h⟩
    | succ i => simpa using ih i t (by simpa using e)
  | @weak s s' _ _ h _ ih => intro i t e; cases i with
    | zero =>
      have e' : Sl.dat s' = Sl.dat t := Option.some.inj e
      cases e'
      exact ⟨s, rfl, h⟩
    | succ i => simpa using ih i t (by simpa using e)
theorem RSub.own {ρ ρ' : Rho} (h : RSub ρ ρ') : ∀ (i k : Nat), ρ'[i]? = some (.own k) → ρ[i]? = some (.own k) := by
  induction h with
  | nil => intro i t e; simp at e
  | no _ ih => intro i t e; cases i with
    | zero => simp at e
    | succ i => simpa using ih i t (by simpa using e)
  | same _ ih => intro i t e; cases i with
    | zero => simpa using e
    | succ i => simpa using ih i t (by simpa using e)
  | weak h _ ih => intro i t e; cases i with
    | zero => simp at e
    | succ i => simpa using ih i t (by simpa using e)
theorem sta_sub {K : PySem.W.Frag} {E : En} {ρ ρ' : Rho} {os : List (List PyData)} {gs : List Hp} {σ : L2.St} {H : Hp} (r : RSub ρ ρ') (h : Sta K E ρ os gs σ H) : Sta K E ρ' os gs σ H := by
  obtain ⟨G, as, S⟩ := h
  refine ⟨G, as, S.aft, ⟨by rw [← r.len]; exact S.env.len, fun i t e => ?_⟩, fun i k e => S.envo i k (r.own i k e), S.gh, S.nd, S.len, S.own⟩
  obtain ⟨s, h1, h2⟩ := r.dat i t e
  obtain ⟨v, q1, q2⟩ := S.env.get i s h1
  exact ⟨v, q1, h2 _ _ q2⟩
/-! ### more expressions -/
section
variable {X : Cx} {w : Wd} {ρ : Rho} {a b : Expr} {p pos p2 : Pos} {ds : List PyData} {k : Nat}
theorem cut_drop (xs : List V) (k : Nat) : cutV xs (some (k : Int)) none = xs.drop k := by
  unfold cutV
  rw [HT.sIx_nat, HT.sIx_none]
  by_cases h : k ≤ xs.length
  · rw [Nat.min_eq_left h, List.take_of_length_le (by simp)]
  · rw [Nat.min_eq_right (by omega), List.drop_of_length_le (by omega), List.drop_of_length_le (by omega), List.take_nil]
theorem cut_take (xs : List V) (k : Nat) : cutV xs none (some (k : Int)) = xs.take k := by
  unfold cutV
  rw [HT.sIx_nat, HT.sIx_none]
  by_cases h : k ≤ xs.length
  · rw [Nat.min_eq_left h]; simp
  · rw [Nat.min_eq_right (by omega)]; simp; rw [List.take_of_length_le (by omega)]
theorem xl_from (ha : XE X w a ρ (dS X.K (.list ds))) (hb : XE X w b ρ (dS X.K (.int k))) : XL X w (.Subscript a (.Slice (some b) none none p2) pos) ρ (· = ds.drop k) :=
  pe_to (pe_slice sl_list (pe_x ha) (po_some (pe_x hb)) po_none) fun σ H Q ⟨G, hE, hB, q⟩ => tX_then hE hB fun x G1 H1 A1 hx => tX_then (hE.mono A1.g) (hB.aft A1) fun y G2 H2 A2 hy => by
    obtain ⟨l, xs, rfl, h1, h2⟩ := dpLst (dp_mono A2.g _ _ hx)
    have B2 := (hB.aft A1).aft A2
    refine ⟨k, dpInt hy, l, xs, rfl, ex_l B2.sub h1, fun r hr => q r (xs.drop k) (ds.drop k) G2 _ ((A1.trans hB A2).trans hB (.newH B2 hr)) (A1.back (A2.back hr)) (B2.sub.free hr) ?_ (dpa_drop k h2) rfl⟩
    rw [upd_same, cut_drop]
theorem xl_to (ha : XE X w a ρ (dS X.K (.list ds))) (hb : XE X w b ρ (dS X.K (.int k))) : XL X w (.Subscript a (.Slice none (some b) none p2) pos) ρ (· = ds.take k) :=
  pe_to (pe_slice sl_list (pe_x ha) po_none (po_some (pe_x hb))) fun σ H Q ⟨G, hE, hB, q⟩ => tX_then hE hB fun x G1 H1 A1 hx => tX_then (hE.mono A1.g) (hB.aft A1) fun y G2 H2 A2 hy => by
    obtain ⟨l, xs, rfl, h1, h2⟩ := dpLst (dp_mono A2.g _ _ hx)
    have B2 := (hB.aft A1).aft A2
    refine ⟨k, dpInt hy, l, xs, rfl, ex_l B2.sub h1, fun r hr => q r (xs.take k) (ds.take k) G2 _ ((A1.trans hB A2).trans hB (.newH B2 hr)) (A1.back (A2.back hr)) (B2.sub.free hr) ?_ (dpa_take k h2) rfl⟩
    rw [upd_same, cut_take]
end
theorem atI_of {α : Type} {xs : List α} {i : Int} {j : Nat} {v : α} (e : i = (j : Int)) (h : xs[j]? = some v) : atI xs i = some v := by rw [e]; exact atI_nat h
theorem getElem?_map_rD {xs : List Rat} {j : Nat} (h : j < xs.length) : (xs.map rD)[j]? = some (rD (xs.getD j 0)) := by
  rw [List.getElem?_map, List.getElem?_eq_getElem h, gd _ h]; rfl
/-- fractions of a size -/
def Fs (xs : List Rat) : Prop := (∀ a ∈ xs, Sz 4000 a) ∧ xs.length ≤ 1000
theorem Fs.at_ {xs : List Rat} (h : Fs xs) {j : Nat} (hj : j < xs.length) : Sz 4000 (xs.getD j 0) := by
  rw [gd _ hj]; exact h.1 _ (List.getElem_mem hj)
theorem getD_map_rD {xs : List Rat} {j : Nat} (h : j < xs.length) : (xs.map rD).getD j .none = rD (xs.getD j 0) := by
  rw [gd _ (by simpa using h), gd _ h, List.getElem_map]
theorem fold_succ {β : Type} {st : β → Rat → β} {x : β} {xs : List Rat} {i : Nat} (h : i < xs.length) : (xs.take (i + 1)).foldl st x = st ((xs.take i).foldl st x) (xs.getD i 0) := by
  rw [gd _ h, List.take_succ_eq_append_getElem h, List.foldl_append]; rfl
section
variable {X : Cx} {w : Wd} {ρ : Rho} {e tg : Expr}
theorem xi_rats {xs : List Rat} (h : XE X w e ρ (dS X.K (.list (xs.map rD)))) : XI X w tg e ρ (· = xs.length) (fun i => dS X.K (rD (xs.getD i 0))) := by
  have h1 := xi_listD (tg := tg) h
  rw [List.length_map] at h1
  exact xi_weak h1 fun n i G v hn hi q => by
    subst hn
    rw [getD_map_rD hi] at q
    exact q
end
theorem take_succ_getD {xs : List Rat} {i : Nat} (h : i < xs.length) : xs.take (i + 1) = xs.take i ++ [xs.getD i 0] := by
  rw [gd _ h, List.take_succ_eq_append_getElem h]
section
variable {P : Program} {w : World} {K : PySem.W.Frag} {mg : Str → Option Value} {base : Heap}
theorem ok_is_number (T : Txt K mg) : Fnc P w K mg base CX0 3 "is_number" ["thing"] (Pr (fun _ => w0) Th.ok (fun x => [x.sc K]) (fun x => dS K (.bool x.nu))) := by
  have F := ok_is_fraction (P := P) (w := w) (base := base) T
  refine fnc_mk T.f_is_number sc_is_number (fun _ _ _ _ _ _ us hl => match us, hl with | [_], _ => rfl) (fun _ _ => rfl) fun f cdv A outer s H Ex x E hok hw hr => ?_
  cases hf : x.fr with
  | false =>
    refine xss_ret (xe_is (xe_and (x := false) (y := true) (xe_call x F hr rfl pass0 hok (xa_cons (xv 0 rfl) xa_nil) (hs := by rw [hf]; rfl)) fun h => nomatch h) ?_)
    cases x with
    | oth U => rfl
    | tup ds =>
      have hf' : frB ds = false := hf
      show dS K (.bool false) = dS K (.bool (nuB ds))
      match ds with
      | [] => rfl
      | [_] => cases ‹PyData› <;> rfl
      | [a, b] =>
        cases a <;> cases b <;> first | rfl | (show dS K (.bool false) = dS K (.bool (frB _ && _)); rw [hf']; rfl)
      | a :: b :: c :: r => cases a <;> cases b <;> rfl
  | true =>
    cases x with
    | oth U => cases hf
    | tup ds =>
      have hf' : frB ds = true := hf
      match ds, hok with
      | [], _ => cases hf'
      | [_], _ => cases ‹PyData› <;> cases hf'
      | a :: b :: c :: r, _ => cases a <;> cases b <;> cases hf'
      | [a, b], hok =>
        cases a <;> cases b <;> first | (cases hf'; done) | skip
        rename_i n d
        refine xss_ret (xe_is (xe_and (x := true) (xe_call (Th.tup [.int n, .int d]) F hr rfl pass0 hok (xa_cons (xv 0 rfl) xa_nil) (hs := by rw [hf]; rfl)) fun _ => xe_one (xe_le2 xe_int (xe_ixT (d := .int n) (xv 0 rfl) xe_int (fun _ _ => rfl) rfl) (xe_ixT (d := .int d) (xv 0 rfl) xe_int (fun _ _ => rfl) rfl))) ?_)
        show dS K _ = dS K (.bool (frB [.int n, .int d] && _))
        rw [hf']
theorem ok_least_of (T : Txt K mg) : Fnc P w K mg base CX0 2 "least_of" ["fractions"] (Pr (fun _ => w0) (fun xs : List Rat => Fs xs ∧ xs ≠ []) (fun xs => [dS K (.list (xs.map rD))]) (fun xs => dS K (rD (leastOf xs)))) := by
  have F := ok_is_less (P := P) (w := w) (base := base) T
  refine fnc_mk T.f_least_of sc_least_of (fun _ _ _ _ _ _ us hl => match us, hl with | [_], _ => rfl) (fun _ _ => rfl) fun f cdv A outer s H Ex xs E hok hw hr => ?_
  obtain ⟨hF, hne⟩ := hok
  cases xs with
  | nil => exact absurd rfl hne
  | cons x xs =>
    have hx : Sz 4000 x := hF.1 x (by simp)
    have hxs : ∀ a ∈ xs, Sz 4000 a := fun a ha => hF.1 a (by simp [ha])
    have hlen : xs.length ≤ 1000 := by have := hF.2; simp at this; omega
    have hval : ∀ i, Sz 4000 ((xs.take i).foldl (fun f y => if y < f then y else f) x) := fun i => by
      rcases List.mem_cons.mp (least_fold (xs.take i) x).1 with e | e
      · rw [e]; exact hx
      · exact hxs _ (List.mem_of_mem_take e)
    -- found = fractions[0]
    refine xss_asg 1 sc_least_of.nd (xe_ixL (d := rD x) (xv 0 rfl) xe_int (fun _ _ => rfl) (atI_of (j := 0) rfl rfl)) ?_
    refine xss_for (ι := Unit) (gv := [2]) (fun i _ => True) (fun i _ => [.dat (dS K (.list ((x :: xs).map rD))), .dat (dS K (rD ((xs.take i).foldl (fun f y => if y < f then y else f) x))), .no]) (fun _ _ => [])
      (fun i _ => [.dat (dS K (.list ((x :: xs).map rD))), .dat (dS K (rD ((xs.take i).foldl (fun f y => if y < f then y else f) x))), .dat (dS K (rD (xs.getD i 0)))]) .never rfl
      (xi_rats (xs := xs) (xe_tl (xe_xl1 (xl_from (ds := (x :: xs).map rD) (k := 1) (xv 0 rfl) xe_int)))) (pg_name sc_least_of.nd rfl (.inl rfl)) (fun i y _ k hk => by simp at hk; rw [hk]; exact Nat.le_of_ble_eq_true rfl) (fun n i y _ _ _ => gs_name) ⟨(), True.intro, rfl, rfl⟩ (fun n i y g0 hn hi _ => ?_)
      (Mid := Sta K E [.dat (dS K (.list ((x :: xs).map rD))), .dat (dS K (rD (leastOf (x :: xs)))), .no] [] []) (fun n y hn _ σ H h => ?_) ?_
    · subst hn
      refine xss_ifM (Mid := Sta K E [.dat (dS K (.list ((x :: xs).map rD))), .dat (dS K (rD ((xs.take (i + 1)).foldl (fun f y => if y < f then y else f) x))), .no] [] (g0 :: []))
        (xt_val (xe_call (xs.getD i 0, (xs.take i).foldl (fun f y => if y < f then y else f) x) F hr rfl pass0 ⟨by rw [gd _ hi]; exact hxs _ (List.getElem_mem hi), hval i⟩ (xa_cons (xv 2 rfl) (xa_cons (xv 1 rfl) xa_nil)))) (fun h => ?_) (fun h => ?_) (xss_nil fun σ H q => ⟨(), True.intro, q⟩)
      · refine xss_asg 1 sc_least_of.nd (xv 2 rfl) (xss_nil fun σ H q => sta_sub ?_ q)
        rw [fold_succ hi, if_pos (of_decide_eq_true h.symm)]
        exact .same (.same (.no .nil))
      · refine xss_nil fun σ H q => sta_sub ?_ q
        rw [fold_succ hi, if_neg (of_decide_eq_false h.symm)]
        exact .same (.same (.no .nil))
    · subst hn
      rw [List.take_length] at h
      exact h
    · exact xss_ret (xv 1 rfl)
theorem ok_greatest_of (T : Txt K mg) : Fnc P w K mg base CX0 2 "greatest_of" ["fractions"] (Pr (fun _ => w0) (fun xs : List Rat => Fs xs ∧ xs ≠ []) (fun xs => [dS K (.list (xs.map rD))]) (fun xs => dS K (rD (greatestOf xs)))) := by
  have F := ok_is_less (P := P) (w := w) (base := base) T
  refine fnc_mk T.f_greatest_of sc_greatest_of (fun _ _ _ _ _ _ us hl => match us, hl with | [_], _ => rfl) (fun _ _ => rfl) fun f cdv A outer s H Ex xs E hok hw hr => ?_
  obtain ⟨hF, hne⟩ := hok
  cases xs with
  | nil => exact absurd rfl hne
  | cons x xs =>
    have hx : Sz 4000 x := hF.1 x (by simp)
    have hxs : ∀ a ∈ xs, Sz 4000 a := fun a ha => hF.1 a (by simp [ha])
    have hval : ∀ i, Sz 4000 ((xs.take i).foldl (fun f y => if f < y then y else f) x) := fun i => by
      rcases List.mem_cons.mp (greatest_fold (xs.take i) x).1 with e | e
      · rw [e]; exact hx
      · exact hxs _ (List.mem_of_mem_take e)
    refine xss_asg 1 sc_greatest_of.nd (xe_ixL (d := rD x) (xv 0 rfl) xe_int (fun _ _ => rfl) (atI_of (j := 0) rfl rfl)) ?_
    refine xss_for (ι := Unit) (gv := [2]) (fun i _ => True) (fun i _ => [.dat (dS K (.list ((x :: xs).map rD))), .dat (dS K (rD ((xs.take i).foldl (fun f y => if f < y then y else f) x))), .no]) (fun _ _ => [])
      (fun i _ => [.dat (dS K (.list ((x :: xs).map rD))), .dat (dS K (rD ((xs.take i).foldl (fun f y => if f < y then y else f) x))), .dat (dS K (rD (xs.getD i 0)))]) .never rfl
      (xi_rats (xs := xs) (xe_tl (xe_xl1 (xl_from (ds := (x :: xs).map rD) (k := 1) (xv 0 rfl) xe_int)))) (pg_name sc_greatest_of.nd rfl (.inl rfl)) (fun i y _ k hk => by simp at hk; rw [hk]; exact Nat.le_of_ble_eq_true rfl) (fun n i y _ _ _ => gs_name) ⟨(), True.intro, rfl, rfl⟩ (fun n i y g0 hn hi _ => ?_)
      (Mid := Sta K E [.dat (dS K (.list ((x :: xs).map rD))), .dat (dS K (rD (greatestOf (x :: xs)))), .no] [] []) (fun n y hn _ σ H h => ?_) ?_
    · subst hn
      refine xss_ifM (Mid := Sta K E [.dat (dS K (.list ((x :: xs).map rD))), .dat (dS K (rD ((xs.take (i + 1)).foldl (fun f y => if f < y then y else f) x))), .no] [] (g0 :: []))
        (xt_val (xe_call ((xs.take i).foldl (fun f y => if f < y then y else f) x, xs.getD i 0) F hr rfl pass0 ⟨hval i, by rw [gd _ hi]; exact hxs _ (List.getElem_mem hi)⟩ (xa_cons (xv 1 rfl) (xa_cons (xv 2 rfl) xa_nil)))) (fun h => ?_) (fun h => ?_) (xss_nil fun σ H q => ⟨(), True.intro, q⟩)
      · refine xss_asg 1 sc_greatest_of.nd (xv 2 rfl) (xss_nil fun σ H q => sta_sub ?_ q)
        rw [fold_succ hi, if_pos (of_decide_eq_true h.symm)]
        exact .same (.same (.no .nil))
      · refine xss_nil fun σ H q => sta_sub ?_ q
        rw [fold_succ hi, if_neg (of_decide_eq_false h.symm)]
        exact .same (.same (.no .nil))
    · subst hn
      rw [List.take_length] at h
      exact h
    · exact xss_ret (xv 1 rfl)
theorem insA_map (f : Rat) (xs : List Rat) (k : Nat) : (xs.map rD).take k ++ [rD f] ++ (xs.map rD).drop k = (xs.take k ++ [f] ++ xs.drop k).map rD := by simp
theorem asc_take {xs : List Rat} {i : Nat} (h : i < xs.length) : asc (xs.take (i + 1)) = insA (xs.getD i 0) (asc (xs.take i)) := fold_succ h
theorem lasc_take {xs : List Rat} {i : Nat} (h : i < xs.length) : lasc (xs.take (i + 1)) = (lasc (xs.take i)).take (cntA (xs.getD i 0) (lasc (xs.take i))) ++ [xs.getD i 0] ++ (lasc (xs.take i)).drop (cntA (xs.getD i 0) (lasc (xs.take i))) := fold_succ h
theorem Fs.asc {xs : List Rat} (h : Fs xs) : Fs (asc xs) := ⟨fun a ha => h.1 a ((asc_perm xs).mem_iff.mp ha), by rw [asc_length]; exact h.2⟩
theorem Fs.take {xs : List Rat} (h : Fs xs) (i : Nat) : Fs (xs.take i) := ⟨fun a ha => h.1 a (List.mem_of_mem_take ha), by rw [List.length_take]; have := h.2; omega⟩
theorem ok_ascending (T : Txt K mg) : Fnc P w K mg base CX0 2 "ascending" ["fractions"] (PrL K (fun _ => w0) Fs (fun xs => [dS K (.list (xs.map rD))]) (fun xs ds => ds = (asc xs).map rD)) := by
  have F := ok_is_less (P := P) (w := w) (base := base) T
  refine fnc_mkL T.f_ascending sc_ascending (fun _ _ _ _ _ _ us hl => match us, hl with | [_], _ => rfl) (fun _ _ => rfl) fun f cdv A outer s H Ex xs E hok hw hr => ?_
  -- found = []
  refine xss_asgL 1 sc_ascending.nd (xl_lst [] xa_nil) fun ds hds => ?_
  subst hds
  refine xss_for (ι := Unit) (gv := [2]) (fun i _ => True) (fun i _ => [.dat (dS K (.list (xs.map rD))), .own 0, .no, .no]) (fun i _ => [(asc (xs.take i)).map rD])
    (fun i _ => [.dat (dS K (.list (xs.map rD))), .own 0, .dat (dS K (rD (xs.getD i 0))), .no]) .never rfl (xi_rats (xs := xs) (xv 0 rfl)) (pg_name sc_ascending.nd rfl (.inl rfl)) (fun i y _ k hk => by simp at hk; rw [hk]; exact Nat.le_of_ble_eq_true rfl) (fun n i y _ _ _ => gs_name) ⟨(), True.intro, rfl, rfl⟩ (fun n i y g0 hn hi _ => ?_)
    (Mid := Sta K E [.dat (dS K (.list (xs.map rD))), .own 0, .no, .no] [(asc xs).map rD] []) (fun n y hn _ σ H h => ?_) ?_
  · subst hn
    have hA : Fs (asc (xs.take i)) := (hok.take i).asc
    have hsz : Sz 4000 (xs.getD i 0) := hok.at_ hi
    -- at = len(found)
    refine xss_asgF 3 sc_ascending.nd (n := ((asc (xs.take i)).length : Nat)) (xe_d (xe_lenL rfl T.b_len (xe_tl (xv 1 rfl))) (by rw [List.length_map])) ?_
    -- while at > 0 and is_less(fraction, found[at - 1])
    refine xss_while (ι := Nat) (fun a => a ≤ (asc (xs.take i)).length ∧ posA (xs.getD i 0) (asc (xs.take i)) a = posA (xs.getD i 0) (asc (xs.take i)) (asc (xs.take i)).length) (fun a => a) (fun a => [.dat (dS K (.list (xs.map rD))), .own 0, .dat (dS K (rD (xs.getD i 0))), .dat (dS K (.int (a : Nat)))]) (fun _ => [(asc (xs.take i)).map rD])
      (fun a => decide ((0 : Int) < a) && decide (xs.getD i 0 < (asc (xs.take i)).getD (a - 1) 0)) .never ⟨_, ⟨Nat.le_refl _, rfl⟩, rfl, rfl⟩ (fun a ha => ?_) (fun a ha hb => ?_)
      (Mid := Sta K E [.dat (dS K (.list (xs.map rD))), .own 0, .dat (dS K (rD (xs.getD i 0))), .dat (dS K (.int (posA (xs.getD i 0) (asc (xs.take i)) (asc (xs.take i)).length : Nat)))] [(asc (xs.take i)).map rD] [g0]) (fun a ha hb σ H h => ?_) ?_
    · refine xt_w (xw_and (xt_c (xc_gt (xv 3 rfl) xe_int)) fun h => xw_and1 (xt_val (xe_call (xs.getD i 0, (asc (xs.take i)).getD (a - 1) 0) F hr rfl pass0 ⟨hsz, ?_⟩ (xa_cons (xv 2 rfl) (xa_cons (xe_ixL (xe_tl (xv 1 rfl)) (xe_sub (xv 3 rfl) xe_int) (fun _ _ => rfl) ?_) xa_nil)))))
      · have h0 := of_decide_eq_true h
        exact hA.at_ (by have := ha.1; omega)
      · have h0 := of_decide_eq_true h
        exact atI_of (j := a - 1) (by omega) (getElem?_map_rD (by have := ha.1; omega))
    · rw [Bool.and_eq_true] at hb
      have h0 := of_decide_eq_true hb.1
      have h1 := of_decide_eq_true hb.2
      refine xss_aug 3 ip_sub sc_ascending.nd rfl xe_int (xss_nil fun σ H q => ⟨a - 1, ⟨by have := ha.1; omega, ?_⟩, by omega, ?_⟩)
      · rw [← ha.2]
        obtain ⟨m, rfl⟩ : ∃ m, a = m + 1 := ⟨a - 1, by omega⟩
        show posA _ _ m = posA _ _ (m + 1)
        rw [Nat.add_sub_cancel] at h1
        rw [posA, if_pos h1]
      · have e : ((a - 1 : Nat) : Int) = (a : Int) - 1 := by omega
        rw [e]
        exact q
    · rw [← ha.2]
      have e : posA (xs.getD i 0) (asc (xs.take i)) a = a := by
        cases a with
        | zero => rfl
        | succ m =>
          have h0 : decide ((0 : Int) < ((m + 1 : Nat) : Int)) = true := decide_eq_true (by omega)
          rw [h0, Bool.true_and] at hb
          rw [Nat.add_sub_cancel] at hb
          rw [posA, if_neg (of_decide_eq_false hb)]
      rw [e]
      exact h
    · -- found.insert(at, fraction)
      have hp := posA_le (xs.getD i 0) (asc (xs.take i)) (asc (xs.take i)).length
      have hl := hA.2
      refine xss_insert (i := 1) (k := 0) (pe_bm PySem.F.plainAttrs_list PySem.F.slot_list_insert PySem.F.type_list_insert mt_insert (pv 1) (xa_cons (xv 3 rfl) (xa_cons (xv 2 rfl) xa_nil))) rfl rfl (by rw [List.length_map]; omega) (by omega) (xss_nil fun σ H q => ⟨(), True.intro, by
        rw [asc_take hi]
        unfold insA
        rw [← insA_map]
        exact sta_sub (.same (.same (.no (.no .nil)))) q⟩)
  · subst hn
    rw [List.take_length] at h
    exact h
  · exact xss_retOwn (P := fun ds => ds = (asc xs).map rD) 1 rfl rfl rfl
end
end K81
end

section
set_option Elab.async false
set_option linter.all false
set_option maxRecDepth 100000
namespace K81
open PySem PySem.Spec PyProof.Rows L2
/-! ### names of the module, zip, comprehensions over pairs -/
section
variable {X : Cx} {w : Wd} {ρ : Rho} {a b elt iter : Expr} {scope : Scope} {x y : Str} {p p' pos tpos : Pos} {kk : Nat}
theorem xe_gtup {vs : List V} {ds : List PyData} (hg : Gl X x) (hm : ∃ a, X.mg x = some (.ref a) ∧ ∀ H : Hp, SqT X.K H a vs) (hd : ∀ G, DpAll X.K G vs ds) (hdb : (x == ("__debug__" : Str)) = false := by decide) : XE X w (.Name x pos) ρ (dS X.K (.tuple ds)) := by
  obtain ⟨a, h1, h2⟩ := hm
  exact xe_of (pe_glob (v := .ref a) hg h1 rfl hdb) fun σ G H hE hB => ⟨G, .refl hB, .tup (h2 G) (hd G)⟩
theorem xe_gint {i : Int} (hg : Gl X x) (hm : ∃ t, X.mg x = some (.int i t)) (hdb : (x == ("__debug__" : Str)) = false := by decide) : XE X w (.Name x pos) ρ (dS X.K (.int i)) := by
  obtain ⟨t, h1⟩ := hm
  exact xe_of (pe_glob (v := .int i) hg h1 ⟨_, rfl⟩ hdb) fun σ G H hE hB => ⟨G, .refl hB, .int i⟩
theorem rD0 : rD 0 = .tuple [.int 0, .int 1] := rfl
theorem rD1 : rD 1 = .tuple [.int 1, .int 1] := rfl
theorem xe_ZERO (hg : Gl X "ZERO") (hm : ∃ a, X.mg "ZERO" = some (.ref a) ∧ ∀ H : Hp, SqT X.K H a [.int 0, .int 1]) : XE X w (.Name "ZERO" pos) ρ (dS X.K (rD 0)) := xe_gtup hg hm fun G => .cons (.int 0) (.cons (.int 1) .nil)
theorem xe_ONE (hg : Gl X "ONE") (hm : ∃ a, X.mg "ONE" = some (.ref a) ∧ ∀ H : Hp, SqT X.K H a [.int 1, .int 1]) : XE X w (.Name "ONE" pos) ρ (dS X.K (rD 1)) := xe_gtup hg hm fun G => .cons (.int 1) (.cons (.int 1) .nil)
theorem xi_zip {elts : List Expr} {as bs : List PyData} (hg : Gl X "zip") (hm : X.mg "zip" = none) (ha : XE X w a ρ (dS X.K (.list as))) (hb : XE X w b ρ (dS X.K (.list bs))) (hl : as.length = bs.length) (hs : starEach [a, b] X.env = (false, eval a X.env) :: starEach [b] X.env := by rfl) (hs2 : starEach [b] X.env = (false, eval b X.env) :: starEach [] X.env := by rfl)
    (hpl : (backTo pos (starEach [b] X.env)).any (·.1) = false := by rfl) : XI X w (.Tuple elts kk tpos) (.Call (.Name "zip" p) [a, b] [] pos) ρ (· = as.length) (fun i => dS X.K (.tuple [as.getD i .none, bs.getD i .none])) :=
  pi_to (pi_zip hg hm (xa_cons ha (xa_cons hb xa_nil hs2) hs) hs hpl) fun σ H R ⟨G, hE, hB, q⟩ => tA_then hE hB fun vs G1 H1 A1 hvs => by
    obtain ⟨v, u, rfl, hv, hu⟩ := alls2 hvs
    obtain ⟨pa, xs, rfl, h1, h2⟩ := dpLst hv
    obtain ⟨pb, ys, rfl, h3, h4⟩ := dpLst hu
    refine ⟨pa, pb, xs, ys, rfl, ex_l A1.sub h1, ex_l A1.sub h3, q _ as.length G1 H1 A1 rfl ?_⟩
    refine (walk_zip (n := as.length) (by rw [h2.len, h4.len]; omega)).mono (fun H2 e => ⟨ex_l e h1, ex_l e h3⟩) fun i H2 x H3 hi e y => ?_
    obtain ⟨T, x, z, rfl, hT, rfl, hx, hz⟩ := y
    intro w2 G2 e2 B2
    refine ⟨_, .new1 B2 hT, ?_⟩
    obtain ⟨d, hd, hp⟩ := h2.getV hx
    obtain ⟨d', hd', hp'⟩ := h4.getV hz
    have e3 : as.getD i .none = d := by rw [List.getD_eq_getElem?_getD, hd]; rfl
    have e4 : bs.getD i .none = d' := by rw [List.getD_eq_getElem?_getD, hd']; rfl
    show Dp X.K _ (.ref T) (.tuple [as.getD i .none, bs.getD i .none])
    rw [e3, e4]
    have up := e2.trans (Ex.new (o := .tup [x, z]) (B2.sub.free hT))
    exact .tup (SqT.of upd_same) (.cons (dp_mono up _ _ hp) (.cons (dp_mono up _ _ hp') .nil))
/-- [elt for x, y in iter] -/
theorem xlcP (i j : Nat) {n : Nat} {A B g : Nat → PyData} (hN : X.N.Nodup) (hi : XI X w (.Tuple [.Name x p, .Name y p'] kk tpos) iter ρ (· = n) (fun k => dS X.K (.tuple [A k, B k]))) (hz : n ≤ 100000)
    (he : ∀ k, k < n → ∀ (s : Shared) (H : Hp) (C : Addr) (cl : List (Str × Addr)) (fp : List Addr), XE (X.blk s H scope (compEnvC scope cl C X.env) fp) w elt (((wipeR ρ [i, j]).set i (.dat (dS X.K (A k)))).set j (.dat (dS X.K (B k)))) (dS X.K (g k)))
    (ok : BlkOk X.N X.env.scope scope [(x, i), (y, j)]) (hpg : ∀ (s : Shared) (H : Hp) (C : Addr) (cl : List (Str × Addr)) (fp : List Addr), PG (X.blk s H scope (compEnvC scope cl C X.env) fp) (.Tuple [.Name x p, .Name y p'] kk tpos) (gTup X.K 2 (gCons (gName i) (gCons (gName j) gNil))))
    (hl : i < ρ.length := by exact Nat.le_of_ble_eq_true rfl) (hl2 : j < ρ.length := by exact Nat.le_of_ble_eq_true rfl) (hs : ∀ x, foldedSetIterable iter X.env x = pure x := by intro _; rfl) : XLc X w elt (.Tuple [.Name x p, .Name y p'] kk tpos) iter [] scope [(x, i), (y, j)] ρ (· = (List.range n).map g) :=
  xlc_weak (xlc (f := fun _ => true) (P := fun k d => d = g k) (gv := [i, j]) (ρ' := fun k => ((wipeR ρ [i, j]).set i (.dat (dS X.K (A k)))).set j (.dat (dS X.K (B k)))) hN hi (fun n hn => by rw [hn]; exact hz) ok (fun k hk => hk) (fun k hk => by
      rcases List.mem_cons.mp hk with e | hk
      · rw [e]; exact hl
      · rw [List.mem_singleton.mp hk]; exact hl2) hpg
    (fun n k _ _ => gs_pair (X := X)) (fun n k _ _ _ _ _ _ _ => xts_nil) (fun n k hn hk _ s H C cl fp => xe_weak (he k (hn ▸ hk) s H C cl fp) fun G v hv => ⟨_, rfl, hv⟩) hs) fun es ⟨m, hm, k, h1, h2⟩ => by
      subst hm
      rw [h2, List.filter_eq_self.mpr fun _ _ => rfl]
      exact List.map_congr_left fun i hi => h1 i (List.mem_range.mp hi) rfl
theorem pg_pair {X : Cx} {i j : Nat} {x y : Str} {p p' pos : Pos} {kk : Nat} (hc : X.calm = true) (hN : X.N.Nodup) (hi : X.N[i]? = some x) (hj : X.N[j]? = some y) (hx : Loc X.env.scope x) (hy : Loc X.env.scope y)
    (hf : X.fn x = true ∨ X.env.scope.names.lookup x = some .local := by first | exact .inl rfl | exact .inr rfl) (hf2 : X.fn y = true ∨ X.env.scope.names.lookup y = some .local := by first | exact .inl rfl | exact .inr rfl) : PG X (.Tuple [.Name x p, .Name y p'] kk pos) (gTup X.K 2 (gCons (gName i) (gCons (gName j) gNil))) :=
  pg_tup hc (pgs_cons (pg_name hN hi hx hf) (pgs_cons (pg_name hN hj hy hf2) pgs_nil))
end
section
variable {X : Cx} {w : Wd} {ρ : Rho} {e : Expr} {es : List Expr} {p pos : Pos} {n : Str} {CX : CXT} {k : Nat} {ps : List Str} {α : Type} {ok : α → Prop} {pre : α → List Sc} {P : α → List PyData → Prop}
theorem xe_callL {E : XK} (x : α) (ds : List PyData) (F : Fnc X.prog X.w X.K X.mg X.base CX k n ps (PrL X.K (fun _ => w0) ok pre P)) (hr : Room k X.A) (hg : Gl X n) (hx : Passes CX X E) (hok : ok x) (ha : XA X w (e :: es) ρ (pre x)) (hP : ∀ us, P x us → us = ds) (hdb : (n == ("__debug__" : Str)) = false := by decide)
    (he : starEach (e :: es) X.env = (false, eval e X.env) :: starEach es X.env := by rfl) (hpl : (backTo pos (starEach es X.env)).any (·.1) = false := by rfl) : XE X w (.Call (.Name n p) (e :: es) [] pos) ρ (tlS X.K ds) :=
  xe_weak (xe_xl (xl_call x F hr hg hx hok ha hdb he hpl)) fun G v ⟨us, hu, q⟩ => hP us hu ▸ q
end
/-! ### sizes -/
theorem sz_of {a : Rat} {m b : Nat} (h0 : 0 ≤ a) (h1 : a ≤ (m : Rat)) (hm : m < 2 ^ 11) (hd : a.den ≤ 2 ^ b) (hb : b ≤ 2400) : Sz 4000 a := by
  have h2 := num_le_mul h0 h1
  have h3 : 2 ^ b < 2 ^ 4000 := Nat.pow_lt_pow_right (by decide) (by omega)
  refine ⟨Nat.lt_of_le_of_lt h2 ?_, by omega⟩
  have h4 : m * a.den ≤ 2 ^ 11 * 2 ^ b := Nat.mul_le_mul (by omega) hd
  rw [← Nat.pow_add] at h4
  exact Nat.lt_of_le_of_lt h4 (Nat.pow_lt_pow_right (by decide) (by omega))
theorem Nq.sz {b : Nat} {a : Rat} (h : Nq b a) (hb : b ≤ 2400) : Sz 4000 a := sz_of (m := 1) h.lo h.hi (by decide) (Nat.le_of_lt h.den) hb
theorem fs_nq {xs : List Rat} (h : ∀ a ∈ xs, Nq 2400 a) (hl : xs.length ≤ 1000) : Fs xs := ⟨fun a ha => (h a ha).sz (Nat.le_refl _), hl⟩
structure MeanOk (ws : List Nat) (vs : List Rat) : Prop where
  len : ws.length = vs.length
  w : WsOk ws
  pos : 1 ≤ ws.length
  le : ws.length ≤ 8
  ms : ∃ ms : List Nat, ms.length = vs.length ∧ (∀ i, i < vs.length → Nq (ms.getD i 0) (vs.getD i 0)) ∧ ms.sum ≤ 2400
theorem le_sum {l : List Nat} {a : Nat} (h : a ∈ l) : a ≤ l.sum := by
  induction l with
  | nil => cases h
  | cons b l ih =>
    rw [List.sum_cons]
    rcases List.mem_cons.mp h with rfl | h
    · omega
    · have := ih h; omega
theorem take_sum_le (l : List Nat) (i : Nat) : (l.take i).sum ≤ l.sum := by
  have e : l.sum = (l.take i).sum + (l.drop i).sum := by rw [← List.sum_append, List.take_append_drop]
  omega
section
variable {ws : List Nat} {vs : List Rat} (M : MeanOk ws vs)
include M
theorem MeanOk.at_ {i : Nat} (hi : i < vs.length) : Nq 2400 (vs.getD i 0) := by
  obtain ⟨ms, h1, h2, h3⟩ := M.ms
  refine (h2 i hi).mono ?_
  have : ms.getD i 0 ≤ ms.sum := by rw [gd _ (by omega)]; exact le_sum (List.getElem_mem _)
  omega
theorem MeanOk.all_ : ∀ a ∈ vs, 0 ≤ a ∧ a ≤ 1 := fun a ha => by
  obtain ⟨i, hi, e⟩ := List.getElem_of_mem ha
  have := M.at_ hi
  rw [gd _ hi, e] at this
  exact ⟨this.lo, this.hi⟩
theorem MeanOk.run {i : Nat} (hi : i ≤ ws.length) : Sz 4000 (runM ws vs i) := by
  obtain ⟨ms, h1, h2, h3⟩ := M.ms
  have hd := runM_den M.len h1 (fun i hi => (h2 i hi).den) i hi
  have hs := sum_le M.w
  have := M.le
  have ht := take_sum_le ws i
  have h4 := take_sum_le ms i
  exact sz_of (runM_lo M.len (fun a ha => (M.all_ a ha).1) i hi) (runM_hi M.len (fun a ha => (M.all_ a ha).2) i hi) (by omega) hd (by omega)
theorem MeanOk.wat {i : Nat} (hi : i < ws.length) : 1 ≤ ws.getD i 0 ∧ ws.getD i 0 ≤ 99 := by
  rw [gd _ hi]
  exact M.w _ (List.getElem_mem _)
theorem MeanOk.wsz {i : Nat} (hi : i < ws.length) : Sz 4000 ((ws.getD i 0 : Nat) : Rat) := by
  have h := M.wat hi
  exact sz_of (m := ws.getD i 0) (b := 0) Rat.natCast_nonneg Rat.le_refl (by omega) (by rw [Rat.den_natCast]; exact Nat.le_refl _) (by decide)
theorem MeanOk.part {i : Nat} (hi : i < ws.length) : Sz 4000 (((ws.getD i 0 : Nat) : Rat) * vs.getD i 0) := by
  have h := M.at_ (i := i) (by rw [← M.len]; exact hi)
  have hw := M.wat hi
  have h4 := Rat.mul_le_mul_of_nonneg_left h.hi (Rat.natCast_nonneg (a := ws.getD i 0))
  rw [Rat.mul_one] at h4
  have h5 := den_mul_le ((ws.getD i 0 : Nat) : Rat) (vs.getD i 0)
  rw [Rat.den_natCast, Nat.one_mul] at h5
  exact sz_of (m := ws.getD i 0) (b := 2400) (Rat.mul_nonneg Rat.natCast_nonneg h.lo) h4 (by omega) (Nat.le_trans h5 (Nat.le_of_lt h.den)) (by omega)
theorem MeanOk.one : Sz 4000 (1 / (ws.sum : Rat)) := by
  have h := one_div (sum_pos M.w M.pos)
  have hs := sum_le M.w
  have := M.le
  have h2 : 2 ^ 11 < 2 ^ 4000 := Nat.pow_lt_pow_right (by decide) (by decide)
  have h3 : ws.sum < 2 ^ 11 := by omega
  refine ⟨?_, ?_⟩
  · rw [h.1]; exact Nat.lt_of_le_of_lt (by decide) h2
  · rw [h.2]; exact Nat.lt_trans h3 h2
theorem MeanOk.whole : runM ws vs vs.length * (1 / (ws.sum : Rat)) = meanOf ws vs := by rw [meanOf_run M.len, M.len]
end
theorem rD_nat (n : Nat) : rD (n : Rat) = .tuple [.int n, .int 1] := by
  unfold rD
  rw [Rat.num_natCast, Rat.den_natCast]
  rfl
theorem getD_map_int {ws : List Nat} {i : Nat} (h : i < ws.length) : (ws.map fun w : Nat => PyData.int w).getD i .none = .int (ws.getD i 0 : Nat) := by
  rw [gd _ (by simpa using h), gd _ h, List.getElem_map]
theorem map_int_sum (ws : List Nat) : (ws.map fun w : Nat => (w : Int)).sum = (ws.sum : Nat) := by
  induction ws with
  | nil => rfl
  | cons w ws ih => rw [List.map_cons, List.sum_cons, List.sum_cons, ih, Int.natCast_add]
section
variable {P : Program} {w : World} {K : PySem.W.Frag} {mg : Str → Option Value} {base : Heap}
theorem ok_middle (T : Txt K mg) : Fnc P w K mg base CX0 3 "middle" ["one", "two", "three"] (Pr (fun _ => w0) (fun x : Rat × Rat × Rat => Fs [x.1, x.2.1, x.2.2]) (fun x => [dS K (rD x.1), dS K (rD x.2.1), dS K (rD x.2.2)]) (fun x => dS K (rD ((asc [x.1, x.2.1, x.2.2]).getD 1 0)))) := by
  have F := ok_ascending (P := P) (w := w) (base := base) T
  refine fnc_mk T.f_middle sc_middle (fun _ _ _ _ _ _ us hl => match us, hl with | [_, _, _], _ => rfl) (fun _ _ => rfl) fun f cdv A outer s H Ex x E hok hw hr => ?_
  refine xss_ret (xe_ixL (xe_tl (xe_callL [x.1, x.2.1, x.2.2] _ F hr rfl pass0 hok (xa_cons (xe_tl (xe_xl1 (xl_lst [rD x.1, rD x.2.1, rD x.2.2] (xa_cons (xv 0 rfl) (xa_cons (xv 1 rfl) (xa_cons (xv 2 rfl) xa_nil)))))) xa_nil) (fun _ h => h))) xe_int (fun _ _ => rfl) (atI_of (j := 1) rfl (getElem?_map_rD ?_)))
  rw [asc_length]
  exact Nat.le_of_ble_eq_true rfl
theorem ok_ranked_of (T : Txt K mg) : Fnc P w K mg base CX0 3 "ranked_of" ["k", "numbers"] (Pr (fun _ => w0) (fun x : Nat × List Rat => Fs x.2 ∧ 1 ≤ x.1 ∧ x.1 ≤ x.2.length) (fun x => [dS K (.int x.1), dS K (.list (x.2.map rD))]) (fun x => dS K (rD ((asc x.2).getD (x.2.length - x.1) 0)))) := by
  have F := ok_ascending (P := P) (w := w) (base := base) T
  refine fnc_mk T.f_ranked_of sc_ranked_of (fun _ _ _ _ _ _ us hl => match us, hl with | [_, _], _ => rfl) (fun _ _ => rfl) fun f cdv A outer s H Ex x E hok hw hr => ?_
  obtain ⟨h1, h2, h3⟩ := hok
  refine xss_ret (xe_ixL (xe_tl (xe_callL x.2 _ F hr rfl pass0 h1 (xa_cons (xv 1 rfl) xa_nil) (fun _ h => h))) (xe_sub (xe_lenL rfl T.b_len (xv 1 rfl)) (xv 0 rfl)) (fun _ _ => rfl) (atI_of (j := x.2.length - x.1) (by rw [List.length_map]; omega) (getElem?_map_rD (by rw [asc_length]; omega))))
theorem ok_mean_of (T : Txt K mg) : Fnc P w K mg base CX0 4 "mean_of" ["weights", "numbers"] (Pr (fun _ => w0) (fun x : List Nat × List Rat => MeanOk x.1 x.2) (fun x => [dS K (.list (x.1.map fun w : Nat => .int w)), dS K (.list (x.2.map rD))]) (fun x => dS K (rD (meanOf x.1 x.2)))) := by
  have FP := ok_plus (P := P) (w := w) (base := base) T
  have FT := ok_times (P := P) (w := w) (base := base) T
  have FM := ok_made (P := P) (w := w) (base := base) T
  refine fnc_mk T.f_mean_of sc_mean_of (fun _ _ _ _ _ _ us hl => match us, hl with | [_, _], _ => rfl) (fun _ _ => rfl) fun f cdv A outer s H Ex x E M hw hr => ?_
  obtain ⟨ws, vs⟩ := x
  have M : MeanOk ws vs := M
  have hr2 : Room 2 (A.deeper (envOfC "mean_of" (defScope s_mean_of) s.heap.objs.size f cdv)) := hr.mono (by decide)
  -- total = ZERO
  refine xss_asg 2 sc_mean_of.nd (xe_ZERO rfl T.k_ZERO) ?_
  refine xss_for (ι := Unit) (gv := [3, 4]) (fun i _ => True) (fun i _ => [.dat (dS K (.list (ws.map fun w : Nat => .int w))), .dat (dS K (.list (vs.map rD))), .dat (dS K (rD (runM ws vs i))), .no, .no]) (fun _ _ => [])
    (fun i _ => [.dat (dS K (.list (ws.map fun w : Nat => .int w))), .dat (dS K (.list (vs.map rD))), .dat (dS K (rD (runM ws vs i))), .dat (dS K (.int (ws.getD i 0 : Nat))), .dat (dS K (rD (vs.getD i 0)))]) .never rfl
    (xi_weak (Y' := fun i => dS K (.tuple [.int (ws.getD i 0 : Nat), rD (vs.getD i 0)])) (xi_zip rfl T.b_zip (as := ws.map fun w : Nat => .int w) (bs := vs.map rD) (xv 0 rfl) (xv 1 rfl) (by rw [List.length_map, List.length_map]; exact M.len)) fun n i G v hn hi q => ?_)
    (pg_pair rfl sc_mean_of.nd rfl rfl (.inl rfl) (.inl rfl)) (fun i y _ k hk => ?_) (fun n i y _ _ _ => gs_pair (X := cx0 P w K mg base N_mean_of "mean_of" (defScope s_mean_of) f cdv A outer s H Ex)) ⟨(), True.intro, rfl, rfl⟩ (fun n i y g0 hn hi _ => ?_)
    (Mid := Sta K E [.dat (dS K (.list (ws.map fun w : Nat => .int w))), .dat (dS K (.list (vs.map rD))), .dat (dS K (rD (runM ws vs vs.length))), .no, .no] [] []) (fun n y hn _ σ H h => ?_) ?_
  · subst hn
    rw [List.length_map] at hi
    rw [getD_map_int hi, getD_map_rD (by rw [← M.len]; exact hi)] at q
    exact q
  · rcases List.mem_cons.mp hk with e | hk
    · rw [e]; exact Nat.le_of_ble_eq_true rfl
    · rw [List.mem_singleton.mp hk]; exact Nat.le_of_ble_eq_true rfl
  · subst hn
    rw [List.length_map] at hi
    have hi2 : i < vs.length := by rw [← M.len]; exact hi
    refine xss_asg 2 sc_mean_of.nd (xe_call (runM ws vs i, ((ws.getD i 0 : Nat) : Rat) * vs.getD i 0) FP hr rfl pass0 ⟨M.run (by omega), M.part hi⟩ (xa_cons (xv 2 rfl) (xa_cons (xe_call (((ws.getD i 0 : Nat) : Rat), vs.getD i 0) FT hr rfl pass0 ⟨M.wsz hi, (M.at_ hi2).sz (Nat.le_refl _)⟩
      (xa_cons (xe_d (xe_tup [.int (ws.getD i 0 : Nat), .int 1] (xa_cons (xv 3 rfl) (xa_cons xe_int xa_nil))) (rD_nat _).symm) (xa_cons (xv 4 rfl) xa_nil))) xa_nil))) (xss_nil fun σ H q => ⟨(), True.intro, sta_sub ?_ q⟩)
    rw [runM_succ hi hi2]
    exact .same (.same (.same (.no (.no .nil))))
  · subst hn
    rw [List.length_map, M.len] at h
    exact h
  · have hs := sum_pos M.w M.pos
    have hz : ((ws.sum : Nat) : Int).natAbs < 2 ^ 8000 := by
      have h1 := sum_le M.w
      have h2 := M.le
      exact Nat.lt_of_le_of_lt (show ws.sum ≤ 2 ^ 11 by omega) (Nat.pow_lt_pow_right (by decide) (by decide))
    refine xss_ret (xe_is (xe_call (runM ws vs vs.length, 1 / (ws.sum : Rat)) FT hr rfl pass0 ⟨by have := M.len; exact M.run (by omega), M.one⟩ (xa_cons (xv 2 rfl) (xa_cons (xe_call ((1 : Int), ((ws.sum : Nat) : Int)) FM hr2 rfl pass0 ⟨by omega, hz⟩
      (xa_cons xe_int (xa_cons (xe_is (xe_sum (ns := ws.map fun w : Nat => (w : Int)) rfl rfl T.b_sum (xe_d (xv 0 rfl) ?_)) (by rw [map_int_sum]; rfl)) xa_nil))) xa_nil))) (congrArg (fun z => dS K (rD z)) M.whole))
    rw [List.map_map]
    rfl
end
end K81
end

section
set_option Elab.async false
set_option linter.all false
set_option maxRecDepth 100000
namespace K81
open PySem PySem.Spec PyProof.Rows L2
section
variable {X : Cx} {w : Wd} {ρ : Rho} {elt iter a : Expr} {ifs : List Expr} {scope : Scope} {x : Str} {p p2 pos pos2 : Pos} {j : Nat} {E : En} {os : List (List PyData)} {gs : List Hp} {body rest : List Stmt} {D : Ends} {W V : Str}
/-- [elt for x in iter if ..], by the turn -/
theorem xlcN (j : Nat) {n : Nat} {Y : Nat → PyData} (f : Nat → Bool) (g : Nat → PyData) (hN : X.N.Nodup) (hi : XI X w (.Name x p) iter ρ (· = n) (fun k => dS X.K (Y k))) (hz : n ≤ 100000)
    (ht : ∀ k, k < n → ∀ (s : Shared) (H : Hp) (C : Addr) (cl : List (Str × Addr)) (fp : List Addr), XTs (X.blk s H scope (compEnvC scope cl C X.env) fp) w ifs ((wipeR ρ [j]).set j (.dat (dS X.K (Y k)))) (· = f k))
    (he : ∀ k, k < n → f k = true → ∀ (s : Shared) (H : Hp) (C : Addr) (cl : List (Str × Addr)) (fp : List Addr), XE (X.blk s H scope (compEnvC scope cl C X.env) fp) w elt ((wipeR ρ [j]).set j (.dat (dS X.K (Y k)))) (dS X.K (g k)))
    (ok : BlkOk X.N X.env.scope scope [(x, j)]) (hpg : ∀ (s : Shared) (H : Hp) (C : Addr) (cl : List (Str × Addr)) (fp : List Addr), PG (X.blk s H scope (compEnvC scope cl C X.env) fp) (.Name x p) (gName j)) (hl : j < ρ.length := by exact Nat.le_of_ble_eq_true rfl)
    (hs : ∀ x, foldedSetIterable iter X.env x = pure x := by intro _; rfl) : XLc X w elt (.Name x p) iter ifs scope [(x, j)] ρ (· = ((List.range n).filter f).map g) :=
  xlc_weak (xlc (f := f) (P := fun k d => d = g k) (gv := [j]) (ρ' := fun k => (wipeR ρ [j]).set j (.dat (dS X.K (Y k)))) hN hi (fun n hn => by rw [hn]; exact hz) ok (fun k hk => hk) (fun k hk => by rw [List.mem_singleton.mp hk]; exact hl) hpg
    (fun n k _ _ => gs_name) (fun n k hn hk s H C cl fp => ht k (hn ▸ hk) s H C cl fp) (fun n k hn hk hf s H C cl fp => xe_weak (he k (hn ▸ hk) hf s H C cl fp) fun G v hv => ⟨_, rfl, hv⟩) hs) fun es ⟨m, hm, k, h1, h2⟩ => by
      subst hm
      rw [h2]
      refine List.map_congr_left fun i hi => ?_
      obtain ⟨q1, q2⟩ := List.mem_filter.mp hi
      exact h1 i (List.mem_range.mp q1) q2
theorem xss_skipS (ha : XE X E.w a ρ (dS X.K (.str W))) (k : XSs X rest (Sta X.K E ρ os gs) D) (hne : decide (W = V) = false := by decide +kernel) : XSs X (.If (.Compare a [.Eq] [.Constant (.str V) j p] p2) body [] pos :: rest) (Sta X.K E ρ os gs) D :=
  xss_ifR (xt_c (xc_eqS ha xe_str)) (fun h => by rw [hne] at h; cases h) fun _ => k
theorem xss_takeS (ha : XE X E.w a ρ (dS X.K (.str W))) (k : XSs X body (Sta X.K E ρ os gs) { D with nx := fun _ _ => False }) (hne : decide (W = V) = true := by decide +kernel) : XSs X (.If (.Compare a [.Eq] [.Constant (.str V) j p] p2) body [] pos :: rest) (Sta X.K E ρ os gs) D :=
  xss_ifR (xt_c (xc_eqS ha xe_str)) (fun h => k) fun h => by rw [hne] at h; cases h
end
section
variable {X : Cx} {w : Wd} {ρ : Rho} {e tg : Expr} {ds : List PyData} {n : Nat}
theorem xi_to (h : XE X w e ρ (dS X.K (.tuple ds))) (hn : ds.length = n) : XI X w tg e ρ (· = n) (fun i => dS X.K (ds.getD i .none)) := hn ▸ xi_tupD h
end
/-! ### terms -/
theorem toD_bid (p : Nat) : Tm.toD (.bid p) = .tuple [.str "bid", .int p] := by rw [Tm.toD]
theorem toD_fix (a : Rat) : Tm.toD (.fix a) = .tuple [.str "fixed", rD a] := by rw [Tm.toD]
theorem toD_mean (ws : List Nat) (ts : List Tm) : Tm.toD (.mean ws ts) = .tuple [.str "mean", .tuple (List.zipWith wD ws (Tm.toDs ts))] := by rw [Tm.toD]
theorem toD_least (ts : List Tm) : Tm.toD (.least ts) = .tuple [.str "least", .tuple (Tm.toDs ts)] := by rw [Tm.toD]
theorem toD_greatest (ts : List Tm) : Tm.toD (.greatest ts) = .tuple [.str "greatest", .tuple (Tm.toDs ts)] := by rw [Tm.toD]
theorem toD_ranked (k : Nat) (ts : List Tm) : Tm.toD (.ranked k ts) = .tuple [.str "ranked", .int k, .tuple (Tm.toDs ts)] := by rw [Tm.toD]
theorem toD_between (lo hi : Rat) (t : Tm) : Tm.toD (.between lo hi t) = .tuple [.str "between", rD lo, rD hi, Tm.toD t] := by rw [Tm.toD]
theorem toDs_length (ts : List Tm) : (Tm.toDs ts).length = ts.length := by rw [Tm.toDs_map, List.length_map]
theorem toDs_getD {ts : List Tm} {i : Nat} (h : i < ts.length) : (Tm.toDs ts).getD i .none = Tm.toD ts[i] := by
  rw [gd _ (by rw [toDs_length]; exact h)]
  simp [Tm.toDs_map]
theorem zip_getD {ws : List Nat} {ts : List Tm} {i : Nat} (h : i < ws.length) (h2 : i < ts.length) : (List.zipWith wD ws (Tm.toDs ts)).getD i .none = .tuple [.int (ws.getD i 0 : Nat), (Tm.toDs ts).getD i .none] := by
  rw [gd _ (by rw [List.length_zipWith, toDs_length]; omega), gd _ h, gd _ (by rw [toDs_length]; exact h2), List.getElem_zipWith]
  rfl
theorem range_map {α : Type} {xs : List α} {n : Nat} (f : α → PyData) (d : α) (h : n = xs.length) : (List.range n).map (fun i => f (xs.getD i d)) = xs.map f := by
  subst h
  have e := congrArg (List.map f) (range_getD xs d)
  rw [List.map_map] at e
  exact e
theorem vals_nq {n : Nat} {bs : List Rat} (hb : BsOk n bs) {ts : List Tm} (ho : Tm.oks n ts) (hs : Tm.sizes ts ≤ 60) : ∀ a ∈ Tm.vals bs ts, Nq 2400 a := fun a ha => by
  rw [Tm.vals_map] at ha
  obtain ⟨t, ht, rfl⟩ := List.mem_map.mp ha
  exact (vals_ok hb ts ho t ht).mono (by have := Tm.sizes_le ht; omega)
theorem mean_ok {n : Nat} {bs : List Rat} (hb : BsOk n bs) {ws : List Nat} {ts : List Tm} (h : Tm.ok n (.mean ws ts)) (hs : Tm.sizes ts ≤ 60) : MeanOk ws (Tm.vals bs ts) := by
  obtain ⟨h1, h2, h3, h4, h5⟩ := h
  refine ⟨by rw [vals_length]; exact h1, h4, by omega, by omega, ts.map fun t => 40 * Tm.size t, by rw [vals_length, List.length_map], fun i hi => ?_, ?_⟩
  · rw [vals_length] at hi
    have e : (ts.map fun t => 40 * Tm.size t).getD i 0 = 40 * Tm.size ts[i] := by rw [gd _ (by simpa using hi), List.getElem_map]
    rw [e, vals_getD bs hi]
    exact vals_ok hb ts h5 _ (List.getElem_mem hi)
  · rw [show (ts.map fun t => 40 * Tm.size t) = (ts.map Tm.size).map (fun x => 40 * x) by simp, sum_map_mul, ← sizes_sum]
    omega
abbrev VX : Type := Nat × List Rat × Tm
structure VOk (d : Nat) (x : VX) : Prop where
  dep : x.2.2.dep ≤ d
  bs : BsOk x.1 x.2.1
  ok : Tm.ok x.1 x.2.2
  size : x.2.2.size ≤ 60
abbrev spVal (K : PySem.W.Frag) (d : Nat) : Sp := Pr (fun _ => w0) (VOk d) (fun x => [dS K x.2.2.toD, dS K (.tuple (x.2.1.map rD))]) (fun x => dS K (rD (Tm.val x.2.1 x.2.2)))
theorem dep_pos (t : Tm) : 1 ≤ t.dep := by cases t <;> simp [Tm.dep]
/-- a part of a term -/
theorem VOk.part {d n : Nat} {bs : List Rat} {ts : List Tm} (hb : BsOk n bs) (ho : Tm.oks n ts) (hd : Tm.deps ts ≤ d) (hs : Tm.sizes ts ≤ 60) {t : Tm} (ht : t ∈ ts) : VOk d (n, bs, t) :=
  ⟨Nat.le_trans (Tm.deps_le ht) hd, hb, (Tm.oks_iff n).mp ho t ht, Nat.le_trans (Tm.sizes_le ht) hs⟩
theorem bs_at {n : Nat} {bs : List Rat} {p : Nat} (hb : BsOk n bs) (h : p < n) : (bs.map rD)[p]? = some (rD (bs.getD p 0)) := getElem?_map_rD (by rw [hb.1]; exact h)
theorem vals_map_rD (bs : List Rat) (ts : List Tm) : (List.range ts.length).map (fun k => rD ((Tm.vals bs ts).getD k 0)) = (Tm.vals bs ts).map rD := range_map rD 0 (vals_length bs ts).symm
theorem ne_vals {bs : List Rat} {ts : List Tm} (h : 1 ≤ ts.length) : Tm.vals bs ts ≠ [] := fun z => by
  have := vals_length bs ts
  rw [z] at this
  simp at this
  omega
section
variable {P : Program} {w : World} {K : PySem.W.Frag} {mg : Str → Option Value} {base : Heap}
theorem ok_value_of (T : Txt K mg) : ∀ d, Fnc P w K mg base CX0 (4 + d) "value_of" ["term", "bids"] (spVal K d) := by
  intro d
  induction d with
  | zero =>
    refine fnc_mk (k := 3) T.f_value_of sc_value_of (fun _ _ _ _ _ _ us hl => match us, hl with | [_, _], _ => rfl) (fun _ _ => rfl) fun f cdv A outer s H Ex x E hok hw hr => ?_
    have h1 := dep_pos x.2.2
    have h2 := hok.dep
    omega
  | succ d FV =>
    have FMe := ok_mean_of (P := P) (w := w) (base := base) T
    have FMi := ok_middle (P := P) (w := w) (base := base) T
    have FR := ok_ranked_of (P := P) (w := w) (base := base) T
    have FL := ok_least_of (P := P) (w := w) (base := base) T
    have FG := ok_greatest_of (P := P) (w := w) (base := base) T
    refine fnc_mk (k := 4 + d) T.f_value_of sc_value_of (fun _ _ _ _ _ _ us hl => match us, hl with | [_, _], _ => rfl) (fun _ _ => rfl) fun f cdv A outer s H Ex x E hok hw hr => ?_
    obtain ⟨n, bs, t⟩ := x
    obtain ⟨hd, hb, ho, hs⟩ := hok
    simp only at hd hb ho hs
    have hr4 : Room 4 (A.deeper (envOfC "value_of" (defScope s_value_of) s.heap.objs.size f cdv)) := hr.mono (by omega)
    have hr3 : Room 3 (A.deeper (envOfC "value_of" (defScope s_value_of) s.heap.objs.size f cdv)) := hr.mono (by omega)
    have hr2 : Room 2 (A.deeper (envOfC "value_of" (defScope s_value_of) s.heap.objs.size f cdv)) := hr.mono (by omega)
    cases t with
    | bid p =>
      have hp : p < n := ho
      refine xss_asg 2 sc_value_of.nd (xe_ixT (d := .str "bid") (xe_d (xv 0 rfl) (toD_bid p)) xe_int (fun _ _ => rfl) rfl) ?_
      refine xss_takeS (W := "bid") (xv 2 rfl) (xss_ret (xe_is (xe_ixT (d := rD (bs.getD p 0)) (xv 1 rfl) (xe_ixT (d := .int p) (xe_d (xv 0 rfl) (toD_bid p)) xe_int (fun _ _ => rfl) rfl) (fun _ _ => rfl) (atI_of rfl (bs_at hb hp))) ?_))
      show _ = dS K (rD (Tm.val bs (.bid p)))
      rw [Tm.val]; rfl
    | fix a =>
      refine xss_asg 2 sc_value_of.nd (xe_ixT (d := .str "fixed") (xe_d (xv 0 rfl) (toD_fix a)) xe_int (fun _ _ => rfl) rfl) ?_
      refine xss_skipS (W := "fixed") (xv 2 rfl) ?_
      refine xss_takeS (W := "fixed") (xv 2 rfl) (xss_ret (xe_is (xe_ixT (d := rD a) (xe_d (xv 0 rfl) (toD_fix a)) xe_int (fun _ _ => rfl) rfl) ?_))
      show _ = dS K (rD (Tm.val bs (.fix a)))
      rw [Tm.val]; rfl
    | mean ws ts =>
      rw [Tm.dep] at hd
      rw [Tm.size] at hs
      have M := mean_ok hb ho (by omega)
      obtain ⟨h1, h2, h3, h4, h5⟩ := ho
      refine xss_asg 2 sc_value_of.nd (xe_ixT (d := .str "mean") (xe_d (xv 0 rfl) (toD_mean ws ts)) xe_int (fun _ _ => rfl) rfl) ?_
      refine xss_skipS (W := "mean") (xv 2 rfl) ?_
      refine xss_skipS (W := "mean") (xv 2 rfl) ?_
      refine xss_takeS (W := "mean") (xv 2 rfl) (xss_ret (xe_is (xe_call (ws, Tm.vals bs ts) FMe hr4 rfl pass0 M (xa_cons (xe_is (xe_tl (xe_xl1 (xl_lcx rfl (xlcP 3 4 (n := ws.length) (A := fun i => .int (ws.getD i 0 : Nat)) (B := fun i => (Tm.toDs ts).getD i .none) (g := fun i => .int (ws.getD i 0 : Nat)) sc_value_of.nd ?i1 (by omega) (fun k hk _ _ _ _ _ => xv 3 rfl) ?b1 (fun _ _ _ _ _ => pg_pair rfl sc_value_of.nd rfl rfl (.inl rfl) (.inl rfl)))))) ?e1)
        (xa_cons (xe_is (xe_tl (xe_xl1 (xl_lcx rfl (xlcP 3 4 (n := ws.length) (A := fun i => .int (ws.getD i 0 : Nat)) (B := fun i => (Tm.toDs ts).getD i .none) (g := fun k => rD ((Tm.vals bs ts).getD k 0)) sc_value_of.nd ?i2 (by omega) (fun k hk _ _ _ _ _ => xe_is (xe_call (n, bs, ts[k]'(by omega)) FV hr rfl pass0 (VOk.part hb h5 (by omega) (by omega) (List.getElem_mem _)) (xa_cons (xe_d (xv 4 rfl) (toDs_getD (by omega))) (xa_cons (xv 1 rfl) xa_nil))) ?c2) ?b2 (fun _ _ _ _ _ => pg_pair rfl sc_value_of.nd rfl rfl (.inl rfl) (.inl rfl)))))) ?e2) xa_nil))) ?fin))
      case i1 =>
        exact xi_weak (Y' := fun i => dS K (.tuple [.int (ws.getD i 0 : Nat), (Tm.toDs ts).getD i .none])) (xi_to ((xe_ixT (d := .tuple (List.zipWith wD ws (Tm.toDs ts))) (xe_d (xv 0 rfl) (toD_mean ws ts)) xe_int (fun _ _ => rfl) rfl)) (by rw [List.length_zipWith, toDs_length]; omega)) fun m i G v hm hi q => by
          rw [zip_getD (by omega) (by omega)] at q
          exact q
      case i2 =>
        exact xi_weak (Y' := fun i => dS K (.tuple [.int (ws.getD i 0 : Nat), (Tm.toDs ts).getD i .none])) (xi_to ((xe_ixT (d := .tuple (List.zipWith wD ws (Tm.toDs ts))) (xe_d (xv 0 rfl) (toD_mean ws ts)) xe_int (fun _ _ => rfl) rfl)) (by rw [List.length_zipWith, toDs_length]; omega)) fun m i G v hm hi q => by
          rw [zip_getD (by omega) (by omega)] at q
          exact q
      case b1 => exact blkOk_by (N := N_value_of) (sc := defScope s_value_of) (by decide +kernel)
      case b2 => exact blkOk_by (N := N_value_of) (sc := defScope s_value_of) (by decide +kernel)
      case e1 => exact congrArg (fun l => dS K (.list l)) (range_map (fun w : Nat => PyData.int w) 0 rfl)
      case e2 => rw [h1]; exact congrArg (fun l => dS K (.list l)) (vals_map_rD bs ts)
      case c2 => rw [vals_getD bs (by omega)]; rfl
      case fin =>
        show _ = dS K (rD (Tm.val bs (.mean ws ts)))
        rw [Tm.val]
    | between lo hi t =>
      rw [Tm.dep] at hd
      rw [Tm.size] at hs
      obtain ⟨h1, h2, h3, h4⟩ := ho
      have hv := (val_ok hb t h4).sz (by omega)
      refine xss_asg 2 sc_value_of.nd (xe_ixT (d := .str "between") (xe_d (xv 0 rfl) (toD_between lo hi t)) xe_int (fun _ _ => rfl) rfl) ?_
      refine xss_skipS (W := "between") (xv 2 rfl) ?_
      refine xss_skipS (W := "between") (xv 2 rfl) ?_
      refine xss_skipS (W := "between") (xv 2 rfl) ?_
      refine xss_takeS (W := "between") (xv 2 rfl) (xss_ret (xe_is (xe_call (lo, hi, Tm.val bs t) FMi hr3 rfl pass0 ⟨fun a ha => ?_, Nat.le_of_ble_eq_true rfl⟩ (xa_cons (xe_ixT (d := rD lo) (xe_d (xv 0 rfl) (toD_between lo hi t)) xe_int (fun _ _ => rfl) rfl) (xa_cons (xe_ixT (d := rD hi) (xe_d (xv 0 rfl) (toD_between lo hi t)) xe_int (fun _ _ => rfl) rfl)
        (xa_cons (xe_call (n, bs, t) FV hr rfl pass0 ⟨by simp only; omega, hb, h4, by simp only; omega⟩ (xa_cons (xe_ixT (d := Tm.toD t) (xe_d (xv 0 rfl) (toD_between lo hi t)) xe_int (fun _ _ => rfl) rfl) (xa_cons (xv 1 rfl) xa_nil))) xa_nil)))) ?fin))
      case fin =>
        show _ = dS K (rD (Tm.val bs (.between lo hi t)))
        rw [Tm.val]
      · simp only [List.mem_cons, List.not_mem_nil, or_false] at ha
        rcases ha with e | e | e
        · rw [e]; exact h1.sz (by decide)
        · rw [e]; exact h2.sz (by decide)
        · rw [e]; exact hv
    | least ts =>
      rw [Tm.dep] at hd
      rw [Tm.size] at hs
      obtain ⟨h1, h2, h3⟩ := ho
      have hF : Fs (Tm.vals bs ts) := fs_nq (vals_nq hb h3 (by omega)) (by rw [vals_length]; omega)
      refine xss_asg 2 sc_value_of.nd (xe_ixT (d := .str "least") (xe_d (xv 0 rfl) (toD_least ts)) xe_int (fun _ _ => rfl) rfl) ?_
      refine xss_skipS (W := "least") (xv 2 rfl) ?_
      refine xss_skipS (W := "least") (xv 2 rfl) ?_
      refine xss_skipS (W := "least") (xv 2 rfl) ?_
      refine xss_skipS (W := "least") (xv 2 rfl) ?_
      refine xss_setL 5 rfl (xlcN 4 (n := ts.length) (Y := fun i => (Tm.toDs ts).getD i .none) (fun _ => true) (fun k => rD ((Tm.vals bs ts).getD k 0)) sc_value_of.nd (xi_to (xe_ixT (d := .tuple (Tm.toDs ts)) (xe_d (xv 0 rfl) (toD_least ts)) (xe_neg xe_int) (fun _ _ => rfl) rfl) (toDs_length ts)) (by omega) (fun _ _ _ _ _ _ _ => xts_nil)
        (fun k hk _ _ _ _ _ _ => xe_is (xe_call (n, bs, ts[k]'(by omega)) FV hr rfl pass0 (VOk.part hb h3 (by omega) (by omega) (List.getElem_mem _)) (xa_cons (xe_d (xv 4 rfl) (toDs_getD (by omega))) (xa_cons (xv 1 rfl) xa_nil))) ?c2) (blkOk_by (N := N_value_of) (sc := defScope s_value_of) (by decide +kernel)) (fun _ _ _ _ _ => pg_name sc_value_of.nd rfl (.inl rfl))) rfl fun ds hds => ?_
      case c2 => rw [vals_getD bs (by omega)]; rfl
      rw [List.filter_eq_self.mpr fun _ _ => rfl, vals_map_rD] at hds
      subst hds
      refine xss_skipS (W := "least") (xv 2 rfl) ?_
      refine xss_ret (xe_if (xt_c (xc_eqS (z := "least") (xv 2 rfl) xe_str)) (fun _ => xe_is (xe_call (Tm.vals bs ts) FL hr2 rfl pass0 ⟨hF, ne_vals h1⟩ (xa_cons (xe_tl (xv 5 rfl)) xa_nil)) ?fin) fun h => absurd h (by decide +kernel))
      case fin =>
        show _ = dS K (rD (Tm.val bs (.least ts)))
        rw [Tm.val, ← leastOf_asc (ne_vals h1)]
    | greatest ts =>
      rw [Tm.dep] at hd
      rw [Tm.size] at hs
      obtain ⟨h1, h2, h3⟩ := ho
      have hF : Fs (Tm.vals bs ts) := fs_nq (vals_nq hb h3 (by omega)) (by rw [vals_length]; omega)
      refine xss_asg 2 sc_value_of.nd (xe_ixT (d := .str "greatest") (xe_d (xv 0 rfl) (toD_greatest ts)) xe_int (fun _ _ => rfl) rfl) ?_
      refine xss_skipS (W := "greatest") (xv 2 rfl) ?_
      refine xss_skipS (W := "greatest") (xv 2 rfl) ?_
      refine xss_skipS (W := "greatest") (xv 2 rfl) ?_
      refine xss_skipS (W := "greatest") (xv 2 rfl) ?_
      refine xss_setL 5 rfl (xlcN 4 (n := ts.length) (Y := fun i => (Tm.toDs ts).getD i .none) (fun _ => true) (fun k => rD ((Tm.vals bs ts).getD k 0)) sc_value_of.nd (xi_to (xe_ixT (d := .tuple (Tm.toDs ts)) (xe_d (xv 0 rfl) (toD_greatest ts)) (xe_neg xe_int) (fun _ _ => rfl) rfl) (toDs_length ts)) (by omega) (fun _ _ _ _ _ _ _ => xts_nil)
        (fun k hk _ _ _ _ _ _ => xe_is (xe_call (n, bs, ts[k]'(by omega)) FV hr rfl pass0 (VOk.part hb h3 (by omega) (by omega) (List.getElem_mem _)) (xa_cons (xe_d (xv 4 rfl) (toDs_getD (by omega))) (xa_cons (xv 1 rfl) xa_nil))) ?c2) (blkOk_by (N := N_value_of) (sc := defScope s_value_of) (by decide +kernel)) (fun _ _ _ _ _ => pg_name sc_value_of.nd rfl (.inl rfl))) rfl fun ds hds => ?_
      case c2 => rw [vals_getD bs (by omega)]; rfl
      rw [List.filter_eq_self.mpr fun _ _ => rfl, vals_map_rD] at hds
      subst hds
      refine xss_skipS (W := "greatest") (xv 2 rfl) ?_
      refine xss_ret (xe_if (xt_c (xc_eqS (z := "greatest") (xv 2 rfl) xe_str)) (fun h => absurd h (by decide +kernel)) fun _ => xe_is (xe_call (Tm.vals bs ts) FG hr2 rfl pass0 ⟨hF, ne_vals h1⟩ (xa_cons (xe_tl (xv 5 rfl)) xa_nil)) ?fin)
      case fin =>
        show _ = dS K (rD (Tm.val bs (.greatest ts)))
        rw [Tm.val, greatestOf_asc (ne_vals h1), vals_length]
    | ranked r ts =>
      rw [Tm.dep] at hd
      rw [Tm.size] at hs
      obtain ⟨h1, h2, h3, h4⟩ := ho
      have hF : Fs (Tm.vals bs ts) := fs_nq (vals_nq hb h4 (by omega)) (by rw [vals_length]; omega)
      refine xss_asg 2 sc_value_of.nd (xe_ixT (d := .str "ranked") (xe_d (xv 0 rfl) (toD_ranked r ts)) xe_int (fun _ _ => rfl) rfl) ?_
      refine xss_skipS (W := "ranked") (xv 2 rfl) ?_
      refine xss_skipS (W := "ranked") (xv 2 rfl) ?_
      refine xss_skipS (W := "ranked") (xv 2 rfl) ?_
      refine xss_skipS (W := "ranked") (xv 2 rfl) ?_
      refine xss_setL 5 rfl (xlcN 4 (n := ts.length) (Y := fun i => (Tm.toDs ts).getD i .none) (fun _ => true) (fun k => rD ((Tm.vals bs ts).getD k 0)) sc_value_of.nd (xi_to (xe_ixT (d := .tuple (Tm.toDs ts)) (xe_d (xv 0 rfl) (toD_ranked r ts)) (xe_neg xe_int) (fun _ _ => rfl) rfl) (toDs_length ts)) (by omega) (fun _ _ _ _ _ _ _ => xts_nil)
        (fun k hk _ _ _ _ _ _ => xe_is (xe_call (n, bs, ts[k]'(by omega)) FV hr rfl pass0 (VOk.part hb h4 (by omega) (by omega) (List.getElem_mem _)) (xa_cons (xe_d (xv 4 rfl) (toDs_getD (by omega))) (xa_cons (xv 1 rfl) xa_nil))) ?c2) (blkOk_by (N := N_value_of) (sc := defScope s_value_of) (by decide +kernel)) (fun _ _ _ _ _ => pg_name sc_value_of.nd rfl (.inl rfl))) rfl fun ds hds => ?_
      case c2 => rw [vals_getD bs (by omega)]; rfl
      rw [List.filter_eq_self.mpr fun _ _ => rfl, vals_map_rD] at hds
      subst hds
      refine xss_takeS (W := "ranked") (xv 2 rfl) (xss_ret (xe_is (xe_call (r, Tm.vals bs ts) FR hr3 rfl pass0 ⟨hF, h1, by simp only [vals_length]; omega⟩ (xa_cons (xe_ixT (d := .int r) (xe_d (xv 0 rfl) (toD_ranked r ts)) xe_int (fun _ _ => rfl) rfl) (xa_cons (xe_tl (xv 5 rfl)) xa_nil))) ?fin))
      case fin =>
        show _ = dS K (rD (Tm.val bs (.ranked r ts)))
        rw [Tm.val, vals_length]
end
end K81
end

section
set_option Elab.async false
set_option linter.all false
set_option maxRecDepth 100000
namespace K81
open PySem PySem.Spec PyProof.Rows L2
theorem filter_len {α : Type} (p : α → Bool) (xs : List α) (d : α) : ((List.range xs.length).filter fun k => p (xs.getD k d)).length = (xs.filter p).length := by
  have e : xs.filter p = (((List.range xs.length).map fun k => xs.getD k d).filter p) := by rw [range_getD]
  rw [e, List.filter_map, List.length_map]
  rfl
theorem atI_neg1 {α : Type} {xs : List α} {n : Nat} (hl : xs.length = n) (h : 1 ≤ n) : atI xs (-(1 : Int)) = xs[n - 1]? := by
  subst hl
  unfold atI
  have e : ixN xs.length (-(1 : Int)) = some (xs.length - 1) := by
    unfold ixN
    rw [if_neg (by omega), if_pos (by omega)]
    congr 1
    omega
  rw [e]
  rfl
theorem rD_one_div {s : Nat} (h : 0 < s) : rD (1 / (s : Rat)) = .tuple [.int 1, .int s] := by
  unfold rD
  rw [(one_div h).1, (one_div h).2]
section
variable {P : Program} {w : World} {K : PySem.W.Frag} {mg : Str → Option Value} {base : Heap}
theorem ok_Lsorted (T : Txt K mg) : Fnc P w K mg base CX0 2 "_law_sorted" ["_law_numbers"] (PrL K (fun _ => w0) Fs (fun xs => [dS K (.list (xs.map rD))]) (fun xs ds => ds = (asc xs).map rD)) := by
  have F := ok_Lless (P := P) (w := w) (base := base) T
  refine fnc_mkL T.f_Lsorted sc_Lsorted (fun _ _ _ _ _ _ us hl => match us, hl with | [_], _ => rfl) (fun _ _ => rfl) fun f cdv A outer s H Ex xs E hok hw hr => ?_
  -- found = []
  refine xss_asgL 1 sc_Lsorted.nd (xl_lst [] xa_nil) fun ds hds => ?_
  subst hds
  refine xss_for (ι := Unit) (gv := [2]) (fun i _ => True) (fun i _ => [.dat (dS K (.list (xs.map rD))), .own 0, .no, .no, .no]) (fun i _ => [(lasc (xs.take i)).map rD])
    (fun i _ => [.dat (dS K (.list (xs.map rD))), .own 0, .dat (dS K (rD (xs.getD i 0))), .no, .no]) .never rfl (xi_rats (xs := xs) (xv 0 rfl)) (pg_name sc_Lsorted.nd rfl (.inr rfl)) (fun i y _ k hk => by simp at hk; rw [hk]; exact Nat.le_of_ble_eq_true rfl) (fun n i y _ _ _ => gs_name) ⟨(), True.intro, rfl, rfl⟩ (fun n i y g0 hn hi _ => ?_)
    (Mid := Sta K E [.dat (dS K (.list (xs.map rD))), .own 0, .no, .no, .no] [(asc xs).map rD] []) (fun n y hn _ σ H h => ?_) ?_
  · subst hn
    have hA : Fs (lasc (xs.take i)) := by rw [lasc_eq]; exact (hok.take i).asc
    have hsz : Sz 4000 (xs.getD i 0) := hok.at_ hi
    have hc : cntA (xs.getD i 0) (lasc (xs.take i)) ≤ (lasc (xs.take i)).length := List.length_filter_le _ _
    have hl := hA.2
    refine xss_asgF 3 sc_Lsorted.nd (n := (cntA (xs.getD i 0) (lasc (xs.take i)) : Nat)) (xe_d (xe_lenL rfl T.b_len (xe_tl (xe_xl1 (xl_lcx rfl (xlcN 4 (n := (lasc (xs.take i)).length) (Y := fun k => rD ((lasc (xs.take i)).getD k 0)) (fun k => !decide (xs.getD i 0 < (lasc (xs.take i)).getD k 0)) (fun k => rD ((lasc (xs.take i)).getD k 0)) sc_Lsorted.nd (xi_rats (xe_tl (xv 1 rfl))) (by omega)
      (fun k hk _ _ _ _ _ => xts_one (xt_not (xt_val (xe_call (xs.getD i 0, (lasc (xs.take i)).getD k 0) F hr rfl pass0 ⟨hsz, hA.at_ hk⟩ (xa_cons (xv 2 rfl) (xa_cons (xv 4 rfl) xa_nil))))))
      (fun k hk _ _ _ _ _ _ => xv 4 rfl) (blkOk_by (N := N_Lsorted) (sc := defScope s_Lsorted) (by decide +kernel)) (fun _ _ _ _ _ => pg_name sc_Lsorted.nd rfl (.inl rfl))))))) (by rw [List.length_map, filter_len (fun o => !decide (xs.getD i 0 < o))]; rfl)) ?_
    refine xss_insert (i := 1) (k := 0) (pe_bm PySem.F.plainAttrs_list PySem.F.slot_list_insert PySem.F.type_list_insert mt_insert (pv 1) (xa_cons (xv 3 rfl) (xa_cons (xv 2 rfl) xa_nil))) rfl rfl (by rw [List.length_map]; omega) (by omega) (xss_nil fun σ H q => ⟨(), True.intro, by
        rw [lasc_take hi, ← insA_map]
        exact sta_sub (.same (.same (.no (.no (.no .nil))))) q⟩)
  · subst hn
    rw [List.take_length, lasc_eq] at h
    exact h
  · exact xss_retOwn (P := fun ds => ds = (asc xs).map rD) 1 rfl rfl rfl
set_option maxHeartbeats 1000000 in
theorem ok_Lvalue (T : Txt K mg) : ∀ d, Fnc P w K mg base CX0 (2 + d) "_law_value" ["_law_term_here", "_law_bids"] (spVal K d) := by
  intro d
  induction d with
  | zero =>
    refine fnc_mk (k := 1) T.f_Lvalue sc_Lvalue (fun _ _ _ _ _ _ us hl => match us, hl with | [_, _], _ => rfl) (fun _ _ => rfl) fun f cdv A outer s H Ex x E hok hw hr => ?_
    have h1 := dep_pos x.2.2
    have h2 := hok.dep
    omega
  | succ d FV =>
    have FS := ok_Lsum (P := P) (w := w) (base := base) T
    have FP := ok_Lproduct (P := P) (w := w) (base := base) T
    have FO := ok_Lsorted (P := P) (w := w) (base := base) T
    refine fnc_mk (k := 2 + d) T.f_Lvalue sc_Lvalue (fun _ _ _ _ _ _ us hl => match us, hl with | [_, _], _ => rfl) (fun _ _ => rfl) fun f cdv A outer s H Ex x E hok hw hr => ?_
    obtain ⟨n, bs, t⟩ := x
    obtain ⟨hd, hb, ho, hs⟩ := hok
    simp only at hd hb ho hs
    have hr2 : Room 2 (A.deeper (envOfC "_law_value" (defScope s_Lvalue) s.heap.objs.size f cdv)) := hr.mono (by omega)
    cases t with
    | bid p =>
      have hp : p < n := ho
      refine xss_asg 2 sc_Lvalue.nd (xe_ixT (d := .str "bid") (xe_d (xv 0 rfl) (toD_bid p)) xe_int (fun _ _ => rfl) rfl) ?_
      refine xss_takeS (W := "bid") (xv 2 rfl) (xss_ret (xe_is (xe_ixT (d := rD (bs.getD p 0)) (xv 1 rfl) (xe_ixT (d := .int p) (xe_d (xv 0 rfl) (toD_bid p)) xe_int (fun _ _ => rfl) rfl) (fun _ _ => rfl) (atI_of rfl (bs_at hb hp))) ?_))
      show _ = dS K (rD (Tm.val bs (.bid p)))
      rw [Tm.val]; rfl
    | fix a =>
      refine xss_asg 2 sc_Lvalue.nd (xe_ixT (d := .str "fixed") (xe_d (xv 0 rfl) (toD_fix a)) xe_int (fun _ _ => rfl) rfl) ?_
      refine xss_skipS (W := "fixed") (xv 2 rfl) ?_
      refine xss_takeS (W := "fixed") (xv 2 rfl) (xss_ret (xe_is (xe_ixT (d := rD a) (xe_d (xv 0 rfl) (toD_fix a)) xe_int (fun _ _ => rfl) rfl) ?_))
      show _ = dS K (rD (Tm.val bs (.fix a)))
      rw [Tm.val]; rfl
    | mean ws ts =>
      rw [Tm.dep] at hd
      rw [Tm.size] at hs
      have M := mean_ok hb ho (by omega)
      obtain ⟨h1, h2, h3, h4, h5⟩ := ho
      have hws : ws.length = (Tm.vals bs ts).length := M.len
      refine xss_asg 2 sc_Lvalue.nd (xe_ixT (d := .str "mean") (xe_d (xv 0 rfl) (toD_mean ws ts)) xe_int (fun _ _ => rfl) rfl) ?_
      refine xss_skipS (W := "mean") (xv 2 rfl) ?_
      refine xss_skipS (W := "mean") (xv 2 rfl) ?_
      refine xss_takeS (W := "mean") (xv 2 rfl) ?_
      refine xss_asg 3 sc_Lvalue.nd (xe_d (xe_tup [.int 0, .int 1] (xa_cons xe_int (xa_cons xe_int xa_nil))) rD0.symm) ?_
      refine xss_for (ι := Unit) (gv := [4, 5]) (fun i _ => True) (fun i _ => [.dat (dS K (Tm.toD (.mean ws ts))), .dat (dS K (.tuple (bs.map rD))), .dat (dS K (.str "mean")), .dat (dS K (rD (runM ws (Tm.vals bs ts) i))), .no, .no, .no]) (fun _ _ => [])
        (fun i _ => [.dat (dS K (Tm.toD (.mean ws ts))), .dat (dS K (.tuple (bs.map rD))), .dat (dS K (.str "mean")), .dat (dS K (rD (runM ws (Tm.vals bs ts) i))), .dat (dS K (.int (ws.getD i 0 : Nat))), .dat (dS K ((Tm.toDs ts).getD i .none)), .no]) .never rfl
        (xi_weak (Y' := fun i => dS K (.tuple [.int (ws.getD i 0 : Nat), (Tm.toDs ts).getD i .none])) (xi_to (n := ws.length) ((xe_ixT (d := .tuple (List.zipWith wD ws (Tm.toDs ts))) (xe_d (xv 0 rfl) (toD_mean ws ts)) xe_int (fun _ _ => rfl) rfl)) (by rw [List.length_zipWith, toDs_length]; omega)) fun m i G v hm hi q => ?_)
        (pg_pair rfl sc_Lvalue.nd rfl rfl (.inl rfl) (.inl rfl)) (fun i y _ k hk => ?_) (fun n i y _ _ _ => gs_pair (X := cx0 P w K mg base N_Lvalue "_law_value" (defScope s_Lvalue) f cdv A outer s H Ex)) ⟨(), True.intro, rfl, rfl⟩ (fun m i y g0 hn hi _ => ?_)
        (Mid := Sta K E [.dat (dS K (Tm.toD (.mean ws ts))), .dat (dS K (.tuple (bs.map rD))), .dat (dS K (.str "mean")), .dat (dS K (rD (runM ws (Tm.vals bs ts) (Tm.vals bs ts).length))), .no, .no, .no] [] []) (fun m y hn _ σ H h => ?_) ?_
      · rw [zip_getD (by omega) (by omega)] at q
        exact q
      · rcases List.mem_cons.mp hk with e | hk
        · rw [e]; exact Nat.le_of_ble_eq_true rfl
        · rw [List.mem_singleton.mp hk]; exact Nat.le_of_ble_eq_true rfl
      · subst hn
        have hi2 : i < (Tm.vals bs ts).length := by omega
        have hi3 : i < ts.length := by omega
        refine xss_asg 3 sc_Lvalue.nd (xe_call (runM ws (Tm.vals bs ts) i, ((ws.getD i 0 : Nat) : Rat) * (Tm.vals bs ts).getD i 0) FS hr2 rfl pass0 ⟨M.run (by omega), M.part hi⟩ (xa_cons (xv 3 rfl) (xa_cons (xe_call (((ws.getD i 0 : Nat) : Rat), (Tm.vals bs ts).getD i 0) FP hr2 rfl pass0 ⟨M.wsz hi, (M.at_ hi2).sz (Nat.le_refl _)⟩
          (xa_cons (xe_d (xe_tup [.int (ws.getD i 0 : Nat), .int 1] (xa_cons (xv 4 rfl) (xa_cons xe_int xa_nil))) (rD_nat _).symm) (xa_cons (xe_is (xe_call (n, bs, ts[i]'hi3) FV hr rfl pass0 (VOk.part hb h5 (by omega) (by omega) (List.getElem_mem _)) (xa_cons (xe_d (xv 5 rfl) (toDs_getD hi3)) (xa_cons (xv 1 rfl) xa_nil))) ?cv) xa_nil))) (xa_cons xe_int xa_nil)))) (xss_nil fun σ H q => ⟨(), True.intro, sta_sub ?_ q⟩)
        case cv => rw [vals_getD bs hi3]
        rw [runM_succ hi hi2]
        exact .same (.same (.same (.same (.no (.no (.no .nil))))))
      · subst hn
        rw [hws] at h
        exact h
      · have hs0 := sum_pos M.w M.pos
        refine xss_ret (xe_is (xe_call (runM ws (Tm.vals bs ts) (Tm.vals bs ts).length, 1 / (ws.sum : Rat)) FP hr2 rfl pass0 ⟨by exact M.run (by omega), M.one⟩ (xa_cons (xv 3 rfl) (xa_cons (xe_d (xe_tup [.int 1, .int (ws.sum : Nat)] (xa_cons xe_int (xa_cons (xe_d (xe_sum (ns := ws.map fun w : Nat => (w : Int)) rfl rfl T.b_sum (xe_is (xe_tl (xe_xl1 (xl_lcx rfl (xlcP 4 5 (n := ws.length) (A := fun i => .int (ws.getD i 0 : Nat)) (B := fun i => (Tm.toDs ts).getD i .none) (g := fun i => .int (ws.getD i 0 : Nat)) sc_Lvalue.nd ?i1 (by omega) (fun k hk _ _ _ _ _ => xv 4 rfl) ?b1 (fun _ _ _ _ _ => pg_pair rfl sc_Lvalue.nd rfl rfl (.inl rfl) (.inl rfl)))))) ?e1)) (congrArg PyData.int (map_int_sum ws))) xa_nil))) (rD_one_div hs0).symm) xa_nil))) ?fin)
        case i1 =>
          exact xi_weak (Y' := fun i => dS K (.tuple [.int (ws.getD i 0 : Nat), (Tm.toDs ts).getD i .none])) (xi_to ((xe_ixT (d := .tuple (List.zipWith wD ws (Tm.toDs ts))) (xe_d (xv 0 rfl) (toD_mean ws ts)) xe_int (fun _ _ => rfl) rfl)) (by rw [List.length_zipWith, toDs_length]; omega)) fun m i G v hm hi q => by
            rw [zip_getD (by omega) (by omega)] at q
            exact q
        case b1 => exact blkOk_by (N := N_Lvalue) (sc := defScope s_Lvalue) (by decide +kernel)
        case e1 =>
          refine congrArg (fun l => dS K (.list l)) ?_
          rw [range_map (fun w : Nat => PyData.int w) 0 rfl, List.map_map]
          rfl
        case fin =>
          show _ = dS K (rD (Tm.val bs (.mean ws ts)))
          rw [Tm.val, ← M.whole]
    | between lo hi t =>
      rw [Tm.dep] at hd
      rw [Tm.size] at hs
      obtain ⟨h1, h2, h3, h4⟩ := ho
      have hv := (val_ok hb t h4).sz (by omega)
      have hF : Fs [lo, hi, Tm.val bs t] := ⟨fun a ha => by
        simp only [List.mem_cons, List.not_mem_nil, or_false] at ha
        rcases ha with e | e | e
        · rw [e]; exact h1.sz (by decide)
        · rw [e]; exact h2.sz (by decide)
        · rw [e]; exact hv, Nat.le_of_ble_eq_true rfl⟩
      refine xss_asg 2 sc_Lvalue.nd (xe_ixT (d := .str "between") (xe_d (xv 0 rfl) (toD_between lo hi t)) xe_int (fun _ _ => rfl) rfl) ?_
      refine xss_skipS (W := "between") (xv 2 rfl) ?_
      refine xss_skipS (W := "between") (xv 2 rfl) ?_
      refine xss_skipS (W := "between") (xv 2 rfl) ?_
      refine xss_takeS (W := "between") (xv 2 rfl) (xss_ret (xe_is (xe_ixL (d := rD ((asc [lo, hi, Tm.val bs t]).getD 1 0)) (xe_tl (xe_callL [lo, hi, Tm.val bs t] _ FO hr2 rfl pass0 hF (xa_cons (xe_tl (xe_xl1 (xl_lst [rD lo, rD hi, rD (Tm.val bs t)] (xa_cons (xe_ixT (d := rD lo) (xe_d (xv 0 rfl) (toD_between lo hi t)) xe_int (fun _ _ => rfl) rfl) (xa_cons (xe_ixT (d := rD hi) (xe_d (xv 0 rfl) (toD_between lo hi t)) xe_int (fun _ _ => rfl) rfl)
        (xa_cons (xe_call (n, bs, t) FV hr rfl pass0 ⟨by simp only; omega, hb, h4, by simp only; omega⟩ (xa_cons (xe_ixT (d := Tm.toD t) (xe_d (xv 0 rfl) (toD_between lo hi t)) xe_int (fun _ _ => rfl) rfl) (xa_cons (xv 1 rfl) xa_nil))) xa_nil)))))) xa_nil) (fun _ h => h))) xe_int (fun _ _ => rfl) (atI_of (j := 1) rfl (getElem?_map_rD (by rw [asc_length]; exact Nat.le_of_ble_eq_true rfl)))) ?fin))
      case fin =>
        show _ = dS K (rD (Tm.val bs (.between lo hi t)))
        rw [Tm.val]; rfl
    | least ts =>
      rw [Tm.dep] at hd
      rw [Tm.size] at hs
      obtain ⟨h1, h2, h3⟩ := ho
      have hF : Fs (Tm.vals bs ts) := fs_nq (vals_nq hb h3 (by omega)) (by rw [vals_length]; omega)
      refine xss_asg 2 sc_Lvalue.nd (xe_ixT (d := .str "least") (xe_d (xv 0 rfl) (toD_least ts)) xe_int (fun _ _ => rfl) rfl) ?_
      refine xss_skipS (W := "least") (xv 2 rfl) ?_
      refine xss_skipS (W := "least") (xv 2 rfl) ?_
      refine xss_skipS (W := "least") (xv 2 rfl) ?_
      refine xss_skipS (W := "least") (xv 2 rfl) ?_
      refine xss_asg 6 sc_Lvalue.nd (xe_tl (xe_callL (Tm.vals bs ts) _ FO hr2 rfl pass0 hF (xa_cons (xe_is (xe_tl (xe_xl1 (xl_lcx rfl (xlcN 5 (n := ts.length) (Y := fun i => (Tm.toDs ts).getD i .none) (fun _ => true) (fun k => rD ((Tm.vals bs ts).getD k 0)) sc_Lvalue.nd (xi_to (xe_ixT (d := .tuple (Tm.toDs ts)) (xe_d (xv 0 rfl) (toD_least ts)) (xe_neg xe_int) (fun _ _ => rfl) rfl) (toDs_length ts)) (by omega) (fun _ _ _ _ _ _ _ => xts_nil)
        (fun k hk _ _ _ _ _ _ => xe_is (xe_call (n, bs, ts[k]'(by omega)) FV hr rfl pass0 (VOk.part hb h3 (by omega) (by omega) (List.getElem_mem _)) (xa_cons (xe_d (xv 5 rfl) (toDs_getD (by omega))) (xa_cons (xv 1 rfl) xa_nil))) ?c2) (blkOk_by (N := N_Lvalue) (sc := defScope s_Lvalue) (by decide +kernel)) (fun _ _ _ _ _ => pg_name sc_Lvalue.nd rfl (.inl rfl)))))) ?e2) xa_nil) (fun _ h => h))) ?_
      case c2 => rw [vals_getD bs (by omega)]; rfl
      case e2 =>
        rw [List.filter_eq_self.mpr fun _ _ => rfl, vals_map_rD]
        rfl
      refine xss_takeS (W := "least") (xv 2 rfl) (xss_ret (xe_is (xe_ixL (d := rD ((asc (Tm.vals bs ts)).getD 0 0)) (xv 6 rfl) xe_int (fun _ _ => rfl) (atI_of (j := 0) rfl (getElem?_map_rD (by rw [asc_length, vals_length]; omega)))) ?fin))
      case fin =>
        show _ = dS K (rD (Tm.val bs (.least ts)))
        rw [Tm.val]; rfl
    | greatest ts =>
      rw [Tm.dep] at hd
      rw [Tm.size] at hs
      obtain ⟨h1, h2, h3⟩ := ho
      have hF : Fs (Tm.vals bs ts) := fs_nq (vals_nq hb h3 (by omega)) (by rw [vals_length]; omega)
      refine xss_asg 2 sc_Lvalue.nd (xe_ixT (d := .str "greatest") (xe_d (xv 0 rfl) (toD_greatest ts)) xe_int (fun _ _ => rfl) rfl) ?_
      refine xss_skipS (W := "greatest") (xv 2 rfl) ?_
      refine xss_skipS (W := "greatest") (xv 2 rfl) ?_
      refine xss_skipS (W := "greatest") (xv 2 rfl) ?_
      refine xss_skipS (W := "greatest") (xv 2 rfl) ?_
      refine xss_asg 6 sc_Lvalue.nd (xe_tl (xe_callL (Tm.vals bs ts) _ FO hr2 rfl pass0 hF (xa_cons (xe_is (xe_tl (xe_xl1 (xl_lcx rfl (xlcN 5 (n := ts.length) (Y := fun i => (Tm.toDs ts).getD i .none) (fun _ => true) (fun k => rD ((Tm.vals bs ts).getD k 0)) sc_Lvalue.nd (xi_to (xe_ixT (d := .tuple (Tm.toDs ts)) (xe_d (xv 0 rfl) (toD_greatest ts)) (xe_neg xe_int) (fun _ _ => rfl) rfl) (toDs_length ts)) (by omega) (fun _ _ _ _ _ _ _ => xts_nil)
        (fun k hk _ _ _ _ _ _ => xe_is (xe_call (n, bs, ts[k]'(by omega)) FV hr rfl pass0 (VOk.part hb h3 (by omega) (by omega) (List.getElem_mem _)) (xa_cons (xe_d (xv 5 rfl) (toDs_getD (by omega))) (xa_cons (xv 1 rfl) xa_nil))) ?c2) (blkOk_by (N := N_Lvalue) (sc := defScope s_Lvalue) (by decide +kernel)) (fun _ _ _ _ _ => pg_name sc_Lvalue.nd rfl (.inl rfl)))))) ?e2) xa_nil) (fun _ h => h))) ?_
      case c2 => rw [vals_getD bs (by omega)]; rfl
      case e2 =>
        rw [List.filter_eq_self.mpr fun _ _ => rfl, vals_map_rD]
        rfl
      refine xss_skipS (W := "greatest") (xv 2 rfl) ?_
      refine xss_takeS (W := "greatest") (xv 2 rfl) (xss_ret (xe_is (xe_ixL (d := rD ((asc (Tm.vals bs ts)).getD (ts.length - 1) 0)) (xv 6 rfl) (xe_neg xe_int) (fun _ _ => rfl) ?at1) ?fin))
      case at1 =>
        have hl : ((asc (Tm.vals bs ts)).map rD).length = ts.length := by rw [List.length_map, asc_length, vals_length]
        rw [← getElem?_map_rD (xs := asc (Tm.vals bs ts)) (j := ts.length - 1) (by rw [asc_length, vals_length]; omega)]
        exact atI_neg1 hl h1
      case fin =>
        show _ = dS K (rD (Tm.val bs (.greatest ts)))
        rw [Tm.val]; rfl
    | ranked r ts =>
      rw [Tm.dep] at hd
      rw [Tm.size] at hs
      obtain ⟨h1, h2, h3, h4⟩ := ho
      have hF : Fs (Tm.vals bs ts) := fs_nq (vals_nq hb h4 (by omega)) (by rw [vals_length]; omega)
      refine xss_asg 2 sc_Lvalue.nd (xe_ixT (d := .str "ranked") (xe_d (xv 0 rfl) (toD_ranked r ts)) xe_int (fun _ _ => rfl) rfl) ?_
      refine xss_skipS (W := "ranked") (xv 2 rfl) ?_
      refine xss_skipS (W := "ranked") (xv 2 rfl) ?_
      refine xss_skipS (W := "ranked") (xv 2 rfl) ?_
      refine xss_skipS (W := "ranked") (xv 2 rfl) ?_
      refine xss_asg 6 sc_Lvalue.nd (xe_tl (xe_callL (Tm.vals bs ts) _ FO hr2 rfl pass0 hF (xa_cons (xe_is (xe_tl (xe_xl1 (xl_lcx rfl (xlcN 5 (n := ts.length) (Y := fun i => (Tm.toDs ts).getD i .none) (fun _ => true) (fun k => rD ((Tm.vals bs ts).getD k 0)) sc_Lvalue.nd (xi_to (xe_ixT (d := .tuple (Tm.toDs ts)) (xe_d (xv 0 rfl) (toD_ranked r ts)) (xe_neg xe_int) (fun _ _ => rfl) rfl) (toDs_length ts)) (by omega) (fun _ _ _ _ _ _ _ => xts_nil)
        (fun k hk _ _ _ _ _ _ => xe_is (xe_call (n, bs, ts[k]'(by omega)) FV hr rfl pass0 (VOk.part hb h4 (by omega) (by omega) (List.getElem_mem _)) (xa_cons (xe_d (xv 5 rfl) (toDs_getD (by omega))) (xa_cons (xv 1 rfl) xa_nil))) ?c2) (blkOk_by (N := N_Lvalue) (sc := defScope s_Lvalue) (by decide +kernel)) (fun _ _ _ _ _ => pg_name sc_Lvalue.nd rfl (.inl rfl)))))) ?e2) xa_nil) (fun _ h => h))) ?_
      case c2 => rw [vals_getD bs (by omega)]; rfl
      case e2 =>
        rw [List.filter_eq_self.mpr fun _ _ => rfl, vals_map_rD]
        rfl
      refine xss_skipS (W := "ranked") (xv 2 rfl) ?_
      refine xss_skipS (W := "ranked") (xv 2 rfl) ?_
      refine xss_ret (xe_is (xe_ixL (d := rD ((asc (Tm.vals bs ts)).getD (ts.length - r) 0)) (xv 6 rfl) (xe_sub (xe_lenL rfl T.b_len (xv 6 rfl)) (xe_ixT (d := .int r) (xe_d (xv 0 rfl) (toD_ranked r ts)) xe_int (fun _ _ => rfl) rfl)) (fun _ _ => rfl) (atI_of (j := ts.length - r) (by rw [List.length_map, asc_length, vals_length]; omega) (getElem?_map_rD (by rw [asc_length, vals_length]; omega)))) ?fin)
      case fin =>
        show _ = dS K (rD (Tm.val bs (.ranked r ts)))
        rw [Tm.val]; rfl
end
end K81
end

section
set_option Elab.async false
set_option linter.all false
set_option maxRecDepth 100000
/-! Rules over lists and tuples of data: +, *, in, sorted, enumerate. -/
namespace K81
open PySem PySem.Spec PyProof.Rows L2
/-! ### lots -/
def lotD (l : List Nat) : PyData := .tuple (l.map fun p : Nat => .int p)
def lotsD (ls : List (List Nat)) : List PyData := ls.map lotD
theorem lotD_int (l : List Nat) : lotD l = .tuple ((l.map fun p : Nat => (p : Int)).map .int) := by unfold lotD; rw [List.map_map]; rfl
section
variable {X : Cx} {w : Wd} {ρ : Rho} {a b e : Expr} {p pos : Pos} {i : Int} {ds es : List PyData} {lot : List Nat} {ls : List (List Nat)}
theorem dpa_nil {K : PySem.W.Frag} {G : Hp} {ds : List PyData} (h : DpAll K G [] ds) : ds = [] := by cases h; rfl
theorem xe_cat (ha : XE X w a ρ (dS X.K (.tuple ds))) (hb : XE X w b ρ (dS X.K (.tuple es))) (hz : ds.length + es.length ≤ 1000) : XE X w (.BinOp a .Add b pos) ρ (dS X.K (.tuple (ds ++ es))) :=
  xe_op op_catA ha hb fun G H x y Q hB hx hy k => by
    obtain ⟨p, xs, rfl, h1, h2⟩ := dpTup hx
    obtain ⟨q, ys, rfl, h3, h4⟩ := dpTup hy
    refine ⟨p, q, xs, ys, rfl, rfl, ex_t hB.sub h1, ex_t hB.sub h3, by rw [h2.len, h4.len, sizeLine_eq]; omega, fun e => ?_, fun _ e => ?_, fun _ _ r hr => ?_⟩
    · subst e
      rw [dpa_nil h2] at k
      exact nx0 k hB hy
    · subst e
      rw [dpa_nil h4, List.append_nil] at k
      exact nx0 k hB hx
    · exact k _ _ _ (.new1 hB hr) (.tup (SqT.of upd_same) (dpAll_mono (.new (hB.sub.free hr)) _ _ (dpa_append h2 h4)))
theorem xl_catL (ha : XE X w a ρ (tlS X.K ds)) (hb : XE X w b ρ (tlS X.K es)) (hz : ds.length + es.length ≤ 1000) : XL X w (.BinOp a .Add b pos) ρ (· = ds ++ es) :=
  pe_to (pe_op op_cat (pe_x ha) (pe_x hb)) fun σ H Q ⟨G, hE, hB, q⟩ => tX_then hE hB fun x G1 H1 A1 hx => tX_then (hE.mono A1.g) (hB.aft A1) fun y G2 H2 A2 hy => by
    obtain ⟨l, xs, rfl, h1, h2⟩ := (tlS X.K ds).mono A2.g hx
    obtain ⟨m, ys, rfl, h3, h4⟩ := hy
    have B2 := (hB.aft A1).aft A2
    exact ⟨l, m, xs, ys, rfl, rfl, B2.sub _ _ h1, B2.sub _ _ h3, by rw [h2.len, h4.len, sizeLine_eq]; omega, fun r hr => q r (xs ++ ys) (ds ++ es) G2 _ ((A1.trans hB A2).trans hB (.newH B2 hr)) (A1.back (A2.back hr)) (B2.sub.free hr) upd_same (dpa_append h2 h4) rfl⟩
theorem inV_int (n : Nat) (l : List Nat) : inV (.int n) ((l.map fun p : Nat => (p : Int)).map V.int) = decide (n ∈ l) := by
  unfold inV
  rw [List.map_map, List.any_map]
  have e : ((fun y => eqV y (V.int n)) ∘ V.int ∘ fun p : Nat => (p : Int)) = fun p : Nat => decide (p = n) := by
    funext p
    show (((p : Int)) == (n : Int)) = decide (p = n)
    rw [Bool.beq_eq_decide_eq]
    exact decide_eq_decide.mpr (by omega)
  rw [e]
  by_cases h : n ∈ l
  · rw [decide_eq_true h]; exact List.any_eq_true.mpr ⟨n, h, by simp⟩
  · rw [decide_eq_false h]; exact List.any_eq_false.mpr fun x hx => by simp; intro z; subst z; exact h hx
theorem flat_ints (l : List Int) : (l.map V.int).all flatV = true := by rw [List.all_map]; exact List.all_eq_true.mpr fun _ _ => rfl
theorem xc_inP {n : Nat} (ha : XE X w a ρ (dS X.K (.int n))) (hb : XE X w b ρ (dS X.K (lotD lot))) (hm : behindInMarks .In b = false := by rfl) : XC X w .In a b ρ (dS X.K (.bool (decide (n ∈ lot)))) :=
  ⟨_, _, _, op_in_seq, ha, hb, hm, fun G H x y Q hB hx hy k => by
    rw [lotD_int] at hy
    obtain ⟨p, xs, rfl, h1, h2⟩ := dpTup hy
    rw [dpInts h2] at h1
    rw [dpInt hx]
    refine ⟨p, _, rfl, .inr (ex_t hB.sub h1), rfl, flat_ints _, ?_⟩
    rw [inV_int]
    exact nx0 k hB (.bl _)⟩
theorem xc_notInP {n : Nat} (ha : XE X w a ρ (dS X.K (.int n))) (hb : XE X w b ρ (dS X.K (lotD lot))) (hm : behindInMarks .NotIn b = false := by rfl) : XC X w .NotIn a b ρ (dS X.K (.bool (!decide (n ∈ lot)))) :=
  ⟨_, _, _, op_notIn_seq, ha, hb, hm, fun G H x y Q hB hx hy k => by
    rw [lotD_int] at hy
    obtain ⟨p, xs, rfl, h1, h2⟩ := dpTup hy
    rw [dpInts h2] at h1
    rw [dpInt hx]
    refine ⟨p, _, rfl, .inr (ex_t hB.sub h1), rfl, flat_ints _, ?_⟩
    show Q (.bl (!inV _ _)) H
    rw [inV_int]
    exact nx0 k hB (.bl _)⟩
theorem xc_inD {d : PyData} (hu : X.A.units + 65 < cLine) (ha : XE X w a ρ (dS X.K d)) (hb : XE X w b ρ (dS X.K (.list ds))) (h1 : SeqAt.shaped d = true) (h2 : SeqAt.shaped (.list ds) = true) (hm : behindInMarks .In b = false := by rfl) : XC X w .In a b ρ (dS X.K (.bool (ds.any fun z => PyData.eqv z d))) :=
  ⟨_, _, _, op_inD hu, ha, hb, hm, fun G H x y Q hB hx hy k => ⟨d, ds, dp_mono hB.sub _ _ hx, dp_mono hB.sub _ _ hy, h1, h2, nx0 k hB (.bl _)⟩⟩
theorem xc_notInD {d : PyData} (hu : X.A.units + 65 < cLine) (ha : XE X w a ρ (dS X.K d)) (hb : XE X w b ρ (dS X.K (.list ds))) (h1 : SeqAt.shaped d = true) (h2 : SeqAt.shaped (.list ds) = true) (hm : behindInMarks .NotIn b = false := by rfl) : XC X w .NotIn a b ρ (dS X.K (.bool (!ds.any fun z => PyData.eqv z d))) :=
  ⟨_, _, _, op_notInD hu, ha, hb, hm, fun G H x y Q hB hx hy k => ⟨d, ds, dp_mono hB.sub _ _ hx, dp_mono hB.sub _ _ hy, h1, h2, nx0 k hB (.bl _)⟩⟩
/-! ### sorted -/
theorem dpa_perm {K : PySem.W.Frag} {G : Hp} {ys xs : List V} (h : ys.Perm xs) : ∀ {ds : List PyData}, DpAll K G xs ds → ∃ es, es.Perm ds ∧ DpAll K G ys es := by
  induction h with
  | nil => intro ds h; cases h; exact ⟨[], .refl _, .nil⟩
  | cons x _ ih =>
    intro ds h
    cases h with
    | cons h1 h2 =>
      obtain ⟨es, p, q⟩ := ih h2
      exact ⟨_, .cons _ p, .cons h1 q⟩
  | swap x y l =>
    intro ds h
    cases h with
    | cons h1 h2 =>
      cases h2 with
      | cons h2 h3 => exact ⟨_, .swap _ _ _, .cons h2 (.cons h1 h3)⟩
  | trans _ _ ih1 ih2 =>
    intro ds h
    obtain ⟨es, p, q⟩ := ih2 h
    obtain ⟨fs, p2, q2⟩ := ih1 q
    exact ⟨fs, p2.trans p, q2⟩
theorem perm_unmap {α β : Type} {f : α → β} {es : List β} {ls : List α} (h : es.Perm (ls.map f)) : ∃ ks : List α, ks.Perm ls ∧ es = ks.map f := by
  generalize hx : ls.map f = xs at h
  induction h generalizing ls with
  | nil =>
    have : ls = [] := List.map_eq_nil_iff.mp hx
    subst this
    exact ⟨[], .refl _, rfl⟩
  | cons x _ ih =>
    cases ls with
    | nil => cases hx
    | cons l ls =>
      rw [List.map_cons] at hx
      injection hx with h1 h2
      obtain ⟨ks, p, q⟩ := ih h2
      exact ⟨l :: ks, .cons l p, by rw [List.map_cons, h1, q]⟩
  | swap x y l =>
    cases ls with
    | nil => cases hx
    | cons a ls =>
      cases ls with
      | nil => cases hx
      | cons b ls =>
        rw [List.map_cons, List.map_cons] at hx
        injection hx with h1 h2
        injection h2 with h2 h3
        exact ⟨b :: a :: ls, .swap _ _ _, by rw [List.map_cons, List.map_cons, h1, h2, h3]⟩
  | trans _ _ ih1 ih2 =>
    obtain ⟨ks, p, q⟩ := ih2 hx
    obtain ⟨ms, p2, q2⟩ := ih1 q.symm
    exact ⟨ms, p2.trans p, q2⟩
def codeN (l : List Nat) : Int := TS.code 64 (l.map fun p : Nat => (p : Int))
theorem code_inj : ∀ {r q : List Int}, r.length = q.length → TS.Bd 64 r → TS.Bd 64 q → TS.code 64 r = TS.code 64 q → r = q
  | [], [], _, _, _, _ => rfl
  | [], _ :: _, h, _, _, _ => by simp at h
  | _ :: _, [], h, _, _, _ => by simp at h
  | d :: r, e :: q, hl, hr, hq, h => by
    have hl' : r.length = q.length := by simpa using hl
    have hr' : TS.Bd 64 r := fun x hx => hr x (List.mem_cons_of_mem _ hx)
    have hq' : TS.Bd 64 q := fun x hx => hq x (List.mem_cons_of_mem _ hx)
    rcases Int.lt_trichotomy d e with c | c | c
    · have := TS.code_lt hl' hr' hq' c; omega
    · subst c
      have e2 : TS.code 64 r = TS.code 64 q := by
        have h' : d * 64 ^ r.length + TS.code 64 r = d * 64 ^ q.length + TS.code 64 q := h
        rw [hl'] at h'
        omega
      rw [code_inj hl' hr' hq' e2]
    · have := TS.code_lt hl'.symm hq' hr' c; omega
theorem map_nat_inj : ∀ {r q : List Nat}, (r.map fun p : Nat => (p : Int)) = (q.map fun p : Nat => (p : Int)) → r = q
  | [], [], _ => rfl
  | [], _ :: _, h => by simp at h
  | _ :: _, [], h => by simp at h
  | a :: r, b :: q, h => by
    rw [List.map_cons, List.map_cons] at h
    injection h with h1 h2
    rw [map_nat_inj h2]
    have : a = b := by omega
    rw [this]
/-- lots of one size -/
def LotsOf (d : Nat) (ls : List (List Nat)) : Prop := ∀ l ∈ ls, l.length = d ∧ ∀ x ∈ l, x < 64
theorem bd_nat {l : List Nat} (h : ∀ x ∈ l, x < 64) : TS.Bd 64 (l.map fun p : Nat => (p : Int)) := fun x hx => by
  obtain ⟨y, hy, rfl⟩ := List.mem_map.mp hx
  have := h y hy
  omega
theorem sorted_uniq {d : Nat} {ls ls' : List (List Nat)} (ho : LotsOf d ls) (p : ls.Perm ls') (h1 : ls.Pairwise fun a b => codeN a ≤ codeN b) (h2 : ls'.Pairwise fun a b => codeN a ≤ codeN b) : ls = ls' :=
  p.eq_of_pairwise (fun a b ha hb h h' => by
    have q1 := ho a ha
    have q2 := ho b (p.mem_iff.mpr hb)
    refine map_nat_inj (code_inj ?_ (bd_nat q1.2) (bd_nat q2.2) ?_)
    · rw [List.length_map, List.length_map, q1.1, q2.1]
    · have e : codeN a = codeN b := by omega
      exact e) h1 h2
theorem dp_tupI {K : PySem.W.Frag} {G H : Hp} {x : V} {l : List Nat} (e : Ex G H) (h : Dp K G x (lotD l)) : TupI K H x (l.map fun p : Nat => (p : Int)) := by
  rw [lotD_int] at h
  obtain ⟨a, xs, rfl, h1, h2⟩ := dpTup h
  rw [dpInts h2] at h1
  exact ⟨a, rfl, ex_t e h1⟩
theorem dpa_pw {K : PySem.W.Frag} {G H : Hp} (e : Ex G H) : ∀ {ys : List V} {ks : List (List Nat)}, DpAll K G ys (ks.map lotD) → ys.Pairwise (fun x y => ∀ n m, TupI K H x n → TupI K H y m → TS.code 64 n ≤ TS.code 64 m) → ks.Pairwise fun a b => codeN a ≤ codeN b
  | [], [], _, _ => .nil
  | [], _ :: _, h, _ => by cases h
  | _ :: _, [], h, _ => by cases h
  | y :: ys, k :: ks, h, q => by
    cases h with
    | cons h1 h2 =>
      cases q with
      | cons q1 q2 =>
        refine .cons (fun k' hk' => ?_) (dpa_pw e h2 q2)
        obtain ⟨i, hi⟩ := List.getElem?_of_mem hk'
        obtain ⟨v, hv, hd⟩ := h2.get (i := i) (d := lotD k') (by rw [List.getElem?_map, hi]; rfl)
        exact q1 v (List.mem_of_getElem? hv) _ _ (dp_tupI e h1) (dp_tupI e hd)
theorem xl_sortT (d : Nat) (ls' : List (List Nat)) (hd : 1 ≤ d) (hg : Gl X "sorted") (hm : X.mg "sorted" = none) (ha : XE X w a ρ (dS X.K (.list (lotsD ls)))) (ho : LotsOf d ls) (h64 : ls.length < 64) (hp : ls.Perm ls') (hs' : ls'.Pairwise fun a b => codeN a ≤ codeN b)
    (hs : starEach [a] X.env = (false, eval a X.env) :: starEach [] X.env := by rfl) : XL X w (.Call (.Name "sorted" p) [a] [] pos) ρ (· = lotsD ls') :=
  xl_callB (cr_sortT (d := d) (B := 64) hd) hg hm (by decide +kernel) (xa_cons ha xa_nil hs) (fun G H vs Q hB hvs k => by
    obtain ⟨v, rfl, hv⟩ := alls1 hvs
    obtain ⟨l, xs, rfl, h1, h2⟩ := dpLst hv
    refine ⟨l, xs, rfl, ex_l hB.sub h1, by rw [h2.len]; unfold lotsD; rw [List.length_map]; exact h64, fun x hx => ?_, fun ys r hy hpw hr => ?_⟩
    · obtain ⟨i, hi⟩ := List.getElem?_of_mem hx
      obtain ⟨d', hd', hq⟩ := h2.getV hi
      obtain ⟨lt, hlt, e⟩ := List.mem_map.mp (List.mem_of_getElem? hd')
      subst e
      have := ho lt hlt
      exact ⟨_, dp_tupI hB.sub hq, by rw [List.length_map]; exact this.1, bd_nat this.2⟩
    · obtain ⟨es, p1, p2⟩ := dpa_perm hy h2
      obtain ⟨ks, p3, rfl⟩ := perm_unmap p1
      have hpw2 := dpa_pw hB.sub p2 hpw
      have e : ks = ls' := sorted_uniq (fun l hl => ho l (p3.mem_iff.mp hl)) (p3.trans hp) hpw2 hs'
      subst e
      exact k r ys _ hr p2 rfl) (he := hs)
theorem cr_sort1 : CallR X (.builtin "sorted") (fun vs H Q => ∃ (a : Addr) (xs : List V), vs = [V.ref a] ∧ SqL X.K H a xs ∧ xs.length ≤ 1 ∧ ∀ p, H p = none → Q (.ref p) (upd H p (.lst xs))) := by
  intro pins s σ H vs us Q I r h
  obtain ⟨a, xs, rfl, hs, h1, q⟩ := h
  obtain ⟨its, rv, hl, hz⟩ := I.list hs
  rw [Vals.ref1 r]
  have hlen := rv.length
  refine Srt.sorted_any hl.isList (by rw [← rv.length]; exact hz) (fun h2 => absurd h2 (by omega)) fun out hp => ?_
  have e : out = its := by
    match its, hlen with
    | [], _ => exact List.perm_nil.mp hp
    | [x], _ => exact List.perm_singleton.mp hp
    | _ :: _ :: _, hlen => simp at hlen; omega
  subst e
  obtain ⟨ep, he'⟩ := PyProof.Rows.sortedAll_at s.heap out out.toArray
  exact ⟨.ref _, upd H (s.heap.objs.size + 1) (.lst xs), I.laid (t' := s.toks) (fun _ _ => PyProof.Rows.sortedAll_old) (Nat.le_succ _) ⟨hz, out, ep, rv, he'⟩, rfl, q _ (I.hok.fresh (Nat.le_succ _))⟩
theorem xl_sort1 (hg : Gl X "sorted") (hm : X.mg "sorted" = none) (ha : XE X w a ρ (dS X.K (.list ds))) (h1 : ds.length ≤ 1) (hs : starEach [a] X.env = (false, eval a X.env) :: starEach [] X.env := by rfl) : XL X w (.Call (.Name "sorted" p) [a] [] pos) ρ (· = ds) :=
  xl_callB cr_sort1 hg hm (by decide +kernel) (xa_cons ha xa_nil hs) (fun G H vs Q hB hvs k => by
    obtain ⟨v, rfl, hv⟩ := alls1 hvs
    obtain ⟨l, xs, rfl, h2, h3⟩ := dpLst hv
    exact ⟨l, xs, rfl, ex_l hB.sub h2, by rw [h3.len]; exact h1, fun r hr => k r xs ds hr h3 rfl⟩) (he := hs)
end
/-! ### sorted of a tuple of ints -/
section
variable {prog : Program} {w : World} {A : Around} {E : Value → Shared → Prop} {s : Shared}
theorem collectTup {t : Addr} {o : Obj} {items : Array Value} {n : Nat} {Q : List Value → Shared → Prop} (ho : s.heap.get? t = some o) (hc : o.cls = .type "tuple") (hd : o.data = .seq items n) (hsz : items.size ≤ sizeLine)
    (h : Q items.toList { s with heap := (s.heap.push (seqObj "list" #[] 0)).update s.heap.objs.size (Obj.mapSeq (· ++ items)) }) : wpAny (model prog w) A (collect (.ref t)) Q E s := by
  unfold collect
  refine wpAny_bind (wpAny_runValue (codeAny_builtin F.entry_proto_collect ?_))
  rw [Around.under_plainId F.plain_proto_collect _]
  show wpAny _ A.in1 (newList [] >>= fun l => again (.builtin "list.__iadd__" ⟨[l, .ref t], []⟩)) _ _ s
  refine wpAny_bind (wpAny_newObj_type ?_)
  refine wpAny_pure ⟨plainId_quiet F.plain_list_iadd _, codeAny_builtin F.entry_list_iadd ?_⟩
  rw [Around.under_plainId F.plain_list_iadd _]
  show wpAny _ A.in1 (Builtin.List.listExtendWith (.ref s.heap.objs.size) (.ref t) (.ref s.heap.objs.size)) _ _ _
  have hS : (s.heap.push (seqObj "list" #[] 0)).get? s.heap.objs.size = some (seqObj "list" #[] 0) := Heap.get?_push_size _ rfl
  have hS2 := Heap.get?_update_self (Obj.mapSeq (· ++ items)) hS rfl
  have fin' : wpAny (model prog w) A (match Value.ref s.heap.objs.size with
      | Value.ref a => do
        match (← load a).data with
          | Data.seq xs _ => pure xs.toList
          | _ => unsupported "internal:collect"
      | _ => unsupported "internal:collect") Q E { s with heap := (s.heap.push (seqObj "list" #[] 0)).update s.heap.objs.size (Obj.mapSeq (· ++ items)) } := by
    show wpAny _ A (load s.heap.objs.size >>= _) _ _ _
    refine wpAny_bind (wpAny_load hS2 ?_)
    refine wpAny_pure ?_
    have e : ((#[] : Array Value) ++ items).toList = items.toList := by simp
    show Q ((#[] : Array Value) ++ items).toList _
    rw [e]
    exact h
  refine wpAny_mono (wpAny_extend_seq (hsz := hsz) (A := A) (R := fun r s' => r = .ok (.ret (.ref s.heap.objs.size)) ∧ s' = { s with heap := (s.heap.push (seqObj "list" #[] 0)).update s.heap.objs.size (Obj.mapSeq (· ++ items)) })
    (s := { s with heap := s.heap.push (seqObj "list" #[] 0) }) _ t _ 0 (.inr rfl) hS (Heap.get?_push_of_some _ ho) hc hd ⟨rfl, rfl⟩) (fun fin s' h => ?_) (fun e s' h => ?_)
  · cases fin with
    | done f =>
      obtain ⟨e, rfl⟩ := h
      cases e
      exact fin'
    | again c' => exact ⟨h.1, codeAny_mono h.2 fun r s'' hr => by obtain ⟨rfl, rfl⟩ := hr; exact fin'⟩
  · exact absurd h.1 (by simp)
theorem sortedTup {t : Addr} {vs : List Value} {ns : List Int} {Q : Value → Shared → Prop} (ht : IsTup s.heap t vs.toArray) (hI : IntsAre vs ns) (h64 : vs.length < 64)
    (h : ∀ (out : Array Value) (ns' : List Int), IntsAre out.toList ns' → ns'.Perm ns → ns'.Pairwise (· ≤ ·) → Q (.ref (s.heap.objs.size + 1)) { s with heap := sortedAll s.heap vs out }) :
    wpAny (model prog w) A (call (.builtin "sorted") [.ref t]) Q E s := by
  obtain ⟨o, ho, hc, n, hd⟩ := ht
  refine Calls.call_function_entry kind_sorted plain_sorted entry_sorted (args_sorted1 _) ?_
  unfold Builtin.«sorted»
  refine wpAny_bind (m := checkCount "sorted" 1 1 _) (wpAny_pure ?_)
  have hz : vs.toArray.size ≤ sizeLine := by rw [List.size_toArray, sizeLine_eq]; omega
  refine wpAny_bind (collectTup ho hc hd hz ?_)
  show wpAny _ _ _ _ _ _
  refine wpAny_bind (wpAny_newList ?_ (by show vs.toArray.toList.length ≤ _; rw [sizeLine_eq]; simp; omega))
  have hsz : ((s.heap.push (seqObj "list" #[] 0)).update s.heap.objs.size (Obj.mapSeq (· ++ vs.toArray))).objs.size = s.heap.objs.size + 1 := by
    rw [Heap.size_update, size_push']
  have hoL : (((s.heap.push (seqObj "list" #[] 0)).update s.heap.objs.size (Obj.mapSeq (· ++ vs.toArray))).push (seqObj "list" vs.toArray 0)).get? (s.heap.objs.size + 1) = some (seqObj "list" vs.toArray 0) := by
    rw [← hsz]; exact Heap.get?_push_size _ rfl
  show wpAny _ _ _ _ _ { s with heap := ((s.heap.push (seqObj "list" #[] 0)).update s.heap.objs.size (Obj.mapSeq (· ++ vs.toArray))).push (seqObj "list" vs.toArray 0) }
  rw [hsz]
  refine wpAny_bind (wpAny_holding (wpAny_call_entry slot_list_sort ⟨_, hoL, rfl⟩ entry_list_sort (list_sort_tree hoL hI h64 fun out ns' a1 a2 a3 => ⟨_, rfl, ?_⟩) (args_list_sort _)))
  exact wpAny_pure ⟨_, rfl, h out ns' a1 a2 a3⟩
end
section
variable {X : Cx} {w : Wd} {ρ : Rho} {a b e : Expr} {p pos tpos : Pos} {i : Int} {ds es : List PyData} {lot : List Nat} {ls : List (List Nat)}
theorem cr_sortTup : CallR X (.builtin "sorted") (fun vs H Q => ∃ (a : Addr) (ns : List Int), vs = [V.ref a] ∧ SqT X.K H a (ns.map V.int) ∧ ns.length < 64 ∧ ∀ (ns' : List Int) (p : Addr), ns'.Perm ns → ns'.Pairwise (· ≤ ·) → H p = none → Q (.ref p) (upd H p (.lst (ns'.map V.int)))) := by
  intro pins s σ H vs us Q I r h
  obtain ⟨a, ns, rfl, hs, h64, q⟩ := h
  obtain ⟨its, rv, hl, _⟩ := I.tuple hs
  rw [Vals.ref1 r]
  have hi := rv.ints
  refine sortedTup hl hi (by rw [hi.length]; exact h64) fun out ns' h1 h2 h3 => ?_
  obtain ⟨ep, he'⟩ := PyProof.Rows.sortedAll_at s.heap its out
  have hlen : (ns'.map V.int).length ≤ sizeLine := by rw [List.length_map, h2.length_eq]; exact small64 h64
  exact ⟨.ref _, upd H (s.heap.objs.size + 1) (.lst (ns'.map V.int)), I.laid (t' := s.toks) (fun _ _ => PyProof.Rows.sortedAll_old) (Nat.le_succ _) ⟨hlen, out.toList, ep, vals_of_ints h1, he'⟩, rfl, q ns' _ h2 h3 (I.hok.fresh (Nat.le_succ _))⟩
/-- sorted(lot), the lot' it comes to -/
theorem xl_sortLot (lot' : List Nat) (hg : Gl X "sorted") (hm : X.mg "sorted" = none) (ha : XE X w a ρ (dS X.K (lotD lot))) (h64 : lot.length < 64) (hp : lot.Perm lot') (hs' : lot'.Pairwise (· ≤ ·)) (hs : starEach [a] X.env = (false, eval a X.env) :: starEach [] X.env := by rfl) :
    XL X w (.Call (.Name "sorted" p) [a] [] pos) ρ (· = lot'.map fun q : Nat => .int q) :=
  xl_callB cr_sortTup hg hm (by decide +kernel) (xa_cons ha xa_nil hs) (fun G H vs Q hB hvs k => by
    obtain ⟨v, rfl, hv⟩ := alls1 hvs
    obtain ⟨t, e, h1⟩ := dp_tupI hB.sub hv
    subst e
    refine ⟨t, _, rfl, h1, by rw [List.length_map]; exact h64, fun ns' r hq hw hr => ?_⟩
    obtain ⟨ks, p3, rfl⟩ := perm_unmap hq
    have e : ks = lot' := (p3.trans hp).eq_of_pairwise (fun a b _ _ h h' => Nat.le_antisymm h h') ((List.pairwise_map.mp hw).imp fun h => by omega) hs'
    subst e
    have h0 := intsDp (K := X.K) (G := G) (ks.map fun q : Nat => (q : Int))
    rw [show (ks.map fun q : Nat => (q : Int)).map PyData.int = ks.map fun q : Nat => PyData.int q from by rw [List.map_map]; rfl] at h0
    exact k r _ _ hr h0 rfl) (he := hs)
/-! ### tuple * int -/
theorem flatten_one {α : Type} (x : α) (n : Nat) : (List.replicate n [x]).flatten = List.replicate n x := by
  induction n with
  | zero => rfl
  | succ n ih => rw [List.replicate_succ, List.flatten_cons, ih]; rfl
theorem dpa_rep {K : PySem.W.Frag} {G : Hp} {v : V} {d : PyData} (h : Dp K G v d) : ∀ n, DpAll K G (List.replicate n v) (List.replicate n d)
  | 0 => .nil
  | n + 1 => .cons h (dpa_rep h n)
theorem xe_repT {d : PyData} {n : Nat} (ha : XE X w a ρ (dS X.K (.tuple [d]))) (hb : XE X w b ρ (dS X.K (.int n))) (h2 : 2 ≤ n) (hz : n ≤ 1000) : XE X w (.BinOp a .Mult b pos) ρ (dS X.K (.tuple (List.replicate n d))) :=
  xe_op op_repT ha hb fun G H x y Q hB hx hy k => by
    obtain ⟨p, xs, rfl, h1, h3⟩ := dpTup hx
    cases h3 with
    | cons h3 h4 =>
      cases h4
      refine ⟨p, n, _, rfl, dpInt hy, ex_t hB.sub h1, by simp, by omega, by omega, by simp, fun r hr => ?_⟩
      rw [Int.toNat_natCast, flatten_one]
      exact k _ _ _ (.new1 hB hr) (.tup (SqT.of upd_same) (dpa_rep (dp_mono (.new (hB.sub.free hr)) _ _ h3) n))
end
end K81
end

section
set_option Elab.async false
set_option linter.all false
set_option maxRecDepth 100000
/-! Rules over tuples: enumerate, * 1. -/
namespace K81
open PySem PySem.Spec PyProof.Rows L2
theorem enum_new1 {v : Value} {o : Obj} {H : Heap → Prop} (B : Begins v o H) :
    Meets (Builtin.«enumerate.__new__» ⟨[.type "enumerate", v], []⟩) (fun _ R s => H s.heap ∧
      R (.ok (.ret (.ref (s.heap.push o).objs.size))) { s with heap := (s.heap.push o).push { cls := .type "enumerate", data := .fields #[.none, .bool false, .ref s.heap.objs.size, rawInt 0, .none, .none] } }) :=
  .of_wp fun prog w A R s h => by
    obtain ⟨hp, g, d, tk, os⟩ := s; obtain ⟨h1, h⟩ := h
    have hsub := sub_enumerate
    have q1 : ∀ {A' : Around} {E : Value → Shared → Prop} {Q : Value → Shared → Prop}, Q (.ref hp.objs.size) ⟨hp.push o, g, d, tk, os⟩ → wpAny (model prog w) A' (pyIter v) Q E ⟨hp, g, d, tk, os⟩ :=
      fun q => B.iter prog w _ _ ⟨hp, g, d, tk, os⟩ _ h1 q
    wp_walk using q1
    refine wpAny_stack_any fun st => wpAny_pure ?_
    split
    · rename_i c _ _ _ _ _
      cases (c == Value.type "enumerate")
      · wp_walk using q1
        exact ⟨_, rfl, h⟩
      · wp_walk using q1
        exact ⟨_, rfl, h⟩
    · wp_walk using q1
      exact ⟨_, rfl, h⟩
section
variable {prog : Program} {w : World} {A : Around} {E : Value → Shared → Prop} {s : Shared}
theorem enum_call1 {v : Value} {o : Obj} {H : Heap → Prop} {Q : Value → Shared → Prop} (B : Begins v o H) (h1 : H s.heap)
    (h : ∀ h', IsEnum h' (s.heap.objs.size + 1) s.heap.objs.size 0 .none → h'.get? s.heap.objs.size = some o → h'.objs.size = s.heap.objs.size + 2 →
      (∀ b o, s.heap.get? b = some o → h'.get? b = some o) → Q (.ref (s.heap.objs.size + 1)) { s with heap := h' }) :
    wpAny (model prog w) A (call (.type "enumerate") [v]) Q E s := by
  refine callType_new F.called_enumerate (by decide) (F.typeCall_enumerate_1 _) (F.newCall_enumerate_1 _) (fun obj => F.args_object_init_2 obj _) F.entry_enumerate_new
    (enum_new1 B) ⟨h1, ?_⟩
  have hz : (s.heap.push o).objs.size = s.heap.objs.size + 1 := Heap.size_push ..
  show _ ∧ _
  rw [hz]
  have he : IsEnum ((s.heap.push o).push { cls := .type "enumerate", data := .fields #[.none, .bool false, .ref s.heap.objs.size, rawInt 0, .none, .none] }) (s.heap.objs.size + 1) s.heap.objs.size 0 .none := by
    have := Heap.get?_push_size (s.heap.push o) (o := { cls := .type "enumerate", data := .fields #[.none, .bool false, .ref s.heap.objs.size, rawInt 0, .none, .none] }) rfl
    rw [hz] at this; exact this
  refine ⟨⟨_, he, rfl⟩, h _ he (Heap.get?_push_of_some _ (Heap.get?_push_size _ B.free)) (by rw [Heap.size_push, hz]) fun b o x => Heap.get?_push_of_some _ (Heap.get?_push_of_some _ x)⟩
end
/-- the tuple at a as it stands at each turn, each item in a new pair -/
def IteT (K : PySem.W.Frag) (a : Addr) : It :=
  ⟨fun i H => ∃ (xs : List V) (x : V), SqT K H a xs ∧ xs[i]? = some x, fun i H v H' => ∃ T x, v = .ref T ∧ H T = none ∧ H' = upd H T (.tup [.int (i : Nat), x]) ∧ ∀ xs, SqT K H a xs → xs[i]? = some x, fun i H => ∃ xs : List V, SqT K H a xs ∧ xs.length = i⟩
theorem turn_enumT {P : Program} {w : World} {K : PySem.W.Frag} {elts : List Expr} {kk : Nat} {tpos : Pos} (a e it : Addr) :
    Turn P w K (.Tuple elts kk tpos) (IteT K a) [e, it] e (fun i h => (∃ old, IsEnum h e it ((i : Nat) : Int) old) ∧ h.IsTupleIter it a i ∧ e ≠ it ∧ a ≠ it ∧ e ≠ a) where
  mem := by simp
  obj := fun i h st b hb => by
    obtain ⟨⟨old, he⟩, ⟨o, ho, hc, hd⟩, _⟩ := st
    have e' : b = e ∨ b = it := by simpa using hb
    rcases e' with z | z
    · rw [z]; exact ⟨_, he, fun v q => nomatch q⟩
    · rw [z]; exact ⟨o, ho, fun v q => by rw [hd] at q; cases q⟩
  keep := fun i h h' st k => let ⟨⟨old, he⟩, hi, hne⟩ := st; ⟨⟨old, k e (by simp) _ he⟩, hi.at fun o q => k it (by simp) o q, hne⟩
  item := by
    intro X hP hw hK hc i pins s σ H E I hf st hg
    subst hP hw hK
    obtain ⟨⟨old, he⟩, hit, hne, hai, hea⟩ := st
    obtain ⟨xs, x, hq, hx⟩ := hg
    obtain ⟨its, rv, p, hz⟩ := I.tuple hq
    obtain ⟨u, hu, ru⟩ := rv.get hx
    have hel : e < s.heap.objs.size := Heap.lt_size he
    have hil : it < s.heap.objs.size := by obtain ⟨_, q, _⟩ := hit; exact Heap.lt_size q
    have hlen := rv.length
    have hil2 : i < xs.length := (List.getElem?_eq_some_iff.mp hx).1
    have D : Draws X.prog X.w X.A.in1 it [it, a] its.toArray.size (fun i v => its.toArray[i]? = some v) (fun i h => h.IsTupleIter it a i ∧ h.IsTuple a its.toArray) := Draws.tuple (A := X.A.in1) (show X.A.in1.handled = none from I.ok.hd hc) it a hai its.toArray
    refine wpAny_pyNext_enum_itemD D he ⟨hit, show s.heap.IsTuple a its.toArray from p⟩ (by simp; omega) hne (by simp [hne, hea]) fun x' h' tk hP ho hit' hT hsz hk => ?_
    refine ⟨_, rfl, wpAny_letOwnedTupleGo_enum (s := { s with heap := h', toks := tk + 1 }) ho fun h'' he' sb => ?_⟩
    have ex : x' = u := by
      have h1 : its[i]? = some x' := by simpa using hP
      rw [hu] at h1
      exact (Option.some.inj h1).symm
    subst ex
    have hT2 : h''.get? s.heap.objs.size = some { cls := .type "tuple", data := .seq #[.int i tk, x'] } := (sb.2 _ (Nat.ne_of_gt hel)).trans hT
    have new : ObjOk X.prog X.w (upd H s.heap.objs.size (.tup [.int (i : Nat), x])) h'' s.heap.objs.size (.tup [.int (i : Nat), x]) :=
      ⟨by show 2 ≤ sizeLine; decide, [.int i tk, x'], .cons ⟨_, rfl⟩ (.cons ru .nil), ⟨_, hT2, rfl, _, rfl⟩⟩
    have I1 : Inv X pins σ (upd H s.heap.objs.size (.tup [.int (i : Nat), x])) { s with heap := h'', toks := tk + 1 } :=
      I.turnedNew (ch := [e, it]) (fun b ob hb q => (sb.2 b (fun z => hb (by simp [z]))).trans (hk b ob (fun z => hb (by simp [z])) (fun z => hb (by simp [z])) q)) hf (Nat.le_refl _) new
    refine ⟨.ref s.heap.objs.size, _, I1, rfl, ⟨_, x, rfl, I.hok.fresh (Nat.le_refl _), rfl, fun ys hy => by rw [I.tuple_inj hy hq]; exact hx⟩, ⟨⟨x', ?_⟩, hit'.1.at fun o q => (sb.2 it (Ne.symm hne)).trans q, hne, hai, hea⟩, fun b hb => ?_⟩
    · have e1 : ((i + 1 : Nat) : Int) = (i : Int) + 1 := by omega
      rw [e1]; exact he'
    · have hb' : b < s.heap.objs.size := by
        have e' : b = e ∨ b = it := by simpa using hb
        rcases e' with z | z
        · rw [z]; exact hel
        · rw [z]; exact hil
      rw [upd_ne (Nat.ne_of_lt hb')]
      exact (hf b hb).1
  done := by
    intro X hP hw hK hc i pins s σ H E I hf st hg
    subst hP hw hK
    obtain ⟨⟨old, he⟩, hit, hne, hai, hea⟩ := st
    obtain ⟨xs, hq, hx⟩ := hg
    obtain ⟨its, rv, p, hz⟩ := I.tuple hq
    obtain ⟨f0, f1, f2, f3, f4, f5⟩ := hf it (by simp)
    have hl := rv.length
    have hi : i = its.toArray.size := by simp; omega
    subst hi
    have D := Draws.tuple (prog := X.prog) (w := X.w) (A := X.A.in1) (show X.A.in1.handled = none from I.ok.hd hc) it a hai its.toArray
    exact wpAny_pyNext_enum_endD D he ⟨hit, show s.heap.IsTuple a its.toArray from p⟩ fun h' eb => ⟨rfl, I.turned (t' := s.toks) (fun b o hb q => eb b o hb q) f0 f1 f3 f4 f5⟩
  self := fun A i s Q E st h => let ⟨⟨_, he⟩, _⟩ := st; wpAny_pyIter_enum he h
def iEnumT (K : PySem.W.Frag) (ta : TA) : TI := fun σ H R => ta σ H fun vs H1 => ∃ a xs, vs = [.ref a] ∧ SqT K H1 a xs ∧ R (IteT K a) H1
theorem pi_enumT {X : Cx} {e : Expr} {ta : TA} {p pos tpos : Pos} {elts : List Expr} {kk : Nat} (hg : Gl X "enumerate") (hm : X.mg "enumerate" = none) (ha : PA X [e] ta) (hs : starEach [e] X.env = [(false, eval e X.env)] := by rfl) :
    PI X (.Tuple elts kk tpos) (.Call (.Name "enumerate" p) [e] [] pos) (iEnumT X.K ta) := by
  refine ⟨fun pins s σ H R I h => ?_⟩
  refine Call_ (ld_blt I hg hm boot_enumerate (PyProof.Rows.callWith_type1 (thn (ha.run pos pins s σ H _ I h) fun us s1 ⟨vs, H1, I1, r1, q1⟩ => ?_) hs rfl))
  obtain ⟨a, xs, ex, hq, q⟩ := q1
  subst ex
  cases r1 with
  | cons r rr =>
    cases rr
    cases r
    obtain ⟨its, rv, p', hz⟩ := I1.tuple hq
    have hal : a < s1.heap.objs.size := by obtain ⟨_, q0, _⟩ := p'; exact Heap.lt_size q0
    refine enum_call1 (begins_tuple a its.toArray) (show s1.heap.IsTuple a its.toArray from p') fun h' he hit hsz hk => wpAny_pyIter_enum he ?_
    have I2 : Inv X pins σ H1 { s1 with heap := h' } := I1.kept (t' := s1.toks) hk
    refine ⟨s1.heap.objs.size + 1, [s1.heap.objs.size + 1, s1.heap.objs.size], _, _, H1, rfl, I2, turn_enumT a (s1.heap.objs.size + 1) s1.heap.objs.size, ⟨⟨.none, he⟩, ⟨_, hit, rfl, rfl⟩, Nat.succ_ne_self _, Nat.ne_of_lt hal, Nat.ne_of_gt (Nat.lt_succ_of_lt hal)⟩, fun b hb => ?_, q⟩
    have e' : b = s1.heap.objs.size + 1 ∨ b = s1.heap.objs.size := by simpa using hb
    have hle : s1.heap.objs.size ≤ b := by
      rcases e' with z | z
      · rw [z]; exact Nat.le_add_right _ _
      · rw [z]; exact Nat.le_refl _
    exact I1.fpOk hle (I1.hok.fresh hle)
theorem walk_enumT {K : PySem.W.Frag} {a : Addr} {xs : List V} : Walk (IteT K a) xs.length (fun H => SqT K H a xs) (YPair (fun i => some (.int (i : Nat))) (fun i => xs[i]?)) := by
  refine ⟨fun i _ hi q => ⟨xs, xs[i], q, by simp [hi]⟩, fun _ q => ⟨xs, q, rfl⟩, fun i H v H' _ q y => ?_⟩
  obtain ⟨T, x, h1, h2, h3, h4⟩ := y
  exact ⟨T, .int (i : Nat), x, h1, h2, h3, rfl, h4 xs q⟩
section
variable {X : Cx} {w : Wd} {ρ : Rho} {a b : Expr} {p pos tpos : Pos} {ds : List PyData} {elts : List Expr} {kk : Nat}
theorem xi_enumT (hg : Gl X "enumerate") (hm : X.mg "enumerate" = none) (ha : XE X w a ρ (dS X.K (.tuple ds))) (hs : starEach [a] X.env = [(false, eval a X.env)] := by rfl) (hs0 : starEach [a] X.env = (false, eval a X.env) :: starEach [] X.env := by rfl) :
    XI X w (.Tuple elts kk tpos) (.Call (.Name "enumerate" p) [a] [] pos) ρ (· = ds.length) (fun i => dS X.K (.tuple [.int i, ds.getD i .none])) :=
  pi_to (pi_enumT hg hm (xa_cons ha xa_nil hs0) hs) fun σ H R ⟨G, hE, hB, q⟩ => tA_then hE hB fun vs G1 H1 A1 hvs => by
    obtain ⟨v, rfl, hv⟩ := alls1 hvs
    obtain ⟨pa, xs, rfl, h1, h2⟩ := dpTup hv
    refine ⟨pa, xs, rfl, ex_t A1.sub h1, q _ ds.length G1 H1 A1 rfl ?_⟩
    rw [← h2.len]
    refine walk_enumT.mono (fun H2 e => ex_t e h1) fun i H2 x H3 hi e y => ?_
    obtain ⟨T, x, z, rfl, hT, rfl, hx, hz⟩ := y
    intro w2 G2 e2 B2
    refine ⟨_, .new1 B2 hT, ?_⟩
    obtain ⟨d, hd, hp⟩ := h2.getV hz
    have e3 : ds.getD i .none = d := by rw [List.getD_eq_getElem?_getD, hd]; rfl
    have ex : x = .int (i : Nat) := by cases hx; rfl
    subst ex
    show Dp X.K _ (.ref T) (.tuple [.int i, ds.getD i .none])
    rw [e3]
    have up := e2.trans (Ex.new (o := .tup [.int (i : Nat), z]) (B2.sub.free hT))
    exact .tup (SqT.of upd_same) (.cons (.int _) (.cons (dp_mono up _ _ hp) .nil))
/-! ### a tuple once -/
theorem tuple_mul1 (l : Addr) (items : Array Value) (n : Nat) (dd : Option Addr) (sl : Array (Option Value)) (u : Tok) :
    Meets (Builtin.«tuple.__mul__» ⟨[.ref l, .int 1 u], []⟩) (fun _ R s => s.heap.get? l = some { cls := .type "tuple", dict := dd, data := .seq items n, slots := sl } ∧ R (.ok (.ret (Value.ref l))) s) :=
  .of_wp fun prog w A R s h => by
    obtain ⟨hp, g, d, tk, os⟩ := s
    obtain ⟨hl, h⟩ := h
    have f1 := AutoSeq1.idx_int
    have c0 : (decide ((1 : Int) < -(2 ^ 63)) || decide ((1 : Int) ≥ 2 ^ 63)) = false := by decide
    have c1 : (items.isEmpty || (1 : Int) == 1) = true := by simp
    have hT : Shared.TypeIs ⟨hp, g, d, tk, os⟩ (.ref l) "tuple" := ⟨_, hl, rfl⟩
    wp_walk using wpAny_loadPart' hl, wpAny_typeOf hT
    repeat (first
      | (refine wpAny_ite_false (decide_eq_false (by rw [c0]; exact Bool.false_ne_true)) ?_; wp_walk using wpAny_loadPart' hl, wpAny_typeOf hT)
      | (refine wpAny_ite_true (decide_eq_true (by rw [c1])) ?_; wp_walk using wpAny_loadPart' hl, wpAny_typeOf hT))
    exact ⟨_, rfl, h⟩
theorem op_rep1 : OpR X (binaryOp .Mult) (fun x y H Q => ∃ l xs, x = .ref l ∧ y = .int 1 ∧ SqT X.K H l xs ∧ Q (.ref l) H) := by
  intro pins s σ H x y v u Q I rx ry h
  obtain ⟨l, xs, rfl, rfl, hT, q⟩ := h
  cases rx
  obtain ⟨t, rfl⟩ := ry
  obtain ⟨its, r, ⟨⟨cls, dd, data, sl⟩, ho, hc, n, hd⟩, hs⟩ := I.tuple hT
  simp only at hc hd
  subst hc hd
  refine wpAny_binaryOp_repeat_ref (T := "tuple") (U := "int") (by decide) ⟨_, ho, rfl⟩ (fun s' => typeIs_int s' 1 t) noFill_tuple_mul F.fills_int_mul F.slot_int_rmul repeat_tuple F.slot_int_index.lookup
    (call_meets F.slot_int_rmul (typeIs_int s 1 t) F.entry_int_rmul (F.args_int_rmul_2 _ _) (int_rmul_tuple 1 t l its.toArray n dd sl)
      ⟨ho, rfl, ⟨_, ho, rfl⟩, call_meets F.slot_tuple_mul ⟨_, ho, rfl⟩ F.entry_tuple_mul (F.args_tuple_mul_2 _ _) (tuple_mul1 l its.toArray n dd sl t) ⟨ho, ?_⟩⟩)
  exact ⟨.ref l, H, I, rfl, q⟩
theorem xe_rep {d : PyData} {n : Nat} (ha : XE X w a ρ (dS X.K (.tuple [d]))) (hb : XE X w b ρ (dS X.K (.int n))) (h1 : 1 ≤ n) (hz : n ≤ 1000) : XE X w (.BinOp a .Mult b pos) ρ (dS X.K (.tuple (List.replicate n d))) := by
  by_cases h : n = 1
  · subst h
    exact xe_op op_rep1 ha hb fun G H x y Q hB hx hy k => by
      obtain ⟨p, xs, rfl, h1, h3⟩ := dpTup hx
      exact ⟨p, xs, rfl, dpInt hy, ex_t hB.sub h1, nx0 k hB hx⟩
  · exact xe_repT ha hb (by omega) hz
end
end K81
end

section
set_option Elab.async false
set_option linter.all false
set_option maxRecDepth 100000
/-! Plain mathematics of lots. -/
namespace K81
open PySem L2
/-- the lots with one person more behind -/
def stp (n : Nat) (l : List Nat) : List (List Nat) := ((List.range n).filter fun p => l.isEmpty || decide (l.getLastD 0 < p)).map fun p => l ++ [p]
def lev (n : Nat) : Nat → List (List Nat)
  | 0 => [[]]
  | k + 1 => (lev n k).flatMap (stp n)
/-- all lots up to a size -/
def upTo (n k : Nat) : List (List Nat) := (List.range k).flatMap (lev n)
def lots (n : Nat) : List (List Nat) := upTo n (n + 1)
/-- the law's order -/
def mlots : Nat → List (List Nat)
  | 0 => [[]]
  | k + 1 => mlots k ++ (mlots k).map (· ++ [k])
def bys (n s : Nat) : List (List Nat) := if s ≤ n then lev n s else []
def chkL (n k : Nat) : Bool := decide ((lev n k).length < 64) && ((lev n k).all fun l => decide (l.length = k) && (l.all (· < n) && decide (l.Pairwise (· < ·)))) && decide ((lev n k).Pairwise fun a b => codeN a ≤ codeN b) && decide ((upTo n (k + 1)).length ≤ 64)
theorem chkL_ok : ∀ n : Fin 7, ∀ k : Fin 7, chkL n.1 k.1 = true := by decide +kernel
theorem chkL_at {n k : Nat} (hn : n ≤ 6) (hk : k ≤ 6) : chkL n k = true := chkL_ok ⟨n, by omega⟩ ⟨k, by omega⟩
theorem lev_facts {n k : Nat} (hn : n ≤ 6) (hk : k ≤ 6) : (lev n k).length < 64 ∧ (∀ l ∈ lev n k, l.length = k ∧ (∀ x ∈ l, x < n) ∧ l.Pairwise (· < ·)) ∧ ((lev n k).Pairwise fun a b => codeN a ≤ codeN b) ∧ (upTo n (k + 1)).length ≤ 64 := by
  have h := chkL_at hn hk
  unfold chkL at h
  simp only [Bool.and_eq_true, decide_eq_true_eq, List.all_eq_true] at h
  obtain ⟨⟨⟨h1, h2⟩, h3⟩, h4⟩ := h
  exact ⟨h1, fun l hl => ⟨(h2 l hl).1, (h2 l hl).2.1, (h2 l hl).2.2⟩, h3, h4⟩
theorem lev_of {n k : Nat} (hn : n ≤ 6) (hk : k ≤ 6) : LotsOf k (lev n k) := fun l hl => by
  obtain ⟨h1, h2, h3⟩ := (lev_facts hn hk).2.1 l hl
  exact ⟨h1, fun x hx => by have := h2 x hx; omega⟩
def chkB (n s : Nat) : Bool := decide (((mlots n).filter fun l => decide (l.length = s)).Perm (bys n s))
theorem chkB_ok : ∀ n : Fin 7, ∀ s : Fin 64, chkB n.1 s.1 = true := by decide +kernel
theorem by_perm {n s : Nat} (hn : n ≤ 6) (hs : s < 64) : ((mlots n).filter fun l => decide (l.length = s)).Perm (bys n s) := by
  have h := chkB_ok ⟨n, by omega⟩ ⟨s, hs⟩
  exact of_decide_eq_true h
def chkW (n : Nat) : Bool := decide ((List.range (mlots n).length).flatMap (bys n) = lots n) && decide ((mlots n).length ≤ 64) && decide ((lots n).Nodup) && decide ((lots n).length ≤ 64)
theorem chkW_ok : ∀ n : Fin 7, chkW n.1 = true := by decide +kernel
theorem whole_facts {n : Nat} (hn : n ≤ 6) : (List.range (mlots n).length).flatMap (bys n) = lots n ∧ (mlots n).length ≤ 64 ∧ (lots n).Nodup ∧ (lots n).length ≤ 64 := by
  have h := chkW_ok ⟨n, by omega⟩
  unfold chkW at h
  simp only [Bool.and_eq_true, decide_eq_true_eq] at h
  exact ⟨h.1.1.1, h.1.1.2, h.1.2, h.2⟩
theorem mlots_len : ∀ n, (mlots n).length = 2 ^ n
  | 0 => rfl
  | n + 1 => by rw [mlots, List.length_append, List.length_map, mlots_len n, Nat.pow_succ]; omega
theorem stp_len (n : Nat) (l : List Nat) : (stp n l).length ≤ n := by
  unfold stp
  rw [List.length_map]
  have := List.length_filter_le (fun p => l.isEmpty || decide (l.getLastD 0 < p)) (List.range n)
  rwa [List.length_range] at this
theorem flat_len {n : Nat} : ∀ ls : List (List Nat), (ls.flatMap (stp n)).length ≤ ls.length * n
  | [] => by simp
  | l :: ls => by
    rw [List.flatMap_cons, List.length_append, List.length_cons, Nat.succ_mul]
    have := flat_len (n := n) ls
    have := stp_len n l
    omega
theorem upTo_succ (n k : Nat) : upTo n (k + 1) = upTo n k ++ lev n k := by
  unfold upTo
  rw [List.range_succ, List.flatMap_append]
  simp
theorem upTo_one (n : Nat) : upTo n 1 = [[]] := rfl
theorem flat_succ {α β : Type} {f : α → List β} {ls : List α} {i : Nat} (d : α) (h : i < ls.length) : (ls.take (i + 1)).flatMap f = (ls.take i).flatMap f ++ f (ls.getD i d) := by
  rw [List.take_succ_eq_append_getElem h, List.flatMap_append, gd _ h]
  simp
theorem lots_mem {n : Nat} {l : List Nat} (hn : n ≤ 6) (h : l ∈ lots n) : l.length ≤ n ∧ (∀ x ∈ l, x < n) ∧ l.Pairwise (· < ·) := by
  unfold lots upTo at h
  obtain ⟨k, hk, hl⟩ := List.mem_flatMap.mp h
  have hk' := List.mem_range.mp hk
  obtain ⟨h1, h2, h3⟩ := (lev_facts hn (by omega)).2.1 l hl
  exact ⟨by omega, h2, h3⟩
theorem bys_of {n s : Nat} (hn : n ≤ 6) : (bys n s).length < 64 ∧ ((bys n s).Pairwise fun a b => codeN a ≤ codeN b) ∧ LotsOf s (bys n s) := by
  unfold bys
  by_cases h : s ≤ n
  · rw [if_pos h]
    have := lev_facts hn (k := s) (by omega)
    exact ⟨this.1, this.2.2.1, lev_of hn (by omega)⟩
  · rw [if_neg h]
    exact ⟨by decide, .nil, fun l hl => absurd hl (by simp)⟩
end K81
end

section
set_option Elab.async false
set_option linter.all false
set_option maxRecDepth 100000
namespace K81
open PySem PySem.Spec PyProof.Rows L2
/-! ### lots walked -/
theorem lotsD_append (a b : List (List Nat)) : lotsD (a ++ b) = lotsD a ++ lotsD b := List.map_append
theorem lotsD_length (a : List (List Nat)) : (lotsD a).length = a.length := List.length_map _
theorem lotsD_getD {a : List (List Nat)} {i : Nat} (h : i < a.length) : (lotsD a).getD i .none = lotD (a.getD i []) := by
  unfold lotsD
  rw [gd _ (by simpa using h), gd _ h, List.getElem_map]
theorem mem_gd {a : List (List Nat)} {i : Nat} (h : i < a.length) : a.getD i [] ∈ a := by rw [gd _ h]; exact List.getElem_mem h
theorem lotD_cat (l : List Nat) (p : Nat) : PyData.tuple ((l.map fun p : Nat => PyData.int p) ++ [PyData.int p]) = lotD (l ++ [p]) := by
  unfold lotD
  rw [List.map_append]
  rfl
theorem lot_last {l : List Nat} (h : l ≠ []) : atI (l.map fun p : Nat => PyData.int p) (-(1 : Int)) = some (.int (l.getLastD 0 : Nat)) := by
  have h0 : 0 < l.length := List.length_pos_iff.mpr h
  rw [atI_neg1 (n := l.length) (List.length_map _) h0, List.getElem?_map, List.getElem?_eq_getElem (by omega)]
  have e : l[l.length - 1]'(by omega) = l.getLastD 0 := by
    rw [List.getLastD_eq_getLast?, List.getLast?_eq_getElem?, List.getElem?_eq_getElem (by omega)]
    rfl
  rw [e]
  rfl
section
variable {X : Cx} {w : Wd} {ρ : Rho} {e tg : Expr}
theorem xi_lots {ls : List (List Nat)} (h : XE X w e ρ (dS X.K (.list (lotsD ls)))) : XI X w tg e ρ (· = ls.length) (fun i => dS X.K (lotD (ls.getD i []))) := by
  have h1 := xi_listD (tg := tg) h
  rw [lotsD_length] at h1
  exact xi_weak h1 fun n i G v hn hi q => by
    subst hn
    rw [lotsD_getD hi] at q
    exact q
theorem xi_lot {l : List Nat} (h : XE X w e ρ (dS X.K (lotD l))) : XI X w tg e ρ (· = l.length) (fun i => dS X.K (.int (l.getD i 0 : Nat))) := by
  have h1 := xi_tupD (tg := tg) h
  rw [List.length_map] at h1
  exact xi_weak h1 fun n i G v hn hi q => by
    subst hn
    rw [getD_map_int hi] at q
    exact q
end
section
variable {P : Program} {w : World} {K : PySem.W.Frag} {mg : Str → Option Value} {base : Heap}
abbrev spLots (K : PySem.W.Frag) : Sp := PrL K (fun _ => w0) (fun n : Nat => 1 ≤ n ∧ n ≤ 6) (fun n => [dS K (.int n)]) (fun n ds => ds = lotsD (lots n))
theorem ok_all_lots (T : Txt K mg) : Fnc P w K mg base CX0 1 "all_lots" ["many"] (spLots K) := by
  refine fnc_mkL T.f_all_lots sc_all_lots (fun _ _ _ _ _ _ us hl => match us, hl with | [_], _ => rfl) (fun _ _ => rfl) fun f cdv A outer s H Ex n E hok hw hr => ?_
  obtain ⟨hn1, hn6⟩ := hok
  -- found = [()]
  refine xss_asgL 1 sc_all_lots.nd (xl_lst [lotD []] (xa_cons (xe_tup [] xa_nil) xa_nil)) fun ds hds => ?_
  subst hds
  -- level = [()]
  refine xss_asg 2 sc_all_lots.nd (xe_xl1 (xl_lst [lotD []] (xa_cons (xe_tup [] xa_nil) xa_nil))) ?_
  refine xss_for (ι := Unit) (gv := [3]) (fun i _ => True) (fun i _ => [.dat (dS K (.int n)), .own 0, .dat (tlS K (lotsD (lev n i))), .no, .no, .no, .no]) (fun i _ => [lotsD (upTo n (i + 1))])
    (fun i _ => [.dat (dS K (.int n)), .own 0, .dat (tlS K (lotsD (lev n i))), .dat (dS K (.int i)), .no, .no, .no]) .never rfl (xi_range1 (n := n) rfl T.b_range (xv 0 rfl) (by omega)) (pg_name sc_all_lots.nd rfl (.inl rfl)) (fun i y _ k hk => by simp at hk; rw [hk]; exact Nat.le_of_ble_eq_true rfl) (fun n i y _ _ _ => gs_name) ⟨(), True.intro, rfl, rfl⟩ (fun m i y g0 hm hi _ => ?_)
    (Mid := Sta K E [.dat (dS K (.int n)), .own 0, .dat (tlS K (lotsD (lev n n))), .no, .no, .no, .no] [lotsD (lots n)] []) (fun m y hm _ σ H h => ?_) ?_
  · subst hm
    have hf := lev_facts hn6 (k := i) (by omega)
    have hf1 := lev_facts hn6 (k := i + 1) (by omega)
    have hu : (upTo m (i + 1)).length ≤ 64 := hf.2.2.2
    -- longer = []
    refine xss_asgL 4 sc_all_lots.nd (xl_lst [] xa_nil) fun ds hds => ?_
    subst hds
    refine xss_for (ι := Unit) (gv := [5]) (fun j _ => True) (fun j _ => [.dat (dS K (.int m)), .own 0, .dat (tlS K (lotsD (lev m i))), .dat (dS K (.int i)), .own 1, .no, .no]) (fun j _ => [lotsD (upTo m (i + 1)), lotsD (((lev m i).take j).flatMap (stp m))])
      (fun j _ => [.dat (dS K (.int m)), .own 0, .dat (tlS K (lotsD (lev m i))), .dat (dS K (.int i)), .own 1, .dat (dS K (lotD ((lev m i).getD j []))), .no]) .never rfl (xi_lots (xe_tl (xv 2 rfl))) (pg_name sc_all_lots.nd rfl (.inr rfl)) (fun i y _ k hk => by simp at hk; rw [hk]; exact Nat.le_of_ble_eq_true rfl) (fun n i y _ _ _ => gs_name) ⟨(), True.intro, rfl, rfl⟩ (fun q j y g1 hq hj _ => ?_)
      (Mid := Sta K E [.dat (dS K (.int m)), .own 0, .dat (tlS K (lotsD (lev m i))), .dat (dS K (.int i)), .own 1, .no, .no] [lotsD (upTo m (i + 1)), lotsD (lev m (i + 1))] [g0]) (fun q y hq _ σ H h => ?_) ?_
    · subst hq
      have hlt := hf.1
      have hfl := flat_len (n := m) ((lev m i).take j)
      have htl : ((lev m i).take j).length ≤ 64 := by rw [List.length_take]; omega
      have hfl2 : (((lev m i).take j).flatMap (stp m)).length ≤ 64 * 6 := Nat.le_trans hfl (Nat.mul_le_mul htl hn6)
      have hsl := stp_len m ((lev m i).getD j [])
      refine xss_extend (i := 4) (k := 1) (es := lotsD (stp m ((lev m i).getD j []))) (ds := lotsD (((lev m i).take j).flatMap (stp m))) (pe_bm PySem.F.plainAttrs_list PySem.F.slot_list_extend PySem.F.type_list_extend mt_extend (pv 4) (xa_cons (xe_is (xe_xl1 (xl_lcx rfl (xlcN 6 (n := m) (Y := fun k => .int k) (fun p => ((lev m i).getD j []).isEmpty || decide (((lev m i).getD j []).getLastD 0 < p)) (fun p => lotD ((lev m i).getD j [] ++ [p])) sc_all_lots.nd (xi_range1 (n := m) rfl T.b_range (xv 0 rfl) (by omega)) (by omega)
        (fun k hk _ _ _ _ _ => xts_one (xt_is (xt_w (xw_or (y := decide (((lev m i).getD j []).getLastD 0 < k)) (xt_c (xc_eqI (xe_lenT rfl T.b_len (xv 5 rfl)) xe_int)) fun h => xw_or1 (xt_is (xt_c (xc_gt (xv 6 rfl) (xe_ixT (d := .int (((lev m i).getD j []).getLastD 0 : Nat)) (xv 5 rfl) (xe_neg xe_int) (fun _ _ => rfl) (lot_last ?ne)))) ?lt))) ?tst))
        (fun k hk _ _ _ _ _ _ => xe_d (xe_cat (xv 5 rfl) (xe_tup [.int k] (xa_cons (xv 6 rfl) xa_nil)) ?ln) (lotD_cat _ _)) (blkOk_by (N := N_all_lots) (sc := defScope s_all_lots) (by decide +kernel)) (fun _ _ _ _ _ => pg_name sc_all_lots.nd rfl (.inl rfl))))) ?fin) xa_nil)) rfl rfl (by rw [lotsD_length, lotsD_length]; omega) (xss_nil fun σ H q => ⟨(), True.intro, by
          rw [flat_succ [] hj, lotsD_append]
          exact sta_sub (.same (.same (.same (.same (.same (.no (.no .nil))))))) q⟩)
      case ne => intro z; rw [z] at h; simp at h
      case lt => exact decide_eq_decide.mpr (by omega)
      case tst =>
        congr 1
        rw [List.length_map]
        cases (lev m i).getD j [] with
        | nil => rfl
        | cons a l => exact decide_eq_false (by simp; omega)
      case ln =>
        have := (hf.2.1 _ (mem_gd hj)).1
        simp only [List.length_map, List.length_cons, List.length_nil]
        omega
      case fin =>
        unfold stp lotsD
        rw [List.map_map]
        rfl
    · subst hq
      rw [List.take_length] at h
      exact h
    · -- level = sorted(longer)
      refine xss_frz (os := [lotsD (upTo m (i + 1))]) (ds := lotsD (lev m (i + 1))) ?_
      refine xss_asg 2 sc_all_lots.nd (xe_xl1 (xl_sortT (i + 1) (lev m (i + 1)) (by omega) rfl T.b_sorted (xe_tl (xv 4 rfl)) (lev_of hn6 (by omega)) hf1.1 (.refl _) hf1.2.2.1)) ?_
      -- found.extend(level)
      refine xss_extend (i := 1) (k := 0) (es := lotsD (lev m (i + 1))) (ds := lotsD (upTo m (i + 1))) (pe_bm PySem.F.plainAttrs_list PySem.F.slot_list_extend PySem.F.type_list_extend mt_extend (pv 1) (xa_cons (xv 2 rfl) xa_nil)) rfl rfl (by rw [lotsD_length, lotsD_length]; have := hf1.1; omega) (xss_nil fun σ H q => ⟨(), True.intro, by
        rw [upTo_succ m (i + 1), lotsD_append]
        exact sta_sub (.same (.same (.same (.no (.no (.no (.no .nil))))))) q⟩)
  · subst hm
    exact h
  · exact xss_retOwn (P := fun ds => ds = lotsD (lots n)) 1 rfl rfl rfl
end
end K81
end

section
set_option Elab.async false
set_option linter.all false
set_option maxRecDepth 100000
namespace K81
open PySem PySem.Spec PyProof.Rows L2
/-! ### lots, ends, corners -/
theorem range_fm {α : Type} (p : α → Bool) (g : α → PyData) (xs : List α) (d : α) : ((List.range xs.length).filter fun k => p (xs.getD k d)).map (fun k => g (xs.getD k d)) = (xs.filter p).map g := by
  have e : (xs.filter p).map g = ((((List.range xs.length).map fun k => xs.getD k d).filter p)).map g := by rw [range_getD]
  rw [e, List.filter_map, List.map_map]
  rfl
def ends (n : Nat) (lot : List Nat) : List Rat := (List.range n).map fun p => if p ∈ lot then 1 else 0
def cor (n : Nat) (t : Tm) (lot : List Nat) : Rat := Tm.val (ends n lot) t
def oth (n : Nat) (lot : List Nat) : List Nat := (List.range n).filter fun p => !decide (p ∈ lot)
theorem nq0 : Nq 20 0 := ⟨Rat.le_refl, by decide, by decide⟩
theorem nq1 : Nq 20 1 := ⟨by decide, Rat.le_refl, by decide⟩
theorem ends_length (n : Nat) (lot : List Nat) : (ends n lot).length = n := by unfold ends; rw [List.length_map, List.length_range]
theorem ends_ok (n : Nat) (lot : List Nat) : BsOk n (ends n lot) := ⟨ends_length n lot, fun a ha => by
  unfold ends at ha
  obtain ⟨p, _, rfl⟩ := List.mem_map.mp ha
  split
  · exact nq1
  · exact nq0⟩
/-- a rule's term -/
structure TOk (n : Nat) (t : Tm) : Prop where
  n1 : 1 ≤ n
  n6 : n ≤ 6
  dep : t.dep ≤ 8
  ok : Tm.ok n t
  size : t.size ≤ 60
theorem TOk.v {n : Nat} {t : Tm} (h : TOk n t) (lot : List Nat) : VOk 8 (n, ends n lot, t) := ⟨h.dep, ends_ok n lot, h.ok, h.size⟩
theorem TOk.nq {n : Nat} {t : Tm} (h : TOk n t) (lot : List Nat) : Nq 2400 (cor n t lot) := (val_ok (ends_ok n lot) t h.ok).mono (by have := h.size; omega)
theorem TOk.sz {n : Nat} {t : Tm} (h : TOk n t) (lot : List Nat) : Sz 4000 (cor n t lot) := (h.nq lot).sz (Nat.le_refl _)
/-- a rule -/
def ruleS (K : PySem.W.Frag) (n : Nat) (d : PyData) : Sc := ⟨fun G v => ∃ a C dx fs tv, v = .ref a ∧ G a = some (.ins C dx fs) ∧ Cls K C ∧ NoAttr K C "people" ∧ NoAttr K C "term" ∧ fs.lookup ("people" : Str) = some (V.int n) ∧ fs.lookup ("term" : Str) = some tv ∧ Dp K G tv d,
  fun e ⟨a, C, dx, fs, tv, h1, h2, h3, h4, h5, h6, h7, h8⟩ => ⟨a, C, dx, fs, tv, h1, e _ _ h2, h3, h4, h5, h6, h7, dp_mono e _ _ h8⟩⟩
section
variable {X : Cx} {w : Wd} {ρ : Rho} {e : Expr} {pos : Pos} {n : Nat} {d : PyData}
theorem xe_people (he : XE X w e ρ (ruleS X.K n d)) (hb : attributeBase e "people" X.env (eval e X.env) = eval e X.env := by rfl) : XE X w (.Attribute e "people" pos) ρ (dS X.K (.int n)) :=
  xe_of (pe_fld (pe_x he) hb) fun σ G H hE hB => tX_then hE hB fun x G1 H1 A1 ⟨a, C, dx, fs, tv, h1, h2, h3, h4, h5, h6, h7, h8⟩ => ⟨a, C, dx, fs, _, h1, A1.sub _ _ h2, h3, h4, h6, G1, A1, .int _⟩
theorem xe_term (he : XE X w e ρ (ruleS X.K n d)) (hb : attributeBase e "term" X.env (eval e X.env) = eval e X.env := by rfl) : XE X w (.Attribute e "term" pos) ρ (dS X.K d) :=
  xe_of (pe_fld (pe_x he) hb) fun σ G H hE hB => tX_then hE hB fun x G1 H1 A1 ⟨a, C, dx, fs, tv, h1, h2, h3, h4, h5, h6, h7, h8⟩ => ⟨a, C, dx, fs, tv, h1, A1.sub _ _ h2, h3, h5, h7, G1, A1, h8⟩
end
section
variable {X : Cx} {w : Wd} {ρ : Rho} {e tg : Expr} {n m : Nat} {Y : Nat → Sc}
theorem xi_len (h : XI X w tg e ρ (· = n) Y) (k : n = m) : XI X w tg e ρ (· = m) Y := k ▸ h
end
def chkM (n : Nat) : Bool := (mlots n).all fun l => decide (l.length ≤ 6)
theorem chkM_ok : ∀ n : Fin 7, chkM n.1 = true := by decide +kernel
theorem chkM_at {n : Nat} (hn : n ≤ 6) : ∀ l ∈ mlots n, l.length ≤ 6 := fun l hl => by
  have h := chkM_ok ⟨n, by omega⟩
  unfold chkM at h
  exact of_decide_eq_true (List.all_eq_true.mp h l hl)
section
variable {P : Program} {w : World} {K : PySem.W.Frag} {mg : Str → Option Value} {base : Heap}
theorem ok_Lby_size (T : Txt K mg) : Fnc P w K mg base CX0 1 "_law_by_size" ["_law_lots_here"] (Pr (fun _ => w0) (fun n : Nat => 1 ≤ n ∧ n ≤ 6) (fun n => [dS K (.list (lotsD (mlots n)))]) (fun n => tlS K (lotsD (lots n)))) := by
  refine fnc_mk T.f_Lby_size sc_Lby_size (fun _ _ _ _ _ _ us hl => match us, hl with | [_], _ => rfl) (fun _ _ => rfl) fun f cdv A outer s H Ex n E hok hw hr => ?_
  obtain ⟨hn1, hn6⟩ := hok
  have hW := whole_facts hn6
  refine xss_asg 1 sc_Lby_size.nd (xe_xl1 (xl_lst [] xa_nil)) ?_
  refine xss_for (ι := Unit) (gv := [2]) (fun i _ => ((List.range i).flatMap (bys n)).length ≤ i * 64) (fun i _ => [.dat (dS K (.list (lotsD (mlots n)))), .dat (tlS K (lotsD ((List.range i).flatMap (bys n)))), .no, .no]) (fun i _ => [])
    (fun i _ => [.dat (dS K (.list (lotsD (mlots n)))), .dat (tlS K (lotsD ((List.range i).flatMap (bys n)))), .dat (dS K (.int i)), .no]) .never rfl (xi_range1 (n := (mlots n).length) rfl T.b_range (xe_d (xe_lenL rfl T.b_len (xv 0 rfl)) (by rw [lotsD_length])) (by omega)) (pg_name sc_Lby_size.nd rfl (.inr rfl)) (fun i y _ k hk => by simp at hk; rw [hk]; exact Nat.le_of_ble_eq_true rfl) (fun n i y _ _ _ => gs_name) ⟨(), by simp, rfl, rfl⟩ (fun m i y g0 hm hi hlen => ?_)
    (Mid := Sta K E [.dat (dS K (.list (lotsD (mlots n)))), .dat (tlS K (lotsD (lots n))), .no, .no] [] []) (fun m y hm _ σ H h => ?_) (xss_ret (xv 1 rfl))
  · subst hm
    have hi64 : i < 64 := by omega
    have hp := by_perm hn6 hi64
    have hb := bys_of (n := n) (s := i) hn6
    have hfl : ((mlots n).filter fun l => decide (l.length = i)).length < 64 := by rw [hp.length_eq]; exact hb.1
    refine xss_asg 1 sc_Lby_size.nd (xe_xl1 (xl_catL (es := lotsD (bys n i)) (xv 1 rfl) (xe_xl1 ?srt) ?ln)) (xss_nil fun σ H q => ⟨(), ?_, ?_⟩)
    case srt =>
      by_cases h0 : i = 0
      · have e0 : (mlots n).filter (fun l => decide (l.length = i)) = bys n i := by
          subst h0
          have e1 : bys n 0 = [[]] := rfl
          rw [e1] at hp ⊢
          exact List.perm_singleton.mp hp
        exact xl_sort1 rfl T.b_sorted (xe_is (xe_tl (xe_xl1 (xl_lcx rfl (xlcN 3 (n := (mlots n).length) (Y := fun k => lotD ((mlots n).getD k [])) (fun k => decide (((mlots n).getD k []).length = i)) (fun k => lotD ((mlots n).getD k [])) sc_Lby_size.nd (xi_lots (xv 0 rfl)) (by omega)
          (fun k hk _ _ _ _ _ => xts_one (xt_is (xt_c (xc_eqI (xe_lenT rfl T.b_len (xv 3 rfl)) (xv 2 rfl))) (by rw [List.length_map]; exact decide_eq_decide.mpr (by omega)))) (fun k hk _ _ _ _ _ _ => xv 3 rfl) (blkOk_by (N := N_Lby_size) (sc := defScope s_Lby_size) (by decide +kernel)) (fun _ _ _ _ _ => pg_name sc_Lby_size.nd rfl (.inl rfl)))))) (by
            rw [range_fm (fun l : List Nat => decide (l.length = i)) lotD, e0]; rfl)) (by rw [lotsD_length, ← e0]; rw [hp.length_eq, h0]; exact Nat.le_of_ble_eq_true rfl)
      · exact xl_sortT i (bys n i) (by omega) rfl T.b_sorted (ls := (mlots n).filter fun l => decide (l.length = i)) (xe_is (xe_tl (xe_xl1 (xl_lcx rfl (xlcN 3 (n := (mlots n).length) (Y := fun k => lotD ((mlots n).getD k [])) (fun k => decide (((mlots n).getD k []).length = i)) (fun k => lotD ((mlots n).getD k [])) sc_Lby_size.nd (xi_lots (xv 0 rfl)) (by omega)
          (fun k hk _ _ _ _ _ => xts_one (xt_is (xt_c (xc_eqI (xe_lenT rfl T.b_len (xv 3 rfl)) (xv 2 rfl))) (by rw [List.length_map]; exact decide_eq_decide.mpr (by omega)))) (fun k hk _ _ _ _ _ _ => xv 3 rfl) (blkOk_by (N := N_Lby_size) (sc := defScope s_Lby_size) (by decide +kernel)) (fun _ _ _ _ _ => pg_name sc_Lby_size.nd rfl (.inl rfl)))))) (by
            rw [range_fm (fun l : List Nat => decide (l.length = i)) lotD]; rfl)) (fun l hl => hb.2.2 l (hp.mem_iff.mp hl)) hfl hp hb.2.1
    case ln =>
      rw [lotsD_length, lotsD_length]
      have := hb.1
      have h3 : i * 64 ≤ 64 * 64 := Nat.mul_le_mul (by omega) (Nat.le_refl _)
      have h2 : ((List.range i).flatMap (bys n)).length ≤ (lots n).length := by
        rw [← hW.1]
        have e : (mlots n).length = i + ((mlots n).length - i) := by omega
        rw [e, List.range_add, List.flatMap_append, List.length_append]
        omega
      have := hW.2.2.2
      omega
    · rw [List.range_succ, List.flatMap_append, List.length_append]
      have := hb.1
      simp only [List.flatMap_cons, List.flatMap_nil, List.append_nil]
      rw [Nat.succ_mul]
      omega
    · rw [List.range_succ, List.flatMap_append, lotsD_append]
      have e1 : [i].flatMap (bys n) = bys n i := by simp
      rw [e1]
      exact sta_sub (.same (.same (.no (.no .nil)))) q
  · subst hm
    rw [hW.1] at h
    exact h
theorem ok_Llots (T : Txt K mg) : Fnc P w K mg base CX0 2 "_law_lots" ["_law_people"] (Pr (fun _ => w0) (fun n : Nat => 1 ≤ n ∧ n ≤ 6) (fun n => [dS K (.int n)]) (fun n => tlS K (lotsD (lots n)))) := by
  have F := ok_Lby_size (P := P) (w := w) (base := base) T
  refine fnc_mk T.f_Llots sc_Llots (fun _ _ _ _ _ _ us hl => match us, hl with | [_], _ => rfl) (fun _ _ => rfl) fun f cdv A outer s H Ex n E hok hw hr => ?_
  obtain ⟨hn1, hn6⟩ := hok
  refine xss_asg 1 sc_Llots.nd (xe_xl1 (xl_lst [lotD []] (xa_cons (xe_tup [] xa_nil) xa_nil))) ?_
  refine xss_for (ι := Unit) (gv := [2]) (fun i _ => True) (fun i _ => [.dat (dS K (.int n)), .dat (tlS K (lotsD (mlots i))), .no, .no]) (fun i _ => [])
    (fun i _ => [.dat (dS K (.int n)), .dat (tlS K (lotsD (mlots i))), .dat (dS K (.int i)), .no]) .never rfl (xi_range1 (n := n) rfl T.b_range (xv 0 rfl) (by omega)) (pg_name sc_Llots.nd rfl (.inr rfl)) (fun i y _ k hk => by simp at hk; rw [hk]; exact Nat.le_of_ble_eq_true rfl) (fun n i y _ _ _ => gs_name) ⟨(), True.intro, rfl, rfl⟩ (fun m i y g0 hm hi _ => ?_)
    (Mid := Sta K E [.dat (dS K (.int n)), .dat (tlS K (lotsD (mlots n))), .no, .no] [] []) (fun m y hm _ σ H h => ?_) (xss_ret (xe_call n F hr rfl pass0 ⟨hn1, hn6⟩ (xa_cons (xe_tl (xv 1 rfl)) xa_nil)))
  · subst hm
    have hl : (mlots i).length ≤ 64 := (whole_facts (n := i) (by omega)).2.1
    have hlt : ∀ k, k < (mlots i).length → ((mlots i).getD k []).length ≤ 64 := fun k hk => by
      have hb := chkM_at (n := i) (by omega) _ (mem_gd hk)
      omega
    refine xss_asg 1 sc_Llots.nd (xe_xl1 (xl_catL (es := lotsD ((mlots i).map (· ++ [i]))) (xv 1 rfl) (xe_is (xe_xl1 (xl_lcx rfl (xlcN 3 (n := (mlots i).length) (Y := fun k => lotD ((mlots i).getD k [])) (fun _ => true) (fun k => lotD ((mlots i).getD k [] ++ [i])) sc_Llots.nd (xi_lots (xe_tl (xv 1 rfl))) (by omega)
        (fun k hk _ _ _ _ _ => xts_nil) (fun k hk _ _ _ _ _ _ => xe_d (xe_cat (xv 3 rfl) (xe_tup [.int i] (xa_cons (xv 2 rfl) xa_nil)) ?ln) (lotD_cat _ _)) (blkOk_by (N := N_Llots) (sc := defScope s_Llots) (by decide +kernel)) (fun _ _ _ _ _ => pg_name sc_Llots.nd rfl (.inl rfl))))) ?fin) (by rw [lotsD_length, lotsD_length, List.length_map]; omega))) (xss_nil fun σ H q => ⟨(), True.intro, by
          rw [mlots, lotsD_append]
          exact sta_sub (.same (.same (.no (.no .nil)))) q⟩)
    case ln =>
      have := hlt k hk
      simp only [List.length_map, List.length_cons, List.length_nil]
      omega
    case fin =>
      rw [List.filter_eq_self.mpr fun _ _ => rfl, range_map (fun l : List Nat => lotD (l ++ [i])) [] rfl]
      unfold lotsD
      rw [List.map_map]
      rfl
  · subst hm
    exact h
theorem ok_Lat_ends (T : Txt K mg) : Fnc P w K mg base CX0 1 "_law_at_ends" ["_law_people", "_law_lot"] (Pr (fun _ => w0) (fun x : Nat × List Nat => x.1 ≤ 6) (fun x => [dS K (.int x.1), dS K (lotD x.2)]) (fun x => dS K (.tuple ((ends x.1 x.2).map rD)))) := by
  refine fnc_mk T.f_Lat_ends sc_Lat_ends (fun _ _ _ _ _ _ us hl => match us, hl with | [_, _], _ => rfl) (fun _ _ => rfl) fun f cdv A outer s H Ex x E hok hw hr => ?_
  refine xss_ret (xe_is (xe_tupleOf rfl T.b_tuple (xe_tl (xe_xl1 (xl_lcx rfl (xlcN 2 (n := x.1) (Y := fun k => .int k) (fun _ => true) (fun k => rD (if k ∈ x.2 then 1 else 0)) sc_Lat_ends.nd (xi_range1 rfl T.b_range (xv 0 rfl) (by omega)) (by omega)
    (fun k hk _ _ _ _ _ => xts_nil) (fun k hk _ _ _ _ _ _ => xe_if (xt_c (xc_inP (lot := x.2) (xv 2 rfl) (xv 1 rfl))) (fun h => xe_d (xe_tup [.int 1, .int 1] (xa_cons xe_int (xa_cons xe_int xa_nil))) (by rw [if_pos (of_decide_eq_true h.symm)]; exact rD1.symm)) fun h => xe_d (xe_tup [.int 0, .int 1] (xa_cons xe_int (xa_cons xe_int xa_nil))) (by rw [if_neg (of_decide_eq_false h.symm)]; exact rD0.symm))
    (blkOk_by (N := N_Lat_ends) (sc := defScope s_Lat_ends) (by decide +kernel)) (fun _ _ _ _ _ => pg_name sc_Lat_ends.nd rfl (.inl rfl))))))) ?_)
  rw [List.filter_eq_self.mpr fun _ _ => rfl]
  unfold ends
  rw [List.map_map]
  rfl
theorem rep_getD {d : PyData} {n i : Nat} (h : i < n) : (List.replicate n d).getD i .none = d := by
  rw [gd _ (by simpa using h), List.getElem_replicate]
theorem ok_ends_for (T : Txt K mg) : Fnc P w K mg base CX0 1 "ends_for" ["lows", "highs", "lot"] (Pr (fun _ => w0) (fun x : Nat × List Nat => x.1 ≤ 6) (fun x => [dS K (.tuple (List.replicate x.1 (rD 0))), dS K (.tuple (List.replicate x.1 (rD 1))), dS K (lotD x.2)]) (fun x => dS K (.tuple ((ends x.1 x.2).map rD)))) := by
  refine fnc_mk T.f_ends_for sc_ends_for (fun _ _ _ _ _ _ us hl => match us, hl with | [_, _, _], _ => rfl) (fun _ _ => rfl) fun f cdv A outer s H Ex x E hok hw hr => ?_
  refine xss_ret (xe_is (xe_tupleOf rfl T.b_tuple (xe_tl (xe_xl1 (xl_lcx rfl (xlcP 3 4 (n := x.1) (A := fun i => .int i) (B := fun _ => rD 0) (g := fun k => rD (if k ∈ x.2 then 1 else 0)) sc_ends_for.nd ?it (by omega)
    (fun k hk _ _ _ _ _ => xe_if (xt_c (xc_inP (lot := x.2) (xv 3 rfl) (xv 2 rfl))) (fun h => xe_d (xe_ixT (d := rD 1) (xv 1 rfl) (xv 3 rfl) (fun _ _ => rfl) (atI_of rfl (by rw [List.getElem?_replicate, if_pos hk]))) (by rw [if_pos (of_decide_eq_true h.symm)])) fun h => xe_d (xv 4 rfl) (by rw [if_neg (of_decide_eq_false h.symm)]))
    (blkOk_by (N := N_ends_for) (sc := defScope s_ends_for) (by decide +kernel)) (fun _ _ _ _ _ => pg_pair rfl sc_ends_for.nd rfl rfl (.inl rfl) (.inl rfl))))))) ?_)
  · refine xi_weak (xi_len (xi_enumT (ds := List.replicate x.1 (rD 0)) rfl T.b_enumerate (xv 0 rfl)) (List.length_replicate ..)) fun m i G v hm hi q => ?_
    subst hm
    rw [rep_getD hi] at q
    exact q
  · unfold ends
    rw [List.map_map]
    rfl
theorem ok_Lcorner (T : Txt K mg) : Fnc P w K mg base CX0 11 "_law_corner" ["_law_people", "_law_term_here", "_law_lot"] (Pr (fun _ => w0) (fun x : Nat × Tm × List Nat => TOk x.1 x.2.1) (fun x => [dS K (.int x.1), dS K x.2.1.toD, dS K (lotD x.2.2)]) (fun x => dS K (rD (cor x.1 x.2.1 x.2.2)))) := by
  have FV := ok_Lvalue (P := P) (w := w) (base := base) T 8
  have FE := ok_Lat_ends (P := P) (w := w) (base := base) T
  refine fnc_mk (k := 10) T.f_Lcorner sc_Lcorner (fun _ _ _ _ _ _ us hl => match us, hl with | [_, _, _], _ => rfl) (fun _ _ => rfl) fun f cdv A outer s H Ex x E hok hw hr => ?_
  have hr1 : Room 1 (A.deeper (envOfC "_law_corner" (defScope s_Lcorner) s.heap.objs.size f cdv)) := hr.mono (by decide)
  exact xss_ret (xe_call (x.1, ends x.1 x.2.2, x.2.1) FV hr rfl pass0 (hok.v x.2.2) (xa_cons (xv 1 rfl) (xa_cons (xe_call (x.1, x.2.2) FE hr1 rfl pass0 hok.n6 (xa_cons (xv 0 rfl) (xa_cons (xv 2 rfl) xa_nil))) xa_nil)))
theorem ok_Lholds (T : Txt K mg) : Fnc P w K mg base CX0 12 "_law_holds" ["_law_people", "_law_term_here", "_law_lot", "_law_number_here"] (Pr (fun _ => w0) (fun x : Nat × Tm × List Nat × Rat => TOk x.1 x.2.1 ∧ Sz 4000 x.2.2.2) (fun x => [dS K (.int x.1), dS K x.2.1.toD, dS K (lotD x.2.2.1), dS K (rD x.2.2.2)]) (fun x => dS K (.bool (!decide (cor x.1 x.2.1 x.2.2.1 < x.2.2.2))))) := by
  have FC := ok_Lcorner (P := P) (w := w) (base := base) T
  have FL := ok_Lless (P := P) (w := w) (base := base) T
  refine fnc_mk (k := 11) T.f_Lholds sc_Lholds (fun _ _ _ _ _ _ us hl => match us, hl with | [_, _, _, _], _ => rfl) (fun _ _ => rfl) fun f cdv A outer s H Ex x E hok hw hr => ?_
  obtain ⟨h1, h2⟩ := hok
  have hr1 : Room 1 (A.deeper (envOfC "_law_holds" (defScope s_Lholds) s.heap.objs.size f cdv)) := hr.mono (by decide)
  exact xss_ret (xe_not (xe_call (cor x.1 x.2.1 x.2.2.1, x.2.2.2) FL hr1 rfl pass0 ⟨h1.sz _, h2⟩ (xa_cons (xe_call (x.1, x.2.1, x.2.2.1) FC hr rfl pass0 h1 (xa_cons (xv 0 rfl) (xa_cons (xv 1 rfl) (xa_cons (xv 2 rfl) xa_nil)))) (xa_cons (xv 3 rfl) xa_nil))))
theorem ok_Lothers (T : Txt K mg) : Fnc P w K mg base CX0 1 "_law_others" ["_law_people", "_law_lot"] (Pr (fun _ => w0) (fun x : Nat × List Nat => x.1 ≤ 6) (fun x => [dS K (.int x.1), dS K (lotD x.2)]) (fun x => dS K (lotD (oth x.1 x.2)))) := by
  refine fnc_mk T.f_Lothers sc_Lothers (fun _ _ _ _ _ _ us hl => match us, hl with | [_, _], _ => rfl) (fun _ _ => rfl) fun f cdv A outer s H Ex x E hok hw hr => ?_
  exact xss_ret (xe_is (xe_tupleOf rfl T.b_tuple (xe_tl (xe_xl1 (xl_lcx rfl (xlcN 2 (n := x.1) (Y := fun k => .int k) (fun k => !decide (k ∈ x.2)) (fun k => .int k) sc_Lothers.nd (xi_range1 rfl T.b_range (xv 0 rfl) (by omega)) (by omega)
    (fun k hk _ _ _ _ _ => xts_one (xt_c (xc_notInP (lot := x.2) (xv 2 rfl) (xv 1 rfl)))) (fun k hk _ _ _ _ _ _ => xv 2 rfl)
    (blkOk_by (N := N_Lothers) (sc := defScope s_Lothers) (by decide +kernel)) (fun _ _ _ _ _ => pg_name sc_Lothers.nd rfl (.inl rfl))))))) rfl)
theorem ok_others_of (T : Txt K mg) : Fnc P w K mg base CX0 1 "others_of" ["people", "lot"] (Pr (fun _ => w0) (fun x : Nat × List Nat => x.1 ≤ 6) (fun x => [dS K (.int x.1), dS K (lotD x.2)]) (fun x => dS K (lotD (oth x.1 x.2)))) := by
  refine fnc_mk T.f_others_of sc_others_of (fun _ _ _ _ _ _ us hl => match us, hl with | [_, _], _ => rfl) (fun _ _ => rfl) fun f cdv A outer s H Ex x E hok hw hr => ?_
  exact xss_ret (xe_is (xe_tupleOf rfl T.b_tuple (xe_tl (xe_xl1 (xl_lcx rfl (xlcN 2 (n := x.1) (Y := fun k => .int k) (fun k => !decide (k ∈ x.2)) (fun k => .int k) sc_others_of.nd (xi_range1 rfl T.b_range (xv 0 rfl) (by omega)) (by omega)
    (fun k hk _ _ _ _ _ => xts_one (xt_c (xc_notInP (lot := x.2) (xv 2 rfl) (xv 1 rfl)))) (fun k hk _ _ _ _ _ _ => xv 2 rfl)
    (blkOk_by (N := N_others_of) (sc := defScope s_others_of) (by decide +kernel)) (fun _ _ _ _ _ => pg_name sc_others_of.nd rfl (.inl rfl))))))) rfl)
theorem ok_without (T : Txt K mg) : Fnc P w K mg base CX0 1 "without" ["lot", "person"] (Pr (fun _ => w0) (fun x : List Nat × Nat => x.1.length ≤ 1000) (fun x => [dS K (lotD x.1), dS K (.int x.2)]) (fun x => dS K (lotD (x.1.filter fun q => !decide (q = x.2))))) := by
  refine fnc_mk T.f_without sc_without (fun _ _ _ _ _ _ us hl => match us, hl with | [_, _], _ => rfl) (fun _ _ => rfl) fun f cdv A outer s H Ex x E hok hw hr => ?_
  refine xss_ret (xe_is (xe_tupleOf rfl T.b_tuple (xe_tl (xe_xl1 (xl_lcx rfl (xlcN 2 (n := x.1.length) (Y := fun k => .int (x.1.getD k 0 : Nat)) (fun k => !decide (x.1.getD k 0 = x.2)) (fun k => .int (x.1.getD k 0 : Nat)) sc_without.nd (xi_lot (xv 0 rfl)) (by omega)
    (fun k hk _ _ _ _ _ => xts_one (xt_is (xt_c (xc_neI (xv 2 rfl) (xv 1 rfl))) (congrArg Bool.not (decide_eq_decide.mpr (by omega))))) (fun k hk _ _ _ _ _ _ => xv 2 rfl)
    (blkOk_by (N := N_without) (sc := defScope s_without) (by decide +kernel)) (fun _ _ _ _ _ => pg_name sc_without.nd rfl (.inl rfl))))))) ?_)
  rw [range_fm (fun q : Nat => !decide (q = x.2)) (fun q : Nat => PyData.int q)]
  rfl
theorem ok_with_person (T : Txt K mg) : Fnc P w K mg base CX0 1 "with_person" ["lot", "person"] (Pr (fun _ => w0) (fun x : List Nat × Nat × List Nat => x.1.length ≤ 60 ∧ (x.1 ++ [x.2.1]).Perm x.2.2 ∧ x.2.2.Pairwise (· ≤ ·)) (fun x => [dS K (lotD x.1), dS K (.int x.2.1)]) (fun x => dS K (lotD x.2.2))) := by
  refine fnc_mk T.f_with_person sc_with_person (fun _ _ _ _ _ _ us hl => match us, hl with | [_, _], _ => rfl) (fun _ _ => rfl) fun f cdv A outer s H Ex x E hok hw hr => ?_
  obtain ⟨h1, h2, h3⟩ := hok
  exact xss_ret (xe_is (xe_tupleOf rfl T.b_tuple (xe_tl (xe_xl1 (xl_sortLot x.2.2 rfl T.b_sorted (xe_d (xe_cat (xv 0 rfl) (xe_tup [.int x.2.1] (xa_cons (xv 1 rfl) xa_nil)) (by simp; omega)) (lotD_cat _ _)) (by rw [List.length_append, List.length_cons, List.length_nil]; omega) h2 h3)))) rfl)
theorem ok_corner_of (T : Txt K mg) : Fnc P w K mg base CX0 13 "corner_of" ["rule", "lot"] (Pr (fun _ => w0) (fun x : Nat × Tm × List Nat => TOk x.1 x.2.1) (fun x => [ruleS K x.1 x.2.1.toD, dS K (lotD x.2.2)]) (fun x => dS K (rD (cor x.1 x.2.1 x.2.2)))) := by
  have FV := ok_value_of (P := P) (w := w) (base := base) T 8
  have FE := ok_ends_for (P := P) (w := w) (base := base) T
  refine fnc_mk (k := 12) T.f_corner_of sc_corner_of (fun _ _ _ _ _ _ us hl => match us, hl with | [_, _], _ => rfl) (fun _ _ => rfl) fun f cdv A outer s H Ex x E hok hw hr => ?_
  have hr1 : Room 1 (A.deeper (envOfC "corner_of" (defScope s_corner_of) s.heap.objs.size f cdv)) := hr.mono (by decide)
  have := hok.n6
  exact xss_ret (xe_call (x.1, ends x.1 x.2.2, x.2.1) FV hr rfl pass0 (hok.v x.2.2) (xa_cons (xe_term (n := x.1) (xv 0 rfl)) (xa_cons (xe_call (x.1, x.2.2) FE hr1 rfl pass0 hok.n6
    (xa_cons (xe_rep (xe_tup [rD 0] (xa_cons (xe_ZERO rfl T.k_ZERO) xa_nil)) (xe_people (d := x.2.1.toD) (xv 0 rfl)) hok.n1 (by omega)) (xa_cons (xe_rep (xe_tup [rD 1] (xa_cons (xe_ONE rfl T.k_ONE) xa_nil)) (xe_people (d := x.2.1.toD) (xv 0 rfl)) hok.n1 (by omega)) (xa_cons (xv 1 rfl) xa_nil)))) xa_nil)))
end
end K81
end

section
set_option Elab.async false
set_option linter.all false
set_option maxRecDepth 100000
/-! Dicts whose keys are tuples of ints: held as their own raw object, the keys any tuples. -/
namespace K81
open PySem PySem.Spec PyProof.Rows L2
abbrev XRow : Type := List Key × Addr × Value
abbrev XKd (P : Program) (w : World) := tupleKind (mixKind P w)
def keyI (l : List Int) : List Key := l.map .inl
theorem keyI_V (l : List Int) : (keyI l).map kV = l.map V.int := by unfold keyI; rw [List.map_map]; rfl
theorem keyI_inj {l m : List Int} (h : keyI l = keyI m) : l = m := (List.map_inj_right fun _ _ e => Sum.inl.inj e).mp h
/-- the rows and what they say -/
inductive XKV (K : PySem.W.Frag) (G : Hp) : List XRow → List (List Int × PyData) → Prop where
  | nil : XKV K G [] []
  | cons {k : List Int} {b : Addr} {u : Value} {v : V} {d : PyData} {xs : List XRow} {kvs : List (List Int × PyData)} : SqT K G b (k.map V.int) → RelV v u → Dp K G v d → XKV K G xs kvs → XKV K G ((keyI k, b, u) :: xs) ((k, d) :: kvs)
def dval (kvs : List (List Int × PyData)) (k : List Int) : Option PyData := (kvs.find? fun p => decide (p.1 = k)).map (·.2)
def dput (kvs : List (List Int × PyData)) (k : List Int) (d : PyData) : List (List Int × PyData) := if (dval kvs k).isSome = true then kvs.map (fun p => if p.1 = k then (p.1, d) else p) else kvs ++ [(k, d)]
section
variable {K : PySem.W.Frag} {G G' : Hp} {xs : List XRow} {kvs : List (List Int × PyData)}
theorem XKV.mono (e : Ex G G') (h : XKV K G xs kvs) : XKV K G' xs kvs := by
  induction h with
  | nil => exact .nil
  | cons h1 h2 h3 _ ih => exact .cons (ex_t e h1) h2 (dp_mono e _ _ h3) ih
theorem XKV.len (h : XKV K G xs kvs) : xs.length = kvs.length := by
  induction h with
  | nil => rfl
  | cons _ _ _ _ ih => rw [List.length_cons, List.length_cons, ih]
theorem XKV.get (h : XKV K G xs kvs) : ∀ {i : Nat} {k : List Int} {d : PyData}, kvs[i]? = some (k, d) → ∃ b u v, xs[i]? = some (keyI k, b, u) ∧ SqT K G b (k.map V.int) ∧ RelV v u ∧ Dp K G v d := by
  induction h with
  | nil => intro i k d e; simp at e
  | cons h1 h2 h3 _ ih =>
    intro i k d e
    cases i with
    | zero =>
      have e' : (_, _) = (k, d) := Option.some.inj e
      cases e'
      exact ⟨_, _, _, rfl, h1, h2, h3⟩
    | succ i =>
      obtain ⟨b, u, v, q1, q2⟩ := ih (i := i) (by simpa using e)
      exact ⟨b, u, v, by simpa using q1, q2⟩
theorem dval_cons (p : List Int × PyData) (r : List (List Int × PyData)) (k : List Int) : dval (p :: r) k = if p.1 = k then some p.2 else dval r k := by
  unfold dval
  by_cases h : p.1 = k
  · rw [if_pos h]; simp [List.find?_cons, h]
  · rw [if_neg h]; simp [List.find?_cons, h]
theorem atKey_cons (x : XRow) (r : List XRow) (k : List Key) : atKey (x :: r) k = if x.1 = k then some x.2 else atKey r k := by
  by_cases h : x.1 = k
  · rw [if_pos h]; simp [atKey, List.find?_cons, h]
  · rw [if_neg h]; simp [atKey, List.find?_cons, h]
theorem XKV.none (h : XKV K G xs kvs) {k : List Int} (e : dval kvs k = none) : atKey xs (keyI k) = none := by
  induction h with
  | nil => rfl
  | cons _ _ _ _ ih =>
    rw [dval_cons] at e
    rw [atKey_cons]
    split at e
    · cases e
    · rename_i hne
      rw [if_neg fun z => hne (keyI_inj z)]
      exact ih e
theorem XKV.some (h : XKV K G xs kvs) {k : List Int} {d : PyData} (e : dval kvs k = some d) : ∃ b u v, atKey xs (keyI k) = some (b, u) ∧ RelV v u ∧ Dp K G v d := by
  induction h with
  | nil => cases e
  | cons h1 h2 h3 _ ih =>
    rw [dval_cons] at e
    rw [atKey_cons]
    split at e
    · rename_i hk
      have hk' : _ = k := hk
      subst hk'
      cases e
      rw [if_pos rfl]
      exact ⟨_, _, _, rfl, h2, h3⟩
    · rename_i hne
      rw [if_neg fun z => hne (keyI_inj z)]
      exact ih e
theorem XKV.isSome (h : XKV K G xs kvs) (k : List Int) : (atKey xs (keyI k)).isSome = (dval kvs k).isSome := by
  cases e : dval kvs k with
  | none => rw [h.none e]; rfl
  | some d => obtain ⟨b, u, v, q, _⟩ := h.some e; rw [q]; rfl
theorem XKV.append (h : XKV K G xs kvs) {k : List Int} {b : Addr} {u : Value} {v : V} {d : PyData} (h1 : SqT K G b (k.map V.int)) (h2 : RelV v u) (h3 : Dp K G v d) : XKV K G (xs ++ [(keyI k, b, u)]) (kvs ++ [(k, d)]) := by
  induction h with
  | nil => exact .cons h1 h2 h3 .nil
  | cons a1 a2 a3 _ ih => exact .cons a1 a2 a3 ih
theorem XKV.repl (h : XKV K G xs kvs) {k : List Int} {u : Value} {v : V} {d : PyData} (h2 : RelV v u) (h3 : Dp K G v d) : XKV K G (xs.map (putAt (keyI k) u)) (kvs.map fun p => if p.1 = k then (p.1, d) else p) := by
  induction h with
  | nil => exact .nil
  | @cons k' b u' v' d' xs kvs a1 a2 a3 _ ih =>
    rw [List.map_cons, List.map_cons]
    unfold putAt
    by_cases e : k' = k
    · rw [if_pos (show (keyI k', b, u').1 = keyI k by rw [e]), if_pos e]
      exact .cons a1 h2 h3 ih
    · rw [if_neg (fun z : (keyI k', b, u').1 = keyI k => e (keyI_inj z)), if_neg e]
      exact .cons a1 a2 a3 ih
theorem XKV.put (h : XKV K G xs kvs) {k : List Int} {b : Addr} {u : Value} {v : V} {d : PyData} (h1 : SqT K G b (k.map V.int)) (h2 : RelV v u) (h3 : Dp K G v d) : XKV K G (storedH xs (keyI k) b u) (dput kvs k d) := by
  unfold storedH dput
  rw [h.isSome k]
  by_cases e : (dval kvs k).isSome = true
  · rw [if_pos e, if_pos e]; exact h.repl h2 h3
  · rw [if_neg e, if_neg e]; exact h.append h1 h2 h3
theorem dput_len (kvs : List (List Int × PyData)) (k : List Int) (d : PyData) : (dput kvs k d).length ≤ kvs.length + 1 := by
  unfold dput
  split
  · rw [List.length_map]; omega
  · rw [List.length_append]; simp
end
def xobj (a : Addr) (o : Obj) : HO := .ext fun h => h.get? a = some o
def ObX (P : Program) (w : World) (o : Obj) (xs : List XRow) : Prop := ∃ es ep, o.ExactDict ∧ o.data = .dict es ep ∧ es.toList = xs.map (entryOfKey (XKd P w)) ∧ (xs.map (·.1)).Nodup
/-- such a dict at a -/
def DXat (K : PySem.W.Frag) (P : Program) (w : World) (G : Hp) (H : Hp) (a : Addr) (kvs : List (List Int × PyData)) : Prop := ∃ o xs, (a == sysModules) = false ∧ H a = some (xobj a o) ∧ ObX P w o xs ∧ XKV K G xs kvs
/-- a dict from tuples of ints to data -/
def dictS (K : PySem.W.Frag) (P : Program) (w : World) (kvs : List (List Int × PyData)) : Sc := ⟨fun G v => ∃ a, v = .ref a ∧ DXat K P w G G a kvs, fun e ⟨a, h1, o, xs, h2, h3, h4, h5⟩ => ⟨a, h1, o, xs, h2, e _ _ h3, h4, h5.mono e⟩⟩
theorem DXat.ex {K : PySem.W.Frag} {P : Program} {w : World} {G G' H' : Hp} {a : Addr} {kvs : List (List Int × PyData)} (h : DXat K P w G G a kvs) (e : Ex G G') (e2 : Ex G H') : DXat K P w G' H' a kvs := by
  obtain ⟨o, xs, h2, h3, h4, h5⟩ := h
  exact ⟨o, xs, h2, e2 _ _ h3, h4, h5.mono e⟩
section
variable {X : Cx} {pins : List (Addr × Obj)} {σ : L2.St} {H : Hp} {s : Shared}
theorem xobj_get {a : Addr} {o : Obj} (I : Inv X pins σ H s) (h : H a = some (xobj a o)) : s.heap.get? a = some o := (I.hok a _ h).1
theorem key_sq {b : Addr} {l : List Int} (I : Inv X pins σ H s) (h : SqT X.K H b (l.map V.int)) : (XKd X.prog X.w).is s.heap (keyI l) b := by
  obtain ⟨its, r, ⟨o, h1, h2, n, h3⟩, _⟩ := I.tuple h
  refine ⟨o, its.toArray, n, h1, h2, h3, ?_⟩
  rw [← keyI_V] at r
  simpa using items_are r
theorem xkv_is (I : Inv X pins σ H s) {xs : List XRow} {kvs : List (List Int × PyData)} (h : XKV X.K H xs kvs) : ∀ x ∈ xs, (XKd X.prog X.w).is s.heap x.1 x.2.1 := by
  induction h with
  | nil => intro x hx; cases hx
  | cons h1 _ _ _ ih =>
    intro x hx
    rcases List.mem_cons.mp hx with e | hx
    · rw [e]; exact key_sq I h1
    · exact ih x hx
theorem dx_of {a : Addr} {o : Obj} {xs : List XRow} {kvs : List (List Int × PyData)} (I : Inv X pins σ H s) (h : H a = some (xobj a o)) (ob : ObX X.prog X.w o xs) (k : XKV X.K H xs kvs) : s.heap.DictOfH (XKd X.prog X.w) a xs := by
  obtain ⟨es, ep, h1, h2, h3, h4⟩ := ob
  exact ⟨o, es, ep, xobj_get I h, h1, h2, h3, xkv_is I k, h4⟩
theorem xobj_new {a : Addr} {o : Obj} {H' : Hp} {h' : Heap} {P : Program} {w : World} (e : h'.get? a = some o) : ObjOk P w H' h' a (xobj a o) := ⟨e, ⟨o, e⟩, fun _ _ q k => k _ q⟩
end
/-! ### reading -/
section
variable {X : Cx} {w : Wd} {ρ : Rho} {a b : Expr} {p pos apos : Pos} {kvs : List (List Int × PyData)} {l : List Int} {d : PyData}
theorem pe_xget (hu : X.A.units + 1 < cLine) {ta tb : TE} (ha : PE X a ta) (hb : PE X b tb) (hs : NoSl b) : PE X (.Subscript a b pos) (fun σ H Q => ta σ H fun x H1 => tb σ H1 fun y H2 => ∃ q k kvs l d G, x = .ref q ∧ y = .ref k ∧ Ex G H2 ∧ DXat X.K X.prog X.w G H2 q kvs ∧ SqT X.K H2 k (l.map V.int) ∧ dval kvs l = some d ∧ ∀ v, Dp X.K G v d → Q v H2) := by
  refine ⟨fun pins s σ H Q I h => ?_⟩
  refine subD_of PySem.F.slot_dict_getitem.lookup hs (thn (ha.run pins s σ H _ I h) fun u s1 ⟨x, H1, I1, rx, q1⟩ => thn (hb.run pins s1 σ H1 _ I1 q1) fun iv s2 ⟨y, H2, I2, ry, q, k, kvs, l, d, G, ex, ey, hG, hd, hk, hv, q2⟩ => ?_)
  subst ex ey
  obtain rfl : u = Value.ref q := rx
  obtain rfl : iv = Value.ref k := ry
  obtain ⟨o, xs, h1, h2, h3, h4⟩ := hd
  have dd := dx_of I2 h2 h3 (h4.mono hG)
  obtain ⟨b, u, v, e1, e2, e3⟩ := h4.some hv
  exact ⟨dd.typeIs, wpAny_getItem_heap (tupleKind_room_in1 hu) (key_sq I2 hk) dd e1 ⟨v, H2, I2.tok _, e2, q2 v e3⟩⟩
theorem DXat.both {K : PySem.W.Frag} {P : Program} {w : World} {G G' H' : Hp} {a : Addr} {kvs : List (List Int × PyData)} (h : DXat K P w G G a kvs) (e : Ex G G') (e2 : Ex G' H') : DXat K P w G' H' a kvs := h.ex e (e.trans e2)
theorem xe_dget (hu : X.A.units + 1 < cLine) (ha : XE X w a ρ (dictS X.K X.prog X.w kvs)) (hb : XE X w b ρ (dS X.K (.tuple (l.map .int)))) (hs : NoSl b) (hd : dval kvs l = some d) : XE X w (.Subscript a b pos) ρ (dS X.K d) :=
  xe_of (pe_xget hu (pe_x ha) (pe_x hb) hs) fun σ G H hE hB => tX_then hE hB fun x G1 H1 A1 hx => tX_then (hE.mono A1.g) (hB.aft A1) fun y G2 H2 A2 hy => by
    obtain ⟨q, rfl, hq⟩ := hx
    obtain ⟨k, xs, rfl, h1, h2⟩ := dpTup hy
    rw [dpInts h2] at h1
    have B2 := (hB.aft A1).aft A2
    exact ⟨q, k, kvs, l, d, G2, rfl, rfl, B2.sub, hq.both A2.g B2.sub, ex_t B2.sub h1, hd, fun v hv => ⟨G2, A1.trans hB A2, hv⟩⟩
theorem op_xin (hu : X.A.units + 1 < cLine) : OpR X (compareOp .In) (fun y x H Q => ∃ q k kvs l G, x = .ref q ∧ y = .ref k ∧ Ex G H ∧ DXat X.K X.prog X.w G H q kvs ∧ SqT X.K H k (l.map V.int) ∧ Q (.bl (dval kvs l).isSome) H) := by
  intro pins s σ H y x v u Q I ry rx h
  obtain ⟨q, k, kvs, l, G, rfl, rfl, hG, ⟨o, xs, h1, h2, h3, h4⟩, hk, q2⟩ := h
  obtain rfl : u = Value.ref q := rx
  obtain rfl : v = Value.ref k := ry
  have h4' := h4.mono hG
  have dd := dx_of I h2 h3 h4'
  refine wpAny_in_heap (tupleKind_room_in1 hu) (key_sq I hk) h1 dd ?_
  rw [h4'.isSome]
  exact ⟨.bl _, H, I.tok _, rfl, q2⟩
theorem op_xnotIn (hu : X.A.units + 1 < cLine) : OpR X (compareOp .NotIn) (fun y x H Q => ∃ q k kvs l G, x = .ref q ∧ y = .ref k ∧ Ex G H ∧ DXat X.K X.prog X.w G H q kvs ∧ SqT X.K H k (l.map V.int) ∧ Q (.bl (!(dval kvs l).isSome)) H) := by
  intro pins s σ H y x v u Q I ry rx h
  obtain ⟨q, k, kvs, l, G, rfl, rfl, hG, ⟨o, xs, h1, h2, h3, h4⟩, hk, q2⟩ := h
  obtain rfl : u = Value.ref q := rx
  obtain rfl : v = Value.ref k := ry
  have h4' := h4.mono hG
  have dd := dx_of I h2 h3 h4'
  refine wpAny_notIn_heap (tupleKind_room_in1 hu) (key_sq I hk) h1 dd ?_
  rw [h4'.isSome]
  exact ⟨.bl _, H, I.tok _, rfl, q2⟩
theorem xc_inX (hu : X.A.units + 1 < cLine) (ha : XE X w a ρ (dS X.K (.tuple (l.map .int)))) (hb : XE X w b ρ (dictS X.K X.prog X.w kvs)) (hm : behindInMarks .In b = false := by rfl) : XC X w .In a b ρ (dS X.K (.bool (dval kvs l).isSome)) :=
  ⟨_, _, _, op_xin hu, ha, hb, hm, fun G H y x Q hB hy hx k => by
    obtain ⟨q, rfl, hq⟩ := hx
    obtain ⟨kk, xs, rfl, h1, h2⟩ := dpTup hy
    rw [dpInts h2] at h1
    exact ⟨q, kk, kvs, l, G, rfl, rfl, hB.sub, hq.both (.refl _) hB.sub, ex_t hB.sub h1, nx0 k hB (.bl _)⟩⟩
theorem xc_notInX (hu : X.A.units + 1 < cLine) (ha : XE X w a ρ (dS X.K (.tuple (l.map .int)))) (hb : XE X w b ρ (dictS X.K X.prog X.w kvs)) (hm : behindInMarks .NotIn b = false := by rfl) : XC X w .NotIn a b ρ (dS X.K (.bool (!(dval kvs l).isSome))) :=
  ⟨_, _, _, op_xnotIn hu, ha, hb, hm, fun G H y x Q hB hy hx k => by
    obtain ⟨q, rfl, hq⟩ := hx
    obtain ⟨kk, xs, rfl, h1, h2⟩ := dpTup hy
    rw [dpInts h2] at h1
    exact ⟨q, kk, kvs, l, G, rfl, rfl, hB.sub, hq.both (.refl _) hB.sub, ex_t hB.sub h1, nx0 k hB (.bl _)⟩⟩
end
/-! ### the keys walked -/
/-- the dict with the object o at d: its rows' keys -/
def Itx (d : Addr) (o : Obj) (xs : List XRow) : It :=
  ⟨fun i H => H d = some (xobj d o) ∧ i < xs.length, fun i H v H' => H' = H ∧ ∃ x, xs[i]? = some x ∧ v = .ref x.2.1, fun i H => H d = some (xobj d o) ∧ xs.length ≤ i⟩
theorem turn_xkeys {P : Program} {w : World} {K : PySem.W.Frag} {tg : Expr} {d : Addr} {o : Obj} {xs : List XRow} {es : Array DictEntry} {ep : Nat} (it : Addr) (hod : o.data = .dict es ep) (he : es.toList = xs.map (entryOfKey (XKd P w))) :
    Turn P w K tg (Itx d o xs) [it] it (fun i h => h.IsKeyIter it d i xs.length ep) where
  mem := by simp
  obj := fun i h st b hb => by
    have e : b = it := by simpa using hb
    subst e
    obtain ⟨oi, e, c, dd⟩ := st
    exact ⟨oi, e, fun v z => by rw [dd] at z; cases z⟩
  keep := fun i h h' st k => st.at fun oi e => k it (by simp) oi e
  item := by
    intro X hP hw hK hc i pins s σ H E I hf st hg
    subst hP hw hK
    obtain ⟨hd, hi⟩ := hg
    obtain ⟨f0, f1, f2, f3, f4, f5⟩ := hf it (by simp)
    have ho := xobj_get I hd
    have hx : xs[i]? = some xs[i] := List.getElem?_eq_getElem hi
    have hen : es[i]? = some (entryOfKey (XKd X.prog X.w) xs[i]) := by rw [entry_at he i, hx]; rfl
    refine next_key_item st ho hod (size_of_entries he) hen fun h' st' sb => ?_
    have I1 : Inv X pins σ H { s with heap := h' } := I.turned (t' := s.toks) (fun b ob hb e => (sb.2 b hb).trans e) f0 f1 f3 f4 f5
    obtain ⟨oi, e, c, dd⟩ := id st'
    exact ⟨_, rfl, go_of (s := { s with heap := h' }) e c dd (by decide) ⟨.ref xs[i].2.1, H, I1, rfl, ⟨rfl, xs[i], hx, rfl⟩, st', fun b hb => (hf b hb).1⟩⟩
  done := by
    intro X hP hw hK hc i pins s σ H E I hf st hg
    subst hP hw hK
    obtain ⟨hd, hi⟩ := hg
    obtain ⟨f0, f1, f2, f3, f4, f5⟩ := hf it (by simp)
    exact next_key_end (I.ok.hd hc) st (xobj_get I hd) hod (size_of_entries he) hi fun h' eb => ⟨rfl, I.turned (t' := s.toks) (fun b ob hb e => eb b ob hb e) f0 f1 f3 f4 f5⟩
  self := fun A i s Q E st h => by
    refine wpAny_pyIter_slot st.typeIs F.slot_dict_keyiterator_iter (wpAny_call_entry F.slot_dict_keyiterator_iter st.typeIs F.entry_dict_keyiterator_iter ?_ (F.args_dict_keyiterator_iter_1 _))
    show wpAny _ _ (ret (.ref it)) _ _ s
    exact wpAny_pure ⟨_, rfl, "dict_keyiterator", _, st.typeIs, F.slot_dict_keyiterator_next.lookup, h⟩
/-- .. its rows' values -/
def Itxv (d : Addr) (o : Obj) (xs : List XRow) : It :=
  ⟨fun i H => H d = some (xobj d o) ∧ i < xs.length, fun i H v H' => H' = H ∧ ∃ x, xs[i]? = some x ∧ RelV v x.2.2, fun i H => H d = some (xobj d o) ∧ xs.length ≤ i⟩
theorem turn_xvals {P : Program} {w : World} {K : PySem.W.Frag} {tg : Expr} {d : Addr} {o : Obj} {xs : List XRow} {es : Array DictEntry} {ep : Nat} (it : Addr) (hx : o.ExactDict) (hod : o.data = .dict es ep) (he : es.toList = xs.map (entryOfKey (XKd P w))) (hr : ∀ x ∈ xs, ∃ v, RelV v x.2.2) :
    Turn P w K tg (Itxv d o xs) [it] it (fun i h => h.IsValIter it d i es.size ep) where
  mem := by simp
  obj := fun i h st b hb => by
    have e : b = it := by simpa using hb
    subst e
    obtain ⟨oi, e, c, dd⟩ := st
    exact ⟨oi, e, fun v z => by rw [dd] at z; cases z⟩
  keep := fun i h h' st k => st.at fun oi e => k it (by simp) oi e
  item := by
    intro X hP hw hK hc i pins s σ H E I hf st hg
    subst hP hw hK
    obtain ⟨hd, hi⟩ := hg
    obtain ⟨f0, f1, f2, f3, f4, f5⟩ := hf it (by simp)
    have ho := xobj_get I hd
    have hx2 : xs[i]? = some xs[i] := List.getElem?_eq_getElem hi
    have hlt : i < es.size := by rw [size_of_entries he]; exact hi
    have hen : es[i] = entryOfKey (XKd X.prog X.w) xs[i] := by
      have h1 := entry_at he i
      rw [hx2, Array.getElem?_eq_getElem hlt] at h1
      exact Option.some.inj h1
    obtain ⟨v, rv⟩ := hr xs[i] (List.getElem_mem hi)
    refine wpAny_pyNext_values_item_raw st ⟨o, ho, hx, hod⟩ hlt fun h' st' sb => ?_
    have I1 : Inv X pins σ H { s with heap := h' } := I.turned (t' := s.toks) (fun b ob hb e => (sb.2 b hb).trans e) f0 f1 f3 f4 f5
    obtain ⟨oi, e, c, dd⟩ := id st'
    exact ⟨_, rfl, go_of (s := { s with heap := h' }) e c dd (by decide) ⟨v, H, I1, by rw [hen]; exact rv, ⟨rfl, xs[i], hx2, rv⟩, st', fun b hb => (hf b hb).1⟩⟩
  done := by
    intro X hP hw hK hc i pins s σ H E I hf st hg
    subst hP hw hK
    obtain ⟨hd, hi⟩ := hg
    obtain ⟨f0, f1, f2, f3, f4, f5⟩ := hf it (by simp)
    exact wpAny_pyNext_values_end_raw (I.ok.hd hc) st ⟨o, xobj_get I hd, hx, hod⟩ (by rw [size_of_entries he]; exact hi) fun h' eb => ⟨rfl, I.turned (t' := s.toks) (fun b ob hb e => eb b ob hb e) f0 f1 f3 f4 f5⟩
  self := fun A i s Q E st h => wpAny_pyIter_valiter st h
theorem xkv_rel {K : PySem.W.Frag} {G : Hp} {xs : List XRow} {kvs : List (List Int × PyData)} (h : XKV K G xs kvs) : ∀ x ∈ xs, ∃ v, RelV v x.2.2 := by
  induction h with
  | nil => intro x hx; cases hx
  | cons _ h2 _ _ ih =>
    intro x hx
    rcases List.mem_cons.mp hx with e | hx
    · rw [e]; exact ⟨_, h2⟩
    · exact ih x hx
section
variable {X : Cx} {w : Wd} {ρ : Rho} {a b tg : Expr} {p pos apos cpos : Pos} {kvs : List (List Int × PyData)}
theorem pi_xkeys {ta : TE} (ha : PE X a ta) : PI X tg a (fun σ H R => ta σ H fun x H1 => ∃ d o xs, x = .ref d ∧ (d == sysModules) = false ∧ H1 d = some (xobj d o) ∧ ObX X.prog X.w o xs ∧ R (Itx d o xs) H1) := by
  refine ⟨fun pins s σ H R I h => thn (ha.run pins s σ H _ I h) fun u s1 ⟨x, H1, I1, rx, d, o, xs, ex, hd, hH, ⟨es, ep, hx, hdt, he, hn⟩, q⟩ => ?_⟩
  subst ex
  obtain rfl : u = Value.ref d := rx
  refine iter_keys hd (xobj_get I1 hH) hx hdt (pi_one (tk := s1.toks) I1 _ (turn_xkeys _ hdt he) ⟨_, Heap.get?_push_size _ rfl, rfl, ?_⟩ q)
  rw [size_of_entries he]
  rfl
theorem pi_xvals {ta : TE} (ha : PE X a ta) (hbase : attributeBase a "values" X.env (eval a X.env) = eval a X.env := by rfl) (hline : (apos.endLine == cpos.line) = true := by rfl) :
    PI X tg (.Call (.Attribute a "values" apos) [] [] cpos) (fun σ H R => ta σ H fun x H1 => ∃ d o xs, x = .ref d ∧ (d == sysModules) = false ∧ H1 d = some (xobj d o) ∧ ObX X.prog X.w o xs ∧ (∀ x ∈ xs, ∃ v, RelV v x.2.2) ∧ R (Itxv d o xs) H1) := by
  refine ⟨fun pins s σ H R I h => ?_⟩
  refine wpAny_Call_method (T := "dict") (id := "dict.values") hbase rfl hline F.plainAttrs_dict F.slot_dict_values F.type_dict_values (thn (ha.run pins s σ H _ I h) fun u s1 ⟨x, H1, I1, rx, d, o, xs, ex, hd, hH, ⟨es, ep, hx, hdt, he, hn⟩, hr, q⟩ => ?_)
  subst ex
  obtain rfl : u = Value.ref d := rx
  have ho := xobj_get I1 hH
  have raw : s1.heap.DictRaw d es ep := ⟨o, ho, hx, hdt⟩
  refine ⟨⟨o, ho, hx.1⟩, fun b q' => by cases q'; exact ⟨o, ho, hx.2.1⟩, ?_⟩
  have I2 : Inv X pins σ H1 { s1 with heap := s1.heap.push { cls := .type "dict_values", data := .fields #[.ref d] } } := I1.kept (t' := s1.toks) fun b ob q => Heap.get?_push_of_some _ q
  have fin : wpAny (model X.prog X.w) X.A (pyIter (.ref s1.heap.objs.size)) (PIE X pins σ tg R) X.xe { s1 with heap := s1.heap.push { cls := .type "dict_values", data := .fields #[.ref d] } } := by
    exact wpAny_pyIter_values_raw (d := d) ⟨_, Heap.get?_push_size _ rfl, rfl, rfl⟩ ⟨o, Heap.get?_push_of_some _ ho, hx, hdt⟩ (pi_one (tk := s1.toks) I2 _ (turn_xvals _ hx hdt he hr) ⟨_, Heap.get?_push_size _ rfl, rfl, rfl⟩ q)
  show wpAny _ _ (callWith cpos (.builtin "dict.values") [.ref d] [] []) _ X.xe s1
  exact method_meetsIn F.slot_dict_values F.entry_dict_values rfl (PySem.evalArgs_none ⟨rfl, ⟨o, ho, hx.1⟩, F.args_dict_values_1 _, _, meets_dict_values_raw d hd, ⟨es, ep, raw⟩, fin⟩)
theorem walk_x {d : Addr} {o : Obj} {xs : List XRow} : Walk (Itx d o xs) xs.length (fun H => H d = some (xobj d o)) (fun i H v H' => H' = H ∧ ∃ x, xs[i]? = some x ∧ v = .ref x.2.1) :=
  ⟨fun _ _ hi q => ⟨q, hi⟩, fun _ q => ⟨q, Nat.le_refl _⟩, fun _ _ _ _ _ _ y => y⟩
theorem walk_xv {d : Addr} {o : Obj} {xs : List XRow} : Walk (Itxv d o xs) xs.length (fun H => H d = some (xobj d o)) (fun i H v H' => H' = H ∧ ∃ x, xs[i]? = some x ∧ RelV v x.2.2) :=
  ⟨fun _ _ hi q => ⟨q, hi⟩, fun _ q => ⟨q, Nat.le_refl _⟩, fun _ _ _ _ _ _ y => y⟩
def kD (k : List Int) : PyData := .tuple (k.map .int)
theorem xi_keys (ha : XE X w a ρ (dictS X.K X.prog X.w kvs)) : XI X w tg a ρ (· = kvs.length) (fun i => dS X.K (kD (kvs.getD i ([], .none)).1)) :=
  pi_to (pi_xkeys (pe_x ha)) fun σ H R ⟨G, hE, hB, q⟩ => tX_then hE hB fun v G1 H1 A1 hv => by
    obtain ⟨d, rfl, o, xs, h1, h2, h3, h4⟩ := hv
    refine ⟨d, o, xs, rfl, h1, A1.sub _ _ h2, h3, q _ kvs.length G1 H1 A1 rfl ?_⟩
    rw [← h4.len]
    refine walk_x.mono (fun H2 e => e _ _ h2) fun i H2 x H3 hi e y => ?_
    obtain ⟨rfl, r, hr, rfl⟩ := y
    intro w2 G2 e2 B2
    refine ⟨G2, .refl B2, ?_⟩
    have hi2 : i < kvs.length := by rw [← h4.len]; exact hi
    obtain ⟨b, u, v, g1, g2, g3, g4⟩ := h4.get (i := i) (k := kvs[i].1) (d := kvs[i].2) (List.getElem?_eq_getElem hi2)
    rw [hr] at g1
    cases g1
    show Dp X.K G2 _ (kD (kvs.getD i ([], .none)).1)
    rw [List.getD_eq_getElem?_getD, List.getElem?_eq_getElem hi2]
    exact .tup (ex_t e2 g2) (intsDp _)
theorem xi_values (ha : XE X w a ρ (dictS X.K X.prog X.w kvs)) (hbase : attributeBase a "values" X.env (eval a X.env) = eval a X.env := by rfl) (hline : (apos.endLine == cpos.line) = true := by rfl) :
    XI X w tg (.Call (.Attribute a "values" apos) [] [] cpos) ρ (· = kvs.length) (fun i => dS X.K (kvs.getD i ([], .none)).2) :=
  pi_to (pi_xvals (pe_x ha) hbase hline) fun σ H R ⟨G, hE, hB, q⟩ => tX_then hE hB fun v G1 H1 A1 hv => by
    obtain ⟨d, rfl, o, xs, h1, h2, h3, h4⟩ := hv
    refine ⟨d, o, xs, rfl, h1, A1.sub _ _ h2, h3, xkv_rel h4, q _ kvs.length G1 H1 A1 rfl ?_⟩
    rw [← h4.len]
    refine walk_xv.mono (fun H2 e => e _ _ h2) fun i H2 x H3 hi e y => ?_
    obtain ⟨rfl, r, hr, rv⟩ := y
    intro w2 G2 e2 B2
    refine ⟨G2, .refl B2, ?_⟩
    have hi2 : i < kvs.length := by rw [← h4.len]; exact hi
    obtain ⟨b, u, v, g1, g2, g3, g4⟩ := h4.get (i := i) (k := kvs[i].1) (d := kvs[i].2) (List.getElem?_eq_getElem hi2)
    rw [hr] at g1
    cases g1
    have ev := RelV.inj rv g3
    subst ev
    show Dp X.K G2 _ (kvs.getD i ([], .none)).2
    rw [List.getD_eq_getElem?_getD, List.getElem?_eq_getElem hi2]
    exact dp_mono e2 _ _ g4
end
end K81
end

section
set_option Elab.async false
set_option linter.all false
set_option maxRecDepth 100000
/-! Dict comprehensions with tuple keys, {}, d[k] = v, list(d). -/
namespace K81
open PySem PySem.Spec PyProof.Rows L2
theorem obx_empty {P : Program} {w : World} : ObX P w { cls := .type "dict", data := .dict #[] } [] := ⟨#[], 0, ⟨rfl, rfl, rfl⟩, rfl, rfl, List.nodup_nil⟩
theorem d_setX {X : Cx} {pins : List (Addr × Obj)} {σ : L2.St} {H : Hp} {s : Shared} {E : Value → Shared → Prop} {D b : Addr} {o : Obj} {xs : List XRow} {kvs : List (List Int × PyData)} {k : List Int} {r : Value} {Q : Unit → Shared → Prop} (hu : X.A.units + 1 < cLine) (I : Inv X pins σ H s) (hD : H D = some (xobj D o)) (ob : ObX X.prog X.w o xs) (xk : XKV X.K H xs kvs)
    (hk : SqT X.K H b (k.map V.int)) (hz : xs.length < sizeLine) (h : ∀ o' s', ObX X.prog X.w o' (storedH xs (keyI k) b r) → Inv X pins σ (upd H D (xobj D o')) s' → Q () s') : wpAny (model X.prog X.w) X.A (dictSet D (.ref b) r) Q E s := by
  refine wpAny_dictSet_heap (hsz := Nat.le_of_lt hz) (show (XKd X.prog X.w).room X.A from Nat.lt_of_succ_lt hu) (key_sq I hk) (dx_of I hD ob xk) fun h' dd' hs => ?_
  obtain ⟨o', es, ep, h1, h2, h3, h4, _, h5⟩ := dd'
  exact h o' _ ⟨es, ep, h2, h3, h4, h5⟩ (d_write I (by rw [hD]; exact True.intro) hs ⟨o', h1⟩ (xobj_new h1))
section
variable {X : Cx}
/-- {k: v for target in iter if ..}, keys tuples of ints: D the new dict -/
def tDx (K : PySem.W.Frag) (P : Program) (w : World) (wi : TI) (g : TG) (tt : TT) (tk tv : TE) (vs : List Nat) : TE := fun σ H Q => wi σ H fun J H1 => ∀ D o0, (D == sysModules) = false → H1 D = none → ObX P w o0 [] → ∃ W : Nat → Nat → Hp → Prop, (∃ m, W 0 m (upd H1 D (xobj D o0))) ∧ ∀ i m H, W i m H →
  (J.stop i H ∧ Q (.ref D) H) ∨ (J.go i H ∧ ∃ Nn : Hp → Prop, (∀ H', Nn H' → ∃ m', m' < m ∧ W (i + 1) m' H') ∧ ∀ x H', J.yld i H x H' → g x (wipe σ vs) H' fun σ2 H2 => wipe σ2 vs = wipe σ vs ∧ tt σ2 H2 fun b H3 =>
    if b = true then tk σ2 H3 fun y H4 => tv σ2 H4 fun z H5 => ∃ o xs kvs k b, y = .ref b ∧ H5 D = some (xobj D o) ∧ ObX P w o xs ∧ XKV K H5 xs kvs ∧ SqT K H5 b (k.map V.int) ∧ xs.length < sizeLine ∧ ∀ o' u, RelV z u → ObX P w o' (storedH xs (keyI k) b u) → Nn (upd H5 D (xobj D o')) else Nn H3)
theorem xd_core {pins : List (Addr × Obj)} {s : Shared} {σ : L2.St} {H : Hp} {Q : VK} {kx vx tg iter : Expr} {ifs : List Expr} {scope : Scope} {own : List (Str × Nat)} {pos pos' : Pos} {wi : TI} {g : TG} {tt : TT} {tk tv : TE} {use : Option (Value → Sem Unit)} {Qf : Value → Shared → Prop}
    (hc : X.calm = true) (hu : X.A.units + 1 < cLine) (hN : X.N.Nodup) (I : Inv X pins σ H s) (hi : PI X tg iter wi) (ok : BlkOk X.N X.env.scope scope own)
    (hg : ∀ (s : Shared) (H : Hp) (C : Addr) (cl : List (Str × Addr)) (fp : List Addr), PG (X.blk s H scope (compEnvC scope cl C X.env) fp) tg g) (ht : ∀ (s : Shared) (H : Hp) (C : Addr) (cl : List (Str × Addr)) (fp : List Addr), PTs (X.blk s H scope (compEnvC scope cl C X.env) fp) ifs tt)
    (hk : ∀ (s : Shared) (H : Hp) (C : Addr) (cl : List (Str × Addr)) (fp : List Addr), PE (X.blk s H scope (compEnvC scope cl C X.env) fp) kx tk)
    (he : ∀ (s : Shared) (H : Hp) (C : Addr) (cl : List (Str × Addr)) (fp : List Addr), PE (X.blk s H scope (compEnvC scope cl C X.env) fp) vx tv) (hs : ∀ x, foldedSetIterable iter X.env x = pure x)
    (h : tDx X.K X.prog X.w wi g tt tk tv (own.map (·.2)) σ H Q)
    (hRR : ∀ D C s' m H', Inv X pins σ H' s' → Q (.ref D) H' → s'.heap.Ns C m → FpOk X pins H' C → compPost (model X.prog X.w) X.A X.xe use Qf (.ref D) C (.ok .next) s') :
    wpAny (model X.prog X.w) X.A (comprehension (.DictComp kx vx [⟨tg, iter, ifs, 0⟩] scope pos) scope X.env pos' newDict false (eval iter X.env) use) Qf X.xe s := by
  have hfree : ∀ y ∈ scope.names, y.2 = .free → ∃ c, X.env.cells.lookup y.1 = some c := fun y hy e => by
    rcases ok.free y hy e with k | k
    · exact I.ok.has _ (.inl k)
    · exact I.ok.has _ (.inr k)
  refine wpAny_comprehension_free (use := use) rfl hs (closure_ok hfree) ok.kind (fun y hy e => by rw [ok.uniq y hy, e])
    (thn (hi.run pins s σ H _ I h) fun xv s1 hx => thn hx fun itv s2 h2 => ?_)
  obtain ⟨it, fp, tn, J, H2, e, I2, T, st2, f2, q⟩ := h2
  subst e
  refine wpAny_newObj_type (newEnv_comp ?_)
  generalize hD : s2.heap.objs.size = D
  have hDn : H2 D = none := I2.hok.fresh (Nat.le_of_eq hD)
  have hDs : (D == sysModules) = false := beq_eq_false_iff_ne.mpr (by rw [← hD]; exact Ne.symm (Nat.ne_of_lt I2.big))
  obtain ⟨W, ⟨m0, w0⟩, turn⟩ := q D { cls := .type "dict", data := .dict #[] } hDs hDn obx_empty
  generalize hs3 : ({ s2 with heap := s2.heap.push { cls := .type "dict", data := .dict #[] } } : Shared) = s3
  have I3 : Inv X pins σ (upd H2 D (xobj D { cls := .type "dict", data := .dict #[] })) s3 := by
    rw [← hs3]
    refine I2.laid (t' := s2.toks) (fun b o e => Heap.get?_push_of_some _ e) (Nat.le_of_eq hD) (xobj_new ?_)
    rw [← hD]
    exact Heap.get?_push_size _ rfl
  have h3 : s3.heap = s2.heap.push { cls := .type "dict", data := .dict #[] } := by rw [← hs3]
  have sz : ∀ b ∈ fp, b < s2.heap.objs.size := fun b hb => by
    obtain ⟨o, e, _⟩ := T.obj _ _ st2 b hb
    exact Heap.lt_size e
  have f3 : ∀ b ∈ fp, FpOk X pins (upd H2 D (xobj D { cls := .type "dict", data := .dict #[] })) b ∧ b < s3.heap.objs.size := fun b hb => by
    have hlt := sz b hb
    refine ⟨⟨?_, (f2 b hb).2⟩, by rw [h3, Heap.size_push]; exact Nat.lt_succ_of_lt hlt⟩
    rw [upd_ne (by rw [← hD]; exact Nat.ne_of_lt hlt)]
    exact (f2 b hb).1
  have st3 : tn 0 s3.heap := T.keep _ _ _ st2 fun b _ o e => by rw [h3]; exact Heap.get?_push_of_some _ e
  have I4 := block_start I3 ok hN f3
  generalize hH3 : upd H2 D (xobj D { cls := .type "dict", data := .dict #[] }) = H3 at I3 I4 w0 f3
  have pg := hg s3 H3 s3.heap.objs.size (cellsFrom (s3.heap.objs.size + 1) scope.names (cloFrom X.env.cells scope.names [])) fp
  have pt := ht s3 H3 s3.heap.objs.size (cellsFrom (s3.heap.objs.size + 1) scope.names (cloFrom X.env.cells scope.names [])) fp
  have pk := hk s3 H3 s3.heap.objs.size (cellsFrom (s3.heap.objs.size + 1) scope.names (cloFrom X.env.cells scope.names [])) fp
  have pe := he s3 H3 s3.heap.objs.size (cellsFrom (s3.heap.objs.size + 1) scope.names (cloFrom X.env.cells scope.names [])) fp
  show codeAny _ _ (.compStart (.DictComp kx vx [⟨tg, iter, ifs, 0⟩] scope pos) 0 (.ref it) (.ref D) (compEnvC scope (cellsFrom (s3.heap.objs.size + 1) scope.names (cloFrom X.env.cells scope.names [])) s3.heap.objs.size X.env)) (compPost (model X.prog X.w) X.A X.xe use Qf (.ref D) s3.heap.objs.size) { s3 with heap := pushCells (s3.heap.push { cls := .type "dict", data := .dict #[] }) scope.names }
  have nfp : ∀ b ∈ fp, H3 b = none := fun b hb => (f3 b hb).1.1
  generalize hce : compEnvC scope (cellsFrom (s3.heap.objs.size + 1) scope.names (cloFrom X.env.cells scope.names [])) s3.heap.objs.size X.env = ce at I4 pg pt pk pe ⊢
  have cL : ce.locals = s3.heap.objs.size := by subst hce; rfl
  generalize hs4 : ({ s3 with heap := pushCells (s3.heap.push { cls := .type "dict", data := .dict #[] }) scope.names } : Shared) = s4 at I4 ⊢
  have st4 : tn 0 s4.heap := T.keep _ _ _ st3 fun b _ o e => by rw [← hs4]; exact pushCells_keeps _ _ _ _ (Heap.get?_push_of_some _ e)
  have stat : ∀ {σ' : L2.St} {H' : Hp} {s' : Shared}, Inv (X.blk s3 H3 scope ce fp) [] σ' H' s' → (∀ b ∈ fp, H' b = none) → ∀ b ∈ fp, FpOk (X.blk s3 H3 scope ce fp) [] H' b := fun {σ' H' s'} I' hn b hb =>
    ⟨hn b hb, (I'.ok.exf b hb).1, I'.ok.exfs b hb, .inl hb, fun x c e => (I'.ok.exf b hb).2 x c e, fun p hp => absurd (show p ∈ ([] : List (Addr × Obj)) ++ [] from hp) (by simp)⟩
  have loop : codeAny (model X.prog X.w) X.A (.compLoop (.DictComp kx vx [⟨tg, iter, ifs, 0⟩] scope pos) 0 (.ref it) (.ref D) ce) (compPost (model X.prog X.w) X.A X.xe use Qf (.ref D) s3.heap.objs.size) s4 := by
    refine compLoop_anyD (fun n s' => ∃ i H', Inv (X.blk s3 H3 scope ce fp) [] (wipe σ (own.map (·.2))) H' s' ∧ tn i s'.heap ∧ (∀ b ∈ fp, H' b = none) ∧ W i n H') ?_ m0 ⟨0, H3, I4, st4, nfp, w0⟩
    rintro n s5 ⟨i, H5, I5, st5, n5, w5⟩
    rcases turn i n H5 w5 with ⟨stop, qq⟩ | ⟨go, Nn, hNn, step⟩
    · refine thnF (T.done (X.blk s3 H3 scope ce fp) rfl rfl rfl hc i [] s5 _ H5 (fun _ _ => False) I5 (stat I5 n5) st5 stop) fun r s6 ⟨hr, I6⟩ => ?_
      subst hr
      have I7 : Inv X pins σ H5 s6 := I3.call' (ch := fp) I6.os I6.base I6.hok I6.bare fun b hb => ⟨(f3 b hb).1.2.2.2.1, (f3 b hb).1.2.1, (f3 b hb).1.2.2.2.2.1, (f3 b hb).1.2.2.2.2.2⟩
      have nC : H5 s3.heap.objs.size = none := by
        have z : H5 ce.locals = none := I6.free
        rw [cL] at z
        exact z
      obtain ⟨m, hn, _⟩ := I6.loc
      have hn : s6.heap.Ns ce.locals m := hn
      rw [cL] at hn
      exact hRR D s3.heap.objs.size s6 m H5 I7 qq hn (I3.fpOk (Nat.le_refl _) nC)
    · refine thnF (T.item (X.blk s3 H3 scope ce fp) rfl rfl rfl hc i [] s5 _ H5 (fun _ _ => False) I5 (stat I5 n5) st5 go) fun r s6 ⟨u, hr, h6⟩ => ?_
      subst hr
      refine thnF h6 fun _ s7 ⟨x, H7, I7, r7, y7, st7, n7⟩ => ?_
      have I7' := I7.pinned (stat I7 n7) (T.obj _ _ st7)
      refine thnF (pg.run _ s7 _ H7 x u _ I7' r7 (step x H7 y7)) fun _ s8 ⟨σ8, H8, I8, hw8, q8⟩ => ?_
      refine thnF (pt.run _ s8 σ8 H8 _ I8 q8) fun b s9 ⟨H9, I9, q9⟩ => ?_
      have fin : ∀ {s' : Shared} {H' : Hp}, Inv (X.blk s3 H3 scope ce fp) ([] ++ pinsAt fp s7.heap) σ8 H' s' → Nn H' → ∃ m, m < n ∧ ∃ i H', Inv (X.blk s3 H3 scope ce fp) [] (wipe σ (own.map (·.2))) H' s' ∧ tn i s'.heap ∧ (∀ b ∈ fp, H' b = none) ∧ W i m H' := fun {s' H'} I' nx => by
        obtain ⟨m', hm, w'⟩ := hNn H' nx
        have pin' : ∀ b ∈ fp, ∀ o, s7.heap.get? b = some o → s'.heap.get? b = some o ∧ H' b = none := fun b hb o e =>
          let z := I'.pin (b, o) (List.mem_append_right _ (List.mem_append_right _ (mem_pinsAt hb e)))
          ⟨z.1, z.2.1⟩
        have hl : (wipe σ (own.map (·.2))).length = σ8.length := by rw [← hw8, wipe_length]
        refine ⟨m', hm, i + 1, H', (I'.unpinned (pins := [])).weak hl (fun j v e => ?_), T.keep _ _ _ st7 fun b hb o e => (pin' b hb o e).1, fun b hb => ?_, w'⟩
        · rw [← hw8] at e
          exact (wipe_some e).1
        · obtain ⟨o, e, _⟩ := T.obj _ _ st7 b hb
          exact (pin' b hb o e).2
      cases b with
      | false =>
        simp only [Bool.false_eq_true, if_false] at q9 ⊢
        exact fin I9 q9
      | true =>
        simp only [if_true] at q9 ⊢
        refine thnF (pk.run _ s9 σ8 H9 _ I9 q9) fun z s10 ⟨yk, H10, I10, r10, q10⟩ => ?_
        refine thnF (pe.run _ s10 σ8 H10 _ I10 q10) fun z2 s11 ⟨yv, H11, I11, r11, o, xs, kvs, k, bb, ek, hD11, ob11, xk11, hk11, hz11, nx⟩ => ?_
        subst ek
        obtain rfl : z = Value.ref bb := r10
        exact d_setX (X := X.blk s3 H3 scope ce fp) hu I11 hD11 ob11 xk11 hk11 hz11 fun o' s12 ob' I12 => fin I12 (nx o' z2 r11 ob')
  exact codeAny_compStart_dict loop (T.self X.A 0 _ _ _ st4 loop)
theorem pe_dx {kx vx tg iter : Expr} {ifs : List Expr} {scope : Scope} {own : List (Str × Nat)} {pos : Pos} {wi : TI} {g : TG} {tt : TT} {tk tv : TE} (hc : X.calm = true) (hu : X.A.units + 1 < cLine) (hN : X.N.Nodup) (hi : PI X tg iter wi) (ok : BlkOk X.N X.env.scope scope own)
    (hg : ∀ (s : Shared) (H : Hp) (C : Addr) (cl : List (Str × Addr)) (fp : List Addr), PG (X.blk s H scope (compEnvC scope cl C X.env) fp) tg g) (ht : ∀ (s : Shared) (H : Hp) (C : Addr) (cl : List (Str × Addr)) (fp : List Addr), PTs (X.blk s H scope (compEnvC scope cl C X.env) fp) ifs tt)
    (hk : ∀ (s : Shared) (H : Hp) (C : Addr) (cl : List (Str × Addr)) (fp : List Addr), PE (X.blk s H scope (compEnvC scope cl C X.env) fp) kx tk)
    (he : ∀ (s : Shared) (H : Hp) (C : Addr) (cl : List (Str × Addr)) (fp : List Addr), PE (X.blk s H scope (compEnvC scope cl C X.env) fp) vx tv) (hs : ∀ x, foldedSetIterable iter X.env x = pure x) :
    PE X (.DictComp kx vx [⟨tg, iter, ifs, 0⟩] scope pos) (tDx X.K X.prog X.w wi g tt tk tv (own.map (·.2))) := by
  refine ⟨fun pins s σ H Q I h => ?_⟩
  rw [arm_eval_DictComp]
  refine xd_core hc hu hN I hi ok hg ht hk he hs h fun D C s' m H' I' q hn f => ⟨m, hn, fun h'' sb => ?_⟩
  obtain ⟨f0, f1, f2, f3, f4, f5⟩ := f
  exact ⟨.ref D, H', I'.turned (t' := s'.toks) (fun b o hb e => (sb.2 b hb).trans e) f0 f1 f3 f4 f5, rfl, q⟩
end
theorem xo_frz {w : Wd} {G H G' H' : Hp} {a : Addr} {o : HO} (A : Aft w G H G' H') (h1 : H a = none) (h2 : G' a = none) (h3 : H' a = some o) : Aft w G H (upd G' a o) H' := by
  refine ⟨A.up, A.ok, A.g.trans (.new h2), fun b u e => ?_, fun b hb n => ?_⟩
  · by_cases eb : b = a
    · subst eb; rw [upd_same] at e; rw [h3]; exact e
    · rw [upd_ne eb] at e; exact A.sub b u e
  · by_cases eb : b = a
    · subst eb; exact h1
    · rw [upd_ne eb] at n; exact A.new b hb n
section
variable {X : Cx} {w : Wd} {ρ : Rho} {kx vx iter : Expr} {ifs : List Expr} {scope : Scope} {x : Str} {p pos : Pos}
def rowsOf (n : Nat) (f : Nat → Bool) (kf : Nat → List Int) (vf : Nat → PyData) : List (List Int × PyData) := ((List.range n).filter f).map fun i => (kf i, vf i)
theorem rowsOf_yes {n : Nat} {f : Nat → Bool} {kf : Nat → List Int} {vf : Nat → PyData} (h : f n = true) : rowsOf (n + 1) f kf vf = rowsOf n f kf vf ++ [(kf n, vf n)] := by
  unfold rowsOf
  rw [List.range_succ, List.filter_append, List.map_append]
  simp [h]
theorem rowsOf_no {n : Nat} {f : Nat → Bool} {kf : Nat → List Int} {vf : Nat → PyData} (h : f n = false) : rowsOf (n + 1) f kf vf = rowsOf n f kf vf := by
  unfold rowsOf
  rw [List.range_succ, List.filter_append, List.map_append]
  simp [h]
theorem rowsOf_len (n : Nat) (f : Nat → Bool) (kf : Nat → List Int) (vf : Nat → PyData) : (rowsOf n f kf vf).length ≤ n := by
  unfold rowsOf
  rw [List.length_map]
  have := List.length_filter_le f (List.range n)
  rwa [List.length_range] at this
theorem rowsOf_none {n : Nat} {f : Nat → Bool} {kf : Nat → List Int} {vf : Nat → PyData} {k : List Int} (h : ∀ i, i < n → f i = true → kf i ≠ k) : dval (rowsOf n f kf vf) k = none := by
  unfold dval
  have : ((rowsOf n f kf vf).find? fun p => decide (p.1 = k)) = none := by
    rw [List.find?_eq_none]
    intro p hp hk
    unfold rowsOf at hp
    obtain ⟨i, hi, rfl⟩ := List.mem_map.mp hp
    obtain ⟨h1, h2⟩ := List.mem_filter.mp hi
    exact h i (List.mem_range.mp h1) h2 (of_decide_eq_true hk)
  rw [this]
  rfl
theorem it_gen {J : It} {n : Nat} {Gd : Hp → Prop} {Y : Nat → Hp → V → Hp → Prop} (w : Walk J n Gd Y) {H0 : Hp} {Qd : Hp → Prop} (B : (Hp → Prop) → V → Hp → Prop) (Pv : Nat → Hp → Prop) (h0 : Pv 0 H0) (hG : ∀ i H, i ≤ n → Pv i H → Gd H) (hs : ∀ i x H H', i < n → Pv i H → Y i H x H' → B (Pv (i + 1)) x H') (hd : ∀ H, Pv n H → Qd H) :
    ∃ W : Nat → Nat → Hp → Prop, (∃ m, W 0 m H0) ∧ ∀ i m H, W i m H → (J.stop i H ∧ Qd H) ∨ (J.go i H ∧ ∃ Nn : Hp → Prop, (∀ H', Nn H' → ∃ m', m' < m ∧ W (i + 1) m' H') ∧ ∀ x H', J.yld i H x H' → B Nn x H') := by
  refine ⟨fun i m H => m = n - i ∧ i ≤ n ∧ Pv i H, ⟨n, by simp, Nat.zero_le _, h0⟩, ?_⟩
  rintro i m H ⟨rfl, hi, p⟩
  have q := hG i H hi p
  rcases Nat.lt_or_ge i n with hlt | hge
  · exact .inr ⟨w.goes i H hlt q, Pv (i + 1), fun H' p' => ⟨n - (i + 1), by omega, rfl, hlt, p'⟩, fun x H' y => hs i x H H' hlt p (w.yields i H x H' hlt q y)⟩
  · have e : i = n := by omega
    subst e
    exact .inl ⟨w.stops H q, hd H p⟩
theorem dx_turns {K : PySem.W.Frag} {P : Program} {wo : World} {g : TG} {n : Nat} {Y : Nat → Sc} {f : Nat → Bool} {kf : Nat → List Int} {vf : Nat → PyData} {ρ' : Nat → Rho} {vs gv : List Nat} {σ : L2.St} {G H : Hp} {J : It} {Q : VK} (hinj : ∀ i j, i < n → j < n → f i = true → f j = true → kf i = kf j → i = j) (hB : Bef w G H) (hE : EnvD G σ ρ) (hz : n ≤ 1000) (hl : ∀ j ∈ gv, j < ρ.length) (hgv : ∀ j ∈ gv, j ∈ vs)
    (W : Walk J n (fun H2 => Ex G H2) (YS G Y)) (hg : ∀ i, i < n → GS gv g (Y i) (wipeR ρ vs) (ρ' i)) (Dl : Addr) (o0 : Obj) (hs0 : (Dl == sysModules) = false) (hD : H Dl = none) (hob0 : ObX P wo o0 [])
    (k : ∀ v G' H', Aft w G H G' H' → (dictS K P wo (rowsOf n f kf vf)).p G' v → v = .ref Dl → Q v H') :
    ∃ W : Nat → Nat → Hp → Prop, (∃ m, W 0 m (upd H Dl (xobj Dl o0))) ∧ ∀ i m H2, W i m H2 →
      (J.stop i H2 ∧ Q (.ref Dl) H2) ∨ (J.go i H2 ∧ ∃ Nn : Hp → Prop, (∀ H', Nn H' → ∃ m', m' < m ∧ W (i + 1) m' H') ∧ ∀ x H', J.yld i H2 x H' → g x (wipe σ vs) H' fun σ2 H3 => wipe σ2 vs = wipe σ vs ∧ tExT (fun i : { i : Nat // i < n } => tT w (ρ' i.1) (· = f i.1)) σ2 H3 fun b H4 =>
        if b = true then tEx (fun i : { i : Nat // i < n ∧ f i = true } => tX w (ρ' i.1) (dS K (.tuple ((kf i.1).map .int)))) σ2 H4 fun y H5 => tEx (fun i : { i : Nat // i < n ∧ f i = true } => tX w (ρ' i.1) (dS K (vf i.1))) σ2 H5 fun z H6 =>
          ∃ o xs kvs k b, y = .ref b ∧ H6 Dl = some (xobj Dl o) ∧ ObX P wo o xs ∧ XKV K H6 xs kvs ∧ SqT K H6 b (k.map V.int) ∧ xs.length < sizeLine ∧ ∀ o' u, RelV z u → ObX P wo o' (storedH xs (keyI k) b u) → Nn (upd H6 Dl (xobj Dl o')) else Nn H4) := by
  have gD : G Dl = none := hB.sub.free hD
  have nD : ¬ w.at_ Dl := fun z => w.has hB.ok z hD
  have keepN : ∀ {G1 H1 G2 H2 : Hp}, Aft w G1 H1 G2 H2 → G1 Dl = none → (∃ o, H1 Dl = some o) → G2 Dl = none := fun {G1 H1 G2 H2} A h1 ⟨o, h2⟩ => by
    cases q : G2 Dl with
    | none => rfl
    | some u => rw [A.new Dl h1 (by rw [q]; exact fun z => nomatch z)] at h2; cases h2
  refine it_gen W (fun Nn x H' => g x (wipe σ vs) H' fun σ2 H3 => wipe σ2 vs = wipe σ vs ∧ tExT (fun i : { i : Nat // i < n } => tT w (ρ' i.1) (· = f i.1)) σ2 H3 fun b H4 =>
        if b = true then tEx (fun i : { i : Nat // i < n ∧ f i = true } => tX w (ρ' i.1) (dS K (.tuple ((kf i.1).map .int)))) σ2 H4 fun y H5 => tEx (fun i : { i : Nat // i < n ∧ f i = true } => tX w (ρ' i.1) (dS K (vf i.1))) σ2 H5 fun z H6 =>
          ∃ o xs kvs k b, y = .ref b ∧ H6 Dl = some (xobj Dl o) ∧ ObX P wo o xs ∧ XKV K H6 xs kvs ∧ SqT K H6 b (k.map V.int) ∧ xs.length < sizeLine ∧ ∀ o' u, RelV z u → ObX P wo o' (storedH xs (keyI k) b u) → Nn (upd H6 Dl (xobj Dl o')) else Nn H4)
    (fun i H2 => ∃ G2 o xs, Aft w G H G2 H2 ∧ G2 Dl = none ∧ H2 Dl = some (xobj Dl o) ∧ ObX P wo o xs ∧ XKV K G2 xs (rowsOf i f kf vf)) ⟨G, o0, [], .newH hB hD, gD, upd_same, hob0, .nil⟩ (fun i H2 _ ⟨G2, o, xs, A, _⟩ => A.g.trans A.sub) ?_ fun H2 ⟨G2, o, xs, A, h1, h2, h3, h4⟩ => ?_
  · rintro i x H2 H3 hi ⟨G2, o, xs, A, h1, h2, h3, h4⟩ y
    have B2 := hB.aft A
    obtain ⟨G3, A3, hx⟩ := y w G2 A.g B2
    have B3 := B2.aft A3
    have d3 : H3 Dl = some (xobj Dl o) := A3.up Dl _ nD h2
    have g3 := keepN A3 h1 ⟨_, h2⟩
    refine (hg i hi).go w G3 H3 (wipe σ vs) x _ (fun j hj => by rw [wipeR_length]; exact hl j hj) B3 ((hE.wipe vs).mono (A.g.trans A3.g)) hx fun σ2 hl2 hE2 hw _ => ⟨by rw [hw vs hgv, wipe_wipe], ⟨i, hi⟩, G3, hE2, B3, fun b G4 H4 A4 hb => ?_⟩
    subst hb
    have B4 := B3.aft A4
    have d4 : H4 Dl = some (xobj Dl o) := A4.up Dl _ nD d3
    have g4 := keepN A4 g3 ⟨_, d3⟩
    have A24 := (A.trans hB A3).trans hB A4
    cases hf : f i with
    | false =>
      simp only [hf, Bool.false_eq_true, if_false]
      exact ⟨G4, o, xs, A24, g4, d4, h3, by rw [rowsOf_no hf]; exact h4.mono (A3.g.trans A4.g)⟩
    | true =>
      simp only [hf, if_true]
      refine ⟨⟨i, hi, hf⟩, G4, hE2.mono A4.g, B4, fun v G5 H5 A5 hv => ?_⟩
      have B5 := B4.aft A5
      have d5 : H5 Dl = some (xobj Dl o) := A5.up Dl _ nD d4
      have g5 := keepN A5 g4 ⟨_, d4⟩
      refine ⟨⟨i, hi, hf⟩, G5, (hE2.mono A4.g).mono A5.g, B5, fun z G6 H6 A6 hz6 => ?_⟩
      have B6 := B5.aft A6
      have d6 : H6 Dl = some (xobj Dl o) := A6.up Dl _ nD d5
      have g6 := keepN A6 g5 ⟨_, d5⟩
      have A26 := (A24.trans hB A5).trans hB A6
      obtain ⟨kb, ys, rfl, hk1, hk2⟩ := dpTup hv
      rw [dpInts hk2] at hk1
      have h6 : XKV K G6 xs (rowsOf i f kf vf) := h4.mono (((A3.g.trans A4.g).trans A5.g).trans A6.g)
      have hn : dval (rowsOf i f kf vf) (kf i) = none := rowsOf_none fun j hj hfj e => by
        have := hinj j i (by omega) hi hfj hf e
        omega
      refine ⟨o, xs, rowsOf i f kf vf, kf i, kb, rfl, d6, h3, h6.mono B6.sub, ex_t (A6.g.trans B6.sub) hk1, by rw [h6.len, sizeLine_eq]; have := rowsOf_len i f kf vf; omega, fun o' u ru ob' => ?_⟩
      refine ⟨G6, o', storedH xs (keyI (kf i)) kb u, ?_, g6, upd_same, ob', ?_⟩
      · refine ⟨fun b u nb e => ?_, ?_, A26.g, fun b u e => ?_, A26.new⟩
        · rw [upd_ne (ne_of_none e hD)]; exact A26.up b u nb e
        · exact w.other A26.ok fun z => w.hasD hB.ok z hD
        · rw [upd_ne (ne_of_none e g6)]; exact A26.sub b u e
      · have hp := h6.put (k := kf i) (b := kb) (ex_t A6.g hk1) ru hz6
        have e : dput (rowsOf i f kf vf) (kf i) (vf i) = rowsOf (i + 1) f kf vf := by
          unfold dput
          rw [hn, rowsOf_yes hf]
          exact if_neg (by decide)
        rw [e] at hp
        exact hp
  · exact k _ _ H2 (xo_frz A hD h1 h2) ⟨Dl, rfl, o, xs, hs0, upd_same, h3, h4.mono (.new h1)⟩ rfl
/-- {k: v for x in iter if ..}, the keys unlike -/
theorem xe_dx (j : Nat) {n : Nat} {Y : Nat → PyData} (f : Nat → Bool) (kf : Nat → List Int) (vf : Nat → PyData) (hc : X.calm = true) (hu : X.A.units + 1 < cLine) (hN : X.N.Nodup) (hi : XI X w (.Name x p) iter ρ (· = n) (fun k => dS X.K (Y k))) (hz : n ≤ 1000) (hinj : ∀ i j, i < n → j < n → f i = true → f j = true → kf i = kf j → i = j)
    (ht : ∀ k, k < n → ∀ (s : Shared) (H : Hp) (C : Addr) (cl : List (Str × Addr)) (fp : List Addr), XTs (X.blk s H scope (compEnvC scope cl C X.env) fp) w ifs ((wipeR ρ [j]).set j (.dat (dS X.K (Y k)))) (· = f k))
    (hk : ∀ k, k < n → f k = true → ∀ (s : Shared) (H : Hp) (C : Addr) (cl : List (Str × Addr)) (fp : List Addr), XE (X.blk s H scope (compEnvC scope cl C X.env) fp) w kx ((wipeR ρ [j]).set j (.dat (dS X.K (Y k)))) (dS X.K (.tuple ((kf k).map .int))))
    (he : ∀ k, k < n → f k = true → ∀ (s : Shared) (H : Hp) (C : Addr) (cl : List (Str × Addr)) (fp : List Addr), XE (X.blk s H scope (compEnvC scope cl C X.env) fp) w vx ((wipeR ρ [j]).set j (.dat (dS X.K (Y k)))) (dS X.K (vf k)))
    (ok : BlkOk X.N X.env.scope scope [(x, j)]) (hpg : ∀ (s : Shared) (H : Hp) (C : Addr) (cl : List (Str × Addr)) (fp : List Addr), PG (X.blk s H scope (compEnvC scope cl C X.env) fp) (.Name x p) (gName j)) (hl : j < ρ.length := by exact Nat.le_of_ble_eq_true rfl)
    (hs : ∀ x, foldedSetIterable iter X.env x = pure x := by intro _; rfl) : XE X w (.DictComp kx vx [⟨.Name x p, iter, ifs, 0⟩] scope pos) ρ (dictS X.K X.prog X.w (rowsOf n f kf vf)) :=
  xe_of (pe_dx hc hu hN hi ok hpg (fun s H C cl fp => pts_ex fun i : { i : Nat // i < n } => ht i.1 i.2 s H C cl fp) (fun s H C cl fp => pe_ex fun i : { i : Nat // i < n ∧ f i = true } => pe_x (hk i.1 i.2.1 i.2.2 s H C cl fp)) (fun s H C cl fp => pe_ex fun i : { i : Nat // i < n ∧ f i = true } => pe_x (he i.1 i.2.1 i.2.2 s H C cl fp)) hs)
    fun σ G H hE hB => ⟨G, hE, hB, fun J m G' H' A hm W D o0 hs0 hD hob => by
      subst hm
      exact dx_turns (gv := [j]) (ρ' := fun k => (wipeR ρ [j]).set j (.dat (dS X.K (Y k)))) hinj (hB.aft A) (hE.mono A.g) hz (fun q hq => by rw [List.mem_singleton.mp hq]; exact hl) (fun q hq => hq) W (fun i hi => gs_name) D o0 hs0 hD hob fun v G2 H2 A2 hv _ => ⟨G2, A.trans hB A2, hv⟩⟩
end
end K81
end

section
set_option Elab.async false
set_option linter.all false
set_option maxRecDepth 100000
namespace K81
open PySem PySem.Spec PyProof.Rows L2
/-! ### holders -/
def natI (l : List Nat) : List Int := l.map fun p : Nat => (p : Int)
theorem natI_inj {a b : List Nat} (h : natI a = natI b) : a = b := map_nat_inj h
theorem lotD_nat (l : List Nat) : lotD l = .tuple ((natI l).map .int) := lotD_int l
theorem kD_nat (l : List Nat) : kD (natI l) = lotD l := (lotD_nat l).symm
def rowsL (L : List (List Nat)) (v : List Nat → PyData) : List (List Int × PyData) := L.map fun l => (natI l, v l)
theorem range_fmG {α β : Type} (p : α → Bool) (g : α → β) (xs : List α) (d : α) : ((List.range xs.length).filter fun k => p (xs.getD k d)).map (fun k => g (xs.getD k d)) = (xs.filter p).map g := by
  have e : (xs.filter p).map g = ((((List.range xs.length).map fun k => xs.getD k d).filter p)).map g := by rw [range_getD]
  rw [e, List.filter_map, List.map_map]
  rfl
theorem rowsOf_L (L : List (List Nat)) (p : List Nat → Bool) (v : List Nat → PyData) : rowsOf L.length (fun k => p (L.getD k [])) (fun k => natI (L.getD k [])) (fun k => v (L.getD k [])) = rowsL (L.filter p) v :=
  range_fmG p (fun l => (natI l, v l)) L []
theorem rowsOf_all (L : List (List Nat)) (v : List Nat → PyData) : rowsOf L.length (fun _ => true) (fun k => natI (L.getD k [])) (fun k => v (L.getD k [])) = rowsL L v := by
  have h := rowsOf_L L (fun _ => true) v
  rw [List.filter_eq_self.mpr fun _ _ => rfl] at h
  exact h
theorem dval_rows (L : List (List Nat)) (v : List Nat → PyData) (l : List Nat) : dval (rowsL L v) (natI l) = if l ∈ L then some (v l) else none := by
  induction L with
  | nil => rfl
  | cons a L ih =>
    show dval ((natI a, v a) :: rowsL L v) (natI l) = _
    rw [dval_cons, ih]
    by_cases h : a = l
    · subst h; simp
    · rw [if_neg fun z => h (natI_inj z)]
      have : l ∈ a :: L ↔ l ∈ L := by simp [Ne.symm h]
      simp only [this]
theorem dval_isSome (L : List (List Nat)) (v : List Nat → PyData) (l : List Nat) : (dval (rowsL L v) (natI l)).isSome = decide (l ∈ L) := by
  rw [dval_rows]
  by_cases h : l ∈ L
  · rw [if_pos h, decide_eq_true h]; rfl
  · rw [if_neg h, decide_eq_false h]; rfl
theorem nodup_inj {L : List (List Nat)} (h : L.Nodup) {i j : Nat} (hi : i < L.length) (hj : j < L.length) (e : natI (L.getD i []) = natI (L.getD j [])) : i = j := by
  have e2 := natI_inj e
  rw [gd _ hi, gd _ hj] at e2
  exact (List.getElem_inj h).mp e2
def held (n : Nat) (t : Tm) (a : Rat) : List (List Nat) := (lots n).filter fun l => !decide (cor n t l < a)
def blks (n : Nat) (t : Tm) (a : Rat) : List (List Nat) := (lots n).filter fun l => !decide (oth n l ∈ held n t a)
def leastL (L : List (List Nat)) : List (List Nat) := L.filter fun l => !(l.any fun p => decide (l.filter (fun q => !decide (q = p)) ∈ L))
def vets (n : Nat) (L : List (List Nat)) : List Nat := (List.range n).filter fun p => L.all fun l => decide (p ∈ l)
def wpN (l : List Nat) (p : Nat) : List Nat := l.filter (fun q => decide (q < p)) ++ [p] ++ l.filter fun q => decide (p < q)
def swg (n : Nat) (L : List (List Nat)) (p : Nat) : Nat := (((lots n).filter fun l => !decide (p ∈ l) && !decide (l ∈ L)).filter fun l => decide (wpN l p ∈ L)).length
def aloT (n : Nat) (L : List (List Nat)) (p : Nat) : Bool := (lots n).all fun l => decide (p ∈ l) == decide (l ∈ L)
def aloD (n : Nat) (L : List (List Nat)) : PyData := match (List.range n).find? (aloT n L) with
  | some p => .int p
  | none => .none
def chkP (n : Nat) : Bool := (lots n).all fun l => (List.range n).all fun p => decide (p ∈ l) || (decide ((l ++ [p]).Perm (wpN l p)) && decide ((wpN l p).Pairwise (· ≤ ·)))
theorem chkP_ok : ∀ n : Fin 7, chkP n.1 = true := by decide +kernel
theorem wpN_ok {n p : Nat} {l : List Nat} (hn : n ≤ 6) (hl : l ∈ lots n) (hp : p < n) (h : p ∉ l) : (l ++ [p]).Perm (wpN l p) ∧ (wpN l p).Pairwise (· ≤ ·) := by
  have h1 := chkP_ok ⟨n, by omega⟩
  unfold chkP at h1
  have h2 := List.all_eq_true.mp (List.all_eq_true.mp h1 l hl) p (List.mem_range.mpr hp)
  simp only [Bool.or_eq_true, Bool.and_eq_true, decide_eq_true_eq] at h2
  exact h2.resolve_left h
section
variable {P : Program} {w : World} {K : PySem.W.Frag} {mg : Str → Option Value} {base : Heap}
theorem ok_corners_of (T : Txt K mg) : Fnc P w K mg base CX0 14 "corners_of" ["rule"] (Pr (fun _ => w0) (fun x : Nat × Tm => TOk x.1 x.2) (fun x => [ruleS K x.1 x.2.toD]) (fun x => dictS K P w (rowsL (lots x.1) fun l => rD (cor x.1 x.2 l)))) := by
  have FC := ok_corner_of (P := P) (w := w) (base := base) T
  have FA := ok_all_lots (P := P) (w := w) (base := base) T
  refine fnc_mk (k := 13) T.f_corners_of sc_corners_of (fun _ _ _ _ _ _ us hl => match us, hl with | [_], _ => rfl) (fun _ _ => rfl) fun f cdv A outer s H Ex x E hok hw hr => ?_
  have hr1 : Room 1 (A.deeper (envOfC "corners_of" (defScope s_corners_of) s.heap.objs.size f cdv)) := hr.mono (by decide)
  have hW := whole_facts hok.n6
  have hu : (A.deeper (envOfC "corners_of" (defScope s_corners_of) s.heap.objs.size f cdv)).units + 1 < cLine := by have := hr.units; omega
  refine xss_ret (xe_is (xe_dx 1 (n := (lots x.1).length) (Y := fun k => lotD ((lots x.1).getD k [])) (fun _ => true) (fun k => natI ((lots x.1).getD k [])) (fun k => rD (cor x.1 x.2 ((lots x.1).getD k []))) rfl hu sc_corners_of.nd
    (xi_lots (xe_tl (xe_callL x.1 _ FA hr1 rfl pass0 ⟨hok.n1, hok.n6⟩ (xa_cons (xe_people (d := x.2.toD) (xv 0 rfl)) xa_nil) (fun _ h => h)))) (by omega) (fun i j hi hj _ _ e => nodup_inj hW.2.2.1 hi hj e) (fun k hk _ _ _ _ _ => xts_nil)
    (fun k hk _ _ _ _ _ _ => xe_d (xv 1 rfl) (lotD_nat _)) (fun k hk _ _ _ _ _ _ => xe_call (x.1, x.2, (lots x.1).getD k []) FC hr rfl pass0 hok (xa_cons (xv 0 rfl) (xa_cons (xv 1 rfl) xa_nil)))
    (blkOk_by (N := N_corners_of) (sc := defScope s_corners_of) (by decide +kernel)) (fun _ _ _ _ _ => pg_name sc_corners_of.nd rfl (.inl rfl))) ?_)
  exact congrArg (dictS K P w) (rowsOf_all (lots x.1) fun l => rD (cor x.1 x.2 l))
abbrev HX : Type := Nat × Tm × Rat
abbrev HOk' (x : HX) : Prop := TOk x.1 x.2.1 ∧ Sz 4000 x.2.2
theorem ok_holding_lots (T : Txt K mg) : Fnc P w K mg base CX0 15 "holding_lots" ["rule", "number"] (Pr (fun _ => w0) (fun x : HX => HOk' x) (fun x => [ruleS K x.1 x.2.1.toD, dS K (rD x.2.2)]) (fun x => dictS K P w (rowsL (held x.1 x.2.1 x.2.2) fun _ => .bool true))) := by
  have FC := ok_corners_of (P := P) (w := w) (base := base) T
  have FA := ok_all_lots (P := P) (w := w) (base := base) T
  have FL := ok_is_less (P := P) (w := w) (base := base) T
  refine fnc_mk (k := 14) T.f_holding_lots sc_holding_lots (fun _ _ _ _ _ _ us hl => match us, hl with | [_, _], _ => rfl) (fun _ _ => rfl) fun f cdv A outer s H Ex x E hok hw hr => ?_
  obtain ⟨n, t, a⟩ := x
  obtain ⟨hT, ha⟩ := hok
  have hT : TOk n t := hT
  have hr1 : Room 1 (A.deeper (envOfC "holding_lots" (defScope s_holding_lots) s.heap.objs.size f cdv)) := hr.mono (by decide)
  have hW := whole_facts hT.n6
  have hu : (A.deeper (envOfC "holding_lots" (defScope s_holding_lots) s.heap.objs.size f cdv)).units + 1 < cLine := by have := hr.units; omega
  refine xss_asg 2 sc_holding_lots.nd (xe_call (n, t) FC hr rfl pass0 hT (xa_cons (xv 0 rfl) xa_nil)) ?_
  refine xss_ret (xe_is (xe_dx 3 (n := (lots n).length) (Y := fun k => lotD ((lots n).getD k [])) (fun k => !decide (cor n t ((lots n).getD k []) < a)) (fun k => natI ((lots n).getD k [])) (fun _ => .bool true) rfl hu sc_holding_lots.nd
    (xi_lots (xe_tl (xe_callL n _ FA hr1 rfl pass0 ⟨hT.n1, hT.n6⟩ (xa_cons (xe_people (d := t.toD) (xv 0 rfl)) xa_nil) (fun _ h => h)))) (by omega) (fun i j hi hj _ _ e => nodup_inj hW.2.2.1 hi hj e)
    (fun k hk _ _ _ _ _ => xts_one (xt_not (xt_val (xe_call (cor n t ((lots n).getD k []), a) FL hr1 rfl pass0 ⟨hT.sz _, ha⟩ (xa_cons (xe_dget hu (xv 2 rfl) (xe_d (xv 3 rfl) (lotD_nat _)) (fun _ _ => rfl) (by rw [dval_rows, if_pos (mem_gd hk)])) (xa_cons (xv 1 rfl) xa_nil))))))
    (fun k hk _ _ _ _ _ _ => xe_d (xv 3 rfl) (lotD_nat _)) (fun k hk _ _ _ _ _ _ => xe_bl)
    (blkOk_by (N := N_holding_lots) (sc := defScope s_holding_lots) (by decide +kernel)) (fun _ _ _ _ _ => pg_name sc_holding_lots.nd rfl (.inl rfl))) ?_)
  exact congrArg (dictS K P w) (rowsOf_L (lots n) (fun l => !decide (cor n t l < a)) fun _ => .bool true)
theorem ok_blocking_lots (T : Txt K mg) : Fnc P w K mg base CX0 16 "blocking_lots" ["rule", "number"] (Pr (fun _ => w0) (fun x : HX => HOk' x) (fun x => [ruleS K x.1 x.2.1.toD, dS K (rD x.2.2)]) (fun x => dictS K P w (rowsL (blks x.1 x.2.1 x.2.2) fun _ => .bool true))) := by
  have FH := ok_holding_lots (P := P) (w := w) (base := base) T
  have FA := ok_all_lots (P := P) (w := w) (base := base) T
  have FO := ok_others_of (P := P) (w := w) (base := base) T
  refine fnc_mk (k := 15) T.f_blocking_lots sc_blocking_lots (fun _ _ _ _ _ _ us hl => match us, hl with | [_, _], _ => rfl) (fun _ _ => rfl) fun f cdv A outer s H Ex x E hok hw hr => ?_
  obtain ⟨n, t, a⟩ := x
  have hT : TOk n t := hok.1
  have hr1 : Room 1 (A.deeper (envOfC "blocking_lots" (defScope s_blocking_lots) s.heap.objs.size f cdv)) := hr.mono (by decide)
  have hW := whole_facts hT.n6
  have hu : (A.deeper (envOfC "blocking_lots" (defScope s_blocking_lots) s.heap.objs.size f cdv)).units + 1 < cLine := by have := hr.units; omega
  refine xss_asg 2 sc_blocking_lots.nd (xe_call (n, t, a) FH hr rfl pass0 hok (xa_cons (xv 0 rfl) (xa_cons (xv 1 rfl) xa_nil))) ?_
  refine xss_ret (xe_is (xe_dx 3 (n := (lots n).length) (Y := fun k => lotD ((lots n).getD k [])) (fun k => !decide (oth n ((lots n).getD k []) ∈ held n t a)) (fun k => natI ((lots n).getD k [])) (fun _ => .bool true) rfl hu sc_blocking_lots.nd
    (xi_lots (xe_tl (xe_callL n _ FA hr1 rfl pass0 ⟨hT.n1, hT.n6⟩ (xa_cons (xe_people (d := t.toD) (xv 0 rfl)) xa_nil) (fun _ h => h)))) (by omega) (fun i j hi hj _ _ e => nodup_inj hW.2.2.1 hi hj e)
    (fun k hk _ _ _ _ _ => xts_one (xt_is (xt_c (xc_notInX hu (l := natI (oth n ((lots n).getD k []))) (kvs := rowsL (held n t a) fun _ => .bool true) (xe_is (xe_call (n, (lots n).getD k []) FO hr1 rfl pass0 hT.n6 (xa_cons (xe_people (d := t.toD) (xv 0 rfl)) (xa_cons (xv 3 rfl) xa_nil))) (congrArg (dS K) (lotD_nat _))) (xv 2 rfl))) (by rw [dval_isSome])))
    (fun k hk _ _ _ _ _ _ => xe_d (xv 3 rfl) (lotD_nat _)) (fun k hk _ _ _ _ _ _ => xe_bl)
    (blkOk_by (N := N_blocking_lots) (sc := defScope s_blocking_lots) (by decide +kernel)) (fun _ _ _ _ _ => pg_name sc_blocking_lots.nd rfl (.inl rfl))) ?_)
  exact congrArg (dictS K P w) (rowsOf_L (lots n) (fun l => !decide (oth n l ∈ held n t a)) fun _ => .bool true)
end
end K81
end

section
set_option Elab.async false
set_option linter.all false
set_option maxRecDepth 100000
namespace K81
open PySem PySem.Spec PyProof.Rows L2
/-! ### who holds, blocks, vetoes, swings -/
theorem rowsL_len (L : List (List Nat)) (v : List Nat → PyData) : (rowsL L v).length = L.length := List.length_map _
theorem rowsL_get {L : List (List Nat)} {v : List Nat → PyData} {i : Nat} (h : i < L.length) : (rowsL L v).getD i ([], .none) = (natI (L.getD i []), v (L.getD i [])) := by
  unfold rowsL
  rw [gd _ (by simpa using h), gd _ h, List.getElem_map]
section
variable {X : Cx} {w : Wd} {ρ : Rho} {e tg : Expr} {L : List (List Nat)} {v : List Nat → PyData}
theorem xi_rows (h : XE X w e ρ (dictS X.K X.prog X.w (rowsL L v))) : XI X w tg e ρ (· = L.length) (fun i => dS X.K (lotD (L.getD i []))) := by
  have h1 := xi_keys (tg := tg) h
  rw [rowsL_len] at h1
  exact xi_weak h1 fun n i G x hn hi q => by
    subst hn
    rw [rowsL_get hi, kD_nat] at q
    exact q
end
theorem range_all {α : Type} (p : α → Bool) (L : List α) (d : α) : ((List.range L.length).map fun k => p (L.getD k d)).all id = L.all p := by
  have e := congrArg (List.map p) (range_getD L d)
  rw [List.map_map] at e
  have e2 : (List.range L.length).map (fun k => p (L.getD k d)) = L.map p := e
  rw [e2, List.all_map]
  rfl
section
variable {P : Program} {w : World} {K : PySem.W.Frag} {mg : Str → Option Value} {base : Heap}
theorem ok_check_number (T : Txt K mg) : Fnc P w K mg base CX0 4 "check_number" ["thing"] (Pr (fun _ => w0) (fun x : Th => x.ok ∧ x.nu = true) (fun x => [x.sc K]) (fun _ => dS K .none)) := by
  have F := ok_is_number (P := P) (w := w) (base := base) T
  refine fnc_mk (k := 3) T.f_check_number sc_check_number (fun _ _ _ _ _ _ us hl => match us, hl with | [_], _ => rfl) (fun _ _ => rfl) fun f cdv A outer s H Ex x E hok hw hr => ?_
  obtain ⟨h1, h2⟩ := hok
  refine xss_ifR (xt_not (xt_val (x := true) (xe_call x F hr rfl pass0 h1 (xa_cons (xv 0 rfl) xa_nil) (hs := by rw [h2]; rfl)))) (fun h => nomatch h) fun _ => ?_
  exact xss_nil fun σ H' q => by
    obtain ⟨G', as, S⟩ := q
    exact ⟨G', S.aft, .non⟩
theorem ok_least_among (T : Txt K mg) : Fnc P w K mg base CX0 2 "least_among" ["lots"] (PrL K (fun _ => w0) (fun L : List (List Nat) => L.length ≤ 64 ∧ ∀ l ∈ L, l.length ≤ 6) (fun L => [dictS K P w (rowsL L fun _ => .bool true)]) (fun L ds => ds = lotsD (leastL L))) := by
  have FW := ok_without (P := P) (w := w) (base := base) T
  refine fnc_mkL (k := 1) T.f_least_among sc_least_among (fun _ _ _ _ _ _ us hl => match us, hl with | [_], _ => rfl) (fun _ _ => rfl) fun f cdv A outer s H Ex L E hok hw hr => ?_
  obtain ⟨hL, hl6⟩ := hok
  have hu : (A.deeper (envOfC "least_among" (defScope s_least_among) s.heap.objs.size f cdv)).units + 1 < cLine := by have := hr.units; omega
  refine xss_retL (xl_weak (xl_lcx rfl (xlcN 1 (n := L.length) (Y := fun k => lotD (L.getD k [])) (fun k => !((L.getD k []).any fun p => decide ((L.getD k []).filter (fun q => !decide (q = p)) ∈ L))) (fun k => lotD (L.getD k [])) sc_least_among.nd (xi_rows (xv 0 rfl)) (by omega)
    (fun k hk s2 H2 C2 cl2 fp2 => xts_one (xt_not (xt_val (xe_is (xe_any (bs := (L.getD k []).map fun p => decide ((L.getD k []).filter (fun q => !decide (q = p)) ∈ L)) rfl rfl T.b_any (xe_is (xe_tl (xe_xl1 (xl_lcx rfl (xlcN 2 (n := (L.getD k []).length) (Y := fun i => .int ((L.getD k []).getD i 0 : Nat)) (fun _ => true) (fun i => .bool (decide ((L.getD k []).filter (fun q => !decide (q = (L.getD k []).getD i 0)) ∈ L))) sc_least_among.nd (xi_lot (xv 1 rfl)) (by have := hl6 _ (mem_gd hk); omega) (fun _ _ _ _ _ _ _ => xts_nil)
      (fun i hi _ s3 H3 C3 cl3 fp3 => xe_d (xe_c (xc_inX hu (l := natI ((L.getD k []).filter fun q => !decide (q = (L.getD k []).getD i 0))) (kvs := rowsL L fun _ => .bool true) (xe_is (xe_call (L.getD k [], (L.getD k []).getD i 0) FW hr rfl pass0 (Nat.le_trans (hl6 _ (mem_gd hk)) (by decide)) (xa_cons (xv 1 rfl) (xa_cons (xv 2 rfl) xa_nil))) (congrArg (dS K) (lotD_nat _))) (xv 0 rfl))) (by rw [dval_isSome]))
      ?blk (fun _ _ _ _ _ => pg_name sc_least_among.nd rfl (.inl rfl)))))) ?e1)) ?e2))))
    (fun k hk _ _ _ _ _ _ => xv 1 rfl) (blkOk_by (N := N_least_among) (sc := defScope s_least_among) (by decide +kernel)) (fun _ _ _ _ _ => pg_name sc_least_among.nd rfl (.inr rfl)))) fun ds hds => ?_)
  case blk => exact blkOk_by (by rfl)
  case e1 =>
    rw [List.filter_eq_self.mpr fun _ _ => rfl, List.map_map]
    exact congrArg (fun l => dS K (.list l)) (range_map (fun p : Nat => PyData.bool (decide ((L.getD k []).filter (fun q => !decide (q = p)) ∈ L))) 0 rfl)
  case e2 => rw [List.any_map]; rfl
  · rw [hds]
    exact range_fm (fun l : List Nat => !(l.any fun p => decide (l.filter (fun q => !decide (q = p)) ∈ L))) lotD L []
end
end K81
end

section
set_option Elab.async false
set_option linter.all false
set_option maxRecDepth 100000
namespace K81
open PySem PySem.Spec PyProof.Rows L2
/-! ### the five doors, at numbers -/
section
variable {X : Cx} {w : Wd} {E : En} {ρ : Rho} {os : List (List PyData)} {gs : List Hp} {e : Expr} {es : List Expr} {p pos : Pos} {s : Sc} {rest : List Stmt} {D : Ends} {n : Str} {CX : CXT} {k : Nat} {ps : List Str} {α : Type} {ok : α → Prop} {pre : α → List Sc} {P : α → List PyData → Prop}
theorem xss_expr (he : XE X E.w e ρ s) (k : XSs X rest (Sta X.K E ρ os gs) D) (hs : swapsWith e none pos.line X.env = pure false := by rfl) : XSs X (.Expr e pos :: rest) (Sta X.K E ρ os gs) D :=
  xss_st (ps_expr (pe_x he) hs) (Mid := Sta X.K E ρ os gs) (fun σ H ⟨G, as, S⟩ => tX_then S.env S.bef fun v G' H' A hv => ⟨G', as, S.next A⟩) k
theorem xl_callL {E : XK} (x : α) (ds : List PyData) (F : Fnc X.prog X.w X.K X.mg X.base CX k n ps (PrL X.K (fun _ => w0) ok pre P)) (hr : Room k X.A) (hg : Gl X n) (hx : Passes CX X E) (hok : ok x) (ha : XA X w (e :: es) ρ (pre x)) (hP : ∀ us, P x us → us = ds) (hdb : (n == ("__debug__" : Str)) = false := by decide)
    (he : starEach (e :: es) X.env = (false, eval e X.env) :: starEach es X.env := by rfl) (hpl : (backTo pos (starEach es X.env)).any (·.1) = false := by rfl) : XL X w (.Call (.Name n p) (e :: es) [] pos) ρ (· = ds) :=
  xl_weak (xl_call x F hr hg hx hok ha hdb he hpl) hP
end
theorem nu_rat {a : Rat} (h0 : 0 ≤ a) (h1 : a ≤ 1) : nuB [.int a.num, .int a.den] = true := by
  have n0 : 0 ≤ a.num := Rat.num_nonneg.mpr h0
  have d1 := a.den_pos
  have n1 := num_le_mul (m := 1) h0 h1
  have g : Int.gcd a.num a.den = 1 := a.reduced
  show (decide ((1 : Int) ≤ a.den) && decide (Int.gcd a.num a.den = 1) && (decide (0 ≤ a.num) && decide (a.num ≤ a.den))) = true
  rw [decide_eq_true (show (1 : Int) ≤ a.den by omega), decide_eq_true g, decide_eq_true n0, decide_eq_true (show a.num ≤ a.den by omega)]
  rfl
abbrev HN (x : HX) : Prop := TOk x.1 x.2.1 ∧ Nq 2400 x.2.2
theorem HN.h {x : HX} (h : HN x) : HOk' x := ⟨h.1, h.2.sz (Nat.le_refl _)⟩
abbrev thR (a : Rat) : Th := .tup [.int a.num, .int a.den]
theorem thR_ok {a : Rat} (h : Nq 2400 a) : (thR a).ok ∧ (thR a).nu = true := ⟨⟨fun d hd => by
  simp only [List.mem_cons, List.not_mem_nil, or_false] at hd
  rcases hd with e | e
  · exact .inl ⟨_, e⟩
  · exact .inl ⟨_, e⟩, Nat.le_of_ble_eq_true rfl⟩, nu_rat h.lo h.hi⟩
theorem sub_lots {n : Nat} (hn : n ≤ 6) (p : List Nat → Bool) : ((lots n).filter p).length ≤ 64 ∧ ∀ l ∈ (lots n).filter p, l.length ≤ 6 := by
  have hW := whole_facts hn
  refine ⟨Nat.le_trans (List.length_filter_le _ _) hW.2.2.2, fun l hl => ?_⟩
  have := (lots_mem hn (List.mem_filter.mp hl).1).1
  omega
theorem aloD_some {n : Nat} {L : List (List Nat)} {i : Nat} (hi : i < n) (h : aloT n L i = true) (k : ∀ p, p < i → aloT n L p = false) : aloD n L = .int i := by
  have e : (List.range n).find? (aloT n L) = some i := by
    rw [List.find?_eq_some_iff_getElem]
    refine ⟨h, i, by simpa using hi, by simp, fun j hj => ?_⟩
    rw [List.getElem_range, k j hj]
    rfl
  unfold aloD
  rw [e]
theorem aloD_none {n : Nat} {L : List (List Nat)} (k : ∀ p, p < n → aloT n L p = false) : aloD n L = .none := by
  have e : (List.range n).find? (aloT n L) = none := by
    rw [List.find?_eq_none]
    intro p hp
    rw [k p (List.mem_range.mp hp)]
    decide
  unfold aloD
  rw [e]
theorem bool_eqv (a b : Bool) : PyData.eqv (.bool a) (.bool b) = (a == b) := by cases a <;> cases b <;> rfl
section
variable {P : Program} {w : World} {K : PySem.W.Frag} {mg : Str → Option Value} {base : Heap}
theorem ok_least_lots (T : Txt K mg) : Fnc P w K mg base CX0 16 "least_lots" ["rule", "number"] (PrL K (fun _ => w0) (fun x : HX => HN x) (fun x => [ruleS K x.1 x.2.1.toD, dS K (rD x.2.2)]) (fun x ds => ds = lotsD (leastL (held x.1 x.2.1 x.2.2)))) := by
  have FN := ok_check_number (P := P) (w := w) (base := base) T
  have FH := ok_holding_lots (P := P) (w := w) (base := base) T
  have FA := ok_least_among (P := P) (w := w) (base := base) T
  refine fnc_mkL (k := 15) T.f_least_lots sc_least_lots (fun _ _ _ _ _ _ us hl => match us, hl with | [_, _], _ => rfl) (fun _ _ => rfl) fun f cdv A outer s H Ex x E hok hw hr => ?_
  have hr4 : Room 4 (A.deeper (envOfC "least_lots" (defScope s_least_lots) s.heap.objs.size f cdv)) := hr.mono (by decide)
  have hr2 : Room 2 (A.deeper (envOfC "least_lots" (defScope s_least_lots) s.heap.objs.size f cdv)) := hr.mono (by decide)
  refine xss_expr (xe_call (s := dS K .none) (thR x.2.2) FN hr4 rfl pass0 (thR_ok hok.2) (xa_cons (xv 1 rfl) xa_nil)) ?_
  exact xss_retL (xl_callL (held x.1 x.2.1 x.2.2) _ FA hr2 rfl pass0 (sub_lots hok.1.n6 _) (xa_cons (xe_call x FH hr rfl pass0 hok.h (xa_cons (xv 0 rfl) (xa_cons (xv 1 rfl) xa_nil))) xa_nil) (fun _ h => h))
theorem ok_least_blocks (T : Txt K mg) : Fnc P w K mg base CX0 17 "least_blocks" ["rule", "number"] (PrL K (fun _ => w0) (fun x : HX => HN x) (fun x => [ruleS K x.1 x.2.1.toD, dS K (rD x.2.2)]) (fun x ds => ds = lotsD (leastL (blks x.1 x.2.1 x.2.2)))) := by
  have FN := ok_check_number (P := P) (w := w) (base := base) T
  have FH := ok_blocking_lots (P := P) (w := w) (base := base) T
  have FA := ok_least_among (P := P) (w := w) (base := base) T
  refine fnc_mkL (k := 16) T.f_least_blocks sc_least_blocks (fun _ _ _ _ _ _ us hl => match us, hl with | [_, _], _ => rfl) (fun _ _ => rfl) fun f cdv A outer s H Ex x E hok hw hr => ?_
  have hr4 : Room 4 (A.deeper (envOfC "least_blocks" (defScope s_least_blocks) s.heap.objs.size f cdv)) := hr.mono (by decide)
  have hr2 : Room 2 (A.deeper (envOfC "least_blocks" (defScope s_least_blocks) s.heap.objs.size f cdv)) := hr.mono (by decide)
  refine xss_expr (xe_call (s := dS K .none) (thR x.2.2) FN hr4 rfl pass0 (thR_ok hok.2) (xa_cons (xv 1 rfl) xa_nil)) ?_
  exact xss_retL (xl_callL (blks x.1 x.2.1 x.2.2) _ FA hr2 rfl pass0 (sub_lots hok.1.n6 _) (xa_cons (xe_call x FH hr rfl pass0 hok.h (xa_cons (xv 0 rfl) (xa_cons (xv 1 rfl) xa_nil))) xa_nil) (fun _ h => h))
theorem ok_vetoes (T : Txt K mg) : Fnc P w K mg base CX0 16 "vetoes" ["rule", "number"] (Pr (fun _ => w0) (fun x : HX => HN x) (fun x => [ruleS K x.1 x.2.1.toD, dS K (rD x.2.2)]) (fun x => dS K (lotD (vets x.1 (held x.1 x.2.1 x.2.2))))) := by
  have FN := ok_check_number (P := P) (w := w) (base := base) T
  have FH := ok_holding_lots (P := P) (w := w) (base := base) T
  refine fnc_mk (k := 15) T.f_vetoes sc_vetoes (fun _ _ _ _ _ _ us hl => match us, hl with | [_, _], _ => rfl) (fun _ _ => rfl) fun f cdv A outer s H Ex x E hok hw hr => ?_
  have hr4 : Room 4 (A.deeper (envOfC "vetoes" (defScope s_vetoes) s.heap.objs.size f cdv)) := hr.mono (by decide)
  have hL := sub_lots hok.1.n6 fun l => !decide (cor x.1 x.2.1 l < x.2.2)
  have hn := hok.1.n6
  refine xss_expr (xe_call (s := dS K .none) (thR x.2.2) FN hr4 rfl pass0 (thR_ok hok.2) (xa_cons (xv 1 rfl) xa_nil)) ?_
  refine xss_asg 2 sc_vetoes.nd (xe_call x FH hr rfl pass0 hok.h (xa_cons (xv 0 rfl) (xa_cons (xv 1 rfl) xa_nil))) ?_
  generalize hLL : held x.1 x.2.1 x.2.2 = L at hL ⊢
  have hL : L.length ≤ 64 := by rw [← hLL]; exact hL.1
  refine xss_ret (xe_is (xe_tupleOf rfl T.b_tuple (xe_tl (xe_xl1 (xl_lcx rfl (xlcN 3 (n := x.1) (Y := fun k => .int k) (fun p => L.all fun l => decide (p ∈ l)) (fun k => .int k) sc_vetoes.nd (xi_range1 rfl T.b_range (xe_people (d := x.2.1.toD) (xv 0 rfl)) (by omega)) (by omega)
    (fun k hk s2 H2 C2 cl2 fp2 => xts_one (xt_val (xe_is (xe_all (bs := L.map fun l => decide (k ∈ l)) rfl rfl T.b_all (xe_is (xe_tl (xe_xl1 (xl_lcx rfl (xlcN 4 (n := L.length) (Y := fun i => lotD (L.getD i [])) (fun _ => true) (fun i => .bool (decide (k ∈ L.getD i []))) sc_vetoes.nd (xi_rows (v := fun _ => .bool true) (xv 2 rfl)) (by omega) (fun _ _ _ _ _ _ _ => xts_nil)
      (fun i hi _ s3 H3 C3 cl3 fp3 => xe_c (xc_inP (xv 3 rfl) (xv 4 rfl))) ?blk (fun _ _ _ _ _ => pg_name sc_vetoes.nd rfl (.inl rfl)))))) ?e1)) ?e2)))
    (fun k hk _ _ _ _ _ _ => xv 3 rfl) (blkOk_by (N := N_vetoes) (sc := defScope s_vetoes) (by decide +kernel)) (fun _ _ _ _ _ => pg_name sc_vetoes.nd rfl (.inr rfl))))))) ?fin)
  case blk => exact blkOk_by (by rfl)
  case e1 =>
    rw [List.filter_eq_self.mpr fun _ _ => rfl, List.map_map]
    exact congrArg (fun l => dS K (.list l)) (range_map (fun l : List Nat => PyData.bool (decide (k ∈ l))) [] rfl)
  case e2 => rw [List.all_map]; rfl
  case fin => rfl
theorem ok_alone (T : Txt K mg) : Fnc P w K mg base CX0 16 "alone" ["rule", "number"] (Pr (fun _ => w0) (fun x : HX => HN x) (fun x => [ruleS K x.1 x.2.1.toD, dS K (rD x.2.2)]) (fun x => dS K (aloD x.1 (held x.1 x.2.1 x.2.2)))) := by
  have FN := ok_check_number (P := P) (w := w) (base := base) T
  have FH := ok_holding_lots (P := P) (w := w) (base := base) T
  have FA := ok_all_lots (P := P) (w := w) (base := base) T
  refine fnc_mk (k := 15) T.f_alone sc_alone (fun _ _ _ _ _ _ us hl => match us, hl with | [_, _], _ => rfl) (fun _ _ => rfl) fun f cdv A outer s H Ex x E hok hw hr => ?_
  have hr4 : Room 4 (A.deeper (envOfC "alone" (defScope s_alone) s.heap.objs.size f cdv)) := hr.mono (by decide)
  have hr1 : Room 1 (A.deeper (envOfC "alone" (defScope s_alone) s.heap.objs.size f cdv)) := hr.mono (by decide)
  have hu : (A.deeper (envOfC "alone" (defScope s_alone) s.heap.objs.size f cdv)).units + 1 < cLine := by have := hr.units; omega
  have hu64 : (A.deeper (envOfC "alone" (defScope s_alone) s.heap.objs.size f cdv)).units + 64 < cLine := hr.units
  have hn := hok.1.n6
  have hn1 := hok.1.n1
  have hW := whole_facts hn
  refine xss_expr (xe_call (s := dS K .none) (thR x.2.2) FN hr4 rfl pass0 (thR_ok hok.2) (xa_cons (xv 1 rfl) xa_nil)) ?_
  refine xss_asg 2 sc_alone.nd (xe_call x FH hr rfl pass0 hok.h (xa_cons (xv 0 rfl) (xa_cons (xv 1 rfl) xa_nil))) ?_
  refine xss_for (ι := Unit) (gv := [3]) (fun i _ => ∀ p, p < i → aloT x.1 (held x.1 x.2.1 x.2.2) p = false) (fun i _ => [.dat (ruleS K x.1 x.2.1.toD), .dat (dS K (rD x.2.2)), .dat (dictS K P w (rowsL (held x.1 x.2.1 x.2.2) fun _ => .bool true)), .no, .no]) (fun i _ => [])
    (fun i _ => [.dat (ruleS K x.1 x.2.1.toD), .dat (dS K (rD x.2.2)), .dat (dictS K P w (rowsL (held x.1 x.2.1 x.2.2) fun _ => .bool true)), .dat (dS K (.int i)), .no]) .never rfl (xi_range1 rfl T.b_range (xe_people (d := x.2.1.toD) (xv 0 rfl)) (by omega)) (pg_name sc_alone.nd rfl (.inr rfl)) (fun i y _ k hk => by simp at hk; rw [hk]; exact Nat.le_of_ble_eq_true rfl) (fun n i y _ _ _ => gs_name) ⟨(), (fun p hp => absurd hp (Nat.not_lt_zero p)), rfl, rfl⟩ (fun m i y g0 hm hi hinv => ?_)
    (Mid := fun σ H => aloD x.1 (held x.1 x.2.1 x.2.2) = .none ∧ Sta K E [.dat (ruleS K x.1 x.2.1.toD), .dat (dS K (rD x.2.2)), .dat (dictS K P w (rowsL (held x.1 x.2.1 x.2.2) fun _ => .bool true)), .no, .no] [] [] σ H) (fun m y hm hinv σ H h => ⟨aloD_none (hm ▸ hinv), h⟩) (xss_and fun hN => xss_ret (xe_is xe_non (by rw [← hN])))
  subst hm
  refine xss_ifR (xt_val (x := aloT x.1 (held x.1 x.2.1 x.2.2) i) (xe_is (xe_all (bs := (lots x.1).map fun l => decide (i ∈ l) == decide (l ∈ held x.1 x.2.1 x.2.2)) rfl rfl T.b_all (xe_is (xe_tl (xe_xl1 (xl_lcx rfl (xlcN 4 (n := (lots x.1).length) (Y := fun k => lotD ((lots x.1).getD k [])) (fun _ => true) (fun k => .bool (decide (i ∈ (lots x.1).getD k []) == decide ((lots x.1).getD k [] ∈ held x.1 x.2.1 x.2.2))) sc_alone.nd
    (xi_lots (xe_tl (xe_callL x.1 _ FA hr1 rfl pass0 ⟨hn1, hn⟩ (xa_cons (xe_people (d := x.2.1.toD) (xv 0 rfl)) xa_nil) (fun _ h => h)))) (by omega) (fun _ _ _ _ _ _ _ => xts_nil)
    (fun k hk _ s3 H3 C3 cl3 fp3 => xe_d (xe_c (xc_eq (d := .bool (decide (i ∈ (lots x.1).getD k []))) (d' := .bool (decide ((lots x.1).getD k [] ∈ held x.1 x.2.1 x.2.2))) hu64 (xe_c (xc_inP (xv 3 rfl) (xv 4 rfl))) (xe_d (xe_c (xc_inX hu (l := natI ((lots x.1).getD k [])) (kvs := rowsL (held x.1 x.2.1 x.2.2) fun _ => .bool true) (xe_d (xv 4 rfl) (lotD_nat _)) (xv 2 rfl))) (by rw [dval_isSome])) rfl rfl)) (by rw [bool_eqv]))
    (blkOk_by (N := N_alone) (sc := defScope s_alone) (by decide +kernel)) (fun _ _ _ _ _ => pg_name sc_alone.nd rfl (.inl rfl)))))) ?e1)) ?e2)) (fun h => ?_) fun h => ?_
  case e1 =>
    rw [List.filter_eq_self.mpr fun _ _ => rfl, List.map_map]
    exact congrArg (fun l => dS K (.list l)) (range_map (fun l : List Nat => PyData.bool (decide (i ∈ l) == decide (l ∈ held x.1 x.2.1 x.2.2))) [] rfl)
  case e2 => rw [List.all_map]; exact rfl
  · refine xss_ret (xe_is (xv 3 rfl) ?_)
    rw [aloD_some hi h.symm hinv]
  · refine xss_nil fun σ H q => ⟨(), fun p hp => ?_, sta_sub (.same (.same (.same (.no (.no .nil))))) q⟩
    by_cases e : p = i
    · subst e; exact h.symm
    · exact hinv p (by omega)
theorem ok_swings (T : Txt K mg) : Fnc P w K mg base CX0 16 "swings" ["rule", "number"] (Pr (fun _ => w0) (fun x : HX => HN x) (fun x => [ruleS K x.1 x.2.1.toD, dS K (rD x.2.2)]) (fun x => dS K (lotD ((List.range x.1).map (swg x.1 (held x.1 x.2.1 x.2.2)))))) := by
  have FN := ok_check_number (P := P) (w := w) (base := base) T
  have FH := ok_holding_lots (P := P) (w := w) (base := base) T
  have FA := ok_all_lots (P := P) (w := w) (base := base) T
  have FW := ok_with_person (P := P) (w := w) (base := base) T
  refine fnc_mk (k := 15) T.f_swings sc_swings (fun _ _ _ _ _ _ us hl => match us, hl with | [_, _], _ => rfl) (fun _ _ => rfl) fun f cdv A outer s H Ex x E hok hw hr => ?_
  obtain ⟨n, t, a⟩ := x
  have hok : HN (n, t, a) := hok
  have hr4 : Room 4 (A.deeper (envOfC "swings" (defScope s_swings) s.heap.objs.size f cdv)) := hr.mono (by decide)
  have hr1 : Room 1 (A.deeper (envOfC "swings" (defScope s_swings) s.heap.objs.size f cdv)) := hr.mono (by decide)
  have hu : (A.deeper (envOfC "swings" (defScope s_swings) s.heap.objs.size f cdv)).units + 1 < cLine := by have := hr.units; omega
  have hn : n ≤ 6 := hok.1.n6
  have hn1 : 1 ≤ n := hok.1.n1
  have hW := whole_facts hn
  refine xss_expr (xe_call (s := dS K .none) (thR a) FN hr4 rfl pass0 (thR_ok hok.2) (xa_cons (xv 1 rfl) xa_nil)) ?_
  refine xss_asg 2 sc_swings.nd (xe_call (n, t, a) FH hr rfl pass0 hok.h (xa_cons (xv 0 rfl) (xa_cons (xv 1 rfl) xa_nil))) ?_
  refine xss_asgL 3 sc_swings.nd (xl_lst [] xa_nil) fun ds hds => ?_
  subst hds
  refine xss_for (ι := Unit) (gv := [4]) (fun i _ => True) (fun i _ => [.dat (ruleS K n t.toD), .dat (dS K (rD a)), .dat (dictS K P w (rowsL (held n t a) fun _ => .bool true)), .own 0, .no, .no, .no]) (fun i _ => [(List.range i).map fun p => .int (swg n (held n t a) p : Nat)])
    (fun i _ => [.dat (ruleS K n t.toD), .dat (dS K (rD a)), .dat (dictS K P w (rowsL (held n t a) fun _ => .bool true)), .own 0, .dat (dS K (.int i)), .no, .no]) .never rfl (xi_range1 rfl T.b_range (xe_people (d := t.toD) (xv 0 rfl)) (by omega)) (pg_name sc_swings.nd rfl (.inr rfl)) (fun i y _ k hk => by simp at hk; rw [hk]; exact Nat.le_of_ble_eq_true rfl) (fun n i y _ _ _ => gs_name) ⟨(), True.intro, rfl, rfl⟩ (fun m i y g0 hm hi _ => ?_)
    (Mid := Sta K E [.dat (ruleS K n t.toD), .dat (dS K (rD a)), .dat (dictS K P w (rowsL (held n t a) fun _ => .bool true)), .own 0, .no, .no, .no] [(List.range n).map fun p => .int (swg n (held n t a) p : Nat)] []) (fun m y hm _ σ H h => by have e : m = n := hm; subst e; exact h) ?_
  · subst hm
    refine xss_setL 5 rfl (xlcN 6 (n := (lots m).length) (Y := fun k => lotD ((lots m).getD k [])) (fun k => !decide (i ∈ (lots m).getD k []) && !decide ((lots m).getD k [] ∈ held m t a)) (fun k => lotD ((lots m).getD k [])) sc_swings.nd
      (xi_lots (xe_tl (xe_callL m _ FA hr1 rfl pass0 ⟨hn1, hn⟩ (xa_cons (xe_people (d := t.toD) (xv 0 rfl)) xa_nil) (fun _ h => h)))) (by omega)
      (fun k hk _ _ _ _ _ => xts_one (xt_w (xw_and (xt_c (xc_notInP (xv 4 rfl) (xv 6 rfl))) fun _ => xw_and1 (xt_is (xt_c (xc_notInX hu (l := natI ((lots m).getD k [])) (kvs := rowsL (held m t a) fun _ => .bool true) (xe_d (xv 6 rfl) (lotD_nat _)) (xv 2 rfl))) (by rw [dval_isSome])))))
      (fun k hk _ _ _ _ _ _ => xv 6 rfl) (blkOk_by (N := N_swings) (sc := defScope s_swings) (by decide +kernel)) (fun _ _ _ _ _ => pg_name sc_swings.nd rfl (.inl rfl))) rfl fun ds hds => ?_
    have hds2 : ds = lotsD ((lots m).filter fun l => !decide (i ∈ l) && !decide (l ∈ held m t a)) := hds.trans (range_fm (fun l : List Nat => !decide (i ∈ l) && !decide (l ∈ held m t a)) lotD (lots m) [])
    subst hds2
    generalize hF : (lots m).filter (fun l => !decide (i ∈ l) && !decide (l ∈ held m t a)) = F
    have hFm : ∀ l ∈ F, l ∈ lots m ∧ i ∉ l := fun l hl => by
      rw [← hF] at hl
      obtain ⟨q1, q2⟩ := List.mem_filter.mp hl
      refine ⟨q1, ?_⟩
      rw [Bool.and_eq_true] at q2
      have := q2.1
      simpa using this
    have hFl : F.length ≤ 64 := by rw [← hF]; exact (sub_lots hn _).1
    refine xss_append1 (i := 3) (k := 0) (d := .int (swg m (held m t a) i : Nat)) (pe_bm PySem.F.plainAttrs_list PySem.F.slot_list_append PySem.F.type_list_append mt_append (pv 3) (xa_cons (xe_d (xe_lenL rfl T.b_len (xe_tl (xe_xl1 (xl_lcx rfl (xlcN 6 (n := F.length) (Y := fun k => lotD (F.getD k [])) (fun k => decide (wpN (F.getD k []) i ∈ held m t a)) (fun k => lotD (F.getD k [])) sc_swings.nd (xi_lots (xe_tl (xv 5 rfl))) (by omega)
      (fun k hk _ _ _ _ _ => xts_one (xt_is (xt_c (xc_inX hu (l := natI (wpN (F.getD k []) i)) (kvs := rowsL (held m t a) fun _ => .bool true) (xe_is (xe_call (F.getD k [], i, wpN (F.getD k []) i) FW hr1 rfl pass0 ⟨Nat.le_trans (lots_mem hn (hFm _ (mem_gd hk)).1).1 (by omega), wpN_ok hn (hFm _ (mem_gd hk)).1 hi (hFm _ (mem_gd hk)).2⟩ (xa_cons (xv 6 rfl) (xa_cons (xv 4 rfl) xa_nil))) (congrArg (dS K) (lotD_nat _))) (xv 2 rfl))) (by rw [dval_isSome])))
      (fun k hk _ _ _ _ _ _ => xv 6 rfl) (blkOk_by (N := N_swings) (sc := defScope s_swings) (by decide +kernel)) (fun _ _ _ _ _ => pg_name sc_swings.nd rfl (.inl rfl))))))) ?cnt) xa_nil)) rfl rfl (by rw [List.length_map, List.length_range]; omega) (xss_nil fun σ H q => ⟨(), True.intro, by
        rw [List.range_succ, List.map_append]
        exact sta_sub (.same (.same (.same (.same (.no (.no (.no .nil))))))) q⟩)
    case cnt =>
      rw [List.length_map, filter_len (fun l : List Nat => decide (wpN l i ∈ held m t a)) F []]
      unfold swg
      rw [hF]
  · refine xss_frz (os := []) (ds := (List.range n).map fun p => .int (swg n (held n t a) p : Nat)) ?_
    refine xss_ret (xe_is (xe_tupleOf rfl T.b_tuple (xe_tl (xv 3 rfl))) ?_)
    show _ = dS K (lotD ((List.range n).map (swg n (held n t a))))
    unfold lotD
    rw [List.map_map]
    rfl
end
end K81
end

section
set_option Elab.async false
set_option linter.all false
set_option maxRecDepth 100000
namespace K81
open PySem PySem.Spec PyProof.Rows L2
/-! ### levels: a dict of one's own -/
section
variable {X : Cx}
theorem pe_dnewX {pos : Pos} : PE X (.Dict [] [] pos) (fun σ H Q => ∀ p o, (p == sysModules) = false → H p = none → ObX X.prog X.w o [] → Q (.ref p) (upd H p (xobj p o))) := ⟨fun pins s σ H Q I h =>
  wpAny_Dict_empty ⟨.ref s.heap.objs.size, _, I.laid (a := s.heap.objs.size) (o := xobj s.heap.objs.size { cls := .type "dict", data := .dict #[] }) (t' := s.toks) (fun _ _ q => Heap.get?_push_of_some _ q) (Nat.le_refl _) (xobj_new (Heap.get?_push_size _ rfl)), rfl,
    h _ _ (beq_eq_false_iff_ne.mpr (Ne.symm (Nat.ne_of_lt I.big))) (I.hok.fresh (Nat.le_refl _)) obx_empty⟩⟩
theorem d_setItemX {pins : List (Addr × Obj)} {σ : L2.St} {H : Hp} {s : Shared} {E : Value → Shared → Prop} {D b : Addr} {o : Obj} {xs : List XRow} {kvs : List (List Int × PyData)} {k : List Int} {r : Value} {Q : Unit → Shared → Prop} (hu : X.A.units + 1 < cLine) (I : Inv X pins σ H s) (hD : H D = some (xobj D o)) (ob : ObX X.prog X.w o xs) (xk : XKV X.K H xs kvs)
    (hk : SqT X.K H b (k.map V.int)) (hz : xs.length < sizeLine) (h : ∀ o' s', ObX X.prog X.w o' (storedH xs (keyI k) b r) → Inv X pins σ (upd H D (xobj D o')) s' → Q () s') : wpAny (model X.prog X.w) X.A (setItem (.ref D) (.ref b) r) Q E s := by
  refine wpAny_setItem_heap (hsz := Nat.le_of_lt hz) (tupleKind_room_in1 hu) (key_sq I hk) (dx_of I hD ob xk) fun h' dd' hs => ?_
  obtain ⟨o', es, ep, h1, h2, h3, h4, _, h5⟩ := dd'
  exact h o' _ ⟨es, ep, h2, h3, h4, h5⟩ (d_write I (by rw [hD]; exact True.intro) hs ⟨o', h1⟩ (xobj_new h1))
/-- d[k] = v -/
theorem ps_xput {o i value : Expr} {pos pos' : Pos} {td ty tv : TE} (hu : X.A.units + 1 < cLine) (ho : PE X o td) (hi : PE X i ty) (hv : PE X value tv) (hs : swapsWith value (some (.Subscript o i pos')) pos.line X.env = pure false) :
    PS X (.Assign [.Subscript o i pos'] value pos) (fun D σ H => tv σ H fun z H1 => td σ H1 fun x H2 => ty σ H2 fun y H3 => ∃ a ob xs kvs k b, x = .ref a ∧ y = .ref b ∧ H3 a = some (xobj a ob) ∧ ObX X.prog X.w ob xs ∧ XKV X.K H3 xs kvs ∧ SqT X.K H3 b (k.map V.int) ∧ xs.length < sizeLine ∧ ∀ o' u, RelV z u → ObX X.prog X.w o' (storedH xs (keyI k) b u) → D.nx σ (upd H3 a (xobj a o'))) := by
  refine ⟨fun pins s σ H D I h => ?_⟩
  refine wpAny_Assign_Subscript (thn (hv.run pins s σ H _ I h) fun r s1 ⟨v, H1, I1, rv, q1⟩ => thn (ho.run pins s1 σ H1 _ I1 q1) fun u s2 ⟨x, H2, I2, rx, q2⟩ => thn (hi.run pins s2 σ H2 _ I2 q2) fun iv s3 ⟨y, H3, I3, ry, a, ob, xs, kvs, k, b, ex, ey, e1, e2, e3, e4, e5, q3⟩ => ?_) hs
  subst ex ey
  obtain rfl : u = Value.ref a := rx
  obtain rfl : iv = Value.ref b := ry
  exact d_setItemX hu I3 e1 e2 e3 e4 e5 fun o' s4 ob' I4 => ⟨σ, _, I4, q3 o' r rv ob'⟩
/-- list(d) -/
theorem cr_listX (hc : X.calm = true) : CallR X (.type "list") (fun vs H Q => ∃ d o xs, vs = [V.ref d] ∧ (d == sysModules) = false ∧ H d = some (xobj d o) ∧ ObX X.prog X.w o xs ∧ xs.length ≤ sizeLine ∧ ∀ p, H p = none → Q (.ref p) (upd H p (.lst (xs.map fun x => V.ref x.2.1)))) := by
  intro pins s σ H vs us Q I r h
  obtain ⟨d, o, xs, rfl, hs, hd, ⟨es, ep, hx, hdt, he, hn⟩, hz, q⟩ := h
  obtain ⟨u, rfl, rx⟩ := r.one
  cases rx
  have l1 : es.size = xs.length := size_of_entries he
  refine PySem.W.kdl_call (kdl_raw hs hx hdt) (I.ok.hd hc) (xobj_get I hd) (by omega) fun h' tk acc' c' kp e it => ?_
  have ea : acc'.toList = (xs.map fun x => x.2.1).map Value.ref := by
    have hl : acc'.toList.length = xs.length := by rw [Array.length_toList, it.1]; exact l1
    refine List.ext_getElem (by rw [List.length_map, List.length_map]; exact hl) fun j hj1 hj2 => ?_
    obtain ⟨en, hen, hv⟩ := it.2 j acc'.toList[j] (by rw [← Array.getElem?_toList]; exact List.getElem?_eq_getElem hj1)
    have hjx : j < xs.length := by omega
    have qe := entry_at he j
    rw [hen, List.getElem?_eq_getElem hjx] at qe
    have e2 : en = entryOfKey (XKd X.prog X.w) xs[j] := Option.some.inj qe
    rw [hv, e2, List.getElem_map, List.getElem_map]
    rfl
  have rv : Vals ((xs.map fun x => x.2.1).map V.ref) acc'.toList := by rw [ea]; exact vals_refs _
  have e3 : (xs.map fun x => V.ref x.2.1) = (xs.map fun x => x.2.1).map V.ref := by rw [List.map_map]; rfl
  have hz2 : ((xs.map fun x => x.2.1).map V.ref).length ≤ sizeLine := by rw [List.length_map, List.length_map]; exact hz
  have q2 := q s.heap.objs.size (I.hok.fresh (Nat.le_refl _))
  rw [e3] at q2
  refine ⟨.ref s.heap.objs.size, _, I.laid (t' := tk) (o := .lst ((xs.map fun x => x.2.1).map V.ref)) kp (Nat.le_refl _) ?_, rfl, q2⟩
  exact ⟨hz2, acc'.toList, c', rv, by rw [Array.toArray_toList]; exact e⟩
end
theorem xkv_keys {K : PySem.W.Frag} {G : Hp} {xs : List XRow} {kvs : List (List Int × PyData)} (h : XKV K G xs kvs) : DpAll K G (xs.map fun x => V.ref x.2.1) (kvs.map fun p => kD p.1) := by
  induction h with
  | nil => exact .nil
  | cons h1 _ _ _ ih => exact .cons (.tup h1 (intsDp _)) ih
section
variable {X : Cx} {w : Wd} {ρ : Rho} {a : Expr} {p pos : Pos} {kvs : List (List Int × PyData)}
theorem xl_listX (hc : X.calm = true) (hg : Gl X "list") (hm : X.mg "list" = none) (ha : XE X w a ρ (dictS X.K X.prog X.w kvs)) (hz : kvs.length ≤ 1000) (hs : starEach [a] X.env = (false, eval a X.env) :: starEach [] X.env := by rfl) : XL X w (.Call (.Name "list" p) [a] [] pos) ρ (· = kvs.map fun p => kD p.1) :=
  xl_callT (cr_listX hc) hg hm (by decide +kernel) (xa_cons ha xa_nil hs) (fun G H vs Q hB hvs k => by
    obtain ⟨v, rfl, d, rfl, o, xs, h1, h2, h3, h4⟩ := alls1 hvs
    exact ⟨d, o, xs, rfl, h1, hB.sub _ _ h2, h3, by rw [h4.len, sizeLine_eq]; omega, fun r hr => k r _ _ hr (xkv_keys h4) rfl⟩) (he := hs)
end
structure StD (K : PySem.W.Frag) (P : Program) (wo : World) (E : En) (ρ : Rho) (kvs : List (List Int × PyData)) (gs : List Hp) (σ : L2.St) (H G : Hp) (a : Addr) : Prop where
  aft : Aft E.w E.G E.H G H
  env : EnvD G σ ρ
  envo : EnvO [a] σ ρ
  gh : ∀ g ∈ gs, Ex g G
  old : E.H a = none
  out : ¬ E.w.dep a
  no : G a = none
  at_ : DXat K P wo G H a kvs
def StaD (K : PySem.W.Frag) (P : Program) (wo : World) (E : En) (ρ : Rho) (kvs : List (List Int × PyData)) (gs : List Hp) : L2.St → Hp → Prop := fun σ H => ∃ G a, StD K P wo E ρ kvs gs σ H G a
section
variable {K : PySem.W.Frag} {P : Program} {wo : World} {E : En} {ρ : Rho} {kvs : List (List Int × PyData)} {gs : List Hp} {σ : L2.St} {H G H' G' : Hp} {a : Addr}
theorem StD.bef (s : StD K P wo E ρ kvs gs σ H G a) : Bef E.w G H := E.B.aft s.aft
theorem StD.next (s : StD K P wo E ρ kvs gs σ H G a) (A : Aft E.w G H G' H') : StD K P wo E ρ kvs gs σ H' G' a := by
  obtain ⟨o, xs, h1, h2, h3, h4⟩ := s.at_
  refine ⟨s.aft.trans E.B A, s.env.mono A.g, s.envo, fun g hg => (s.gh g hg).trans A.g, s.old, s.out, ?_, o, xs, h1, A.up a _ (fun z => s.out (E.w.low z)) h2, h3, h4.mono A.g⟩
  cases q : G' a with
  | none => rfl
  | some u => rw [A.new a s.no (by rw [q]; exact fun z => nomatch z)] at h2; cases h2
theorem StD.ghost (s : StD K P wo E ρ kvs gs σ H G a) : StD K P wo E ρ kvs (G :: gs) σ H G a :=
  ⟨s.aft, s.env, s.envo, fun g hg => by
    rcases List.mem_cons.mp hg with e | hg
    · rw [e]; exact .refl _
    · exact s.gh g hg, s.old, s.out, s.no, s.at_⟩
theorem StD.lay {g : Hp} (s : StD K P wo E ρ kvs (g :: gs) σ H G a) : StD K P wo E ρ kvs gs σ H G a := ⟨s.aft, s.env, s.envo, fun b hb => s.gh b (List.mem_cons_of_mem _ hb), s.old, s.out, s.no, s.at_⟩
theorem staD_sub {ρ' : Rho} (r : RSub ρ ρ') (h : StaD K P wo E ρ kvs gs σ H) : StaD K P wo E ρ' kvs gs σ H := by
  obtain ⟨G, a, S⟩ := h
  refine ⟨G, a, S.aft, ⟨by rw [← r.len]; exact S.env.len, fun i t e => ?_⟩, fun i k e => S.envo i k (r.own i k e), S.gh, S.old, S.out, S.no, S.at_⟩
  obtain ⟨s, h1, h2⟩ := r.dat i t e
  obtain ⟨v, q1, q2⟩ := S.env.get i s h1
  exact ⟨v, q1, h2 _ _ q2⟩
/-- it is data from now on -/
theorem staD_frz {j : Nat} (hj : ρ[j]? = some (Sl.own 0)) (ho : ∀ i : Nat, i ≠ j → ρ[i]? ≠ some (Sl.own 0)) (hown : ∀ i k : Nat, ρ[i]? = some (Sl.own k) → k = 0) (h : StaD K P wo E ρ kvs gs σ H) : Sta K E (ρ.set j (.dat (dictS K P wo kvs))) [] gs σ H := by
  obtain ⟨G, a, S⟩ := h
  obtain ⟨o, xs, h1, h2, h3, h4⟩ := S.at_
  have up : Ex G (upd G a (xobj a o)) := .new S.no
  have hlt := (List.getElem?_eq_some_iff.mp hj).1
  refine ⟨upd G a (xobj a o), [], xo_frz S.aft S.old S.no h2, ⟨by rw [List.length_set]; exact S.env.len, fun i t q => ?_⟩, fun i k q => ?_, fun g hg => (S.gh g hg).trans up, .nil, rfl, fun k b ds hb => by simp at hb⟩
  · by_cases e : j = i
    · subst e
      rw [List.getElem?_set_self hlt] at q
      cases q
      obtain ⟨b, e1, e2⟩ := S.envo j 0 hj
      have eb : a = b := by simpa using e1
      subst eb
      exact ⟨_, e2, a, rfl, o, xs, h1, upd_same, h3, h4.mono up⟩
    · rw [List.getElem?_set_ne e] at q
      obtain ⟨v, e1, e2⟩ := S.env.get i t q
      exact ⟨v, e1, t.mono up e2⟩
  · by_cases e : j = i
    · subst e
      rw [List.getElem?_set_self hlt] at q
      cases q
    · rw [List.getElem?_set_ne e] at q
      have hk := hown i k q
      subst hk
      exact absurd q (ho i (Ne.symm e))
end
section
variable {X : Cx} {rest body : List Stmt} {D : Ends} {E : En} {ρ : Rho} {gs : List Hp} {x y : Str} {pos p p' py : Pos} {tg iter : Expr} {PN : Nat → Prop} {Y : Nat → Sc} {Mid : L2.St → Hp → Prop} {kvs : List (List Int × PyData)}
/-- name = {} -/
theorem xss_asgD (i : Nat) {pd : Pos} (hN : X.N.Nodup) (k : XSs X rest (StaD X.K X.prog X.w E (ρ.set i (.own 0)) [] gs) D)
    (hown : ∀ (i k : Nat), ρ[i]? ≠ some (.own k)) (hi : X.N[i]? = some x := by rfl) (hx : Loc X.env.scope x := by first | exact .inl rfl | exact .inr rfl) (hl : i < ρ.length := by exact Nat.le_of_ble_eq_true rfl) (hs : swapsWith (.Dict [] [] pd) (some (.Name x p')) pos.line X.env = pure false := by rfl) (hf : X.fn x = true ∨ X.env.scope.names.lookup x = some .local := by first | exact .inl rfl | exact .inr rfl | assumption) : XSs X (.Assign [.Name x p'] (.Dict [] [] pd) pos :: rest) (Sta X.K E ρ [] gs) D :=
  xss_st (ps_set hN hi hx pe_dnewX hs hf) (Mid := StaD X.K X.prog X.w E (ρ.set i (.own 0)) [] gs) (fun σ H ⟨G, as, S⟩ p o hp0 hp hob => by
    have B := S.bef
    have A : Aft E.w G H G (upd H p (xobj p o)) := .newH B hp
    refine ⟨G, p, S.aft.trans E.B A, S.env.setOwn, fun j k q => ?_, S.gh, S.aft.back hp, fun z => E.w.hasD B.ok z hp, B.sub.free hp, o, [], hp0, upd_same, hob, .nil⟩
    have hl2 : i < σ.length := by rw [← S.env.len]; exact hl
    by_cases e : i = j
    · subst e
      rw [List.getElem?_set_self hl] at q
      cases q
      exact ⟨p, rfl, by simp [hl2]⟩
    · rw [List.getElem?_set_ne e] at q
      exact absurd q (hown j k)) k
theorem xss_forD {g : TG} {gv : List Nat} (Kv : Nat → List (List Int × PyData)) (ρ1 : Nat → Rho) (hp : PassesOwn (model X.prog X.w) X.A X.env X.xe) (hc : X.calm = true) (hi : XI X E.w tg iter ρ PN Y) (hpg : PG X tg g)
    (hl : ∀ j ∈ gv, j < ρ.length) (hgs : ∀ n i, PN n → i < n → GS gv g (Y i) ρ (ρ1 i)) (h0 : Kv 0 = kvs)
    (hb : ∀ n i g0, PN n → i < n → XSs X body (StaD X.K X.prog X.w E (ρ1 i) (Kv i) (g0 :: gs)) { D with nx := StaD X.K X.prog X.w E ρ (Kv (i + 1)) (g0 :: gs), ct := StaD X.K X.prog X.w E ρ (Kv (i + 1)) (g0 :: gs), bk := Mid })
    (hd : ∀ n, PN n → ∀ σ H, StaD X.K X.prog X.w E ρ (Kv n) gs σ H → Mid σ H) (k : XSs X rest Mid D) (hs : ∀ x, foldedSetIterable iter X.env x = pure x := by intro _; rfl) : XSs X (.For tg iter body [] pos :: rest) (StaD X.K X.prog X.w E ρ kvs gs) D :=
  xss_st (ps_for hp hc hi hpg pss_x hs) (Mid := Mid) (fun σ H h => by
    obtain ⟨G, a, S⟩ := h
    refine ⟨G, S.env, S.bef, fun J n G' H' A hn W => ?_⟩
    refine for_it W (fun i σ H => StaD X.K X.prog X.w E ρ (Kv i) (G' :: gs) σ H) ⟨G', a, by rw [h0]; exact (S.next A).ghost⟩ (fun i σ H _ ⟨G2, a2, S2⟩ => (S2.gh G' (by simp)).trans S2.aft.sub) ?_ (fun σ2 H2 ⟨G2, a2, S2⟩ => hd n hn σ2 H2 ⟨G2, a2, S2.lay⟩)
    rintro i x σ2 H2 H3 hi2 ⟨G2, a2, S2⟩ hY
    obtain ⟨G3, A3, hx⟩ := hY E.w G2 (S2.gh G' (by simp)) S2.bef
    have S3 := S2.next A3
    refine (hgs n i hn hi2).go E.w G3 H3 σ2 x _ hl S3.bef S3.env hx fun σ' hlen hE' _ hO => ⟨StaD X.K X.prog X.w E (ρ1 i) (Kv i) (G' :: gs), ⟨G3, a2, S3.aft, hE', hO [a2] S3.envo, S3.gh, S3.old, S3.out, S3.no, S3.at_⟩, ?_⟩
    exact hb n i G' hn hi2) k
/-- name[name2] = True, the dict one's own -/
theorem xss_putD (i j : Nat) {l : List Int} {cj : Nat} {pv : Pos} (hu : X.A.units + 1 < cLine) (hj : ρ[j]? = some (.dat (dS X.K (kD l)))) (hio : ρ[i]? = some (.own 0)) (hz : kvs.length ≤ 1000) (k : XSs X rest (StaD X.K X.prog X.w E ρ (dput kvs l (.bool true)) gs) D)
    (hi : X.N[i]? = some x := by rfl) (hjn : X.N[j]? = some y := by rfl) (hv : Vis X.env.scope x := by first | exact .inl rfl | exact .inr (.inl rfl)) (hv2 : Vis X.env.scope y := by first | exact .inl rfl | exact .inr (.inl rfl)) (hdx : (x == ("__debug__" : Str)) = false := by decide) (hcx : (x == ("__classdict__" : Str)) = false := by decide) (hdy : (y == ("__debug__" : Str)) = false := by decide) (hcy : (y == ("__classdict__" : Str)) = false := by decide)
    (hs : swapsWith (.Constant (.bool true) cj pv) (some (.Subscript (.Name x p) (.Name y py) p')) pos.line X.env = pure false := by rfl) : XSs X (.Assign [.Subscript (.Name x p) (.Name y py) p'] (.Constant (.bool true) cj pv) pos :: rest) (StaD X.K X.prog X.w E ρ kvs gs) D :=
  xss_st (ps_xput hu (pe_var hi hv hdx hcx) (pe_var hjn hv2 hdy hcy) pe_bl hs) (Mid := StaD X.K X.prog X.w E ρ (dput kvs l (.bool true)) gs) (fun σ H ⟨G, a, S⟩ => by
    obtain ⟨b, e1, e2⟩ := S.envo i 0 hio
    have eb : a = b := by simpa using e1
    subst eb
    obtain ⟨v, e3, e4⟩ := S.env.get j _ hj
    obtain ⟨kb, ys, rfl, hk1, hk2⟩ := dpTup e4
    rw [dpInts hk2] at hk1
    obtain ⟨o, xs, h1, h2, h3, h4⟩ := S.at_
    have B := S.bef
    refine ⟨_, e2, _, e3, a, o, xs, kvs, l, kb, rfl, rfl, h2, h3, h4.mono B.sub, ex_t B.sub hk1, by rw [h4.len, sizeLine_eq]; omega, fun o' u ru ob' => ?_⟩
    refine ⟨G, a, ⟨fun c z nb e => ?_, E.w.other S.aft.ok S.out, S.aft.g, fun c z e => ?_, S.aft.new⟩, S.env, S.envo, S.gh, S.old, S.out, S.no, o', _, h1, upd_same, ob', h4.put hk1 ru (.bl true)⟩
    · rw [upd_ne (ne_of_none e S.old)]; exact S.aft.up c z nb e
    · rw [upd_ne (ne_of_none e S.no)]; exact S.aft.sub c z e) k
end
/-! ### levels -/
def ddp (xs : List Rat) : List Rat := xs.foldl (fun acc a => if a ∈ acc then acc else acc ++ [a]) []
theorem ddp_take {xs : List Rat} {i : Nat} (h : i < xs.length) : ddp (xs.take (i + 1)) = if xs.getD i 0 ∈ ddp (xs.take i) then ddp (xs.take i) else ddp (xs.take i) ++ [xs.getD i 0] := fold_succ h
def ratI (a : Rat) : List Int := [a.num, a.den]
theorem kD_rat (a : Rat) : kD (ratI a) = rD a := rfl
theorem ratI_inj {a b : Rat} (h : ratI a = ratI b) : a = b := by
  unfold ratI at h
  injection h with h1 h2
  injection h2 with h2 _
  exact Rat.ext h1 (by exact_mod_cast h2)
def rowsR (xs : List Rat) : List (List Int × PyData) := xs.map fun a => (ratI a, .bool true)
theorem dval_R (xs : List Rat) (a : Rat) : (dval (rowsR xs) (ratI a)).isSome = decide (a ∈ xs) := by
  induction xs with
  | nil => rfl
  | cons b xs ih =>
    show (dval ((ratI b, .bool true) :: rowsR xs) (ratI a)).isSome = _
    rw [dval_cons]
    by_cases h : b = a
    · subst h; simp
    · rw [if_neg fun z => h (ratI_inj z), ih]
      have : a ∈ b :: xs ↔ a ∈ xs := by simp [Ne.symm h]
      simp only [this]
theorem dput_R (xs : List Rat) (a : Rat) : dput (rowsR xs) (ratI a) (.bool true) = rowsR (if a ∈ xs then xs else xs ++ [a]) := by
  unfold dput
  rw [dval_R]
  by_cases h : a ∈ xs
  · rw [if_pos (decide_eq_true h), if_pos h]
    unfold rowsR
    rw [List.map_map]
    refine List.map_congr_left fun b _ => ?_
    show (if ratI b = ratI a then (ratI b, PyData.bool true) else (ratI b, .bool true)) = _
    split <;> rfl
  · rw [if_neg (by rw [decide_eq_false h]; decide), if_neg h]
    unfold rowsR
    rw [List.map_append]
    rfl
theorem ddp_sub (xs : List Rat) : ∀ a ∈ ddp xs, a ∈ xs := by
  have h : ∀ (ys acc : List Rat), ∀ a ∈ ys.foldl (fun acc a => if a ∈ acc then acc else acc ++ [a]) acc, a ∈ acc ∨ a ∈ ys := by
    intro ys
    induction ys with
    | nil => intro acc a ha; exact .inl ha
    | cons y ys ih =>
      intro acc a ha
      rcases ih _ a ha with q | q
      · have q : a ∈ (if y ∈ acc then acc else acc ++ [y]) := q
        split at q
        · exact .inl q
        · rcases List.mem_append.mp q with q | q
          · exact .inl q
          · exact .inr (by rw [List.mem_singleton.mp q]; simp)
      · exact .inr (List.mem_cons_of_mem _ q)
  intro a ha
  exact (h xs [] a ha).resolve_left (by simp)
theorem ddp_len (xs : List Rat) : (ddp xs).length ≤ xs.length := by
  have h : ∀ (ys acc : List Rat), (ys.foldl (fun acc a => if a ∈ acc then acc else acc ++ [a]) acc).length ≤ acc.length + ys.length := by
    intro ys
    induction ys with
    | nil => intro acc; simp
    | cons y ys ih =>
      intro acc
      have h1 := ih (if y ∈ acc then acc else acc ++ [y])
      have h2 : (if y ∈ acc then acc else acc ++ [y]).length ≤ acc.length + 1 := by
        split
        · omega
        · simp
      simp only [List.foldl_cons, List.length_cons]
      omega
  have := h xs []
  rw [List.length_nil, Nat.zero_add] at this
  exact this
def corsOf (n : Nat) (t : Tm) : List Rat := (lots n).map (cor n t)
section
variable {P : Program} {w : World} {K : PySem.W.Frag} {mg : Str → Option Value} {base : Heap}
theorem ok_levels (T : Txt K mg) : Fnc P w K mg base CX0 15 "levels" ["rule"] (PrL K (fun _ => w0) (fun x : Nat × Tm => TOk x.1 x.2) (fun x => [ruleS K x.1 x.2.toD]) (fun x ds => ds = (asc (ddp (corsOf x.1 x.2))).map rD)) := by
  have FC := ok_corners_of (P := P) (w := w) (base := base) T
  have FA := ok_ascending (P := P) (w := w) (base := base) T
  refine fnc_mkL (k := 14) T.f_levels sc_levels (fun _ _ _ _ _ _ us hl => match us, hl with | [_], _ => rfl) (fun _ _ => rfl) fun f cdv A outer s H Ex x E hok hw hr => ?_
  obtain ⟨n, t⟩ := x
  have hok : TOk n t := hok
  have hu : (A.deeper (envOfC "levels" (defScope s_levels) s.heap.objs.size f cdv)).units + 1 < cLine := by have := hr.units; omega
  have hr2 : Room 2 (A.deeper (envOfC "levels" (defScope s_levels) s.heap.objs.size f cdv)) := hr.mono (by decide)
  have hW := whole_facts hok.n6
  have hlen : (corsOf n t).length = (lots n).length := List.length_map _
  have hl64 : (ddp (corsOf n t)).length ≤ 64 := by have := ddp_len (corsOf n t); omega
  have hgt : ∀ i, i < (lots n).length → (corsOf n t).getD i 0 = cor n t ((lots n).getD i []) := fun i hi => by
    unfold corsOf
    rw [gd _ (by simpa using hi), gd _ hi, List.getElem_map]
  refine xss_asgD 1 sc_levels.nd ?_ (fun i k q => ?_)
  · refine xss_forD (gv := [2]) (fun i => rowsR (ddp ((corsOf n t).take i))) (fun i => [.dat (ruleS K n t.toD), .own 0, .dat (dS K (rD ((corsOf n t).getD i 0)))]) .never rfl (xi_weak (Y' := fun i => dS K (rD ((corsOf n t).getD i 0))) (xi_values (xe_call (n, t) FC hr rfl pass0 hok (xa_cons (xv 0 rfl) xa_nil))) fun m i G v hm hi q => ?_) (pg_name sc_levels.nd rfl (.inl rfl)) (fun k hk => by simp at hk; rw [hk]; exact Nat.le_of_ble_eq_true rfl) (fun m i _ _ => gs_name) rfl (fun m i g0 hm hi => ?_)
      (Mid := StaD K P w E [.dat (ruleS K n t.toD), .own 0, .no] (rowsR (ddp (corsOf n t))) []) (fun m hm σ H h => ?_) ?_
    · subst hm
      rw [rowsL_len] at hi
      rw [rowsL_get hi] at q
      rw [hgt i hi]
      exact q
    · subst hm
      rw [rowsL_len] at hi
      have hd := ddp_len ((corsOf n t).take i)
      have htk : ((corsOf n t).take i).length ≤ 64 := by rw [List.length_take]; omega
      refine xss_putD 1 2 (l := ratI ((corsOf n t).getD i 0)) hu rfl rfl (by unfold rowsR; rw [List.length_map]; omega) (xss_nil fun σ H q => ?_)
      rw [dput_R, ← ddp_take (by rw [hlen]; exact hi)] at q
      exact staD_sub (.same (.same (.no .nil))) q
    · subst hm
      rw [rowsL_len, ← hlen, List.take_length] at h
      exact h
    · refine xss_pre (Pre := Sta K E [.dat (ruleS K n t.toD), .dat (dictS K P w (rowsR (ddp (corsOf n t)))), .no] [] []) ?_ fun σ H h => staD_frz (j := 1) rfl (fun i hi q => ?_) (fun i k q => ?_) h
      · refine xss_retL (xl_callL (ddp (corsOf n t)) _ FA hr2 rfl pass0 ⟨fun a ha => ?_, by omega⟩ (xa_cons (xe_is (xe_tl (xe_xl1 (xl_listX rfl rfl T.b_list (xv 1 rfl) (by unfold rowsR; rw [List.length_map]; omega)))) ?e1) xa_nil) (fun _ h => h))
        case e1 =>
          unfold rowsR
          rw [List.map_map]
          rfl
        · obtain ⟨l, _, rfl⟩ := List.mem_map.mp (ddp_sub _ a ha)
          exact hok.sz l
      · match i, hi, q with
        | 0, _, q => cases q
        | 1, hi, _ => exact hi rfl
        | 2, _, q => cases q
        | i + 3, _, q => cases q
      · match i, q with
        | 0, q => cases q
        | 1, q => cases q; rfl
        | 2, q => cases q
        | i + 3, q => cases q
  · match i, q with
    | 0, q => cases q
    | 1, q => cases q
    | 2, q => cases q
    | i + 3, q => cases q
end
end K81
end

section
set_option Elab.async false
set_option linter.all false
set_option maxRecDepth 100000
namespace K81
open PySem PySem.Spec PyProof.Rows L2
/-! ### whether a term is right -/
theorem dpStrs {K : PySem.W.Frag} {G : Hp} : ∀ {zs : List Str} {vs : List V}, DpAll K G vs (zs.map PyData.str) → vs = zs.map V.str
  | [], _, h => by cases h; rfl
  | n :: ns, _, h => by
    cases h with
    | cons h1 h2 =>
      rw [dpStrs h2, dpStr h1]
      rfl
theorem flat_strs (l : List Str) : (l.map V.str).all flatV = true := by rw [List.all_map]; exact List.all_eq_true.mpr fun _ _ => rfl
theorem inV_str (z : Str) (l : List Str) : inV (.str z) (l.map V.str) = decide (z ∈ l) := by
  unfold inV
  rw [List.any_map]
  by_cases h : z ∈ l
  · rw [decide_eq_true h]; exact List.any_eq_true.mpr ⟨z, h, by show (z == z) = true; exact beq_self_eq_true z⟩
  · rw [decide_eq_false h]; exact List.any_eq_false.mpr fun x hx q => h (by have e : (x == z) = true := q; rw [← eq_of_beq e]; exact hx)
section
variable {X : Cx} {w : Wd} {ρ : Rho} {a b c : Expr} {bs : List Expr} {z : Str} {zs : List Str} {j : Nat} {p p2 p3 pos : Pos} {E : En} {os : List (List PyData)} {gs : List Hp} {body rest : List Stmt} {D : Ends} {W V : Str}
theorem xc_inS (ha : XE X w a ρ (dS X.K (.str z))) (hb : XE X w b ρ (dS X.K (.tuple (zs.map .str)))) (hm : behindInMarks .In b = false := by rfl) : XC X w .In a b ρ (dS X.K (.bool (decide (z ∈ zs)))) :=
  ⟨_, _, _, op_in_seq, ha, hb, hm, fun G H x y Q hB hx hy k => by
    obtain ⟨p, xs, rfl, h1, h2⟩ := dpTup hy
    rw [dpStrs h2] at h1
    rw [dpStr hx]
    refine ⟨p, _, rfl, .inr (ex_t hB.sub h1), rfl, flat_strs _, ?_⟩
    show Q (.bl (inV _ _)) H
    rw [inV_str]
    exact nx0 k hB (.bl _)⟩
theorem xss_skipA (ha : XE X E.w a ρ (dS X.K (.str W))) (k : XSs X rest (Sta X.K E ρ os gs) D) (hne : decide (W = V) = false := by decide +kernel) : XSs X (.If (.BoolOp .And (.Compare a [.Eq] [.Constant (.str V) j p] p2 :: b :: bs) p3) body [] pos :: rest) (Sta X.K E ρ os gs) D :=
  xss_ifR (xt_w (xw_and (y := true) (xt_c (xc_eqS ha xe_str)) fun h => by rw [hne] at h; cases h)) (fun h => by rw [hne] at h; exact absurd h (by decide)) fun _ => k
theorem xss_skipIn (ha : XE X E.w a ρ (dS X.K (.str W))) (hb : XE X E.w c ρ (dS X.K (.tuple (zs.map .str)))) (k : XSs X rest (Sta X.K E ρ os gs) D) (hne : decide (W ∈ zs) = false := by decide +kernel) (hm : behindInMarks .In c = false := by rfl) : XSs X (.If (.BoolOp .And (.Compare a [.In] [c] p2 :: b :: bs) p3) body [] pos :: rest) (Sta X.K E ρ os gs) D :=
  xss_ifR (xt_w (xw_and (y := true) (xt_c (xc_inS ha hb hm)) fun h => by rw [hne] at h; cases h)) (fun h => by rw [hne] at h; exact absurd h (by decide)) fun _ => k
end
def leaf : Tm → Bool
  | .bid _ => true
  | .fix _ => true
  | _ => false
def kids : Tm → List Tm
  | .bid _ => []
  | .fix _ => []
  | .mean _ ts => ts
  | .least ts => ts
  | .greatest ts => ts
  | .ranked _ ts => ts
  | .between _ _ t => [t]
theorem size_kids (t : Tm) : t.size = Tm.sizes (kids t) + 1 := by cases t <;> simp [Tm.size, Tm.sizes, kids]
theorem dep_kids (t : Tm) : t.dep = Tm.deps (kids t) + 1 := by cases t <;> simp [Tm.dep, Tm.deps, kids]
theorem ok_kids {n : Nat} {t : Tm} (h : Tm.ok n t) : Tm.oks n (kids t) := by
  cases t with
  | bid p => exact True.intro
  | fix a => exact True.intro
  | mean ws ts => exact h.2.2.2.2
  | least ts => exact h.2.2
  | greatest ts => exact h.2.2
  | ranked k ts => exact h.2.2.2
  | between lo hi t => exact ⟨h.2.2.2, True.intro⟩
theorem kids_len {n : Nat} {t : Tm} (h : Tm.ok n t) : (kids t).length ≤ 8 := by
  cases t with
  | bid p => exact Nat.zero_le _
  | fix a => exact Nat.zero_le _
  | mean ws ts => exact h.2.2.1
  | least ts => exact h.2.1
  | greatest ts => exact h.2.1
  | ranked k ts => exact h.2.2.1
  | between lo hi t => exact Nat.le_of_ble_eq_true rfl
/-- a term is a tuple that begins with a word -/
theorem toD_word (t : Tm) : ∃ W ds, t.toD = .tuple (.str W :: ds) := by
  cases t with
  | bid p => exact ⟨_, _, toD_bid p⟩
  | fix a => exact ⟨_, _, toD_fix a⟩
  | mean ws ts => exact ⟨_, _, toD_mean ws ts⟩
  | least ts => exact ⟨_, _, toD_least ts⟩
  | greatest ts => exact ⟨_, _, toD_greatest ts⟩
  | ranked k ts => exact ⟨_, _, toD_ranked k ts⟩
  | between lo hi t => exact ⟨_, _, toD_between lo hi t⟩
section
variable {P : Program} {w : World} {K : PySem.W.Frag} {mg : Str → Option Value} {base : Heap}
theorem ok_are_parts (T : Txt K mg) : Fnc P w K mg base CX0 1 "are_parts" ["thing"] (Pr (fun _ => w0) (fun ds : List PyData => 1 ≤ ds.length ∧ ds.length ≤ 8) (fun ds => [dS K (.tuple ds)]) (fun _ => dS K (.bool true))) := by
  refine fnc_mk (k := 0) T.f_are_parts sc_are_parts (fun _ _ _ _ _ _ us hl => match us, hl with | [_], _ => rfl) (fun _ _ => rfl) fun f cdv A outer s H Ex x E hok hw hr => ?_
  refine xss_ret (xe_is (xe_and (xe_isi (r := true) rfl T.b_isinstance (xe_tyd (d := .tuple x) (xv 0 rfl)) (xe_ty "tuple" rfl T.b_tuple bt_tuple) kb_tuple_tuple) fun _ => xe_one (xe_le2 xe_int (xe_lenT rfl T.b_len (xv 0 rfl)) (xe_gint rfl T.i_MOST_PARTS))) ?_)
  have h := hok
  rw [decide_eq_true (show (1 : Int) ≤ (x.length : Int) by omega), decide_eq_true (show (x.length : Int) ≤ 8 by omega)]
  rfl
theorem ok_is_weighted (T : Txt K mg) : Fnc P w K mg base CX0 3 "is_weighted" ["thing"] (Pr (fun _ => w0) (fun x : Nat × PyData => 1 ≤ x.1 ∧ x.1 ≤ 99) (fun x => [dS K (wD x.1 x.2)]) (fun _ => dS K (.bool true))) := by
  have F := ok_is_within (P := P) (w := w) (base := base) T
  refine fnc_mk (k := 2) T.f_is_weighted sc_is_weighted (fun _ _ _ _ _ _ us hl => match us, hl with | [_], _ => rfl) (fun _ _ => rfl) fun f cdv A outer s H Ex x E hok hw hr => ?_
  refine xss_ret (xe_is (xe_and (xe_isi (r := true) rfl T.b_isinstance (xe_tyd (d := wD x.1 x.2) (xv 0 rfl)) (xe_ty "tuple" rfl T.b_tuple bt_tuple) kb_tuple_tuple) fun _ => xe_and (xe_c (xc_eqI (xe_lenT (ds := [.int x.1, x.2]) rfl T.b_len (xv 0 rfl)) xe_int)) fun _ =>
    xe_one (xe_call ((x.1 : Int), 1, 99) F hr rfl pass0 True.intro (xa_cons (xe_ixT (ds := [.int x.1, x.2]) (d := .int x.1) (xv 0 rfl) xe_int (fun _ _ => rfl) rfl) (xa_cons xe_int (xa_cons (xe_gint rfl T.i_MOST_WEIGHT) xa_nil))))) ?_)
  have h := hok
  show dS K (.bool (true && (true && (decide ((1 : Int) ≤ x.1) && decide ((x.1 : Int) ≤ 99))))) = dS K (.bool true)
  rw [decide_eq_true (show (1 : Int) ≤ (x.1 : Int) by omega), decide_eq_true (show (x.1 : Int) ≤ 99 by omega)]
  rfl
theorem ok_is_bound (T : Txt K mg) : Fnc P w K mg base CX0 4 "is_bound" ["thing"] (Pr (fun _ => w0) (fun x : Rat × Rat × Tm => Nq 20 x.1 ∧ Nq 20 x.2.1 ∧ x.1 ≤ x.2.1) (fun x => [dS K (Tm.toD (.between x.1 x.2.1 x.2.2))]) (fun _ => dS K (.bool true))) := by
  have F := ok_is_number (P := P) (w := w) (base := base) T
  have FL := ok_is_less (P := P) (w := w) (base := base) T
  refine fnc_mk (k := 3) T.f_is_bound sc_is_bound (fun _ _ _ _ _ _ us hl => match us, hl with | [_], _ => rfl) (fun _ _ => rfl) fun f cdv A outer s H Ex x E hok hw hr => ?_
  obtain ⟨lo, hi, t⟩ := x
  obtain ⟨h1, h2, h3⟩ := hok
  simp only at h1 h2 h3
  have hr1 : Room 1 (A.deeper (envOfC "is_bound" (defScope s_is_bound) s.heap.objs.size f cdv)) := hr.mono (by decide)
  have e0 := toD_between lo hi t
  have k1 := thR_ok (h1.mono (show 20 ≤ 2400 by decide))
  have k2 := thR_ok (h2.mono (show 20 ≤ 2400 by decide))
  refine xss_ifR (xt_w (xw_or (x := false) (y := false) (xt_is (xt_c (xc_neI (xe_lenT rfl T.b_len (xe_d (xv 0 rfl) e0)) xe_int)) rfl) fun _ =>
    xw_or (x := false) (y := false) (xt_not (x := true) (xt_val (xe_call (thR lo) F hr rfl pass0 k1.1 (xa_cons (xe_ixT (d := rD lo) (xe_d (xv 0 rfl) e0) xe_int (fun _ _ => rfl) rfl) xa_nil) (hs := by rw [k1.2]; rfl)))) fun _ =>
    xw_or1 (x := false) (xt_not (x := true) (xt_val (xe_call (thR hi) F hr rfl pass0 k2.1 (xa_cons (xe_ixT (d := rD hi) (xe_d (xv 0 rfl) e0) xe_int (fun _ _ => rfl) rfl) xa_nil) (hs := by rw [k2.2]; rfl)))))) (fun h => nomatch h) fun _ => ?_
  refine xss_ret (xe_is (xe_not (xe_call (hi, lo) FL hr1 rfl pass0 ⟨h2.sz (by decide), h1.sz (by decide)⟩ (xa_cons (xe_ixT (d := rD hi) (xe_d (xv 0 rfl) e0) xe_int (fun _ _ => rfl) rfl) (xa_cons (xe_ixT (d := rD lo) (xe_d (xv 0 rfl) e0) xe_int (fun _ _ => rfl) rfl) xa_nil)))) ?_)
  show dS K (.bool (!decide (hi < lo))) = dS K (.bool true)
  rw [decide_eq_false (Rat.not_lt.mpr h3)]
  rfl
theorem ok_is_leaf (T : Txt K mg) : Fnc P w K mg base CX0 4 "is_leaf" ["people", "thing"] (Pr (fun _ => w0) (fun x : Nat × Tm => Tm.ok x.1 x.2) (fun x => [dS K (.int x.1), dS K x.2.toD]) (fun x => dS K (.bool (leaf x.2)))) := by
  have F := ok_is_number (P := P) (w := w) (base := base) T
  have FW := ok_is_within (P := P) (w := w) (base := base) T
  refine fnc_mk (k := 3) T.f_is_leaf sc_is_leaf (fun _ _ _ _ _ _ us hl => match us, hl with | [_, _], _ => rfl) (fun _ _ => rfl) fun f cdv A outer s H Ex x E hok hw hr => ?_
  have hr2 : Room 2 (A.deeper (envOfC "is_leaf" (defScope s_is_leaf) s.heap.objs.size f cdv)) := hr.mono (by decide)
  obtain ⟨n, t⟩ := x
  have hok : Tm.ok n t := hok
  cases t with
  | bid p =>
    have hp : p < n := hok
    have e0 := toD_bid p
    refine xss_ifR (xt_is (xt_c (xc_neI (xe_lenT rfl T.b_len (xe_d (xv 1 rfl) e0)) xe_int)) (y := false) rfl) (fun h => nomatch h) fun _ => ?_
    refine xss_ret (xe_is (xe_or (y := true) (xe_and (xe_c (xc_eqS (z := "bid") (xe_ixT (d := .str "bid") (xe_d (xv 1 rfl) e0) xe_int (fun _ _ => rfl) rfl) xe_str)) fun _ => xe_one (xe_call ((p : Int), 0, (n : Int) - 1) FW hr2 rfl pass0 True.intro (xa_cons (xe_ixT (d := .int p) (xe_d (xv 1 rfl) e0) xe_int (fun _ _ => rfl) rfl) (xa_cons xe_int (xa_cons (xe_sub (xv 0 rfl) xe_int) xa_nil))))) fun h => ?_) ?_)
    · rw [decide_eq_true (show (0 : Int) ≤ (p : Int) by omega), decide_eq_true (show (p : Int) ≤ (n : Int) - 1 by omega)] at h
      exact absurd h (by decide +kernel)
    · show dS K (.bool _) = dS K (.bool true)
      rw [decide_eq_true (show (0 : Int) ≤ (p : Int) by omega), decide_eq_true (show (p : Int) ≤ (n : Int) - 1 by omega)]
      rw [Bool.or_true]
  | fix a =>
    have ha : Nq 20 a := hok
    have e0 := toD_fix a
    have k1 := thR_ok (ha.mono (show 20 ≤ 2400 by decide))
    refine xss_ifR (xt_is (xt_c (xc_neI (xe_lenT rfl T.b_len (xe_d (xv 1 rfl) e0)) xe_int)) (y := false) rfl) (fun h => nomatch h) fun _ => ?_
    refine xss_ret (xe_is (xe_or (xe_and (y := true) (xe_c (xc_eqS (z := "fixed") (xe_ixT (d := .str "fixed") (xe_d (xv 1 rfl) e0) xe_int (fun _ _ => rfl) rfl) xe_str)) fun h => absurd h (by decide +kernel)) fun _ =>
      xe_one (xe_and (xe_c (xc_eqS (z := "fixed") (xe_ixT (d := .str "fixed") (xe_d (xv 1 rfl) e0) xe_int (fun _ _ => rfl) rfl) xe_str)) fun _ => xe_one (xe_call (s := dS K (.bool true)) (thR a) F hr rfl pass0 k1.1 (xa_cons (xe_ixT (d := rD a) (xe_d (xv 1 rfl) e0) xe_int (fun _ _ => rfl) rfl) xa_nil) (hs := by rw [k1.2])))) ?_)
    exact congrArg (fun b => dS K (.bool b)) (by show _ = true; decide +kernel)
  | mean ws ts =>
    have e0 := toD_mean ws ts
    refine xss_ifR (xt_is (xt_c (xc_neI (xe_lenT rfl T.b_len (xe_d (xv 1 rfl) e0)) xe_int)) (y := false) rfl) (fun h => nomatch h) fun _ => ?_
    refine xss_ret (xe_is (xe_or (xe_and (y := true) (xe_c (xc_eqS (z := "mean") (xe_ixT (d := .str "mean") (xe_d (xv 1 rfl) e0) xe_int (fun _ _ => rfl) rfl) xe_str)) fun h => absurd h (by decide +kernel)) fun _ =>
      xe_one (xe_and (y := true) (xe_c (xc_eqS (z := "mean") (xe_ixT (d := .str "mean") (xe_d (xv 1 rfl) e0) xe_int (fun _ _ => rfl) rfl) xe_str)) fun h => absurd h (by decide +kernel))) ?_)
    exact congrArg (fun b => dS K (.bool b)) (by show _ = false; decide +kernel)
  | least ts =>
    have e0 := toD_least ts
    refine xss_ifR (xt_is (xt_c (xc_neI (xe_lenT rfl T.b_len (xe_d (xv 1 rfl) e0)) xe_int)) (y := false) rfl) (fun h => nomatch h) fun _ => ?_
    refine xss_ret (xe_is (xe_or (xe_and (y := true) (xe_c (xc_eqS (z := "least") (xe_ixT (d := .str "least") (xe_d (xv 1 rfl) e0) xe_int (fun _ _ => rfl) rfl) xe_str)) fun h => absurd h (by decide +kernel)) fun _ =>
      xe_one (xe_and (y := true) (xe_c (xc_eqS (z := "least") (xe_ixT (d := .str "least") (xe_d (xv 1 rfl) e0) xe_int (fun _ _ => rfl) rfl) xe_str)) fun h => absurd h (by decide +kernel))) ?_)
    exact congrArg (fun b => dS K (.bool b)) (by show _ = false; decide +kernel)
  | greatest ts =>
    have e0 := toD_greatest ts
    refine xss_ifR (xt_is (xt_c (xc_neI (xe_lenT rfl T.b_len (xe_d (xv 1 rfl) e0)) xe_int)) (y := false) rfl) (fun h => nomatch h) fun _ => ?_
    refine xss_ret (xe_is (xe_or (xe_and (y := true) (xe_c (xc_eqS (z := "greatest") (xe_ixT (d := .str "greatest") (xe_d (xv 1 rfl) e0) xe_int (fun _ _ => rfl) rfl) xe_str)) fun h => absurd h (by decide +kernel)) fun _ =>
      xe_one (xe_and (y := true) (xe_c (xc_eqS (z := "greatest") (xe_ixT (d := .str "greatest") (xe_d (xv 1 rfl) e0) xe_int (fun _ _ => rfl) rfl) xe_str)) fun h => absurd h (by decide +kernel))) ?_)
    exact congrArg (fun b => dS K (.bool b)) (by show _ = false; decide +kernel)
  | ranked k ts =>
    have e0 := toD_ranked k ts
    refine xss_ifR (xt_is (xt_c (xc_neI (xe_lenT rfl T.b_len (xe_d (xv 1 rfl) e0)) xe_int)) (y := true) rfl) (fun _ => xss_ret (xe_is xe_bl rfl)) fun h => nomatch h
  | between lo hi t =>
    have e0 := toD_between lo hi t
    refine xss_ifR (xt_is (xt_c (xc_neI (xe_lenT rfl T.b_len (xe_d (xv 1 rfl) e0)) xe_int)) (y := true) rfl) (fun _ => xss_ret (xe_is xe_bl rfl)) fun h => nomatch h
end
end K81
end

section
set_option Elab.async false
set_option linter.all false
set_option maxRecDepth 100000
namespace K81
open PySem PySem.Spec PyProof.Rows L2
/-! ### what is no number is refused -/
def PrX {α : Type} (C : Addr) (ok : α → Prop) (pre : α → List Sc) : Sp := fun vs H _ E => ∃ x G, ok x ∧ Bef w0 G H ∧ Alls G vs (pre x) ∧ ∀ G' H', Aft w0 G H G' H' → E (.ref C) none H'
section
variable {X : Cx} {C : Addr} {bmB : List Value} {B newId initId : String}
/-- X() -/
theorem pmk_own0 {x : Str} {p pos : Pos} (F : ExcBaseFacts B newId initId bmB) (q : PySem.W.excIn X.K C bmB newId = true) (gC : X.mg x = some (.ref C)) (kC : PySem.W.keepIn X.K (.ref C) = true) (r : Raises X (.ref C)) (hg : Gl X x)
    (hdb : (x == ("__debug__" : Str)) = false := by decide) : PMk X (.Call (.Name x p) [] [] pos) (fun _ H Q => Q (.ref C) none H) := by
  intro pins s σ H Q I h
  refine wpAny_Call_Name_kw (ld_glob I hg gC ?_ hdb)
  refine PySem.W.callWith_K0 I.kIn kC ?_
  obtain ⟨bm, N, nm, qn, bs, hdct, sn, sub, ab, col, dd, k0, k1, k2, k3, k5, mN, hC, hN, hni, T⟩ := exc_obj I.kIn q
  show wpAny _ _ (call (.ref C) []) _ _ _
  refine wpAny_call_exc_subT F T hC hN hni (fun h' e hm => ?_) (Nat.zero_le _)
  exact mk_of I hm r h (I.hok.gone hm.new)
end
section
variable {X : Cx} {rest body suite : List Stmt} {D : Ends} {E : En} {ρ : Rho} {os : List (List PyData)} {gs : List Hp} {e : Expr} {es : List Expr} {p pos pos' : Pos} {n : Str} {k : Nat} {ps : List Str} {α : Type} {ok : α → Prop} {pre : α → List Sc} {C : Addr} {W : WX}
/-- a call that is refused -/
theorem xss_boom (tk : Takes X W) (F : Fnc X.prog X.w X.K X.mg X.base (L2.CX X.prog X.w) k n ps (PrX C ok pre)) (hr : Room k X.A) (hg : Gl X n) (x : α) (hok : ok x) (ha : XA X E.w (e :: es) ρ (pre x)) (hdb : (n == ("__debug__" : Str)) = false := by decide)
    (he : starEach (e :: es) X.env = (false, eval e X.env) :: starEach es X.env := by rfl) (hpl : (backTo pos' (starEach es X.env)).any (·.1) = false := by rfl) (hs : swapsWith (.Call (.Name n p) (e :: es) [] pos') none pos.line X.env = pure false := by rfl) :
    XSs X (.Expr (.Call (.Name n p) (e :: es) [] pos') pos :: rest) (fun σ H => Sta X.K E ρ os gs σ H ∧ ∀ H', Sta X.K E ρ os gs σ H' → W (.ref C) none σ H') D := by
  obtain ⟨f, fd, hm, hk, hb, hF⟩ := F
  exact xss_st (ps_expr (pe_callS (E := WE W) hF hr hg hm hk hb (fun σ => passAt tk σ) ha hdb he hpl) hs) (Mid := fun _ _ => False) (fun σ H ⟨⟨G, as, S⟩, hW⟩ => tA_then S.env S.bef fun vs G1 H1 A1 hv =>
    ⟨x, G1, hok, (S.bef.aft A1).pure, hv, fun G2 H2 A2 => hW H2 ⟨G2, as, (S.next A1).next (A2.ofPure (S.bef.aft A1))⟩⟩) (xss_false fun _ _ z => z)
theorem xss_raise {ee : Expr} (hc : X.calm = true) (tk : Takes X W) (h : PMk X ee (fun _ H Q => Q (.ref C) none H)) : XSs X (.Raise (some ee) none pos :: rest) (fun σ H => Sta X.K E ρ os gs σ H ∧ ∀ H', Sta X.K E ρ os gs σ H' → W (.ref C) none σ H') D :=
  xss_st (ps_raise hc tk h) (Mid := fun _ _ => False) (fun σ H ⟨h1, h2⟩ => h2 H h1) (xss_false fun _ _ z => z)
/-- try: f(..) except x: suite, f refuses -/
theorem xss_try {x : Str} {b₀ : Stmt} {np tp pos2 : Pos} {Mid : L2.St → Hp → Prop} (hs : X.stack = X.env :: X.outer) (hf : X.env.frame = some X.env.locals) (hc : Names X x (.ref C)) (hex : PySem.W.exmOne X.K (.ref C) (.ref C) = some true)
    (tk : Takes X (fun _ _ _ _ => False)) (F : Fnc X.prog X.w X.K X.mg X.base (L2.CX X.prog X.w) k n ps (PrX C ok pre)) (hr : Room k X.A) (hg : Gl X n) (y : α) (hok : ok y) (ha : ∀ (pn : List (Addr × Obj)) (xe : Value → Shared → Prop), XA (X.tr pn xe) E.w (e :: es) ρ (pre y))
    (hsu : ∀ (a : Addr) (oe : Obj) (pn : List (Addr × Obj)), XSs (X.suite a ((a, oe) :: pn)) (b₀ :: suite) (Sta X.K E ρ os gs) { D with nx := Mid })
    (kk : XSs X rest Mid D) (hdb : (n == ("__debug__" : Str)) = false := by decide)
    (he : starEach (e :: es) X.env = (false, eval e X.env) :: starEach es X.env := by rfl) (hpl : (backTo pos' (starEach es X.env)).any (·.1) = false := by rfl) (hsw : swapsWith (.Call (.Name n p) (e :: es) [] pos') none pos.line X.env = pure false := by rfl) :
    XSs X (.Try [.Expr (.Call (.Name n p) (e :: es) [] pos') pos] [.ExceptHandler (some (.Name x np)) none (b₀ :: suite) pos2] [] [] tp :: rest) (Sta X.K E ρ os gs) D :=
  xss_st (ps_try_only (Wout := fun _ _ _ _ => False) (tb := fun W => fun _ σ H => Sta X.K E ρ os gs σ H ∧ ∀ H', Sta X.K E ρ os gs σ H' → W (.ref C) none σ H')
    (ts := fun a cls d => fun D' σ H => Sta X.K E ρ os gs σ H ∧ D' = { D with nx := Mid }) hs hf hc tk
    (fun W pn xe tkW _ => ⟨fun pins sh σ H D' I h => (xss_boom (X := X.tr pn xe) (rest := []) (E := E) (ρ := ρ) (os := os) (gs := gs) tkW F hr hg y hok (ha pn xe) hdb he hpl hsw).run pins sh σ H I h⟩)
    (fun a oe cls d pn _ _ => ⟨fun pins sh σ H D' I h => by obtain ⟨h1, h2⟩ := h; subst h2; exact (hsu a oe pn).run pins sh σ H I h1⟩)) (Mid := Mid) (fun σ H h => ⟨h, fun H' h' => ⟨true, hex, fun _ a _ => ⟨h', rfl⟩, fun z => nomatch z⟩⟩) kk
end
abbrev cxX (P : Program) (w : World) (K : PySem.W.Frag) (mg : Str → Option Value) (base : Heap) (N : List Str) (n : Str) (sc : Scope) (f : Addr) (cdv : Value) (A : Around) (outer : List Env) (s : Shared) (H : Hp) (Ex : XK) : Cx := cxOf (L2.CX P w) P w K mg base N n sc f cdv A outer s H Ex
section
variable {P : Program} {w : World} {K : PySem.W.Frag} {mg : Str → Option Value} {base : Heap} {n : Str} {st : Stmt} {N ps : List Str} {k : Nat} {α : Type} {ok : α → Prop} {pre : α → List Sc} {C : Addr}
theorem fnc_mkX (D : DefAt K mg n st) (S : FnScope N ps (defScope st)) (hb : ∀ (kV doc pm : Value) (an : Option Addr) (cdv ct : Value) (us : List Value), us.length = ps.length → bindArgs (PySem.W.fnOf n n (defArgs st) (defBody st) (defScope st) .none kV doc pm an cdv ct) ⟨us, []⟩ = pure (ps.zip us))
    (hl : ∀ x, ok x → (pre x).length = ps.length)
    (body : ∀ (f : Addr) (cdv : Value) (A : Around) (outer : List Env) (s : Shared) (H : Hp) (Ex : XK) (x : α) (E : En), ok x → E.w = w0 → Room k (A.deeper (envOfC n (defScope st) s.heap.objs.size f cdv)) →
      XSs (cxX P w K mg base N n (defScope st) f cdv A outer s H Ex) (defBody st) (fun σ H' => Sta K E (startR N (pre x)) [] [] σ H' ∧ ∀ ρ σ' H2, Sta K E ρ [] [] σ' H2 → Ex (.ref C) none H2) { nx := fun _ _ => False, rt := fun _ _ => False }) : Fnc P w K mg base (L2.CX P w) (k + 1) n ps (PrX C ok pre) := by
  obtain ⟨f, fd, F, hm⟩ := D
  refine ⟨f, fd, hm, F.kp, F.bindsN hb, F.ok S (fun vs H Q E ⟨x, G, h1, h2, h3, h4⟩ => by rw [h3.len, hl x h1]) fun cdv A outer s H vs Q Ex hr ⟨x, G, h1, h2, h3, h4⟩ => ?_⟩
  refine ⟨_, pss_x, fun σ H' => Sta K ⟨w0, G, H, h2⟩ (startR N (pre x)) [] [] σ H' ∧ ∀ ρ σ' H2, Sta K ⟨w0, G, H, h2⟩ ρ [] [] σ' H2 → Ex (.ref C) none H2, ⟨start_sta (K := K) (E := ⟨w0, G, H, h2⟩) h3, fun ρ σ' H2 ⟨G2, as, S2⟩ => h4 G2 H2 S2.aft⟩, ?_⟩
  refine ⟨fun pins sh σ H2 I q => ?_⟩
  refine thn ((body f cdv A outer s H Ex x ⟨w0, G, H, h2⟩ h1 rfl hr).run pins sh σ H2 I q) fun fl s1 r => ?_
  cases fl with
  | next => exact let ⟨σ', H', I', z⟩ := r; z.elim
  | ret v => exact let ⟨x', σ', H', I', rv, z⟩ := r; z.elim
  | brk => exact let ⟨σ', H', I', z⟩ := r; z.elim
  | cont => exact let ⟨σ', H', I', z⟩ := r; z.elim
def isNN (K : PySem.W.Frag) (mg : Str → Option Value) (C : Addr) : Prop := mg "NoNumber" = some (.ref C) ∧ (PySem.W.excIn K C He.veBase "ValueError.__new__" = true ∧ PySem.W.keepIn K (.ref C) = true ∧ PySem.W.subIn K (.ref C) (.type "BaseException") = some true ∧ PySem.W.typeIn K (.ref C) = some (.type "type")) ∧ PySem.W.exmOne K (.ref C) (.ref C) = some true
theorem no_check_number (T : Txt K mg) (c : isNN K mg C) : Fnc P w K mg base (L2.CX P w) 4 "check_number" ["thing"] (PrX C (fun x : Th => x.ok ∧ x.nu = false) (fun x => [x.sc K])) := by
  have F := ok_is_number (P := P) (w := w) (base := base) T
  refine fnc_mkX (k := 3) T.f_check_number sc_check_number (fun _ _ _ _ _ _ us hl => match us, hl with | [_], _ => rfl) (fun _ _ => rfl) fun f cdv A outer s H Ex x E hok hw hr => ?_
  obtain ⟨h1, h2⟩ := hok
  obtain ⟨c1, ⟨c2, c3, c4, c5⟩, c6⟩ := c
  refine xss_pre (xss_ex (α := PLift (∀ ρ σ' H2, Sta K E ρ [] [] σ' H2 → Ex (.ref C) none H2)) (Pr := fun _ => Sta K E (startR N_check_number [x.sc K]) [] []) fun hE => ?_) fun σ H' ⟨q1, q2⟩ => ⟨⟨q2⟩, q1⟩
  refine xss_ifR (xt_not (xt_val (x := false) (xe_call x F hr rfl pass0 h1 (xa_cons (xv 0 rfl) xa_nil) (hs := by rw [h2]; rfl)))) (fun _ => ?_) fun h => nomatch h
  exact xss_pre (xss_raise (W := fun cls d _ H => Ex cls d H) rfl (takes_of rfl rfl rfl rfl) (pmk_own0 PySem.F.excBase_ValueError c2 c1 c3 (raises_own c4 c5) rfl)) fun σ H' q => ⟨q, fun H2 q2 => hE.down _ σ H2 q2⟩
/-- a door at what is no number -/
abbrev BX : Type := Nat × Tm × Th
abbrev BOk (x : BX) : Prop := x.2.2.ok ∧ x.2.2.nu = false
abbrev preB (K : PySem.W.Frag) (x : BX) : List Sc := [ruleS K x.1 x.2.1.toD, x.2.2.sc K]
theorem no_door {n : Str} {st : Stmt} {N : List Str} {rest : List Stmt} {p1 p2 p3 p4 : Pos} (T : Txt K mg) (c : isNN K mg C) (D : DefAt K mg n st) (S : FnScope N ["rule", "number"] (defScope st)) (hN : N[1]? = some ("number" : Str)) (hl2 : 2 ≤ N.length)
    (eb : defBody st = .Expr (.Call (.Name "check_number" p1) [.Name "number" p2] [] p3) p4 :: rest) (hb : ∀ (kV doc pm : Value) (an : Option Addr) (cdv ct : Value) (us : List Value), us.length = 2 → bindArgs (PySem.W.fnOf n n (defArgs st) (defBody st) (defScope st) .none kV doc pm an cdv ct) ⟨us, []⟩ = pure ((["rule", "number"] : List Str).zip us))
    (hv : Vis (defScope st) "number") (hgl : ∀ (f : Addr) (cdv : Value) (A : Around) (outer : List Env) (s : Shared) (H : Hp) (Ex : XK), Gl (cxX P w K mg base N n (defScope st) f cdv A outer s H Ex) "check_number")
    (hsw : ∀ (f : Addr) (cdv : Value) (A : Around) (outer : List Env) (s : Shared) (H : Hp) (Ex : XK), swapsWith (.Call (.Name "check_number" p1) [.Name "number" p2] [] p3) none p4.line (cxX P w K mg base N n (defScope st) f cdv A outer s H Ex).env = pure false) : Fnc P w K mg base (L2.CX P w) 5 n ["rule", "number"] (PrX C (fun x : BX => BOk x) (preB K)) := by
  refine fnc_mkX (k := 4) D S hb (fun _ _ => rfl) fun f cdv A outer s H Ex x E hok hw hr => ?_
  rw [eb]
  refine xss_pre (xss_boom (W := fun cls d _ H => Ex cls d H) (takes_of rfl rfl rfl rfl) (no_check_number T c) hr (hgl f cdv A outer s H Ex) x.2.2 hok (xa_cons (xe_var (i := 1) hN hv ?_) xa_nil) (hs := hsw f cdv A outer s H Ex)) fun σ H' q => ⟨q.1, fun H2 q2 => q.2 _ σ H2 q2⟩
  show (startR N (preB K x))[1]? = _
  rfl
theorem no_least_lots (T : Txt K mg) (c : isNN K mg C) : Fnc P w K mg base (L2.CX P w) 5 "least_lots" ["rule", "number"] (PrX C (fun x : BX => BOk x) (preB K)) :=
  no_door T c T.f_least_lots sc_least_lots rfl (by decide) rfl (fun _ _ _ _ _ _ us hl => match us, hl with | [_, _], _ => rfl) (.inl rfl) (fun _ _ _ _ _ _ _ => rfl) fun _ _ _ _ _ _ _ => rfl
theorem no_least_blocks (T : Txt K mg) (c : isNN K mg C) : Fnc P w K mg base (L2.CX P w) 5 "least_blocks" ["rule", "number"] (PrX C (fun x : BX => BOk x) (preB K)) :=
  no_door T c T.f_least_blocks sc_least_blocks rfl (by decide) rfl (fun _ _ _ _ _ _ us hl => match us, hl with | [_, _], _ => rfl) (.inl rfl) (fun _ _ _ _ _ _ _ => rfl) fun _ _ _ _ _ _ _ => rfl
theorem no_vetoes (T : Txt K mg) (c : isNN K mg C) : Fnc P w K mg base (L2.CX P w) 5 "vetoes" ["rule", "number"] (PrX C (fun x : BX => BOk x) (preB K)) :=
  no_door T c T.f_vetoes sc_vetoes rfl (by decide) rfl (fun _ _ _ _ _ _ us hl => match us, hl with | [_, _], _ => rfl) (.inl rfl) (fun _ _ _ _ _ _ _ => rfl) fun _ _ _ _ _ _ _ => rfl
theorem no_swings (T : Txt K mg) (c : isNN K mg C) : Fnc P w K mg base (L2.CX P w) 5 "swings" ["rule", "number"] (PrX C (fun x : BX => BOk x) (preB K)) :=
  no_door T c T.f_swings sc_swings rfl (by decide) rfl (fun _ _ _ _ _ _ us hl => match us, hl with | [_, _], _ => rfl) (.inl rfl) (fun _ _ _ _ _ _ _ => rfl) fun _ _ _ _ _ _ _ => rfl
theorem no_alone (T : Txt K mg) (c : isNN K mg C) : Fnc P w K mg base (L2.CX P w) 5 "alone" ["rule", "number"] (PrX C (fun x : BX => BOk x) (preB K)) :=
  no_door T c T.f_alone sc_alone rfl (by decide) rfl (fun _ _ _ _ _ _ us hl => match us, hl with | [_, _], _ => rfl) (.inl rfl) (fun _ _ _ _ _ _ _ => rfl) fun _ _ _ _ _ _ _ => rfl
end
end K81
end

section
set_option Elab.async false
set_option linter.all false
set_option maxRecDepth 100000
namespace K81
open PySem PySem.Spec PyProof.Rows L2
theorem toDs_one (t : Tm) : Tm.toDs [t] = [Tm.toD t] := by rw [Tm.toDs_map]; rfl
section
variable {P : Program} {w : World} {K : PySem.W.Frag} {mg : Str → Option Value} {base : Heap}
theorem ok_parts_told (T : Txt K mg) : Fnc P w K mg base CX0 5 "parts_told" ["thing"] (Pr (fun _ => w0) (fun x : Nat × Tm => Tm.ok x.1 x.2 ∧ leaf x.2 = false) (fun x => [dS K x.2.toD]) (fun x => dS K (.list (Tm.toDs (kids x.2))))) := by
  have FP := ok_are_parts (P := P) (w := w) (base := base) T
  have FW := ok_is_weighted (P := P) (w := w) (base := base) T
  have FI := ok_is_within (P := P) (w := w) (base := base) T
  have FB := ok_is_bound (P := P) (w := w) (base := base) T
  refine fnc_mk (k := 4) T.f_parts_told sc_parts_told (fun _ _ _ _ _ _ us hl => match us, hl with | [_], _ => rfl) (fun _ _ => rfl) fun f cdv A outer s H Ex x E hok hw hr => ?_
  have hr1 : Room 1 (A.deeper (envOfC "parts_told" (defScope s_parts_told) s.heap.objs.size f cdv)) := hr.mono (by decide)
  have hr2 : Room 2 (A.deeper (envOfC "parts_told" (defScope s_parts_told) s.heap.objs.size f cdv)) := hr.mono (by decide)
  have hr3 : Room 3 (A.deeper (envOfC "parts_told" (defScope s_parts_told) s.heap.objs.size f cdv)) := hr.mono (by decide)
  obtain ⟨n, t⟩ := x
  obtain ⟨hok, hlf⟩ := hok
  simp only at hok hlf
  cases t with
  | bid p => cases hlf
  | fix a => cases hlf
  | mean ws ts =>
    have e0 := toD_mean ws ts
    obtain ⟨h1, h2, h3, h4, h5⟩ := hok
    refine xss_asg 1 sc_parts_told.nd (xe_ixT (d := .str "mean") (xe_d (xv 0 rfl) e0) xe_int (fun _ _ => rfl) rfl) ?_
    refine xss_ifR (xt_w (xw_and (x := true) (y := true) (xt_is (xt_c (xc_eqS (z := "mean") (xv 1 rfl) xe_str)) (by decide +kernel)) fun _ => xw_and (x := true) (y := true) (xt_is (xt_c (xc_eqI (xe_lenT rfl T.b_len (xe_d (xv 0 rfl) e0)) xe_int)) rfl) fun _ =>
      xw_and1 (x := true) (xt_val (xe_call (s := dS K (.bool true)) (List.zipWith wD ws (Tm.toDs ts)) FP hr1 rfl pass0 ⟨by rw [List.length_zipWith, toDs_length]; omega, by rw [List.length_zipWith, toDs_length]; omega⟩ (xa_cons (xe_ixT (d := .tuple (List.zipWith wD ws (Tm.toDs ts))) (xe_d (xv 0 rfl) e0) xe_int (fun _ _ => rfl) rfl) xa_nil))))) (fun _ => ?_) fun h => nomatch h
    have hlz : (List.zipWith wD ws (Tm.toDs ts)).length = ts.length := by rw [List.length_zipWith, toDs_length]; omega
    refine xss_ret (xe_if (P := (· = true)) (xt_val (x := true) (xe_is (xe_all (bs := List.replicate ts.length true) rfl rfl T.b_all (xe_is (xe_tl (xe_xl1 (xl_lcx rfl (xlcN 2 (n := ts.length) (Y := fun i => (List.zipWith wD ws (Tm.toDs ts)).getD i .none) (fun _ => true) (fun _ => .bool true) sc_parts_told.nd
        (xi_to (xe_ixT (d := .tuple (List.zipWith wD ws (Tm.toDs ts))) (xe_d (xv 0 rfl) e0) xe_int (fun _ _ => rfl) rfl) hlz) (by omega) (fun _ _ _ _ _ _ _ => xts_nil)
        (fun k hk _ _ _ _ _ _ => xe_call (s := dS K (.bool true)) (ws.getD k 0, (Tm.toDs ts).getD k .none) FW hr3 rfl pass0 (by rw [gd _ (by omega)]; exact h4 _ (List.getElem_mem _)) (xa_cons (xe_d (xv 2 rfl) (by rw [zip_getD (by omega) (by omega)]; rfl)) xa_nil))
        (blkOk_by (N := N_parts_told) (sc := defScope s_parts_told) (by decide +kernel)) (fun _ _ _ _ _ => pg_name sc_parts_told.nd rfl (.inl rfl)))))) ?e1)) ?e2))
      (fun _ => xe_is (xe_tl (xe_xl1 (xl_lcx rfl (xlcN 2 (n := ts.length) (Y := fun i => (List.zipWith wD ws (Tm.toDs ts)).getD i .none) (fun _ => true) (fun i => (Tm.toDs ts).getD i .none) sc_parts_told.nd
        (xi_to (xe_ixT (d := .tuple (List.zipWith wD ws (Tm.toDs ts))) (xe_d (xv 0 rfl) e0) xe_int (fun _ _ => rfl) rfl) hlz) (by omega) (fun _ _ _ _ _ _ _ => xts_nil)
        (fun k hk _ _ _ _ _ _ => xe_ixT (ds := [.int (ws.getD k 0 : Nat), (Tm.toDs ts).getD k .none]) (xe_d (xv 2 rfl) (by rw [zip_getD (by omega) (by omega)])) xe_int (fun _ _ => rfl) rfl)
        (blkOk_by (N := N_parts_told) (sc := defScope s_parts_told) (by decide +kernel)) (fun _ _ _ _ _ => pg_name sc_parts_told.nd rfl (.inl rfl)))))) ?e3) fun h => nomatch h)
    case e1 =>
      rw [List.filter_eq_self.mpr fun _ _ => rfl]
      exact congrArg (fun l => dS K (.list l)) (by rw [List.map_const', List.length_range, List.map_replicate])
    case e2 =>
      exact congrArg (fun b => dS K (.bool b)) (List.all_eq_true.mpr fun b hb => (List.mem_replicate.mp hb).2)
    case e3 =>
      rw [List.filter_eq_self.mpr fun _ _ => rfl]
      have e := range_getD (Tm.toDs ts) .none
      rw [toDs_length] at e
      exact congrArg (fun l => dS K (.list l)) e
  | least ts =>
    have e0 := toD_least ts
    obtain ⟨h1, h2, h3⟩ := hok
    refine xss_asg 1 sc_parts_told.nd (xe_ixT (d := .str "least") (xe_d (xv 0 rfl) e0) xe_int (fun _ _ => rfl) rfl) ?_
    refine xss_skipA (W := "least") (xv 1 rfl) ?_
    refine xss_ifR (xt_w (xw_and (x := true) (y := true) (xt_is (xt_c (xc_inS (z := "least") (zs := ["least", "greatest"]) (xv 1 rfl) (xe_tup [.str "least", .str "greatest"] (xa_cons xe_str (xa_cons xe_str xa_nil))))) (by decide +kernel)) fun _ => xw_and (x := true) (y := true) (xt_is (xt_c (xc_eqI (xe_lenT rfl T.b_len (xe_d (xv 0 rfl) e0)) xe_int)) rfl) fun _ =>
      xw_and1 (x := true) (xt_val (xe_call (s := dS K (.bool true)) (Tm.toDs ts) FP hr1 rfl pass0 ⟨by rw [toDs_length]; omega, by rw [toDs_length]; omega⟩ (xa_cons (xe_ixT (d := .tuple (Tm.toDs ts)) (xe_d (xv 0 rfl) e0) xe_int (fun _ _ => rfl) rfl) xa_nil))))) (fun _ => ?_) fun h => nomatch h
    exact xss_ret (xe_tl (xe_xl1 (xl_listOf rfl T.b_list (xe_ixT (d := .tuple (Tm.toDs ts)) (xe_d (xv 0 rfl) e0) xe_int (fun _ _ => rfl) rfl))))
  | greatest ts =>
    have e0 := toD_greatest ts
    obtain ⟨h1, h2, h3⟩ := hok
    refine xss_asg 1 sc_parts_told.nd (xe_ixT (d := .str "greatest") (xe_d (xv 0 rfl) e0) xe_int (fun _ _ => rfl) rfl) ?_
    refine xss_skipA (W := "greatest") (xv 1 rfl) ?_
    refine xss_ifR (xt_w (xw_and (x := true) (y := true) (xt_is (xt_c (xc_inS (z := "greatest") (zs := ["least", "greatest"]) (xv 1 rfl) (xe_tup [.str "least", .str "greatest"] (xa_cons xe_str (xa_cons xe_str xa_nil))))) (by decide +kernel)) fun _ => xw_and (x := true) (y := true) (xt_is (xt_c (xc_eqI (xe_lenT rfl T.b_len (xe_d (xv 0 rfl) e0)) xe_int)) rfl) fun _ =>
      xw_and1 (x := true) (xt_val (xe_call (s := dS K (.bool true)) (Tm.toDs ts) FP hr1 rfl pass0 ⟨by rw [toDs_length]; omega, by rw [toDs_length]; omega⟩ (xa_cons (xe_ixT (d := .tuple (Tm.toDs ts)) (xe_d (xv 0 rfl) e0) xe_int (fun _ _ => rfl) rfl) xa_nil))))) (fun _ => ?_) fun h => nomatch h
    exact xss_ret (xe_tl (xe_xl1 (xl_listOf rfl T.b_list (xe_ixT (d := .tuple (Tm.toDs ts)) (xe_d (xv 0 rfl) e0) xe_int (fun _ _ => rfl) rfl))))
  | ranked r ts =>
    have e0 := toD_ranked r ts
    obtain ⟨h1, h2, h3, h4⟩ := hok
    refine xss_asg 1 sc_parts_told.nd (xe_ixT (d := .str "ranked") (xe_d (xv 0 rfl) e0) xe_int (fun _ _ => rfl) rfl) ?_
    refine xss_skipA (W := "ranked") (xv 1 rfl) ?_
    refine xss_skipIn (W := "ranked") (zs := ["least", "greatest"]) (xv 1 rfl) (xe_tup [.str "least", .str "greatest"] (xa_cons xe_str (xa_cons xe_str xa_nil))) ?_
    refine xss_ifR (xt_w (xw_and (x := true) (y := true) (xt_is (xt_c (xc_eqS (z := "ranked") (xv 1 rfl) xe_str)) (by decide +kernel)) fun _ => xw_and (x := true) (y := true) (xt_is (xt_c (xc_eqI (xe_lenT rfl T.b_len (xe_d (xv 0 rfl) e0)) xe_int)) rfl) fun _ =>
      xw_and1 (x := true) (xt_val (xe_call (s := dS K (.bool true)) (Tm.toDs ts) FP hr1 rfl pass0 ⟨by rw [toDs_length]; omega, by rw [toDs_length]; omega⟩ (xa_cons (xe_ixT (d := .tuple (Tm.toDs ts)) (xe_d (xv 0 rfl) e0) xe_int (fun _ _ => rfl) rfl) xa_nil))))) (fun _ => ?_) fun h => nomatch h
    refine xss_ret (xe_if (P := (· = true)) (xt_val (x := true) (xe_is (xe_call ((r : Int), 1, ((Tm.toDs ts).length : Int)) FI hr2 rfl pass0 True.intro (xa_cons (xe_ixT (d := .int r) (xe_d (xv 0 rfl) e0) xe_int (fun _ _ => rfl) rfl) (xa_cons xe_int (xa_cons (xe_lenT rfl T.b_len (xe_ixT (d := .tuple (Tm.toDs ts)) (xe_d (xv 0 rfl) e0) xe_int (fun _ _ => rfl) rfl)) xa_nil)))) ?e1))
      (fun _ => xe_tl (xe_xl1 (xl_listOf rfl T.b_list (xe_ixT (d := .tuple (Tm.toDs ts)) (xe_d (xv 0 rfl) e0) xe_int (fun _ _ => rfl) rfl)))) fun h => nomatch h)
    case e1 =>
      show dS K (.bool (decide ((1 : Int) ≤ r) && decide ((r : Int) ≤ ((Tm.toDs ts).length : Int)))) = dS K (.bool true)
      rw [toDs_length, decide_eq_true (show (1 : Int) ≤ (r : Int) by omega), decide_eq_true (show (r : Int) ≤ (ts.length : Int) by omega)]
      rfl
  | between lo hi t =>
    have e0 := toD_between lo hi t
    obtain ⟨h1, h2, h3, h4⟩ := hok
    refine xss_asg 1 sc_parts_told.nd (xe_ixT (d := .str "between") (xe_d (xv 0 rfl) e0) xe_int (fun _ _ => rfl) rfl) ?_
    refine xss_skipA (W := "between") (xv 1 rfl) ?_
    refine xss_skipIn (W := "between") (zs := ["least", "greatest"]) (xv 1 rfl) (xe_tup [.str "least", .str "greatest"] (xa_cons xe_str (xa_cons xe_str xa_nil))) ?_
    refine xss_skipA (W := "between") (xv 1 rfl) ?_
    refine xss_ifR (xt_w (xw_and (x := true) (y := true) (xt_is (xt_c (xc_eqS (z := "between") (xv 1 rfl) xe_str)) (by decide +kernel)) fun _ => xw_and1 (x := true) (xt_val (xe_call (s := dS K (.bool true)) (lo, hi, t) FB hr rfl pass0 ⟨h1, h2, h3⟩ (xa_cons (xv 0 rfl) xa_nil))))) (fun _ => ?_) fun h => nomatch h
    refine xss_ret (xe_is (xe_tl (xe_xl1 (xl_lst [Tm.toD t] (xa_cons (xe_ixT (d := Tm.toD t) (xe_d (xv 0 rfl) e0) xe_int (fun _ _ => rfl) rfl) xa_nil)))) ?_)
    exact congrArg (fun l => dS K (.list l)) (toDs_one t).symm
theorem dp_ne_none {K : PySem.W.Frag} {G : Hp} {v : V} {d : PyData} (h : (dS K d).p G v) (hd : d ≠ .none) : decide (v = .non) = false := by
  refine decide_eq_false fun e => ?_
  subst e
  cases h
  exact hd rfl
theorem sizes_take {ts : List Tm} {i : Nat} (h : i < ts.length) : Tm.sizes (ts.take (i + 1)) = Tm.sizes (ts.take i) + Tm.size ts[i] := by
  rw [sizes_sum, sizes_sum, List.take_succ_eq_append_getElem h, List.map_append, List.sum_append]
  simp
theorem ok_terms_told (T : Txt K mg) : ∀ d : Nat, Fnc P w K mg base CX0 (6 + d) "terms_told" ["people", "thing", "deep"] (Pr (fun _ => w0) (fun x : Nat × Tm => Tm.ok x.1 x.2 ∧ x.2.dep ≤ d) (fun x => [dS K (.int x.1), dS K x.2.toD, dS K (.int d)]) (fun x => dS K (.int (x.2.size : Nat)))) := by
  intro d
  have FP := ok_parts_told (P := P) (w := w) (base := base) T
  have FL := ok_is_leaf (P := P) (w := w) (base := base) T
  induction d with
  | zero =>
    refine fnc_mk (k := 5) T.f_terms_told sc_terms_told (fun _ _ _ _ _ _ us hl => match us, hl with | [_, _, _], _ => rfl) (fun _ _ => rfl) fun f cdv A outer s H Ex x E hok hw hr => ?_
    have h1 := dep_pos x.2
    have h2 := hok.2
    omega
  | succ d FV =>
    refine fnc_mk (k := 6 + d) T.f_terms_told sc_terms_told (fun _ _ _ _ _ _ us hl => match us, hl with | [_, _, _], _ => rfl) (fun _ _ => rfl) fun f cdv A outer s H Ex x E hok hw hr => ?_
    have hr4 : Room 4 (A.deeper (envOfC "terms_told" (defScope s_terms_told) s.heap.objs.size f cdv)) := hr.mono (by omega)
    have hr5 : Room 5 (A.deeper (envOfC "terms_told" (defScope s_terms_told) s.heap.objs.size f cdv)) := hr.mono (by omega)
    obtain ⟨n, t⟩ := x
    obtain ⟨ho, hd⟩ := hok
    simp only at ho hd
    obtain ⟨W, ds, eW⟩ := toD_word t
    refine xss_ifR (xt_w (xw_or (x := false) (y := false) (xt_is (xt_c (xc_eqI (xv 2 rfl) xe_int)) (decide_eq_false (by omega))) fun _ =>
      xw_or (x := false) (y := false) (xt_not (x := true) (xt_val (xe_isi (r := true) rfl T.b_isinstance (xe_tyd (d := .tuple (.str W :: ds)) (xe_d (xv 1 rfl) eW)) (xe_ty "tuple" rfl T.b_tuple bt_tuple) kb_tuple_tuple))) fun _ =>
      xw_or (x := false) (y := false) (xt_is (xt_c (xc_eqI (xe_lenT rfl T.b_len (xe_d (xv 1 rfl) eW)) xe_int)) (decide_eq_false (by rw [List.length_cons]; omega))) fun _ =>
      xw_or1 (x := false) (xt_not (x := true) (xt_val (xe_isi (r := true) rfl T.b_isinstance (xe_tyd (d := .str W) (xe_ixT (xe_d (xv 1 rfl) eW) xe_int (fun _ _ => rfl) (atI_of (j := 0) rfl rfl))) (xe_ty "str" rfl T.b_str bt_str) kb_str_str))))) (fun h => nomatch h) fun _ => ?_
    refine xss_ifR (xt_val (x := leaf t) (xe_call (n, t) FL hr4 rfl pass0 ho (xa_cons (xv 0 rfl) (xa_cons (xv 1 rfl) xa_nil)))) (fun h => ?_) fun h => ?_
    · refine xss_ret (xe_is xe_int ?_)
      cases t with
      | bid p => rfl
      | fix a => rfl
      | _ => exact nomatch (show (true : Bool) = false from h)
    have hlf : leaf t = false := h.symm
    have hk8 := kids_len ho
    have hks := ok_kids ho
    have hkd := dep_kids t
    have hsz := size_kids t
    refine xss_asg 3 sc_terms_told.nd (xe_call (n, t) FP hr5 rfl pass0 ⟨ho, hlf⟩ (xa_cons (xv 1 rfl) xa_nil)) ?_
    refine xss_ifR (xt_c (xc_isN (k := false) (xv 3 rfl) fun G v hv => dp_ne_none hv (fun z => nomatch z))) (fun h => nomatch h) fun _ => ?_
    refine xss_asg 4 sc_terms_told.nd (xe_int (k := 1)) ?_
    refine xss_for (ι := Unit) (gv := [5]) (fun i _ => True) (fun i _ => [.dat (dS K (.int n)), .dat (dS K t.toD), .dat (dS K (.int (d + 1 : Nat))), .dat (dS K (.list (Tm.toDs (kids t)))), .dat (dS K (.int (1 + Tm.sizes ((kids t).take i) : Nat))), .no, .no]) (fun i _ => [])
      (fun i _ => [.dat (dS K (.int n)), .dat (dS K t.toD), .dat (dS K (.int (d + 1 : Nat))), .dat (dS K (.list (Tm.toDs (kids t)))), .dat (dS K (.int (1 + Tm.sizes ((kids t).take i) : Nat))), .dat (dS K ((Tm.toDs (kids t)).getD i .none)), .no]) .never rfl (xi_listD (xv 3 rfl)) (pg_name sc_terms_told.nd rfl (.inl rfl)) (fun i y _ k hk => by simp at hk; rw [hk]; exact Nat.le_of_ble_eq_true rfl) (fun n i y _ _ _ => gs_name) ⟨(), True.intro, rfl, rfl⟩ (fun m i y g0 hm hi _ => ?_)
      (Mid := Sta K E [.dat (dS K (.int n)), .dat (dS K t.toD), .dat (dS K (.int (d + 1 : Nat))), .dat (dS K (.list (Tm.toDs (kids t)))), .dat (dS K (.int (t.size : Nat))), .no, .no] [] []) (fun m y hm _ σ H h => ?_) (xss_ret (xv 4 rfl))
    · have hm' : m = (kids t).length := by rw [hm, toDs_length]
      have hi' : i < (kids t).length := by omega
      have hmem : (kids t)[i] ∈ kids t := List.getElem_mem _
      refine xss_asg 6 sc_terms_told.nd (xe_call (n, (kids t)[i]) FV hr rfl pass0 ⟨(Tm.oks_iff n).mp hks _ hmem, by have := Tm.deps_le hmem; simp only; omega⟩ (xa_cons (xv 0 rfl) (xa_cons (xe_d (xv 5 rfl) (toDs_getD hi')) (xa_cons (xe_d (xe_sub (xv 2 rfl) xe_int) (congrArg PyData.int (by omega))) xa_nil)))) ?_
      refine xss_ifR (xt_c (xc_isN (k := false) (xv 6 rfl) fun G v hv => dp_ne_none hv (fun z => nomatch z))) (fun h => nomatch h) fun _ => ?_
      refine xss_aug 4 ip_add sc_terms_told.nd rfl (xv 6 rfl) (xss_nil fun σ H q => ⟨(), True.intro, ?_⟩)
      have e5 : ((1 + Tm.sizes ((kids t).take (i + 1)) : Nat) : Int) = ((1 + Tm.sizes ((kids t).take i) : Nat) : Int) + (((kids t)[i]).size : Nat) := by rw [sizes_take hi']; omega
      rw [e5]
      have q2 := sta_sub (.same (.same (.same (.same (.same (.no (.no .nil))))))) q
      exact q2
    · have hm' : m = (kids t).length := by rw [hm, toDs_length]
      subst hm'
      rw [List.take_length] at h
      rw [hsz, Nat.add_comm (Tm.sizes (kids t)) 1]
      exact h
end
end K81
end

section
set_option Elab.async false
set_option linter.all false
set_option maxRecDepth 100000
namespace K81
open PySem PySem.Spec PyProof.Rows L2
/-! ### Rule(people, term) -/
def wI (x dx C : Addr) : Wd := ⟨fun b => b = x, fun b => b = x ∨ b = dx, fun H => H x = some (.ins C dx []) ∧ H dx = some (.own x), .inl,
  (fun h hb z => by
    rcases hb with e | e
    · rw [e, h.1] at z; exact nomatch z
    · rw [e, h.2] at z; exact nomatch z),
  fun h k => ⟨k _ _ (.inl rfl) h.1, k _ _ (.inr rfl) h.2⟩⟩
/-- what the new object is in the end -/
structure Madeᵣ (K : PySem.W.Frag) (x dx C : Addr) (n : Nat) (d : PyData) (G H H' : Hp) : Prop where
  ex : ∃ G1 H1 tv fs, Aft (wI x dx C) G H G1 H1 ∧ (∀ b, b ≠ x → H' b = H1 b) ∧ H' x = some (.ins C dx fs) ∧ fs.lookup ("people" : Str) = some (V.int n) ∧ fs.lookup ("term" : Str) = some tv ∧ Dp K G1 tv d
def spMake (K : PySem.W.Frag) (C : Addr) : Sp := fun vs H Q _ => ∃ (x dx : Addr) (n : Nat) (t : Tm) (G : Hp) (v2 v3 : V), TOk n t ∧ x ≠ dx ∧ Bef (wI x dx C) G H ∧ vs = [.ref x, v2, v3] ∧ Dp K G v2 (.int n) ∧ Dp K G v3 t.toD ∧
  ∀ H', Madeᵣ K x dx C n t.toD G H H' → Q .non H'
theorem madeᵣ_fin {K : PySem.W.Frag} {x dx C : Addr} {n : Nat} {d : PyData} {w : Wd} {G H H' : Hp} (B : Bef w G H) (hx : H x = none) (hdx : H dx = none) (ne : dx ≠ x) (c : Cls K C) (n1 : NoAttr K C "people") (n2 : NoAttr K C "term") (M : Madeᵣ K x dx C n d G (upd (upd H dx (.own x)) x (.ins C dx [])) H') :
    ∃ G', Aft w G H G' H' ∧ (ruleS K n d).p G' (.ref x) := by
  obtain ⟨G1, H1, tv, fs, A, k1, k2, l1, l2, dp⟩ := M.ex
  have old : ∀ b o, H b = some o → H1 b = some o := fun b o e => by
    have b1 : b ≠ x := fun z => by rw [z, hx] at e; cases e
    have b2 : b ≠ dx := fun z => by rw [z, hdx] at e; cases e
    exact A.up b o b1 (by rw [upd_ne b1, upd_ne b2]; exact e)
  have old' : ∀ b o, H b = some o → H' b = some o := fun b o e => by
    have b1 : b ≠ x := fun z => by rw [z, hx] at e; cases e
    rw [k1 b b1]; exact old b o e
  have gx : G x = none := B.sub.free hx
  have g1x : G1 x = none := by
    cases q : G1 x with
    | none => rfl
    | some o =>
      have := A.new x gx (by rw [q]; exact fun z => nomatch z)
      rw [upd_same] at this; cases this
  have up : Ex G1 (upd G1 x (.ins C dx fs)) := .new g1x
  refine ⟨upd G1 x (.ins C dx fs), ⟨fun b o _ e => old' b o e, w.stays B.ok old', A.g.trans up, fun b o e => ?_, fun b h e => ?_⟩, x, C, dx, fs, tv, rfl, upd_same, c, n1, n2, l1, l2, dp_mono up _ _ dp⟩
  · by_cases z : b = x
    · subst z; rw [upd_same] at e; rw [k2]; exact e
    · rw [upd_ne z] at e; rw [k1 b z]; exact A.sub b o e
  · by_cases z : b = x
    · subst z; exact hx
    · rw [upd_ne z] at e
      have h2 := A.new b h e
      rw [upd_ne z] at h2
      by_cases z2 : b = dx
      · subst z2; exact hdx
      · rw [upd_ne z2] at h2; exact h2
section
variable {P : Program} {w : World} {K : PySem.W.Frag} {mg : Str → Option Value} {base : Heap}
theorem ok_Rinit (T : Txt K mg) {C f : Addr} {fd : FuncData} (c : Cls K C) (n1 : NoAttr K C "people") (n2 : NoAttr K C "term") (F : FunD K "__init__" "Rule.__init__" (defArgs s_Rinit) (defBody s_Rinit) (defScope s_Rinit) [] [] f fd) : FnOk P w K mg base CX0 15 f fd ["self", "people", "term"] (spMake K C) := by
  have FW := ok_is_within (P := P) (w := w) (base := base) T
  have FT := ok_terms_told (P := P) (w := w) (base := base) T 8
  refine F.ok (k := 14) sc_Rinit (fun vs H Q E ⟨x, dx, n, t, G, v2, v3, _, _, _, e, _⟩ => by rw [e]; rfl) fun cdv A outer s H vs Q Ex hr ⟨x, dx, n, t, G, v2, v3, hok, hne, hB, ev, d2, d3, hq⟩ => ?_
  subst ev
  refine ⟨_, PSs.nox pss_x, _, start_sta (K := K) (ss := [refS x, dS K (.int n), dS K t.toD]) (E := ⟨wI x dx C, G, H, hB⟩) (.cons rfl (.cons d2 (.cons d3 .nil))), ?_⟩
  have hr2 : Room 2 (A.deeper (envOfC "Rule.__init__" (defScope s_Rinit) s.heap.objs.size f cdv)) := hr.mono (by decide)
  have body : XSs (cx0 P w K mg base N_Rinit "Rule.__init__" (defScope s_Rinit) f cdv A outer s H Ex) (defBody s_Rinit) (Sta K ⟨wI x dx C, G, H, hB⟩ (startR N_Rinit [refS x, dS K (.int n), dS K t.toD]) [] []) { nx := fun _ H' => Madeᵣ K x dx C n t.toD G H H', rt := fun _ _ => False } := by
    have h1 := hok.n1
    have h6 := hok.n6
    have hsz := hok.size
    refine xss_ifR (xt_is (y := false) (xt_not (xt_val (xe_call ((n : Int), 1, 6) FW hr2 rfl pass0 True.intro (xa_cons (xv 1 rfl) (xa_cons xe_int (xa_cons (xe_gint rfl T.i_MOST_PEOPLE) xa_nil)))))) ?t1) (fun h => nomatch h) fun _ => ?_
    case t1 =>
      show (!(decide ((1 : Int) ≤ n) && decide ((n : Int) ≤ 6))) = false
      rw [decide_eq_true (show (1 : Int) ≤ (n : Int) by omega), decide_eq_true (show (n : Int) ≤ 6 by omega)]
      rfl
    refine xss_asg 3 sc_Rinit.nd (xe_call (n, t) FT hr rfl pass0 ⟨hok.ok, hok.dep⟩ (xa_cons (xv 1 rfl) (xa_cons (xv 2 rfl) (xa_cons (xe_gint rfl T.i_MOST_DEEP) xa_nil)))) ?_
    refine xss_ifR (xt_w (xw_or (x := false) (y := false) (xt_c (xc_isN (k := false) (xv 3 rfl) fun G v hv => dp_ne_none hv (fun z => nomatch z))) fun _ => xw_or1 (xt_is (xt_c (xc_gt (xv 3 rfl) (xe_gint rfl T.i_MOST_TERMS))) (decide_eq_false (show ¬ ((60 : Int) < (t.size : Nat)) by omega))))) (fun h => nomatch h) fun _ => ?_
    refine xss_st (ps_fld (pe_var (i := 0) rfl (.inl rfl)) (pe_var (i := 1) rfl (.inl rfl)) rfl) (Mid := fun σ H2 => ∃ G1 H1 tv, Aft (wI x dx C) G H G1 H1 ∧ H2 = upd H1 x (.ins C dx [("people", V.int n)]) ∧ σ[0]? = some (some (.ref x)) ∧ σ[2]? = some (some tv) ∧ Dp K G1 tv t.toD) (fun σ H2 ⟨G1, as, S⟩ => ?_) ?_
    · obtain ⟨u0, a0, b0⟩ := S.env.get 0 _ rfl
      obtain ⟨u1, a1, b1⟩ := S.env.get 1 _ rfl
      obtain ⟨u2, a2, b2⟩ := S.env.get 2 _ rfl
      have e0 : u0 = .ref x := b0
      have e1 : u1 = .int n := dpInt b1
      subst e0 e1
      exact ⟨_, a1, _, a0, x, C, dx, [], rfl, S.aft.ok.1, c, n1, Nat.zero_lt_succ _, G1, H2, u2, S.aft, rfl, a0, a2, b2⟩
    refine xss_st (ps_fld (pe_var (i := 0) rfl (.inl rfl)) (pe_var (i := 2) rfl (.inl rfl)) rfl) (Mid := fun σ H2 => Madeᵣ K x dx C n t.toD G H H2) (fun σ H2 ⟨G1, H1, tv, A1, eH, a0, a2, b2⟩ => ?_) (xss_nil fun σ H2 q => q)
    subst eH
    refine ⟨_, a2, _, a0, x, C, dx, _, rfl, upd_same, c, n2, Nat.le_of_ble_eq_true rfl, ⟨G1, H1, tv, _, A1, fun b hb => ?_, upd_same, ?_, ?_, b2⟩⟩
    · rw [upd_ne hb, upd_ne hb]
    · rw [lookup_putF, if_neg (by decide)]
      rfl
    · rw [lookup_putF, if_pos rfl]
  refine ⟨fun pins sh σ H2 I q => ?_⟩
  refine thn (body.run pins sh σ H2 I q) fun fl s1 r => ?_
  cases fl with
  | next => exact let ⟨σ', H', I', z⟩ := r; ⟨σ', H', I', hq H' z⟩
  | ret v => exact let ⟨x', σ', H', I', rv, z⟩ := r; z.elim
  | brk => exact let ⟨σ', H', I', z⟩ := r; z.elim
  | cont => exact let ⟨σ', H', I', z⟩ := r; z.elim
end
theorem xe_make {X : Cx} {w : Wd} {ρ : Rho} {e1 e2 : Expr} {p pos : Pos} {n : Nat} {t : Tm} (T : Txt X.K X.mg) (hr : Room 16 X.A) (hg : Gl X "Rule") (hok : TOk n t) (h1 : XE X w e1 ρ (dS X.K (.int n))) (h2 : XE X w e2 ρ (dS X.K t.toD))
    (hs : starEach [e1, e2] X.env = (false, eval e1 X.env) :: starEach [e2] X.env := by rfl) (hs2 : starEach [e2] X.env = (false, eval e2 X.env) :: starEach [] X.env := by rfl) (hpl : (backTo pos (starEach [e2] X.env)).any (·.1) = false := by rfl) : XE X w (.Call (.Name "Rule" p) [e1, e2] [] pos) ρ (ruleS X.K n t.toD) := by
  obtain ⟨C, f, fd, hm, M, c, n1, n2, F⟩ := T.rule
  refine xe_of (pe_make (E := E0) M (ok_Rinit T c n1 n2 F) hr hg hm (F.bindsN fun _ _ _ _ _ _ us hl => match us, hl with | [_, _, _], _ => rfl) .nil pass0 (xa_cons h1 (xa_cons h2 xa_nil hs2) hs) (by decide) hs hpl) fun σ G H hE hB => tA_then hE hB fun vs G1 H1 A1 hv x dx hx hdx ne => ?_
  obtain ⟨v2, v3, rfl, q2, q3⟩ := alls2 hv
  have B1 := hB.aft A1
  have ex2 : Ex H1 (upd (upd H1 dx (.own x)) x (.ins C dx [])) := (Ex.new hdx).trans (.new (by rw [upd_ne (Ne.symm ne)]; exact hx))
  refine ⟨x, dx, n, t, G1, v2, v3, hok, Ne.symm ne, ⟨B1.sub.trans ex2, ⟨upd_same, by rw [upd_ne ne, upd_same]⟩, fun b hb => by rw [hb]; exact B1.sub.free hx⟩, rfl, q2, q3, fun H' M' => ⟨rfl, ?_⟩⟩
  obtain ⟨G', A', r⟩ := madeᵣ_fin B1 hx hdx ne c n1 n2 M'
  exact ⟨G', A1.trans hB A', r⟩
end K81
end

section
set_option Elab.async false
set_option linter.all false
set_option maxRecDepth 100000
namespace K81
open PySem PySem.Spec PyProof.Rows L2
theorem tk_none {X : Cx} : Takes X (fun _ _ _ _ => False) := fun _ _ ⟨_, _, _, _, _, _, _, _, _, _, _, _, _, _, _, _, w⟩ => w.elim
section
variable {P : Program} {w : World} {K : PySem.W.Frag} {mg : Str → Option Value} {base : Heap} {C : Addr}
theorem no_Lcall (T : Txt K mg) (c : isNN K mg C) : Fnc P w K mg base (L2.CX P w) 6 "_law_call" ["_law_which", "_law_rule", "_law_number_here"] (PrX C (fun x : Nat × BX => x.1 < 5 ∧ BOk x.2) (fun x => dS K (.int x.1) :: preB K x.2)) := by
  have F0 := no_least_lots (P := P) (w := w) (base := base) T c
  have F1 := no_least_blocks (P := P) (w := w) (base := base) T c
  have F2 := no_vetoes (P := P) (w := w) (base := base) T c
  have F3 := no_swings (P := P) (w := w) (base := base) T c
  have F4 := no_alone (P := P) (w := w) (base := base) T c
  refine fnc_mkX (k := 5) T.f_Lcall sc_Lcall (fun _ _ _ _ _ _ us hl => match us, hl with | [_, _, _], _ => rfl) (fun _ _ => rfl) fun f cdv A outer s H Ex x E hok hw hr => ?_
  obtain ⟨j, x⟩ := x
  obtain ⟨hj, hx⟩ := hok
  simp only at hj hx
  refine xss_pre (xss_ex (α := PLift (∀ ρ σ' H2, Sta K E ρ [] [] σ' H2 → Ex (.ref C) none H2)) (Pr := fun _ => Sta K E (startR N_Lcall (dS K (.int j) :: preB K x)) [] []) fun hE => ?_) fun σ H' ⟨q1, q2⟩ => ⟨⟨q2⟩, q1⟩
  have tk : Takes (cxX P w K mg base N_Lcall "_law_call" (defScope s_Lcall) f cdv A outer s H Ex) (fun cls d _ H => Ex cls d H) := takes_of rfl rfl rfl rfl
  match j, hj with
  | 0, _ =>
    refine xss_ifM (Mid := fun _ _ => False) (xt_c (xc_eqI (xv 0 rfl) xe_int)) (fun _ => ?_) (fun h => absurd h (by decide)) (xss_false fun _ _ z => z)
    exact xss_pre (xss_boom tk F0 hr rfl x hx (xa_cons (xv 1 rfl) (xa_cons (xv 2 rfl) xa_nil))) fun σ H' q => ⟨q, fun H2 q2 => hE.down _ σ H2 q2⟩
  | 1, _ =>
    refine xss_ifM (Mid := fun _ _ => False) (xt_c (xc_eqI (xv 0 rfl) xe_int)) (fun h => absurd h (by decide)) (fun _ => ?_) (xss_false fun _ _ z => z)
    refine xss_ifM (Mid := fun _ _ => False) (xt_c (xc_eqI (xv 0 rfl) xe_int)) (fun _ => ?_) (fun h => absurd h (by decide)) (xss_false fun _ _ z => z)
    exact xss_pre (xss_boom tk F1 hr rfl x hx (xa_cons (xv 1 rfl) (xa_cons (xv 2 rfl) xa_nil))) fun σ H' q => ⟨q, fun H2 q2 => hE.down _ σ H2 q2⟩
  | 2, _ =>
    refine xss_ifM (Mid := fun _ _ => False) (xt_c (xc_eqI (xv 0 rfl) xe_int)) (fun h => absurd h (by decide)) (fun _ => ?_) (xss_false fun _ _ z => z)
    refine xss_ifM (Mid := fun _ _ => False) (xt_c (xc_eqI (xv 0 rfl) xe_int)) (fun h => absurd h (by decide)) (fun _ => ?_) (xss_false fun _ _ z => z)
    refine xss_ifM (Mid := fun _ _ => False) (xt_c (xc_eqI (xv 0 rfl) xe_int)) (fun _ => ?_) (fun h => absurd h (by decide)) (xss_false fun _ _ z => z)
    exact xss_pre (xss_boom tk F2 hr rfl x hx (xa_cons (xv 1 rfl) (xa_cons (xv 2 rfl) xa_nil))) fun σ H' q => ⟨q, fun H2 q2 => hE.down _ σ H2 q2⟩
  | 3, _ =>
    refine xss_ifM (Mid := fun _ _ => False) (xt_c (xc_eqI (xv 0 rfl) xe_int)) (fun h => absurd h (by decide)) (fun _ => ?_) (xss_false fun _ _ z => z)
    refine xss_ifM (Mid := fun _ _ => False) (xt_c (xc_eqI (xv 0 rfl) xe_int)) (fun h => absurd h (by decide)) (fun _ => ?_) (xss_false fun _ _ z => z)
    refine xss_ifM (Mid := fun _ _ => False) (xt_c (xc_eqI (xv 0 rfl) xe_int)) (fun h => absurd h (by decide)) (fun _ => ?_) (xss_false fun _ _ z => z)
    refine xss_ifM (Mid := fun _ _ => False) (xt_c (xc_eqI (xv 0 rfl) xe_int)) (fun _ => ?_) (fun h => absurd h (by decide)) (xss_false fun _ _ z => z)
    exact xss_pre (xss_boom tk F3 hr rfl x hx (xa_cons (xv 1 rfl) (xa_cons (xv 2 rfl) xa_nil))) fun σ H' q => ⟨q, fun H2 q2 => hE.down _ σ H2 q2⟩
  | 4, _ =>
    refine xss_ifM (Mid := fun _ _ => False) (xt_c (xc_eqI (xv 0 rfl) xe_int)) (fun h => absurd h (by decide)) (fun _ => ?_) (xss_false fun _ _ z => z)
    refine xss_ifM (Mid := fun _ _ => False) (xt_c (xc_eqI (xv 0 rfl) xe_int)) (fun h => absurd h (by decide)) (fun _ => ?_) (xss_false fun _ _ z => z)
    refine xss_ifM (Mid := fun _ _ => False) (xt_c (xc_eqI (xv 0 rfl) xe_int)) (fun h => absurd h (by decide)) (fun _ => ?_) (xss_false fun _ _ z => z)
    refine xss_ifM (Mid := fun _ _ => False) (xt_c (xc_eqI (xv 0 rfl) xe_int)) (fun h => absurd h (by decide)) (fun _ => ?_) (xss_false fun _ _ z => z)
    exact xss_pre (xss_boom tk F4 hr rfl x hx (xa_cons (xv 1 rfl) (xa_cons (xv 2 rfl) xa_nil))) fun σ H' q => ⟨q, fun H2 q2 => hE.down _ σ H2 q2⟩
theorem ok_Lrefused (T : Txt K mg) : Fnc P w K mg base CX0 7 "_law_refused" ["_law_which", "_law_rule", "_law_number_here"] (Pr (fun _ => w0) (fun x : Nat × BX => x.1 < 5 ∧ BOk x.2) (fun x => dS K (.int x.1) :: preB K x.2) (fun _ => dS K (.bool true))) := by
  obtain ⟨C, c⟩ : ∃ C, isNN K mg C := T.exc
  have F := no_Lcall (P := P) (w := w) (base := base) T c
  refine fnc_mk (k := 6) T.f_Lrefused sc_Lrefused (fun _ _ _ _ _ _ us hl => match us, hl with | [_, _, _], _ => rfl) (fun _ _ => rfl) fun f cdv A outer s H Ex x E hok hw hr => ?_
  refine xss_asg 3 sc_Lrefused.nd xe_bl ?_
  refine xss_try (Mid := Sta K E [.dat (dS K (.int x.1)), .dat (ruleS K x.2.1 x.2.2.1.toD), .dat (x.2.2.2.sc K), .dat (dS K (.bool true))] [] []) rfl rfl ⟨rfl, by decide, .inl c.1⟩ c.2.2 tk_none F hr rfl x hok (fun pn xe => xa_cons (xv 0 rfl) (xa_cons (xv 1 rfl) (xa_cons (xv 2 rfl) xa_nil))) (fun a oe pn => xss_asg 3 sc_Lrefused.nd xe_bl (xss_nil fun σ H q => q)) (xss_ret (xv 3 rfl))
end
end K81
end

section
set_option Elab.async false
set_option linter.all false
set_option maxRecDepth 100000
namespace K81
open PySem PySem.Spec PyProof.Rows L2
/-! ### the dice -/
structure Dc where
  a : Addr
  l : Addr
  cs : List Int
def okD (v : List Int) : Prop := ∃ p q r s : Int, v = [p, q, r, s] ∧ 0 ≤ p ∧ 0 ≤ r ∧ r < 2147483647
def atD (d : Dc) (v : List Int) (H : Hp) : Prop := H d.a = some (.lst (V.ref d.l :: v.map V.int))
def wE (d : Dc) (v : List Int) : Wd := ⟨fun b => b = d.a, fun b => b = d.a, fun H => okD v ∧ atD d v H, fun h => h,
  (fun {H b} h hb z => by
    have e : b = d.a := hb
    rw [e, h.2] at z; exact nomatch z),
  fun h k => ⟨h.1, k _ _ rfl h.2⟩⟩
def wDi (d : Dc) : Wd := ⟨fun b => b = d.a, fun b => b = d.a, fun H => ∃ v, okD v ∧ atD d v H, fun h => h,
  (fun {H b} h hb z => by
    obtain ⟨v, _, h⟩ := h
    have e : b = d.a := hb
    rw [e, h] at z; exact nomatch z),
  fun ⟨v, h1, h2⟩ k => ⟨v, h1, k _ _ rfl h2⟩⟩
/-- the dice list itself, and the list of its cells -/
def diS (d : Dc) : Sc := ⟨fun G x => x = .ref d.a ∧ G d.l = some (.lst (d.cs.map V.int)), fun e ⟨h1, h2⟩ => ⟨h1, e _ _ h2⟩⟩
theorem aft_wide {d : Dc} {v : List Int} {G H G' H' : Hp} (A : Aft (wE d v) G H G' H') : Aft (wDi d) G H G' H' := ⟨A.up, ⟨v, A.ok⟩, A.g, A.sub, A.new⟩
def StW (d : Dc) (v : List Int) (G0 H0 : Hp) (ρ : Rho) (σ : L2.St) (H : Hp) : Prop := ∃ G, EnvD G σ ρ ∧ Aft (wDi d) G0 H0 G H ∧ (wE d v).ok H
theorem envd_sub {G : Hp} {σ : L2.St} {ρ ρ' : Rho} (r : RSub ρ ρ') (h : EnvD G σ ρ) : EnvD G σ ρ' := ⟨r.len ▸ h.len, fun i t q => by
  obtain ⟨s, h1, h2⟩ := r.dat i t q
  obtain ⟨v, h3, h4⟩ := h.get i s h1
  exact ⟨v, h3, h2 G v h4⟩⟩
def drS (K : PySem.W.Frag) (n : Nat) : Sc := exS (fun k : Nat => k < n) fun k => dS K (.int k)
section
variable {X : Cx} {d : Dc} {v v' : List Int} {G0 H0 : Hp} {ρ : Rho} {a b c e : Expr} {rest body orelse : List Stmt} {D : Ends} {Mid : L2.St → Hp → Prop} {pos p p2 : Pos} {s : Sc} {x : Str}
theorem stw_bef (B : Bef (wDi d) G0 H0) {G H : Hp} (A : Aft (wDi d) G0 H0 G H) (h : (wE d v).ok H) : Bef (wE d v) G H := ⟨(B.aft A).sub, h, (B.aft A).out⟩
theorem xe_dl (ha : XE X (wE d v) a ρ (diS d)) {j : Nat} {pi : Pos} : XE X (wE d v) (.Subscript a (.Constant (.int 0) j pi) pos) ρ (tlS X.K (d.cs.map .int)) :=
  xe_ix ix_list ha (xe_int (k := 0)) (fun _ _ => rfl) fun G H x y Q hB hx hy k => ⟨d.a, _, 0, .ref d.l, hx.1, dpInt hy, SqL.of hB.ok.2, atI_of (j := 0) rfl rfl, nx0 k hB ⟨d.l, _, rfl, hx.2, intsDp _⟩⟩
theorem xe_di (i : Int) {n : Int} (ha : XE X (wE d v) a ρ (diS d)) (hk : ∀ z : V, atI (z :: v.map V.int) i = some (.int n)) {j : Nat} {pi : Pos} : XE X (wE d v) (.Subscript a (.Constant (.int i) j pi) pos) ρ (dS X.K (.int n)) :=
  xe_ix ix_list ha (xe_int (k := i)) (fun _ _ => rfl) fun G H x y Q hB hx hy k => ⟨d.a, _, i, .int n, hx.1, dpInt hy, SqL.of hB.ok.2, hk _, nx0 k hB (.int n)⟩
theorem stw_asg (i : Nat) {p' : Pos} (B : Bef (wDi d) G0 H0) (hN : X.N.Nodup) (he : XE X (wE d v) e ρ s) (k : XSs X rest (StW d v G0 H0 (ρ.set i (.dat s))) D)
    (hi : X.N[i]? = some x := by rfl) (hx : Loc X.env.scope x := by first | exact .inl rfl | exact .inr rfl) (hl : i < ρ.length := by exact Nat.le_of_ble_eq_true rfl) (hs : swapsWith e (some (.Name x p')) pos.line X.env = pure false := by rfl) (hf : X.fn x = true ∨ X.env.scope.names.lookup x = some .local := by first | exact .inl rfl | exact .inr rfl | assumption) : XSs X (.Assign [.Name x p'] e pos :: rest) (StW d v G0 H0 ρ) D :=
  xss_st (ps_set hN hi hx (pe_x he) hs hf) (Mid := StW d v G0 H0 (ρ.set i (.dat s))) (fun σ H ⟨G, hE, A, ok⟩ => tX_then hE (stw_bef B A ok) fun u G' H' A' hv => ⟨G', (hE.mono A'.g).set hl hv, A.trans B (aft_wide A'), A'.ok⟩) k
theorem stw_if {P : Bool → Prop} (B : Bef (wDi d) G0 H0) (ht : XT X (wE d v) c ρ P) (h1 : P true → XSs X body (StW d v G0 H0 ρ) { D with nx := Mid }) (h2 : P false → XSs X orelse (StW d v G0 H0 ρ) { D with nx := Mid }) (k : XSs X rest Mid D) : XSs X (.If c body orelse pos :: rest) (StW d v G0 H0 ρ) D :=
  xss_st (ps_if ht pss_x pss_x) (Mid := Mid) (fun σ H ⟨G, hE, A, ok⟩ => tT_then hE (stw_bef B A ok) fun b G' H' A' hb => by
    have q : StW d v G0 H0 ρ σ H' := ⟨G', hE.mono A'.g, A.trans B (aft_wide A'), A'.ok⟩
    cases b with
    | true => exact ⟨_, q, h1 hb⟩
    | false => exact ⟨_, q, h2 hb⟩) k
theorem stw_put (i : Int) (m : Nat) {n : Int} {j : Nat} {pi : Pos} (B : Bef (wDi d) G0 H0) (he : XE X (wE d v) e ρ (dS X.K (.int n))) (hρ : ρ[0]? = some (.dat (diS d))) (hok : okD v') (hix : ∀ z : V, ixN (z :: v.map V.int).length i = some m) (hset : ∀ z : V, (z :: v.map V.int).set m (.int n) = z :: v'.map V.int)
    (k : XSs X rest (StW d v' G0 H0 ρ) D) (hi : X.N[0]? = some x := by rfl) (hv : Vis X.env.scope x := by first | exact .inl rfl | exact .inr (.inl rfl) | exact .inr (.inr rfl))
    (hdb : (x == ("__debug__" : Str)) = false := by decide) (hcd : (x == ("__classdict__" : Str)) = false := by decide)
    (ha : ∀ v, assign (.Subscript (.Name x p) (.Constant (.int i) j pi) p2) X.env v = (do
      let ov ← holding [v] (eval (.Name x p) X.env)
      let iv ← holding [v, ov] (eval (.Constant (.int i) j pi) X.env)
      standAt p2
      holding [v, ov, iv] (setItem ov iv v)
      release [v, ov, iv] []) := by intro _; rfl)
    (hs : swapsWithSole [.Subscript (.Name x p) (.Constant (.int i) j pi) p2] e pos.line X.env = pure false := by rfl) (hw : swappedStores [.Subscript (.Name x p) (.Constant (.int i) j pi) p2] e X.env = pure none := by rfl) (h1 : (assignEach [.Subscript (.Name x p) (.Constant (.int i) j pi) p2] X.env).map (·.2) = [assign (.Subscript (.Name x p) (.Constant (.int i) j pi) p2) X.env] := by rfl) :
    XSs X (.Assign [.Subscript (.Name x p) (.Constant (.int i) j pi) p2] e pos :: rest) (StW d v G0 H0 ρ) D :=
  xss_st (ps_asg (pe_x he) (pg_sub (pe_var hi hv hdb hcd) pe_int set_list ha) hs hw h1) (Mid := StW d v' G0 H0 ρ) (fun σ H ⟨G, hE, A, ok⟩ => tX_then hE (stw_bef B A ok) fun u G' H' A' hu => by
    have hE' := hE.mono A'.g
    obtain ⟨w, h3, h4⟩ := hE'.get 0 _ hρ
    have B' := stw_bef B A ok
    have B2 := B'.aft A'
    have A2 := A.trans B (aft_wide A')
    refine ⟨w, h3, d.a, _, i, m, h4.1, rfl, A'.ok.2, hix _, G', hE', ?_, hok, ?_⟩
    · refine ⟨fun b o nb e => ?_, ⟨v', hok, ?_⟩, A2.g, fun b o e => ?_, A2.new⟩
      · rw [upd_ne (show b ≠ d.a from nb)]; exact A2.up b o nb e
      · show upd H' d.a _ d.a = _
        rw [upd_same, dpInt hu, hset]
      · have nb : b ≠ d.a := fun z => by rw [z, B2.out d.a rfl] at e; cases e
        rw [upd_ne nb]; exact A2.sub b o e
    · show upd H' d.a _ d.a = _
      rw [upd_same, dpInt hu, hset]) k
theorem stw_ret (B : Bef (wDi d) G0 H0) (he : XE X (wE d v) e ρ s) (hD : ∀ u H', Qs (wDi d) G0 H0 s u H' → D.rt u H') : XSs X (.Return (some e) pos :: rest) (StW d v G0 H0 ρ) D :=
  xss_st (ps_ret (pe_x he)) (Mid := fun _ _ => False) (fun σ H ⟨G, hE, A, ok⟩ => tX_then hE (stw_bef B A ok) fun u G' H' A' hv => hD u H' ⟨G', A.trans B (aft_wide A'), hv⟩) (xss_false fun _ _ z => z)
theorem xe_mulL {w : Wd} {i j : Int} (ha : XE X w a ρ (dS X.K (.int i))) (hb : XE X w b ρ (dS X.K (.int j))) (h : -(2 ^ 64) < i ∧ i < 2 ^ 64) : XE X w (.BinOp a .Mult b pos) ρ (dS X.K (.int (i * j))) := xe_mul ha hb (.inl h)
theorem xe_mulR {w : Wd} {i j : Int} (ha : XE X w a ρ (dS X.K (.int i))) (hb : XE X w b ρ (dS X.K (.int j))) (h : -(2 ^ 64) < j ∧ j < 2 ^ 64) : XE X w (.BinOp a .Mult b pos) ρ (dS X.K (.int (i * j))) := xe_mul ha hb (.inr h)
end
theorem dr_of {K : PySem.W.Frag} {i : Int} {n : Nat} (hn : 1 ≤ n) {G : Hp} {u : V} (h : (dS K (.int (i % (n : Int)))).p G u) : (drS K n).p G u := by
  have h0 : 0 ≤ i % (n : Int) := Int.emod_nonneg _ (by omega)
  have h1 : i % (n : Int) < n := Int.emod_lt_of_pos _ (by omega)
  refine ⟨(i % (n : Int)).toNat, by omega, ?_⟩
  have e : (((i % (n : Int)).toNat : Nat) : Int) = i % (n : Int) := by omega
  show Dp K G u (.int (((i % (n : Int)).toNat : Nat) : Int))
  rw [e]
  exact h
section
variable {P : Program} {w : World} {K : PySem.W.Frag} {mg : Str → Option Value} {base : Heap}
theorem ok_Ldraw (T : Txt K mg) : Fnc P w K mg base CX0 1 "_law_draw" ["_law_dice_here", "_law_sides"] (Pr (fun x : Dc × Nat => wDi x.1) (fun x => 1 ≤ x.2 ∧ x.2 ≤ 1000000) (fun x => [diS x.1, dS K (.int x.2)]) (fun x => drS K x.2)) := by
  refine fnc_mk (k := 0) T.f_Ldraw sc_Ldraw (fun _ _ _ _ _ _ us hl => match us, hl with | [_, _], _ => rfl) (fun _ _ => rfl) fun f cdv A outer sh H Ex x E hok hw hr => ?_
  obtain ⟨d, n⟩ := x
  obtain ⟨h1, h2⟩ := hok
  obtain ⟨we, G0, H0, B⟩ := E
  simp only at h1 h2 hw
  subst hw
  have nd := sc_Ldraw.nd
  refine xss_pre (Pre := fun σ H' => ∃ v : { v // okD v }, StW d v.1 G0 H0 (startR N_Ldraw [diS d, dS K (.int n)]) σ H') (xss_ex fun v => ?_) fun σ H' ⟨G, as, S⟩ => by
    obtain ⟨v, hv, hv2⟩ := S.aft.ok
    exact ⟨⟨v, hv⟩, G, S.env, S.aft, hv, hv2⟩
  obtain ⟨v, p, q, r, s', rfl, hp, hr0, hr1⟩ := v
  have fin : ∀ {rest : List Stmt} {D : Ends} {ρ : Rho}, (∀ p q r s : Int, 0 ≤ p → 0 ≤ r → r < 2147483647 → XSs (cx0 P w K mg base N_Ldraw "_law_draw" (defScope s_Ldraw) f cdv A outer sh H Ex) rest (StW d [p, q, r, s] G0 H0 ρ) D) → XSs (cx0 P w K mg base N_Ldraw "_law_draw" (defScope s_Ldraw) f cdv A outer sh H Ex) rest (fun σ H => ∃ v, okD v ∧ StW d v G0 H0 ρ σ H) D := fun k =>
    xss_ex fun v => xss_and fun hv => by
      obtain ⟨p, q, r, s, rfl, a, b, c⟩ := hv
      exact k p q r s a b c
  refine stw_if (Mid := fun σ H => ∃ v, okD v ∧ StW d v G0 H0 (startR N_Ldraw [diS d, dS K (.int n)]) σ H) B (xt_w (xw_and (xt_c (xc_eqI (xe_di 2 (n := q) (xv 0 rfl) fun _ => rfl) xe_int)) fun _ => xw_and1 (xt_c (xc_lt (xe_di 1 (n := p) (xv 0 rfl) fun _ => rfl) (xe_lenL rfl T.b_len (xe_tl (xe_dl (xv 0 rfl)))))))) (fun hc => ?_) (fun _ => xss_nil fun σ H q => ⟨_, ⟨_, _, _, _, rfl, hp, hr0, hr1⟩, q⟩) (fin fun p q r s hp hr0 hr1 => ?_)
  · have hc' := (Bool.and_eq_true_iff.mp hc.symm)
    have hpl : p < (d.cs.length : Int) := by
      have := of_decide_eq_true hc'.2
      rwa [List.length_map] at this
    have hcell : atI (d.cs.map PyData.int) p = some (.int (d.cs.getD p.toNat 0)) := atI_of (j := p.toNat) (by omega) (by
      rw [List.getElem?_map, List.getD_eq_getElem?_getD, List.getElem?_eq_getElem (show p.toNat < d.cs.length by omega)]
      rfl)
    refine stw_asg 2 B nd (xe_ixL (xe_tl (xe_dl (xv 0 rfl))) (xe_di 1 (n := p) (xv 0 rfl) fun _ => rfl) (fun _ _ => rfl) hcell) ?_
    refine stw_put (v' := [p + 1, q, r, s']) 1 1 B (xe_add (xe_di 1 (n := p) (xv 0 rfl) fun _ => rfl) xe_int) rfl ⟨_, _, _, _, rfl, by omega, hr0, hr1⟩ (fun _ => rfl) (fun _ => rfl) ?_
    refine stw_if (Mid := fun σ H => ∃ v, okD v ∧ StW d v G0 H0 (startR N_Ldraw [diS d, dS K (.int n)]) σ H) B (xt_c (xc_ge (xv 2 rfl) (xe_pow xe_int xe_int ⟨by decide, by decide, by decide⟩))) (fun _ => ?_) (fun _ => ?_) (xss_nil fun σ H q => q)
    · refine stw_put (v' := [p + 1, d.cs.getD p.toNat 0, r, s']) 2 2 B (xv 2 rfl) rfl ⟨_, _, _, _, rfl, by omega, hr0, hr1⟩ (fun _ => rfl) (fun _ => rfl) ?_
      exact xss_nil fun σ H ⟨G, hE, A, ok⟩ => ⟨_, ok.1, G, envd_sub (.same (.same (.no (.same (.same .nil))))) hE, A, ok⟩
    · refine stw_put (v' := [p + 1, q, (r * 69621 + d.cs.getD p.toNat 0 * 40692 + (p + 1)) % 2147483647, s']) 3 3 B (xe_mod (xe_intc rfl T.b_int (xe_add (xe_add (xe_mulR (xe_di 3 (n := r) (xv 0 rfl) fun _ => rfl) xe_int (by omega)) (xe_mulR (xv 2 rfl) xe_int (by omega))) (xe_di 1 (n := p + 1) (xv 0 rfl) fun _ => rfl))) xe_int (by decide)) rfl ⟨_, _, _, _, rfl, by omega, Int.emod_nonneg _ (by decide), Int.emod_lt_of_pos _ (by decide)⟩ (fun _ => rfl) (fun _ => rfl) ?_
      exact xss_nil fun σ H ⟨G, hE, A, ok⟩ => ⟨_, ok.1, G, envd_sub (.same (.same (.no (.same (.same .nil))))) hE, A, ok⟩
  · refine stw_if (Mid := StW d [p, q, r, s] G0 H0 (startR N_Ldraw [diS d, dS K (.int n)])) B (xt_c (xc_gt (xe_di 2 (n := q) (xv 0 rfl) fun _ => rfl) xe_int)) (fun _ => ?_) (fun _ => xss_nil fun σ H q => q) ?_
    · refine stw_asg 3 B nd (xe_mod (xe_intc rfl T.b_int (xe_di 2 (n := q) (xv 0 rfl) fun _ => rfl)) (xv 1 rfl) (by omega)) ?_
      refine stw_put (v' := [p, q / (n : Int), r, s]) 2 2 B (xe_div (xe_intc rfl T.b_int (xe_di 2 (n := q) (xv 0 rfl) fun _ => rfl)) (xv 1 rfl) ⟨by omega, by omega⟩) rfl ⟨_, _, _, _, rfl, by omega, hr0, hr1⟩ (fun _ => rfl) (fun _ => rfl) ?_
      exact stw_ret B (xe_weak (s' := drS K n) (xv 3 rfl) fun _ _ h => dr_of h1 h) fun _ _ h => h
    · refine stw_put (v' := [p, q, r, s + 1]) 4 4 B (xe_add (xe_di 4 (n := s) (xv 0 rfl) fun _ => rfl) xe_int) rfl ⟨_, _, _, _, rfl, hp, hr0, hr1⟩ (fun _ => rfl) (fun _ => rfl) ?_
      generalize hr2 : (r * 48271 + (s + 1) * 7919 + 1) % 2147483647 = r2
      have hr20 : 0 ≤ r2 := by rw [← hr2]; exact Int.emod_nonneg _ (by decide)
      have hr21 : r2 < 2147483647 := by rw [← hr2]; exact Int.emod_lt_of_pos _ (by decide)
      refine stw_put (v' := [p, q, r2, s + 1]) (n := r2) 3 3 B (xe_is (xe_mod (xe_intc rfl T.b_int (xe_add (xe_add (xe_mulR (xe_di 3 (n := r) (xv 0 rfl) fun _ => rfl) xe_int (by omega)) (xe_mulR (xe_di 4 (n := s + 1) (xv 0 rfl) fun _ => rfl) xe_int (by omega))) xe_int)) xe_int (by decide)) (congrArg (fun z => dS K (.int z)) hr2)) rfl ⟨_, _, _, _, rfl, hp, hr20, hr21⟩ (fun _ => rfl) (fun _ => rfl) ?_
      refine stw_asg 4 B nd (xe_mod (xe_intc rfl T.b_int (xe_mulL (xe_di 3 (n := r2) (xv 0 rfl) fun _ => rfl) (xe_add (xe_div (xe_di 3 (n := r2) (xv 0 rfl) fun _ => rfl) xe_int ⟨by decide, by decide⟩) xe_int) (by omega))) xe_int (by decide)) ?_
      generalize hm : (r2 * (r2 / 1009 + 69623)) % 2147483399 = m
      have hm0 : 0 ≤ m := by rw [← hm]; exact Int.emod_nonneg _ (by decide)
      have hm1 : m < 2147483399 := by rw [← hm]; exact Int.emod_lt_of_pos _ (by decide)
      refine stw_asg 4 B nd (xe_mod (xe_intc rfl T.b_int (xe_mulL (xv 4 rfl) (xe_add (xe_div (xv 4 rfl) xe_int ⟨by decide, by decide⟩) xe_int) (by omega))) xe_int (by decide)) ?_
      exact stw_ret B (xe_weak (s' := drS K n) (xe_mod (xe_intc rfl T.b_int (xe_div (xv 4 rfl) xe_int ⟨by decide, by decide⟩)) (xv 1 rfl) (by omega)) fun _ _ h => dr_of h1 h) fun _ _ h => h
end
end K81
end

section
set_option Elab.async false
set_option linter.all false
set_option maxRecDepth 100000
namespace K81
open PySem PySem.Spec PyProof.Rows L2
/-! ### what is drawn -/
section
variable {X : Cx} {w : Wd} {d : Dc} {ρ : Rho} {a b e : Expr} {p pos : Pos} {ds : List PyData} {n N : Nat} {α : Type} {P : α → Prop} {f : α → Int} {j : Int}
theorem xe_draw (T : Txt X.K X.mg) (hr : Room 1 X.A) (hg : Gl X "_law_draw") (h1 : 1 ≤ n) (h2 : n ≤ 1000000) (ha : XE X (wDi d) a ρ (diS d)) (hb : XE X (wDi d) b ρ (dS X.K (.int n)))
    (hs : starEach [a, b] X.env = (false, eval a X.env) :: starEach [b] X.env := by rfl) (hs2 : starEach [b] X.env = (false, eval b X.env) :: starEach [] X.env := by rfl) (hpl : (backTo pos (starEach [b] X.env)).any (·.1) = false := by rfl) : XE X (wDi d) (.Call (.Name "_law_draw" p) [a, b] [] pos) ρ (drS X.K n) :=
  xe_callW (E := E0) (d, n) (ok_Ldraw (P := X.prog) (w := X.w) (base := X.base) T) hr hg pass0 ⟨h1, h2⟩ rfl (xa_cons ha (xa_cons hb xa_nil hs2) hs) (by decide) hs hpl
theorem xe_ixLE (hN : N = ds.length) (ha : XE X w a ρ (dS X.K (.list ds))) (hb : XE X w b ρ (drS X.K N)) (hs : PlainIx b) : XE X w (.Subscript a b pos) ρ (exS (fun d => d ∈ ds) fun d => dS X.K d) :=
  xe_ix ix_list ha hb hs fun G H x y Q hB hx ⟨k, hk, hy⟩ q => by
    obtain ⟨p, xs, rfl, h1, h2⟩ := dpLst hx
    have hkd : k < ds.length := by omega
    obtain ⟨v, hv, hdv⟩ := h2.get (List.getElem?_eq_getElem hkd)
    exact ⟨p, xs, k, v, rfl, dpInt hy, ex_l hB.sub h1, atI_of rfl hv, nx0 q hB ⟨ds[k], List.getElem_mem _, hdv⟩⟩
theorem xc_eqE (ha : XE X w a ρ (exS P fun x => dS X.K (.int (f x)))) (hb : XE X w b ρ (dS X.K (.int j))) : XC X w .Eq a b ρ (exS (fun _ : Bool => True) fun c => dS X.K (.bool c)) :=
  ⟨_, _, _, op_eq, ha, hb, nomark _, fun G H x y Q hB ⟨z, _, hx⟩ hy k => by
    rw [dpInt hx, dpInt hy]
    exact ⟨rfl, nx0 k hB ⟨_, True.intro, .bl _⟩⟩⟩
end
def oneS (K : PySem.W.Frag) (n : Nat) : Sc := exS (fun k : Nat => 1 ≤ k ∧ k ≤ n) fun k => dS K (.int k)
section
variable {X : Cx} {w : Wd} {d : Dc} {ρ : Rho} {a b e : Expr} {p pos : Pos} {ds : List PyData} {n N : Nat} {P : List PyData → Prop}
theorem xe_oneD (ha : XE X w a ρ (dS X.K (.int 1))) (hb : XE X w b ρ (drS X.K N)) : XE X w (.BinOp a .Add b pos) ρ (oneS X.K N) :=
  xe_op op_add ha hb fun G H x y Q hB hx ⟨k, hk, hy⟩ q => rI0_x hx hy hB q ⟨k + 1, ⟨by omega, by omega⟩, by
    show Dp X.K G (.int (1 + (k : Int))) (.int ((k + 1 : Nat) : Int))
    rw [show (1 + (k : Int)) = ((k + 1 : Nat) : Int) by omega]
    exact .int _⟩
theorem xe_tupleOfE (hg : Gl X "tuple") (hm : X.mg "tuple" = none) (ha : XE X w a ρ (exS P (tlS X.K))) (hs : starEach [a] X.env = (false, eval a X.env) :: starEach [] X.env := by rfl) : XE X w (.Call (.Name "tuple" p) [a] [] pos) ρ (exS P fun ds => dS X.K (.tuple ds)) :=
  xe_callT call_tuple_of hg hm (by decide +kernel) (xa_cons ha xa_nil hs) (fun G H vs Q hB hvs k => by
    obtain ⟨v, rfl, ds, hP, hv⟩ := alls1 hvs
    obtain ⟨q, xs, rfl, h1, h2⟩ := dpLst (tl_d hv)
    exact ⟨q, xs, rfl, .inl ⟨ex_l hB.sub h1, fun l hl => k _ _ _ (.new1 hB hl) ⟨ds, hP, .tup (SqT.of upd_same) (dpAll_mono (.new (hB.sub.free hl)) _ _ h2)⟩⟩⟩) (he := hs)
end
theorem lt_8000 {b : Nat} (h : b ≤ 999983) : (b : Int).natAbs < 2 ^ 8000 := by
  rw [Int.natAbs_natCast]
  have h1 : b < 2 ^ 20 := by have : (2 : Nat) ^ 20 = 1048576 := rfl; omega
  exact Nat.lt_of_lt_of_le h1 (Nat.pow_le_pow_right (by decide) (by decide))
theorem xe_listL {X : Cx} {w : Wd} {ρ : Rho} {es : List Expr} {eL : Expr} {pos : Pos} (ds : List PyData) (hL : Expr.List es pos = eL) (h : XA X w es ρ (ds.map (dS X.K))) (hz : ds.length ≤ 1000 := by exact Nat.le_of_ble_eq_true rfl) : XE X w eL ρ (dS X.K (.list ds)) := by
  subst hL
  exact xe_tl (xe_xl1 (xl_lst ds h hz))
/-- [elt for x in iter], of which elt is one of many -/
theorem xlcE {X : Cx} {w : Wd} {ρ : Rho} {elt iter : Expr} {scope : Scope} {x : Str} {p : Pos} (j : Nat) {PN : Nat → Prop} {Y : Nat → PyData} (P : Nat → PyData → Prop) (hN : X.N.Nodup) (hi : XI X w (.Name x p) iter ρ PN (fun k => dS X.K (Y k))) (hz : ∀ n, PN n → n ≤ 100000)
    (he : ∀ n k, PN n → k < n → ∀ (s : Shared) (H : Hp) (C : Addr) (cl : List (Str × Addr)) (fp : List Addr), XE (X.blk s H scope (compEnvC scope cl C X.env) fp) w elt ((wipeR ρ [j]).set j (.dat (dS X.K (Y k)))) (exS (P k) (dS X.K)))
    (ok : BlkOk X.N X.env.scope scope [(x, j)]) (hpg : ∀ (s : Shared) (H : Hp) (C : Addr) (cl : List (Str × Addr)) (fp : List Addr), PG (X.blk s H scope (compEnvC scope cl C X.env) fp) (.Name x p) (gName j)) (hl : j < ρ.length := by exact Nat.le_of_ble_eq_true rfl)
    (hs : ∀ x, foldedSetIterable iter X.env x = pure x := by intro _; rfl) : XLc X w elt (.Name x p) iter [] scope [(x, j)] ρ (fun ds => ∃ n, PN n ∧ Lc n (fun _ => true) P ds) :=
  xlc (gv := [j]) (ρ' := fun k => (wipeR ρ [j]).set j (.dat (dS X.K (Y k)))) hN hi hz ok (fun k hk => hk) (fun k hk => by rw [List.mem_singleton.mp hk]; exact hl) hpg (fun n k _ _ => gs_name) (fun n k _ _ _ _ _ _ _ => xts_nil) (fun n k hn hk _ s H C cl fp => he n k hn hk s H C cl fp) hs
abbrev nqS (K : PySem.W.Frag) : Sc := exS (Nq 20) fun a => dS K (rD a)
theorem nq_div {k b : Nat} (h1 : 1 ≤ b) (h2 : b ≤ 999983) (hk : k ≤ b) : Nq 20 (((k : Int) : Rat) / ((b : Int) : Rat)) := by
  have hb : (0 : Int) < (b : Int) := by omega
  obtain ⟨e1, e2⟩ := rat_made (t := (k : Int)) hb
  have hg := gcd_pos' (t := (k : Int)) hb
  have hd := den_le (t := (k : Int)) hb
  refine ⟨Rat.num_nonneg.mp (by rw [e1]; exact Int.ediv_nonneg (by omega) (by omega)), ?_, by have : (2 : Nat) ^ 20 = 1048576 := rfl; omega⟩
  rw [Rat.le_iff, e1, e2]
  show _ * ((1 : Nat) : Int) ≤ 1 * _
  have := Int.ediv_le_ediv hg (show (k : Int) ≤ (b : Int) by omega)
  omega
section
variable {P : Program} {w : World} {K : PySem.W.Frag} {mg : Str → Option Value} {base : Heap}
theorem ok_Lnumber (T : Txt K mg) : Fnc P w K mg base CX0 2 "_law_number" ["_law_dice_here"] (Pr (fun d : Dc => wDi d) (fun _ => True) (fun d => [diS d]) (fun _ => nqS K)) := by
  have FD := ok_Llowest (P := P) (w := w) (base := base) T
  refine fnc_mk (k := 1) T.f_Lnumber sc_Lnumber (fun _ _ _ _ _ _ us hl => match us, hl with | [_], _ => rfl) (fun _ _ => rfl) fun f cdv A outer s H Ex d E hok hw hr => ?_
  obtain ⟨we, G0, H0, B⟩ := E
  simp only at hw
  subst hw
  show XSs _ (.Assign [.Name _ _] (.Subscript (.List _ _) _ _) _ :: _) _ _
  generalize hL : Expr.List _ _ = eL
  refine xss_asgE 1 sc_Lnumber.nd (xe_ixLE (ds := ([1, 2, 3, 4, 5, 6, 8, 10, 12, 60, 999983] : List Int).map .int) rfl (xe_listL _ hL (xa_cons xe_int (xa_cons xe_int (xa_cons xe_int (xa_cons xe_int (xa_cons xe_int (xa_cons xe_int (xa_cons xe_int (xa_cons xe_int (xa_cons xe_int (xa_cons xe_int (xa_cons xe_int xa_nil))))))))))))
    (xe_draw T hr rfl (by decide) (by decide) (xv 0 rfl) xe_int) (fun _ _ => rfl)) fun y hy => ?_
  obtain ⟨b, h1, h2, rfl⟩ : ∃ b : Nat, 1 ≤ b ∧ b ≤ 999983 ∧ y = .int b := by
    obtain ⟨i, hi, rfl⟩ := List.mem_map.mp hy
    have := (show ∀ i ∈ ([1, 2, 3, 4, 5, 6, 8, 10, 12, 60, 999983] : List Int), 1 ≤ i ∧ i ≤ 999983 by decide) i hi
    exact ⟨i.toNat, by omega, by omega, congrArg PyData.int (by omega)⟩
  have hb0 : (0 : Int) < (b : Int) := by omega
  have hb8 : (b : Int).natAbs < 2 ^ 8000 := lt_8000 h2
  refine xss_ret (xe_callG FD hr rfl pass0 (xa_cons (xe_draw T hr rfl (n := b + 1) (by omega) (by omega) (xv 0 rfl) (xe_d (xe_add (xv 1 rfl) xe_int) (congrArg PyData.int (by omega)))) (xa_cons (xv 1 rfl) xa_nil)) fun G H vs hB hv => ?_)
  obtain ⟨v, u, rfl, ⟨k, hk, q1⟩, q2⟩ := alls2 hv
  refine ⟨((k : Int), (b : Int)), ⟨hb0, hb8⟩, hB.pure, .cons q1 (.cons q2 .nil), fun Q q => nx_pure hB fun v G' H' A hv' => q v G' H' A ⟨_, nq_div h1 h2 (by omega), hv'⟩⟩
end
/-! ### drawn terms -/
def szB : Nat → Nat
  | 0 => 0
  | d + 1 => 1 + 3 * szB d
structure TB (n dp : Nat) (t : Tm) : Prop where
  ok : Tm.ok n t
  dep : t.dep ≤ dp
  size : t.size ≤ szB dp
def tmS (K : PySem.W.Frag) (n dp : Nat) : Sc := exS (TB n dp) fun t => dS K t.toD
theorem deps_all {d : Nat} : ∀ {ts : List Tm}, (∀ t ∈ ts, t.dep ≤ d) → Tm.deps ts ≤ d
  | [], _ => by simp [Tm.deps]
  | t :: ts, h => by
    have h1 := h t (by simp)
    have h2 := deps_all fun u hu => h u (List.mem_cons_of_mem _ hu)
    rw [Tm.deps]
    omega
theorem sizes_all {d : Nat} : ∀ {ts : List Tm}, (∀ t ∈ ts, t.size ≤ d) → Tm.sizes ts ≤ ts.length * d
  | [], _ => by simp [Tm.sizes]
  | t :: ts, h => by
    have h1 := h t (by simp)
    have h2 := sizes_all fun u hu => h u (List.mem_cons_of_mem _ hu)
    rw [Tm.sizes, List.length_cons, Nat.succ_mul]
    omega
theorem TB.node {n d : Nat} {t : Tm} (ho : Tm.ok n t) (hk : ∀ c ∈ kids t, TB n d c) (hl : (kids t).length ≤ 3) : TB n (d + 1) t := by
  have h1 := deps_all fun c hc => (hk c hc).dep
  have h2 := sizes_all fun c hc => (hk c hc).size
  refine ⟨ho, by rw [dep_kids]; omega, ?_⟩
  rw [size_kids, szB]
  have := Nat.mul_le_mul_right (szB d) hl
  omega
theorem tms_of {n : Nat} {p : Tm → Prop} : ∀ {ds : List PyData}, (∀ d ∈ ds, ∃ t, p t ∧ d = t.toD) → ∃ ts : List Tm, ds = Tm.toDs ts ∧ ∀ t ∈ ts, p t
  | [], _ => ⟨[], rfl, fun _ h => by simp at h⟩
  | d :: ds, h => by
    obtain ⟨t, h1, h2⟩ := h d (by simp)
    obtain ⟨ts, h3, h4⟩ := tms_of (n := n) fun e he => h e (List.mem_cons_of_mem _ he)
    refine ⟨t :: ts, by rw [Tm.toDs, h2, h3], fun u hu => ?_⟩
    rcases List.mem_cons.mp hu with rfl | hu
    · exact h1
    · exact h4 u hu
theorem lc_all {m : Nat} {Q : Nat → PyData → Prop} {ds : List PyData} (h : Lc m (fun _ => true) Q ds) : ds.length = m ∧ ∀ i, i < m → Q i (ds.getD i .none) := by
  obtain ⟨g, h1, rfl⟩ := h
  have e : (List.range m).filter (fun _ => true) = List.range m := List.filter_eq_self.mpr fun _ _ => rfl
  rw [e]
  refine ⟨by simp, fun i hi => ?_⟩
  rw [gd _ (by simpa using hi), List.getElem_map, List.getElem_range]
  exact h1 i hi rfl
theorem ws_of {c : Nat} : ∀ {es ds : List PyData}, ds.length = es.length → (∀ i, i < es.length → ∃ k : Nat, (1 ≤ k ∧ k ≤ c) ∧ ds.getD i .none = wD k (es.getD i .none)) → ∃ ws : List Nat, ws.length = es.length ∧ (∀ k ∈ ws, 1 ≤ k ∧ k ≤ c) ∧ ds = List.zipWith wD ws es
  | [], [], _, _ => ⟨[], rfl, fun _ h => by simp at h, rfl⟩
  | [], _ :: _, h, _ => by simp at h
  | _ :: _, [], h, _ => by simp at h
  | e :: es, d :: ds, hl, h => by
    obtain ⟨k, h1, h2⟩ := h 0 (by simp)
    have h2' : d = wD k e := h2
    obtain ⟨ws, q1, q2, q3⟩ := ws_of (c := c) (es := es) (ds := ds) (by simpa using hl) fun i hi => h (i + 1) (by simpa using hi)
    refine ⟨k :: ws, by simpa using q1, fun u hu => ?_, by rw [List.zipWith_cons_cons, ← q3, h2']⟩
    rcases List.mem_cons.mp hu with rfl | hu
    · exact h1
    · exact q2 u hu
theorem asc_two (a b : Rat) : ∃ x y, asc [a, b] = [x, y] ∧ (x = a ∨ x = b) ∧ (y = a ∨ y = b) ∧ x ≤ y := by
  have hl := asc_length [a, b]
  have hp := asc_perm [a, b]
  have ha := asc_asc [a, b]
  match h : asc [a, b], hl with
  | [x, y], _ =>
    rw [h] at hp ha
    have h1 : x ∈ [a, b] := hp.mem_iff.mp (by simp)
    have h2 : y ∈ [a, b] := hp.mem_iff.mp (by simp)
    exact ⟨x, y, rfl, by simpa using h1, by simpa using h2, (List.pairwise_cons.mp ha).1 y (by simp)⟩
abbrev endS (K : PySem.W.Frag) : Sc := exS (fun p : Rat × Rat => Nq 20 p.1 ∧ Nq 20 p.2 ∧ p.1 ≤ p.2) fun p => dS K (.list [rD p.1, rD p.2])
abbrev TmG : Type := Dc × Nat × Nat
abbrev spTerm (K : PySem.W.Frag) (D : Nat) : Sp := Pr (fun x : TmG => wDi x.1) (fun x => (1 ≤ x.2.1 ∧ x.2.1 ≤ 6) ∧ x.2.2 ≤ D) (fun x => [diS x.1, dS K (.int x.2.1), dS K (.int (x.2.2 + 1 : Nat)), dS K (.bool true)]) (fun x => tmS K x.2.1 (x.2.2 + 1))
section
variable {P : Program} {w : World} {K : PySem.W.Frag} {mg : Str → Option Value} {base : Heap}
theorem term_step (T : Txt K mg) (D : Nat) (ih : ∀ e, D = e + 1 → Fnc P w K mg base CX0 (3 + e) "_law_term" ["_law_dice_here", "_law_people", "_law_deep", "_law_means"] (spTerm K e)) : Fnc P w K mg base CX0 (3 + D) "_law_term" ["_law_dice_here", "_law_people", "_law_deep", "_law_means"] (spTerm K D) := by
  have FN := ok_Lnumber (P := P) (w := w) (base := base) T
  have FS := fnc_d (ok_Lsorted (P := P) (w := w) (base := base) T)
  rw [Nat.add_comm 3 D]
  refine fnc_mk (k := D + 2) T.f_Lterm sc_Lterm (fun _ _ _ _ _ _ us hl => match us, hl with | [_, _, _, _], _ => rfl) (fun _ _ => rfl) fun f cdv A outer s H Ex x E hok hw hr => ?_
  obtain ⟨dc, n, d⟩ := x
  obtain ⟨⟨hn1, hn6⟩, hdD⟩ := hok
  obtain ⟨we, G0, H0, B⟩ := E
  simp only at hw hn1 hn6 hdD
  subst hw
  have nd := sc_Lterm.nd
  have hr1 : Room 1 (A.deeper (envOfC "_law_term" (defScope s_Lterm) s.heap.objs.size f cdv)) := hr.mono (by omega)
  have hr2 : Room 2 (A.deeper (envOfC "_law_term" (defScope s_Lterm) s.heap.objs.size f cdv)) := hr.mono (by omega)
  refine xss_asgE 4 nd (xe_draw T hr1 rfl (n := 8) (by decide) (by decide) (xv 0 rfl) xe_int) fun k hk => ?_
  refine xss_ifR (xt_w (xw_or (xt_c (xc_eqI (xv 2 rfl) xe_int)) fun _ => xw_or1 (xt_c (xc_eqI (xv 4 rfl) xe_int)))) (fun _ => ?_) fun hne => ?_
  · refine xss_ifR (xt_cP (xc_eqE (xe_draw T hr1 rfl (n := 5) (by decide) (by decide) (xv 0 rfl) xe_int) xe_int)) (fun _ => ?_) fun _ => ?_
    · refine xss_ret (xe_weak (s' := tmS K n (d + 1)) (xe_tupS (xa_cons xe_str (xa_cons (xe_callW dc FN hr2 rfl pass0 True.intro rfl (xa_cons (xv 0 rfl) xa_nil)) xa_nil)) (Nat.le_of_ble_eq_true rfl)) fun G v h => ?_)
      obtain ⟨a, vs, rfl, h1, h2⟩ := h
      obtain ⟨v1, v2, rfl, q1, r, hr', q2⟩ := alls2 h2
      exact ⟨.fix r, TB.node (d := d) hr' (fun c hc => by simp [kids] at hc) (by simp [kids]), by
        show Dp K G _ (Tm.toD (.fix r))
        rw [toD_fix]
        exact .tup h1 (.cons q1 (.cons q2 .nil))⟩
    · refine xss_ret (xe_weak (s' := tmS K n (d + 1)) (xe_tupS (xa_cons xe_str (xa_cons (xe_draw T hr1 rfl (n := n) hn1 (by omega) (xv 0 rfl) (xv 1 rfl)) xa_nil)) (Nat.le_of_ble_eq_true rfl)) fun G v h => ?_)
      obtain ⟨a, vs, rfl, h1, h2⟩ := h
      obtain ⟨v1, v2, rfl, q1, p, hp, q2⟩ := alls2 h2
      exact ⟨.bid p, TB.node (d := d) hp (fun c hc => by simp [kids] at hc) (by simp [kids]), by
        show Dp K G _ (Tm.toD (.bid p))
        rw [toD_bid]
        exact .tup h1 (.cons q1 (.cons q2 .nil))⟩
  have hd1 : ¬ ((d + 1 : Nat) : Int) = 1 := fun z => by rw [decide_eq_true z] at hne; exact nomatch hne
  obtain ⟨e, rfl⟩ : ∃ e, d = e + 1 := ⟨d - 1, by omega⟩
  obtain ⟨D', rfl⟩ : ∃ D', D = D' + 1 := ⟨D - 1, by omega⟩
  have FT := ih D' rfl
  have hr3 : Room (3 + D') (A.deeper (envOfC "_law_term" (defScope s_Lterm) s.heap.objs.size f cdv)) := hr.mono (by omega)
  refine xss_setL 5 rfl (xlcE 6 (PN := fun m => 1 ≤ m ∧ m ≤ 3) (Y := fun i => .int i) (fun _ z => ∃ t, TB n (e + 1) t ∧ z = t.toD) nd (xi_range rfl T.b_range (xe_oneD xe_int (xe_draw T hr1 rfl (n := 3) (by decide) (by decide) (xv 0 rfl) xe_int)) (fun m hm => by omega)) (fun m hm => by omega)
    (fun m i _ _ _ _ _ _ _ => xe_weak (s := tmS K n (e + 1)) (xe_callW (dc, n, e) FT hr3 rfl pass0 ⟨⟨hn1, hn6⟩, by show e ≤ D'; omega⟩ rfl (xa_cons (xv 0 rfl) (xa_cons (xv 1 rfl) (xa_cons (xe_d (xe_sub (xv 2 rfl) xe_int) (congrArg PyData.int (show ((e + 1 + 1 : Nat) : Int) - 1 = ((e + 1 : Nat) : Int) by omega))) (xa_cons (xv 3 rfl) xa_nil))))) fun G v ⟨t, h1, h2⟩ => ⟨t.toD, ⟨t, h1, rfl⟩, h2⟩)
    (blkOk_by (N := N_Lterm) (sc := defScope s_Lterm) (by decide +kernel)) (fun _ _ _ _ _ => pg_name nd rfl (.inl rfl))) rfl fun ds hds => ?_
  obtain ⟨m, hm, hlc⟩ := hds
  obtain ⟨hl, hall⟩ := lc_all hlc
  obtain ⟨ts, rfl, hts⟩ := tms_of (n := n) (p := TB n (e + 1)) (ds := ds) fun z hz => by
    obtain ⟨i, hi, rfl⟩ := List.getElem_of_mem hz
    have := hall i (by omega)
    rwa [gd _ hi] at this
  rw [toDs_length] at hl
  have hos : Tm.oks n ts := (Tm.oks_iff n).mpr fun t ht => (hts t ht).ok
  refine xss_ifR (xt_c (xc_eqI (xv 4 rfl) xe_int)) (fun _ => ?_) fun _ => ?_
  · refine xss_asgE (f := fun p : Rat × Rat => dS K (.list [rD p.1, rD p.2])) (P := fun p : Rat × Rat => Nq 20 p.1 ∧ Nq 20 p.2 ∧ p.1 ≤ p.2) 7 nd (xe_callG FS hr2 rfl pass0 (xa_cons (xe_lsS (xa_cons (xe_callW dc FN hr2 rfl pass0 True.intro rfl (xa_cons (xv 0 rfl) xa_nil)) (xa_cons (xe_callW dc FN hr2 rfl pass0 True.intro rfl (xa_cons (xv 0 rfl) xa_nil)) xa_nil)) (Nat.le_of_ble_eq_true rfl)) xa_nil) fun G H vs hB hv => ?_) fun y hy => ?_
    · obtain ⟨v, rfl, a, us, rfl, h1, h2⟩ := alls1 hv
      obtain ⟨v1, v2, rfl, ⟨r1, hr1', q1⟩, r2, hr2', q2⟩ := alls2 h2
      refine ⟨[r1, r2], fs_nq (fun z hz => ?_) (Nat.le_of_ble_eq_true rfl), hB.pure, .cons (.lst h1 (.cons q1 (.cons q2 .nil))) .nil, fun Q q => nx_pure hB fun v G' H' A hv' => q v G' H' A ?_⟩
      · simp only [List.mem_cons, List.not_mem_nil, or_false] at hz
        rcases hz with rfl | rfl
        · exact hr1'.mono (by decide)
        · exact hr2'.mono (by decide)
      · obtain ⟨es, e1, e2⟩ := hv'
        obtain ⟨x, y, exy, hx, hy, hxy⟩ := asc_two r1 r2
        rw [e1, exy] at e2
        refine ⟨(x, y), ⟨?_, ?_, hxy⟩, tl_d e2⟩
        · rcases hx with rfl | rfl <;> assumption
        · rcases hy with rfl | rfl <;> assumption
    · obtain ⟨lo, hi⟩ := y
      obtain ⟨hlo, hhi, hle⟩ := hy
      have ht0 : ts[0]? = some (ts[0]'(by omega)) := List.getElem?_eq_getElem (by omega)
      refine xss_ret (xe_weak (s' := tmS K n (e + 1 + 1)) (xe_tup [.str "between", rD lo, rD hi, Tm.toD (ts[0]'(by omega))] (xa_cons xe_str (xa_cons (xe_ixL (ds := [rD lo, rD hi]) (d := rD lo) (xv 7 rfl) xe_int (fun _ _ => rfl) rfl) (xa_cons (xe_ixL (ds := [rD lo, rD hi]) (d := rD hi) (xv 7 rfl) xe_int (fun _ _ => rfl) rfl) (xa_cons (xe_ixL (ds := Tm.toDs ts) (xe_tl (xv 5 rfl)) xe_int (fun _ _ => rfl) (atI_of (j := 0) rfl (by rw [Tm.toDs_map, List.getElem?_map, ht0]; rfl))) xa_nil))))) fun G v h => ?_)
      refine ⟨.between lo hi (ts[0]'(by omega)), TB.node ⟨hlo, hhi, hle, (hts _ (List.getElem_mem _)).ok⟩ (fun c hc => ?_) (Nat.le_of_ble_eq_true rfl), by
        show Dp K G v (Tm.toD (.between lo hi _))
        rw [toD_between]
        exact h⟩
      rw [kids, List.mem_singleton] at hc
      subst hc
      exact hts _ (List.getElem_mem _)
  refine xss_ifR (xt_c (xc_eqI (xv 4 rfl) xe_int)) (fun _ => ?_) fun _ => ?_
  · refine xss_ret (xe_weak (s' := tmS K n (e + 1 + 1)) (xe_tup [.str "least", .tuple (Tm.toDs ts)] (xa_cons xe_str (xa_cons (xe_tupleOf rfl T.b_tuple (xe_tl (xv 5 rfl))) xa_nil))) fun G v h => ⟨.least ts, TB.node ⟨by omega, by omega, hos⟩ hts (by show ts.length ≤ 3; omega), by
      show Dp K G v (Tm.toD (.least ts))
      rw [toD_least]
      exact h⟩)
  refine xss_ifR (xt_c (xc_eqI (xv 4 rfl) xe_int)) (fun _ => ?_) fun _ => ?_
  · refine xss_ret (xe_weak (s' := tmS K n (e + 1 + 1)) (xe_tup [.str "greatest", .tuple (Tm.toDs ts)] (xa_cons xe_str (xa_cons (xe_tupleOf rfl T.b_tuple (xe_tl (xv 5 rfl))) xa_nil))) fun G v h => ⟨.greatest ts, TB.node ⟨by omega, by omega, hos⟩ hts (by show ts.length ≤ 3; omega), by
      show Dp K G v (Tm.toD (.greatest ts))
      rw [toD_greatest]
      exact h⟩)
  refine xss_ifR (xt_w (xw_or (xt_c (xc_eqI (xv 4 rfl) xe_int)) fun _ => xw_or1 (x := false) (xt_not (x := true) (xt_val (xv 3 rfl))))) (fun _ => ?_) fun _ => ?_
  · refine xss_ret (xe_weak (s' := tmS K n (e + 1 + 1)) (xe_tupS (xa_cons xe_str (xa_cons (xe_oneD xe_int (xe_draw T hr1 rfl (n := ts.length) (by omega) (by omega) (xv 0 rfl) (xe_d (xe_lenL rfl T.b_len (xe_tl (xv 5 rfl))) (by rw [toDs_length])))) (xa_cons (xe_tupleOf rfl T.b_tuple (xe_tl (xv 5 rfl))) xa_nil))) (Nat.le_of_ble_eq_true rfl)) fun G v h => ?_)
    obtain ⟨a, vs, rfl, h1, h2⟩ := h
    cases h2 with
    | cons q1 h2 =>
      obtain ⟨v2, v3, rfl, ⟨r, hr', q2⟩, q3⟩ := alls2 h2
      exact ⟨.ranked r ts, TB.node ⟨hr'.1, hr'.2, by omega, hos⟩ hts (by show ts.length ≤ 3; omega), by
        show Dp K G _ (Tm.toD (.ranked r ts))
        rw [toD_ranked]
        exact .tup h1 (.cons q1 (.cons q2 (.cons q3 .nil)))⟩
  refine xss_ret (xe_weak (s' := tmS K n (e + 1 + 1)) (xe_tupS (xa_cons xe_str (xa_cons (xe_tupleOfE rfl T.b_tuple (xe_xl (xl_lcx rfl (xlcE 8 (Y := fun i => (Tm.toDs ts).getD i .none) (fun i z => ∃ k : Nat, (1 ≤ k ∧ k ≤ 5) ∧ z = wD k ((Tm.toDs ts).getD i .none)) nd (xi_listD (xe_tl (xv 5 rfl))) (fun m hm => by rw [hm, toDs_length]; omega)
    (fun m i _ _ _ _ _ _ _ => xe_weak (xe_tupS (xa_cons (xe_oneD xe_int (xe_draw T hr1 rfl (n := 5) (by decide) (by decide) (xv 0 rfl) xe_int)) (xa_cons (xv 8 rfl) xa_nil)) (Nat.le_of_ble_eq_true rfl)) fun G v h => ?el)
    (blkOk_by (N := N_Lterm) (sc := defScope s_Lterm) (by decide +kernel)) (fun _ _ _ _ _ => pg_name nd rfl (.inl rfl)))))) xa_nil)) (Nat.le_of_ble_eq_true rfl)) fun G v h => ?_)
  case el =>
    obtain ⟨a, vs, rfl, h1, h2⟩ := h
    obtain ⟨v1, v2, rfl, ⟨r, hr', q1⟩, q2⟩ := alls2 h2
    exact ⟨wD r ((Tm.toDs ts).getD i .none), ⟨r, hr', rfl⟩, .tup h1 (.cons q1 (.cons q2 .nil))⟩
  obtain ⟨a, vs, rfl, h1, h2⟩ := h
  obtain ⟨v1, v2, rfl, q1, zs, ⟨m', hm', hlc'⟩, q2⟩ := alls2 h2
  obtain ⟨hl', hall'⟩ := lc_all hlc'
  subst hm'
  obtain ⟨ws, w1, w2, rfl⟩ := ws_of hl' hall'
  rw [toDs_length] at w1
  refine ⟨.mean ws ts, TB.node ⟨w1, by omega, by omega, fun k hk => by have := w2 k hk; omega, hos⟩ hts (by show ts.length ≤ 3; omega), ?_⟩
  show Dp K G _ (Tm.toD (.mean ws ts))
  rw [toD_mean]
  exact .tup h1 (.cons q1 (.cons q2 .nil))
theorem ok_Lterm (T : Txt K mg) : ∀ d, Fnc P w K mg base CX0 (3 + d) "_law_term" ["_law_dice_here", "_law_people", "_law_deep", "_law_means"] (spTerm K d)
  | 0 => term_step T 0 fun e h => by omega
  | d + 1 => term_step T (d + 1) fun e h => by
    have : d = e := by omega
    subst this
    exact ok_Lterm T d
end
end K81
end

section
set_option Elab.async false
set_option linter.all false
set_option maxRecDepth 100000
namespace K81
open PySem PySem.Spec PyProof.Rows L2
/-! ### drawn rules -/
abbrev RT : Type := Nat × Tm
def rpS (K : PySem.W.Frag) : Sc := exS (fun x : RT => TOk x.1 x.2) fun x => dS K (.tuple [.int x.1, x.2.toD])
def okS (K : PySem.W.Frag) (n : Nat) : Sc := exS (TOk n) fun t => dS K t.toD
def bidsT (n : Nat) : List Tm := (List.range n).map .bid
theorem bids_len (n : Nat) : (bidsT n).length = n := by simp [bidsT]
theorem bids_mem {n : Nat} {t : Tm} (h : t ∈ bidsT n) : ∃ p, p < n ∧ t = .bid p := by
  obtain ⟨p, hp, rfl⟩ := List.mem_map.mp h
  exact ⟨p, List.mem_range.mp hp, rfl⟩
theorem bids_getD {n i : Nat} (h : i < n) : (Tm.toDs (bidsT n)).getD i .none = .tuple [.str "bid", .int i] := by
  rw [toDs_getD (by rw [bids_len]; exact h)]
  unfold bidsT
  rw [List.getElem_map, List.getElem_range, toD_bid]
theorem mean2_ok {n : Nat} {t : Tm} {ws : List Nat} {k1 k2 : Nat} (h1 : 1 ≤ n) (h6 : n ≤ 6) (ht : TB n 4 t) (hw : ws.length = n) (hws : ∀ k ∈ ws, 1 ≤ k ∧ k ≤ 3) (hk1 : 1 ≤ k1 ∧ k1 ≤ 3) (hk2 : 1 ≤ k2 ∧ k2 ≤ 3) : TOk n (.mean [k1, k2] [t, .mean ws (bidsT n)]) := by
  have d1 : Tm.deps (bidsT n) ≤ 1 := deps_all fun u hu => by
    obtain ⟨p, _, rfl⟩ := bids_mem hu
    simp [Tm.dep]
  have s1 : Tm.sizes (bidsT n) ≤ (bidsT n).length * 1 := sizes_all fun u hu => by
    obtain ⟨p, _, rfl⟩ := bids_mem hu
    simp [Tm.size]
  rw [bids_len] at s1
  have q1 := ht.dep
  have q2 := ht.size
  have e4 : szB 4 = 40 := rfl
  refine ⟨h1, h6, ?_, ⟨rfl, by show 1 ≤ 2; omega, by show 2 ≤ 8; omega, fun k hk => ?_, ht.ok, ⟨by rw [hw, bids_len], by rw [bids_len]; omega, by rw [bids_len]; omega, fun k hk => by have := hws k hk; omega, (Tm.oks_iff n).mpr fun u hu => ?_⟩, True.intro⟩, ?_⟩
  · simp only [Tm.dep, Tm.deps]; omega
  · simp only [List.mem_cons, List.not_mem_nil, or_false] at hk
    rcases hk with rfl | rfl <;> omega
  · obtain ⟨p, hp, rfl⟩ := bids_mem hu
    exact hp
  · simp only [Tm.size, Tm.sizes]; omega
theorem tb_ok {n : Nat} {t : Tm} (h1 : 1 ≤ n) (h6 : n ≤ 6) (ht : TB n 4 t) : TOk n t := ⟨h1, h6, by have := ht.dep; omega, ht.ok, by have := ht.size; have e4 : szB 4 = 40 := rfl; omega⟩
theorem szB_mono : ∀ {a b : Nat}, a ≤ b → szB a ≤ szB b
  | 0, _, _ => Nat.zero_le _
  | a + 1, 0, h => absurd h (by omega)
  | a + 1, b + 1, h => by
    have := szB_mono (a := a) (b := b) (by omega)
    rw [szB, szB]
    omega
theorem TB.mono {n a b : Nat} {t : Tm} (h : TB n a t) (k : a ≤ b) : TB n b t := ⟨h.ok, Nat.le_trans h.dep k, Nat.le_trans h.size (szB_mono k)⟩
section
variable {P : Program} {w : World} {K : PySem.W.Frag} {mg : Str → Option Value} {base : Heap}
theorem ok_Lrule_parts (T : Txt K mg) : Fnc P w K mg base CX0 7 "_law_rule_parts" ["_law_dice_here", "_law_most"] (Pr (fun d : Dc => wDi d) (fun _ => True) (fun d => [diS d, dS K (.int 6)]) (fun _ => rpS K)) := by
  have FT := ok_Lterm (P := P) (w := w) (base := base) T 3
  refine fnc_mk (k := 6) T.f_Lrule_parts sc_Lrule_parts (fun _ _ _ _ _ _ us hl => match us, hl with | [_, _], _ => rfl) (fun _ _ => rfl) fun f cdv A outer s H Ex dc E hok hw hr => ?_
  obtain ⟨we, G0, H0, B⟩ := E
  simp only at hw
  subst hw
  have nd := sc_Lrule_parts.nd
  have hr1 : Room 1 (A.deeper (envOfC "_law_rule_parts" (defScope s_Lrule_parts) s.heap.objs.size f cdv)) := hr.mono (by omega)
  refine xss_asgE (P := fun k : Nat => 1 ≤ k ∧ k ≤ 6) (f := fun k => dS K (.int k)) 2 nd (xe_oneD (N := 6) xe_int (xe_draw T hr1 rfl (n := 6) (by decide) (by decide) (xv 0 rfl) (xv 1 rfl))) fun n hn => ?_
  obtain ⟨h1, h6⟩ := hn
  refine xss_asgE (P := TB n 4) (f := fun t => dS K t.toD) 3 nd (xe_callG FT hr rfl pass0 (xa_cons (xv 0 rfl) (xa_cons (xv 2 rfl) (xa_cons (xe_oneD (N := 4) xe_int (xe_draw T hr1 rfl (n := 4) (by decide) (by decide) (xv 0 rfl) xe_int)) (xa_cons (xe_bl (k := true)) xa_nil)))) fun G H vs hB hv => ?_) fun t ht => ?_
  · cases hv with
    | cons q1 hv =>
      cases hv with
      | cons q2 hv =>
        obtain ⟨v3, v4, rfl, ⟨k, hk, q3⟩, q4⟩ := alls2 hv
        refine ⟨(dc, n, k - 1), ⟨⟨h1, h6⟩, by show k - 1 ≤ 3; omega⟩, hB, .cons q1 (.cons q2 (.cons ?_ (.cons q4 .nil))), fun Q q v G' H' A ⟨t, ht, hv'⟩ => q v G' H' A ⟨t, TB.mono ht (by show k - 1 + 1 ≤ 4; omega), hv'⟩⟩
        show Dp K G v3 (.int ((k - 1 + 1 : Nat) : Int))
        rw [show k - 1 + 1 = k by omega]
        exact q3
  have fin : XSs (cx0 P w K mg base N_Lrule_parts "_law_rule_parts" (defScope s_Lrule_parts) f cdv A outer s H Ex) ((defBody s_Lrule_parts).drop 3) (fun σ H => ∃ u : { u // TOk n u }, Sta K ⟨wDi dc, G0, H0, B⟩ [.dat (diS dc), .dat (dS K (.int 6)), .dat (dS K (.int n)), .dat (dS K u.1.toD), .no, .no] [] [] σ H) { nx := fun _ H' => Qs (wDi dc) G0 H0 (rpS K) .non H', rt := Qs (wDi dc) G0 H0 (rpS K) } :=
    xss_ex fun u => xss_ret (xe_weak (s' := rpS K) (xe_tup [.int n, u.1.toD] (xa_cons (xv 2 rfl) (xa_cons (xv 3 rfl) xa_nil))) fun G v h => ⟨(n, u.1), u.2, h⟩)
  refine xss_ifM (xt_cP (xc_eqE (xe_draw T hr1 rfl (n := 2) (by decide) (by decide) (xv 0 rfl) xe_int) xe_int)) (fun _ => ?_) (fun _ => xss_nil fun σ H q => ⟨⟨t, tb_ok h1 h6 ht⟩, q⟩) fin
  refine xss_asgE 4 nd (xe_tupleOfE rfl T.b_tuple (xe_xl (xl_lcx rfl (xlcE 5 (Y := fun i => .int i) (fun i z => ∃ k : Nat, (1 ≤ k ∧ k ≤ 3) ∧ z = wD k (.tuple [.str "bid", .int i])) nd (xi_range1 rfl T.b_range (xv 2 rfl) (by omega)) (fun m hm => by omega)
    (fun m i _ _ _ _ _ _ _ => xe_weak (xe_tupS (xa_cons (xe_oneD xe_int (xe_draw T hr1 rfl (n := 3) (by decide) (by decide) (xv 0 rfl) xe_int)) (xa_cons (xe_tup [.str "bid", .int i] (xa_cons xe_str (xa_cons (xv 5 rfl) xa_nil))) xa_nil)) (Nat.le_of_ble_eq_true rfl)) fun G v h => ?el)
    (blkOk_by (N := N_Lrule_parts) (sc := defScope s_Lrule_parts) (by decide +kernel)) (fun _ _ _ _ _ => pg_name nd rfl (.inl rfl)))))) fun zs hzs => ?_
  case el =>
    obtain ⟨a, vs, rfl, q1, q2⟩ := h
    obtain ⟨v1, v2, rfl, ⟨r, hr', q3⟩, q4⟩ := alls2 q2
    exact ⟨wD r (.tuple [.str "bid", .int i]), ⟨r, hr', rfl⟩, .tup q1 (.cons q3 (.cons q4 .nil))⟩
  obtain ⟨m, hm, hlc⟩ := hzs
  subst hm
  obtain ⟨hl, hall⟩ := lc_all hlc
  obtain ⟨ws, w1, w2, rfl⟩ := ws_of (c := 3) (es := Tm.toDs (bidsT m)) (by rw [hl, toDs_length, bids_len]) fun i hi => by
    rw [toDs_length, bids_len] at hi
    rw [bids_getD hi]
    exact hall i hi
  rw [toDs_length, bids_len] at w1
  refine xss_asgE (P := TOk m) (f := fun t => dS K t.toD) 3 nd (xe_weak (xe_tupS (xa_cons (xe_str (k := "mean")) (xa_cons (xe_tupS (xa_cons (xe_tupS (xa_cons (xe_oneD xe_int (xe_draw T hr1 rfl (n := 3) (by decide) (by decide) (xv 0 rfl) xe_int)) (xa_cons (xv 3 rfl) xa_nil)) (Nat.le_of_ble_eq_true rfl)) (xa_cons (xe_tupS (xa_cons (xe_oneD xe_int (xe_draw T hr1 rfl (n := 3) (by decide) (by decide) (xv 0 rfl) xe_int)) (xa_cons (xe_tupS (xa_cons (xe_str (k := "mean")) (xa_cons (xv 4 rfl) xa_nil)) (Nat.le_of_ble_eq_true rfl)) xa_nil)) (Nat.le_of_ble_eq_true rfl)) xa_nil)) (Nat.le_of_ble_eq_true rfl)) xa_nil)) (Nat.le_of_ble_eq_true rfl)) fun G v h => ?_) fun u hu => xss_nil fun σ H q => ⟨⟨u, hu⟩, sta_sub (.same (.same (.same (.same (.no (.no .nil)))))) q⟩
  obtain ⟨a, vs, rfl, q1, q2⟩ := h
  obtain ⟨v1, v2, rfl, q3, a2, vs2, rfl, q4, q5⟩ := alls2 q2
  obtain ⟨v3, v4, rfl, ⟨a3, vs3, rfl, p1, p2⟩, a4, vs4, rfl, p3, p4⟩ := alls2 q5
  obtain ⟨v5, v6, rfl, ⟨k1, hk1, p5⟩, p6⟩ := alls2 p2
  obtain ⟨v7, v8, rfl, ⟨k2, hk2, p7⟩, a5, vs5, rfl, p8, p9⟩ := alls2 p4
  obtain ⟨v9, v10, rfl, p10, p11⟩ := alls2 p9
  refine ⟨.mean [k1, k2] [t, .mean ws (bidsT m)], mean2_ok h1 h6 ht w1 w2 hk1 hk2, ?_⟩
  show Dp K G _ (Tm.toD _)
  rw [toD_mean, Tm.toDs, Tm.toDs, Tm.toDs, toD_mean]
  exact .tup q1 (.cons q3 (.cons (.tup q4 (.cons (.tup p1 (.cons p5 (.cons p6 .nil))) (.cons (.tup p3 (.cons p7 (.cons (.tup p8 (.cons p10 (.cons p11 .nil))) .nil))) .nil))) .nil))
end
theorem r14 : rD (1 / 4) = .tuple [.int 1, .int 4] := by
  have h := one_div (s := 4) (by decide)
  unfold rD
  have e : ((1 : Rat) / ((4 : Nat) : Rat)) = 1 / 4 := rfl
  rw [← e, h.1, h.2]
  rfl
theorem r34 : rD (3 / 4) = .tuple [.int 3, .int 4] := by
  have h : ((3 : Rat) / 4).num = 3 ∧ ((3 : Rat) / 4).den = 4 := by decide +kernel
  unfold rD
  rw [h.1, h.2]
  rfl
theorem nq14 : Nq 20 (1 / 4) := ⟨by decide +kernel, by decide +kernel, by decide +kernel⟩
theorem nq34 : Nq 20 (3 / 4) := ⟨by decide +kernel, by decide +kernel, by decide +kernel⟩
theorem bid_ok {n p : Nat} (h1 : 1 ≤ n) (h6 : n ≤ 6) (hp : p < n) : TOk n (.bid p) := ⟨h1, h6, by simp [Tm.dep], hp, by simp [Tm.size]⟩
theorem btw_ok {n p : Nat} (h1 : 1 ≤ n) (h6 : n ≤ 6) (hp : p < n) : TOk n (.between (1 / 4) (3 / 4) (.bid p)) := ⟨h1, h6, by simp [Tm.dep], ⟨nq14, nq34, by decide +kernel, hp⟩, by simp [Tm.size]⟩
theorem mfx_ok {n p : Nat} {a : Rat} (h1 : 1 ≤ n) (h6 : n ≤ 6) (hp : p < n) (ha : Nq 20 a) : TOk n (.mean [1, 1] [.bid p, .fix a]) := ⟨h1, h6, by simp [Tm.dep, Tm.deps], ⟨rfl, by show 1 ≤ 2; omega, by show 2 ≤ 8; omega, fun k hk => by simp at hk; omega, hp, ha, True.intro⟩, by simp [Tm.size, Tm.sizes]⟩
theorem xe_ixLS {X : Cx} {w : Wd} {ρ : Rho} {a b : Expr} {pos : Pos} {ss : List Sc} {s : Sc} {N : Nat} (hN : N = ss.length) (ha : XE X w a ρ (lsS X.K ss)) (hb : XE X w b ρ (drS X.K N)) (hs : PlainIx b) (hall : ∀ t ∈ ss, ∀ G v, t.p G v → s.p G v) : XE X w (.Subscript a b pos) ρ s :=
  xe_ix ix_list ha hb hs fun G H x y Q hB ⟨p, xs, ex, h1, h2⟩ ⟨k, hk, hy⟩ q => by
    subst ex
    have hl := h2.len
    have hkd : k < ss.length := by omega
    obtain ⟨v, hv, hdv⟩ := h2.get (List.getElem?_eq_getElem hkd)
    exact ⟨p, xs, k, v, rfl, dpInt hy, ex_l hB.sub h1, atI_of rfl hv, nx0 q hB (hall _ (List.getElem_mem _) _ _ hdv)⟩
section
variable {P : Program} {w : World} {K : PySem.W.Frag} {mg : Str → Option Value} {base : Heap}
theorem ok_Ldrawn_rule (T : Txt K mg) : Fnc P w K mg base CX0 8 "_law_drawn_rule" ["_law_dice_here"] (Pr (fun d : Dc => wDi d) (fun _ => True) (fun d => [diS d]) (fun _ => rpS K)) := by
  have FR := ok_Lrule_parts (P := P) (w := w) (base := base) T
  have FN := ok_Lnumber (P := P) (w := w) (base := base) T
  refine fnc_mk (k := 7) T.f_Ldrawn_rule sc_Ldrawn_rule (fun _ _ _ _ _ _ us hl => match us, hl with | [_], _ => rfl) (fun _ _ => rfl) fun f cdv A outer s H Ex dc E hok hw hr => ?_
  obtain ⟨we, G0, H0, B⟩ := E
  simp only at hw
  subst hw
  have nd := sc_Ldrawn_rule.nd
  have hr1 : Room 1 (A.deeper (envOfC "_law_drawn_rule" (defScope s_Ldrawn_rule) s.heap.objs.size f cdv)) := hr.mono (by omega)
  have hr2 : Room 2 (A.deeper (envOfC "_law_drawn_rule" (defScope s_Ldrawn_rule) s.heap.objs.size f cdv)) := hr.mono (by omega)
  refine xss_tgE (P := fun x : RT => TOk x.1 x.2) (f := fun x => dS K (.tuple [.int x.1, x.2.toD])) (gv := [1, 2]) (ρ' := fun x : RT => [.dat (diS dc), .dat (dS K (.int x.1)), .dat (dS K x.2.toD), .no]) (pg_pair rfl nd rfl rfl (.inl rfl) (.inl rfl)) (xe_callW dc FR hr rfl pass0 True.intro rfl (xa_cons (xv 0 rfl) (xa_cons xe_int xa_nil))) (fun j hj => by simp at hj; rcases hj with rfl | rfl <;> exact Nat.le_of_ble_eq_true rfl) (fun x _ => gs_pair) fun x hx => ?_
  obtain ⟨n, t⟩ := x
  have hT : TOk n t := hx
  have h1 := hT.n1
  have h6 := hT.n6
  have fin : XSs (cx0 P w K mg base N_Ldrawn_rule "_law_drawn_rule" (defScope s_Ldrawn_rule) f cdv A outer s H Ex) ((defBody s_Ldrawn_rule).drop 2) (fun σ H => ∃ u : { u // TOk n u }, Sta K ⟨wDi dc, G0, H0, B⟩ [.dat (diS dc), .dat (dS K (.int n)), .dat (dS K u.1.toD), .no] [] [] σ H) { nx := fun _ H' => Qs (wDi dc) G0 H0 (rpS K) .non H', rt := Qs (wDi dc) G0 H0 (rpS K) } :=
    xss_ex fun u => xss_ret (xe_weak (s' := rpS K) (xe_tup [.int n, u.1.toD] (xa_cons (xv 1 rfl) (xa_cons (xv 2 rfl) xa_nil))) fun G v h => ⟨(n, u.1), u.2, h⟩)
  refine xss_ifM (xt_cP (xc_eqE (xe_draw T hr1 rfl (n := 4) (by decide) (by decide) (xv 0 rfl) xe_int) xe_int)) (fun _ => ?_) (fun _ => xss_nil fun σ H q => ⟨⟨t, hT⟩, q⟩) fin
  refine xss_asgE (P := fun p : Nat => p < n) (f := fun p => dS K (.tuple [.str "bid", .int p])) 3 nd (xe_weak (xe_tupS (xa_cons (xe_str (k := "bid")) (xa_cons (xe_draw T hr1 rfl (n := n) h1 (by omega) (xv 0 rfl) (xv 1 rfl)) xa_nil)) (Nat.le_of_ble_eq_true rfl)) fun G v h => ?_) fun p hp => ?_
  · obtain ⟨a, vs, rfl, q1, q2⟩ := h
    obtain ⟨v1, v2, rfl, q3, p, hp, q4⟩ := alls2 q2
    exact ⟨p, hp, .tup q1 (.cons q3 (.cons q4 .nil))⟩
  refine xss_asgE (P := TOk n) (f := fun t => dS K t.toD) 2 nd (xe_ixLS (s := okS K n) (N := 3) rfl (xe_lsS (xa_cons (xv 3 rfl) (xa_cons (xe_tup [.str "between", .tuple [.int 1, .int 4], .tuple [.int 3, .int 4], .tuple [.str "bid", .int p]] (xa_cons xe_str (xa_cons (xe_tup [.int 1, .int 4] (xa_cons xe_int (xa_cons xe_int xa_nil))) (xa_cons (xe_tup [.int 3, .int 4] (xa_cons xe_int (xa_cons xe_int xa_nil))) (xa_cons (xv 3 rfl) xa_nil)))))
    (xa_cons (xe_tupS (xa_cons (xe_str (k := "mean")) (xa_cons (xe_tupS (xa_cons (xe_tup [.int 1, .tuple [.str "bid", .int p]] (xa_cons xe_int (xa_cons (xv 3 rfl) xa_nil))) (xa_cons (xe_tupS (xa_cons (xe_int (k := 1)) (xa_cons (xe_tupS (xa_cons (xe_str (k := "fixed")) (xa_cons (xe_callW dc FN hr2 rfl pass0 True.intro rfl (xa_cons (xv 0 rfl) xa_nil)) xa_nil)) (Nat.le_of_ble_eq_true rfl)) xa_nil)) (Nat.le_of_ble_eq_true rfl)) xa_nil)) (Nat.le_of_ble_eq_true rfl)) xa_nil)) (Nat.le_of_ble_eq_true rfl)) xa_nil))) (Nat.le_of_ble_eq_true rfl))
    (xe_draw T hr1 rfl (n := 3) (by decide) (by decide) (xv 0 rfl) xe_int) (fun _ _ => rfl) ?_) fun u hu => xss_nil fun σ H q => ⟨⟨u, hu⟩, sta_sub (.same (.same (.same (.no .nil)))) q⟩
  intro sc hsc G v h
  simp only [List.mem_cons, List.not_mem_nil, or_false] at hsc
  rcases hsc with rfl | rfl | rfl
  · refine ⟨.bid p, bid_ok h1 h6 hp, ?_⟩
    show Dp K G _ (Tm.toD _)
    rw [toD_bid]
    exact h
  · refine ⟨.between (1 / 4) (3 / 4) (.bid p), btw_ok h1 h6 hp, ?_⟩
    show Dp K G _ (Tm.toD _)
    rw [toD_between, toD_bid, r14, r34]
    exact h
  · obtain ⟨a, vs, rfl, q1, q2⟩ := h
    obtain ⟨v1, v2, rfl, q3, a2, vs2, rfl, q4, q5⟩ := alls2 q2
    obtain ⟨v3, v4, rfl, q6, a3, vs3, rfl, q7, q8⟩ := alls2 q5
    obtain ⟨v5, v6, rfl, q9, a4, vs4, rfl, p1, p2⟩ := alls2 q8
    obtain ⟨v7, v8, rfl, p3, r, hr', p4⟩ := alls2 p2
    refine ⟨.mean [1, 1] [.bid p, .fix r], mfx_ok h1 h6 hp hr', ?_⟩
    show Dp K G _ (Tm.toD _)
    rw [toD_mean, Tm.toDs, Tm.toDs, Tm.toDs, toD_bid, toD_fix]
    exact .tup q1 (.cons q3 (.cons (.tup q4 (.cons q6 (.cons (.tup q7 (.cons q9 (.cons (.tup p1 (.cons p3 (.cons p4 .nil))) .nil))) .nil))) .nil))
end
end K81
end

section
set_option Elab.async false
set_option linter.all false
set_option maxRecDepth 100000
namespace K81
open PySem PySem.Spec PyProof.Rows L2
/-! ### the least of some lots, as the law has it -/
def inAll (o l : List Nat) : Bool := decide (((o.filter fun q => !decide (q ∈ l)).length : Int) = 0)
def lessr (L : List (List Nat)) (l : List Nat) : List (List Nat) := L.filter fun o => decide ((o.length : Int) < (l.length : Int)) && inAll o l
def isLst (L : List (List Nat)) (l : List Nat) : Bool := decide (((lessr L l).length : Int) = 0)
def lleast (L : List (List Nat)) : List (List Nat) := L.filter (isLst L)
theorem filt_take {p : List Nat → Bool} {L : List (List Nat)} {i : Nat} (h : i < L.length) : (L.take (i + 1)).filter p = (L.take i).filter p ++ if p (L.getD i []) then [L.getD i []] else [] := by
  rw [List.take_succ_eq_append_getElem h, List.filter_append, gd _ h]
  congr 1
  simp only [List.filter_cons, List.filter_nil]
theorem len_lot (l : List Nat) : (((l.map fun p : Nat => PyData.int p).length : Nat) : Int) = (l.length : Int) := by rw [List.length_map]
section
variable {P : Program} {w : World} {K : PySem.W.Frag} {mg : Str → Option Value} {base : Heap}
theorem ok_Lleast (T : Txt K mg) : Fnc P w K mg base CX0 1 "_law_least" ["_law_lots_here"] (PrL K (fun _ => w0) (fun L : List (List Nat) => L.length ≤ 64 ∧ ∀ l ∈ L, l.length ≤ 6) (fun L => [dS K (.list (lotsD L))]) (fun L ds => ds = lotsD (lleast L))) := by
  refine fnc_mkL (k := 0) T.f_Lleast sc_Lleast (fun _ _ _ _ _ _ us hl => match us, hl with | [_], _ => rfl) (fun _ _ => rfl) fun f cdv A outer s H Ex L E hok hw hr => ?_
  obtain ⟨hL, hl6⟩ := hok
  have nd := sc_Lleast.nd
  refine xss_asgL 1 nd (xl_lst [] xa_nil) fun ds hds => ?_
  subst hds
  refine xss_for (ι := Unit) (gv := [2]) (fun i _ => True) (fun i _ => [.dat (dS K (.list (lotsD L))), .own 0, .no, .no, .no, .no]) (fun i _ => [lotsD ((L.take i).filter (isLst L))])
    (fun i _ => [.dat (dS K (.list (lotsD L))), .own 0, .dat (dS K (lotD (L.getD i []))), .no, .no, .no]) .never rfl (xi_lots (xv 0 rfl)) (pg_name nd rfl (.inr rfl)) (fun i y _ k hk => by simp at hk; rw [hk]; exact Nat.le_of_ble_eq_true rfl) (fun n i y _ _ _ => gs_name) ⟨(), True.intro, rfl, rfl⟩ (fun m i y g0 hm hi _ => ?_)
    (Mid := Sta K E [.dat (dS K (.list (lotsD L))), .own 0, .no, .no, .no, .no] [lotsD (lleast L)] []) (fun m y hm _ σ H h => by
      have e : m = L.length := hm
      subst e
      rw [List.take_length] at h
      exact h) (xss_retOwn (P := fun ds => ds = lotsD (lleast L)) 1 rfl rfl rfl)
  · subst hm
    have hmem : L.getD i [] ∈ L := mem_gd hi
    have hln : ((lotsD ((L.take i).filter (isLst L))).length) < 100000 := by
      rw [lotsD_length]
      have := List.length_filter_le (isLst L) (L.take i)
      rw [List.length_take] at this
      omega
    refine xss_setL 3 rfl (xlcN 4 (n := L.length) (Y := fun k => lotD (L.getD k [])) (fun k => decide (((L.getD k []).length : Int) < ((L.getD i []).length : Int)) && inAll (L.getD k []) (L.getD i [])) (fun k => lotD (L.getD k [])) nd (xi_lots (xv 0 rfl)) (by omega)
      (fun k hk s2 H2 C2 cl2 fp2 => xts_one (xt_w (xw_and (xt_c (xc_lt (xe_d (xe_lenT (ds := (L.getD k []).map fun p : Nat => PyData.int p) rfl T.b_len (xv 4 rfl)) (congrArg PyData.int (len_lot _))) (xe_d (xe_lenT (ds := (L.getD i []).map fun p : Nat => PyData.int p) rfl T.b_len (xv 2 rfl)) (congrArg PyData.int (len_lot _))))) fun _ => xw_and1 (xt_c (xc_eqI (xe_d (xe_lenL rfl T.b_len (xe_tl (xe_xl1 (xl_lcx rfl (xlcN 5 (n := (L.getD k []).length) (Y := fun j => .int ((L.getD k []).getD j 0 : Nat)) (fun j => !decide ((L.getD k []).getD j 0 ∈ L.getD i [])) (fun j => .int ((L.getD k []).getD j 0 : Nat)) nd (xi_lot (xv 4 rfl)) (by have := hl6 _ (mem_gd hk); omega)
        (fun j hj _ _ _ _ _ => xts_one (xt_c (xc_notInP (xv 5 rfl) (xv 2 rfl)))) (fun j hj _ _ _ _ _ _ => xv 5 rfl) ?blk (fun _ _ _ _ _ => pg_name nd rfl (.inl rfl))))))) ?cnt) xe_int)))))
      (fun k hk _ _ _ _ _ _ => xv 4 rfl) (blkOk_by (N := N_Lleast) (sc := defScope s_Lleast) (by decide +kernel)) (fun _ _ _ _ _ => pg_name nd rfl (.inl rfl))) rfl fun ds hds => ?_
    case blk => exact blkOk_by (by rfl)
    case cnt =>
      refine congrArg PyData.int ?_
      rw [List.length_map, filter_len (fun q : Nat => !decide (q ∈ L.getD i [])) (L.getD k []) 0]
    have hds2 : ds = lotsD (lessr L (L.getD i [])) := hds.trans (range_fm (fun o : List Nat => decide ((o.length : Int) < ((L.getD i []).length : Int)) && inAll o (L.getD i [])) lotD L [])
    subst hds2
    refine xss_ifM (Mid := fun σ H => ∃ y : Unit, True ∧ Sta K E [.dat (dS K (.list (lotsD L))), .own 0, .no, .no, .no, .no] [lotsD ((L.take (i + 1)).filter (isLst L))] [g0] σ H) (xt_c (xc_eqI (xe_d (xe_lenL rfl T.b_len (xe_tl (xv 3 rfl))) (congrArg PyData.int (by rw [lotsD_length]))) xe_int)) (fun h => ?_) (fun h => ?_) (xss_nil fun σ H q => q)
    · have h' : isLst L (L.getD i []) = true := h.symm
      refine xss_append1 (i := 1) (k := 0) (d := lotD (L.getD i [])) (pe_bm PySem.F.plainAttrs_list PySem.F.slot_list_append PySem.F.type_list_append mt_append (pv 1) (xa_cons (xv 2 rfl) xa_nil)) rfl rfl hln (xss_nil fun σ H q => ⟨(), True.intro, ?_⟩)
      rw [filt_take hi, if_pos h', lotsD_append]
      exact sta_sub (.same (.same (.no (.no (.no (.no .nil)))))) q
    · have h' : isLst L (L.getD i []) = false := h.symm
      refine xss_nil fun σ H q => ⟨(), True.intro, ?_⟩
      rw [filt_take hi, h']
      simp only [Bool.false_eq_true, if_false, List.append_nil]
      exact sta_sub (.same (.same (.no (.no (.no (.no .nil)))))) q
end
end K81
end

section
set_option Elab.async false
set_option linter.all false
set_option maxRecDepth 100000
namespace K81
open PySem PySem.Spec PyProof.Rows L2
/-! ### the plain law -/
theorem nodup_sub_len {α : Type} [DecidableEq α] : ∀ {xs ys : List α}, xs.Nodup → (∀ x ∈ xs, x ∈ ys) → xs.length ≤ ys.length
  | [], _, _, _ => Nat.zero_le _
  | x :: xs, ys, hn, h => by
    have hx := h x (by simp)
    have hn' := List.nodup_cons.mp hn
    have := nodup_sub_len (xs := xs) (ys := ys.erase x) hn'.2 fun z hz => (List.mem_erase_of_ne (show z ≠ x from fun e => hn'.1 (e ▸ hz))).mpr (h z (List.mem_cons_of_mem _ hz))
    rw [List.length_erase_of_mem hx] at this
    have hpos := List.length_pos_of_mem hx
    rw [List.length_cons]
    omega
theorem inj_len {α β : Type} [DecidableEq β] {f : α → β} : ∀ {xs : List α} {ys : List β}, xs.Nodup → (∀ x ∈ xs, ∀ y ∈ xs, f x = f y → x = y) → (∀ x ∈ xs, f x ∈ ys) → xs.length ≤ ys.length := fun {xs ys} hn hi hm => by
  have hn2 : (xs.map f).Nodup := by
    clear hm
    induction xs with
    | nil => exact List.nodup_nil
    | cons x xs ih =>
      have hn' := List.nodup_cons.mp hn
      rw [List.map_cons, List.nodup_cons]
      refine ⟨fun h => ?_, ih hn'.2 fun a ha b hb => hi a (List.mem_cons_of_mem _ ha) b (List.mem_cons_of_mem _ hb)⟩
      obtain ⟨y, hy, e⟩ := List.mem_map.mp h
      exact hn'.1 (hi y (List.mem_cons_of_mem _ hy) x (by simp) e ▸ hy)
  have := nodup_sub_len hn2 fun z hz => by
    obtain ⟨x, hx, rfl⟩ := List.mem_map.mp hz
    exact hm x hx
  rwa [List.length_map] at this
/-! all lots -/
def wo (l : List Nat) (p : Nat) : List Nat := l.filter fun q => !decide (q = p)
def chkQ (n : Nat) : Bool := (lots n).all fun l => decide (oth n l ∈ lots n) && decide (l.Nodup) && ((List.range n).all fun p => decide (wo l p ∈ lots n) && decide ([p] ∈ lots n) && (if p ∈ l then decide (wpN (wo l p) p = l) else decide (wpN l p ∈ lots n) && decide (wo (wpN l p) p = l)))
theorem chkQ_ok : ∀ n : Fin 7, chkQ n.1 = true := by decide +kernel
def chkH (n : Nat) : Bool := (List.range n).all fun p => decide (2 * ((lots n).filter fun l => decide (p ∈ l)).length = (lots n).length)
theorem chkH_ok : ∀ n : Fin 7, chkH n.1 = true := by decide +kernel
structure LotQ (n : Nat) (l : List Nat) : Prop where
  oth : oth n l ∈ lots n
  nd : l.Nodup
  wo : ∀ p, p < n → wo l p ∈ lots n
  one : ∀ p, p < n → [p] ∈ lots n
  back : ∀ p, p ∈ l → p < n → wpN (K81.wo l p) p = l
  wp : ∀ p, p ∉ l → p < n → wpN l p ∈ lots n ∧ K81.wo (wpN l p) p = l
theorem lotQ {n : Nat} (hn : n ≤ 6) {l : List Nat} (hl : l ∈ lots n) : LotQ n l := by
  have h := chkQ_ok ⟨n, by omega⟩
  have h2 := List.all_eq_true.mp h l hl
  simp only [Bool.and_eq_true, decide_eq_true_eq, List.all_eq_true, List.mem_range] at h2
  obtain ⟨⟨h3, h4⟩, h5⟩ := h2
  refine ⟨h3, h4, fun p hp => (h5 p hp).1.1, fun p hp => (h5 p hp).1.2, fun p hm hp => ?_, fun p hm hp => ?_⟩
  · have := (h5 p hp).2
    rw [if_pos hm] at this
    simpa using this
  · have := (h5 p hp).2
    rw [if_neg hm] at this
    simpa using this
theorem half {n : Nat} (hn : n ≤ 6) {p : Nat} (hp : p < n) : 2 * ((lots n).filter fun l => decide (p ∈ l)).length = (lots n).length := by
  have h := chkH_ok ⟨n, by omega⟩
  exact of_decide_eq_true (List.all_eq_true.mp h p (List.mem_range.mpr hp))
theorem mem_wo {l : List Nat} {p q : Nat} : q ∈ wo l p ↔ q ∈ l ∧ q ≠ p := by
  unfold wo
  rw [List.mem_filter]
  simp
theorem mem_oth {n : Nat} {l : List Nat} {q : Nat} : q ∈ oth n l ↔ q < n ∧ q ∉ l := by
  unfold oth
  rw [List.mem_filter, List.mem_range]
  simp
/-! lots that hold stay so when people come -/
def Sub (l m : List Nat) : Prop := ∀ q ∈ l, q ∈ m
theorem cor_mono {n : Nat} {t : Tm} (ht : Tm.ok n t) {l m : List Nat} (h : Sub l m) : cor n t l ≤ cor n t m := by
  refine val_mono ⟨by rw [ends_length, ends_length], fun i hi => ?_⟩ t ht
  rw [ends_length] at hi
  have e : ∀ k : List Nat, (ends n k).getD i 0 = if i ∈ k then 1 else 0 := fun k => by
    rw [gd _ (by rw [ends_length]; exact hi)]
    unfold ends
    rw [List.getElem_map, List.getElem_range]
  rw [e, e]
  by_cases q : i ∈ l
  · rw [if_pos q, if_pos (h i q)]
    exact Rat.le_refl
  · rw [if_neg q]
    split
    · decide
    · exact Rat.le_refl
/-- closed upwards -/
structure UpC (n : Nat) (L : List (List Nat)) : Prop where
  sub : ∀ l ∈ L, l ∈ lots n
  up : ∀ o m, o ∈ L → m ∈ lots n → Sub o m → m ∈ L
theorem mem_held {n : Nat} {t : Tm} {a : Rat} {l : List Nat} : l ∈ held n t a ↔ l ∈ lots n ∧ a ≤ cor n t l := by
  unfold held
  rw [List.mem_filter]
  simp only [Bool.not_eq_true', decide_eq_false_iff_not, Rat.not_lt]
theorem held_up {n : Nat} {t : Tm} {a : Rat} (ht : Tm.ok n t) : UpC n (held n t a) :=
  ⟨fun l h => (mem_held.mp h).1, fun o m h hm hs => mem_held.mpr ⟨hm, Rat.le_trans (mem_held.mp h).2 (cor_mono ht hs)⟩⟩
theorem mem_blks {n : Nat} {t : Tm} {a : Rat} {l : List Nat} : l ∈ blks n t a ↔ l ∈ lots n ∧ oth n l ∉ held n t a := by
  unfold blks
  rw [List.mem_filter]
  simp
theorem blks_up {n : Nat} {t : Tm} {a : Rat} (hn : n ≤ 6) (ht : Tm.ok n t) : UpC n (blks n t a) :=
  ⟨fun l h => (mem_blks.mp h).1, fun o m h hm hs => mem_blks.mpr ⟨hm, fun q => (mem_blks.mp h).2 ((held_up ht).up _ _ q (lotQ hn (mem_blks.mp h).1).oth fun x hx => mem_oth.mpr ⟨(mem_oth.mp hx).1, fun z => (mem_oth.mp hx).2 (hs x z)⟩)⟩⟩
/-! the least -/
theorem inAll_iff {o l : List Nat} : inAll o l = true ↔ Sub o l := by
  unfold inAll Sub
  rw [decide_eq_true_eq]
  constructor
  · intro h q hq
    have h0 : (o.filter fun q => !decide (q ∈ l)) = [] := List.eq_nil_of_length_eq_zero (by omega)
    have := List.filter_eq_nil_iff.mp h0 q hq
    simpa using this
  · intro h
    have : (o.filter fun q => !decide (q ∈ l)) = [] := List.filter_eq_nil_iff.mpr fun q hq => by simpa using h q hq
    rw [this]
    rfl
theorem isLst_iff {L : List (List Nat)} {l : List Nat} : isLst L l = true ↔ ∀ o ∈ L, o.length < l.length → ¬ Sub o l := by
  unfold isLst
  rw [decide_eq_true_eq]
  constructor
  · intro h o ho hl hs
    have h0 : lessr L l = [] := List.eq_nil_of_length_eq_zero (by omega)
    have := List.filter_eq_nil_iff.mp h0 o ho
    apply this
    rw [Bool.and_eq_true, decide_eq_true_eq]
    exact ⟨by omega, inAll_iff.mpr hs⟩
  · intro h
    have : lessr L l = [] := List.filter_eq_nil_iff.mpr fun o ho q => by
      rw [Bool.and_eq_true, decide_eq_true_eq] at q
      exact h o ho (by omega) (inAll_iff.mp q.2)
    rw [this]
    rfl
theorem wo_len {l : List Nat} {p : Nat} (h : p ∈ l) : (wo l p).length < l.length := by
  have h1 := List.length_filter_le (fun q => !decide (q = p)) l
  rcases Nat.lt_or_ge (wo l p).length l.length with q | q
  · exact q
  · exfalso
    have e : (l.filter fun q => !decide (q = p)).length = l.length := Nat.le_antisymm h1 q
    have := List.length_filter_eq_length_iff.mp e p h
    simp at this
theorem leastL_eq {n : Nat} {L : List (List Nat)} (hn : n ≤ 6) (U : UpC n L) : leastL L = lleast L := by
  refine List.filter_congr fun l hl => ?_
  have hlots := U.sub l hl
  have Q := lotQ hn hlots
  have hm := (lots_mem hn hlots).2.1
  rw [Bool.eq_iff_iff, isLst_iff]
  simp only [Bool.not_eq_true', List.any_eq_false, decide_eq_true_eq]
  constructor
  · intro h o ho hlen hs
    obtain ⟨p, hp, hpo⟩ : ∃ p, p ∈ l ∧ p ∉ o := by
      refine Classical.byContradiction fun z => ?_
      have : l.length ≤ o.length := nodup_sub_len Q.nd fun x hx => Classical.byContradiction fun y => z ⟨x, hx, y⟩
      omega
    exact h p hp (U.up o _ ho (Q.wo p (hm p hp)) fun q hq => mem_wo.mpr ⟨hs q hq, fun e => hpo (e ▸ hq)⟩)
  · intro h p hp hw
    exact h _ hw (wo_len hp) fun q hq => (mem_wo.mp hq).1
theorem least_below {L : List (List Nat)} : ∀ (k : Nat) (l : List Nat), l.length ≤ k → l ∈ L → ∃ m, m ∈ lleast L ∧ Sub m l
  | 0, l, hk, hl => ⟨l, List.mem_filter.mpr ⟨hl, isLst_iff.mpr fun o _ h => by omega⟩, fun _ h => h⟩
  | k + 1, l, hk, hl => by
    by_cases h : isLst L l = true
    · exact ⟨l, List.mem_filter.mpr ⟨hl, h⟩, fun _ h => h⟩
    · rw [isLst_iff] at h
      obtain ⟨o, ho, hlen, hs⟩ : ∃ o, o ∈ L ∧ o.length < l.length ∧ Sub o l := Classical.byContradiction fun z => h fun o ho hl hs => z ⟨o, ho, hl, hs⟩
      obtain ⟨m, hm, hms⟩ := least_below k o (by omega) ho
      exact ⟨m, hm, fun q hq => hs q (hms q hq)⟩
/-- whether a lot has somebody of each -/
def meets (M : List (List Nat)) (l : List Nat) : Bool := decide (((M.filter fun m => decide (((m.filter fun q => decide (q ∈ l)).length : Int) = 0)).length : Int) = 0)
theorem meets_iff {M : List (List Nat)} {l : List Nat} : meets M l = true ↔ ∀ m ∈ M, ∃ q ∈ m, q ∈ l := by
  unfold meets
  rw [decide_eq_true_eq]
  constructor
  · intro h m hm
    have h0 : (M.filter fun m => decide (((m.filter fun q => decide (q ∈ l)).length : Int) = 0)) = [] := List.eq_nil_of_length_eq_zero (by omega)
    have h1 := List.filter_eq_nil_iff.mp h0 m hm
    rw [decide_eq_true_eq] at h1
    obtain ⟨q, hq⟩ := List.exists_mem_of_length_pos (l := m.filter fun q => decide (q ∈ l)) (by omega)
    exact ⟨q, (List.mem_filter.mp hq).1, by simpa using (List.mem_filter.mp hq).2⟩
  · intro h
    have : (M.filter fun m => decide (((m.filter fun q => decide (q ∈ l)).length : Int) = 0)) = [] := List.filter_eq_nil_iff.mpr fun m hm z => by
      obtain ⟨q, hq, hql⟩ := h m hm
      rw [decide_eq_true_eq] at z
      have : q ∈ m.filter fun q => decide (q ∈ l) := List.mem_filter.mpr ⟨hq, by simpa using hql⟩
      have := List.length_pos_of_mem this
      omega
    rw [this]
    rfl
theorem meets_blks {n : Nat} {t : Tm} {a : Rat} (hn : n ≤ 6) (ht : Tm.ok n t) {l : List Nat} (hl : l ∈ lots n) : meets (leastL (held n t a)) l = decide (l ∈ blks n t a) := by
  have U := held_up (a := a) ht
  rw [leastL_eq hn U, Bool.eq_iff_iff, meets_iff, decide_eq_true_eq, mem_blks]
  constructor
  · intro h
    refine ⟨hl, fun z => ?_⟩
    obtain ⟨m, hm, hs⟩ := least_below _ _ (Nat.le_refl _) z
    obtain ⟨q, hq, hql⟩ := h m hm
    exact (mem_oth.mp (hs q hq)).2 hql
  · intro ⟨_, h⟩ m hm
    refine Classical.byContradiction fun z => h ?_
    have hm' := (List.mem_filter.mp hm).1
    exact U.up m _ hm' (lotQ hn hl).oth fun q hq => mem_oth.mpr ⟨(lots_mem hn (U.sub m hm')).2.1 q hq, fun y => z ⟨q, hq, y⟩⟩
/-! people -/
def withP (L : List (List Nat)) (p : Nat) : List (List Nat) := L.filter fun l => decide (p ∈ l)
def isVet (L : List (List Nat)) (p : Nat) : Bool := decide (((withP L p).length : Int) = (L.length : Int))
theorem isVet_iff {L : List (List Nat)} {p : Nat} : isVet L p = true ↔ ∀ l ∈ L, p ∈ l := by
  unfold isVet withP
  rw [decide_eq_true_eq]
  constructor
  · intro h
    have := List.length_filter_eq_length_iff.mp (show (L.filter fun l => decide (p ∈ l)).length = L.length by omega)
    simpa using this
  · intro h
    have := List.length_filter_eq_length_iff (p := fun l : List Nat => decide (p ∈ l)) (l := L).mpr (by simpa using h)
    omega
theorem vets_eq (n : Nat) (L : List (List Nat)) : vets n L = (List.range n).filter (isVet L) := by
  unfold vets
  refine List.filter_congr fun p _ => ?_
  rw [Bool.eq_iff_iff, isVet_iff, List.all_eq_true]
  simp
def lswg (L : List (List Nat)) (p : Nat) : Nat := ((withP L p).filter fun l => !decide (wo l p ∈ L)).length
structure SubN (n : Nat) (L : List (List Nat)) : Prop where
  sub : ∀ l ∈ L, l ∈ lots n
  nd : L.Nodup
theorem lswg_eq {n : Nat} {L : List (List Nat)} (hn : n ≤ 6) (S : SubN n L) {p : Nat} (hp : p < n) : lswg L p = swg n L p := by
  have hN : (lots n).Nodup := (whole_facts hn).2.2.1
  have mA : ∀ {l : List Nat}, l ∈ ((withP L p).filter fun l => !decide (wo l p ∈ L)) ↔ (l ∈ L ∧ p ∈ l) ∧ wo l p ∉ L := fun {l} => by
    unfold withP
    rw [List.mem_filter, List.mem_filter]
    simp
  have mB : ∀ {l : List Nat}, l ∈ (((lots n).filter fun l => !decide (p ∈ l) && !decide (l ∈ L)).filter fun l => decide (wpN l p ∈ L)) ↔ (l ∈ lots n ∧ p ∉ l ∧ l ∉ L) ∧ wpN l p ∈ L := fun {l} => by
    rw [List.mem_filter, List.mem_filter]
    simp
  unfold lswg swg
  refine Nat.le_antisymm (inj_len (f := fun l => wo l p) ((S.nd.sublist List.filter_sublist).sublist List.filter_sublist) (fun x hx y hy e => ?_) fun x hx => ?_) (inj_len (f := fun l => wpN l p) ((hN.sublist List.filter_sublist).sublist List.filter_sublist) (fun x hx y hy e => ?_) fun x hx => ?_)
  · have h1 := (mA.mp hx).1
    have h2 := (mA.mp hy).1
    rw [← (lotQ hn (S.sub _ h1.1)).back p h1.2 hp, ← (lotQ hn (S.sub _ h2.1)).back p h2.2 hp]
    exact congrArg (fun z => wpN z p) e
  · obtain ⟨⟨h1, h2⟩, h3⟩ := mA.mp hx
    have Q := lotQ hn (S.sub _ h1)
    exact mB.mpr ⟨⟨Q.wo p hp, fun z => (mem_wo.mp z).2 rfl, h3⟩, by rw [Q.back p h2 hp]; exact h1⟩
  · have h1 := (mB.mp hx).1
    have h2 := (mB.mp hy).1
    rw [← ((lotQ hn h1.1).wp p h1.2.1 hp).2, ← ((lotQ hn h2.1).wp p h2.2.1 hp).2]
    exact congrArg (fun z => wo z p) e
  · obtain ⟨⟨h1, h2, h3⟩, h4⟩ := mB.mp hx
    have Q := (lotQ hn h1).wp p h2 hp
    refine mA.mpr ⟨⟨h4, ?_⟩, by rw [Q.2]; exact h3⟩
    refine Classical.byContradiction fun z => ?_
    have hne : p ∈ wpN x p := by unfold wpN; simp
    exact z hne
def isAlo (n : Nat) (L : List (List Nat)) (p : Nat) : Bool := isVet L p && decide ((2 : Int) * (L.length : Int) = ((lots n).length : Int))
theorem isAlo_eq {n : Nat} {L : List (List Nat)} (hn : n ≤ 6) (S : SubN n L) {p : Nat} (hp : p < n) : isAlo n L p = aloT n L p := by
  have hN : (lots n).Nodup := (whole_facts hn).2.2.1
  have hh := half hn hp
  have hA : ((lots n).filter fun l => decide (p ∈ l)).Nodup := hN.sublist List.filter_sublist
  have mA : ∀ {l : List Nat}, l ∈ ((lots n).filter fun l => decide (p ∈ l)) ↔ l ∈ lots n ∧ p ∈ l := fun {l} => by
    rw [List.mem_filter]
    simp
  rw [Bool.eq_iff_iff]
  unfold isAlo aloT
  rw [Bool.and_eq_true, isVet_iff, decide_eq_true_eq, List.all_eq_true]
  constructor
  · intro ⟨h1, h2⟩ l hl
    have hlen : L.length = ((lots n).filter fun l => decide (p ∈ l)).length := by omega
    rw [beq_iff_eq, decide_eq_decide]
    refine ⟨fun hpl => Classical.byContradiction fun hz => ?_, fun hL => h1 l hL⟩
    have := nodup_sub_len (xs := l :: L) (ys := (lots n).filter fun l => decide (p ∈ l)) (List.nodup_cons.mpr ⟨hz, S.nd⟩) fun x hx => by
      rcases List.mem_cons.mp hx with rfl | hx
      · exact mA.mpr ⟨hl, hpl⟩
      · exact mA.mpr ⟨S.sub x hx, h1 x hx⟩
    rw [List.length_cons] at this
    omega
  · intro h
    have h' : ∀ l ∈ lots n, (p ∈ l ↔ l ∈ L) := fun l hl => by
      have := h l hl
      rwa [beq_iff_eq, decide_eq_decide] at this
    refine ⟨fun l hl => (h' l (S.sub l hl)).mpr hl, ?_⟩
    have l1 : L.length ≤ ((lots n).filter fun l => decide (p ∈ l)).length := nodup_sub_len S.nd fun x hx => mA.mpr ⟨S.sub x hx, (h' x (S.sub x hx)).mpr hx⟩
    have l2 : ((lots n).filter fun l => decide (p ∈ l)).length ≤ L.length := nodup_sub_len hA fun x hx => (h' x (mA.mp hx).1).mp (mA.mp hx).2
    omega
/-- the last who is so -/
def lastAlo (n : Nat) (L : List (List Nat)) (i : Nat) : PyData := (List.range i).foldl (fun d p => if isAlo n L p then .int p else d) .none
theorem lastAlo_succ (n : Nat) (L : List (List Nat)) (i : Nat) : lastAlo n L (i + 1) = if isAlo n L i then .int i else lastAlo n L i := by
  unfold lastAlo
  rw [List.range_succ, List.foldl_append]
  rfl
theorem alo_one {n : Nat} {L : List (List Nat)} (hn : n ≤ 6) {p q : Nat} (hp : p < n) (hq : q < n) (h1 : aloT n L p = true) (h2 : aloT n L q = true) : p = q := by
  have h0 : ([] : List Nat) ∈ lots n := by
    have : ∀ n : Fin 7, ([] : List Nat) ∈ lots n.1 := by decide +kernel
    exact this ⟨n, by omega⟩
  have hs := (lotQ hn h0).one p hp
  unfold aloT at h1 h2
  have e1 := List.all_eq_true.mp h1 _ hs
  have e2 := List.all_eq_true.mp h2 _ hs
  rw [beq_iff_eq, decide_eq_decide] at e1 e2
  have : q ∈ [p] := e2.mpr (e1.mp (by simp))
  simp at this
  exact this.symm
theorem lastAlo_eq {n : Nat} {L : List (List Nat)} (hn : n ≤ 6) (S : SubN n L) : lastAlo n L n = aloD n L := by
  have key : ∀ i, i ≤ n → (∀ p, p < i → aloT n L p = false) → lastAlo n L i = .none := fun i => by
    induction i with
    | zero => intro _ _; rfl
    | succ i ih =>
      intro hi h
      rw [lastAlo_succ, isAlo_eq hn S (by omega), h i (by omega)]
      exact ih (by omega) fun p hp => h p (by omega)
  have key2 : ∀ p, p < n → aloT n L p = true → ∀ i, p < i → i ≤ n → lastAlo n L i = .int p := fun p hp hT i => by
    induction i with
    | zero => intro h; omega
    | succ i ih =>
      intro h1 h2
      rw [lastAlo_succ, isAlo_eq hn S (by omega)]
      by_cases e : p = i
      · subst e; rw [hT]; rfl
      · have : aloT n L i = false := by
          cases q : aloT n L i with
          | false => rfl
          | true => exact absurd (alo_one hn hp (by omega) hT q) e
        rw [this]
        exact ih (by omega) (by omega)
  by_cases h : ∃ p, p < n ∧ aloT n L p = true
  · obtain ⟨p, hp, hT⟩ := h
    rw [key2 p hp hT n hp (Nat.le_refl _)]
    refine (aloD_some hp hT fun q hq => ?_).symm
    cases z : aloT n L q with
    | false => rfl
    | true => exact absurd (alo_one hn hp (by omega) hT z) (by omega)
  · have h' : ∀ p, p < n → aloT n L p = false := fun p hp => by
      cases z : aloT n L p with
      | false => rfl
      | true => exact absurd ⟨p, hp, z⟩ h
    rw [key n (Nat.le_refl _) h', aloD_none h']
theorem held_sub {n : Nat} {t : Tm} {a : Rat} (hn : n ≤ 6) : SubN n (held n t a) := ⟨fun l h => (mem_held.mp h).1, (whole_facts hn).2.2.1.sublist List.filter_sublist⟩
/-! levels -/
theorem ddp_fold : ∀ (xs acc pre : List Rat), acc.Nodup → acc.Sublist pre → (∀ a, a ∈ acc ↔ a ∈ pre) → (xs.foldl (fun acc a => if a ∈ acc then acc else acc ++ [a]) acc).Nodup ∧ (xs.foldl (fun acc a => if a ∈ acc then acc else acc ++ [a]) acc).Sublist (pre ++ xs) ∧ ∀ a, a ∈ (xs.foldl (fun acc a => if a ∈ acc then acc else acc ++ [a]) acc) ↔ a ∈ pre ++ xs
  | [], acc, pre, h1, h2, h3 => by
    rw [List.append_nil]
    exact ⟨h1, h2, h3⟩
  | x :: xs, acc, pre, h1, h2, h3 => by
    have e : pre ++ x :: xs = (pre ++ [x]) ++ xs := by simp
    rw [e, List.foldl_cons]
    by_cases h : x ∈ acc
    · rw [if_pos h]
      refine ddp_fold xs acc (pre ++ [x]) h1 (h2.trans (List.sublist_append_left _ _)) fun a => ?_
      rw [List.mem_append, h3 a]
      simp
      intro e
      subst e
      exact (h3 a).mp h
    · rw [if_neg h]
      refine ddp_fold xs (acc ++ [x]) (pre ++ [x]) ?_ (h2.append (List.Sublist.refl _)) fun a => ?_
      · rw [List.nodup_append]
        exact ⟨h1, by simp, fun a ha b hb e2 => by simp at hb; exact h ((e2.trans hb) ▸ ha)⟩
      · rw [List.mem_append, List.mem_append, h3 a]
theorem ddp_facts (xs : List Rat) : (ddp xs).Nodup ∧ (ddp xs).Sublist xs ∧ ∀ a, a ∈ ddp xs ↔ a ∈ xs := by
  have := ddp_fold xs [] [] List.nodup_nil (List.Sublist.refl _) (fun a => Iff.rfl)
  rwa [List.nil_append] at this
theorem levels_eq (xs : List Rat) : ddp (asc xs) = asc (ddp xs) := by
  obtain ⟨a1, a2, a3⟩ := ddp_facts (asc xs)
  obtain ⟨b1, b2, b3⟩ := ddp_facts xs
  have p1 := asc_perm (ddp xs)
  refine asc_same ((asc_asc xs).sublist a2) (asc_asc _) ((List.perm_ext_iff_of_nodup a1 (p1.symm.nodup b1)).mpr fun a => ?_)
  rw [a3, (asc_perm xs).mem_iff, p1.mem_iff, b3]
end K81
end

section
set_option Elab.async false
set_option linter.all false
set_option maxRecDepth 100000
namespace K81
open PySem PySem.Spec PyProof.Rows L2
/-! ### equal data -/
theorem eqv_ints : ∀ a b : List Nat, PyData.eqvAll (a.map fun p : Nat => PyData.int p) (b.map fun p : Nat => PyData.int p) = decide (a = b)
  | [], [] => by simp [PyData.eqvAll]
  | [], _ :: _ => by simp [PyData.eqvAll]
  | _ :: _, [] => by simp [PyData.eqvAll]
  | x :: xs, y :: ys => by
    rw [List.map_cons, List.map_cons, PyData.eqvAll, eqv_ints xs ys, PyData.eqv, Bool.eq_iff_iff]
    simp
    omega
theorem eqv_lotD (a b : List Nat) : PyData.eqv (lotD a) (lotD b) = decide (a = b) := by
  unfold lotD
  rw [PyData.eqv, eqv_ints]
theorem eqv_rD (a b : Rat) : PyData.eqv (rD a) (rD b) = decide (a = b) := by
  unfold rD
  rw [PyData.eqv, PyData.eqvAll, PyData.eqvAll, PyData.eqvAll, PyData.eqv, PyData.eqv, Bool.eq_iff_iff]
  simp only [Bool.and_true, Bool.and_eq_true, beq_iff_eq, decide_eq_true_eq]
  constructor
  · intro ⟨h1, h2⟩
    exact Rat.ext h1 (by omega)
  · intro h
    subst h
    exact ⟨rfl, rfl⟩
theorem any_lots (L : List (List Nat)) (l : List Nat) : (lotsD L).any (fun z => PyData.eqv z (lotD l)) = decide (l ∈ L) := by
  unfold lotsD
  rw [List.any_map, Bool.eq_iff_iff, List.any_eq_true, decide_eq_true_eq]
  constructor
  · intro ⟨m, hm, h⟩
    have h' : PyData.eqv (lotD m) (lotD l) = true := h
    rw [eqv_lotD, decide_eq_true_eq] at h'
    exact h' ▸ hm
  · intro h
    refine ⟨l, h, ?_⟩
    show PyData.eqv (lotD l) (lotD l) = true
    rw [eqv_lotD, decide_eq_true_eq]
theorem any_rats (xs : List Rat) (a : Rat) : (xs.map rD).any (fun z => PyData.eqv z (rD a)) = decide (a ∈ xs) := by
  rw [List.any_map, Bool.eq_iff_iff, List.any_eq_true, decide_eq_true_eq]
  constructor
  · intro ⟨m, hm, h⟩
    have h' : PyData.eqv (rD m) (rD a) = true := h
    rw [eqv_rD, decide_eq_true_eq] at h'
    exact h' ▸ hm
  · intro h
    refine ⟨a, h, ?_⟩
    show PyData.eqv (rD a) (rD a) = true
    rw [eqv_rD, decide_eq_true_eq]
theorem all_sh {k : Nat} : ∀ {ds : List PyData}, (∀ d ∈ ds, d.canLay0 = true ∧ d.depth ≤ k) → PyData.canLayAll0 ds = true ∧ PyData.depthAll ds ≤ k
  | [], _ => ⟨by rw [PyData.canLayAll0], by rw [PyData.depthAll]; omega⟩
  | d :: ds, h => by
    obtain ⟨h1, h2⟩ := h d (by simp)
    obtain ⟨h3, h4⟩ := all_sh fun e he => h e (List.mem_cons_of_mem _ he)
    exact ⟨by rw [PyData.canLayAll0, h1, h3]; rfl, by rw [PyData.depthAll]; omega⟩
theorem tup_sh {k : Nat} {ds : List PyData} (h : ∀ d ∈ ds, d.canLay0 = true ∧ d.depth ≤ k) : (PyData.tuple ds).canLay0 = true ∧ (PyData.tuple ds).depth ≤ k + 1 := by
  obtain ⟨h1, h2⟩ := all_sh h
  exact ⟨by rw [PyData.canLay0]; exact h1, by rw [PyData.depth]; omega⟩
theorem lst_sh {k : Nat} {ds : List PyData} (h : ∀ d ∈ ds, d.canLay0 = true ∧ d.depth ≤ k) : (PyData.list ds).canLay0 = true ∧ (PyData.list ds).depth ≤ k + 1 := by
  obtain ⟨h1, h2⟩ := all_sh h
  exact ⟨by rw [PyData.canLay0]; exact h1, by rw [PyData.depth]; omega⟩
theorem int_sh (i : Int) : (PyData.int i).canLay0 = true ∧ (PyData.int i).depth ≤ 0 := ⟨by rw [PyData.canLay0], by rw [PyData.depth]; omega⟩
theorem lotD_sh (l : List Nat) : (lotD l).canLay0 = true ∧ (lotD l).depth ≤ 1 := tup_sh fun d hd => by
  obtain ⟨p, _, rfl⟩ := List.mem_map.mp hd
  exact int_sh _
theorem rD_sh (a : Rat) : (rD a).canLay0 = true ∧ (rD a).depth ≤ 1 := tup_sh fun d hd => by
  simp only [List.mem_cons, List.not_mem_nil, or_false] at hd
  rcases hd with rfl | rfl
  · exact int_sh _
  · exact int_sh _
theorem sh_of {k : Nat} {d : PyData} (h : d.canLay0 = true ∧ d.depth ≤ k) (hk : k ≤ 64) : SeqAt.shaped d = true := by
  unfold SeqAt.shaped
  rw [h.1, decide_eq_true (show d.depth ≤ 64 by omega)]
  rfl
theorem sh_lotD (l : List Nat) : SeqAt.shaped (lotD l) = true := sh_of (lotD_sh l) (by omega)
theorem sh_rD (a : Rat) : SeqAt.shaped (rD a) = true := sh_of (rD_sh a) (by omega)
theorem sh_lots (L : List (List Nat)) : SeqAt.shaped (.list (lotsD L)) = true := sh_of (lst_sh (k := 1) fun d hd => by
  obtain ⟨p, _, rfl⟩ := List.mem_map.mp hd
  exact lotD_sh _) (by omega)
theorem sh_rats (xs : List Rat) : SeqAt.shaped (.list (xs.map rD)) = true := sh_of (lst_sh (k := 1) fun d hd => by
  obtain ⟨p, _, rfl⟩ := List.mem_map.mp hd
  exact rD_sh _) (by omega)
theorem ne_self {d : PyData} (h : SeqAt.shaped d = true) : (!PyData.eqv d d) = false := by rw [SeqAt.eqv_refl d (SeqAt.canLay_of_shaped h)]; rfl
theorem blk_eq {n : Nat} {t : Tm} {a : Rat} (hn : n ≤ 6) : (lots n).filter (fun l => !(!decide (cor n t (oth n l) < a))) = blks n t a := by
  unfold blks
  refine List.filter_congr fun l hl => ?_
  have h := (lotQ hn hl).oth
  rw [Bool.not_not, Bool.eq_iff_iff]
  simp only [decide_eq_true_eq, Bool.not_eq_true', decide_eq_false_iff_not, mem_held]
  constructor
  · intro q z; exact absurd q (Rat.not_lt.mpr z.2)
  · intro q; exact Rat.not_le.mp fun z => q ⟨h, z⟩
section
variable {X : Cx} {rest body : List Stmt} {D : Ends} {E : En} {ρ : Rho} {os : List (List PyData)} {gs : List Hp} {e c : Expr} {pos p : Pos} {x : Str}
/-- a bool read off one's own lists -/
theorem xss_asgFB (i : Nat) {b : Bool} {p' : Pos} (hN : X.N.Nodup) (he : XE X E.w e (frzR X.K os ρ) (dS X.K (.bool b))) (k : XSs X rest (Sta X.K E (ρ.set i (.dat (dS X.K (.bool b)))) os gs) D)
    (hi : X.N[i]? = some x := by rfl) (hx : Loc X.env.scope x := by first | exact .inl rfl | exact .inr rfl) (hl : i < ρ.length := by exact Nat.le_of_ble_eq_true rfl) (hs : swapsWith e (some (.Name x p')) pos.line X.env = pure false := by rfl) (hf : X.fn x = true ∨ X.env.scope.names.lookup x = some .local := by first | exact .inl rfl | exact .inr rfl | assumption) : XSs X (.Assign [.Name x p'] e pos :: rest) (Sta X.K E ρ os gs) D :=
  xss_st (ps_set hN hi hx (pe_x he) hs hf) (Mid := Sta X.K E (ρ.set i (.dat (dS X.K (.bool b)))) os gs) (fun σ H ⟨G, as, S⟩ => tX_then S.frzE S.frzB fun v G' H' A hv => ⟨G, as, (S.next (S.thaw A)).set hl (by rw [dpBool hv]; exact .bl b)⟩) k
/-- a test that fails, of one's own lists, too -/
theorem xss_skipF (ht : XT X E.w c (frzR X.K os ρ) (· = false)) (k : XSs X rest (Sta X.K E ρ os gs) D) : XSs X (.If c body [] pos :: rest) (Sta X.K E ρ os gs) D :=
  xss_ifMF (Mid := Sta X.K E ρ os gs) ht (fun h => nomatch h) (fun _ => xss_nil fun σ H q => q) k
end
end K81
end

section
set_option Elab.async false
set_option linter.all false
set_option maxRecDepth 100000
namespace K81
open PySem PySem.Spec PyProof.Rows L2
/-! ### the lots are right -/
theorem cors_len (n : Nat) (t : Tm) : (corsOf n t).length = (lots n).length := by simp [corsOf]
theorem cors_map (n : Nat) (t : Tm) : ((List.range (lots n).length).filter fun _ => true).map (fun k => rD (cor n t ((lots n).getD k []))) = (corsOf n t).map rD := by
  rw [List.filter_eq_self.mpr fun _ _ => rfl, range_map (fun l : List Nat => rD (cor n t l)) [] rfl]
  unfold corsOf
  rw [List.map_map]
  rfl
theorem cors_fs {n : Nat} {t : Tm} (h : TOk n t) : Fs (corsOf n t) := fs_nq (fun a ha => by
  obtain ⟨l, _, rfl⟩ := List.mem_map.mp ha
  exact h.nq l) (by rw [cors_len]; have := (whole_facts h.n6).2.2.2; omega)
theorem cors_nq {n : Nat} {t : Tm} (h : TOk n t) {a : Rat} (ha : a ∈ corsOf n t) : Nq 2400 a := by
  obtain ⟨l, _, rfl⟩ := List.mem_map.mp ha
  exact h.nq l
theorem lots_pos {n : Nat} (hn : n ≤ 6) : 1 ≤ (lots n).length := by
  have : ∀ n : Fin 7, 1 ≤ (lots n.1).length := by decide +kernel
  exact this ⟨n, by omega⟩
abbrev nrS (K : PySem.W.Frag) : Sc := exS (Nq 2400) fun a => dS K (rD a)
theorem ixs_nq {K : PySem.W.Frag} {xs : List Rat} (h : ∀ a ∈ xs, Nq 2400 a) {G : Hp} {v : V} (q : (exS (fun d => d ∈ xs.map rD) fun d => dS K d).p G v) : (nrS K).p G v := by
  obtain ⟨d, hd, hv⟩ := q
  obtain ⟨a, ha, rfl⟩ := List.mem_map.mp hd
  exact ⟨a, h a ha, hv⟩
theorem held_len {n : Nat} {t : Tm} {a : Rat} (hn : n ≤ 6) : (held n t a).length ≤ 64 ∧ ∀ l ∈ held n t a, l.length ≤ 6 := sub_lots hn _
theorem blks_len {n : Nat} {t : Tm} {a : Rat} (hn : n ≤ 6) : (blks n t a).length ≤ 64 ∧ ∀ l ∈ blks n t a, l.length ≤ 6 := sub_lots hn _
theorem leastL_len {L : List (List Nat)} (h : L.length ≤ 64) : (leastL L).length ≤ 64 := Nat.le_trans (List.length_filter_le _ _) h
abbrev stR (K : PySem.W.Frag) (dc : Dc) (n : Nat) (t : Tm) (xs : List Rat) (s5 s7 s10 s11 s12 s13 s14 : Sl) : Rho := [.dat (diS dc), .dat (dS K (.int n)), .dat (dS K t.toD), .dat (ruleS K n t.toD), .dat (tlS K ((corsOf n t).map rD)), s5, .own 0, s7, .own 1, .dat (dS K (.list (xs.map rD))), s10, s11, s12, s13, s14, .no, .no]
section
variable {P : Program} {w : World} {K : PySem.W.Frag} {mg : Str → Option Value} {base : Heap}
theorem ok_Llots_right (T : Txt K mg) : Fnc P w K mg base CX0 18 "_law_lots_right" ["_law_dice_here"] (Pr (fun d : Dc => wDi d) (fun _ => True) (fun d => [diS d]) (fun _ => dS K (.bool true))) := by
  have FR := ok_Lrule_parts (P := P) (w := w) (base := base) T
  have FN := ok_Lnumber (P := P) (w := w) (base := base) T
  have FC := ok_Lcorner (P := P) (w := w) (base := base) T
  have FA := ok_Llots (P := P) (w := w) (base := base) T
  have FS := ok_Lsorted (P := P) (w := w) (base := base) T
  have FV := ok_levels (P := P) (w := w) (base := base) T
  have FH := ok_Lholds (P := P) (w := w) (base := base) T
  have FO := ok_Lothers (P := P) (w := w) (base := base) T
  have FL := ok_least_lots (P := P) (w := w) (base := base) T
  have FB := ok_least_blocks (P := P) (w := w) (base := base) T
  have FM := ok_Lleast (P := P) (w := w) (base := base) T
  refine fnc_mk (k := 17) T.f_Llots_right sc_Llots_right (fun _ _ _ _ _ _ us hl => match us, hl with | [_], _ => rfl) (fun _ _ => rfl) fun f cdv A outer s H Ex dc E hok hw hr => ?_
  obtain ⟨we, G0, H0, B⟩ := E
  simp only at hw
  subst hw
  have nd := sc_Llots_right.nd
  have hR : ∀ j, j ≤ 17 → Room j (A.deeper (envOfC "_law_lots_right" (defScope s_Llots_right) s.heap.objs.size f cdv)) := fun j hj => hr.mono hj
  have hu64 : (A.deeper (envOfC "_law_lots_right" (defScope s_Llots_right) s.heap.objs.size f cdv)).units + 64 < cLine := by have := hr.un; omega
  have hu65 : (A.deeper (envOfC "_law_lots_right" (defScope s_Llots_right) s.heap.objs.size f cdv)).units + 65 < cLine := by have := hr.un; omega
  refine xss_tgE (P := fun x : RT => TOk x.1 x.2) (f := fun x => dS K (.tuple [.int x.1, x.2.toD])) (gv := [1, 2]) (ρ' := fun x : RT => [.dat (diS dc), .dat (dS K (.int x.1)), .dat (dS K x.2.toD), .no, .no, .no, .no, .no, .no, .no, .no, .no, .no, .no, .no, .no, .no]) (pg_pair rfl nd rfl rfl (by first | exact .inl rfl | exact .inr rfl) (by first | exact .inl rfl | exact .inr rfl)) (xe_callW dc FR (hR 7 (by decide)) rfl pass0 True.intro rfl (xa_cons (xv 0 rfl) (xa_cons xe_int xa_nil))) (fun j hj => by simp at hj; rcases hj with rfl | rfl <;> exact Nat.le_of_ble_eq_true rfl) (fun x _ => gs_pair) fun x hx => ?_
  obtain ⟨n, t⟩ := x
  have hT : TOk n t := hx
  have hn1 := hT.n1
  have hn6 := hT.n6
  have hW := whole_facts hn6
  have hC := cors_fs hT
  refine xss_asg 3 nd (xe_make T (hR 16 (by decide)) rfl hT (xv 1 rfl) (xv 2 rfl)) ?_
  refine xss_setL 4 rfl (xlcN 5 (n := (lots n).length) (Y := fun k => lotD ((lots n).getD k [])) (fun _ => true) (fun k => rD (cor n t ((lots n).getD k []))) nd (xi_lots (xe_tl (xe_call n FA (hR 2 (by decide)) rfl pass0 ⟨hn1, hn6⟩ (xa_cons (xv 1 rfl) xa_nil)))) (by omega) (fun _ _ _ _ _ _ _ => xts_nil)
    (fun k hk _ _ _ _ _ _ => xe_call (n, t, (lots n).getD k []) FC (hR 11 (by decide)) rfl pass0 hT (xa_cons (xv 1 rfl) (xa_cons (xv 2 rfl) (xa_cons (xv 5 rfl) xa_nil)))) (blkOk_by (N := N_Llots_right) (sc := defScope s_Llots_right) (by decide +kernel)) (fun _ _ _ _ _ => pg_name nd rfl (by first | exact .inl rfl | exact .inr rfl))) rfl fun ds hds => ?_
  rw [cors_map] at hds
  subst hds
  refine xss_asgL 6 nd (xl_lst [] xa_nil) fun ds hds => ?_
  subst hds
  refine xss_for (ι := Unit) (gv := [7]) (fun i _ => True) (fun i _ => [.dat (diS dc), .dat (dS K (.int n)), .dat (dS K t.toD), .dat (ruleS K n t.toD), .dat (tlS K ((corsOf n t).map rD)), .no, .own 0, .no, .no, .no, .no, .no, .no, .no, .no, .no, .no]) (fun i _ => [(ddp ((asc (corsOf n t)).take i)).map rD])
    (fun i _ => [.dat (diS dc), .dat (dS K (.int n)), .dat (dS K t.toD), .dat (ruleS K n t.toD), .dat (tlS K ((corsOf n t).map rD)), .no, .own 0, .dat (dS K (rD ((asc (corsOf n t)).getD i 0))), .no, .no, .no, .no, .no, .no, .no, .no, .no]) .never rfl
    (xi_rats (xe_tl (xe_callL (corsOf n t) _ FS (hR 2 (by decide)) rfl pass0 hC (xa_cons (xe_tl (xv 4 rfl)) xa_nil) (fun _ h => h)))) (pg_name nd rfl (by first | exact .inl rfl | exact .inr rfl)) (fun i y _ k hk => by simp at hk; rw [hk]; exact Nat.le_of_ble_eq_true rfl) (fun n i y _ _ _ => gs_name) ⟨(), True.intro, rfl, rfl⟩ (fun m i y g0 hm hi _ => ?_)
    (Mid := Sta K ⟨wDi dc, G0, H0, B⟩ [.dat (diS dc), .dat (dS K (.int n)), .dat (dS K t.toD), .dat (ruleS K n t.toD), .dat (tlS K ((corsOf n t).map rD)), .no, .own 0, .no, .no, .no, .no, .no, .no, .no, .no, .no, .no] [(asc (ddp (corsOf n t))).map rD] []) (fun m y hm _ σ H h => by
      have e : m = (asc (corsOf n t)).length := hm
      subst e
      rw [List.take_length, levels_eq] at h
      exact h) ?_
  · subst hm
    have hlen : ((ddp ((asc (corsOf n t)).take i)).map rD).length < 100000 := by
      rw [List.length_map]
      have h1 := ddp_len ((asc (corsOf n t)).take i)
      rw [List.length_take] at h1
      have h2 := asc_length (corsOf n t)
      have h3 := cors_len n t
      omega
    refine xss_ifMF (Mid := fun σ H => ∃ y : Unit, True ∧ Sta K ⟨wDi dc, G0, H0, B⟩ [.dat (diS dc), .dat (dS K (.int n)), .dat (dS K t.toD), .dat (ruleS K n t.toD), .dat (tlS K ((corsOf n t).map rD)), .no, .own 0, .no, .no, .no, .no, .no, .no, .no, .no, .no, .no] [(ddp ((asc (corsOf n t)).take (i + 1))).map rD] [g0] σ H)
      (xt_is (y := !decide ((asc (corsOf n t)).getD i 0 ∈ ddp ((asc (corsOf n t)).take i))) (xt_c (xc_notInD hu65 (xv 7 rfl) (xe_tl (xv 6 rfl)) (sh_rD _) (sh_rats _))) (by rw [any_rats])) (fun h => ?_) (fun h => ?_) (xss_nil fun σ H q => q)
    · have h' : (asc (corsOf n t)).getD i 0 ∉ ddp ((asc (corsOf n t)).take i) := by
        intro z
        rw [decide_eq_true z] at h
        exact nomatch h
      refine xss_append1 (i := 6) (k := 0) (d := rD ((asc (corsOf n t)).getD i 0)) (pe_bm PySem.F.plainAttrs_list PySem.F.slot_list_append PySem.F.type_list_append mt_append (pv 6) (xa_cons (xv 7 rfl) xa_nil)) rfl rfl hlen (xss_nil fun σ H q => ⟨(), True.intro, ?_⟩)
      rw [ddp_take hi, if_neg h', List.map_append]
      exact sta_sub (.same (.same (.same (.same (.same (.same (.same (.no (.same (.same (.same (.same (.same (.same (.same (.same (.same .nil))))))))))))))))) q
    · have h' : (asc (corsOf n t)).getD i 0 ∈ ddp ((asc (corsOf n t)).take i) := by
        refine Classical.byContradiction fun z => ?_
        rw [decide_eq_false z] at h
        exact nomatch h
      refine xss_nil fun σ H q => ⟨(), True.intro, ?_⟩
      rw [ddp_take hi, if_pos h']
      exact sta_sub (.same (.same (.same (.same (.same (.same (.same (.no (.same (.same (.same (.same (.same (.same (.same (.same (.same .nil))))))))))))))))) q
  generalize hLv : (asc (ddp (corsOf n t))).map rD = lv
  have shv : SeqAt.shaped (.list lv) = true := by rw [← hLv]; exact sh_rats _
  have lvl : lv.length ≤ 64 := by
    rw [← hLv, List.length_map, asc_length]
    have h1 := ddp_len (corsOf n t)
    have h3 := cors_len n t
    omega
  refine xss_asgL 8 nd (xl_call (n, t) FV (hR 15 (by decide)) rfl pass0 hT (xa_cons (xv 3 rfl) xa_nil)) fun ds hds => ?_
  have hds2 : ds = lv := hds.trans hLv
  subst hds2
  refine xss_skipF (xt_is (xt_w (xw_or (x := false) (y := false) (xt_not (x := true) (xt_val (xe_isi (r := true) rfl T.b_isinstance (xe_tyd (d := .list ds) (xe_tl (xv 8 rfl))) (xe_ty "list" rfl T.b_list bt_list) kb_list_list))) fun _ => xw_or1 (xt_is (xt_c (xc_ne hu64 (xe_tl (xv 8 rfl)) (xe_tl (xv 6 rfl)) shv shv)) (ne_self shv)))) rfl) ?_
  refine xss_append1 (i := 8) (k := 1) (d := .none) (pe_bm PySem.F.plainAttrs_list PySem.F.slot_list_append PySem.F.type_list_append mt_append (pv 8) (xa_cons xe_non xa_nil)) rfl rfl (by omega) ?_
  refine xss_asgE (P := fun z : Rat × Rat × Rat => Nq 2400 z.1 ∧ Nq 2400 z.2.1 ∧ Nq 2400 z.2.2) (f := fun z => dS K (.list ([z.1, z.2.1, z.2.2].map rD))) 9 nd (xe_weak (xe_lsS (xa_cons (xe_weak (s' := nrS K) (xe_ixLE (N := (lots n).length) (ds := (corsOf n t).map rD) (by rw [List.length_map, cors_len]) (xe_tl (xv 4 rfl)) (xe_draw T (hR 1 (by decide)) rfl (n := (lots n).length) (lots_pos hn6) (by omega) (xv 0 rfl) (xe_d (xe_lenL rfl T.b_len (xe_tl (xv 4 rfl))) (by rw [List.length_map, cors_len]))) (fun _ _ => rfl)) fun G v q => ixs_nq (fun a ha => cors_nq hT ha) q)
    (xa_cons (xe_callW dc FN (hR 2 (by decide)) rfl pass0 True.intro rfl (xa_cons (xv 0 rfl) xa_nil)) (xa_cons (xe_weak (s' := nrS K) (xe_ixLE (N := 2) (ds := ([0, 1] : List Rat).map rD) rfl (xe_tl (xe_xl1 (xl_lst [rD 0, rD 1] (xa_cons (xe_tup [.int 0, .int 1] (xa_cons xe_int (xa_cons xe_int xa_nil))) (xa_cons (xe_tup [.int 1, .int 1] (xa_cons xe_int (xa_cons xe_int xa_nil))) xa_nil))))) (xe_draw T (hR 1 (by decide)) rfl (n := 2) (by decide) (by decide) (xv 0 rfl) xe_int) (fun _ _ => rfl)) fun G v q => ixs_nq (fun a ha => ?z01) q) xa_nil))) (Nat.le_of_ble_eq_true rfl)) fun G v q => ?nums) fun z hz => ?_
  case z01 =>
    simp only [List.mem_cons, List.not_mem_nil, or_false] at ha
    rcases ha with rfl | rfl
    · exact nq0.mono (by decide)
    · exact nq1.mono (by decide)
  case nums =>
    obtain ⟨a, vs, rfl, h1, h2⟩ := q
    cases h2 with
    | cons q1 h2 =>
      obtain ⟨v2, v3, rfl, ⟨r2, hr2, q2⟩, r3, hr3, q3⟩ := alls2 h2
      obtain ⟨r1, hr1, q1⟩ := q1
      exact ⟨(r1, r2, r3), ⟨hr1, hr2.mono (by decide), hr3⟩, .lst h1 (.cons q1 (.cons q2 (.cons q3 .nil)))⟩
  obtain ⟨z1, z2, z3⟩ := z
  obtain ⟨hz1, hz2, hz3⟩ := hz
  simp only at hz1 hz2 hz3
  generalize hxs : [z1, z2, z3] = xs
  have hxn : ∀ a ∈ xs, Nq 2400 a := fun a ha => by
    rw [← hxs] at ha
    simp only [List.mem_cons, List.not_mem_nil, or_false] at ha
    rcases ha with rfl | rfl | rfl <;> assumption
  refine xss_for (ι := Unit) (gv := [7]) (fun i _ => True) (fun i _ => stR K dc n t xs .no .no .no .no .no .no .no) (fun i _ => [ds, ds ++ [PyData.none]])
    (fun i _ => stR K dc n t xs .no (.dat (dS K (rD (xs.getD i 0)))) .no .no .no .no .no) .never rfl
    (xi_rats (xv 9 rfl)) (pg_name nd rfl (by first | exact .inl rfl | exact .inr rfl)) (fun i y _ k hk => by simp at hk; rw [hk]; exact Nat.le_of_ble_eq_true rfl) (fun n i y _ _ _ => gs_name) ⟨(), True.intro, rfl, rfl⟩ (fun m i y g0 hm hi _ => ?_)
    (Mid := Sta K ⟨wDi dc, G0, H0, B⟩ (stR K dc n t xs .no .no .no .no .no .no .no) [ds, ds ++ [PyData.none]] []) (fun m y hm _ σ H h => h) (xss_ret xe_bl)
  subst hm
  have ha : Nq 2400 (xs.getD i 0) := hxn _ (by rw [gd _ hi]; exact List.getElem_mem hi)
  generalize xs.getD i 0 = a at ha ⊢
  have hs : Sz 4000 a := ha.sz (Nat.le_refl _)
  have U := held_up (n := n) (a := a) hT.ok
  have UB := blks_up (n := n) (a := a) hn6 hT.ok
  refine xss_setL 10 rfl (xlcN 5 (n := (lots n).length) (Y := fun k => lotD ((lots n).getD k [])) (fun k => !decide (cor n t ((lots n).getD k []) < a)) (fun k => lotD ((lots n).getD k [])) nd (xi_lots (xe_tl (xe_call n FA (hR 2 (by decide)) rfl pass0 ⟨hn1, hn6⟩ (xa_cons (xv 1 rfl) xa_nil)))) (by omega)
    (fun k hk _ _ _ _ _ => xts_one (xt_val (xe_call (n, t, (lots n).getD k [], a) FH (hR 12 (by decide)) rfl pass0 ⟨hT, hs⟩ (xa_cons (xv 1 rfl) (xa_cons (xv 2 rfl) (xa_cons (xv 5 rfl) (xa_cons (xv 7 rfl) xa_nil))))))) (fun k hk _ _ _ _ _ _ => xv 5 rfl) (blkOk_by (N := N_Llots_right) (sc := defScope s_Llots_right) (by decide +kernel)) (fun _ _ _ _ _ => pg_name nd rfl (by first | exact .inl rfl | exact .inr rfl))) rfl fun hd hhd => ?_
  have hd2 : hd = lotsD (held n t a) := hhd.trans (range_fm (fun l : List Nat => !decide (cor n t l < a)) lotD (lots n) [])
  subst hd2
  refine xss_setL 11 rfl (xlcN 5 (n := (lots n).length) (Y := fun k => lotD ((lots n).getD k [])) (fun k => !(!decide (cor n t (oth n ((lots n).getD k [])) < a))) (fun k => lotD ((lots n).getD k [])) nd (xi_lots (xe_tl (xe_call n FA (hR 2 (by decide)) rfl pass0 ⟨hn1, hn6⟩ (xa_cons (xv 1 rfl) xa_nil)))) (by omega)
    (fun k hk _ _ _ _ _ => xts_one (xt_not (xt_val (xe_call (n, t, oth n ((lots n).getD k []), a) FH (hR 12 (by decide)) rfl pass0 ⟨hT, hs⟩ (xa_cons (xv 1 rfl) (xa_cons (xv 2 rfl) (xa_cons (xe_call (n, (lots n).getD k []) FO (hR 1 (by decide)) rfl pass0 hn6 (xa_cons (xv 1 rfl) (xa_cons (xv 5 rfl) xa_nil))) (xa_cons (xv 7 rfl) xa_nil)))))))) (fun k hk _ _ _ _ _ _ => xv 5 rfl) (blkOk_by (N := N_Llots_right) (sc := defScope s_Llots_right) (by decide +kernel)) (fun _ _ _ _ _ => pg_name nd rfl (by first | exact .inl rfl | exact .inr rfl))) rfl fun bd hbd => ?_
  have bd2 : bd = lotsD (blks n t a) := by
    rw [← blk_eq hn6]
    exact hbd.trans (range_fm (fun l : List Nat => !(!decide (cor n t (oth n l) < a))) lotD (lots n) [])
  subst bd2
  refine xss_asgL 12 nd (xl_call (n, t, a) FL (hR 16 (by decide)) rfl pass0 ⟨hT, ha⟩ (xa_cons (xv 3 rfl) (xa_cons (xv 7 rfl) xa_nil))) fun od hod => ?_
  have od2 : od = lotsD (leastL (held n t a)) := hod
  subst od2
  refine xss_asg 13 nd (xe_callL (n, t, a) _ FB (hR 17 (by decide)) rfl pass0 ⟨hT, ha⟩ (xa_cons (xv 3 rfl) (xa_cons (xv 7 rfl) xa_nil)) (fun _ h => h)) ?_
  refine xss_skipF (xt_is (xt_w (xw_or (x := false) (y := false) (xt_not (x := true) (xt_val (xe_isi (r := true) rfl T.b_isinstance (xe_tyd (d := .list (lotsD (leastL (held n t a)))) (xe_tl (xv 12 rfl))) (xe_ty "list" rfl T.b_list bt_list) kb_list_list))) fun _ => xw_or (x := false) (y := false) (xt_is (xt_c (xc_ne hu64 (xe_tl (xv 12 rfl)) (xe_tl (xe_callL (held n t a) _ FM (hR 1 (by decide)) rfl pass0 (held_len hn6) (xa_cons (xe_tl (xv 10 rfl)) xa_nil) (fun _ h => h))) (sh_lots _) (sh_lots _))) (by rw [leastL_eq hn6 U]; exact ne_self (sh_lots _))) fun _ =>
    xw_or1 (xt_is (xt_c (xc_ne hu64 (xe_tl (xv 13 rfl)) (xe_tl (xe_callL (blks n t a) _ FM (hR 1 (by decide)) rfl pass0 (blks_len hn6) (xa_cons (xe_tl (xv 11 rfl)) xa_nil) (fun _ h => h))) (sh_lots _) (sh_lots _))) (by rw [leastL_eq hn6 UB]; exact ne_self (sh_lots _))))) rfl) ?_
  generalize hO : leastL (blks n t a) = ob
  have hlo := leastL_len (held_len (t := t) (a := a) hn6).1
  refine xss_for (ι := Unit) (gv := [5]) (fun i _ => True) (fun i _ => stR K dc n t xs .no (.dat (dS K (rD a))) (.dat (tlS K (lotsD (held n t a)))) (.dat (tlS K (lotsD (blks n t a)))) (.own 2) (.dat (tlS K (lotsD ob))) .no) (fun i _ => [ds, ds ++ [PyData.none], lotsD (leastL (held n t a))])
    (fun i _ => stR K dc n t xs (.dat (dS K (lotD ((lots n).getD i [])))) (.dat (dS K (rD a))) (.dat (tlS K (lotsD (held n t a)))) (.dat (tlS K (lotsD (blks n t a)))) (.own 2) (.dat (tlS K (lotsD ob))) .no) .never rfl
    (xi_lots (xe_tl (xe_call n FA (hR 2 (by decide)) rfl pass0 ⟨hn1, hn6⟩ (xa_cons (xv 1 rfl) xa_nil)))) (pg_name nd rfl (by first | exact .inl rfl | exact .inr rfl)) (fun i y _ k hk => by simp at hk; rw [hk]; exact Nat.le_of_ble_eq_true rfl) (fun n i y _ _ _ => gs_name) ⟨(), True.intro, rfl, rfl⟩ (fun m j y g1 hm hj _ => ?_)
    (Mid := Sta K ⟨wDi dc, G0, H0, B⟩ (stR K dc n t xs .no (.dat (dS K (rD a))) (.dat (tlS K (lotsD (held n t a)))) (.dat (tlS K (lotsD (blks n t a)))) (.own 2) (.dat (tlS K (lotsD ob))) .no) [ds, ds ++ [PyData.none], lotsD (leastL (held n t a))] [g0]) (fun m y hm _ σ H h => h) ?_
  · subst hm
    have hl : (lots n).getD j [] ∈ lots n := mem_gd hj
    generalize (lots n).getD j [] = l at hl ⊢
    refine xss_asgFB (b := meets (leastL (held n t a)) l) 14 nd (xe_c (xc_eqI (xe_d (xe_lenL rfl T.b_len (xe_tl (xe_xl1 (xl_lcx rfl (xlcN 15 (n := (leastL (held n t a)).length) (Y := fun k => lotD ((leastL (held n t a)).getD k [])) (fun k => decide (((((leastL (held n t a)).getD k []).filter fun q => decide (q ∈ l)).length : Int) = 0)) (fun k => lotD ((leastL (held n t a)).getD k [])) nd (xi_lots (xe_tl (xv 12 rfl))) (by omega)
      (fun k hk s2 H2 C2 cl2 fp2 => xts_one (xt_c (xc_eqI (xe_d (xe_lenL rfl T.b_len (xe_tl (xe_xl1 (xl_lcx rfl (xlcN 16 (n := ((leastL (held n t a)).getD k []).length) (Y := fun i => .int (((leastL (held n t a)).getD k []).getD i 0 : Nat)) (fun i => decide (((leastL (held n t a)).getD k []).getD i 0 ∈ l)) (fun i => .int (((leastL (held n t a)).getD k []).getD i 0 : Nat)) nd (xi_lot (xv 15 rfl)) ?szq
        (fun i hi _ _ _ _ _ => xts_one (xt_c (xc_inP (xv 16 rfl) (xv 5 rfl)))) (fun i hi _ _ _ _ _ _ => xv 16 rfl) ?blk (fun _ _ _ _ _ => pg_name nd rfl (by first | exact .inl rfl | exact .inr rfl))))))) ?cnt) xe_int)))
      (fun k hk _ _ _ _ _ _ => xv 15 rfl) (blkOk_by (N := N_Llots_right) (sc := defScope s_Llots_right) (by decide +kernel)) (fun _ _ _ _ _ => pg_name nd rfl (by first | exact .inl rfl | exact .inr rfl))))))) ?cnt2) xe_int)) ?_
    case blk => exact blkOk_by (by rfl)
    case szq =>
      have q : ((leastL (held n t a)).getD k []).length ≤ 6 := (held_len (t := t) (a := a) hn6).2 _ (List.mem_filter.mp (mem_gd hk)).1
      omega
    case cnt =>
      refine congrArg PyData.int ?_
      rw [List.length_map, filter_len (fun q : Nat => decide (q ∈ l)) ((leastL (held n t a)).getD k []) 0]
    case cnt2 =>
      refine congrArg PyData.int ?_
      rw [List.length_map, filter_len (fun m : List Nat => decide (((m.filter fun q => decide (q ∈ l)).length : Int) = 0)) (leastL (held n t a)) []]
    refine xss_skipF (xt_is (xt_c (xc_ne hu64 (d := .bool (meets (leastL (held n t a)) l)) (d' := .bool (decide (l ∈ blks n t a))) (xv 14 rfl) (xe_d (xe_c (xc_inD hu65 (xv 5 rfl) (xe_tl (xv 11 rfl)) (sh_lotD _) (sh_lots _))) (congrArg PyData.bool (any_lots _ _))) rfl rfl)) (by rw [bool_eqv, meets_blks hn6 hT.ok hl, beq_self_eq_true]; rfl)) (xss_nil fun σ H q => ⟨(), True.intro, ?_⟩)
    exact sta_sub (.same (.same (.same (.same (.same (.no (.same (.same (.same (.same (.same (.same (.same (.same (.no (.same (.same .nil))))))))))))))))) q
  refine xss_append1 (i := 12) (k := 2) (d := .none) (pe_bm PySem.F.plainAttrs_list PySem.F.slot_list_append PySem.F.type_list_append mt_append (pv 12) (xa_cons xe_non xa_nil)) rfl rfl (by rw [lotsD_length]; omega) ?_
  refine xss_skipF (xt_is (xt_w (xw_or (x := false) (y := false) (xt_is (xt_c (xc_ne hu64 (xe_tl (xe_callL (n, t, a) (lotsD (leastL (held n t a))) FL (hR 16 (by decide)) rfl pass0 ⟨hT, ha⟩ (xa_cons (xv 3 rfl) (xa_cons (xv 7 rfl) xa_nil)) (fun _ h => h))) (xe_tl (xe_callL (held n t a) _ FM (hR 1 (by decide)) rfl pass0 (held_len hn6) (xa_cons (xe_tl (xv 10 rfl)) xa_nil) (fun _ h => h))) (sh_lots _) (sh_lots _))) (by rw [leastL_eq hn6 U]; exact ne_self (sh_lots _))) fun _ =>
    xw_or1 (xt_is (xt_c (xc_ne hu64 (xe_tl (xe_callL (n, t) ds FV (hR 15 (by decide)) rfl pass0 hT (xa_cons (xv 3 rfl) xa_nil) (fun us h => h.trans hLv))) (xe_tl (xv 6 rfl)) shv shv)) (ne_self shv)))) rfl) (xss_nil fun σ H q => ⟨(), True.intro, ?_⟩)
  exact sta_sub (.same (.same (.same (.same (.same (.same (.same (.no (.same (.same (.no (.no (.no (.no (.no (.same (.same .nil))))))))))))))))) (sta_frz (os := [ds, ds ++ [PyData.none]]) q)
end
end K81
end

section
set_option Elab.async false
set_option linter.all false
set_option maxRecDepth 100000
namespace K81
open PySem PySem.Spec PyProof.Rows L2
/-! ### the people are right -/
section
variable {K : PySem.W.Frag} {X : Cx} {sts : List Stmt} {D : Ends} {E : En} {w : Wd} {ρ : Rho} {os : List (List PyData)} {gs : List Hp} {e : Expr} {pos : Pos} {α : Type} {P : α → Prop} {f : α → Sc} {σ : L2.St} {H : Hp}
theorem sta_pick (i : Nat) (hρ : ρ[i]? = some (.dat (exS P f))) (h : Sta K E ρ os gs σ H) : ∃ y, P y ∧ Sta K E (ρ.set i (.dat (f y))) os gs σ H := by
  obtain ⟨G, as, S⟩ := h
  obtain ⟨v, h1, y, hy, hv⟩ := S.env.get i _ hρ
  have hi : i < ρ.length := (List.getElem?_eq_some_iff.mp hρ).1
  refine ⟨y, hy, G, as, S.aft, ⟨by rw [List.length_set]; exact S.env.len, fun j t q => ?_⟩, fun j k q => ?_, S.gh, S.nd, S.len, S.own⟩
  · by_cases ej : i = j
    · subst ej
      rw [List.getElem?_set_self hi] at q
      cases q
      exact ⟨v, h1, hv⟩
    · rw [List.getElem?_set_ne ej] at q
      exact S.env.get j t q
  · by_cases ej : i = j
    · subst ej
      rw [List.getElem?_set_self hi] at q
      cases q
    · rw [List.getElem?_set_ne ej] at q
      exact S.envo j k q
theorem xss_pick (i : Nat) (hρ : ρ[i]? = some (.dat (exS P f))) (k : ∀ y, P y → XSs X sts (Sta X.K E (ρ.set i (.dat (f y))) os gs) D) : XSs X sts (Sta X.K E ρ os gs) D :=
  xss_pre (xss_ex fun y => xss_and fun hy => k y hy) fun σ H h => sta_pick i hρ h
theorem xe_emptyD : XE X w (.Dict [] [] pos) ρ (tyS X.K "dict") :=
  xe_of pe_dnewK fun σ G H hE hB p hp => ⟨upd G p (.dK []), .new1 hB hp, .base (.dK upd_same)⟩
end
def badS (K : PySem.W.Frag) : Sc := exS (fun x : Th => x.ok ∧ x.nu = false) fun x => x.sc K
section
variable {X : Cx} {w : Wd} {ρ : Rho} {e : Expr}
theorem xe_badO (T : String) (h : XE X w e ρ (tyS X.K T)) (hk : kitB T "tuple" = some false := by decide +kernel) : XE X w e ρ (badS X.K) := xe_weak h fun _ _ q => ⟨.oth T, ⟨hk, rfl⟩, q⟩
theorem xe_badT (ds : List PyData) (h : XE X w e ρ (dS X.K (.tuple ds))) (h1 : ∀ d ∈ ds, IB d) (h2 : ds.length ≤ 1000) (h3 : nuB ds = false) : XE X w e ρ (badS X.K) := xe_weak h fun _ _ q => ⟨.tup ds, ⟨⟨h1, h2⟩, h3⟩, q⟩
end
theorem ib2 {a b : Int} : ∀ d ∈ [PyData.int a, PyData.int b], IB d := fun d hd => by
  simp only [List.mem_cons, List.not_mem_nil, or_false] at hd
  rcases hd with rfl | rfl
  · exact .inl ⟨_, rfl⟩
  · exact .inl ⟨_, rfl⟩
theorem ibt : ∀ d ∈ [PyData.bool true, PyData.int 1], IB d := fun d hd => by
  simp only [List.mem_cons, List.not_mem_nil, or_false] at hd
  rcases hd with rfl | rfl
  · exact .inr ⟨_, rfl⟩
  · exact .inl ⟨_, rfl⟩
theorem ib3 : ∀ d ∈ [PyData.int 1, PyData.int 2, PyData.int 3], IB d := fun d hd => by
  simp only [List.mem_cons, List.not_mem_nil, or_false] at hd
  rcases hd with rfl | rfl | rfl
  · exact .inl ⟨_, rfl⟩
  · exact .inl ⟨_, rfl⟩
  · exact .inl ⟨_, rfl⟩
def vetD (L : List (List Nat)) (i : Nat) : List PyData := ((List.range i).filter (isVet L)).map fun p : Nat => PyData.int p
def cntD (L : List (List Nat)) (i : Nat) : List PyData := (List.range i).map fun p => PyData.int (lswg L p : Nat)
theorem vetD_succ (L : List (List Nat)) (i : Nat) : vetD L (i + 1) = vetD L i ++ if isVet L i then [PyData.int i] else [] := by
  unfold vetD
  rw [List.range_succ, List.filter_append, List.map_append, List.filter_cons, List.filter_nil]
  congr 1
  split <;> rfl
theorem cntD_succ (L : List (List Nat)) (i : Nat) : cntD L (i + 1) = cntD L i ++ [PyData.int (lswg L i : Nat)] := by
  unfold cntD
  rw [List.range_succ, List.map_append]
  rfl
theorem vetD_len (L : List (List Nat)) (i : Nat) : (vetD L i).length ≤ i := by
  unfold vetD
  rw [List.length_map]
  have := List.length_filter_le (isVet L) (List.range i)
  rwa [List.length_range] at this
theorem vetD_eq (n : Nat) (L : List (List Nat)) : PyData.tuple (vetD L n) = lotD (vets n L) := by rw [vets_eq]; rfl
theorem cntD_eq {n : Nat} {L : List (List Nat)} (hn : n ≤ 6) (S : SubN n L) : PyData.tuple (cntD L n) = lotD ((List.range n).map (swg n L)) := by
  unfold cntD lotD
  rw [List.map_map]
  refine congrArg PyData.tuple (List.map_congr_left fun p hp => ?_)
  rw [lswg_eq hn S (List.mem_range.mp hp)]
  rfl
theorem sh_alo (n : Nat) (L : List (List Nat)) : SeqAt.shaped (aloD n L) = true := by
  unfold aloD
  split
  · exact sh_of (int_sh _) (by omega)
  · rfl
theorem with_len {L : List (List Nat)} {p : Nat} (h : L.length ≤ 64) : (withP L p).length ≤ 64 := Nat.le_trans (List.length_filter_le _ _) h
abbrev stP (K : PySem.W.Frag) (dc : Dc) (j n : Nat) (t : Tm) (s8 s9 s11 s12 s13 s14 s15 s16 : Sl) : Rho := [.dat (diS dc), .dat (dS K (.int j)), .dat (dS K (.int n)), .dat (dS K t.toD), .dat (ruleS K n t.toD), .dat (tlS K (lotsD (lots n))), .dat (tlS K ((corsOf n t).map rD)), .no, s8, s9, .no, s11, s12, s13, s14, s15, s16, .no, .no]
section
variable {P : Program} {w : World} {K : PySem.W.Frag} {mg : Str → Option Value} {base : Heap}
theorem ok_Lpeople_right (T : Txt K mg) : Fnc P w K mg base CX0 17 "_law_people_right" ["_law_dice_here"] (Pr (fun d : Dc => wDi d) (fun _ => True) (fun d => [diS d]) (fun _ => dS K (.bool true))) := by
  have FR := ok_Ldrawn_rule (P := P) (w := w) (base := base) T
  have FN := ok_Lnumber (P := P) (w := w) (base := base) T
  have FC := ok_Lcorner (P := P) (w := w) (base := base) T
  have FA := ok_Llots (P := P) (w := w) (base := base) T
  have FS := ok_Lless (P := P) (w := w) (base := base) T
  have FV := ok_vetoes (P := P) (w := w) (base := base) T
  have FW := ok_swings (P := P) (w := w) (base := base) T
  have FO := ok_alone (P := P) (w := w) (base := base) T
  have FX := ok_Lrefused (P := P) (w := w) (base := base) T
  refine fnc_mk (k := 16) T.f_Lpeople_right sc_Lpeople_right (fun _ _ _ _ _ _ us hl => match us, hl with | [_], _ => rfl) (fun _ _ => rfl) fun f cdv A outer s H Ex dc E hok hw hr => ?_
  obtain ⟨we, G0, H0, B⟩ := E
  simp only at hw
  subst hw
  have nd := sc_Lpeople_right.nd
  have hR : ∀ j, j ≤ 16 → Room j (A.deeper (envOfC "_law_people_right" (defScope s_Lpeople_right) s.heap.objs.size f cdv)) := fun j hj => hr.mono hj
  have hu64 : (A.deeper (envOfC "_law_people_right" (defScope s_Lpeople_right) s.heap.objs.size f cdv)).units + 64 < cLine := by have := hr.un; omega
  have hu65 : (A.deeper (envOfC "_law_people_right" (defScope s_Lpeople_right) s.heap.objs.size f cdv)).units + 65 < cLine := by have := hr.un; omega
  refine xss_for (ι := Unit) (gv := [1]) (fun i _ => True) (fun i _ => [.dat (diS dc), .no, .no, .no, .no, .no, .no, .no, .no, .no, .no, .no, .no, .no, .no, .no, .no, .no, .no]) (fun i _ => [])
    (fun i _ => [.dat (diS dc), .dat (dS K (.int i)), .no, .no, .no, .no, .no, .no, .no, .no, .no, .no, .no, .no, .no, .no, .no, .no, .no]) .never rfl
    (xi_range1 (n := 2) rfl T.b_range xe_int (by decide)) (pg_name nd rfl (by first | exact .inl rfl | exact .inr rfl)) (fun i y _ k hk => by simp at hk; rw [hk]; exact Nat.le_of_ble_eq_true rfl) (fun n i y _ _ _ => gs_name) ⟨(), True.intro, rfl, rfl⟩ (fun m0 j y g0 _ _ _ => ?_)
    (Mid := Sta K ⟨wDi dc, G0, H0, B⟩ [.dat (diS dc), .no, .no, .no, .no, .no, .no, .no, .no, .no, .no, .no, .no, .no, .no, .no, .no, .no, .no] [] []) (fun m y hm _ σ H h => h) (xss_ret xe_bl)
  refine xss_tgE (P := fun x : RT => TOk x.1 x.2) (f := fun x => dS K (.tuple [.int x.1, x.2.toD])) (gv := [2, 3]) (ρ' := fun x : RT => [.dat (diS dc), .dat (dS K (.int j)), .dat (dS K (.int x.1)), .dat (dS K x.2.toD), .no, .no, .no, .no, .no, .no, .no, .no, .no, .no, .no, .no, .no, .no, .no]) (pg_pair rfl nd rfl rfl (by first | exact .inl rfl | exact .inr rfl) (by first | exact .inl rfl | exact .inr rfl)) (xe_callW dc FR (hR 8 (by decide)) rfl pass0 True.intro rfl (xa_cons (xv 0 rfl) xa_nil)) (fun j hj => by simp at hj; rcases hj with rfl | rfl <;> exact Nat.le_of_ble_eq_true rfl) (fun x _ => gs_pair) fun x hx => ?_
  obtain ⟨n, t⟩ := x
  have hT : TOk n t := hx
  have hn1 := hT.n1
  have hn6 := hT.n6
  have hW := whole_facts hn6
  refine xss_asg 4 nd (xe_make T (hR 16 (by decide)) rfl hT (xv 2 rfl) (xv 3 rfl)) ?_
  refine xss_asg 5 nd (xe_call n FA (hR 2 (by decide)) rfl pass0 ⟨hn1, hn6⟩ (xa_cons (xv 2 rfl) xa_nil)) ?_
  refine xss_asg 6 nd (xe_is (xe_xl1 (xl_lcx rfl (xlcN 7 (n := (lots n).length) (Y := fun k => lotD ((lots n).getD k [])) (fun _ => true) (fun k => rD (cor n t ((lots n).getD k []))) nd (xi_lots (xe_tl (xv 5 rfl))) (by omega) (fun _ _ _ _ _ _ _ => xts_nil)
    (fun k hk _ _ _ _ _ _ => xe_call (n, t, (lots n).getD k []) FC (hR 11 (by decide)) rfl pass0 hT (xa_cons (xv 2 rfl) (xa_cons (xv 3 rfl) (xa_cons (xv 7 rfl) xa_nil)))) (blkOk_by (N := N_Lpeople_right) (sc := defScope s_Lpeople_right) (by decide +kernel)) (fun _ _ _ _ _ => pg_name nd rfl (by first | exact .inl rfl | exact .inr rfl))))) (congrArg (tlS K) (cors_map n t))) ?_
  refine xss_for (ι := Unit) (PN := fun m => m = 3) (Y := fun _ => nrS K) (gv := [8]) (fun i _ => True) (fun i _ => stP K dc j n t .no .no .no .no .no .no .no .no) (fun i _ => [])
    (fun i _ => stP K dc j n t (.dat (nrS K)) .no .no .no .no .no .no .no) .never rfl
    (xi_weak (xi_list (ss := [nrS K, nqS K, dS K (rD 1)]) (xe_lsS (xa_cons (xe_weak (s' := nrS K) (xe_ixLE (N := (lots n).length) (ds := (corsOf n t).map rD) (by rw [List.length_map, cors_len]) (xe_tl (xv 6 rfl)) (xe_draw T (hR 1 (by decide)) rfl (n := (lots n).length) (lots_pos hn6) (by omega) (xv 0 rfl) (xe_d (xe_lenL rfl T.b_len (xe_tl (xv 6 rfl))) (by rw [List.length_map, cors_len]))) (fun _ _ => rfl)) fun G v q => ixs_nq (fun a ha => cors_nq hT ha) q)
      (xa_cons (xe_callW dc FN (hR 2 (by decide)) rfl pass0 True.intro rfl (xa_cons (xv 0 rfl) xa_nil)) (xa_cons (xe_tup [.int 1, .int 1] (xa_cons xe_int (xa_cons xe_int xa_nil))) xa_nil))) (Nat.le_of_ble_eq_true rfl))) fun m i G v hm hi q => ?nums)
    (pg_name nd rfl (by first | exact .inl rfl | exact .inr rfl)) (fun i y _ k hk => by simp at hk; rw [hk]; exact Nat.le_of_ble_eq_true rfl) (fun n i y _ _ _ => gs_name) ⟨(), True.intro, rfl, rfl⟩ (fun m i y g1 hm hi _ => ?_)
    (Mid := Sta K ⟨wDi dc, G0, H0, B⟩ (stP K dc j n t .no .no .no .no .no .no .no .no) [] [g0]) (fun m y hm _ σ H h => h) ?_
  case nums =>
    have hm' : m = 3 := hm
    subst hm'
    match i, hi with
    | 0, _ => exact q
    | 1, _ =>
      obtain ⟨a, ha, q⟩ := q
      exact ⟨a, ha.mono (by decide), q⟩
    | 2, _ => exact ⟨1, nq1.mono (by decide), q⟩
  · refine xss_pick 8 rfl fun a ha => ?_
    have hs : Sz 4000 a := ha.sz (Nat.le_refl _)
    have S := held_sub (n := n) (t := t) (a := a) hn6
    have hL := (held_len (n := n) (t := t) (a := a) hn6)
    refine xss_asg 9 nd (xe_is (xe_xl1 (xl_lcx rfl (xlcN 10 (n := (lots n).length) (Y := fun k => .int k) (fun k => !decide (cor n t ((lots n).getD k []) < a)) (fun k => lotD ((lots n).getD k [])) nd (xi_range1 rfl T.b_range (xe_d (xe_lenL rfl T.b_len (xe_tl (xv 5 rfl))) (by rw [lotsD_length])) (by omega)) (by omega)
      (fun k hk _ _ _ _ _ => xts_one (xt_not (xt_val (xe_call (cor n t ((lots n).getD k []), a) FS (hR 1 (by decide)) rfl pass0 ⟨hT.sz _, hs⟩ (xa_cons (xe_ixL (xe_tl (xv 6 rfl)) (xv 10 rfl) (fun _ _ => rfl) (atI_of rfl ?cork)) (xa_cons (xv 8 rfl) xa_nil))))))
      (fun k hk _ _ _ _ _ _ => xe_ixL (xe_tl (xv 5 rfl)) (xv 10 rfl) (fun _ _ => rfl) (atI_of rfl ?lotk)) (blkOk_by (N := N_Lpeople_right) (sc := defScope s_Lpeople_right) (by decide +kernel)) (fun _ _ _ _ _ => pg_name nd rfl (by first | exact .inl rfl | exact .inr rfl))))) (congrArg (tlS K) (range_fm (fun l : List Nat => !decide (cor n t l < a)) lotD (lots n) []))) ?_
    case cork =>
      unfold corsOf
      rw [List.map_map, List.getElem?_map, gd _ hk, List.getElem?_eq_getElem hk]
      rfl
    case lotk =>
      unfold lotsD
      rw [List.getElem?_map, gd _ hk, List.getElem?_eq_getElem hk]
      rfl
    refine xss_pre (Pre := Sta K ⟨wDi dc, G0, H0, B⟩ (stP K dc j n t (.dat (dS K (rD a))) (.dat (tlS K (lotsD (held n t a)))) .no .no .no .no .no .no) [] [g1, g0]) ?_ fun σ H q => q
    generalize hLe : held n t a = L at S hL ⊢
    refine xss_asgL 11 nd (xl_lst [] xa_nil) fun e1 he1 => ?_
    subst he1
    refine xss_asgL 12 nd (xl_lst [] xa_nil) fun e2 he2 => ?_
    subst he2
    refine xss_asg 13 nd xe_non ?_
    refine xss_for (ι := Unit) (gv := [14]) (fun i _ => True) (fun i _ => stP K dc j n t (.dat (dS K (rD a))) (.dat (tlS K (lotsD L))) (.own 0) (.own 1) (.dat (dS K (lastAlo n L i))) .no .no .no) (fun i _ => [vetD L i, cntD L i])
      (fun i _ => stP K dc j n t (.dat (dS K (rD a))) (.dat (tlS K (lotsD L))) (.own 0) (.own 1) (.dat (dS K (lastAlo n L i))) (.dat (dS K (.int i))) .no .no) .never rfl
      (xi_range1 rfl T.b_range (xv 2 rfl) (by omega)) (pg_name nd rfl (by first | exact .inl rfl | exact .inr rfl)) (fun i y _ k hk => by simp at hk; rw [hk]; exact Nat.le_of_ble_eq_true rfl) (fun n i y _ _ _ => gs_name) ⟨(), True.intro, rfl, rfl⟩ (fun m p y g2 hm hp _ => ?_)
      (Mid := Sta K ⟨wDi dc, G0, H0, B⟩ (stP K dc j n t (.dat (dS K (rD a))) (.dat (tlS K (lotsD L))) (.own 0) (.own 1) (.dat (dS K (lastAlo n L n))) .no .no .no) [vetD L n, cntD L n] [g1, g0]) (fun m y hm _ σ H h => by
        have e : m = n := hm
        subst e
        exact h) ?_
    · have e : m = n := hm
      subst e
      refine xss_setL 15 rfl (xlcN 7 (n := L.length) (Y := fun k => lotD (L.getD k [])) (fun k => decide (p ∈ L.getD k [])) (fun k => lotD (L.getD k [])) nd (xi_lots (xe_tl (xv 9 rfl))) (by omega)
        (fun k hk _ _ _ _ _ => xts_one (xt_c (xc_inP (xv 14 rfl) (xv 7 rfl)))) (fun k hk _ _ _ _ _ _ => xv 7 rfl) (blkOk_by (N := N_Lpeople_right) (sc := defScope s_Lpeople_right) (by decide +kernel)) (fun _ _ _ _ _ => pg_name nd rfl (by first | exact .inl rfl | exact .inr rfl))) rfl fun wd hwd => ?_
      have wd2 : wd = lotsD (withP L p) := hwd.trans (range_fm (fun l : List Nat => decide (p ∈ l)) lotD L [])
      subst wd2
      have hwl := with_len (p := p) hL.1
      refine xss_ifM (Mid := Sta K ⟨wDi dc, G0, H0, B⟩ (stP K dc j m t (.dat (dS K (rD a))) (.dat (tlS K (lotsD L))) (.own 0) (.own 1) (.dat (dS K (lastAlo m L p))) (.dat (dS K (.int p))) (.dat (tlS K (lotsD (withP L p)))) .no) [vetD L (p + 1), cntD L p] [g2, g1, g0])
        (xt_c (xc_eqI (xe_d (xe_lenL rfl T.b_len (xe_tl (xv 15 rfl))) (congrArg PyData.int (by rw [lotsD_length]))) (xe_d (xe_lenL rfl T.b_len (xe_tl (xv 9 rfl))) (congrArg PyData.int (by rw [lotsD_length]))))) (fun h => ?_) (fun h => ?_) ?_
      · have h' : isVet L p = true := h.symm
        refine xss_append1 (i := 11) (k := 0) (d := .int p) (pe_bm PySem.F.plainAttrs_list PySem.F.slot_list_append PySem.F.type_list_append mt_append (pv 11) (xa_cons (xv 14 rfl) xa_nil)) rfl rfl (by have := vetD_len L p; omega) (xss_nil fun σ H q => ?_)
        rw [vetD_succ, h']
        exact q
      · have h' : isVet L p = false := h.symm
        refine xss_nil fun σ H q => ?_
        rw [vetD_succ, h']
        simp only [Bool.false_eq_true, if_false, List.append_nil]
        exact q
      refine xss_setL 16 rfl (xlcN 7 (n := (withP L p).length) (Y := fun k => lotD ((withP L p).getD k [])) (fun k => !decide (wo ((withP L p).getD k []) p ∈ L)) (fun k => lotD ((withP L p).getD k [])) nd (xi_lots (xe_tl (xv 15 rfl))) (by omega)
        (fun k hk s2 H2 C2 cl2 fp2 => xts_one (xt_is (xt_c (xc_notInD (d := lotD (wo ((withP L p).getD k []) p)) hu65 (xe_is (xe_tupleOf rfl T.b_tuple (xe_tl (xe_xl1 (xl_lcx rfl (xlcN 17 (n := ((withP L p).getD k []).length) (Y := fun i => .int (((withP L p).getD k []).getD i 0 : Nat)) (fun i => !decide (((withP L p).getD k []).getD i 0 = p)) (fun i => .int (((withP L p).getD k []).getD i 0 : Nat)) nd (xi_lot (xv 7 rfl)) ?szq
          (fun i hi _ _ _ _ _ => xts_one (xt_is (xt_c (xc_neI (xv 17 rfl) (xv 14 rfl))) (by rw [decide_eq_decide.mpr Int.ofNat_inj]))) (fun i hi _ _ _ _ _ _ => xv 17 rfl) ?blk (fun _ _ _ _ _ => pg_name nd rfl (by first | exact .inl rfl | exact .inr rfl))))))) ?wod) (xe_tl (xv 9 rfl)) (sh_lotD _) (sh_lots _))) (by rw [any_lots])))
        (fun k hk _ _ _ _ _ _ => xv 7 rfl) (blkOk_by (N := N_Lpeople_right) (sc := defScope s_Lpeople_right) (by decide +kernel)) (fun _ _ _ _ _ => pg_name nd rfl (by first | exact .inl rfl | exact .inr rfl))) rfl fun sd hsd => ?_
      case blk => exact blkOk_by (by rfl)
      case szq =>
        have q : ((withP L p).getD k []).length ≤ 6 := hL.2 _ (List.mem_filter.mp (mem_gd hk)).1
        omega
      case wod =>
        refine congrArg (fun l => dS K (.tuple l)) ?_
        exact range_fmG (fun q : Nat => !decide (q = p)) (fun q : Nat => PyData.int q) ((withP L p).getD k []) 0
      have sd2 : sd = lotsD ((withP L p).filter fun l => !decide (wo l p ∈ L)) := hsd.trans (range_fm (fun l : List Nat => !decide (wo l p ∈ L)) lotD (withP L p) [])
      subst sd2
      refine xss_append1 (i := 12) (k := 1) (d := .int (lswg L p : Nat)) (pe_bm PySem.F.plainAttrs_list PySem.F.slot_list_append PySem.F.type_list_append mt_append (pv 12) (xa_cons (xe_d (xe_lenL rfl T.b_len (xe_tl (xv 16 rfl))) (congrArg PyData.int (by rw [lotsD_length]; rfl))) xa_nil)) rfl rfl (by unfold cntD; rw [List.length_map, List.length_range]; omega) ?_
      refine xss_ifM (Mid := fun σ H => ∃ y : Unit, True ∧ Sta K ⟨wDi dc, G0, H0, B⟩ (stP K dc j m t (.dat (dS K (rD a))) (.dat (tlS K (lotsD L))) (.own 0) (.own 1) (.dat (dS K (lastAlo m L (p + 1)))) .no .no .no) [vetD L (p + 1), cntD L (p + 1)] [g2, g1, g0] σ H)
        (xt_is (y := isAlo m L p) (xt_w (xw_and (xt_c (xc_eqI (xe_d (xe_lenL rfl T.b_len (xe_tl (xv 15 rfl))) (congrArg PyData.int (by rw [lotsD_length]))) (xe_d (xe_lenL rfl T.b_len (xe_tl (xv 9 rfl))) (congrArg PyData.int (by rw [lotsD_length]))))) fun _ => xw_and1 (xt_c (xc_eqI (xe_mul (xe_int (k := 2)) (xe_d (xe_lenL rfl T.b_len (xe_tl (xv 9 rfl))) (congrArg PyData.int (by rw [lotsD_length]))) (.inl ⟨by decide, by decide⟩)) (xe_d (xe_lenL rfl T.b_len (xe_tl (xv 5 rfl))) (congrArg PyData.int (by rw [lotsD_length]))))))) rfl) (fun h => ?_) (fun h => ?_) (xss_nil fun σ H q => q)
      · refine xss_asg 13 nd (xv 14 rfl) (xss_nil fun σ H q => ⟨(), True.intro, ?_⟩)
        rw [lastAlo_succ, cntD_succ, ← h]
        exact sta_sub (.same (.same (.same (.same (.same (.same (.same (.same (.same (.same (.same (.same (.same (.same (.no (.no (.no (.same (.same .nil))))))))))))))))))) q
      · refine xss_nil fun σ H q => ⟨(), True.intro, ?_⟩
        rw [lastAlo_succ, cntD_succ, ← h]
        exact sta_sub (.same (.same (.same (.same (.same (.same (.same (.same (.same (.same (.same (.same (.same (.same (.no (.no (.no (.same (.same .nil))))))))))))))))))) q
    subst hLe
    refine xss_skipF (xt_is (xt_w (xw_or (x := false) (y := false) (xt_is (xt_c (xc_ne hu64 (xe_call (n, t, a) FV (hR 16 (by decide)) rfl pass0 ⟨hT, ha⟩ (xa_cons (xv 4 rfl) (xa_cons (xv 8 rfl) xa_nil))) (xe_d (xe_tupleOf rfl T.b_tuple (xe_tl (xv 11 rfl))) (vetD_eq n _)) (sh_lotD _) (sh_lotD _))) (ne_self (sh_lotD _))) fun _ =>
      xw_or (x := false) (y := false) (xt_is (xt_c (xc_ne hu64 (xe_call (n, t, a) FW (hR 16 (by decide)) rfl pass0 ⟨hT, ha⟩ (xa_cons (xv 4 rfl) (xa_cons (xv 8 rfl) xa_nil))) (xe_d (xe_tupleOf rfl T.b_tuple (xe_tl (xv 12 rfl))) (cntD_eq hn6 S)) (sh_lotD _) (sh_lotD _))) (ne_self (sh_lotD _))) fun _ =>
      xw_or1 (xt_is (xt_c (xc_ne hu64 (xe_call (n, t, a) FO (hR 16 (by decide)) rfl pass0 ⟨hT, ha⟩ (xa_cons (xv 4 rfl) (xa_cons (xv 8 rfl) xa_nil))) (xe_d (xv 13 rfl) (lastAlo_eq hn6 S)) (sh_alo _ _) (sh_alo _ _))) (ne_self (sh_alo _ _))))) rfl) (xss_nil fun σ H q => ⟨(), True.intro, ?_⟩)
    exact sta_sub (.same (.same (.same (.same (.same (.same (.same (.same (.no (.no (.same (.no (.no (.no (.same (.same (.same (.same (.same .nil))))))))))))))))))) (sta_frz (os := []) (sta_frz (os := [vetD (held n t a) n]) q))
  refine xss_asgE (P := fun x : Th => x.ok ∧ x.nu = false) (f := fun x => x.sc K) 18 nd (xe_ixLS (s := badS K) (N := 12) (ss := List.replicate 12 (badS K)) rfl (xe_lsS (xa_cons (xe_badO "NoneType" (xe_tyd xe_non)) (xa_cons (xe_badO "int" (xe_tyd (xe_int (k := 1)))) (xa_cons (xe_badO "bool" (xe_tyd (xe_bl (k := true)))) (xa_cons (xe_badT [.int 1, .int 0] (xe_tup _ (xa_cons xe_int (xa_cons xe_int xa_nil))) ib2 (Nat.le_of_ble_eq_true rfl) (by decide +kernel)) (xa_cons (xe_badT [.int 2, .int 4] (xe_tup _ (xa_cons xe_int (xa_cons xe_int xa_nil))) ib2 (Nat.le_of_ble_eq_true rfl) (by decide +kernel))
    (xa_cons (xe_badT [.int 3, .int 2] (xe_tup _ (xa_cons xe_int (xa_cons xe_int xa_nil))) ib2 (Nat.le_of_ble_eq_true rfl) (by decide +kernel)) (xa_cons (xe_badT [.int (-1), .int 2] (xe_tup _ (xa_cons (xe_neg xe_int) (xa_cons xe_int xa_nil))) ib2 (Nat.le_of_ble_eq_true rfl) (by decide +kernel)) (xa_cons (xe_badT [.bool true, .int 1] (xe_tup _ (xa_cons xe_bl (xa_cons xe_int xa_nil))) ibt (Nat.le_of_ble_eq_true rfl) rfl)
    (xa_cons (xe_badO "list" (xe_tyd (d := .list [.int 1, .int 2]) (xe_tl (xe_xl1 (xl_lst _ (xa_cons xe_int (xa_cons xe_int xa_nil))))))) (xa_cons (xe_badO "str" (xe_tyd (xe_str (k := "1/2")))) (xa_cons (xe_badT [.int 1, .int 2, .int 3] (xe_tup _ (xa_cons xe_int (xa_cons xe_int (xa_cons xe_int xa_nil)))) ib3 (Nat.le_of_ble_eq_true rfl) rfl) (xa_cons (xe_badO "dict" xe_emptyD) xa_nil)))))))))))) (Nat.le_of_ble_eq_true rfl))
    (xe_draw T (hR 1 (by decide)) rfl (n := 12) (by decide) (by decide) (xv 0 rfl) xe_int) (fun _ _ => rfl) fun sc hsc G v q => (List.eq_of_mem_replicate hsc) ▸ q) fun x hx => ?_
  refine xss_ifR (xt_is (y := false) (xt_not (xt_val (x := true) (xe_callG FX (hR 7 (by decide)) rfl pass0 (xa_cons (xe_draw T (hR 1 (by decide)) rfl (n := 5) (by decide) (by decide) (xv 0 rfl) xe_int) (xa_cons (xv 4 rfl) (xa_cons (xv 18 rfl) xa_nil))) fun G H vs hB hv => ?_))) rfl) (fun h => nomatch h) fun _ => xss_nil fun σ H q => ⟨(), True.intro, sta_sub (.same (.no (.no (.no (.no (.no (.no (.no (.no (.no (.no (.no (.no (.no (.no (.no (.no (.no (.no .nil))))))))))))))))))) q⟩
  cases hv with
  | cons q1 hv =>
    obtain ⟨v2, v3, rfl, q2, q3⟩ := alls2 hv
    obtain ⟨k, hk, q1⟩ := q1
    exact ⟨(k, n, t, x), ⟨hk, hx⟩, hB.pure, .cons q1 (.cons q2 (.cons q3 .nil)), fun Q q => nx_pure hB q⟩
end
end K81
end

section
set_option Elab.async false
set_option linter.all false
set_option maxRecDepth 100000
namespace K81
open PySem PySem.Spec PyProof.Rows L2
/-! ### the law -/
def PrS {α : Type} (w' : α → Wd) (ok : α → Prop) (pre : α → List Sc) (R : α → En → VK) : Sp := fun vs H Q _ => ∃ x G, ok x ∧ ∃ B : Bef (w' x) G H, Alls G vs (pre x) ∧ ∀ v H', R x ⟨w' x, G, H, B⟩ v H' → Q v H'
section
variable {P : Program} {w : World} {K : PySem.W.Frag} {mg : Str → Option Value} {base : Heap} {n : Str} {st : Stmt} {N ps : List Str} {k : Nat} {α : Type} {w' : α → Wd} {ok : α → Prop} {pre : α → List Sc} {R : α → En → VK}
theorem fnok_mkS {f : Addr} {fd : FuncData} (F : FunD K n n (defArgs st) (defBody st) (defScope st) [] [] f fd) (S : FnScope N ps (defScope st)) (hl : ∀ x, ok x → (pre x).length = ps.length)
    (body : ∀ (f : Addr) (cdv : Value) (A : Around) (outer : List Env) (s : Shared) (H : Hp) (Ex : XK) (x : α) (E : En), ok x → E.w = w' x → Room k (A.deeper (envOfC n (defScope st) s.heap.objs.size f cdv)) →
      XSs (cx0 P w K mg base N n (defScope st) f cdv A outer s H Ex) (defBody st) (Sta K E (startR N (pre x)) [] []) { nx := fun _ _ => False, rt := R x E }) : FnOk P w K mg base CX0 (k + 1) f fd ps (PrS w' ok pre R) := by
  refine F.ok S (fun vs H Q E ⟨x, G, h1, h2, h3, h4⟩ => by rw [h3.len, hl x h1]) fun cdv A outer s H vs Q Ex hr ⟨x, G, h1, h2, h3, h4⟩ => ?_
  refine ⟨_, PSs.nox pss_x, _, start_sta (K := K) (E := ⟨w' x, G, H, h2⟩) h3, ?_⟩
  refine ⟨fun pins sh σ H2 I q => ?_⟩
  refine thn ((body f cdv A outer s H Ex x ⟨w' x, G, H, h2⟩ h1 rfl hr).run pins sh σ H2 I q) fun fl s1 r => ?_
  cases fl with
  | next => exact let ⟨σ', H', I', z⟩ := r; z.elim
  | ret v => exact let ⟨x', σ', H', I', rv, z⟩ := r; ⟨x', σ', H', I', rv, h4 _ H' z⟩
  | brk => exact let ⟨σ', H', I', z⟩ := r; z.elim
  | cont => exact let ⟨σ', H', I', z⟩ := r; z.elim
theorem fnc_mkS (D : DefAt K mg n st) (S : FnScope N ps (defScope st)) (hb : ∀ (kV doc pm : Value) (an : Option Addr) (cdv ct : Value) (us : List Value), us.length = ps.length → bindArgs (PySem.W.fnOf n n (defArgs st) (defBody st) (defScope st) .none kV doc pm an cdv ct) ⟨us, []⟩ = pure (ps.zip us))
    (hl : ∀ x, ok x → (pre x).length = ps.length)
    (body : ∀ (f : Addr) (cdv : Value) (A : Around) (outer : List Env) (s : Shared) (H : Hp) (Ex : XK) (x : α) (E : En), ok x → E.w = w' x → Room k (A.deeper (envOfC n (defScope st) s.heap.objs.size f cdv)) →
      XSs (cx0 P w K mg base N n (defScope st) f cdv A outer s H Ex) (defBody st) (Sta K E (startR N (pre x)) [] []) { nx := fun _ _ => False, rt := R x E }) : Fnc P w K mg base CX0 (k + 1) n ps (PrS w' ok pre R) := by
  obtain ⟨f, fd, F, hm⟩ := D
  exact ⟨f, fd, hm, F.kp, F.bindsN hb, fnok_mkS F S hl body⟩
end
def DiR (E : En) : VK := fun v H' => ∃ (d : Dc) (G' : Hp), v = .ref d.a ∧ Aft E.w E.G E.H G' H' ∧ G' d.a = none ∧ G' d.l = some (.lst (d.cs.map V.int)) ∧ atD d [0, 0, 1, 0] H'
section
variable {X : Cx} {E : En} {ρ : Rho} {os : List (List PyData)} {gs : List Hp} {es : List Expr} {p pos : Pos} {rest : List Stmt} {D : Ends} {cs : List Int}
theorem xss_retDice (ha : XA X E.w es ρ [tlS X.K (cs.map .int), dS X.K (.int 0), dS X.K (.int 0), dS X.K (.int 1), dS X.K (.int 0)]) (hD : ∀ v H', DiR E v H' → D.rt v H') : XSs X (.Return (some (.List es p)) pos :: rest) (Sta X.K E ρ os gs) D :=
  xss_st (ps_ret (pe_lst ha)) (Mid := fun _ _ => False) (fun σ H ⟨G, as, S⟩ => tA_then S.env S.bef fun vs G1 H1 A1 hv => by
    have hB := S.bef
    refine ⟨by have := hv.len; simp only [List.length_cons, List.length_nil] at this; rw [sizeLine_eq]; omega, fun q hq => hD _ _ ?_⟩
    cases hv with
    | cons h0 hv =>
      cases hv with
      | cons h1 hv =>
        cases hv with
        | cons h2 hv =>
          obtain ⟨v3, v4, rfl, h3, h4⟩ := alls2 hv
          obtain ⟨l, us, rfl, hl, hus⟩ := h0
          have e := dpInts hus
          subst e
          refine ⟨⟨q, l, cs⟩, G1, rfl, S.aft.trans E.B (A1.trans hB (.newH (hB.aft A1) hq)), (hB.aft A1).sub.free hq, hl, ?_⟩
          show upd H1 q _ q = _
          rw [upd_same, dpInt h1, dpInt h2, dpInt h3, dpInt h4]
          rfl) (xss_false fun _ _ z => z)
end
def absD : PyData → PyData
  | .int i => .int i.natAbs
  | d => d
theorem abs_map (ns : List Int) (k : Nat) : (((ns.map PyData.int).take k).filter fun _ => true).map absD = ((ns.take k).map fun i => (i.natAbs : Int)).map PyData.int := by
  rw [List.filter_eq_self.mpr fun _ _ => rfl, ← List.map_take, List.map_map, List.map_map]
  rfl
section
variable {P : Program} {w : World} {K : PySem.W.Frag} {mg : Str → Option Value} {base : Heap}
abbrev spDice (K : PySem.W.Frag) : Sp := PrS (fun _ => w0) (fun _ => True) (fun ns : List Int => [dS K (.list (ns.map .int))]) (fun _ => DiR)
theorem ok_Ldice (T : Txt K mg) : Fnc P w K mg base CX0 1 "_law_dice" ["_law_script"] (spDice K) := by
  refine fnc_mkS (k := 0) T.f_Ldice sc_Ldice (fun _ _ _ _ _ _ us hl => match us, hl with | [_], _ => rfl) (fun _ _ => rfl) fun f cdv A outer s H Ex ns E hok hw hr => ?_
  have nd := sc_Ldice.nd
  refine xss_retDice (cs := (ns.take 63).map fun i => (i.natAbs : Int)) (xa_cons (xe_is (xe_xl1 (xl_lcx rfl (xlcI 1 (ds := (ns.map PyData.int).take 63) (f := fun _ => true) (g := absD) nd (xi_listD (xe_tl (xe_xl1 (xl_to (k := 63) (xv 0 rfl) xe_int)))) (by rw [List.length_take]; omega) (fun d hd _ _ _ _ _ => xts_nil) (fun d hd _ _ _ _ _ _ => ?el)
    (blkOk_by (N := N_Ldice) (sc := defScope s_Ldice) (by decide +kernel)) (fun _ _ _ _ _ => pg_name nd rfl (by first | exact .inl rfl | exact .inr rfl))))) (congrArg (tlS K) (abs_map ns 63))) (xa_cons xe_int (xa_cons xe_int (xa_cons xe_int (xa_cons xe_int xa_nil))))) fun v H' h => h
  case el =>
    obtain ⟨i, _, rfl⟩ := List.mem_map.mp (List.mem_of_mem_take hd)
    exact xe_abs rfl T.b_abs (xe_intc rfl T.b_int (xv 1 rfl))
abbrev spLaw (K : PySem.W.Frag) : Sp := PrS (fun _ => w0) (fun _ => True) (fun ns : List Int => [dS K (.list (ns.map .int))]) (fun _ _ v _ => v = .bl true)
theorem okf_law (T : Txt K mg) {fa : Addr} {fd : FuncData} (F : FunD K "law" "law" (defArgs s_law) (defBody s_law) (defScope s_law) [] [] fa fd) : FnOk P w K mg base CX0 19 fa fd ["_law_script"] (spLaw K) := by
  have FD := ok_Ldice (P := P) (w := w) (base := base) T
  have FL := ok_Llots_right (P := P) (w := w) (base := base) T
  have FP := ok_Lpeople_right (P := P) (w := w) (base := base) T
  refine fnok_mkS (k := 18) F sc_law (fun _ _ => rfl) fun f cdv A outer s H Ex ns E hok hw hr => ?_
  obtain ⟨we, G0, H0, B⟩ := E
  simp only at hw
  subst hw
  have nd := sc_law.nd
  have hr1 : Room 1 (A.deeper (envOfC "law" (defScope s_law) s.heap.objs.size f cdv)) := hr.mono (by decide)
  have hr17 : Room 17 (A.deeper (envOfC "law" (defScope s_law) s.heap.objs.size f cdv)) := hr.mono (by decide)
  refine xss_st (ps_set (i := 1) nd rfl (.inl rfl) (pe_fn (E := E0) FD hr1 rfl pass0 (xa_cons (w := w0) (ρ := startR N_law [dS K (.list (ns.map .int))]) (xv 0 rfl) xa_nil)) rfl (.inl rfl)) (Mid := fun σ H2 => ∃ (d : Dc) (E : En), E.w = wDi d ∧ Sta K E [.no, .dat (diS d)] [] [] σ H2) (fun σ H2 ⟨G, as, S⟩ => ?_) (xss_ex fun d => xss_ex fun E => xss_and fun hE => ?_)
  · refine tA_then S.env S.bef fun vs G1 H1 A1 hv => ?_
    rw [List.append_nil]
    refine ⟨ns, G1, True.intro, (S.bef.aft A1), hv, fun v H3 ⟨d, G3, ev, A3, g1, g2, g3⟩ => ?_⟩
    subst ev
    have B3 : Bef (wDi d) G3 H3 := ⟨A3.sub, ⟨_, ⟨_, _, _, _, rfl, by decide, by decide, by decide⟩, g3⟩, fun b hb => by
      have e : b = d.a := hb
      rw [e]; exact g1⟩
    have hl : σ.length = 2 := S.env.len.symm
    refine ⟨d, ⟨wDi d, G3, H3, B3⟩, rfl, G3, [], .refl B3, ⟨by rw [List.length_set, hl]; rfl, fun i t q => ?_⟩, fun i k q => ?_, fun g hg => by simp at hg, .nil, rfl, fun k a ds h => by simp at h⟩
    · match i, q with
      | 1, q =>
        cases q
        exact ⟨.ref d.a, by rw [List.getElem?_set_self (by omega)], rfl, g2⟩
    · match i, q with
      | i + 2, q => simp at q
  · obtain ⟨we, G4, H4, B4⟩ := E
    simp only at hE
    subst hE
    refine xss_ret (xe_and (x := true) (y := true) (xe_callW d FL hr rfl pass0 True.intro rfl (xa_cons (xv 1 rfl) xa_nil)) fun _ => xe_one (xe_callW d FP hr17 rfl pass0 True.intro rfl (xa_cons (xv 1 rfl) xa_nil))) fun v H' ⟨G', A', h⟩ => dpBool h
end
end K81
end

section
set_option Elab.async false
set_option linter.all false
set_option maxRecDepth 100000
set_option maxHeartbeats 8000000
namespace K81
open PySem PySem.Spec PyProof.Rows L2
/-! ### what the top has made -/
theorem defat {w : World} {K : PySem.W.Frag} {h : Heap} {mg : Str → Option Value} (X : K.In h) (G : h.Ns mainGlobals mg) (c : He.SaysX fa fn [] [] ex w h K) {n : Str} {st : Stmt} (i j : Nat) (hd : fn[i]? = some ⟨(n, none), n, n, defArgs st, defBody st, defScope st, [], []⟩) (hf : fa[j]? = some (.glo n)) : DefAt K mg n st := by
  obtain ⟨fd, F⟩ := c.t.d.def_ i hd
  exact ⟨_, fd, F, He.glo_ok X G (c.t.d.fact j hf)⟩
theorem txt_of {w : World} {K : PySem.W.Frag} {h : Heap} {mg : Str → Option Value} (X : K.In h) (G : h.Ns mainGlobals mg) (c : He.SaysX fa fn [] [] ex w h K) : Txt K mg where
  f_is_integer := defat X G c 0 0 rfl rfl
  f_divisor := defat X G c 1 1 rfl rfl
  f_made := defat X G c 2 2 rfl rfl
  f_plus := defat X G c 3 3 rfl rfl
  f_times := defat X G c 4 4 rfl rfl
  f_is_less := defat X G c 5 5 rfl rfl
  f_least_of := defat X G c 6 6 rfl rfl
  f_greatest_of := defat X G c 7 7 rfl rfl
  f_ascending := defat X G c 8 8 rfl rfl
  f_middle := defat X G c 9 9 rfl rfl
  f_is_fraction := defat X G c 10 10 rfl rfl
  f_is_within := defat X G c 11 11 rfl rfl
  f_is_number := defat X G c 12 12 rfl rfl
  f_check_number := defat X G c 13 13 rfl rfl
  f_mean_of := defat X G c 14 14 rfl rfl
  f_ranked_of := defat X G c 15 15 rfl rfl
  f_value_of := defat X G c 16 16 rfl rfl
  f_all_lots := defat X G c 17 17 rfl rfl
  f_ends_for := defat X G c 18 18 rfl rfl
  f_corner_of := defat X G c 19 19 rfl rfl
  f_corners_of := defat X G c 20 20 rfl rfl
  f_holding_lots := defat X G c 21 21 rfl rfl
  f_without := defat X G c 22 22 rfl rfl
  f_with_person := defat X G c 23 23 rfl rfl
  f_others_of := defat X G c 24 24 rfl rfl
  f_least_among := defat X G c 25 25 rfl rfl
  f_blocking_lots := defat X G c 26 26 rfl rfl
  f_least_lots := defat X G c 27 27 rfl rfl
  f_least_blocks := defat X G c 28 28 rfl rfl
  f_vetoes := defat X G c 29 29 rfl rfl
  f_swings := defat X G c 30 30 rfl rfl
  f_alone := defat X G c 31 31 rfl rfl
  f_levels := defat X G c 32 32 rfl rfl
  f_are_parts := defat X G c 33 33 rfl rfl
  f_is_weighted := defat X G c 34 34 rfl rfl
  f_is_bound := defat X G c 35 35 rfl rfl
  f_parts_told := defat X G c 36 36 rfl rfl
  f_is_leaf := defat X G c 37 37 rfl rfl
  f_terms_told := defat X G c 38 38 rfl rfl
  f_Ldice := defat X G c 39 39 rfl rfl
  f_Ldraw := defat X G c 40 40 rfl rfl
  f_Llowest := defat X G c 41 41 rfl rfl
  f_Lsum := defat X G c 42 42 rfl rfl
  f_Lproduct := defat X G c 43 43 rfl rfl
  f_Lless := defat X G c 44 44 rfl rfl
  f_Lsorted := defat X G c 45 45 rfl rfl
  f_Lnumber := defat X G c 46 46 rfl rfl
  f_Lterm := defat X G c 47 47 rfl rfl
  f_Lrule_parts := defat X G c 48 48 rfl rfl
  f_Lvalue := defat X G c 49 49 rfl rfl
  f_Llots := defat X G c 50 50 rfl rfl
  f_Lby_size := defat X G c 51 51 rfl rfl
  f_Lat_ends := defat X G c 52 52 rfl rfl
  f_Lcorner := defat X G c 53 53 rfl rfl
  f_Lholds := defat X G c 54 54 rfl rfl
  f_Lothers := defat X G c 55 55 rfl rfl
  f_Lleast := defat X G c 56 56 rfl rfl
  f_Lcall := defat X G c 57 57 rfl rfl
  f_Lrefused := defat X G c 58 58 rfl rfl
  f_Ldrawn_rule := defat X G c 59 59 rfl rfl
  f_Llots_right := defat X G c 60 60 rfl rfl
  f_Lpeople_right := defat X G c 61 61 rfl rfl
  f_law := defat X G c 62 62 rfl rfl
  b_isinstance := He.free_ok X G (c.t.d.fact 78 (f := .free "isinstance") rfl)
  b_abs := He.free_ok X G (c.t.d.fact 79 (f := .free "abs") rfl)
  b_all := He.free_ok X G (c.t.d.fact 80 (f := .free "all") rfl)
  b_any := He.free_ok X G (c.t.d.fact 81 (f := .free "any") rfl)
  b_tuple := He.free_ok X G (c.t.d.fact 82 (f := .free "tuple") rfl)
  b_int := He.free_ok X G (c.t.d.fact 83 (f := .free "int") rfl)
  b_bool := He.free_ok X G (c.t.d.fact 84 (f := .free "bool") rfl)
  b_str := He.free_ok X G (c.t.d.fact 85 (f := .free "str") rfl)
  b_list := He.free_ok X G (c.t.d.fact 86 (f := .free "list") rfl)
  b_len := He.free_ok X G (c.t.d.fact 87 (f := .free "len") rfl)
  b_range := He.free_ok X G (c.t.d.fact 88 (f := .free "range") rfl)
  b_enumerate := He.free_ok X G (c.t.d.fact 89 (f := .free "enumerate") rfl)
  b_zip := He.free_ok X G (c.t.d.fact 90 (f := .free "zip") rfl)
  b_sorted := He.free_ok X G (c.t.d.fact 91 (f := .free "sorted") rfl)
  b_sum := He.free_ok X G (c.t.d.fact 92 (f := .free "sum") rfl)
  i_MOST_PEOPLE := He.int_ok X G (c.t.d.fact 71 (f := .int "MOST_PEOPLE" 6) rfl)
  i_MOST_DEEP := He.int_ok X G (c.t.d.fact 72 (f := .int "MOST_DEEP" 8) rfl)
  i_MOST_TERMS := He.int_ok X G (c.t.d.fact 73 (f := .int "MOST_TERMS" 60) rfl)
  i_MOST_PARTS := He.int_ok X G (c.t.d.fact 74 (f := .int "MOST_PARTS" 8) rfl)
  i_MOST_WEIGHT := He.int_ok X G (c.t.d.fact 75 (f := .int "MOST_WEIGHT" 99) rfl)
  k_ZERO := ⟨He.ga K "ZERO", He.glo_ok X G (c.t.d.fact 76 (f := .glo "ZERO") rfl), fun H => He.tupB_ok (K := K) (x := "ZERO") (vs := [.int 0, .int 1]) (Bool.and_eq_true_iff.mp (show (He.tupB K "ZERO" [.int 0, .int 1] && He.tupB K "ONE" [.int 1, .int 1]) = true from c.more)).1 H⟩
  k_ONE := ⟨He.ga K "ONE", He.glo_ok X G (c.t.d.fact 77 (f := .glo "ONE") rfl), fun H => He.tupB_ok (K := K) (x := "ONE") (vs := [.int 1, .int 1]) (Bool.and_eq_true_iff.mp (show (He.tupB K "ZERO" [.int 0, .int 1] && He.tupB K "ONE" [.int 1, .int 1]) = true from c.more)).2 H⟩
  rule := by
    obtain ⟨fd, F⟩ := c.t.d.def_ 63 (d := ⟨("Rule", some "__init__"), "__init__", "Rule.__init__", defArgs s_Rinit, defBody s_Rinit, defScope s_Rinit, [], []⟩) rfl
    exact ⟨_, _, fd, He.glo_ok X G (c.t.d.fact 63 (f := .glo "Rule") rfl), He.mkr_ok (c.t.d.fact 66 (f := .mkr "Rule") rfl), He.cls_ok (c.t.d.fact 65 (f := .cls "Rule") rfl), He.noat_ok (c.t.d.fact 67 (f := .noat "Rule" "people") rfl), He.noat_ok (c.t.d.fact 68 (f := .noat "Rule" "term") rfl), F⟩
  exc := ⟨_, He.glo_ok X G (c.t.d.fact 64 (f := .glo "NoNumber") rfl), He.exc_ok (c.t.d.fact 69 (f := .exc "NoNumber") rfl), He.exm_ok (c.t.d.fact 70 (f := .exm "NoNumber" "NoNumber" true) rfl)⟩
theorem facts {P : Program} {w : World} {K : PySem.W.Frag} {h : Heap} {mg : Str → Option Value} {f : Addr} (X : K.In h) (G : h.Ns mainGlobals mg) (hfa : mg ("law" : Str) = some (.ref f)) (c : He.SaysX fa fn [] [] ex w h K) :
    ∃ fd : FuncData, (∀ (s : Shared) (v : Value), BindsTo s fd ⟨[v], []⟩ [("_law_script", v)]) ∧ ∀ base : Heap, K.In base → base.Ns mainGlobals mg → FnOk P w K mg base CX0 19 f fd ["_law_script"] (spLaw K) := by
  have T := txt_of X G c
  obtain ⟨f2, fd, F, hm⟩ := T.f_law
  have e := hfa.symm.trans hm
  cases e
  have b := FunD.bindsA (ps := ["_law_script"]) F fun _ _ _ _ _ _ us hl => match us, hl with | [_], _ => rfl
  exact ⟨fd, fun s v => b s [v] rfl, fun base _ _ => okf_law T F⟩
end K81
open PySem PySem.W PySem.Calls PyProof.Rows
theorem PySem.Challenge.cw_cornerbids_k81_whole_who_holds_numbers_holds : PySem.Challenge.rw_cornerbids_k81_whole_who_holds_numbers.Holds := by
  w_on; o_law
  refine HandSHeadRun.head_any (r := OpenLaw.row PySem.Challenge.rw_cornerbids_k81_whole_who_holds_numbers) (q := view (OpenLaw.row PySem.Challenge.rw_cornerbids_k81_whole_who_holds_numbers).prog [81]) (H := K81.hk) (ob := K81.ob) (M := 4000) (loose := K81.lo) (d := HandSHeadRun.topDef (OpenLaw.row PySem.Challenge.rw_cornerbids_k81_whole_who_holds_numbers).prog 81) (kwd := []) K81.ob_eq
    (by kernel_rfl) (fun s => by kernel_rfl) K81.run (by kernel_rfl) (by kernel_rfl) (by kernel_rfl) (by rfl) (by first | assumption | decide +kernel) (by decide +kernel) ⟨rfl, rfl, rfl, rfl, rfl, by decide +kernel⟩ ?hw ?hc
  case hw => w_witness2
  case hc =>
    refine L2.walk_ofE (l := PySem.Challenge.rw_cornerbids_k81_whole_who_holds_numbers) (n := 63) (k := 19) (x := "_law_script") (CX := L2.CX0) rfl (by decide) (by kernel_rfl) ⟨rfl, by decide, by decide⟩ ?F (fun _ _ _ _ z => z)
    intro w mg fa h Y G hmg0
    obtain ⟨K, KX, c⟩ := Y
    have hmg : mg ("law" : PySem.Str) = some (.ref fa) := by
      have e : (HandSHeadRun.topDef (OpenLaw.row PySem.Challenge.rw_cornerbids_k81_whole_who_holds_numbers).prog 81).name = ("law" : PySem.Str) := by kernel_rfl
      rw [← e]
      exact hmg0
    obtain ⟨fd, hb, hF⟩ := K81.facts (P := (PySem.Challenge.rw_cornerbids_k81_whole_who_holds_numbers).prog) (w := w) KX G hmg c
    exact ⟨K, fd, K81.spLaw K, KX, hb, fun H a ns hl _ hS => ⟨ns, H, True.intro, ⟨.refl H, True.intro, fun _ z => z.elim⟩, .cons (.lst hS (K81.intsDp ns)) .nil, fun v H' e => e⟩, hF⟩
end
